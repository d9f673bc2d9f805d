import PyProof.Rows.All
import Wide.All
import OpenK.AllK
import Wide.FinOn
import KE.KStateDown
import HandS.Base
import HandS.Call
import HandS.Ends
import HandS.More
import HandS.Words
import HandS.WordsExc
import HandS.Defaults
import HandS.Head0
import HandS.Head1
import HandS.Head2
import HandS.HeadEnd
import HandS.HeadHook1
import HandS.HeadHook2
import HandS.ExcIs
import HandS.List
import HandS.Comp
import HandS.Dict
import HandS.Iter
import HandS.Text
import HandS.Walk
import HandS.Evl
import HandS.Conv
import HandS.Exc
import HandS.TryOnly
import HandS.ExcOwn
import HandS.Sort
import HandS.SortInts
import HandS.SortKw
import HandS.IsInst
import HandS.Style
import HandS.DictComp
import HandS.DictTup
import HandS.Codes
import HandS.Small
import KE.KTupSum
import HandS.TupAny
import KE.KDictWalk
import KE.KDictDisplayH
import KE.KTurnsDict
import HandS.IterVal
import KE.KOwnIter
import PyProof.ExcBaseAll.ValueError
import PyProof.Rows.StrPins2
import PyProof.Rows.StrFirst
import PySem.Challenge.RW_barebough_k60_whole_counted_both_ways
set_option Elab.async false
set_option linter.all false
section
set_option maxRecDepth 100000
set_option maxHeartbeats 4000000
/-! Tx: the text by places, what the head tells. Printed by gen_tx.py. -/
namespace Bb
open PySem PySem.Spec PyProof.Rows L2
def top (i : Nat) : Stmt := PySem.Challenge.pw_barebough_k60_whole_counted_both_ways.main.body.getD i (.Pass ⟨0, 0, 0, 0⟩)
abbrev s_normal : Stmt := (top 7)
abbrev s_take : Stmt := (top 8)
abbrev s_take_largest : Stmt := (top 9)
abbrev s_take_smallest : Stmt := (top 10)
abbrev s_counted_bounds : Stmt := (top 12)
abbrev s_keeper_step : Stmt := (top 13)
abbrev s_raider_step : Stmt := (top 14)
abbrev s_step : Stmt := (top 15)
abbrev s_pull : Stmt := (top 16)
abbrev s_grown : Stmt := (top 18)
abbrev s_lists_under : Stmt := (top 19)
abbrev s_kl_init : Stmt := (inClass (top 20) 0)
abbrev s_kl_iter : Stmt := (inClass (top 20) 1)
abbrev s_kl_contains : Stmt := (inClass (top 20) 2)
abbrev s_kl_total : Stmt := (inClass (top 20) 3)
abbrev s_best_plucks : Stmt := (top 22)
abbrev s_play_layers : Stmt := (top 23)
abbrev s_order_counts : Stmt := (top 24)
abbrev s_count_orders : Stmt := (top 25)
abbrev s_raid_counts : Stmt := (top 26)
abbrev s_order_at : Stmt := (top 27)
abbrev s_index_of : Stmt := (top 28)
abbrev s_law_cell : Stmt := (top 30)
abbrev s_law_mixed : Stmt := (top 31)
abbrev s_law_draws : Stmt := (top 32)
abbrev s_law_like : Stmt := (top 33)
abbrev s_law_list : Stmt := (top 34)
abbrev s_law_lower : Stmt := (top 35)
abbrev s_law_best : Stmt := (top 36)
abbrev s_law_order : Stmt := (top 37)
abbrev s_law_all_lists : Stmt := (top 38)
abbrev s_law_survives : Stmt := (top 39)
abbrev s_law_kept_order : Stmt := (top 40)
abbrev s_law_words : Stmt := (top 41)
abbrev s_law_ways : Stmt := (top 42)
abbrev s_law_row : Stmt := (top 43)
abbrev s_law_tally : Stmt := (top 44)
abbrev s_law_ahead : Stmt := (top 45)
abbrev s_law_number : Stmt := (top 46)
abbrev s_law_paired : Stmt := (top 47)
abbrev s_law_counted : Stmt := (top 48)
abbrev s_law_both_ways : Stmt := (top 49)
abbrev s_law : Stmt := (top 50)
def kwAt (f : Str) (k : Str) (K : PySem.W.Frag) : Addr := match K.lookup (He.ga K f) with
  | some ⟨_, _, .func fd, _⟩ => (match fd.kwdefaults with
    | .ref D => (match PySem.W.nsIn K D k with
      | some (some (.ref a)) => a
      | _ => 0)
    | _ => 0)
  | _ => 0
def emptyTup (K : PySem.W.Frag) (a : Addr) : Bool := match K.lookup a with
  | some ⟨.type c, _, .seq its _, _⟩ => decide (c = "tuple") && its.isEmpty
  | _ => false
def d_normal : He.DefD := ⟨("normal", none), "normal", "normal", defArgs s_normal, defBody s_normal, defScope s_normal, [], []⟩
def d_take : He.DefD := ⟨("take", none), "take", "take", defArgs s_take, defBody s_take, defScope s_take, [], []⟩
def d_take_largest : He.DefD := ⟨("take_largest", none), "take_largest", "take_largest", defArgs s_take_largest, defBody s_take_largest, defScope s_take_largest, [], []⟩
def d_take_smallest : He.DefD := ⟨("take_smallest", none), "take_smallest", "take_smallest", defArgs s_take_smallest, defBody s_take_smallest, defScope s_take_smallest, [], []⟩
def d_counted_bounds : He.DefD := ⟨("counted_bounds", none), "counted_bounds", "counted_bounds", defArgs s_counted_bounds, defBody s_counted_bounds, defScope s_counted_bounds, [], []⟩
def d_keeper_step : He.DefD := ⟨("keeper_step", none), "keeper_step", "keeper_step", defArgs s_keeper_step, defBody s_keeper_step, defScope s_keeper_step, [], []⟩
def d_raider_step : He.DefD := ⟨("raider_step", none), "raider_step", "raider_step", defArgs s_raider_step, defBody s_raider_step, defScope s_raider_step, [], []⟩
def d_step : He.DefD := ⟨("step", none), "step", "step", defArgs s_step, defBody s_step, defScope s_step, [], []⟩
def d_pull : He.DefD := ⟨("pull", none), "pull", "pull", defArgs s_pull, defBody s_pull, defScope s_pull, [], [("goal", .adr (kwAt "pull" "goal"))]⟩
def d_grown : He.DefD := ⟨("grown", none), "grown", "grown", defArgs s_grown, defBody s_grown, defScope s_grown, [], []⟩
def d_lists_under : He.DefD := ⟨("lists_under", none), "lists_under", "lists_under", defArgs s_lists_under, defBody s_lists_under, defScope s_lists_under, [], []⟩
def d_kl_init : He.DefD := ⟨("KeptLists", some "__init__"), "__init__", "KeptLists.__init__", defArgs s_kl_init, defBody s_kl_init, defScope s_kl_init, [], []⟩
def d_kl_iter : He.DefD := ⟨("KeptLists", some "__iter__"), "__iter__", "KeptLists.__iter__", defArgs s_kl_iter, defBody s_kl_iter, defScope s_kl_iter, [], []⟩
def d_kl_contains : He.DefD := ⟨("KeptLists", some "__contains__"), "__contains__", "KeptLists.__contains__", defArgs s_kl_contains, defBody s_kl_contains, defScope s_kl_contains, [], []⟩
def d_kl_total : He.DefD := ⟨("KeptLists", some "total"), "total", "KeptLists.total", defArgs s_kl_total, defBody s_kl_total, defScope s_kl_total, [], []⟩
def d_best_plucks : He.DefD := ⟨("best_plucks", none), "best_plucks", "best_plucks", defArgs s_best_plucks, defBody s_best_plucks, defScope s_best_plucks, [], []⟩
def d_play_layers : He.DefD := ⟨("play_layers", none), "play_layers", "play_layers", defArgs s_play_layers, defBody s_play_layers, defScope s_play_layers, [], []⟩
def d_order_counts : He.DefD := ⟨("order_counts", none), "order_counts", "order_counts", defArgs s_order_counts, defBody s_order_counts, defScope s_order_counts, [], []⟩
def d_count_orders : He.DefD := ⟨("count_orders", none), "count_orders", "count_orders", defArgs s_count_orders, defBody s_count_orders, defScope s_count_orders, [], []⟩
def d_raid_counts : He.DefD := ⟨("raid_counts", none), "raid_counts", "raid_counts", defArgs s_raid_counts, defBody s_raid_counts, defScope s_raid_counts, [], []⟩
def d_order_at : He.DefD := ⟨("order_at", none), "order_at", "order_at", defArgs s_order_at, defBody s_order_at, defScope s_order_at, [], []⟩
def d_index_of : He.DefD := ⟨("index_of", none), "index_of", "index_of", defArgs s_index_of, defBody s_index_of, defScope s_index_of, [], []⟩
def d_law_cell : He.DefD := ⟨("_law_cell", none), "_law_cell", "_law_cell", defArgs s_law_cell, defBody s_law_cell, defScope s_law_cell, [], []⟩
def d_law_mixed : He.DefD := ⟨("_law_mixed", none), "_law_mixed", "_law_mixed", defArgs s_law_mixed, defBody s_law_mixed, defScope s_law_mixed, [], []⟩
def d_law_draws : He.DefD := ⟨("_law_draws", none), "_law_draws", "_law_draws", defArgs s_law_draws, defBody s_law_draws, defScope s_law_draws, [], []⟩
def d_law_like : He.DefD := ⟨("_law_like", none), "_law_like", "_law_like", defArgs s_law_like, defBody s_law_like, defScope s_law_like, [], []⟩
def d_law_list : He.DefD := ⟨("_law_list", none), "_law_list", "_law_list", defArgs s_law_list, defBody s_law_list, defScope s_law_list, [], []⟩
def d_law_lower : He.DefD := ⟨("_law_lower", none), "_law_lower", "_law_lower", defArgs s_law_lower, defBody s_law_lower, defScope s_law_lower, [], []⟩
def d_law_best : He.DefD := ⟨("_law_best", none), "_law_best", "_law_best", defArgs s_law_best, defBody s_law_best, defScope s_law_best, [], []⟩
def d_law_order : He.DefD := ⟨("_law_order", none), "_law_order", "_law_order", defArgs s_law_order, defBody s_law_order, defScope s_law_order, [], []⟩
def d_law_all_lists : He.DefD := ⟨("_law_all_lists", none), "_law_all_lists", "_law_all_lists", defArgs s_law_all_lists, defBody s_law_all_lists, defScope s_law_all_lists, [], []⟩
def d_law_survives : He.DefD := ⟨("_law_survives", none), "_law_survives", "_law_survives", defArgs s_law_survives, defBody s_law_survives, defScope s_law_survives, [], []⟩
def d_law_kept_order : He.DefD := ⟨("_law_kept_order", none), "_law_kept_order", "_law_kept_order", defArgs s_law_kept_order, defBody s_law_kept_order, defScope s_law_kept_order, [], []⟩
def d_law_words : He.DefD := ⟨("_law_words", none), "_law_words", "_law_words", defArgs s_law_words, defBody s_law_words, defScope s_law_words, [], []⟩
def d_law_ways : He.DefD := ⟨("_law_ways", none), "_law_ways", "_law_ways", defArgs s_law_ways, defBody s_law_ways, defScope s_law_ways, [], []⟩
def d_law_row : He.DefD := ⟨("_law_row", none), "_law_row", "_law_row", defArgs s_law_row, defBody s_law_row, defScope s_law_row, [], []⟩
def d_law_tally : He.DefD := ⟨("_law_tally", none), "_law_tally", "_law_tally", defArgs s_law_tally, defBody s_law_tally, defScope s_law_tally, [], []⟩
def d_law_ahead : He.DefD := ⟨("_law_ahead", none), "_law_ahead", "_law_ahead", defArgs s_law_ahead, defBody s_law_ahead, defScope s_law_ahead, [], []⟩
def d_law_number : He.DefD := ⟨("_law_number", none), "_law_number", "_law_number", defArgs s_law_number, defBody s_law_number, defScope s_law_number, [], []⟩
def d_law_paired : He.DefD := ⟨("_law_paired", none), "_law_paired", "_law_paired", defArgs s_law_paired, defBody s_law_paired, defScope s_law_paired, [], []⟩
def d_law_counted : He.DefD := ⟨("_law_counted", none), "_law_counted", "_law_counted", defArgs s_law_counted, defBody s_law_counted, defScope s_law_counted, [], []⟩
def d_law_both_ways : He.DefD := ⟨("_law_both_ways", none), "_law_both_ways", "_law_both_ways", defArgs s_law_both_ways, defBody s_law_both_ways, defScope s_law_both_ways, [], []⟩
def d_law : He.DefD := ⟨("law", none), "law", "law", defArgs s_law, defBody s_law, defScope s_law, [], []⟩
def fn : List He.DefD := [d_normal, d_take, d_take_largest, d_take_smallest, d_counted_bounds, d_keeper_step, d_raider_step, d_step, d_pull, d_grown, d_lists_under, d_kl_init, d_kl_iter, d_kl_contains, d_kl_total, d_best_plucks, d_play_layers, d_order_counts, d_count_orders, d_raid_counts, d_order_at, d_index_of, d_law_cell, d_law_mixed, d_law_draws, d_law_like, d_law_list, d_law_lower, d_law_best, d_law_order, d_law_all_lists, d_law_survives, d_law_kept_order, d_law_words, d_law_ways, d_law_row, d_law_tally, d_law_ahead, d_law_number, d_law_paired, d_law_counted, d_law_both_ways, d_law]
def fa : List He.Fa := [.glo "normal", .glo "take", .glo "take_largest", .glo "take_smallest", .glo "counted_bounds", .glo "keeper_step", .glo "raider_step", .glo "step", .glo "pull", .glo "grown", .glo "lists_under", .glo "best_plucks", .glo "play_layers", .glo "order_counts", .glo "count_orders", .glo "raid_counts", .glo "order_at", .glo "index_of", .glo "_law_cell", .glo "_law_mixed", .glo "_law_draws", .glo "_law_like", .glo "_law_list", .glo "_law_lower", .glo "_law_best", .glo "_law_order", .glo "_law_all_lists", .glo "_law_survives", .glo "_law_kept_order", .glo "_law_words", .glo "_law_ways", .glo "_law_row", .glo "_law_tally", .glo "_law_ahead", .glo "_law_number", .glo "_law_paired", .glo "_law_counted", .glo "_law_both_ways", .glo "law", .glo "KeptLists", .glo "BoughError", .glo "OutOfRange", .glo "WrongLength", .glo "NotKept", .free "len", .free "sorted", .free "list", .free "min", .free "sum", .free "tuple", .free "range", .free "reversed", .free "enumerate", .free "iter", .free "abs", .free "int", .free "isinstance", .free "str", .free "bool", .free "max", .free "ValueError", .cls "KeptLists", .mkr "KeptLists", .meth "KeptLists" "__iter__", .meth "KeptLists" "__contains__", .meth "KeptLists" "total", .noat "KeptLists" "_rows", .noat "KeptLists" "_known", .keep "NotKept", .exc "NotKept", .exm "NotKept" "BoughError" true, .noat "KeptLists" "__len__", .noat "KeptLists" "__length_hint__"]
def excB (K : PySem.W.Frag) (D : Addr) : Bool := He.eqO (PySem.W.findIn K (.ref D) "__getattribute__") (some (some (.builtin "BaseException.__getattribute__"))) && He.eqO (PySem.W.findIn K (.ref D) "__getattr__") (some none) && decide (PySem.W.subIn K (.ref D) (.type "BaseException") = some true) && PySem.W.hasDictIn K D &&
  He.eqO (PySem.W.findIn K (.ref D) "__class__") (some (some (.builtin "object.__class__"))) && He.eqO (PySem.W.specialIn K (.builtin "object.__class__") "__get__") (some (some (.builtin "getset_descriptor.__get__"))) && decide (PySem.W.takesIn K (.builtin "object.__class__") = some true) && decide (PySem.W.mroIn K D (.type "object") = some true)
def isB3 (K : PySem.W.Frag) : Bool := decide (PySem.W.kitOne K (.ref (He.ga K "NotKept")) (.ref (He.ga K "NotKept")) = some true) && decide (PySem.W.kitOne K (.ref (He.ga K "NotKept")) (.type "ValueError") = some true) &&
  decide (PySem.W.kitAny K (.ref (He.ga K "NotKept")) [.ref (He.ga K "OutOfRange"), .ref (He.ga K "WrongLength")] = some false)
def kit (K : PySem.W.Frag) : Bool := emptyTup K (kwAt "pull" "goal" K) && (excB K (He.ga K "NotKept") && isB3 K)
abbrev AlB : Type := He.AlD × Bool
def obB (g : Addr → Option Obj) : AlB := (He.obsD fa fn (He.frG g (He.asD g 5)), kit (He.frG g (He.asD g 5)))
def SaysB (K : PySem.W.Frag) : Prop := He.SaysD fa fn K ∧ kit K = true
def hk : PySem.W.Hook where
  α := AlB
  obs := fun s => obB s.heap.get?
  val := fun _ => (He.valD fn, true)
  says := fun _ h => ∃ K : PySem.W.Frag, K.In h ∧ SaysB K
  of := fun _ _ e => ⟨_, He.frG_in, congrArg (fun z : AlB => z.1) e, congrArg (fun z : AlB => z.2) e⟩
  keeps := fun _ _ _ ⟨K, hK, c⟩ k => ⟨K, PySem.W.Frag.In.keeps hK k, c⟩
abbrev R : PySem.W.OpenRow := PySem.W.OpenLaw.row PySem.Challenge.rw_barebough_k60_whole_counted_both_ways
def ob (s : PySem.W.SharedT) : AlB := obB (HandSHeadRun.getT s)
theorem ob_eq (s : PySem.W.SharedT) : ob s = hk.obs s.abs := by
  have e : HandSHeadRun.getT s = s.abs.heap.get? := funext (HandSHeadRun.getT_eq s)
  unfold ob
  rw [e] <;> rfl
def loose1 : List Str := ["_wall", "BoughError", "OutOfRange", "WrongLength", "NotKept", "normal", "take", "take_largest", "take_smallest", "counted_bounds", "keeper_step", "raider_step", "step", "pull", "grown", "lists_under", "KeptLists", "best_plucks", "play_layers", "order_counts", "count_orders", "raid_counts", "order_at", "index_of", "_law_cell"]
def loose2 : List Str := ["_law_mixed", "_law_draws", "_law_like", "_law_list", "_law_lower", "_law_best", "_law_order", "_law_all_lists", "_law_survives", "_law_kept_order", "_law_words", "_law_ways", "_law_row", "_law_tally", "_law_ahead", "_law_number", "_law_paired", "_law_counted", "_law_both_ways"]
abbrev loose : List Str := loose1 ++ loose2
/-- what the head tells, by names -/
structure Txt (K : PySem.W.Frag) (mg : Str → Option Value) : Prop where
  says : SaysB K
  glo : ∀ (i : Nat) (x : Str), fa[i]? = some (.glo x) → mg x = some (.ref (He.ga K x))
  free : ∀ (i : Nat) (x : Str), fa[i]? = some (.free x) → mg x = none
theorem Txt.mk' {K : PySem.W.Frag} {mg : Str → Option Value} {h : Heap} (X : K.In h) (G : h.Ns mainGlobals mg) (c : SaysB K) : Txt K mg :=
  ⟨c, fun i x e => He.glo_ok X G (c.1.fact i e), fun i x e => He.free_ok X G (c.1.fact i e)⟩
section
variable {K : PySem.W.Frag} {mg : Str → Option Value}
theorem Txt.g_normal (T : Txt K mg) : mg "normal" = some (.ref (He.ga K "normal")) := T.glo 0 "normal" rfl
theorem Txt.g_take (T : Txt K mg) : mg "take" = some (.ref (He.ga K "take")) := T.glo 1 "take" rfl
theorem Txt.g_take_largest (T : Txt K mg) : mg "take_largest" = some (.ref (He.ga K "take_largest")) := T.glo 2 "take_largest" rfl
theorem Txt.g_take_smallest (T : Txt K mg) : mg "take_smallest" = some (.ref (He.ga K "take_smallest")) := T.glo 3 "take_smallest" rfl
theorem Txt.g_counted_bounds (T : Txt K mg) : mg "counted_bounds" = some (.ref (He.ga K "counted_bounds")) := T.glo 4 "counted_bounds" rfl
theorem Txt.g_keeper_step (T : Txt K mg) : mg "keeper_step" = some (.ref (He.ga K "keeper_step")) := T.glo 5 "keeper_step" rfl
theorem Txt.g_raider_step (T : Txt K mg) : mg "raider_step" = some (.ref (He.ga K "raider_step")) := T.glo 6 "raider_step" rfl
theorem Txt.g_step (T : Txt K mg) : mg "step" = some (.ref (He.ga K "step")) := T.glo 7 "step" rfl
theorem Txt.g_pull (T : Txt K mg) : mg "pull" = some (.ref (He.ga K "pull")) := T.glo 8 "pull" rfl
theorem Txt.g_grown (T : Txt K mg) : mg "grown" = some (.ref (He.ga K "grown")) := T.glo 9 "grown" rfl
theorem Txt.g_lists_under (T : Txt K mg) : mg "lists_under" = some (.ref (He.ga K "lists_under")) := T.glo 10 "lists_under" rfl
theorem Txt.g_best_plucks (T : Txt K mg) : mg "best_plucks" = some (.ref (He.ga K "best_plucks")) := T.glo 11 "best_plucks" rfl
theorem Txt.g_play_layers (T : Txt K mg) : mg "play_layers" = some (.ref (He.ga K "play_layers")) := T.glo 12 "play_layers" rfl
theorem Txt.g_order_counts (T : Txt K mg) : mg "order_counts" = some (.ref (He.ga K "order_counts")) := T.glo 13 "order_counts" rfl
theorem Txt.g_count_orders (T : Txt K mg) : mg "count_orders" = some (.ref (He.ga K "count_orders")) := T.glo 14 "count_orders" rfl
theorem Txt.g_raid_counts (T : Txt K mg) : mg "raid_counts" = some (.ref (He.ga K "raid_counts")) := T.glo 15 "raid_counts" rfl
theorem Txt.g_order_at (T : Txt K mg) : mg "order_at" = some (.ref (He.ga K "order_at")) := T.glo 16 "order_at" rfl
theorem Txt.g_index_of (T : Txt K mg) : mg "index_of" = some (.ref (He.ga K "index_of")) := T.glo 17 "index_of" rfl
theorem Txt.g_law_cell (T : Txt K mg) : mg "_law_cell" = some (.ref (He.ga K "_law_cell")) := T.glo 18 "_law_cell" rfl
theorem Txt.g_law_mixed (T : Txt K mg) : mg "_law_mixed" = some (.ref (He.ga K "_law_mixed")) := T.glo 19 "_law_mixed" rfl
theorem Txt.g_law_draws (T : Txt K mg) : mg "_law_draws" = some (.ref (He.ga K "_law_draws")) := T.glo 20 "_law_draws" rfl
theorem Txt.g_law_like (T : Txt K mg) : mg "_law_like" = some (.ref (He.ga K "_law_like")) := T.glo 21 "_law_like" rfl
theorem Txt.g_law_list (T : Txt K mg) : mg "_law_list" = some (.ref (He.ga K "_law_list")) := T.glo 22 "_law_list" rfl
theorem Txt.g_law_lower (T : Txt K mg) : mg "_law_lower" = some (.ref (He.ga K "_law_lower")) := T.glo 23 "_law_lower" rfl
theorem Txt.g_law_best (T : Txt K mg) : mg "_law_best" = some (.ref (He.ga K "_law_best")) := T.glo 24 "_law_best" rfl
theorem Txt.g_law_order (T : Txt K mg) : mg "_law_order" = some (.ref (He.ga K "_law_order")) := T.glo 25 "_law_order" rfl
theorem Txt.g_law_all_lists (T : Txt K mg) : mg "_law_all_lists" = some (.ref (He.ga K "_law_all_lists")) := T.glo 26 "_law_all_lists" rfl
theorem Txt.g_law_survives (T : Txt K mg) : mg "_law_survives" = some (.ref (He.ga K "_law_survives")) := T.glo 27 "_law_survives" rfl
theorem Txt.g_law_kept_order (T : Txt K mg) : mg "_law_kept_order" = some (.ref (He.ga K "_law_kept_order")) := T.glo 28 "_law_kept_order" rfl
theorem Txt.g_law_words (T : Txt K mg) : mg "_law_words" = some (.ref (He.ga K "_law_words")) := T.glo 29 "_law_words" rfl
theorem Txt.g_law_ways (T : Txt K mg) : mg "_law_ways" = some (.ref (He.ga K "_law_ways")) := T.glo 30 "_law_ways" rfl
theorem Txt.g_law_row (T : Txt K mg) : mg "_law_row" = some (.ref (He.ga K "_law_row")) := T.glo 31 "_law_row" rfl
theorem Txt.g_law_tally (T : Txt K mg) : mg "_law_tally" = some (.ref (He.ga K "_law_tally")) := T.glo 32 "_law_tally" rfl
theorem Txt.g_law_ahead (T : Txt K mg) : mg "_law_ahead" = some (.ref (He.ga K "_law_ahead")) := T.glo 33 "_law_ahead" rfl
theorem Txt.g_law_number (T : Txt K mg) : mg "_law_number" = some (.ref (He.ga K "_law_number")) := T.glo 34 "_law_number" rfl
theorem Txt.g_law_paired (T : Txt K mg) : mg "_law_paired" = some (.ref (He.ga K "_law_paired")) := T.glo 35 "_law_paired" rfl
theorem Txt.g_law_counted (T : Txt K mg) : mg "_law_counted" = some (.ref (He.ga K "_law_counted")) := T.glo 36 "_law_counted" rfl
theorem Txt.g_law_both_ways (T : Txt K mg) : mg "_law_both_ways" = some (.ref (He.ga K "_law_both_ways")) := T.glo 37 "_law_both_ways" rfl
theorem Txt.g_law (T : Txt K mg) : mg "law" = some (.ref (He.ga K "law")) := T.glo 38 "law" rfl
theorem Txt.g_KeptLists (T : Txt K mg) : mg "KeptLists" = some (.ref (He.ga K "KeptLists")) := T.glo 39 "KeptLists" rfl
theorem Txt.g_BoughError (T : Txt K mg) : mg "BoughError" = some (.ref (He.ga K "BoughError")) := T.glo 40 "BoughError" rfl
theorem Txt.g_OutOfRange (T : Txt K mg) : mg "OutOfRange" = some (.ref (He.ga K "OutOfRange")) := T.glo 41 "OutOfRange" rfl
theorem Txt.g_WrongLength (T : Txt K mg) : mg "WrongLength" = some (.ref (He.ga K "WrongLength")) := T.glo 42 "WrongLength" rfl
theorem Txt.g_NotKept (T : Txt K mg) : mg "NotKept" = some (.ref (He.ga K "NotKept")) := T.glo 43 "NotKept" rfl
theorem Txt.n_len (T : Txt K mg) : mg "len" = none := T.free 44 "len" rfl
theorem Txt.n_sorted (T : Txt K mg) : mg "sorted" = none := T.free 45 "sorted" rfl
theorem Txt.n_list (T : Txt K mg) : mg "list" = none := T.free 46 "list" rfl
theorem Txt.n_min (T : Txt K mg) : mg "min" = none := T.free 47 "min" rfl
theorem Txt.n_sum (T : Txt K mg) : mg "sum" = none := T.free 48 "sum" rfl
theorem Txt.n_tuple (T : Txt K mg) : mg "tuple" = none := T.free 49 "tuple" rfl
theorem Txt.n_range (T : Txt K mg) : mg "range" = none := T.free 50 "range" rfl
theorem Txt.n_reversed (T : Txt K mg) : mg "reversed" = none := T.free 51 "reversed" rfl
theorem Txt.n_enumerate (T : Txt K mg) : mg "enumerate" = none := T.free 52 "enumerate" rfl
theorem Txt.n_iter (T : Txt K mg) : mg "iter" = none := T.free 53 "iter" rfl
theorem Txt.n_abs (T : Txt K mg) : mg "abs" = none := T.free 54 "abs" rfl
theorem Txt.n_int (T : Txt K mg) : mg "int" = none := T.free 55 "int" rfl
theorem Txt.n_isinstance (T : Txt K mg) : mg "isinstance" = none := T.free 56 "isinstance" rfl
theorem Txt.n_str (T : Txt K mg) : mg "str" = none := T.free 57 "str" rfl
theorem Txt.n_bool (T : Txt K mg) : mg "bool" = none := T.free 58 "bool" rfl
theorem Txt.n_max (T : Txt K mg) : mg "max" = none := T.free 59 "max" rfl
theorem Txt.n_ValueError (T : Txt K mg) : mg "ValueError" = none := T.free 60 "ValueError" rfl
theorem Txt.f_normal (T : Txt K mg) : ∃ fd, FunD K "normal" "normal" (defArgs s_normal) (defBody s_normal) (defScope s_normal) [] [] (He.ga K "normal") fd := T.says.1.def_ 0 (d := d_normal) rfl
theorem Txt.f_take (T : Txt K mg) : ∃ fd, FunD K "take" "take" (defArgs s_take) (defBody s_take) (defScope s_take) [] [] (He.ga K "take") fd := T.says.1.def_ 1 (d := d_take) rfl
theorem Txt.f_take_largest (T : Txt K mg) : ∃ fd, FunD K "take_largest" "take_largest" (defArgs s_take_largest) (defBody s_take_largest) (defScope s_take_largest) [] [] (He.ga K "take_largest") fd := T.says.1.def_ 2 (d := d_take_largest) rfl
theorem Txt.f_take_smallest (T : Txt K mg) : ∃ fd, FunD K "take_smallest" "take_smallest" (defArgs s_take_smallest) (defBody s_take_smallest) (defScope s_take_smallest) [] [] (He.ga K "take_smallest") fd := T.says.1.def_ 3 (d := d_take_smallest) rfl
theorem Txt.f_counted_bounds (T : Txt K mg) : ∃ fd, FunD K "counted_bounds" "counted_bounds" (defArgs s_counted_bounds) (defBody s_counted_bounds) (defScope s_counted_bounds) [] [] (He.ga K "counted_bounds") fd := T.says.1.def_ 4 (d := d_counted_bounds) rfl
theorem Txt.f_keeper_step (T : Txt K mg) : ∃ fd, FunD K "keeper_step" "keeper_step" (defArgs s_keeper_step) (defBody s_keeper_step) (defScope s_keeper_step) [] [] (He.ga K "keeper_step") fd := T.says.1.def_ 5 (d := d_keeper_step) rfl
theorem Txt.f_raider_step (T : Txt K mg) : ∃ fd, FunD K "raider_step" "raider_step" (defArgs s_raider_step) (defBody s_raider_step) (defScope s_raider_step) [] [] (He.ga K "raider_step") fd := T.says.1.def_ 6 (d := d_raider_step) rfl
theorem Txt.f_step (T : Txt K mg) : ∃ fd, FunD K "step" "step" (defArgs s_step) (defBody s_step) (defScope s_step) [] [] (He.ga K "step") fd := T.says.1.def_ 7 (d := d_step) rfl
theorem Txt.f_pull (T : Txt K mg) : ∃ fd, FunD K "pull" "pull" (defArgs s_pull) (defBody s_pull) (defScope s_pull) [] [("goal", .ref (kwAt "pull" "goal" K))] (He.ga K "pull") fd := T.says.1.def_ 8 (d := d_pull) rfl
theorem Txt.f_grown (T : Txt K mg) : ∃ fd, FunD K "grown" "grown" (defArgs s_grown) (defBody s_grown) (defScope s_grown) [] [] (He.ga K "grown") fd := T.says.1.def_ 9 (d := d_grown) rfl
theorem Txt.f_lists_under (T : Txt K mg) : ∃ fd, FunD K "lists_under" "lists_under" (defArgs s_lists_under) (defBody s_lists_under) (defScope s_lists_under) [] [] (He.ga K "lists_under") fd := T.says.1.def_ 10 (d := d_lists_under) rfl
theorem Txt.f_kl_init (T : Txt K mg) : ∃ fd, FunD K "__init__" "KeptLists.__init__" (defArgs s_kl_init) (defBody s_kl_init) (defScope s_kl_init) [] [] (He.ma K (He.ga K "KeptLists") "__init__") fd := T.says.1.def_ 11 (d := d_kl_init) rfl
theorem Txt.f_kl_iter (T : Txt K mg) : ∃ fd, FunD K "__iter__" "KeptLists.__iter__" (defArgs s_kl_iter) (defBody s_kl_iter) (defScope s_kl_iter) [] [] (He.ma K (He.ga K "KeptLists") "__iter__") fd := T.says.1.def_ 12 (d := d_kl_iter) rfl
theorem Txt.f_kl_contains (T : Txt K mg) : ∃ fd, FunD K "__contains__" "KeptLists.__contains__" (defArgs s_kl_contains) (defBody s_kl_contains) (defScope s_kl_contains) [] [] (He.ma K (He.ga K "KeptLists") "__contains__") fd := T.says.1.def_ 13 (d := d_kl_contains) rfl
theorem Txt.f_kl_total (T : Txt K mg) : ∃ fd, FunD K "total" "KeptLists.total" (defArgs s_kl_total) (defBody s_kl_total) (defScope s_kl_total) [] [] (He.ma K (He.ga K "KeptLists") "total") fd := T.says.1.def_ 14 (d := d_kl_total) rfl
theorem Txt.f_best_plucks (T : Txt K mg) : ∃ fd, FunD K "best_plucks" "best_plucks" (defArgs s_best_plucks) (defBody s_best_plucks) (defScope s_best_plucks) [] [] (He.ga K "best_plucks") fd := T.says.1.def_ 15 (d := d_best_plucks) rfl
theorem Txt.f_play_layers (T : Txt K mg) : ∃ fd, FunD K "play_layers" "play_layers" (defArgs s_play_layers) (defBody s_play_layers) (defScope s_play_layers) [] [] (He.ga K "play_layers") fd := T.says.1.def_ 16 (d := d_play_layers) rfl
theorem Txt.f_order_counts (T : Txt K mg) : ∃ fd, FunD K "order_counts" "order_counts" (defArgs s_order_counts) (defBody s_order_counts) (defScope s_order_counts) [] [] (He.ga K "order_counts") fd := T.says.1.def_ 17 (d := d_order_counts) rfl
theorem Txt.f_count_orders (T : Txt K mg) : ∃ fd, FunD K "count_orders" "count_orders" (defArgs s_count_orders) (defBody s_count_orders) (defScope s_count_orders) [] [] (He.ga K "count_orders") fd := T.says.1.def_ 18 (d := d_count_orders) rfl
theorem Txt.f_raid_counts (T : Txt K mg) : ∃ fd, FunD K "raid_counts" "raid_counts" (defArgs s_raid_counts) (defBody s_raid_counts) (defScope s_raid_counts) [] [] (He.ga K "raid_counts") fd := T.says.1.def_ 19 (d := d_raid_counts) rfl
theorem Txt.f_order_at (T : Txt K mg) : ∃ fd, FunD K "order_at" "order_at" (defArgs s_order_at) (defBody s_order_at) (defScope s_order_at) [] [] (He.ga K "order_at") fd := T.says.1.def_ 20 (d := d_order_at) rfl
theorem Txt.f_index_of (T : Txt K mg) : ∃ fd, FunD K "index_of" "index_of" (defArgs s_index_of) (defBody s_index_of) (defScope s_index_of) [] [] (He.ga K "index_of") fd := T.says.1.def_ 21 (d := d_index_of) rfl
theorem Txt.f_law_cell (T : Txt K mg) : ∃ fd, FunD K "_law_cell" "_law_cell" (defArgs s_law_cell) (defBody s_law_cell) (defScope s_law_cell) [] [] (He.ga K "_law_cell") fd := T.says.1.def_ 22 (d := d_law_cell) rfl
theorem Txt.f_law_mixed (T : Txt K mg) : ∃ fd, FunD K "_law_mixed" "_law_mixed" (defArgs s_law_mixed) (defBody s_law_mixed) (defScope s_law_mixed) [] [] (He.ga K "_law_mixed") fd := T.says.1.def_ 23 (d := d_law_mixed) rfl
theorem Txt.f_law_draws (T : Txt K mg) : ∃ fd, FunD K "_law_draws" "_law_draws" (defArgs s_law_draws) (defBody s_law_draws) (defScope s_law_draws) [] [] (He.ga K "_law_draws") fd := T.says.1.def_ 24 (d := d_law_draws) rfl
theorem Txt.f_law_like (T : Txt K mg) : ∃ fd, FunD K "_law_like" "_law_like" (defArgs s_law_like) (defBody s_law_like) (defScope s_law_like) [] [] (He.ga K "_law_like") fd := T.says.1.def_ 25 (d := d_law_like) rfl
theorem Txt.f_law_list (T : Txt K mg) : ∃ fd, FunD K "_law_list" "_law_list" (defArgs s_law_list) (defBody s_law_list) (defScope s_law_list) [] [] (He.ga K "_law_list") fd := T.says.1.def_ 26 (d := d_law_list) rfl
theorem Txt.f_law_lower (T : Txt K mg) : ∃ fd, FunD K "_law_lower" "_law_lower" (defArgs s_law_lower) (defBody s_law_lower) (defScope s_law_lower) [] [] (He.ga K "_law_lower") fd := T.says.1.def_ 27 (d := d_law_lower) rfl
theorem Txt.f_law_best (T : Txt K mg) : ∃ fd, FunD K "_law_best" "_law_best" (defArgs s_law_best) (defBody s_law_best) (defScope s_law_best) [] [] (He.ga K "_law_best") fd := T.says.1.def_ 28 (d := d_law_best) rfl
theorem Txt.f_law_order (T : Txt K mg) : ∃ fd, FunD K "_law_order" "_law_order" (defArgs s_law_order) (defBody s_law_order) (defScope s_law_order) [] [] (He.ga K "_law_order") fd := T.says.1.def_ 29 (d := d_law_order) rfl
theorem Txt.f_law_all_lists (T : Txt K mg) : ∃ fd, FunD K "_law_all_lists" "_law_all_lists" (defArgs s_law_all_lists) (defBody s_law_all_lists) (defScope s_law_all_lists) [] [] (He.ga K "_law_all_lists") fd := T.says.1.def_ 30 (d := d_law_all_lists) rfl
theorem Txt.f_law_survives (T : Txt K mg) : ∃ fd, FunD K "_law_survives" "_law_survives" (defArgs s_law_survives) (defBody s_law_survives) (defScope s_law_survives) [] [] (He.ga K "_law_survives") fd := T.says.1.def_ 31 (d := d_law_survives) rfl
theorem Txt.f_law_kept_order (T : Txt K mg) : ∃ fd, FunD K "_law_kept_order" "_law_kept_order" (defArgs s_law_kept_order) (defBody s_law_kept_order) (defScope s_law_kept_order) [] [] (He.ga K "_law_kept_order") fd := T.says.1.def_ 32 (d := d_law_kept_order) rfl
theorem Txt.f_law_words (T : Txt K mg) : ∃ fd, FunD K "_law_words" "_law_words" (defArgs s_law_words) (defBody s_law_words) (defScope s_law_words) [] [] (He.ga K "_law_words") fd := T.says.1.def_ 33 (d := d_law_words) rfl
theorem Txt.f_law_ways (T : Txt K mg) : ∃ fd, FunD K "_law_ways" "_law_ways" (defArgs s_law_ways) (defBody s_law_ways) (defScope s_law_ways) [] [] (He.ga K "_law_ways") fd := T.says.1.def_ 34 (d := d_law_ways) rfl
theorem Txt.f_law_row (T : Txt K mg) : ∃ fd, FunD K "_law_row" "_law_row" (defArgs s_law_row) (defBody s_law_row) (defScope s_law_row) [] [] (He.ga K "_law_row") fd := T.says.1.def_ 35 (d := d_law_row) rfl
theorem Txt.f_law_tally (T : Txt K mg) : ∃ fd, FunD K "_law_tally" "_law_tally" (defArgs s_law_tally) (defBody s_law_tally) (defScope s_law_tally) [] [] (He.ga K "_law_tally") fd := T.says.1.def_ 36 (d := d_law_tally) rfl
theorem Txt.f_law_ahead (T : Txt K mg) : ∃ fd, FunD K "_law_ahead" "_law_ahead" (defArgs s_law_ahead) (defBody s_law_ahead) (defScope s_law_ahead) [] [] (He.ga K "_law_ahead") fd := T.says.1.def_ 37 (d := d_law_ahead) rfl
theorem Txt.f_law_number (T : Txt K mg) : ∃ fd, FunD K "_law_number" "_law_number" (defArgs s_law_number) (defBody s_law_number) (defScope s_law_number) [] [] (He.ga K "_law_number") fd := T.says.1.def_ 38 (d := d_law_number) rfl
theorem Txt.f_law_paired (T : Txt K mg) : ∃ fd, FunD K "_law_paired" "_law_paired" (defArgs s_law_paired) (defBody s_law_paired) (defScope s_law_paired) [] [] (He.ga K "_law_paired") fd := T.says.1.def_ 39 (d := d_law_paired) rfl
theorem Txt.f_law_counted (T : Txt K mg) : ∃ fd, FunD K "_law_counted" "_law_counted" (defArgs s_law_counted) (defBody s_law_counted) (defScope s_law_counted) [] [] (He.ga K "_law_counted") fd := T.says.1.def_ 40 (d := d_law_counted) rfl
theorem Txt.f_law_both_ways (T : Txt K mg) : ∃ fd, FunD K "_law_both_ways" "_law_both_ways" (defArgs s_law_both_ways) (defBody s_law_both_ways) (defScope s_law_both_ways) [] [] (He.ga K "_law_both_ways") fd := T.says.1.def_ 41 (d := d_law_both_ways) rfl
theorem Txt.f_law (T : Txt K mg) : ∃ fd, FunD K "law" "law" (defArgs s_law) (defBody s_law) (defScope s_law) [] [] (He.ga K "law") fd := T.says.1.def_ 42 (d := d_law) rfl
end
abbrev N_normal : List Str := ["values", "value"]
theorem sc_normal : FnScope N_normal ["values"] (defScope s_normal) := ⟨rfl, rfl, rfl, by decide +kernel, rfl, by decide +kernel, by decide +kernel⟩
abbrev N_take : List Str := ["sizes", "place", "lowered"]
theorem sc_take : FnScope N_take ["sizes", "place"] (defScope s_take) := ⟨rfl, rfl, rfl, by decide +kernel, rfl, by decide +kernel, by decide +kernel⟩
abbrev N_take_largest : List Str := ["sizes"]
theorem sc_take_largest : FnScope N_take_largest ["sizes"] (defScope s_take_largest) := ⟨rfl, rfl, rfl, by decide +kernel, rfl, by decide +kernel, by decide +kernel⟩
abbrev N_take_smallest : List Str := ["sizes"]
theorem sc_take_smallest : FnScope N_take_smallest ["sizes"] (defScope s_take_smallest) := ⟨rfl, rfl, rfl, by decide +kernel, rfl, by decide +kernel, by decide +kernel⟩
abbrev N_counted_bounds : List Str := ["row", "most", "bound"]
theorem sc_counted_bounds : FnScope N_counted_bounds ["row"] (defScope s_counted_bounds) := ⟨rfl, rfl, rfl, by decide +kernel, rfl, by decide +kernel, by decide +kernel⟩
abbrev N_keeper_step : List Str := ["row", "bounds", "stepped", "k", "before"]
theorem sc_keeper_step : FnScope N_keeper_step ["row"] (defScope s_keeper_step) := ⟨rfl, rfl, rfl, by decide +kernel, rfl, by decide +kernel, by decide +kernel⟩
abbrev N_raider_step : List Str := ["row", "most", "stepped", "bound"]
theorem sc_raider_step : FnScope N_raider_step ["row"] (defScope s_raider_step) := ⟨rfl, rfl, rfl, by decide +kernel, rfl, by decide +kernel, by decide +kernel⟩
abbrev N_step : List Str := ["letter", "row"]
theorem sc_step : FnScope N_step ["letter", "row"] (defScope s_step) := ⟨rfl, rfl, rfl, by decide +kernel, rfl, by decide +kernel, by decide +kernel⟩
abbrev N_pull : List Str := ["order", "goal", "row", "letter"]
theorem sc_pull : FnScope N_pull ["order", "goal"] (defScope s_pull) := ⟨rfl, rfl, rfl, by decide +kernel, rfl, by decide +kernel, by decide +kernel⟩
abbrev N_grown : List Str := ["word", "bound", "total", "top", "most", "entry"]
theorem sc_grown : FnScope N_grown ["word", "bound", "total"] (defScope s_grown) := ⟨rfl, rfl, rfl, by decide +kernel, rfl, by decide +kernel, by decide +kernel⟩
abbrev N_lists_under : List Str := ["row", "total", "words", "bound", "word", "longer"]
theorem sc_lists_under : FnScope N_lists_under ["row"] (defScope s_lists_under) := ⟨rfl, rfl, rfl, by decide +kernel, rfl, by decide +kernel, by decide +kernel⟩
abbrev N_kl_init : List Str := ["self", "order", "word"]
theorem sc_kl_init : FnScope N_kl_init ["self", "order"] (defScope s_kl_init) := ⟨rfl, rfl, rfl, by decide +kernel, rfl, by decide +kernel, by decide +kernel⟩
abbrev N_kl_iter : List Str := ["self"]
theorem sc_kl_iter : FnScope N_kl_iter ["self"] (defScope s_kl_iter) := ⟨rfl, rfl, rfl, by decide +kernel, rfl, by decide +kernel, by decide +kernel⟩
abbrev N_kl_contains : List Str := ["self", "sizes"]
theorem sc_kl_contains : FnScope N_kl_contains ["self", "sizes"] (defScope s_kl_contains) := ⟨rfl, rfl, rfl, by decide +kernel, rfl, by decide +kernel, by decide +kernel⟩
abbrev N_kl_total : List Str := ["self"]
theorem sc_kl_total : FnScope N_kl_total ["self"] (defScope s_kl_total) := ⟨rfl, rfl, rfl, by decide +kernel, rfl, by decide +kernel, by decide +kernel⟩
abbrev N_best_plucks : List Str := ["word", "after_keeper"]
theorem sc_best_plucks : FnScope N_best_plucks ["word"] (defScope s_best_plucks) := ⟨rfl, rfl, rfl, by decide +kernel, rfl, by decide +kernel, by decide +kernel⟩
abbrev N_play_layers : List Str := ["starts", "layers", "words", "_", "layer", "sizes", "word", "pair", "after"]
theorem sc_play_layers : FnScope N_play_layers ["starts"] (defScope s_play_layers) := ⟨rfl, rfl, rfl, by decide +kernel, rfl, by decide +kernel, by decide +kernel⟩
abbrev N_order_counts : List Str := ["starts", "counts", "layer", "word", "after_keeper", "after_raider"]
theorem sc_order_counts : FnScope N_order_counts ["starts"] (defScope s_order_counts) := ⟨rfl, rfl, rfl, by decide +kernel, rfl, by decide +kernel, by decide +kernel⟩
abbrev N_count_orders : List Str := ["sizes"]
theorem sc_count_orders : FnScope N_count_orders ["sizes"] (defScope s_count_orders) := ⟨rfl, rfl, rfl, by decide +kernel, rfl, by decide +kernel, by decide +kernel⟩
abbrev N_raid_counts : List Str := ["sizes", "counts", "layer", "longer", "word", "after_keeper", "after_raider", "row", "raids", "count"]
theorem sc_raid_counts : FnScope N_raid_counts ["sizes"] (defScope s_raid_counts) := ⟨rfl, rfl, rfl, by decide +kernel, rfl, by decide +kernel, by decide +kernel⟩
abbrev N_order_at : List Str := ["sizes", "index", "counts", "word", "letters", "left", "_", "after_keeper", "after_raider"]
theorem sc_order_at : FnScope N_order_at ["sizes", "index"] (defScope s_order_at) := ⟨rfl, rfl, rfl, by decide +kernel, rfl, by decide +kernel, by decide +kernel⟩
abbrev N_index_of : List Str := ["sizes", "order", "counts", "word", "index", "letter", "after_keeper", "after_raider"]
theorem sc_index_of : FnScope N_index_of ["sizes", "order"] (defScope s_index_of) := ⟨rfl, rfl, rfl, by decide +kernel, rfl, by decide +kernel, by decide +kernel⟩
abbrev N_law_cell : List Str := ["_law_script", "_law_k"]
theorem sc_law_cell : FnScope N_law_cell ["_law_script", "_law_k"] (defScope s_law_cell) := ⟨rfl, rfl, rfl, by decide +kernel, rfl, by decide +kernel, by decide +kernel⟩
abbrev N_law_mixed : List Str := ["_law_cell_here", "_law_k", "_law_size", "_law_mixed_here"]
theorem sc_law_mixed : FnScope N_law_mixed ["_law_cell_here", "_law_k", "_law_size"] (defScope s_law_mixed) := ⟨rfl, rfl, rfl, by decide +kernel, rfl, by decide +kernel, by decide +kernel⟩
abbrev N_law_draws : List Str := ["_law_cell_here", "_law_menu", "_law_found", "_law_rest", "_law_k"]
theorem sc_law_draws : FnScope N_law_draws ["_law_cell_here", "_law_menu"] (defScope s_law_draws) := ⟨rfl, rfl, rfl, by decide +kernel, rfl, by decide +kernel, by decide +kernel⟩
abbrev N_law_like : List Str := ["_law_actual", "_law_due", "_law_k"]
theorem sc_law_like : FnScope N_law_like ["_law_actual", "_law_due"] (defScope s_law_like) := ⟨rfl, rfl, rfl, by decide +kernel, rfl, by decide +kernel, by decide +kernel⟩
abbrev N_law_list : List Str := ["_law_cell_here", "_law_total", "_law_head", "_law_draws_here", "_law_found", "_law_rest", "_law_k", "_law_part"]
theorem sc_law_list : FnScope N_law_list ["_law_cell_here", "_law_total"] (defScope s_law_list) := ⟨rfl, rfl, rfl, by decide +kernel, rfl, by decide +kernel, by decide +kernel⟩
abbrev N_law_lower : List Str := ["_law_sizes", "_law_place", "_law_lowered", "_law_entry"]
theorem sc_law_lower : FnScope N_law_lower ["_law_sizes", "_law_place"] (defScope s_law_lower) := ⟨rfl, rfl, rfl, by decide +kernel, rfl, by decide +kernel, by decide +kernel⟩
abbrev N_law_best : List Str := ["_law_sizes", "_law_letter"]
theorem sc_law_best : FnScope N_law_best ["_law_sizes", "_law_letter"] (defScope s_law_best) := ⟨rfl, rfl, rfl, by decide +kernel, rfl, by decide +kernel, by decide +kernel⟩
abbrev N_law_order : List Str := ["_law_cell_here", "_law_turns", "_law_head", "_law_draws_here", "_law_signs", "_law_letters", "_law_k", "_law_draw", "_law_letter"]
theorem sc_law_order : FnScope N_law_order ["_law_cell_here", "_law_turns"] (defScope s_law_order) := ⟨rfl, rfl, rfl, by decide +kernel, rfl, by decide +kernel, by decide +kernel⟩
abbrev N_law_all_lists : List Str := ["_law_total", "_law_most", "_law_found", "_law_k", "_law_first", "_law_rest"]
theorem sc_law_all_lists : FnScope N_law_all_lists ["_law_total", "_law_most"] (defScope s_law_all_lists) := ⟨rfl, rfl, rfl, by decide +kernel, rfl, by decide +kernel, by decide +kernel⟩
abbrev N_law_survives : List Str := ["_law_sizes", "_law_order_here", "_law_rest", "_law_letter"]
theorem sc_law_survives : FnScope N_law_survives ["_law_sizes", "_law_order_here"] (defScope s_law_survives) := ⟨rfl, rfl, rfl, by decide +kernel, rfl, by decide +kernel, by decide +kernel⟩
abbrev N_law_kept_order : List Str := ["_law_sizes", "_law_order_here", "_law_style", "_law_size", "_law_letters", "_law_k", "_law_at", "_law_turned"]
theorem sc_law_kept_order : FnScope N_law_kept_order ["_law_sizes", "_law_order_here", "_law_style"] (defScope s_law_kept_order) := ⟨rfl, rfl, rfl, by decide +kernel, rfl, by decide +kernel, by decide +kernel⟩
abbrev N_law_words : List Str := ["_law_turns", "_law_words_here", "_law_k", "_law_word"]
theorem sc_law_words : FnScope N_law_words ["_law_turns"] (defScope s_law_words) := ⟨rfl, rfl, rfl, by decide +kernel, rfl, by decide +kernel, by decide +kernel⟩
abbrev N_law_ways : List Str := ["_law_sizes", "_law_words_here", "_law_word"]
theorem sc_law_ways : FnScope N_law_ways ["_law_sizes", "_law_words_here"] (defScope s_law_ways) := ⟨rfl, rfl, rfl, by decide +kernel, rfl, by decide +kernel, by decide +kernel⟩
abbrev N_law_row : List Str := ["_law_ways_here", "_law_turns", "_law_row_here", "_law_word", "_law_raiders"]
theorem sc_law_row : FnScope N_law_row ["_law_ways_here", "_law_turns"] (defScope s_law_row) := ⟨rfl, rfl, rfl, by decide +kernel, rfl, by decide +kernel, by decide +kernel⟩
abbrev N_law_tally : List Str := ["_law_sizes", "_law_known", "_law_word", "_law_row_here", "_law_lowered", "_law_below", "_law_k"]
theorem sc_law_tally : FnScope N_law_tally ["_law_sizes", "_law_known"] (defScope s_law_tally) := ⟨rfl, rfl, rfl, by decide +kernel, rfl, by decide +kernel, by decide +kernel⟩
abbrev N_law_ahead : List Str := ["_law_sizes", "_law_order_here", "_law_known", "_law_number_here", "_law_rest", "_law_letter"]
theorem sc_law_ahead : FnScope N_law_ahead ["_law_sizes", "_law_order_here"] (defScope s_law_ahead) := ⟨rfl, rfl, rfl, by decide +kernel, rfl, by decide +kernel, by decide +kernel⟩
abbrev N_law_number : List Str := ["_law_sizes", "_law_order_here", "e"]
theorem sc_law_number : FnScope N_law_number ["_law_sizes", "_law_order_here"] (defScope s_law_number) := ⟨rfl, rfl, rfl, by decide +kernel, rfl, by decide +kernel, by decide +kernel⟩
abbrev N_law_paired : List Str := ["_law_kept", "_law_sizes", "_law_order_here", "_law_number_here", "_law_given"]
theorem sc_law_paired : FnScope N_law_paired ["_law_kept", "_law_sizes", "_law_order_here", "_law_number_here"] (defScope s_law_paired) := ⟨rfl, rfl, rfl, by decide +kernel, rfl, by decide +kernel, by decide +kernel⟩
abbrev N_law_counted : List Str := ["_law_sizes", "_law_due", "_law_given", "_law_told"]
theorem sc_law_counted : FnScope N_law_counted ["_law_sizes", "_law_due"] (defScope s_law_counted) := ⟨rfl, rfl, rfl, by decide +kernel, rfl, by decide +kernel, by decide +kernel⟩
abbrev N_law_both_ways : List Str := ["_law_turns", "_law_raiders", "_law_place", "_law_lists", "_law_words_here", "_law_ways_here", "_law_by_lists", "_law_k", "_law_given", "_law_told", "_law_chosen", "_law_dues", "_law_held", "_law_totals", "_law_at", "_law_rows", "_law_number_here", "_law_sizes", "_law_word", "_law_row_here", "_law_kept"]
theorem sc_law_both_ways : FnScope N_law_both_ways ["_law_turns", "_law_raiders", "_law_place"] (defScope s_law_both_ways) := ⟨rfl, rfl, rfl, by decide +kernel, rfl, by decide +kernel, by decide +kernel⟩
abbrev N_law : List Str := ["_law_script", "_law_head", "_law_turns", "_law_tall", "_law_sizes", "_law_order_here", "_law_at", "_law_number_here"]
theorem sc_law : FnScope N_law ["_law_script"] (defScope s_law) := ⟨rfl, rfl, rfl, by decide +kernel, rfl, by decide +kernel, by decide +kernel⟩
end Bb
end
section
set_option maxRecDepth 100000
set_option maxHeartbeats 0
namespace Bb
open PySem PySem.Spec PyProof.Rows L2
theorem run (w : World) : HandSHeadRun.RunEq R (PySem.W.view R.prog [50]) hk ob 6000 loose w := by
  intro os
  kernel_rfl
end Bb
end
section
set_option maxRecDepth 100000
set_option maxHeartbeats 4000000
/-! B0: plain functions that the memo's promise names. -/
namespace Bb
/-! ### descending order -/
def insD (a : Int) : List Int → List Int
  | [] => [a]
  | b :: l => if b ≤ a then a :: b :: l else b :: insD a l
def sortD : List Int → List Int
  | [] => []
  | a :: l => insD a (sortD l)
theorem insD_perm (a : Int) : ∀ l : List Int, (insD a l).Perm (a :: l)
  | [] => .refl _
  | b :: l => by
    unfold insD
    split
    · exact .refl _
    · exact ((insD_perm a l).cons b).trans (.swap a b l)
theorem sortD_perm : ∀ l : List Int, (sortD l).Perm l
  | [] => .refl _
  | a :: l => (insD_perm a _).trans ((sortD_perm l).cons a)
theorem insD_sorted (a : Int) : ∀ l : List Int, l.Pairwise (· ≥ ·) → (insD a l).Pairwise (· ≥ ·)
  | [], _ => by simp [insD]
  | b :: l, h => by
    unfold insD
    obtain ⟨h1, h2⟩ := List.pairwise_cons.mp h
    split
    · rename_i hb
      refine List.pairwise_cons.mpr ⟨fun c hc => ?_, h⟩
      rcases List.mem_cons.mp hc with rfl | hc
      · exact hb
      · exact Int.le_trans (h1 c hc) hb
    · rename_i hb
      refine List.pairwise_cons.mpr ⟨fun c hc => ?_, insD_sorted a l h2⟩
      rcases List.mem_cons.mp ((insD_perm a l).mem_iff.mp hc) with rfl | hc
      · show c ≤ b; omega
      · exact h1 c hc
theorem sortD_sorted : ∀ l : List Int, (sortD l).Pairwise (· ≥ ·)
  | [] => by simp [sortD]
  | a :: l => insD_sorted a _ (sortD_sorted l)
theorem sorted_eq : ∀ {l m : List Int}, l.Perm m → l.Pairwise (· ≥ ·) → m.Pairwise (· ≥ ·) → l = m
  | [], m, p, _, _ => by simpa using p.symm.eq_nil
  | a :: l, [], p, _, _ => by simpa using p.eq_nil
  | a :: l, b :: m, p, h1, h2 => by
    obtain ⟨g1, g2⟩ := List.pairwise_cons.mp h1
    obtain ⟨f1, f2⟩ := List.pairwise_cons.mp h2
    have e : a = b := by
      have ha : a ∈ b :: m := p.mem_iff.mp List.mem_cons_self
      have hb : b ∈ a :: l := p.mem_iff.mpr List.mem_cons_self
      rcases List.mem_cons.mp ha with q | q
      · exact q
      · rcases List.mem_cons.mp hb with r | r
        · exact r.symm
        · exact Int.le_antisymm (f1 a q) (g1 b r)
    subst e
    rw [sorted_eq (p.cons_inv) g2 f2]
theorem sortD_eq {l m : List Int} (p : l.Perm m) (h : l.Pairwise (· ≥ ·)) : l = sortD m := sorted_eq (p.trans (sortD_perm m).symm) h (sortD_sorted m)

/-- an entry lowered by one, what is left in order -/
def lowerM (xs : List Int) (p : Nat) : List Int := sortD ((xs.set p (xs.getD p 0 - 1)).filter fun v => decide (0 < v))
/-- the orders kept, by their raids -/
def tallyF : Nat → List Int → List Int
  | 0, _ => [1]
  | n + 1, xs => if xs.length ≤ 1 then tallyF n (lowerM xs 0) ++ [0] else List.zipWith (· + ·) (tallyF n (lowerM xs 0) ++ [0]) (0 :: tallyF n (lowerM xs (xs.length - 1)))
def tallyL (xs : List Int) : List Int := tallyF xs.sum.toNat xs
/-- words of at most fourteen in all -/
def Good (k : List Int) : Prop := (∀ x ∈ k, 1 ≤ x) ∧ k.sum ≤ 14
def incH : List Int → List Int
  | [] => []
  | a :: l => (a + 1) :: l
def comps : Nat → List (List Int)
  | 0 => [[]]
  | n + 1 => (comps n).flatMap fun l => [1 :: l, incH l]
theorem comps_len : ∀ n, (comps n).length = 2 ^ n
  | 0 => rfl
  | n + 1 => by
    show ((comps n).flatMap _).length = _
    rw [List.length_flatMap]
    simp only [List.length_cons, List.length_nil]
    rw [List.map_const', List.sum_replicate_nat, comps_len n, Nat.pow_succ]
theorem comps_all : ∀ (n : Nat) (l : List Int), (∀ x ∈ l, 1 ≤ x) → l.sum = n → l ∈ comps n
  | 0, [], _, _ => by simp [comps]
  | 0, a :: l, h, e => by
    exfalso
    have h1 := h a List.mem_cons_self
    have h2 : 0 ≤ l.sum := by
      clear e
      induction l with
      | nil => simp
      | cons b l ih =>
        have hb := h b (by simp)
        have := ih (fun x hx => h x (by rcases List.mem_cons.mp hx with q | q <;> simp [q]))
        rw [List.sum_cons]; omega
    rw [List.sum_cons] at e; simp at e; omega
  | n + 1, [], _, e => by simp at e; omega
  | n + 1, a :: l, h, e => by
    have h1 := h a List.mem_cons_self
    rw [List.sum_cons] at e
    simp only [comps, List.mem_flatMap]
    by_cases h2 : a = 1
    · subst h2
      exact ⟨l, comps_all n l (fun x hx => h x (List.mem_cons_of_mem _ hx)) (by push_cast at e; omega), by simp⟩
    · refine ⟨(a - 1) :: l, comps_all n _ (fun x hx => ?_) (by rw [List.sum_cons]; push_cast at e; omega), ?_⟩
      · rcases List.mem_cons.mp hx with q | q
        · omega
        · exact h x (List.mem_cons_of_mem _ q)
      · simp [incH]
theorem sum_pos : ∀ {l : List Int}, (∀ x ∈ l, 1 ≤ x) → (l.length : Int) ≤ l.sum
  | [], _ => by simp
  | a :: l, h => by
    have h1 := h a List.mem_cons_self
    have h2 := sum_pos fun x hx => h x (List.mem_cons_of_mem a hx)
    rw [List.sum_cons, List.length_cons]; push_cast; omega
def compsAll : List (List Int) := (List.range 15).flatMap comps
theorem compsAll_len : compsAll.length ≤ 40000 := by
  unfold compsAll
  rw [List.length_flatMap]
  simp only [comps_len]
  decide
theorem few {l : List (List Int)} (hn : l.Nodup) (h : ∀ k ∈ l, Good k) : l.length ≤ 40000 := by
  have hs : l ⊆ compsAll := fun k hk => by
    obtain ⟨h1, h2⟩ := h k hk
    have h3 := sum_pos h1
    exact List.mem_flatMap.mpr ⟨k.sum.toNat, List.mem_range.mpr (by omega), comps_all _ k h1 (by omega)⟩
  exact Nat.le_trans (List.Nodup.length_le_of_subset hn hs) compsAll_len
end Bb
end
section
set_option maxRecDepth 100000
set_option maxHeartbeats 4000000
/-! B1: data, their representation over the abstract heap, worlds, judgements. -/
namespace Bb
open PySem PySem.Spec PyProof.Rows L2
open Evl (Ex)

/-- plain data -/
inductive D where
  | non | bl (b : Bool) | int (i : Int) | str (x : Str)
  | lst (l : List D) | tup (l : List D)
  | dic (ks : List (List Int)) (vs : List D)
  | ins (C : Addr) (ns : List Str) (vs : List D)
  | raw (a : Addr)
  | mem
  | la (a : Addr) (l : List Int)
  | sq (K : PySem.W.Frag) (a : Addr) (l : List Int)

/-- the keys of a dict: tuples of ints -/
def kk (ks : List (List Int)) : List (List Key) := ks.map fun k => k.map Sum.inl
theorem kk_kV (k : List Int) : (k.map (Sum.inl : Int → Key)).map kV = k.map V.int := by
  rw [List.map_map]; rfl

theorem _root_.Evl.Ex.back {H H1 : Hp} (e : Ex H H1) {p : Addr} (h : H1 p = none) : H p = none := by
  cases q : H p with
  | none => rfl
  | some o => rw [e p o q] at h; cases h

mutual
/-- v stands for the datum in the heap S -/
def Rp (S : Hp) : D → V → Prop
  | .non, v => v = .non
  | .bl b, v => v = .bl b
  | .int i, v => v = .int i
  | .str x, v => v = .str x
  | .lst l, v => ∃ p vs, v = .ref p ∧ S p = some (.lst vs) ∧ RpL S l vs
  | .tup l, v => ∃ p vs, v = .ref p ∧ S p = some (.tup vs) ∧ RpL S l vs
  | .dic ks l, v => ∃ p od hv, v = .ref p ∧ S p = some (.frz od (.dT hv)) ∧ hv.map (·.1) = kk ks ∧ RpL S l (hv.map (·.2))
  | .ins C ns l, v => ∃ p dx vs, v = .ref p ∧ S p = some (.ins C dx (ns.zip vs)) ∧ ns.length = vs.length ∧ RpL S l vs
  | .raw a, v => v = .ref a
  | .mem, v => ∃ p, v = .ref p ∧ S p = some (.own 0)
  | .la a l, v => v = .ref a ∧ S a = some (.lst (l.map V.int))
  | .sq K a l, v => v = .ref a ∧ SqL K S a (l.map V.int)
def RpL (S : Hp) : List D → List V → Prop
  | [], vs => vs = []
  | d :: l, vs => ∃ v r, vs = v :: r ∧ Rp S d v ∧ RpL S l r
end

/-- what the representation leans on is kept -/
structure RLe (S S1 : Hp) : Prop where
  rd : ∀ a od u, S a = some (.frz od u) → S1 a = some (.frz od u)
  ls : ∀ a xs, S a = some (.lst xs) → S1 a = some (.lst xs)
  tp : ∀ a xs, S a = some (.tup xs) → S1 a = some (.tup xs)
  is : ∀ a C dx fs, S a = some (.ins C dx fs) → S1 a = some (.ins C dx fs)
  ow : ∀ a x, S a = some (.own x) → S1 a = some (.own x)
theorem _root_.Evl.Ex.rle {S S1 : Hp} (e : Ex S S1) : RLe S S1 :=
  ⟨fun a od u h => e _ _ h, fun a xs h => e _ _ h, fun a xs h => e _ _ h, fun a C dx fs h => e _ _ h, fun a x h => e _ _ h⟩

mutual
theorem Rp.mono' {S S1 : Hp} (e : RLe S S1) : ∀ {d : D} {v : V}, Rp S d v → Rp S1 d v
  | .non, v, h => by simpa only [Rp] using h
  | .bl b, v, h => by simpa only [Rp] using h
  | .int i, v, h => by simpa only [Rp] using h
  | .str x, v, h => by simpa only [Rp] using h
  | .raw x, v, h => by simpa only [Rp] using h
  | .mem, v, h => by
    simp only [Rp] at h ⊢
    obtain ⟨p, h1, h2⟩ := h
    exact ⟨p, h1, e.ow _ _ h2⟩
  | .la a l, v, h => by
    simp only [Rp] at h ⊢
    exact ⟨h.1, e.ls _ _ h.2⟩
  | .sq K a l, v, h => by
    simp only [Rp] at h ⊢
    refine ⟨h.1, ?_⟩
    rcases h.2 with (q | ⟨o, q⟩) | q
    · exact .inl (.inl (e.ls _ _ q))
    · exact .inl (.inr ⟨o, e.rd _ _ _ q⟩)
    · exact .inr q
  | .lst l, v, h => by
    simp only [Rp] at h ⊢
    obtain ⟨p, vs, h1, h2, h3⟩ := h
    exact ⟨p, vs, h1, e.ls _ _ h2, RpL.mono' e h3⟩
  | .tup l, v, h => by
    simp only [Rp] at h ⊢
    obtain ⟨p, vs, h1, h2, h3⟩ := h
    exact ⟨p, vs, h1, e.tp _ _ h2, RpL.mono' e h3⟩
  | .dic ks l, v, h => by
    simp only [Rp] at h ⊢
    obtain ⟨p, od, vs, h1, h2, h3, h4⟩ := h
    exact ⟨p, od, vs, h1, e.rd _ _ _ h2, h3, RpL.mono' e h4⟩
  | .ins C ns l, v, h => by
    simp only [Rp] at h ⊢
    obtain ⟨p, dx, vs, h1, h2, h3, h4⟩ := h
    exact ⟨p, dx, vs, h1, e.is _ _ _ _ h2, h3, RpL.mono' e h4⟩
theorem RpL.mono' {S S1 : Hp} (e : RLe S S1) : ∀ {l : List D} {vs : List V}, RpL S l vs → RpL S1 l vs
  | [], vs, h => by simpa only [RpL] using h
  | d :: l, vs, h => by
    simp only [RpL] at h ⊢
    obtain ⟨v, r, h1, h2, h3⟩ := h
    exact ⟨v, r, h1, Rp.mono' e h2, RpL.mono' e h3⟩
end
theorem Rp.mono {S S1 : Hp} {d : D} {v : V} (h : Rp S d v) (e : Ex S S1) : Rp S1 d v := h.mono' e.rle
theorem RpL.mono {S S1 : Hp} {l : List D} {vs : List V} (h : RpL S l vs) (e : Ex S S1) : RpL S1 l vs := h.mono' e.rle

/-! ### lists of data -/
theorem RpL.nil {S : Hp} : RpL S [] [] := by simp only [RpL]
theorem RpL.cons {S : Hp} {d : D} {v : V} {l : List D} {vs : List V} (h : Rp S d v) (t : RpL S l vs) : RpL S (d :: l) (v :: vs) := by
  simp only [RpL]
  exact ⟨v, vs, rfl, h, t⟩
theorem RpL.len {S : Hp} : ∀ {l : List D} {vs : List V}, RpL S l vs → l.length = vs.length
  | [], vs, h => by simp only [RpL] at h; rw [h]; rfl
  | d :: l, vs, h => by
    simp only [RpL] at h
    obtain ⟨v, r, rfl, _, h⟩ := h
    exact congrArg Nat.succ h.len
theorem RpL.get {S : Hp} : ∀ {l : List D} {vs : List V} {i : Nat} {d : D}, RpL S l vs → l[i]? = some d → ∃ v, vs[i]? = some v ∧ Rp S d v
  | [], vs, i, d, _, e => by simp at e
  | d :: l, vs, 0, x, h, e => by
    simp only [RpL] at h
    obtain ⟨v, r, rfl, h, _⟩ := h
    have e : d = x := by simpa using e
    subst e
    exact ⟨v, rfl, h⟩
  | d :: l, vs, i + 1, x, h, e => by
    simp only [RpL] at h
    obtain ⟨v, r, rfl, _, h⟩ := h
    exact h.get (by simpa using e)
theorem RpL.back {S : Hp} : ∀ {l : List D} {vs : List V} {i : Nat} {v : V}, RpL S l vs → vs[i]? = some v → ∃ d, l[i]? = some d ∧ Rp S d v
  | [], vs, i, v, h, e => by simp only [RpL] at h; rw [h] at e; simp at e
  | d :: l, vs, 0, x, h, e => by
    simp only [RpL] at h
    obtain ⟨v, r, rfl, h, _⟩ := h
    have e : v = x := by simpa using e
    subst e
    exact ⟨d, rfl, h⟩
  | d :: l, vs, i + 1, x, h, e => by
    simp only [RpL] at h
    obtain ⟨v, r, rfl, _, h⟩ := h
    exact h.back (by simpa using e)
theorem RpL.app {S : Hp} : ∀ {l m : List D} {vs ws : List V}, RpL S l vs → RpL S m ws → RpL S (l ++ m) (vs ++ ws)
  | [], m, vs, ws, h, t => by simp only [RpL] at h; subst h; exact t
  | d :: l, m, vs, ws, h, t => by
    simp only [RpL] at h
    obtain ⟨v, r, rfl, h1, h⟩ := h
    exact .cons h1 (h.app t)
theorem RpL.take {S : Hp} : ∀ {l : List D} {vs : List V} (n : Nat), RpL S l vs → RpL S (l.take n) (vs.take n)
  | [], vs, n, h => by simp only [RpL] at h; subst h; simpa using RpL.nil
  | d :: l, vs, 0, h => by simpa using RpL.nil
  | d :: l, vs, n + 1, h => by
    simp only [RpL] at h
    obtain ⟨v, r, rfl, h1, h⟩ := h
    exact .cons h1 (h.take n)
theorem RpL.drop {S : Hp} : ∀ {l : List D} {vs : List V} (n : Nat), RpL S l vs → RpL S (l.drop n) (vs.drop n)
  | [], vs, n, h => by simp only [RpL] at h; subst h; simpa using RpL.nil
  | d :: l, vs, 0, h => by simpa using h
  | d :: l, vs, n + 1, h => by
    simp only [RpL] at h
    obtain ⟨v, r, rfl, h1, h⟩ := h
    exact h.drop n
theorem RpL.set {S : Hp} {x : D} {u : V} (q : Rp S x u) : ∀ {l : List D} {vs : List V} (n : Nat), RpL S l vs → RpL S (l.set n x) (vs.set n u)
  | [], vs, n, h => by simp only [RpL] at h; subst h; simpa using RpL.nil
  | d :: l, vs, 0, h => by
    simp only [RpL] at h
    obtain ⟨v, r, rfl, h1, h⟩ := h
    exact .cons q h
  | d :: l, vs, n + 1, h => by
    simp only [RpL] at h
    obtain ⟨v, r, rfl, h1, h⟩ := h
    exact .cons h1 (h.set q n)
theorem RpL.rev {S : Hp} : ∀ {l : List D} {vs : List V}, RpL S l vs → RpL S l.reverse vs.reverse
  | [], vs, h => by simp only [RpL] at h; subst h; exact .nil
  | d :: l, vs, h => by
    simp only [RpL] at h
    obtain ⟨v, r, rfl, h1, h⟩ := h
    rw [List.reverse_cons, List.reverse_cons]
    exact h.rev.app (.cons h1 .nil)
theorem RpL.rep {S : Hp} {l : List D} {vs : List V} (h : RpL S l vs) : ∀ n : Nat, RpL S (List.replicate n l).flatten (List.replicate n vs).flatten
  | 0 => .nil
  | n + 1 => by
    rw [List.replicate_succ, List.replicate_succ, List.flatten_cons, List.flatten_cons]
    exact h.app (h.rep n)
theorem Rp.int {S : Hp} {i : Int} {v : V} : Rp S (.int i) v ↔ v = .int i := by simp only [Rp]
theorem Rp.bl {S : Hp} {b : Bool} {v : V} : Rp S (.bl b) v ↔ v = .bl b := by simp only [Rp]
theorem Rp.str {S : Hp} {x : Str} {v : V} : Rp S (.str x) v ↔ v = .str x := by simp only [Rp]
theorem Rp.raw {S : Hp} {a : Addr} {v : V} : Rp S (.raw a) v ↔ v = .ref a := by simp only [Rp]
theorem Rp.non {S : Hp} {v : V} : Rp S .non v ↔ v = .non := by simp only [Rp]
theorem Rp.la {S : Hp} {a : Addr} {l : List Int} {v : V} : Rp S (.la a l) v ↔ v = .ref a ∧ S a = some (.lst (l.map V.int)) := by simp only [Rp]
theorem Rp.sq {S : Hp} {K : PySem.W.Frag} {a : Addr} {l : List Int} {v : V} : Rp S (.sq K a l) v ↔ v = .ref a ∧ SqL K S a (l.map V.int) := by simp only [Rp]
theorem Rp.mem {S : Hp} {v : V} : Rp S .mem v ↔ ∃ p, v = .ref p ∧ S p = some (.own 0) := by simp only [Rp]
theorem Rp.lst {S : Hp} {l : List D} {v : V} : Rp S (.lst l) v ↔ ∃ p vs, v = .ref p ∧ S p = some (.lst vs) ∧ RpL S l vs := by simp only [Rp]
theorem Rp.tup {S : Hp} {l : List D} {v : V} : Rp S (.tup l) v ↔ ∃ p vs, v = .ref p ∧ S p = some (.tup vs) ∧ RpL S l vs := by simp only [Rp]
theorem Rp.dic {S : Hp} {ks : List (List Int)} {l : List D} {v : V} : Rp S (.dic ks l) v ↔ ∃ p od hv, v = .ref p ∧ S p = some (.frz od (.dT hv)) ∧ hv.map (·.1) = kk ks ∧ RpL S l (hv.map (·.2)) := by simp only [Rp]
theorem Rp.ins {S : Hp} {C : Addr} {ns : List Str} {l : List D} {v : V} : Rp S (.ins C ns l) v ↔ ∃ p dx vs, v = .ref p ∧ S p = some (.ins C dx (ns.zip vs)) ∧ ns.length = vs.length ∧ RpL S l vs := by simp only [Rp]
theorem RpL.ints {S : Hp} : ∀ {xs : List Int} {vs : List V}, RpL S (xs.map D.int) vs ↔ vs = xs.map V.int
  | [], vs => by simp only [List.map_nil, RpL]
  | x :: xs, vs => by
    simp only [List.map_cons, RpL]
    constructor
    · rintro ⟨v, r, rfl, h1, h2⟩
      rw [Rp.int.mp h1, RpL.ints.mp h2]
    · rintro rfl
      exact ⟨_, _, rfl, Rp.int.mpr rfl, RpL.ints.mpr rfl⟩
theorem RpL.strs {S : Hp} : ∀ {xs : List Str} {vs : List V}, RpL S (xs.map D.str) vs ↔ vs = xs.map V.str
  | [], vs => by simp only [List.map_nil, RpL]
  | x :: xs, vs => by
    simp only [List.map_cons, RpL]
    constructor
    · rintro ⟨v, r, rfl, h1, h2⟩
      rw [Rp.str.mp h1, RpL.strs.mp h2]
    · rintro rfl
      exact ⟨_, _, rfl, Rp.str.mpr rfl, RpL.strs.mpr rfl⟩
theorem RpL.bls {S : Hp} : ∀ {xs : List Bool} {vs : List V}, RpL S (xs.map D.bl) vs ↔ vs = xs.map V.bl
  | [], vs => by simp only [List.map_nil, RpL]
  | x :: xs, vs => by
    simp only [List.map_cons, RpL]
    constructor
    · rintro ⟨v, r, rfl, h1, h2⟩
      rw [Rp.bl.mp h1, RpL.bls.mp h2]
    · rintro rfl
      exact ⟨_, _, rfl, Rp.bl.mpr rfl, RpL.bls.mpr rfl⟩
/-- lists of ints, of texts, tuples of ints -/
abbrev dI (xs : List Int) : D := .lst (xs.map .int)
abbrev dS (xs : List Str) : D := .lst (xs.map .str)
abbrev tI (xs : List Int) : D := .tup (xs.map .int)
theorem Rp.dI {S : Hp} {xs : List Int} {v : V} (h : Rp S (dI xs) v) : ∃ p, v = .ref p ∧ S p = some (.lst (xs.map .int)) := by
  obtain ⟨p, vs, h1, h2, h3⟩ := Rp.lst.mp h
  rw [RpL.ints.mp h3] at h2
  exact ⟨p, h1, h2⟩
theorem Rp.tI {S : Hp} {xs : List Int} {v : V} (h : Rp S (tI xs) v) : ∃ p, v = .ref p ∧ S p = some (.tup (xs.map .int)) := by
  obtain ⟨p, vs, h1, h2, h3⟩ := Rp.tup.mp h
  rw [RpL.ints.mp h3] at h2
  exact ⟨p, h1, h2⟩

/-! ### worlds: S what may be seen, H all -/
def NotMark : HO → Prop
  | .own _ => False
  | _ => True
/-- the memo's table: each row the tally of its word -/
def MemOk (S : Hp) (hv : List (List Key × V)) : Prop := ∃ l : List (List Int × List Int), hv.map (·.1) = kk (l.map (·.1)) ∧ RpL S (l.map fun p => D.lst (p.2.map .int)) (hv.map (·.2)) ∧ (∀ p ∈ l, p.2 = tallyL p.1 ∧ Good p.1) ∧ (l.map (·.1)).Nodup
theorem MemOk.mono {S S1 : Hp} {hv : List (List Key × V)} (h : MemOk S hv) (e : Ex S S1) : MemOk S1 hv := let ⟨l, h1, h2, h3⟩ := h; ⟨l, h1, h2.mono e, h3⟩
/-- what may be seen is there; at a mark stands a memo -/
structure Sb (S H : Hp) : Prop where
  ex : ∀ a o, S a = some o → NotMark o → H a = some o
  mem : ∀ a x, S a = some (.own x) → ∃ hv, H a = some (.dT hv) ∧ MemOk S hv
theorem Sb.at {S H : Hp} (e : Sb S H) (a : Addr) (o : HO) (q : S a = some o) (h : NotMark o := by exact trivial) : H a = some o := e.ex a o q h
instance {S H : Hp} : CoeFun (Sb S H) (fun _ => ∀ a o, S a = some o → (h : NotMark o := by exact trivial) → H a = some o) := ⟨@Sb.at S H⟩
theorem Sb.back {S H : Hp} (e : Sb S H) {p : Addr} (h : H p = none) : S p = none := by
  cases q : S p with
  | none => rfl
  | some o =>
    cases o with
    | own x => obtain ⟨hv, z, _⟩ := e.mem p x q; rw [h] at z; cases z
    | _ => have z := e.ex p _ q trivial; rw [h] at z; cases z
def NotTup : HO → Prop
  | .tup _ => False
  | _ => True
structure Le (S H S1 H1 : Hp) : Prop where
  s : Ex S S1
  h : ∀ a o, H a = some o → H1 a = some o ∨ ((∃ x, S a = some (.own x)) ∧ ∃ o1, H1 a = some o1)
  sub : Sb S1 H1
  new : ∀ a o, S a = none → H a = some o → NotTup o → S1 a = none
theorem Le.refl {S H : Hp} (e : Sb S H) : Le S H S H := ⟨.refl _, fun _ _ h => .inl h, e, fun _ _ h _ _ => h⟩
theorem Le.back {S H S1 H1 : Hp} (l : Le S H S1 H1) {p : Addr} (h : H1 p = none) : H p = none := by
  cases q : H p with
  | none => rfl
  | some o => rcases l.h p o q with z | ⟨_, o1, z⟩ <;> rw [h] at z <;> cases z
theorem Le.unmark {S H S1 H1 : Hp} (l : Le S H S1 H1) {a y : Addr} {o : HO} (m : S1 a = some (.own y)) (q : H a = some o) : ∃ x, S a = some (.own x) := by
  cases q0 : S a with
  | none =>
    exfalso
    obtain ⟨hv, z, _⟩ := l.sub.mem a y m
    cases o with
    | tup xs =>
      rcases l.h a _ q with w | ⟨⟨x, w⟩, _⟩
      · rw [z] at w; cases w
      · rw [q0] at w; cases w
    | _ => rw [l.new a _ q0 q trivial] at m; cases m
  | some u => have := l.s a u q0; rw [m] at this; cases this; exact ⟨y, rfl⟩
theorem Le.there {S H S1 H1 : Hp} (l : Le S H S1 H1) {p : Addr} (h : H p ≠ none) : H1 p ≠ none := fun z => h (l.back z)
theorem Le.trans {S H S1 H1 S2 H2 : Hp} (a : Le S H S1 H1) (b : Le S1 H1 S2 H2) : Le S H S2 H2 where
  s := a.s.trans b.s
  h := fun x o q => by
    rcases a.h x o q with z | ⟨⟨y, m⟩, o1, z⟩
    · rcases b.h x o z with w | ⟨⟨y, m⟩, o2, w⟩
      · exact .inl w
      · exact .inr ⟨a.unmark m q, o2, w⟩
    · rcases b.h x o1 z with w | ⟨_, o2, w⟩
      · exact .inr ⟨⟨y, m⟩, o1, w⟩
      · exact .inr ⟨⟨y, m⟩, o2, w⟩
  sub := b.sub
  new := fun x o h1 h2 h3 => b.new x o (a.new x o h1 h2 h3) ((a.h x o h2).elim (fun z => z) fun ⟨⟨y, m⟩, _⟩ => by rw [h1] at m; cases m) h3
/-- a new object, seen -/
theorem Le.laid {S H : Hp} {p : Addr} {o : HO} (e : Sb S H) (h : H p = none) (ho : NotMark o := by exact trivial) : Le S H (upd S p o) (upd H p o) where
  s := .new (e.back h)
  h := fun a u q => .inl (Ex.new h a u q)
  sub := ⟨fun a u q hu => by
    by_cases hp : a = p
    · subst hp; rw [upd_same] at q ⊢; exact q
    · rw [upd_ne hp] at q ⊢; exact e.ex a u q hu, fun a x q => by
    by_cases hp : a = p
    · subst hp; rw [upd_same] at q; cases q; exact ho.elim
    · rw [upd_ne hp] at q ⊢
      obtain ⟨hv, z, m⟩ := e.mem a x q
      exact ⟨hv, z, m.mono (.new (e.back h))⟩⟩
  new := fun a u h1 h2 _ => by
    have hp : a ≠ p := fun z => by rw [z, h] at h2; cases h2
    rw [upd_ne hp]; exact h1
/-- a new object, not seen -/
theorem Le.hid {S H : Hp} {p : Addr} {o : HO} (e : Sb S H) (h : H p = none) : Le S H S (upd H p o) :=
  ⟨.refl _, fun a u q => .inl (Ex.new h a u q), ⟨fun a u q hu => Ex.new h a u (e.ex a u q hu), fun a x q => let ⟨hv, z, m⟩ := e.mem a x q; ⟨hv, Ex.new h a _ z, m⟩⟩, fun _ _ h1 _ _ => h1⟩
/-- what is behind stays hidden -/
theorem Le.hidden {S H S1 H1 : Hp} (l : Le S H S1 H1) {p : Addr} {o : HO} (h1 : S p = none) (h2 : H p = some o) (ht : NotTup o := by exact trivial) : S1 p = none ∧ H1 p = some o :=
  ⟨l.new p o h1 h2 ht, (l.h p o h2).elim (fun z => z) fun ⟨⟨x, m⟩, _⟩ => by rw [h1] at m; cases m⟩
/-- a hidden object is shown at last: new since the beginning -/
theorem Le.show_ {S0 H0 S H : Hp} {p : Addr} {o : HO} (l : Le S0 H0 S H) (h0 : H0 p = none) (hs : S p = none) (h : H p = some o) (ho : NotMark o := by exact trivial) : Le S0 H0 (upd S p o) H where
  s := l.s.trans (.new hs)
  h := l.h
  sub := ⟨fun a u q hu => by
    by_cases hp : a = p
    · subst hp; rw [upd_same] at q; rw [h, q]
    · rw [upd_ne hp] at q; exact l.sub.ex a u q hu, fun a x q => by
    by_cases hp : a = p
    · subst hp; rw [upd_same] at q; cases q; exact ho.elim
    · rw [upd_ne hp] at q
      obtain ⟨hv, z, m⟩ := l.sub.mem a x q
      exact ⟨hv, z, m.mono (.new hs)⟩⟩
  new := fun a u h1 h2 h3 => by
    have hp : a ≠ p := fun z => by rw [z, h0] at h2; cases h2
    rw [upd_ne hp]; exact l.new a u h1 h2 h3
/-- a hidden table is shown as a memo -/
theorem Le.showM {S0 H0 S H : Hp} {p : Addr} {hv : List (List Key × V)} (l : Le S0 H0 S H) (h0 : H0 p = none) (hs : S p = none) (h : H p = some (.dT hv)) (hm : MemOk S hv) : Le S0 H0 (upd S p (.own 0)) H where
  s := l.s.trans (.new hs)
  h := l.h
  sub := ⟨fun a u q hu => by
    by_cases hp : a = p
    · subst hp; rw [upd_same] at q; cases q; exact hu.elim
    · rw [upd_ne hp] at q; exact l.sub.ex a u q hu, fun a x q => by
    by_cases hp : a = p
    · subst hp; exact ⟨hv, h, hm.mono (.new hs)⟩
    · rw [upd_ne hp] at q
      obtain ⟨hv, z, m⟩ := l.sub.mem a x q
      exact ⟨hv, z, m.mono (.new hs)⟩⟩
  new := fun a u h1 h2 h3 => by
    have hp : a ≠ p := fun z => by rw [z, h0] at h2; cases h2
    rw [upd_ne hp]; exact l.new a u h1 h2 h3
/-- a hidden object changes -/
theorem Le.mut {S0 H0 S H : Hp} {p : Addr} {o : HO} (l : Le S0 H0 S H) (h0 : H0 p = none) (hs : S p = none) : Le S0 H0 S (upd H p o) where
  s := l.s
  h := fun a u e => by
    have hp : a ≠ p := fun z => by rw [z, h0] at e; cases e
    rw [upd_ne hp]; exact l.h a u e
  sub := ⟨fun a u q hu => by
    have hp : a ≠ p := fun z => by rw [z, hs] at q; cases q
    rw [upd_ne hp]; exact l.sub.ex a u q hu, fun a x q => by
    have hp : a ≠ p := fun z => by rw [z, hs] at q; cases q
    rw [upd_ne hp]; exact l.sub.mem a x q⟩
  new := l.new
/-- a tuple is seen -/
theorem Le.seen {S H : Hp} {q : Addr} {vs : List V} (e : Sb S H) (h : H q = some (.tup vs)) : Le S H (upd S q (.tup vs)) H := by
  have hs : Ex S (upd S q (.tup vs)) := fun a o z => by
    by_cases ha : a = q
    · subst ha
      rw [upd_same]
      cases o with
      | own x => obtain ⟨hv, w, _⟩ := e.mem a x z; rw [h] at w; cases w
      | _ => have w := e.ex a _ z trivial; rw [h] at w; exact w
    · rw [upd_ne ha]; exact z
  refine ⟨hs, fun _ _ z => .inl z, ⟨fun a o z hu => ?_, fun a x z => ?_⟩, fun a o h1 h2 h3 => ?_⟩
  · by_cases ha : a = q
    · subst ha; rw [upd_same] at z; cases z; exact h
    · rw [upd_ne ha] at z; exact e.ex a o z hu
  · by_cases ha : a = q
    · subst ha; rw [upd_same] at z; cases z
    · rw [upd_ne ha] at z
      obtain ⟨hv, w, m⟩ := e.mem a x z
      exact ⟨hv, w, m.mono hs⟩
  · have ha : a ≠ q := fun z => by subst z; rw [h] at h2; cases h2; exact h3
    rw [upd_ne ha]; exact h1
/-- the memo changes -/
theorem Le.memo {S H : Hp} {p : Addr} {x : Addr} {hv : List (List Key × V)} (e : Sb S H) (hs : S p = some (.own x)) (hm : MemOk S hv) : Le S H S (upd H p (.dT hv)) where
  s := .refl _
  h := fun a u q => by
    by_cases hp : a = p
    · subst hp; exact .inr ⟨⟨x, hs⟩, _, upd_same⟩
    · rw [upd_ne hp]; exact .inl q
  sub := ⟨fun a u q hu => by
    have hp : a ≠ p := fun z => by rw [z, hs] at q; cases q; exact hu.elim
    rw [upd_ne hp]; exact e.ex a u q hu, fun a y q => by
    by_cases hp : a = p
    · subst hp; exact ⟨hv, upd_same, hm⟩
    · rw [upd_ne hp]; exact e.mem a y q⟩
  new := fun _ _ h1 _ _ => h1

/-! ### what the slots hold -/
inductive Av where
  | sh (d : D)
  | ol (l : List D)
  | od (ks : List (List Int)) (vs : List D)
  | oi (C : Addr) (ns : List Str) (vs : List D)
def Av.own : Av → Bool
  | .sh _ => false
  | _ => true
def SlOk (H0 S H : Hp) : Av → V → Prop
  | .sh d, v => Rp S d v
  | .ol l, v => ∃ p vs, v = .ref p ∧ H0 p = none ∧ S p = none ∧ H p = some (.lst vs) ∧ RpL S l vs
  | .od ks l, v => ∃ p hv, v = .ref p ∧ H0 p = none ∧ S p = none ∧ H p = some (.dT hv) ∧ hv.map (·.1) = kk ks ∧ RpL S l (hv.map (·.2))
  | .oi C ns l, v => ∃ p dx vs, v = .ref p ∧ H0 p = none ∧ S p = none ∧ H p = some (.ins C dx (ns.zip vs)) ∧ ns.length = vs.length ∧ RpL S l vs
theorem SlOk.mono {H0 S H S1 H1 : Hp} (l : Le S H S1 H1) {a : Av} {v : V} (h : SlOk H0 S H a v) : SlOk H0 S1 H1 a v := by
  cases a with
  | sh d => exact Rp.mono h l.s
  | ol x =>
    obtain ⟨p, vs, h1, h2, h3, h4, h5⟩ := h
    obtain ⟨q1, q2⟩ := l.hidden h3 h4
    exact ⟨p, vs, h1, h2, q1, q2, h5.mono l.s⟩
  | od ks x =>
    obtain ⟨p, vs, h1, h2, h3, h4, h5, h6⟩ := h
    obtain ⟨q1, q2⟩ := l.hidden h3 h4
    exact ⟨p, vs, h1, h2, q1, q2, h5, h6.mono l.s⟩
  | oi C ns x =>
    obtain ⟨p, dx, vs, h1, h2, h3, h4, h5, h6⟩ := h
    obtain ⟨q1, q2⟩ := l.hidden h3 h4
    exact ⟨p, dx, vs, h1, h2, q1, q2, h5, h6.mono l.s⟩
abbrev Dl := List (Option Av)
structure Ab (S0 H0 S H : Hp) (σ : L2.St) (Δ : Dl) : Prop where
  le : Le S0 H0 S H
  sl : ∀ (i : Nat) (a : Av), Δ[i]? = some (some a) → ∃ v, σ[i]? = some (some v) ∧ SlOk H0 S H a v
  ap : ∀ (i j : Nat) (a b : Av) (v : V), i ≠ j → Δ[i]? = some (some a) → Δ[j]? = some (some b) → a.own = true → b.own = true → σ[i]? = some (some v) → σ[j]? ≠ some (some v)
  len : σ.length = Δ.length
section
variable {S0 H0 S H S1 H1 : Hp} {σ : L2.St} {Δ : Dl}
theorem Ab.mono (A : Ab S0 H0 S H σ Δ) (l : Le S H S1 H1) : Ab S0 H0 S1 H1 σ Δ :=
  ⟨A.le.trans l, fun i a e => let ⟨v, h1, h2⟩ := A.sl i a e; ⟨v, h1, h2.mono l⟩, A.ap, A.len⟩
theorem Ab.sub (A : Ab S0 H0 S H σ Δ) : Sb S H := A.le.sub
theorem Ab.get (A : Ab S0 H0 S H σ Δ) {i : Nat} {d : D} (e : Δ[i]? = some (some (.sh d))) : ∃ v, σ[i]? = some (some v) ∧ Rp S d v := A.sl i _ e
/-- a slot is filled by what is seen -/
theorem Ab.set (A : Ab S0 H0 S H σ Δ) (i : Nat) {d : D} {v : V} (r : Rp S d v) : Ab S0 H0 S H (σ.set i (some v)) (Δ.set i (some (.sh d))) := by
  refine ⟨A.le, fun j a e => ?_, fun j k a b u hjk e1 e2 o1 o2 s1 => ?_, by rw [List.length_set, List.length_set, A.len]⟩
  · by_cases hj : i = j
    · subst hj
      by_cases hi : i < Δ.length
      · rw [List.getElem?_set_self hi] at e
        cases e
        exact ⟨v, by rw [List.getElem?_set_self (by rw [A.len]; exact hi)], r⟩
      · rw [List.getElem?_eq_none (by rw [List.length_set]; omega)] at e; cases e
    · rw [List.getElem?_set_ne hj] at e ⊢
      exact A.sl j a e
  · have hj : i ≠ j := fun z => by
      subst z
      by_cases hi : i < Δ.length
      · rw [List.getElem?_set_self hi] at e1; cases e1; cases o1
      · rw [List.getElem?_eq_none (by rw [List.length_set]; omega)] at e1; cases e1
    have hk : i ≠ k := fun z => by
      subst z
      by_cases hi : i < Δ.length
      · rw [List.getElem?_set_self hi] at e2; cases e2; cases o2
      · rw [List.getElem?_eq_none (by rw [List.length_set]; omega)] at e2; cases e2
    rw [List.getElem?_set_ne hj] at e1 s1
    rw [List.getElem?_set_ne hk] at e2 ⊢
    exact A.ap j k a b u hjk e1 e2 o1 o2 s1
/-- a slot is filled by a new object, hidden -/
theorem Ab.setO (A : Ab S0 H0 S H σ Δ) (l : Le S H S1 H1) (i : Nat) {a : Av} {p : Addr} (hp : H p = none) (r : SlOk H0 S1 H1 a (.ref p)) : Ab S0 H0 S1 H1 (σ.set i (some (.ref p))) (Δ.set i (some a)) := by
  have fr : ∀ (j : Nat) (b : Av), Δ[j]? = some (some b) → b.own = true → σ[j]? ≠ some (some (.ref p)) := fun j b e o q => by
    obtain ⟨v, h1, h2⟩ := A.sl j b e
    rw [q] at h1
    cases h1
    cases b with
    | sh d => cases o
    | ol x =>
      obtain ⟨p', vs, h1, _, _, h4, _⟩ := h2
      cases h1
      rw [hp] at h4; cases h4
    | od ks x =>
      obtain ⟨p', vs, h1, _, _, h4, _⟩ := h2
      cases h1
      rw [hp] at h4; cases h4
    | oi C ns x =>
      obtain ⟨p', dx, vs, h1, _, _, h4, _⟩ := h2
      cases h1
      rw [hp] at h4; cases h4
  refine ⟨A.le.trans l, fun j b e => ?_, fun j k b c u hjk e1 e2 o1 o2 s1 => ?_, by rw [List.length_set, List.length_set, A.len]⟩
  · by_cases hj : i = j
    · subst hj
      by_cases hi : i < Δ.length
      · rw [List.getElem?_set_self hi] at e
        cases e
        exact ⟨_, by rw [List.getElem?_set_self (by rw [A.len]; exact hi)], r⟩
      · rw [List.getElem?_eq_none (by rw [List.length_set]; omega)] at e; cases e
    · rw [List.getElem?_set_ne hj] at e ⊢
      obtain ⟨v, h1, h2⟩ := A.sl j b e
      exact ⟨v, h1, h2.mono l⟩
  · by_cases hj : i = j
    · subst hj
      rw [List.getElem?_set_ne hjk] at e2 ⊢
      have hi : i < σ.length := by
        by_cases hi : i < σ.length
        · exact hi
        · rw [List.getElem?_eq_none (by rw [List.length_set]; omega)] at s1; cases s1
      rw [List.getElem?_set_self hi] at s1
      cases s1
      exact fr k c e2 o2
    · rw [List.getElem?_set_ne hj] at e1 s1
      by_cases hk : i = k
      · subst hk
        intro z
        have hi : i < σ.length := by
          by_cases hi : i < σ.length
          · exact hi
          · rw [List.getElem?_eq_none (by rw [List.length_set]; omega)] at z; cases z
        rw [List.getElem?_set_self hi] at z
        cases z
        exact fr j b e1 o1 s1
      · rw [List.getElem?_set_ne hk] at e2 ⊢
        exact A.ap j k b c u hjk e1 e2 o1 o2 s1
/-- an owned object changes -/
theorem Ab.mut (A : Ab S0 H0 S H σ Δ) {i : Nat} {a b : Av} {p : Addr} {o : HO} (e : Δ[i]? = some (some a)) (ho : a.own = true) (es : σ[i]? = some (some (.ref p))) (hs : S p = none) (h0 : H0 p = none)
    (r : SlOk H0 S (upd H p o) b (.ref p)) (hb : b.own = true) : Ab S0 H0 S (upd H p o) σ (Δ.set i (some b)) := by
  have hi : i < Δ.length := (List.getElem?_eq_some_iff.mp e).1
  refine ⟨A.le.mut h0 hs, fun j c ec => ?_, fun j k c d u hjk e1 e2 o1 o2 s1 => ?_, by rw [List.length_set, A.len]⟩
  · by_cases hj : i = j
    · subst hj
      rw [List.getElem?_set_self hi] at ec
      cases ec
      exact ⟨_, es, r⟩
    · rw [List.getElem?_set_ne hj] at ec
      obtain ⟨v, h1, h2⟩ := A.sl j c ec
      refine ⟨v, h1, ?_⟩
      cases c with
      | sh d => exact h2
      | ol x =>
        obtain ⟨q, vs, g1, g2, g3, g4, g5⟩ := h2
        subst g1
        have ne : q ≠ p := fun z => by subst z; exact A.ap i j _ _ _ hj e ec ho rfl es h1
        exact ⟨q, vs, rfl, g2, g3, by rw [upd_ne ne]; exact g4, g5⟩
      | od ks x =>
        obtain ⟨q, vs, g1, g2, g3, g4, g5⟩ := h2
        subst g1
        have ne : q ≠ p := fun z => by subst z; exact A.ap i j _ _ _ hj e ec ho rfl es h1
        exact ⟨q, vs, rfl, g2, g3, by rw [upd_ne ne]; exact g4, g5⟩
      | oi C ns x =>
        obtain ⟨q, dx, vs, g1, g2, g3, g4, g5⟩ := h2
        subst g1
        have ne : q ≠ p := fun z => by subst z; exact A.ap i j _ _ _ hj e ec ho rfl es h1
        exact ⟨q, dx, vs, rfl, g2, g3, by rw [upd_ne ne]; exact g4, g5⟩
  · have get : ∀ (j : Nat) (c : Av), (Δ.set i (some b))[j]? = some (some c) → c.own = true → ∃ c', Δ[j]? = some (some c') ∧ c'.own = true := fun j c ec oc => by
      by_cases hj : i = j
      · subst hj; exact ⟨a, e, ho⟩
      · rw [List.getElem?_set_ne hj] at ec; exact ⟨c, ec, oc⟩
    obtain ⟨c', e1', o1'⟩ := get j c e1 o1
    obtain ⟨d', e2', o2'⟩ := get k d e2 o2
    exact A.ap j k c' d' u hjk e1' e2' o1' o2' s1
/-- slots forgotten -/
theorem Ab.weak {Δ' : Dl} (A : Ab S0 H0 S H σ Δ) (hl : Δ'.length = Δ.length) (w : ∀ (i : Nat) (a : Av), Δ'[i]? = some (some a) → Δ[i]? = some (some a)) : Ab S0 H0 S H σ Δ' :=
  ⟨A.le, fun i a e => A.sl i a (w i a e), fun i j a b v hij e1 e2 => A.ap i j a b v hij (w i a e1) (w j b e2), A.len.trans hl.symm⟩
/-- an owned object is shown: from now on it stands still -/
theorem Ab.shown (A : Ab S0 H0 S H σ Δ) {i : Nat} {a : Av} {d : D} {p : Addr} {o : HO} (e : Δ[i]? = some (some a)) (ho : a.own = true) (es : σ[i]? = some (some (.ref p))) (hs : S p = none) (h0 : H0 p = none) (hp : H p = some o)
    (r : Rp (upd S p o) d (.ref p)) (hmk : NotMark o := by exact trivial) : Ab S0 H0 (upd S p o) H σ (Δ.set i (some (.sh d))) := by
  have hi : i < Δ.length := (List.getElem?_eq_some_iff.mp e).1
  refine ⟨A.le.show_ h0 hs hp hmk, fun j c ec => ?_, fun j k c c2 u hjk e1 e2 o1 o2 s1 => ?_, by rw [List.length_set, A.len]⟩
  · by_cases hj : i = j
    · subst hj
      rw [List.getElem?_set_self hi] at ec
      cases ec
      exact ⟨_, es, r⟩
    · rw [List.getElem?_set_ne hj] at ec
      obtain ⟨v, h1, h2⟩ := A.sl j c ec
      refine ⟨v, h1, ?_⟩
      have ex : Ex S (upd S p o) := .new hs
      cases c with
      | sh d => exact Rp.mono h2 ex
      | ol x =>
        obtain ⟨q, vs, g1, g2, g3, g4, g5⟩ := h2
        subst g1
        have ne : q ≠ p := fun z => by subst z; exact A.ap i j _ _ _ hj e ec ho rfl es h1
        exact ⟨q, vs, rfl, g2, by rw [upd_ne ne]; exact g3, g4, g5.mono ex⟩
      | od ks x =>
        obtain ⟨q, vs, g1, g2, g3, g4, g5, g6⟩ := h2
        subst g1
        have ne : q ≠ p := fun z => by subst z; exact A.ap i j _ _ _ hj e ec ho rfl es h1
        exact ⟨q, vs, rfl, g2, by rw [upd_ne ne]; exact g3, g4, g5, g6.mono ex⟩
      | oi C ns x =>
        obtain ⟨q, dx, vs, g1, g2, g3, g4, g5, g6⟩ := h2
        subst g1
        have ne : q ≠ p := fun z => by subst z; exact A.ap i j _ _ _ hj e ec ho rfl es h1
        exact ⟨q, dx, vs, rfl, g2, by rw [upd_ne ne]; exact g3, g4, g5, g6.mono ex⟩
  · have get : ∀ (j : Nat) (c : Av), (Δ.set i (some (.sh d)))[j]? = some (some c) → c.own = true → Δ[j]? = some (some c) := fun j c ec oc => by
      by_cases hj : i = j
      · subst hj
        rw [List.getElem?_set_self hi] at ec
        cases ec; cases oc
      · rw [List.getElem?_set_ne hj] at ec; exact ec
    exact A.ap j k c c2 u hjk (get j c e1 o1) (get k c2 e2 o2) o1 o2 s1
/-- what no slot owns changes and is shown -/
theorem Ab.fresh (A : Ab S0 H0 S H σ Δ) {p : Addr} {o : HO} (h0 : H0 p = none) (hs : S p = none) (ho : ∀ (j : Nat) (c : Av), Δ[j]? = some (some c) → c.own = true → σ[j]? ≠ some (some (.ref p))) (hmk : NotMark o := by exact trivial) : Ab S0 H0 (upd S p o) (upd H p o) σ Δ := by
  refine ⟨(A.le.mut h0 hs).show_ h0 hs upd_same hmk, fun j c ec => ?_, A.ap, A.len⟩
  obtain ⟨v, h1, h2⟩ := A.sl j c ec
  refine ⟨v, h1, ?_⟩
  cases c with
  | sh d => exact Rp.mono h2 (.new hs)
  | ol x =>
    obtain ⟨q, vs, g1, g2, g3, g4, g5⟩ := h2
    subst g1
    have ne : q ≠ p := fun z => by subst z; exact ho j _ ec rfl h1
    exact ⟨q, vs, rfl, g2, by rw [upd_ne ne]; exact g3, by rw [upd_ne ne]; exact g4, g5.mono (.new hs)⟩
  | od ks x =>
    obtain ⟨q, vs, g1, g2, g3, g4, g5, g6⟩ := h2
    subst g1
    have ne : q ≠ p := fun z => by subst z; exact ho j _ ec rfl h1
    exact ⟨q, vs, rfl, g2, by rw [upd_ne ne]; exact g3, by rw [upd_ne ne]; exact g4, g5, g6.mono (.new hs)⟩
  | oi C ns x =>
    obtain ⟨q, dx, vs, g1, g2, g3, g4, g5, g6⟩ := h2
    subst g1
    have ne : q ≠ p := fun z => by subst z; exact ho j _ ec rfl h1
    exact ⟨q, dx, vs, rfl, g2, by rw [upd_ne ne]; exact g3, by rw [upd_ne ne]; exact g4, g5, g6.mono (.new hs)⟩
/-- an owned dict is frozen and shown -/
theorem Ab.frozen (A : Ab S0 H0 S H σ Δ) {i : Nat} {ks : List (List Int)} {l : List D} {p : Addr} {od : Obj} {hv : List (List Key × V)} (e : Δ[i]? = some (some (.od ks l))) (es : σ[i]? = some (some (.ref p))) (hs : S p = none) (h0 : H0 p = none) (hk : hv.map (·.1) = kk ks) (r : RpL S l (hv.map (·.2))) :
    Ab S0 H0 (upd S p (.frz od (.dT hv))) (upd H p (.frz od (.dT hv))) σ (Δ.set i (some (.sh (.dic ks l)))) := by
  have hi : i < Δ.length := (List.getElem?_eq_some_iff.mp e).1
  have B : Ab S0 H0 S H σ (Δ.set i none) := A.weak (by rw [List.length_set]) fun j a ej => by
    by_cases hj : i = j
    · subst hj; rw [List.getElem?_set_self hi] at ej; cases ej
    · rwa [List.getElem?_set_ne hj] at ej
  have B2 := (B.fresh (o := .frz od (.dT hv)) h0 hs fun j c ec oc z => by
    by_cases hj : i = j
    · subst hj; rw [List.getElem?_set_self hi] at ec; cases ec
    · rw [List.getElem?_set_ne hj] at ec
      exact A.ap i j _ _ _ hj e ec rfl oc es z).set i (d := .dic ks l) (v := .ref p) (Rp.dic.mpr ⟨p, od, hv, rfl, upd_same, hk, r.mono (.new hs)⟩)
  have e1 : σ.set i (some (.ref p)) = σ := by
    apply List.ext_getElem?
    intro j
    by_cases hj : i = j
    · subst hj
      rw [List.getElem?_set_self (List.getElem?_eq_some_iff.mp es).1, es]
    · rw [List.getElem?_set_ne hj]
  rw [e1, List.set_set] at B2
  exact B2
end
end Bb
end
section
set_option maxRecDepth 100000
set_option maxHeartbeats 4000000
/-! B2: judgements on data, expressions. -/
namespace Bb
open PySem PySem.Spec PyProof.Rows L2
structure Box (p : Prop) : Prop where
  out : p

/-! ### what an expression, a test, a statement asks: by itself -/
def WE (X : Cx) (e : Expr) : TE := fun σ H Q => Box (∀ (pins : List (Addr × Obj)) (s : Shared), Inv X pins σ H s → wpAny (model X.prog X.w) X.A (eval e X.env) (EP X pins σ Q) X.xe s)
def WT (X : Cx) (e : Expr) : TT := fun σ H Q => Box (∀ (pins : List (Addr × Obj)) (s : Shared), Inv X pins σ H s → wpAny (model X.prog X.w) X.A (isTrue e X.env (eval e X.env)) (TP X pins σ Q) X.xe s)
def WA (X : Cx) (es : List Expr) : TA := fun σ H Q => Box (∀ (pos : Pos) (pins : List (Addr × Obj)) (s : Shared), Inv X pins σ H s → wpAny (model X.prog X.w) X.A (spliced (backTo pos (starEach es X.env))) (AP X pins σ Q) X.xe s)
def WS (X : Cx) (st : Stmt) : TS := fun D σ H => Box (∀ (pins : List (Addr × Obj)) (s : Shared), Inv X pins σ H s → wpAny (model X.prog X.w) X.A (exec st X.env) (SP X pins D) X.xe s)
def WSs (X : Cx) (sts : List Stmt) : TS := fun D σ H => Box (∀ (pins : List (Addr × Obj)) (s : Shared), Inv X pins σ H s → wpAny (model X.prog X.w) X.A (execs sts X.env) (SP X pins D) X.xe s)
section
variable {X : Cx} {e : Expr} {es : List Expr} {st : Stmt} {sts : List Stmt}
theorem WE.pe : PE X e (WE X e) := ⟨fun pins s σ H Q I h => h.out pins s I⟩
theorem WT.pt : PT X e (WT X e) := ⟨fun pins s σ H Q I h => h.out pins s I⟩
theorem WA.pa : PA X es (WA X es) := ⟨fun pos pins s σ H Q I h => h.out pos pins s I⟩
theorem WS.ps : PS X st (WS X st) := ⟨fun pins s σ H D I h => h.out pins s I⟩
theorem WSs.pss : PSs X sts (WSs X sts) := ⟨fun pins s σ H D I h => h.out pins s I⟩
theorem WE.of {t : TE} (h : PE X e t) {σ : L2.St} {H : Hp} {Q : VK} (q : t σ H Q) : WE X e σ H Q := ⟨fun pins s I => h.run pins s σ H Q I q⟩
theorem WT.of {t : TT} (h : PT X e t) {σ : L2.St} {H : Hp} {Q : Bool → Hp → Prop} (q : t σ H Q) : WT X e σ H Q := ⟨fun pins s I => h.run pins s σ H Q I q⟩
theorem WA.of {t : TA} (h : PA X es t) {σ : L2.St} {H : Hp} {Q : List V → Hp → Prop} (q : t σ H Q) : WA X es σ H Q := ⟨fun pos pins s I => h.run pos pins s σ H Q I q⟩
theorem WS.of {t : TS} (h : PS X st t) {D : Ends} {σ : L2.St} {H : Hp} (q : t D σ H) : WS X st D σ H := ⟨fun pins s I => h.run pins s σ H D I q⟩
theorem WSs.of {t : TS} (h : PSs X sts t) {D : Ends} {σ : L2.St} {H : Hp} (q : t D σ H) : WSs X sts D σ H := ⟨fun pins s I => h.run pins s σ H D I q⟩
end

/-! ### a value comes: what is told of it -/
def Post (S H : Hp) : Av → VK → Prop
  | .sh d, Q => ∀ v S1 H1, Le S H S1 H1 → Rp S1 d v → Q v H1
  | .ol l, Q => ∀ p vs S1 H1, Le S H S1 H1 → H p = none → S1 p = none → H1 p = some (.lst vs) → RpL S1 l vs → Q (.ref p) H1
  | .od ks l, Q => ∀ p hv S1 H1, Le S H S1 H1 → H p = none → S1 p = none → H1 p = some (.dT hv) → hv.map (·.1) = kk ks → RpL S1 l (hv.map (·.2)) → Q (.ref p) H1
  | .oi C ns l, Q => ∀ p dx vs S1 H1, Le S H S1 H1 → H p = none → S1 p = none → H1 p = some (.ins C dx (ns.zip vs)) → ns.length = vs.length → RpL S1 l vs → Q (.ref p) H1
theorem Post.pure {S H : Hp} {d : D} {Q : VK} {v : V} (e : Sb S H) (k : Post S H (.sh d) Q) (r : Rp S d v) : Q v H := k v S H (.refl e) r
theorem Post.newL {S H : Hp} {l : List D} {Q : VK} {p : Addr} {vs : List V} (e : Sb S H) (k : Post S H (.ol l) Q) (hp : H p = none) (r : RpL S l vs) : Q (.ref p) (upd H p (.lst vs)) :=
  k p vs S _ (.hid e hp) hp (e.back hp) upd_same r
theorem Post.newT {S H : Hp} {l : List D} {Q : VK} {p : Addr} {vs : List V} (e : Sb S H) (k : Post S H (.sh (.tup l)) Q) (hp : H p = none) (r : RpL S l vs) : Q (.ref p) (upd H p (.tup vs)) :=
  k _ (upd S p (.tup vs)) _ (.laid e hp) (Rp.tup.mpr ⟨p, vs, rfl, upd_same, r.mono (.new (e.back hp))⟩)
theorem Post.mono {S H S1 H1 : Hp} {a : Av} {Q : VK} (l : Le S H S1 H1) (k : Post S H a Q) : Post S1 H1 a Q := by
  have bk : ∀ p, H1 p = none → H p = none := fun p h => l.back h
  cases a with
  | sh d => exact fun v S2 H2 l2 r => k v S2 H2 (l.trans l2) r
  | ol x => exact fun p vs S2 H2 l2 h1 h2 h3 h4 => k p vs S2 H2 (l.trans l2) (bk p h1) h2 h3 h4
  | od ks x => exact fun p vs S2 H2 l2 h1 h2 h3 h4 h5 => k p vs S2 H2 (l.trans l2) (bk p h1) h2 h3 h4 h5
  | oi C ns x => exact fun p dx vs S2 H2 l2 h1 h2 h3 h4 h5 => k p dx vs S2 H2 (l.trans l2) (bk p h1) h2 h3 h4 h5
def Av.shown : Av → D
  | .sh d => d
  | .ol l => .lst l
  | .od ks vs => .dic ks vs
  | .oi C ns vs => .ins C ns vs
theorem Post.to {S H : Hp} {a b : Av} {Q : VK} (k : Post S H a Q) (e : a = b) : Post S H b Q := e ▸ k
/-- a new object may be shown at once -/
theorem Post.hide {S H : Hp} {a : Av} {Q : VK} (hn : ∀ ks l, a ≠ .od ks l) (k : Post S H (.sh a.shown) Q) : Post S H a Q := by
  have new : ∀ {S1 H1 : Hp} {p : Addr} {o : HO}, Le S H S1 H1 → H p = none → S1 p = none → H1 p = some o → NotMark o → Le S H (upd S1 p o) H1 := fun {S1 H1 p o} l h1 h2 h3 h4 => l.show_ h1 h2 h3 h4
  cases a with
  | sh d => exact k
  | ol x => exact fun p vs S1 H1 l h1 h2 h3 r => k _ _ _ (new l h1 h2 h3 trivial) (Rp.lst.mpr ⟨p, vs, rfl, upd_same, r.mono (.new h2)⟩)
  | od ks x => exact absurd rfl (hn ks x)
  | oi C ns x => exact fun p dx vs S1 H1 l h1 h2 h3 h4 r => k _ _ _ (new l h1 h2 h3 trivial) (Rp.ins.mpr ⟨p, dx, vs, rfl, upd_same, h4, r.mono (.new h2)⟩)

/-! ### the judgements -/
def Ev (X : Cx) (Δ : Dl) (e : Expr) (a : Av) : Prop := ∀ (S0 H0 S H : Hp) (σ : L2.St), Ab S0 H0 S H σ Δ → ∀ Q : VK, Post S H a Q → WE X e σ H Q
abbrev Ed (X : Cx) (Δ : Dl) (e : Expr) (d : D) : Prop := Ev X Δ e (.sh d)
def Et (X : Cx) (Δ : Dl) (e : Expr) (b : Bool) : Prop := ∀ (S0 H0 S H : Hp) (σ : L2.St), Ab S0 H0 S H σ Δ → ∀ Q : Bool → Hp → Prop, (∀ S1 H1, Le S H S1 H1 → Q b H1) → WT X e σ H Q
def Ea (X : Cx) (Δ : Dl) (es : List Expr) (ds : List D) : Prop := ∀ (S0 H0 S H : Hp) (σ : L2.St), Ab S0 H0 S H σ Δ → ∀ Q : List V → Hp → Prop, (∀ vs S1 H1, Le S H S1 H1 → RpL S1 ds vs → Q vs H1) → WA X es σ H Q
/-- an operation by values -/
def R2D (r : R2) (x y : D) (a : Av) : Prop := ∀ (S H : Hp) (u v : V), Sb S H → Rp S x u → Rp S y v → ∀ Q : VK, Post S H a Q → r u v H Q
def R1D (r : V → Hp → VK → Prop) (x : D) (a : Av) : Prop := ∀ (S H : Hp) (u : V), Sb S H → Rp S x u → ∀ Q : VK, Post S H a Q → r u H Q
def RcD (r : List V → Hp → VK → Prop) (ds : List D) (a : Av) : Prop := ∀ (S H : Hp) (vs : List V), Sb S H → RpL S ds vs → ∀ Q : VK, Post S H a Q → r vs H Q
def RmD (r : V → List V → Hp → VK → Prop) (x : D) (ds : List D) (a : Av) : Prop := ∀ (S H : Hp) (u : V) (vs : List V), Sb S H → Rp S x u → RpL S ds vs → ∀ Q : VK, Post S H a Q → r u vs H Q
section
variable {X : Cx} {Δ : Dl} {e a b c : Expr} {es : List Expr} {pos : Pos} {d x y z : D} {av : Av}
/-- a new dict is frozen from now on -/
def tFrz (t : TE) : TE := fun σ H Q => t σ H fun v H1 => ∃ d u, H1 d = some u ∧ L2.Mut (some u) ∧ ∀ od, Q v (upd H1 d (.frz od u))
theorem pe_frz {t : TE} (h : PE X e t) : PE X e (tFrz t) := ⟨fun pins s σ H Q I hw => thn (h.run pins s σ H _ I hw) fun v s1 ⟨x, H1, I1, r, d, u, hd, mu, q⟩ => let ⟨od, I2⟩ := I1.lock hd mu; ⟨x, _, I2, r, q od⟩⟩
theorem Ev.show (h : Ev X Δ e av) : Ed X Δ e av.shown := by
  have pl : (∀ ks l, av ≠ .od ks l) → Ed X Δ e av.shown := fun hn S0 H0 S H σ A Q k => h S0 H0 S H σ A Q (k.hide hn)
  cases av with
  | sh d => exact pl fun _ _ z => nomatch z
  | ol l => exact pl fun _ _ z => nomatch z
  | oi C ns l => exact pl fun _ _ z => nomatch z
  | od ks l =>
    intro S0 H0 S H σ A Q k
    refine WE.of (pe_frz WE.pe) ?_
    refine h S0 H0 S H σ A _ fun p hv S1 H1 l1 hp hs hd hk r => ⟨p, .dT hv, hd, trivial, fun od => ?_⟩
    exact k _ (upd S1 p (.frz od (.dT hv))) _ ((l1.mut hp hs).show_ hp hs upd_same) (Rp.dic.mpr ⟨p, od, hv, rfl, upd_same, hk, r.mono (.new hs)⟩)
theorem Ev.lst {l : List D} (h : Ev X Δ e (.ol l)) : Ed X Δ e (.lst l) := h.show
theorem Ev.dic {ks : List (List Int)} {l : List D} (h : Ev X Δ e (.od ks l)) : Ed X Δ e (.dic ks l) := h.show
theorem Ed.to {d' : D} (h : Ed X Δ e d) (q : d = d') : Ed X Δ e d' := q ▸ h
theorem Ev.to {a' : Av} (h : Ev X Δ e av) (q : av = a') : Ev X Δ e a' := q ▸ h
theorem Et.to {b b' : Bool} (h : Et X Δ e b) (q : b = b') : Et X Δ e b' := q ▸ h

/-! names, constants -/
theorem ed_var (i : Nat) {x : Str} (hd : Δ[i]? = some (some (.sh d)) := by rfl) (hN : X.N[i]? = some x := by rfl)
    (hv : Vis X.env.scope x := by first | exact Or.inl rfl | exact Or.inr (Or.inl rfl) | exact Or.inr (Or.inr rfl)) (hdb : (x == ("__debug__" : Str)) = false := by decide) (hcd : (x == ("__classdict__" : Str)) = false := by decide) : Ed X Δ (.Name x pos) d :=
  fun S0 H0 S H σ A Q k => WE.of (pe_var hN hv hdb hcd) (let ⟨v, h1, h2⟩ := A.get hd; ⟨v, h1, Post.pure A.sub k h2⟩)
theorem ed_int {i : Int} {j : Nat} : Ed X Δ (.Constant (.int i) j pos) (.int i) := fun S0 H0 S H σ A Q k => WE.of pe_int (Post.pure A.sub k (Rp.int.mpr rfl))
theorem ed_bl {i : Bool} {j : Nat} : Ed X Δ (.Constant (.bool i) j pos) (.bl i) := fun S0 H0 S H σ A Q k => WE.of pe_bl (Post.pure A.sub k (Rp.bl.mpr rfl))
theorem ed_non {j : Nat} : Ed X Δ (.Constant .none j pos) .non := fun S0 H0 S H σ A Q k => WE.of pe_non (Post.pure A.sub k (Rp.non.mpr rfl))
theorem ed_str {i : Str} {j : Nat} : Ed X Δ (.Constant (.str i) j pos) (.str i) := fun S0 H0 S H σ A Q k => WE.of pe_str (Post.pure A.sub k (Rp.str.mpr rfl))

/-! operators -/
theorem ev_bin {op : Operator} {r : R2} (ho : OpR X (binaryOp op) r) (ha : Ed X Δ a x) (hb : Ed X Δ b y) (hr : R2D r x y av) : Ev X Δ (.BinOp a op b pos) av := by
  intro S0 H0 S H σ A Q k
  refine WE.of (pe_op ho WE.pe WE.pe) ?_
  refine ha S0 H0 S H σ A _ fun u S1 H1 l1 r1 => ?_
  refine hb S0 H0 S1 H1 σ (A.mono l1) _ fun v S2 H2 l2 r2 => ?_
  exact hr S2 H2 u v l2.sub (r1.mono l2.s) r2 Q (k.mono (l1.trans l2))
theorem ev_cmp {op : CmpOp} {r : R2} (ho : OpR X (compareOp op) r) (ha : Ed X Δ a x) (hb : Ed X Δ b y) (hr : R2D r x y av) (hm : behindInMarks op b = false := by first | exact nomark _ | rfl) : Ev X Δ (.Compare a [op] [b] pos) av := by
  intro S0 H0 S H σ A Q k
  refine WE.of (pe_cmpR ho WE.pe WE.pe hm) ?_
  refine ha S0 H0 S H σ A _ fun u S1 H1 l1 r1 => ?_
  refine hb S0 H0 S1 H1 σ (A.mono l1) _ fun v S2 H2 l2 r2 => ?_
  exact hr S2 H2 u v l2.sub (r1.mono l2.s) r2 Q (k.mono (l1.trans l2))
theorem et_cmp {op : CmpOp} {r : R2} {t : Bool} (ho : OpR X (compareOp op) r) (ha : Ed X Δ a x) (hb : Ed X Δ b y) (hr : R2D r x y (.sh (.bl t))) (hm : behindInMarks op b = false := by first | exact nomark _ | rfl) : Et X Δ (.Compare a [op] [b] pos) t := by
  intro S0 H0 S H σ A Q k
  refine WT.of (pt_cmpR ho WE.pe WE.pe hm) ?_
  refine ha S0 H0 S H σ A _ fun u S1 H1 l1 r1 => ?_
  refine hb S0 H0 S1 H1 σ (A.mono l1) _ fun v S2 H2 l2 r2 => ?_
  exact hr S2 H2 u v l2.sub (r1.mono l2.s) r2 _ fun w S3 H3 l3 r3 => ⟨t, Rp.bl.mp r3, k S3 H3 (l1.trans (l2.trans l3))⟩
/-- a < b < c -/
theorem et_chain {op op' : CmpOp} {r r' : R2} {t t' : Bool} (ho : OpR X (compareOp op) r) (ho' : OpR X (compareOp op') r') (ha : Ed X Δ a x) (hb : Ed X Δ b y) (hc : Ed X Δ c z) (hr : R2D r x y (.sh (.bl t))) (hr' : t = true → R2D r' y z (.sh (.bl t')))
    (hm : lastMarks [op, op'] [b, c] = false := by rfl) : Et X Δ (.Compare a [op, op'] [b, c] pos) (t && t') := by
  intro S0 H0 S H σ A Q k
  refine WT.of (pt_chain ho ho' WE.pe WE.pe WE.pe hm) ?_
  refine ha S0 H0 S H σ A _ fun u S1 H1 l1 r1 => ?_
  refine hb S0 H0 S1 H1 σ (A.mono l1) _ fun v S2 H2 l2 r2 => ?_
  refine hr S2 H2 u v l2.sub (r1.mono l2.s) r2 _ fun w S3 H3 l3 r3 => ⟨t, Rp.bl.mp r3, ?_⟩
  have l13 := l1.trans (l2.trans l3)
  cases t with
  | false => exact iteF ⟨false, rfl, k S3 H3 l13⟩
  | true =>
    refine iteT ?_
    refine hc S0 H0 S3 H3 σ (A.mono l13) _ fun w' S4 H4 l4 r4 => ?_
    exact hr' rfl S4 H4 v w' l4.sub (r2.mono (l3.s.trans l4.s)) r4 _ fun q S5 H5 l5 r5 => ⟨t', Rp.bl.mp r5, k S5 H5 (l13.trans (l4.trans l5))⟩
/-! tests -/
theorem et_val {t : Bool} (h : Ed X Δ e (.bl t)) (he : ∀ whole, isTrue e X.env whole = (do let v ← whole; standAt e.pos; holding [v] (truthy v)) := by intro _; rfl) : Et X Δ e t := by
  intro S0 H0 S H σ A Q k
  refine WT.of (pt_val WE.pe he) ?_
  exact h S0 H0 S H σ A _ fun v S1 H1 l1 r1 => ⟨t, Rp.bl.mp r1, k S1 H1 l1⟩
theorem et_not {t : Bool} (h : Et X Δ e t) : Et X Δ (.UnaryOp .Not e pos) (!t) := by
  intro S0 H0 S H σ A Q k
  refine WT.of (pt_not WT.pt) ?_
  exact h S0 H0 S H σ A _ fun S1 H1 l1 => k S1 H1 l1
/-- and, or: the terms one by one -/
def Ew (X : Cx) (Δ : Dl) (e : Expr) (t : Bool) : Prop := ∀ (S0 H0 S H : Hp) (σ : L2.St), Ab S0 H0 S H σ Δ → ∀ Q : Bool → Hp → Prop, (∀ S1 H1, Le S H S1 H1 → Q t H1) → ∃ tt : TT, PW X e tt ∧ tt σ H Q
def tPW (X : Cx) (e : Expr) : TT := fun σ H Q => Box (∀ (wh : Sem Value) (pins : List (Addr × Obj)) (s : Shared), Inv X pins σ H s → wpAny (model X.prog X.w) X.A (isTrue e X.env wh) (TP X pins σ Q) X.xe s)
theorem tPW.pw : PW X e (tPW X e) := ⟨fun wh pins s σ H Q I h => h.out wh pins s I⟩
theorem Ew.et {t : Bool} (h : Ew X Δ e t) : Et X Δ e t := fun S0 H0 S H σ A Q k => let ⟨tt, h1, h2⟩ := h S0 H0 S H σ A Q k; WT.of h1.pt h2
theorem ew_and1 {t : Bool} (h : Et X Δ a t) : Ew X Δ (.BoolOp .And [a] pos) t := fun S0 H0 S H σ A Q k => ⟨_, pw_and1 WT.pt, h S0 H0 S H σ A Q k⟩
theorem ew_or1 {t : Bool} (h : Et X Δ a t) : Ew X Δ (.BoolOp .Or [a] pos) t := fun S0 H0 S H σ A Q k => ⟨_, pw_or1 WT.pt, h S0 H0 S H σ A Q k⟩
theorem tPW.of {tt : TT} (h : PW X e tt) {σ : L2.St} {H : Hp} {Q : Bool → Hp → Prop} (q : tt σ H Q) : tPW X e σ H Q := ⟨fun wh pins s I => h.run wh pins s σ H Q I q⟩
theorem ew_and {t u : Bool} {rest : List Expr} (h : Et X Δ a t) (hr : t = true → Ew X Δ (.BoolOp .And (b :: rest) pos) u) : Ew X Δ (.BoolOp .And (a :: b :: rest) pos) (t && u) := by
  intro S0 H0 S H σ A Q k
  refine ⟨_, pw_and WT.pt tPW.pw, ?_⟩
  refine h S0 H0 S H σ A _ fun S1 H1 l1 => ?_
  cases t with
  | false => exact iteF (k S1 H1 l1)
  | true =>
    refine iteT ?_
    obtain ⟨tt, h1, h2⟩ := hr rfl S0 H0 S1 H1 σ (A.mono l1) Q fun S2 H2 l2 => k S2 H2 (l1.trans l2)
    exact tPW.of h1 h2
theorem ew_or {t u : Bool} {rest : List Expr} (h : Et X Δ a t) (hr : t = false → Ew X Δ (.BoolOp .Or (b :: rest) pos) u) : Ew X Δ (.BoolOp .Or (a :: b :: rest) pos) (t || u) := by
  intro S0 H0 S H σ A Q k
  refine ⟨_, pw_or WT.pt tPW.pw, ?_⟩
  refine h S0 H0 S H σ A _ fun S1 H1 l1 => ?_
  cases t with
  | true => exact iteT (k S1 H1 l1)
  | false =>
    refine iteF ?_
    obtain ⟨tt, h1, h2⟩ := hr rfl S0 H0 S1 H1 σ (A.mono l1) Q fun S2 H2 l2 => k S2 H2 (l1.trans l2)
    exact tPW.of h1 h2
/-- .. as values -/
theorem ed_one {op : BoolOp} (h : Ed X Δ a d) : Ed X Δ (.BoolOp op [a] pos) d := fun S0 H0 S H σ A Q k => WE.of (pe_one WE.pe) (h S0 H0 S H σ A Q k)
theorem ed_and {t u : Bool} {rest : List Expr} (h : Ed X Δ a (.bl t)) (hr : t = true → Ed X Δ (.BoolOp .And (b :: rest) pos) (.bl u)) : Ed X Δ (.BoolOp .And (a :: b :: rest) pos) (.bl (t && u)) := by
  intro S0 H0 S H σ A Q k
  refine WE.of (pe_and WE.pe WE.pe) ?_
  refine h S0 H0 S H σ A _ fun v S1 H1 l1 r1 => ⟨t, Rp.bl.mp r1, ?_⟩
  cases t with
  | false => exact iteF (k _ S1 H1 l1 (Rp.bl.mpr rfl))
  | true => exact iteT (hr rfl S0 H0 S1 H1 σ (A.mono l1) Q (Post.mono l1 k))
theorem ed_not {t : Bool} (h : Ed X Δ a (.bl t)) : Ed X Δ (.UnaryOp .Not a pos) (.bl (!t)) := by
  intro S0 H0 S H σ A Q k
  refine WE.of (pe_not WE.pe) ?_
  exact h S0 H0 S H σ A _ fun v S1 H1 l1 r1 => ⟨t, Rp.bl.mp r1, k _ S1 H1 l1 (Rp.bl.mpr rfl)⟩
theorem ev_if {t : Bool} (hc : Et X Δ c t) (ha : t = true → Ev X Δ a av) (hb : t = false → Ev X Δ b av) : Ev X Δ (.IfExp c a b pos) av := by
  intro S0 H0 S H σ A Q k
  refine WE.of (pe_ifExp WT.pt WE.pe WE.pe) ?_
  refine hc S0 H0 S H σ A _ fun S1 H1 l1 => ?_
  cases t with
  | true => exact iteT (ha rfl S0 H0 S1 H1 σ (A.mono l1) Q (k.mono l1))
  | false => exact iteF (hb rfl S0 H0 S1 H1 σ (A.mono l1) Q (k.mono l1))

/-! arguments, displays, calls -/
theorem ea_nil : Ea X Δ [] [] := fun S0 H0 S H σ A Q k => WA.of pa_nil (k [] S H (.refl A.sub) .nil)
theorem ea_cons {ds : List D} (h : Ed X Δ e d) (hr : Ea X Δ es ds) (hs : starEach (e :: es) X.env = (false, eval e X.env) :: starEach es X.env := by rfl) : Ea X Δ (e :: es) (d :: ds) := by
  intro S0 H0 S H σ A Q k
  refine WA.of (pa_cons WE.pe WA.pa hs) ?_
  refine h S0 H0 S H σ A _ fun v S1 H1 l1 r1 => ?_
  exact hr S0 H0 S1 H1 σ (A.mono l1) _ fun vs S2 H2 l2 r2 => k _ S2 H2 (l1.trans l2) (.cons (r1.mono l2.s) r2)
theorem ed_tup {ds : List D} {j : Nat} (h : Ea X Δ es ds) (hl : ds.length ≤ 1000000 := by first | decide | (simp; done) | omega) : Ed X Δ (.Tuple es j pos) (.tup ds) := by
  intro S0 H0 S H σ A Q k
  refine WE.of (pe_tup WA.pa) ?_
  refine h S0 H0 S H σ A _ fun vs S1 H1 l1 r1 => ⟨by rw [← r1.len, sizeLine_eq]; omega, fun p hp => ?_⟩
  exact Post.newT l1.sub (Post.mono (a := .sh _) l1 k) hp r1
theorem ev_lst {ds : List D} (h : Ea X Δ es ds) (hl : ds.length ≤ 1000000 := by first | decide | (simp; done) | omega) : Ev X Δ (.List es pos) (.ol ds) := by
  intro S0 H0 S H σ A Q k
  refine WE.of (pe_lst WA.pa) ?_
  refine h S0 H0 S H σ A _ fun vs S1 H1 l1 r1 => ⟨by rw [← r1.len, sizeLine_eq]; omega, fun p hp => ?_⟩
  exact Post.newL l1.sub (Post.mono (a := .ol _) l1 k) hp r1
theorem ev_callB {x : Str} {p : Pos} {id : String} {ds : List D} {r : List V → Hp → VK → Prop} (hc : CallR X (.builtin id) r) (ha : Ea X Δ (e :: es) ds) (hr : RcD r ds av) (hm : X.mg x = none) (hv : bootBuiltins x = some (.builtin id) := by decide +kernel) (hg : Gl X x := by rfl)
    (hn : x ≠ "__name__" := by decide) (hdb : (x == ("__debug__" : Str)) = false := by decide)
    (he : starEach (e :: es) X.env = (false, eval e X.env) :: starEach es X.env := by rfl) (hpl : (backTo pos (starEach es X.env)).any (·.1) = false := by rfl) : Ev X Δ (.Call (.Name x p) (e :: es) [] pos) av := by
  intro S0 H0 S H σ A Q k
  refine WE.of (pe_callB hc hg hm hv WA.pa hn hdb he hpl) ?_
  exact ha S0 H0 S H σ A _ fun vs S1 H1 l1 r1 => hr S1 H1 vs l1.sub r1 Q (k.mono l1)
theorem ev_callTy {x : Str} {p : Pos} {T : String} {ds : List D} {r : List V → Hp → VK → Prop} (hc : CallR X (.type T) r) (ha : Ea X Δ (e :: es) ds) (hr : RcD r ds av) (hm : X.mg x = none) (hv : bootBuiltins x = some (.type T) := by decide +kernel) (hg : Gl X x := by rfl)
    (hn : x ≠ "__name__" := by decide) (hdb : (x == ("__debug__" : Str)) = false := by decide)
    (he : starEach (e :: es) X.env = (false, eval e X.env) :: starEach es X.env := by rfl) (hpl : (backTo pos (starEach es X.env)).any (·.1) = false := by rfl) : Ev X Δ (.Call (.Name x p) (e :: es) [] pos) av := by
  intro S0 H0 S H σ A Q k
  refine WE.of (pe_callTy hc hg hm hv WA.pa hn hdb he hpl) ?_
  exact ha S0 H0 S H σ A _ fun vs S1 H1 l1 r1 => hr S1 H1 vs l1.sub r1 Q (k.mono l1)
theorem ev_ix {r : R2} (hr : IxR X r) (ha : Ed X Δ a x) (hb : Ed X Δ b y) (h : R2D r x y av) (hs : PlainIx b := by intro _ _; rfl) : Ev X Δ (.Subscript a b pos) av := by
  intro S0 H0 S H σ A Q k
  refine WE.of (pe_ix hr WE.pe WE.pe hs) ?_
  refine ha S0 H0 S H σ A _ fun u S1 H1 l1 r1 => ?_
  refine hb S0 H0 S1 H1 σ (A.mono l1) _ fun v S2 H2 l2 r2 => ?_
  exact h S2 H2 u v l2.sub (r1.mono l2.s) r2 Q (k.mono (l1.trans l2))
end
end Bb
end
section
set_option maxRecDepth 100000
set_option maxHeartbeats 4000000
/-! B3: operations by data. -/
namespace Bb
open PySem PySem.Spec PyProof.Rows L2

section
variable {X : Cx} {Δ : Dl} {e a b c : Expr} {es : List Expr} {pos : Pos} {d x y z : D} {av : Av}
/-! ### ints -/
theorem r2_I0 {g : Int → Int → V} {i j : Int} (h : ∀ S, Rp S d (g i j)) : R2D (rI0 g) (.int i) (.int j) (.sh d) := fun S H u v e h1 h2 Q k => ⟨i, j, Rp.int.mp h1, Rp.int.mp h2, Post.pure e k (h S)⟩
theorem r2_I {C : Int → Int → Prop} {g : Int → Int → V} {i j : Int} (hc : C i j) (h : ∀ S, Rp S d (g i j)) : R2D (rI C g) (.int i) (.int j) (.sh d) := fun S H u v e h1 h2 Q k => ⟨i, j, Rp.int.mp h1, Rp.int.mp h2, hc, Post.pure e k (h S)⟩
section
variable {i j : Int}
theorem ed_add (ha : Ed X Δ a (.int i)) (hb : Ed X Δ b (.int j)) : Ed X Δ (.BinOp a .Add b pos) (.int (i + j)) := ev_bin op_add ha hb (r2_I0 fun _ => Rp.int.mpr rfl)
theorem ed_sub (ha : Ed X Δ a (.int i)) (hb : Ed X Δ b (.int j)) : Ed X Δ (.BinOp a .Sub b pos) (.int (i - j)) := ev_bin op_sub ha hb (r2_I0 fun _ => Rp.int.mpr rfl)
theorem ed_mul (ha : Ed X Δ a (.int i)) (hb : Ed X Δ b (.int j)) (hc : CMul i j) : Ed X Δ (.BinOp a .Mult b pos) (.int (i * j)) := ev_bin op_mul ha hb (r2_I hc fun _ => Rp.int.mpr rfl)
theorem ed_fdiv (ha : Ed X Δ a (.int i)) (hb : Ed X Δ b (.int j)) (hc : 0 < j ∧ j < 1073741824) : Ed X Δ (.BinOp a .FloorDiv b pos) (.int (i / j)) := ev_bin op_fdiv ha hb (r2_I hc fun _ => Rp.int.mpr rfl)
theorem ed_mod (ha : Ed X Δ a (.int i)) (hb : Ed X Δ b (.int j)) (hc : 0 < j) : Ed X Δ (.BinOp a .Mod b pos) (.int (i % j)) := ev_bin op_mod ha hb (r2_I hc fun _ => Rp.int.mpr rfl)
theorem ed_pow (ha : Ed X Δ a (.int i)) (hb : Ed X Δ b (.int j)) (hc : CPow i j) : Ed X Δ (.BinOp a .Pow b pos) (.int (i ^ j.toNat)) := ev_bin op_pow ha hb (r2_I hc fun _ => Rp.int.mpr rfl)
theorem ed_neg (ha : Ed X Δ a (.int i)) : Ed X Δ (.UnaryOp .USub a pos) (.int (-i)) := by
  intro S0 H0 S H σ A Q k
  refine WE.of (pe_un un_neg WE.pe) ?_
  exact ha S0 H0 S H σ A _ fun u S1 H1 l1 r1 => ⟨i, Rp.int.mp r1, k _ S1 H1 l1 (Rp.int.mpr rfl)⟩
theorem et_lt (ha : Ed X Δ a (.int i)) (hb : Ed X Δ b (.int j)) : Et X Δ (.Compare a [.Lt] [b] pos) (decide (i < j)) := et_cmp op_lt ha hb (r2_I0 fun _ => Rp.bl.mpr rfl)
theorem et_le (ha : Ed X Δ a (.int i)) (hb : Ed X Δ b (.int j)) : Et X Δ (.Compare a [.LtE] [b] pos) (decide (i ≤ j)) := et_cmp op_le ha hb (r2_I0 fun _ => Rp.bl.mpr rfl)
theorem et_gt (ha : Ed X Δ a (.int i)) (hb : Ed X Δ b (.int j)) : Et X Δ (.Compare a [.Gt] [b] pos) (decide (j < i)) := et_cmp op_gt ha hb (r2_I0 fun _ => Rp.bl.mpr rfl)
theorem et_ge (ha : Ed X Δ a (.int i)) (hb : Ed X Δ b (.int j)) : Et X Δ (.Compare a [.GtE] [b] pos) (decide (j ≤ i)) := et_cmp op_ge ha hb (r2_I0 fun _ => Rp.bl.mpr rfl)
theorem ed_gt (ha : Ed X Δ a (.int i)) (hb : Ed X Δ b (.int j)) : Ed X Δ (.Compare a [.Gt] [b] pos) (.bl (decide (j < i))) := ev_cmp op_gt ha hb (r2_I0 fun _ => Rp.bl.mpr rfl)
end
/-! ### == and is -/
theorem r2_eqI {i j : Int} : R2D rEq (.int i) (.int j) (.sh (.bl (decide (i = j)))) := fun S H u v e h1 h2 Q k => by
  cases Rp.int.mp h1; cases Rp.int.mp h2
  exact ⟨rfl, Post.pure e k (Rp.bl.mpr (by rw [dec_int, Bool.beq_eq_decide_eq]))⟩
theorem r2_neI {i j : Int} : R2D rNe (.int i) (.int j) (.sh (.bl (!decide (i = j)))) := fun S H u v e h1 h2 Q k => by
  cases Rp.int.mp h1; cases Rp.int.mp h2
  exact ⟨rfl, Post.pure e k (Rp.bl.mpr (by rw [dec_int, Bool.beq_eq_decide_eq]))⟩
theorem r2_eqS {i j : Str} : R2D rEq (.str i) (.str j) (.sh (.bl (decide (i = j)))) := fun S H u v e h1 h2 Q k => by
  cases Rp.str.mp h1; cases Rp.str.mp h2
  refine ⟨rfl, Post.pure e k (Rp.bl.mpr ?_)⟩
  congr 1
  by_cases h : i = j
  · subst h; simp
  · rw [decide_eq_false h, decide_eq_false fun z => h (V.str.inj z)]
theorem r2_neS {i j : Str} : R2D rNe (.str i) (.str j) (.sh (.bl (!decide (i = j)))) := fun S H u v e h1 h2 Q k => by
  cases Rp.str.mp h1; cases Rp.str.mp h2
  refine ⟨rfl, Post.pure e k (Rp.bl.mpr ?_)⟩
  congr 2
  by_cases h : i = j
  · subst h; simp
  · rw [decide_eq_false h, decide_eq_false fun z => h (V.str.inj z)]
theorem r2_neB {i j : Bool} : R2D rNe (.bl i) (.bl j) (.sh (.bl (!decide (i = j)))) := fun S H u v e h1 h2 Q k => by
  cases Rp.bl.mp h1; cases Rp.bl.mp h2
  exact ⟨rfl, Post.pure e k (Rp.bl.mpr (by rw [dec_bl, Bool.beq_eq_decide_eq]))⟩
theorem et_eqI {i j : Int} (ha : Ed X Δ a (.int i)) (hb : Ed X Δ b (.int j)) : Et X Δ (.Compare a [.Eq] [b] pos) (decide (i = j)) := et_cmp op_eq ha hb r2_eqI
theorem et_neI {i j : Int} (ha : Ed X Δ a (.int i)) (hb : Ed X Δ b (.int j)) : Et X Δ (.Compare a [.NotEq] [b] pos) (!decide (i = j)) := et_cmp op_ne ha hb r2_neI
theorem et_eqS {i j : Str} (ha : Ed X Δ a (.str i)) (hb : Ed X Δ b (.str j)) : Et X Δ (.Compare a [.Eq] [b] pos) (decide (i = j)) := et_cmp op_eq ha hb r2_eqS
theorem et_neS {i j : Str} (ha : Ed X Δ a (.str i)) (hb : Ed X Δ b (.str j)) : Et X Δ (.Compare a [.NotEq] [b] pos) (!decide (i = j)) := et_cmp op_ne ha hb r2_neS
theorem et_neB {i j : Bool} (ha : Ed X Δ a (.bl i)) (hb : Ed X Δ b (.bl j)) : Et X Δ (.Compare a [.NotEq] [b] pos) (!decide (i = j)) := et_cmp op_ne ha hb r2_neB
def D.isN : D → Bool
  | .non => true
  | _ => false
theorem Rp.isN {S : Hp} {v : V} (h : Rp S d v) : decide (v = .non) = d.isN := by
  cases d with
  | non => rw [Rp.non.mp h]; rfl
  | bl _ => rw [Rp.bl.mp h]; rfl
  | int _ => rw [Rp.int.mp h]; rfl
  | str _ => rw [Rp.str.mp h]; rfl
  | lst _ => obtain ⟨_, _, rfl, _⟩ := Rp.lst.mp h; rfl
  | tup _ => obtain ⟨_, _, rfl, _⟩ := Rp.tup.mp h; rfl
  | dic _ _ => obtain ⟨_, _, _, rfl, _⟩ := Rp.dic.mp h; rfl
  | ins _ _ _ => obtain ⟨_, _, _, rfl, _⟩ := Rp.ins.mp h; rfl
  | raw _ => rw [Rp.raw.mp h]; rfl
  | mem => obtain ⟨_, rfl, _⟩ := Rp.mem.mp h; rfl
  | la _ _ => rw [(Rp.la.mp h).1]; rfl
  | sq _ _ _ => rw [(Rp.sq.mp h).1]; rfl
theorem r2_isN : R2D (fun x y H Q => y = .non ∧ Q (.bl (decide (x = .non))) H) d .non (.sh (.bl d.isN)) := fun S H u v e h1 h2 Q k => ⟨Rp.non.mp h2, by rw [h1.isN]; exact Post.pure e k (Rp.bl.mpr rfl)⟩
theorem r2_notN : R2D (fun x y H Q => y = .non ∧ Q (.bl (!decide (x = .non))) H) d .non (.sh (.bl (!d.isN))) := fun S H u v e h1 h2 Q k => ⟨Rp.non.mp h2, by rw [h1.isN]; exact Post.pure e k (Rp.bl.mpr rfl)⟩
theorem et_isN (ha : Ed X Δ a d) {k : Nat} {p : Pos} : Et X Δ (.Compare a [.Is] [.Constant .none k p] pos) d.isN := et_cmp op_isN ha ed_non r2_isN
theorem et_notN (ha : Ed X Δ a d) {k : Nat} {p : Pos} : Et X Δ (.Compare a [.IsNot] [.Constant .none k p] pos) (!d.isN) := et_cmp op_notN ha ed_non r2_notN
theorem ed_isN (ha : Ed X Δ a d) {k : Nat} {p : Pos} : Ed X Δ (.Compare a [.Is] [.Constant .none k p] pos) (.bl d.isN) := ev_cmp op_isN ha ed_non r2_isN
theorem ed_notN (ha : Ed X Δ a d) {k : Nat} {p : Pos} : Ed X Δ (.Compare a [.IsNot] [.Constant .none k p] pos) (.bl (!d.isN)) := ev_cmp op_notN ha ed_non r2_notN
/-- x is True, x is False, whatever x is (a built-in class aside) -/
def noTy : V → Bool
  | .ty _ => false
  | _ => true
def isB (x : V) (b : Bool) : Bool := decide (x = .bl b)
theorem op_isBool {f : Bool → Bool} {op : CmpOp} (hop : (op = .Is ∧ f = id) ∨ (op = .IsNot ∧ f = not)) : OpR X (compareOp op) (fun x y H Q => ∃ b : Bool, y = .bl b ∧ noTy x = true ∧ Q (.bl (f (decide (x = .bl b)))) H) := by
  intro pins s σ H x y v u Q I rx ry h
  obtain ⟨b, rfl, hx, q⟩ := h
  cases (show u = Value.bool b from ry)
  have hp : plainIs v (.bool b) = true := by
    cases x with
    | non => cases rx; rfl
    | bl c => cases rx; rfl
    | int i => obtain ⟨t, rfl⟩ := rx; rfl
    | str i => obtain ⟨t, rfl⟩ := rx; rfl
    | byt i => obtain ⟨t, rfl⟩ := rx; rfl
    | flt i => obtain ⟨t, rfl⟩ := rx; rfl
    | ref c => cases rx; rfl
    | ty n => cases hx
  have he : (v == Value.bool b) = decide (x = .bl b) := by
    cases x with
    | non => cases rx; rfl
    | bl c =>
      cases rx
      by_cases e : c = b
      · subst e; rw [decide_eq_true rfl]; exact beq_self_eq_true _
      · rw [decide_eq_false fun z => e (V.bl.inj z)]; exact beq_eq_false_iff_ne.mpr fun z => e (Value.bool.inj z)
    | int i => obtain ⟨t, rfl⟩ := rx; rfl
    | str i => obtain ⟨t, rfl⟩ := rx; rfl
    | byt i => obtain ⟨t, rfl⟩ := rx; rfl
    | flt i => obtain ⟨t, rfl⟩ := rx; rfl
    | ref c => cases rx; rfl
    | ty n => cases hx
  rcases hop with ⟨rfl, rfl⟩ | ⟨rfl, rfl⟩
  · exact wpAny_is_plain hp ⟨.bl _, H, I, by rw [he]; rfl, q⟩
  · exact wpAny_isNot_plain hp ⟨.bl _, H, I, by rw [he]; rfl, q⟩
def D.isB (d : D) (b : Bool) : Bool := match d with
  | .bl c => decide (c = b)
  | _ => false
theorem Rp.noTy {S : Hp} {v : V} (h : Rp S d v) : noTy v = true := by
  cases d with
  | non => rw [Rp.non.mp h]; rfl
  | bl _ => rw [Rp.bl.mp h]; rfl
  | int _ => rw [Rp.int.mp h]; rfl
  | str _ => rw [Rp.str.mp h]; rfl
  | lst _ => obtain ⟨_, _, rfl, _⟩ := Rp.lst.mp h; rfl
  | tup _ => obtain ⟨_, _, rfl, _⟩ := Rp.tup.mp h; rfl
  | dic _ _ => obtain ⟨_, _, _, rfl, _⟩ := Rp.dic.mp h; rfl
  | ins _ _ _ => obtain ⟨_, _, _, rfl, _⟩ := Rp.ins.mp h; rfl
  | raw _ => rw [Rp.raw.mp h]; rfl
  | mem => obtain ⟨_, rfl, _⟩ := Rp.mem.mp h; rfl
  | la _ _ => rw [(Rp.la.mp h).1]; rfl
  | sq _ _ _ => rw [(Rp.sq.mp h).1]; rfl
theorem Rp.isB {S : Hp} {v : V} {b : Bool} (h : Rp S d v) : decide (v = .bl b) = d.isB b := by
  cases d with
  | non => rw [Rp.non.mp h]; rfl
  | bl c =>
    rw [Rp.bl.mp h]
    show _ = decide (c = b)
    by_cases e : c = b
    · subst e; rw [decide_eq_true rfl, decide_eq_true rfl]
    · rw [decide_eq_false e, decide_eq_false fun z => e (V.bl.inj z)]
  | int _ => rw [Rp.int.mp h]; rfl
  | str _ => rw [Rp.str.mp h]; rfl
  | lst _ => obtain ⟨_, _, rfl, _⟩ := Rp.lst.mp h; rfl
  | tup _ => obtain ⟨_, _, rfl, _⟩ := Rp.tup.mp h; rfl
  | dic _ _ => obtain ⟨_, _, _, rfl, _⟩ := Rp.dic.mp h; rfl
  | ins _ _ _ => obtain ⟨_, _, _, rfl, _⟩ := Rp.ins.mp h; rfl
  | raw _ => rw [Rp.raw.mp h]; rfl
  | mem => obtain ⟨_, rfl, _⟩ := Rp.mem.mp h; rfl
  | la _ _ => rw [(Rp.la.mp h).1]; rfl
  | sq _ _ _ => rw [(Rp.sq.mp h).1]; rfl
theorem r2_isB {t : Bool} : R2D (fun x y H Q => ∃ b : Bool, y = .bl b ∧ noTy x = true ∧ Q (.bl (id (decide (x = .bl b)))) H) d (.bl t) (.sh (.bl (d.isB t))) := fun S H u v e h1 h2 Q k =>
  ⟨t, Rp.bl.mp h2, h1.noTy, by rw [h1.isB]; exact Post.pure e k (Rp.bl.mpr rfl)⟩
theorem et_isB {t : Bool} {k : Nat} {p : Pos} (ha : Ed X Δ a d) : Et X Δ (.Compare a [.Is] [.Constant (.bool t) k p] pos) (d.isB t) := et_cmp (op_isBool (.inl ⟨rfl, rfl⟩)) ha ed_bl r2_isB
theorem ed_isB {t : Bool} {k : Nat} {p : Pos} (ha : Ed X Δ a d) : Ed X Δ (.Compare a [.Is] [.Constant (.bool t) k p] pos) (.bl (d.isB t)) := ev_cmp (op_isBool (.inl ⟨rfl, rfl⟩)) ha ed_bl r2_isB

/-! ### texts -/
theorem ed_cat {i j : Str} (ha : Ed X Δ a (.str i)) (hb : Ed X Δ b (.str j)) (hl : i.length + j.length ≤ 1000000) : Ed X Δ (.BinOp a .Add b pos) (.str (i ++ j)) :=
  ev_bin op_add_str ha hb fun S H u v e h1 h2 Q k => ⟨i, j, Rp.str.mp h1, Rp.str.mp h2, by rw [sizeLine_eq]; omega, Post.pure e k (Rp.str.mpr rfl)⟩
theorem ed_ixS {i : Str} {j : Int} {c : Nat} (ha : Ed X Δ a (.str i)) (hb : Ed X Δ b (.int j)) (hl : i.length ≤ 1000000) (hc : atI i.cps.toList j = some c) (hs : PlainIx b := by intro _ _; rfl) : Ed X Δ (.Subscript a b pos) (.str ⟨#[c]⟩) :=
  ev_ix ix_str ha hb (fun S H u v e h1 h2 Q k => ⟨i, j, c, Rp.str.mp h1, Rp.int.mp h2, by rw [sizeLine_eq]; omega, hc, Post.pure e k (Rp.str.mpr rfl)⟩) hs
/-- a part of a slice -/
inductive Eo (X : Cx) (Δ : Dl) : Option Expr → Option Int → Prop
  | none : Eo X Δ none none
  | some {e : Expr} {i : Int} (h : Ed X Δ e (.int i)) : Eo X Δ (some e) (some i)
def WO (X : Cx) (o : Option Expr) : TO := fun σ H Q => Box (∀ (pins : List (Addr × Obj)) (s : Shared), Inv X pins σ H s → wpAny (model X.prog X.w) X.A (evalPart o X.env) (fun u s' => ∃ o H', Inv X pins σ H' s' ∧ IsPart u o ∧ Q o H') X.xe s)
theorem WO.po {o : Option Expr} : PO X o (WO X o) := ⟨fun pins s σ H Q I h => h.out pins s I⟩
theorem Eo.run {o : Option Expr} {i : Option Int} (h : Eo X Δ o i) {S0 H0 S H : Hp} {σ : L2.St} (A : Ab S0 H0 S H σ Δ) {Q : Option Int → Hp → Prop} (k : ∀ S1 H1, Le S H S1 H1 → Q i H1) : WO X o σ H Q := by
  cases h with
  | none => exact ⟨fun pins s I => po_none.run pins s σ H Q I (k S H (.refl A.sub))⟩
  | some h => exact ⟨fun pins s I => (po_some WE.pe).run pins s σ H Q I (h S0 H0 S H σ A _ fun v S1 H1 l r => ⟨_, Rp.int.mp r, k S1 H1 l⟩)⟩
theorem ev_sl {r : V → Option Int → Option Int → Hp → VK → Prop} {lo hi : Option Expr} {l u : Option Int} {p2 : Pos} (hr : SlR X r) (ha : Ed X Δ a x) (hl : Eo X Δ lo l) (hu : Eo X Δ hi u)
    (h : R1D (fun v H Q => r v l u H Q) x av) : Ev X Δ (.Subscript a (.Slice lo hi none p2) pos) av := by
  intro S0 H0 S H σ A Q k
  refine WE.of (pe_slice hr WE.pe WO.po WO.po) ?_
  refine ha S0 H0 S H σ A _ fun v S1 H1 l1 r1 => ?_
  refine hl.run (A.mono l1) fun S2 H2 l2 => ?_
  refine hu.run (A.mono (l1.trans l2)) fun S3 H3 l3 => ?_
  exact h S3 H3 v l3.sub (r1.mono (l2.s.trans l3.s)) Q (k.mono (l1.trans (l2.trans l3)))
theorem ed_slS {lo hi : Option Expr} {l u : Option Int} {p2 : Pos} {t : Str} (ha : Ed X Δ a (.str t)) (hl : Eo X Δ lo l) (hu : Eo X Δ hi u) (hz : t.length ≤ 1000000) : Ed X Δ (.Subscript a (.Slice lo hi none p2) pos) (.str (cutS t l u)) :=
  ev_sl sl_str ha hl hu fun S H v e h1 Q k => ⟨t, Rp.str.mp h1, by rw [sizeLine_eq]; omega, Post.pure e k (Rp.str.mpr rfl)⟩
def cutD {α : Type} (xs : List α) (lo hi : Option Int) : List α := (xs.drop (HT.sIx xs.length 0 lo)).take (HT.sIx xs.length xs.length hi - HT.sIx xs.length 0 lo)
theorem ev_slL {lo hi : Option Expr} {l u : Option Int} {p2 : Pos} {t : List D} (ha : Ed X Δ a (.lst t)) (hl : Eo X Δ lo l) (hu : Eo X Δ hi u) : Ev X Δ (.Subscript a (.Slice lo hi none p2) pos) (.ol (cutD t l u)) :=
  ev_sl sl_list ha hl hu fun S H v e h1 Q k => by
    obtain ⟨p, vs, rfl, h2, h3⟩ := Rp.lst.mp h1
    refine ⟨p, vs, rfl, SqL.of (e _ _ h2), fun q hq => Post.newL e k hq ?_⟩
    unfold cutV cutD
    rw [← h3.len]
    exact (h3.drop _).take _
/-- s[::-1] -/
def revS (x : Str) : Str := ⟨x.cps.toList.reverse.toArray⟩
theorem sliceBy_rev (x : Str) (u : Tok) : Txt.sliceBy x none none (-1, u) = revS x := by
  have h := step_rev_list x u
  have e : (Txt.sliceBy x none none (-1, u)).cps.toList = x.cps.toList.reverse := by
    rw [h]
    apply List.ext_getElem
    · simp [Str.length]
    · intro i h1 h2
      simp only [List.length_map, List.length_range] at h1
      have hi : x.length - 1 - i < x.cps.size := by
        have : x.length = x.cps.size := rfl
        omega
      have hi2 : x.cps.size - 1 - i < x.cps.size := hi
      simp [List.getElem_reverse, Array.getD, hi2, Str.length]
  show _ = (⟨x.cps.toList.reverse.toArray⟩ : Str)
  rw [← e]
theorem ed_revS {t : Str} {k : Nat} {p1 p2 p3 : Pos} (ha : Ed X Δ a (.str t)) (hz : t.length ≤ 1000000) : Ed X Δ (.Subscript a (.Slice none none (some (.UnaryOp .USub (.Constant (.int 1) k p1) p2)) p3) pos) (.str (revS t)) := by
  intro S0 H0 S H σ A Q kk
  refine ⟨fun pins s I => ?_⟩
  have text := (ha S0 H0 S H σ A (fun v H1 => v = .str t ∧ Q (.str (revS t)) H1) (fun v S1 H1 l1 r1 => ⟨Rp.str.mp r1, kk _ S1 H1 l1 (Rp.str.mpr rfl)⟩)).out pins s I
  refine Subscript_ (thn text fun v s1 h1 => ?_)
  obtain ⟨_, H1, I1, rv, rfl, done⟩ := h1
  obtain ⟨tk, rfl⟩ := rv
  -- both bounds are left out, the step is -1
  have back : PO X (some (.UnaryOp .USub (.Constant (.int 1) k p1) p2)) _ := po_some (pe_un un_neg pe_int)
  have left_ : ∀ s', Inv X pins σ H1 s' → wpAny _ X.A _ _ X.xe s' := fun s' I' => po_none.run pins s' σ H1 (fun o H' => H1 = H' ∧ o = none) I' ⟨rfl, rfl⟩
  refine wpAny_Slice (thn (left_ s1 I1) fun lo s2 h2 => ?_)
  obtain ⟨_, _, I2, c1, rfl, rfl⟩ := h2
  refine thn (left_ s2 I2) fun hi s3 h3 => ?_
  obtain ⟨_, _, I3, c2, rfl, rfl⟩ := h3
  refine thn (back.run pins s3 σ _ (fun o H' => H1 = H' ∧ o = some (-1)) I3 ⟨1, rfl, -1, rfl, rfl, rfl⟩) fun by_ s4 h4 => ?_
  obtain ⟨_, _, I4, c3, rfl, rfl⟩ := h4
  cases c1
  cases c2
  obtain ⟨t1, rfl⟩ : ∃ t1, by_ = Value.int (-1) t1 := by cases c3; exact ⟨_, rfl⟩
  have I5 := I4.kept (h' := s4.heap.push { cls := .type "slice", data := .fields #[.none, .none, .int (-1) t1] }) (t' := s4.toks) fun b ob e => Heap.get?_push_of_some _ e
  change wpAny _ _ (subscriptTail a _ (.str t tk) (.ref s4.heap.objs.size)) _ _ { s4 with heap := s4.heap.push { cls := .type "slice", data := .fields #[.none, .none, .int (-1) t1] } }
  refine tail_any (ops := [.ref s4.heap.objs.size, .str t tk]) (typeIs_str _ _ _) (F.slot_str_getitem.lookup) (wpAny_getItem_str_slice (l := none) (u := none) (st := some (-1, t1)) ⟨_, Heap.get?_push_size _ rfl, rfl, rfl⟩ rfl ?_) (by with_unfolding_all rfl)
  have short := Txt.sliceBy_le t none none (-1, t1) (show (-1 : Int) ≠ 0 by decide)
  exact post_val_or_str ⟨Nat.le_trans short (by rw [sizeLine_eq]; omega), fun t' c => ⟨.str (revS t), _, I5.tok _, ⟨t', by rw [← sliceBy_rev t t1]; rfl⟩, done⟩⟩

/-! ### lists, tuples -/
theorem R2D.lstI {K : PySem.W.Frag} {l : List D} {i : Int} (h : atI l i = some d) : R2D (rIxL K) (.lst l) (.int i) (.sh d) := fun S H u v e h1 h2 Q k => by
  obtain ⟨p, vs, rfl, g2, g3⟩ := Rp.lst.mp h1
  obtain ⟨j, hj, hd⟩ := Option.bind_eq_some_iff.mp h
  obtain ⟨w, hw, rw'⟩ := g3.get hd
  refine ⟨p, vs, i, w, rfl, Rp.int.mp h2, SqL.of (e _ _ g2), ?_, Post.pure e k rw'⟩
  unfold atI
  rw [← g3.len, hj]
  exact hw
theorem R2D.tupI {K : PySem.W.Frag} {l : List D} {i : Int} (h : atI l i = some d) : R2D (rIxT K) (.tup l) (.int i) (.sh d) := fun S H u v e h1 h2 Q k => by
  obtain ⟨p, vs, rfl, g2, g3⟩ := Rp.tup.mp h1
  obtain ⟨j, hj, hd⟩ := Option.bind_eq_some_iff.mp h
  obtain ⟨w, hw, rw'⟩ := g3.get hd
  refine ⟨p, vs, i, w, rfl, Rp.int.mp h2, SqT.of (e _ _ g2), ?_, Post.pure e k rw'⟩
  unfold atI
  rw [← g3.len, hj]
  exact hw
theorem ed_ixL {l : List D} {i : Int} (ha : Ed X Δ a (.lst l)) (hb : Ed X Δ b (.int i)) (h : atI l i = some d) (hs : PlainIx b := by intro _ _; rfl) : Ed X Δ (.Subscript a b pos) d := ev_ix ix_list ha hb (R2D.lstI h) hs
theorem ed_ixT {l : List D} {i : Int} (ha : Ed X Δ a (.tup l)) (hb : Ed X Δ b (.int i)) (h : atI l i = some d) (hs : PlainIx b := by intro _ _; rfl) : Ed X Δ (.Subscript a b pos) d := ev_ix ix_tup ha hb (R2D.tupI h) hs
theorem ev_catL {l m : List D} (ha : Ed X Δ a (.lst l)) (hb : Ed X Δ b (.lst m)) (hl : l.length + m.length ≤ 1000000) : Ev X Δ (.BinOp a .Add b pos) (.ol (l ++ m)) :=
  ev_bin op_cat ha hb fun S H u v e h1 h2 Q k => by
    obtain ⟨p, vs, rfl, g2, g3⟩ := Rp.lst.mp h1
    obtain ⟨q, ws, rfl, f2, f3⟩ := Rp.lst.mp h2
    exact ⟨p, q, vs, ws, rfl, rfl, e _ _ g2, e _ _ f2, by rw [← g3.len, ← f3.len, sizeLine_eq]; omega, fun r hr => Post.newL e k hr (g3.app f3)⟩
theorem ev_repL {l : List D} {i : Int} (ha : Ed X Δ a (.lst l)) (hb : Ed X Δ b (.int i)) (hi : -1000000 ≤ i ∧ i ≤ 1000) (hl : l.length ≤ 1000) : Ev X Δ (.BinOp a .Mult b pos) (.ol (List.replicate i.toNat l).flatten) :=
  ev_bin op_rep ha hb fun S H u v e h1 h2 Q k => by
    obtain ⟨p, vs, rfl, g2, g3⟩ := Rp.lst.mp h1
    refine ⟨p, i, vs, rfl, Rp.int.mp h2, e _ _ g2, by omega, by omega, ?_, fun r hr => Post.newL e k hr (g3.rep _)⟩
    rw [← g3.len, sizeLine_eq]
    have h1 : l.length * i.toNat ≤ 1000 * 1000 := Nat.mul_le_mul hl (by omega)
    omega
theorem ed_catT {l m : List D} (ha : Ed X Δ a (.tup l)) (hb : Ed X Δ b (.tup m)) (hl : l.length + m.length ≤ 1000000) (hn : l ≠ []) (hm : m ≠ []) : Ed X Δ (.BinOp a .Add b pos) (.tup (l ++ m)) :=
  ev_bin op_catT ha hb fun S H u v e h1 h2 Q k => by
    obtain ⟨p, vs, rfl, g2, g3⟩ := Rp.tup.mp h1
    obtain ⟨q, ws, rfl, f2, f3⟩ := Rp.tup.mp h2
    refine ⟨p, q, vs, ws, rfl, rfl, SqT.of (e _ _ g2), SqT.of (e _ _ f2), fun z => hn (List.eq_nil_of_length_eq_zero (by rw [g3.len, z]; rfl)), by rw [← g3.len, ← f3.len, sizeLine_eq]; omega, fun z => absurd (List.eq_nil_of_length_eq_zero (by rw [f3.len, z]; rfl)) hm, fun _ r hr => Post.newT e k hr (g3.app f3)⟩
/-- the length -/
theorem rc_lenL {K : PySem.W.Frag} {l : List D} : RcD (fun xs H Q => ∃ x n, xs = [x] ∧ LenV K x H n ∧ Q (.int n) H) [.lst l] (.sh (.int l.length)) := fun S H vs e h Q k => by
  simp only [RpL] at h
  obtain ⟨v, r, rfl, h1, rfl⟩ := h
  obtain ⟨p, ws, rfl, g2, g3⟩ := Rp.lst.mp h1
  exact ⟨_, ws.length, rfl, .inl ⟨ws, SqL.of (e _ _ g2), rfl⟩, Post.pure e k (Rp.int.mpr (by rw [g3.len]))⟩
theorem rc_lenT {K : PySem.W.Frag} {l : List D} : RcD (fun xs H Q => ∃ x n, xs = [x] ∧ LenV K x H n ∧ Q (.int n) H) [.tup l] (.sh (.int l.length)) := fun S H vs e h Q k => by
  simp only [RpL] at h
  obtain ⟨v, r, rfl, h1, rfl⟩ := h
  obtain ⟨p, ws, rfl, g2, g3⟩ := Rp.tup.mp h1
  exact ⟨_, ws.length, rfl, .inr ⟨ws, SqT.of (e _ _ g2), rfl⟩, Post.pure e k (Rp.int.mpr (by rw [g3.len]))⟩
theorem rc_lenS {K : PySem.W.Frag} {x : Str} (hl : x.length ≤ 1000000) : RcD (fun xs H Q => ∃ x n, xs = [x] ∧ LenV K x H n ∧ Q (.int n) H) [.str x] (.sh (.int x.length)) := fun S H vs e h Q k => by
  simp only [RpL] at h
  obtain ⟨v, r, rfl, h1, rfl⟩ := h
  cases Rp.str.mp h1
  exact ⟨_, x.length, rfl, ⟨by rw [sizeLine_eq]; omega, rfl⟩, Post.pure e k (Rp.int.mpr rfl)⟩
section
variable {p : Pos}
theorem ed_lenL {l : List D} (h : Ed X Δ e (.lst l)) (hm : X.mg "len" = none) (hg : Gl X "len" := by rfl) (hs : starEach [e] X.env = (false, eval e X.env) :: starEach [] X.env := by rfl) : Ed X Δ (.Call (.Name "len" p) [e] [] pos) (.int l.length) := ev_callB call_len (ea_cons h ea_nil hs) rc_lenL hm boot_len hg (he := hs)
theorem ed_lenT {l : List D} (h : Ed X Δ e (.tup l)) (hm : X.mg "len" = none) (hg : Gl X "len" := by rfl) (hs : starEach [e] X.env = (false, eval e X.env) :: starEach [] X.env := by rfl) : Ed X Δ (.Call (.Name "len" p) [e] [] pos) (.int l.length) := ev_callB call_len (ea_cons h ea_nil hs) rc_lenT hm boot_len hg (he := hs)
theorem ed_lenS {x : Str} (h : Ed X Δ e (.str x)) (hm : X.mg "len" = none) (hl : x.length ≤ 1000000) (hg : Gl X "len" := by rfl) (hs : starEach [e] X.env = (false, eval e X.env) :: starEach [] X.env := by rfl) : Ed X Δ (.Call (.Name "len" p) [e] [] pos) (.int x.length) := ev_callB call_len (ea_cons h ea_nil hs) (rc_lenS hl) hm boot_len hg (he := hs)
end
end
end Bb
end
section
set_option maxRecDepth 100000
set_option maxHeartbeats 4000000
/-! B4: statements, calls of defs, built-ins by name. -/
namespace Bb
open PySem PySem.Spec PyProof.Rows L2

/-! ### defs and their promises -/
/-- arguments told by a, the answer told by f a -/
def spT {α : Type} (enc : α → List D) (pre : α → Prop) (f : α → Av) : Sp := fun vs H Q _ => ∃ (a : α) (S : Hp), Sb S H ∧ RpL S (enc a) vs ∧ pre a ∧ Post S H (f a) Q
structure Cal (P : Program) (w : World) (K : PySem.W.Frag) (mg : Str → Option Value) (base : Heap) (k : Nat) (x : Str) (ps : List Str) (dvs : List V) (sp : Sp) : Prop where
  ex : ∃ (f : Addr) (fd : FuncData) (ds : List Value), FnOk P w K mg base CX0 k f fd ps sp ∧ mg x = some (.ref f) ∧ PySem.W.keepIn K (.ref f) = true ∧ Binds K fd ps ds ∧ Vals dvs ds
abbrev XF (P : Program) (w : World) (K : PySem.W.Frag) (mg : Str → Option Value) (base : Heap) (N : List Str) (qual : Str) (scope : Scope) (f : Addr) (cdv : Value) (A : Around) (outer : List Env) (s : Shared) (H : Hp) (E : XK) : Cx :=
  (cxOf CX0 P w K mg base N qual scope f cdv A outer s H E).nox

/-! ### statements -/
def Go (X : Cx) (S0 H0 : Hp) (Z : Ends) (sts : List Stmt) (Δ : Dl) : Prop := ∀ (S H : Hp) (σ : L2.St), Ab S0 H0 S H σ Δ → WSs X sts Z σ H
def Nx (S0 H0 : Hp) (N : L2.St → Hp → Prop) (Δ : Dl) : Prop := ∀ (S H : Hp) (σ : L2.St), Ab S0 H0 S H σ Δ → N σ H
/-- the first statement alone: what is wanted behind it -/
def Goes (X : Cx) (S0 H0 : Hp) (Z : Ends) (st : Stmt) (Δ : Dl) : Prop := ∀ (S H : Hp) (σ : L2.St), Ab S0 H0 S H σ Δ → WS X st Z σ H
section
variable {X : Cx} {S0 H0 : Hp} {Z : Ends} {Δ : Dl} {e : Expr} {es : List Expr} {st : Stmt} {rest : List Stmt} {pos : Pos} {a : Av} {d : D}
theorem go_nil (h : Nx S0 H0 Z.nx Δ) : Go X S0 H0 Z [] Δ := fun S H σ A => WSs.of pss_nil (h S H σ A)
theorem go_cons (h : Goes X S0 H0 { Z with nx := WSs X rest Z } st Δ) : Go X S0 H0 Z (st :: rest) Δ := fun S H σ A => WSs.of (pss_cons WS.ps WSs.pss) (h S H σ A)
/-- behind a statement the rest -/
theorem nx_go (h : Go X S0 H0 Z rest Δ) : Nx S0 H0 (WSs X rest Z) Δ := h
/-- slots forgotten -/
inductive Wk : Dl → Dl → Prop
  | nil : Wk [] []
  | keep {a : Option Av} {l m : Dl} (h : Wk l m) : Wk (a :: l) (a :: m)
  | skip {a : Option Av} {l m : Dl} (h : Wk l m) : Wk (a :: l) (none :: m)
theorem Wk.len : ∀ {l m : Dl}, Wk l m → m.length = l.length
  | _, _, .nil => rfl
  | _, _, .keep h => congrArg Nat.succ h.len
  | _, _, .skip h => congrArg Nat.succ h.len
theorem Wk.get : ∀ {l m : Dl}, Wk l m → ∀ (i : Nat) (a : Av), m[i]? = some (some a) → l[i]? = some (some a)
  | _, _, .nil, i, a, e => by simp at e
  | _, _, .keep h, 0, a, e => e
  | _, _, .keep h, i + 1, a, e => by simpa using h.get i a (by simpa using e)
  | _, _, .skip h, 0, a, e => by simp at e
  | _, _, .skip h, i + 1, a, e => by simpa using h.get i a (by simpa using e)
theorem Wk.refl : ∀ l : Dl, Wk l l
  | [] => .nil
  | _ :: l => .keep (Wk.refl l)
theorem nx_weak {N : L2.St → Hp → Prop} {Δ' : Dl} (w : Wk Δ Δ') (h : Nx S0 H0 N Δ') : Nx S0 H0 N Δ := fun S H σ A => h S H σ (A.weak w.len w.get)
theorem go_weak {Δ' : Dl} {sts : List Stmt} (w : Wk Δ Δ') (h : Go X S0 H0 Z sts Δ') : Go X S0 H0 Z sts Δ := fun S H σ A => h S H σ (A.weak w.len w.get)
/-- an owned object is shown from now on -/
theorem Ab.showAt {S H : Hp} {σ : L2.St} (A : Ab S0 H0 S H σ Δ) {i : Nat} (hn : ∀ ks l, a ≠ .od ks l) (hi : Δ[i]? = some (some a)) : ∃ S', Ab S0 H0 S' H σ (Δ.set i (some (.sh a.shown))) := by
  obtain ⟨v, h1, h2⟩ := A.sl i a hi
  have hl : i < Δ.length := (List.getElem?_eq_some_iff.mp hi).1
  cases a with
  | sh d =>
    refine ⟨S, ?_⟩
    have e : Δ.set i (some (.sh d)) = Δ := by
      apply List.ext_getElem?
      intro j
      by_cases hj : i = j
      · subst hj; rw [List.getElem?_set_self hl, hi]
      · rw [List.getElem?_set_ne hj]
    show Ab S0 H0 S H σ (Δ.set i (some (.sh d)))
    rw [e]; exact A
  | ol l =>
    obtain ⟨p, vs, rfl, g1, g2, g3, g4⟩ := h2
    exact ⟨_, A.shown hi rfl h1 g2 g1 g3 (Rp.lst.mpr ⟨p, vs, rfl, upd_same, g4.mono (.new g2)⟩)⟩
  | od ks l =>
    exact absurd rfl (hn ks l)
  | oi C ns l =>
    obtain ⟨p, dx, vs, rfl, g1, g2, g3, g4, g5⟩ := h2
    exact ⟨_, A.shown hi rfl h1 g2 g1 g3 (Rp.ins.mpr ⟨p, dx, vs, rfl, upd_same, g4, g5.mono (.new g2)⟩)⟩
/-- a slot's dict is frozen before the rest -/
def tFrzS (t : TS) : TS := fun D σ H => ∃ d u, H d = some u ∧ L2.Mut (some u) ∧ ∀ od, t D σ (upd H d (.frz od u))
theorem pss_frz {X : Cx} {sts : List Stmt} {t : TS} (h : PSs X sts t) : PSs X sts (tFrzS t) := ⟨fun pins s σ H D I hw => let ⟨d, u, hd, mu, q⟩ := hw; let ⟨od, I2⟩ := I.lock hd mu; h.run pins s σ _ D I2 (q od)⟩
theorem go_show (i : Nat) {sts : List Stmt} (hi : Δ[i]? = some (some a) := by rfl) (h : Go X S0 H0 Z sts (Δ.set i (some (.sh a.shown)))) : Go X S0 H0 Z sts Δ := by
  have pl : (∀ ks l, a ≠ .od ks l) → Go X S0 H0 Z sts Δ := fun hn S H σ A => let ⟨S', A'⟩ := A.showAt hn hi; h S' H σ A'
  cases a with
  | sh d => exact pl fun _ _ z => nomatch z
  | ol l => exact pl fun _ _ z => nomatch z
  | oi C ns l => exact pl fun _ _ z => nomatch z
  | od ks l =>
    intro S H σ A
    obtain ⟨v, h1, h2⟩ := A.sl i _ hi
    obtain ⟨p, hv, rfl, g1, g2, g3, g4, g5⟩ := h2
    exact WSs.of (pss_frz WSs.pss) ⟨p, .dT hv, g3, trivial, fun od => h _ _ σ (A.frozen hi h1 g2 g1 g4 g5)⟩
/-- x = e -/
theorem set_post (i : Nat) {S H : Hp} {σ : L2.St} {N : L2.St → Hp → Prop} (A : Ab S0 H0 S H σ Δ) (k : Nx S0 H0 N (Δ.set i (some a))) : Post S H a (fun x H1 => gName i x σ H1 N) := by
  cases a with
  | sh d => exact fun v S1 H1 l r => k S1 H1 _ ((A.mono l).set i r)
  | ol x => exact fun p vs S1 H1 l hp h1 h2 r => k S1 H1 _ (A.setO l i hp ⟨p, vs, rfl, A.le.back hp, h1, h2, r⟩)
  | od ks x => exact fun p vs S1 H1 l hp h1 h2 h3 r => k S1 H1 _ (A.setO l i hp ⟨p, vs, rfl, A.le.back hp, h1, h2, h3, r⟩)
  | oi C ns x => exact fun p dx vs S1 H1 l hp h1 h2 h3 r => k S1 H1 _ (A.setO l i hp ⟨p, dx, vs, rfl, A.le.back hp, h1, h2, h3, r⟩)
theorem go_set (i : Nat) {x : Str} {p : Pos} (he : Ev X Δ e a) (k : Go X S0 H0 Z rest (Δ.set i (some a))) (hN : X.N.Nodup) (hi : X.N[i]? = some x := by rfl) (hx : Loc X.env.scope x := by first | exact Or.inl rfl | exact Or.inr rfl)
    (hs : swapsWith e (some (.Name x p)) pos.line X.env = pure false := by rfl) (hf : X.fn x = true ∨ X.env.scope.names.lookup x = some .local := by first | exact .inl rfl | exact .inr rfl) : Go X S0 H0 Z (.Assign [.Name x p] e pos :: rest) Δ :=
  go_cons fun S H σ A => WS.of (ps_set hN hi hx WE.pe hs hf) (he S0 H0 S H σ A _ (set_post i A (nx_go k)))
theorem go_ret (he : Ev X Δ e a) (k : Post S0 H0 a Z.rt) : Go X S0 H0 Z (.Return (some e) pos :: rest) Δ :=
  go_cons fun S H σ A => WS.of (ps_ret WE.pe) (he S0 H0 S H σ A _ (k.mono A.le))
/-- return of an owned name -/
theorem go_retO (i : Nat) {x : Str} {p : Pos} (ha : Δ[i]? = some (some a)) (k : Post S0 H0 a Z.rt) (hN : X.N[i]? = some x := by rfl) (hv : Vis X.env.scope x := by first | exact Or.inl rfl | exact Or.inr (Or.inl rfl) | exact Or.inr (Or.inr rfl))
    (hdb : (x == ("__debug__" : Str)) = false := by decide) (hcd : (x == ("__classdict__" : Str)) = false := by decide) : Go X S0 H0 Z (.Return (some (.Name x p)) pos :: rest) Δ :=
  go_cons fun S H σ A => WS.of (ps_ret (pe_var hN hv hdb hcd)) (by
    obtain ⟨v, h1, h2⟩ := A.sl i a ha
    refine ⟨v, h1, ?_⟩
    cases a with
    | sh d => exact k v S H A.le h2
    | ol l =>
      obtain ⟨p, vs, rfl, g1, g2, g3, g4⟩ := h2
      exact k p vs S H A.le g1 g2 g3 g4
    | od ks l =>
      obtain ⟨p, vs, rfl, g1, g2, g3, g4, g5⟩ := h2
      exact k p vs S H A.le g1 g2 g3 g4 g5
    | oi C ns l =>
      obtain ⟨p, dx, vs, rfl, g1, g2, g3, g4, g5⟩ := h2
      exact k p dx vs S H A.le g1 g2 g3 g4 g5)
theorem go_if {c : Expr} {body orelse : List Stmt} {t : Bool} (hc : Et X Δ c t) (h1 : t = true → Go X S0 H0 { Z with nx := WSs X rest Z } body Δ) (h2 : t = false → Go X S0 H0 { Z with nx := WSs X rest Z } orelse Δ) :
    Go X S0 H0 Z (.If c body orelse pos :: rest) Δ :=
  go_cons fun S H σ A => WS.of (ps_if WT.pt WSs.pss WSs.pss) (hc S0 H0 S H σ A _ fun S1 H1 l => by
    cases t with
    | true => exact iteT (h1 rfl S1 H1 σ (A.mono l))
    | false => exact iteF (h2 rfl S1 H1 σ (A.mono l)))
theorem go_break (h : Nx S0 H0 Z.bk Δ) : Go X S0 H0 Z (.Break pos :: rest) Δ := go_cons fun S H σ A => WS.of ps_break (h S H σ A)
theorem go_pass (h : Go X S0 H0 Z rest Δ) : Go X S0 H0 Z (.Pass pos :: rest) Δ := go_cons fun S H σ A => WS.of ps_pass (h S H σ A)
/-- never reached -/
theorem go_never (h : False) {sts : List Stmt} : Go X S0 H0 Z sts Δ := h.elim
/-- x.append(e), x owned -/
theorem go_app (i : Nat) {x : Str} {p ap cp : Pos} {l : List D} (ha : Δ[i]? = some (some (.ol l))) (he : Ed X Δ e d) (hz : l.length < 1000000) (k : Go X S0 H0 Z rest (Δ.set i (some (.ol (l ++ [d]))))) (hN : X.N[i]? = some x := by rfl)
    (hv : Vis X.env.scope x := by first | exact Or.inl rfl | exact Or.inr (Or.inl rfl) | exact Or.inr (Or.inr rfl)) (hdb : (x == ("__debug__" : Str)) = false := by decide) (hcd : (x == ("__classdict__" : Str)) = false := by decide)
    (hsa : starEach [e] X.env = (false, eval e X.env) :: starEach [] X.env := by rfl)
    (hbase : attributeBase (.Name x p) "append" X.env (eval (.Name x p) X.env) = eval (.Name x p) X.env := by rfl)
    (hpe : ∀ (to : TE) (t : TA), PE X (.Name x p) to → PA X [e] t → PE X (.Call (.Attribute (.Name x p) "append" ap) [e] [] cp) (tBM X.K "list" rAppend to t) := by
      exact fun to t ho ha => pe_bm PySem.F.plainAttrs_list PySem.F.slot_list_append PySem.F.type_list_append mt_append ho ha)
    (hs : swapsWith (.Call (.Attribute (.Name x p) "append" ap) [e] [] cp) none pos.line X.env = pure false := by rfl) :
    Go X S0 H0 Z (.Expr (.Call (.Attribute (.Name x p) "append" ap) [e] [] cp) pos :: rest) Δ :=
  go_cons fun S H σ A => WS.of (ps_expr (hpe _ _ (pe_var hN hv hdb hcd) (pa_cons WE.pe pa_nil hsa)) hs) (by
    obtain ⟨v, h1, h2⟩ := A.sl i _ ha
    obtain ⟨q, vs, rfl, g1, g2, g3, g4⟩ := h2
    refine ⟨_, h1, .inl ⟨rfl, vs, SqL.of g3⟩, ?_⟩
    refine he S0 H0 S H σ A _ fun y S1 H1 l1 r1 => ?_
    obtain ⟨f2, f3⟩ := l1.hidden g2 g3
    refine ⟨q, vs, y, rfl, rfl, f3, by rw [← g4.len, sizeLine_eq]; omega, ?_⟩
    refine k S1 _ σ ((A.mono l1).mut ha rfl h1 f2 g1 (b := .ol (l ++ [d])) ⟨q, _, rfl, g1, f2, upd_same, (g4.mono l1.s).app (.cons r1 .nil)⟩ rfl))
/-- x[k] = e, x an owned list -/
theorem go_setix (i : Nat) {x : Str} {p tp : Pos} {ix : Expr} {l : List D} {j : Int} {m : Nat} (ha : Δ[i]? = some (some (.ol l))) (he : Ed X Δ e d) (hj : Ed X Δ ix (.int j)) (hm : ixN l.length j = some m) (k : Go X S0 H0 Z rest (Δ.set i (some (.ol (l.set m d)))))
    (hN : X.N[i]? = some x := by rfl) (hv : Vis X.env.scope x := by first | exact Or.inl rfl | exact Or.inr (Or.inl rfl) | exact Or.inr (Or.inr rfl)) (hdb : (x == ("__debug__" : Str)) = false := by decide) (hcd : (x == ("__classdict__" : Str)) = false := by decide)
    (hps : ∀ (te to ti : TE), PE X e te → PE X (.Name x p) to → PE X ix ti → PS X (.Assign [.Subscript (.Name x p) ix tp] e pos) (tAsg te (gSub to ti rSetL)) := by exact fun te to ti h1 h2 h3 => ps_asg h1 (pg_sub h2 h3 set_list)) :
    Go X S0 H0 Z (.Assign [.Subscript (.Name x p) ix tp] e pos :: rest) Δ :=
  go_cons fun S H σ A => WS.of (hps _ _ _ WE.pe (pe_var hN hv hdb hcd) WE.pe) (by
    refine he S0 H0 S H σ A _ fun y S1 H1 l1 r1 => ?_
    have A1 := A.mono l1
    obtain ⟨v, h1, h2⟩ := A1.sl i _ ha
    obtain ⟨q, vs, rfl, g1, g2, g3, g4⟩ := h2
    refine ⟨_, h1, ?_⟩
    refine hj S0 H0 S1 H1 σ A1 _ fun z S2 H2 l2 r2 => ?_
    obtain ⟨f2, f3⟩ := l2.hidden g2 g3
    refine ⟨q, vs, j, m, rfl, Rp.int.mp r2, f3, by rw [← g4.len]; exact hm, ?_⟩
    exact k S2 _ σ ((A1.mono l2).mut ha rfl h1 f2 g1 (b := .ol (l.set m d)) ⟨q, _, rfl, g1, f2, upd_same, (g4.mono l2.s).set (r1.mono l2.s) m⟩ rfl))
/-- o[i] of a list, by values -/
def rGetL : V → V → Hp → VK → Prop := fun o i H Q => ∃ p xs k v, o = .ref p ∧ i = .int k ∧ H p = some (.lst xs) ∧ atI xs k = some v ∧ Q v H
theorem get_list : PGet X rGetL := by
  intro pins s σ H o i ov iv Q I ro ri h
  obtain ⟨p, xs, k, z, rfl, rfl, hp, he, q⟩ := h
  cases ro
  obtain ⟨t, rfl⟩ := ri
  obtain ⟨its, r, pl, hz⟩ := I.list (SqL.of hp)
  obtain ⟨j, h1, h2, h3, h4, h5⟩ := atI_get he
  obtain ⟨w, ew, rw'⟩ := r.get h2
  have hl := r.length
  have hn := line63
  have fin : EP X pins σ Q w s := ⟨z, H, I, rw', q⟩
  by_cases h0 : 0 ≤ k
  · have hj : k.toNat = j := by
      rw [seqIndex_of h0 h5] at h1
      exact Option.some.inj h1
    exact wpAny_getItem_list pl.isList h0 (by omega) (by rw [hj]; simpa using ew) fin
  · have hj : (k + (its.toArray.size : Int)).toNat = j := by
      rw [seqIndex_neg (by omega) h4] at h1
      rw [List.size_toArray, ← hl]
      exact Option.some.inj h1
    exact wpAny_getItem_list_neg pl.isList (by omega) (by rw [List.size_toArray] <;> omega) (by omega) (by rw [hj]; simpa using ew) fin
/-- x[k] op= e, x an owned list of .. an int at k -/
theorem go_augix (i : Nat) {x : Str} {p tp : Pos} {ix : Expr} {op : Operator} {f : Int → Int → Int} {l : List D} {j c b : Int} {m : Nat} (hop : PIp X op (ipI f)) (ha : Δ[i]? = some (some (.ol l))) (hj : Ed X Δ ix (.int j)) (hm : ixN l.length j = some m) (hc : l[m]? = some (.int c)) (he : Ed X Δ e (.int b))
    (k : Go X S0 H0 Z rest (Δ.set i (some (.ol (l.set m (.int (f c b))))))) (hN : X.N[i]? = some x := by rfl) (hv : Vis X.env.scope x := by first | exact Or.inl rfl | exact Or.inr (Or.inl rfl) | exact Or.inr (Or.inr rfl))
    (hdb : (x == ("__debug__" : Str)) = false := by decide) (hcd : (x == ("__classdict__" : Str)) = false := by decide)
    (hps : ∀ (te to ti : TE), PIp X op (ipI f) → PE X e te → PE X (.Name x p) to → PE X ix ti → PS X (.AugAssign (.Subscript (.Name x p) ix tp) op e pos) (tAugS to ti te rGetL (ipI f) rSetL) := by exact fun te to ti h0 h1 h2 h3 => ps_augS h2 h3 get_list h1 h0 set_list) :
    Go X S0 H0 Z (.AugAssign (.Subscript (.Name x p) ix tp) op e pos :: rest) Δ :=
  go_cons fun S H σ A => WS.of (hps _ _ _ hop WE.pe (pe_var hN hv hdb hcd) WE.pe) (by
    obtain ⟨v, h1, h2⟩ := A.sl i _ ha
    obtain ⟨q, vs, rfl, g1, g2, g3, g4⟩ := h2
    refine ⟨_, h1, ?_⟩
    refine hj S0 H0 S H σ A _ fun z S1 H1 l1 r1 => ?_
    obtain ⟨f2, f3⟩ := l1.hidden g2 g3
    obtain ⟨w, ew, rw'⟩ := (g4.mono l1.s).get hc
    have ew' : vs[m]? = some (V.int c) := by rw [← Rp.int.mp rw']; exact ew
    refine ⟨q, vs, j, .int c, rfl, Rp.int.mp r1, f3, by unfold atI; rw [← g4.len, hm]; exact ew', ?_⟩
    refine he S0 H0 S1 H1 σ (A.mono l1) _ fun y S2 H2 l2 r2 => ?_
    obtain ⟨e2, e3⟩ := l2.hidden f2 f3
    refine ⟨c, b, rfl, Rp.int.mp r2, ?_⟩
    refine ⟨q, vs, j, m, rfl, Rp.int.mp r1, e3, by rw [← g4.len]; exact hm, ?_⟩
    exact k S2 _ σ ((A.mono (l1.trans l2)).mut ha rfl h1 e2 g1 (b := .ol (l.set m (.int (f c b)))) ⟨q, _, rfl, g1, e2, upd_same, (g4.mono (l1.s.trans l2.s)).set (Rp.int.mpr rfl) m⟩ rfl))
/-- x op= e, x an int -/
theorem go_aug (i : Nat) {x : Str} {p : Pos} {op : Operator} {f : Int → Int → Int} {c b : Int} (hop : PIp X op (ipI f)) (ha : Δ[i]? = some (some (.sh (.int c)))) (he : Ed X Δ e (.int b)) (k : Go X S0 H0 Z rest (Δ.set i (some (.sh (.int (f c b)))))) (hNd : X.N.Nodup)
    (hN : X.N[i]? = some x := by rfl) (hx : Loc X.env.scope x := by first | exact Or.inl rfl | exact Or.inr rfl) (hf : X.fn x = true ∨ X.env.scope.names.lookup x = some .local := by first | exact .inl rfl | exact .inr rfl) : Go X S0 H0 Z (.AugAssign (.Name x p) op e pos :: rest) Δ :=
  go_cons fun S H σ A => WS.of (ps_aug hNd hN hx WE.pe hop hf) (by
    obtain ⟨v, h1, h2⟩ := A.get ha
    cases Rp.int.mp h2
    refine ⟨_, h1, ?_⟩
    refine he S0 H0 S H σ A _ fun y S1 H1 l1 r1 => ?_
    exact ⟨c, b, rfl, Rp.int.mp r1, k S1 H1 _ ((A.mono l1).set i (Rp.int.mpr rfl))⟩)
end

/-! ### calls -/
section
variable {X : Cx} {Δ : Dl} {e : Expr} {es : List Expr} {pos p : Pos}
theorem ev_call {k : Nat} {x : Str} {ps : List Str} {α : Type} {enc : α → List D} {pre : α → Prop} {f : α → Av} (F : Cal X.prog X.w X.K X.mg X.base k x ps [] (spT enc pre f)) (a : α) (ha : Ea X Δ (e :: es) (enc a)) (hp : pre a) (hr : Room k X.A) (hg : Gl X x := by rfl)
    (hdb : (x == ("__debug__" : Str)) = false := by decide) (he : starEach (e :: es) X.env = (false, eval e X.env) :: starEach es X.env := by rfl) (hpl : (backTo pos (starEach es X.env)).any (·.1) = false := by rfl) : Ev X Δ (.Call (.Name x p) (e :: es) [] pos) (f a) := by
  obtain ⟨g, fd, ds, F, hm, hk, hb, hv⟩ := F.ex
  intro S0 H0 S H σ A Q kk
  refine WE.of (pe_call F hr hg hm hk hb hv pass0 WA.pa hdb he hpl) ?_
  refine ha S0 H0 S H σ A _ fun vs S1 H1 l1 r1 => ?_
  show spT enc pre f (vs ++ []) H1 Q E0
  rw [List.append_nil]
  exact ⟨a, S1, l1.sub, r1, hp, kk.mono l1⟩
/-- .. where defaults fill up -/
theorem ev_callD {k : Nat} {x : Str} {ps : List Str} {dvs : List V} {α : Type} {enc : α → List D} {pre : α → Prop} {f : α → Av} (F : Cal X.prog X.w X.K X.mg X.base k x ps dvs (spT enc pre f)) (a : α) (ds dds : List D) (henc : enc a = ds ++ dds) (hdd : ∀ S, RpL S dds dvs) (ha : Ea X Δ (e :: es) ds) (hp : pre a) (hr : Room k X.A) (hg : Gl X x := by rfl)
    (hdb : (x == ("__debug__" : Str)) = false := by decide) (he : starEach (e :: es) X.env = (false, eval e X.env) :: starEach es X.env := by rfl) (hpl : (backTo pos (starEach es X.env)).any (·.1) = false := by rfl) : Ev X Δ (.Call (.Name x p) (e :: es) [] pos) (f a) := by
  obtain ⟨g, fd, ds', F, hm, hk, hb, hv⟩ := F.ex
  intro S0 H0 S H σ A Q kk
  refine WE.of (pe_call F hr hg hm hk hb hv pass0 WA.pa hdb he hpl) ?_
  refine ha S0 H0 S H σ A _ fun vs S1 H1 l1 r1 => ?_
  show spT enc pre f (vs ++ dvs) H1 Q E0
  exact ⟨a, S1, l1.sub, by rw [henc]; exact r1.app (hdd S1), hp, kk.mono l1⟩
/-- .. the answer shown -/
theorem ed_call {k : Nat} {x : Str} {ps : List Str} {α : Type} {enc : α → List D} {pre : α → Prop} {f : α → Av} (F : Cal X.prog X.w X.K X.mg X.base k x ps [] (spT enc pre f)) (a : α) (ha : Ea X Δ (e :: es) (enc a)) (hp : pre a) (hr : Room k X.A) {d : D} (hf : (f a).shown = d := by rfl) (hg : Gl X x := by rfl)
    (hdb : (x == ("__debug__" : Str)) = false := by decide) (he : starEach (e :: es) X.env = (false, eval e X.env) :: starEach es X.env := by rfl) (hpl : (backTo pos (starEach es X.env)).any (·.1) = false := by rfl) : Ed X Δ (.Call (.Name x p) (e :: es) [] pos) d :=
  hf ▸ (ev_call F a ha hp hr hg hdb he hpl).show
/-- a def's body keeps its promise -/
theorem def_ok {P : Program} {w : World} {K : PySem.W.Frag} {mg : Str → Option Value} {base : Heap} {name qual : Str} {args : Arguments} {body : List Stmt} {scope : Scope} {f : Addr} {fd : FuncData} {N ps : List Str} {k : Nat}
    {α : Type} {enc : α → List D} {pre : α → Prop} {g : α → Av} {dvs : List V} {kws : List (Str × V)} (F : FunD K name qual args body scope dvs kws f fd) (S : FnScope N ps scope) (hl : ∀ a, (enc a).length = ps.length)
    (hb : ∀ (cdv : Value) (A : Around) (outer : List Env) (s : Shared) (H : Hp) (E : XK), Room k (A.deeper (envOfC qual scope s.heap.objs.size f cdv)) → ∀ (a : α), pre a → ∀ (S0 : Hp) (Z : Ends), Post S0 H (g a) Z.rt → (Z.nx = fun _ H' => Z.rt .non H') →
      Go (XF P w K mg base N qual scope f cdv A outer s H E) S0 H Z body ((enc a).map (fun d => some (.sh d)) ++ List.replicate (N.length - ps.length) none)) : FnOk P w K mg base CX0 (k + 1) f fd ps (spT enc pre g) := by
  refine F.ok S (fun vs H Q E h => ?_) (fun cdv A outer s H vs Q E hr h => ?_)
  · obtain ⟨a, S', _, r, _⟩ := h
    rw [← r.len]; exact hl a
  · obtain ⟨a, S', ex, r, hp, kk⟩ := h
    refine ⟨WSs (XF P w K mg base N qual scope f cdv A outer s H E) body, PSs.nox WSs.pss, ?_⟩
    refine hb cdv A outer s H E hr a hp S' { nx := fun _ H' => Q .non H', rt := Q } kk rfl S' H _ ?_
    have hlen : vs.length = ps.length := by rw [← r.len]; exact hl a
    refine ⟨.refl ex, fun i b eb => ?_, fun i j b c v hij e1 e2 o1 => ?_, ?_⟩
    · have hi : i < ((enc a).map fun d => some (Av.sh d)).length := by
        by_cases hi : i < ((enc a).map fun d => some (Av.sh d)).length
        · exact hi
        · rw [List.getElem?_append_right (by omega), List.getElem?_replicate] at eb
          split at eb <;> cases eb
      rw [List.getElem?_append_left hi, List.getElem?_map] at eb
      cases ed : (enc a)[i]? with
      | none => rw [ed] at eb; cases eb
      | some d =>
        rw [ed] at eb
        cases eb
        obtain ⟨v, hv, rv⟩ := r.get ed
        refine ⟨v, ?_, rv⟩
        unfold L2.start
        have hi2 : i < (vs.map some).length := by rw [List.length_map, ← r.len]; simpa using hi
        rw [List.getElem?_append_left hi2, List.getElem?_map, hv]
        rfl
    · exfalso
      have hi : i < ((enc a).map fun d => some (Av.sh d)).length := by
        by_cases hi : i < ((enc a).map fun d => some (Av.sh d)).length
        · exact hi
        · rw [List.getElem?_append_right (by omega), List.getElem?_replicate] at e1
          split at e1 <;> cases e1
      rw [List.getElem?_append_left hi, List.getElem?_map] at e1
      cases ed : (enc a)[i]? with
      | none => rw [ed] at e1; cases e1
      | some d => rw [ed] at e1; cases e1; cases o1
    · unfold L2.start
      rw [List.length_append, List.length_append, List.length_map, List.length_map, List.length_replicate, List.length_replicate, r.len, hlen]
/-- .. and may be called -/
theorem cal_of {P : Program} {w : World} {K : PySem.W.Frag} {mg : Str → Option Value} {base : Heap} {name qual : Str} {args : Arguments} {body : List Stmt} {scope : Scope} {f : Addr} {fd : FuncData} {ps : List Str} {k : Nat} {sp : Sp}
    (F : FunD K name qual args body scope [] [] f fd) (G : FnOk P w K mg base CX0 k f fd ps sp) (hm : mg name = some (.ref f))
    (h : ∀ (kV doc pm : Value) (an : Option Addr) (cdv ct : Value) (us : List Value), us.length = ps.length → bindArgs (PySem.W.fnOf name qual args body scope .none kV doc pm an cdv ct) ⟨us, []⟩ = pure (ps.zip us)) : Cal P w K mg base k name ps [] sp :=
  ⟨f, fd, [], G, hm, F.kp, F.bindsN h, .nil⟩
theorem cal_ofK {P : Program} {w : World} {K : PySem.W.Frag} {mg : Str → Option Value} {base : Heap} {name qual : Str} {args : Arguments} {body : List Stmt} {scope : Scope} {f : Addr} {fd : FuncData} {ps : List Str} {k n : Nat} {sp : Sp} {kws : List (Str × V)}
    (F : FunD K name qual args body scope [] kws f fd) (G : FnOk P w K mg base CX0 k f fd ps sp) (hm : mg name = some (.ref f)) (hk : kws ≠ []) (hn : n + kws.length = ps.length)
    (h : ∀ (D : Addr) (doc pm : Value) (an : Option Addr) (cdv ct : Value) (us ks : List Value), us.length = n → ks.length = kws.length →
      KwChain D ((kws.map (·.1)).zip ks) (bindArgs (PySem.W.fnOf name qual args body scope .none (.ref D) doc pm an cdv ct) ⟨us, []⟩) (ps.zip (us ++ ks))) : Cal P w K mg base k name ps (kws.map (·.2)) sp := by
  obtain ⟨ds, h1, h2⟩ := F.binds0 n hk hn h
  exact ⟨f, fd, ds, G, hm, F.kp, h2, h1⟩
end
end Bb
end
section
set_option maxRecDepth 100000
set_option maxHeartbeats 4000000
/-! B5: what is walked; for; list comprehensions. -/
namespace Bb
open PySem PySem.Spec PyProof.Rows L2
open Evl (Ex)

/-- an iterator over these data, wherever what is seen stands -/
structure ItOk (J : It) (S1 : Hp) (xs : List D) : Prop where
  go : ∀ S2 H2, Ex S1 S2 → Sb S2 H2 → ∀ i, i < xs.length → J.go i H2
  stop : ∀ S2 H2, Ex S1 S2 → Sb S2 H2 → J.stop xs.length H2
  yld : ∀ S2 H2, Ex S1 S2 → Sb S2 H2 → ∀ i d x H3, xs[i]? = some d → J.yld i H2 x H3 → ∃ S3, Le S2 H2 S3 H3 ∧ Rp S3 d x
def WI (X : Cx) (tg iter : Expr) : TI := fun σ H R => Box (∀ (pins : List (Addr × Obj)) (s : Shared), Inv X pins σ H s → wpAny (model X.prog X.w) X.A (eval iter X.env) (fun v s1 => wpAny (model X.prog X.w) X.A (pyIter v) (PIE X pins σ tg R) X.xe s1) X.xe s)
section
variable {X : Cx} {tg iter : Expr}
theorem WI.pi : PI X tg iter (WI X tg iter) := ⟨fun pins s σ H R I h => h.out pins s I⟩
theorem WI.of {t : TI} (h : PI X tg iter t) {σ : L2.St} {H : Hp} {R : It → Hp → Prop} (q : t σ H R) : WI X tg iter σ H R := ⟨fun pins s I => h.run pins s σ H R I q⟩
end
def Ei (X : Cx) (Δ : Dl) (tg iter : Expr) (xs : List D) : Prop := ∀ (S0 H0 S H : Hp) (σ : L2.St), Ab S0 H0 S H σ Δ → ∀ R : It → Hp → Prop, (∀ J S1 H1, Le S H S1 H1 → ItOk J S1 xs → R J H1) → WI X tg iter σ H R
section
variable {X : Cx} {Δ : Dl} {tg e a b c : Expr} {pos p : Pos}
theorem itok_list {K : PySem.W.Frag} {S : Hp} {q : Addr} {vs : List V} {l : List D} (h : S q = some (.lst vs)) (r : RpL S l vs) : ItOk (Itl K q) S l where
  go := fun S2 H2 e1 e2 i hi => by
    rw [r.len] at hi
    exact ⟨vs, vs[i], SqL.of (e2 _ _ (e1 _ _ h)), by simp [hi]⟩
  stop := fun S2 H2 e1 e2 => ⟨vs, SqL.of (e2 _ _ (e1 _ _ h)), by rw [r.len]; exact Nat.le_refl _⟩
  yld := fun S2 H2 e1 e2 i d x H3 hd y => by
    obtain ⟨rfl, y⟩ := y
    obtain ⟨v, hv, rv⟩ := (r.mono e1).get hd
    have := y vs (SqL.of (e2 _ _ (e1 _ _ h)))
    rw [hv] at this; cases this
    exact ⟨S2, .refl e2, rv⟩
theorem ei_list {l : List D} (h : Ed X Δ e (.lst l)) : Ei X Δ tg e l := fun S0 H0 S H σ A R k => WI.of (pi_list WE.pe) (h S0 H0 S H σ A _ fun v S1 H1 l1 r1 => by
  obtain ⟨q, vs, rfl, g2, g3⟩ := Rp.lst.mp r1
  exact ⟨q, rfl, ⟨vs, SqL.of (l1.sub _ _ g2)⟩, k _ S1 H1 l1 (itok_list g2 g3)⟩)
theorem ei_tup {l : List D} (h : Ed X Δ e (.tup l)) : Ei X Δ tg e l := fun S0 H0 S H σ A R k => WI.of (pi_tup WE.pe) (h S0 H0 S H σ A _ fun v S1 H1 l1 r1 => by
  obtain ⟨q, vs, rfl, g2, g3⟩ := Rp.tup.mp r1
  refine ⟨q, rfl, ⟨vs, SqT.of (l1.sub _ _ g2)⟩, k _ S1 H1 l1 ⟨fun S2 H2 e1 e2 i hi => ?_, fun S2 H2 e1 e2 => ⟨vs, SqT.of (e2 _ _ (e1 _ _ g2)), by rw [g3.len]; exact Nat.le_refl _⟩, fun S2 H2 e1 e2 i d x H3 hd y => ?_⟩⟩
  · rw [g3.len] at hi
    exact ⟨vs, vs[i], SqT.of (e2 _ _ (e1 _ _ g2)), by simp [hi]⟩
  · obtain ⟨rfl, y⟩ := y
    obtain ⟨v, hv, rv⟩ := (g3.mono e1).get hd
    have := y vs (SqT.of (e2 _ _ (e1 _ _ g2)))
    rw [hv] at this; cases this
    exact ⟨S2, .refl e2, rv⟩)
theorem ei_str {x : Str} (h : Ed X Δ e (.str x)) : Ei X Δ tg e (x.cps.toList.map fun c => .str ⟨#[c]⟩) := fun S0 H0 S H σ A R k => WI.of (pi_str WE.pe) (h S0 H0 S H σ A _ fun v S1 H1 l1 r1 => by
  refine ⟨x, Rp.str.mp r1, k _ S1 H1 l1 ⟨fun S2 H2 e1 e2 i hi => ?_, fun S2 H2 e1 e2 => ?_, fun S2 H2 e1 e2 i d y H3 hd z => ?_⟩⟩
  · show i < x.cps.size
    simpa using hi
  · show x.cps.size ≤ _
    simp
  · obtain ⟨rfl, c, hc, rfl⟩ := z
    refine ⟨S2, .refl e2, ?_⟩
    rw [List.getElem?_map, Array.getElem?_toList, hc] at hd
    cases hd
    exact Rp.str.mpr rfl)
theorem itok_rng {S : Hp} {lo : Int} {n : Nat} : ItOk (Itr lo n) S ((List.range n).map fun i => .int (lo + (i : Nat))) where
  go := fun S2 H2 e1 e2 i hi => by show i < n; simpa using hi
  stop := fun S2 H2 e1 e2 => by show n ≤ _; simp
  yld := fun S2 H2 e1 e2 i d x H3 hd y => by
    obtain ⟨rfl, rfl⟩ := y
    refine ⟨S2, .refl e2, ?_⟩
    rw [List.getElem?_map] at hd
    cases q : (List.range n)[i]? with
    | none => rw [q] at hd; cases hd
    | some j =>
      rw [q] at hd
      have ej : j = i := by
        obtain ⟨h1, h2⟩ := List.getElem?_eq_some_iff.mp q
        rw [List.getElem_range] at h2
        exact h2.symm
      cases hd
      rw [ej]
      exact Rp.int.mpr rfl
/-- range(n) -/
theorem ei_rng1 {n : Int} (h : Ed X Δ a (.int n)) (hb : n < 2 ^ 62 ∧ -(2 ^ 62) ≤ n) (hm : X.mg "range" = none) (hg : Gl X "range" := by rfl) (hs : starEach [a] X.env = [(false, eval a X.env)] := by rfl) (hs2 : starEach [a] X.env = (false, eval a X.env) :: starEach [] X.env := by rfl) :
    Ei X Δ tg (.Call (.Name "range" p) [a] [] pos) ((List.range n.toNat).map fun i => .int ((i : Nat) : Int)) := fun S0 H0 S H σ A R k => WI.of (pi_range1 hg hm (pa_cons WE.pe pa_nil hs2) hs) (h S0 H0 S H σ A _ fun v S1 H1 l1 r1 => by
  cases Rp.int.mp r1
  refine ⟨n, rfl, hb.2, hb.1, k _ S1 H1 l1 ?_⟩
  have := itok_rng (S := S1) (lo := 0) (n := n.toNat)
  simpa only [Int.zero_add] using this)
/-- range(i, j) -/
theorem ei_rng2 {i j : Int} (h : Ed X Δ a (.int i)) (h2 : Ed X Δ b (.int j)) (hb : -(2 ^ 62) ≤ i ∧ i < 2 ^ 62 ∧ -(2 ^ 62) ≤ j ∧ j < 2 ^ 62) (hm : X.mg "range" = none) (hg : Gl X "range" := by rfl)
    (hs : starEach [a, b] X.env = [(false, eval a X.env), (false, eval b X.env)] := by rfl) (hs2 : starEach [b] X.env = [(false, eval b X.env)] := by rfl) (hs3 : starEach [a, b] X.env = (false, eval a X.env) :: starEach [b] X.env := by rfl) (hs4 : starEach [b] X.env = (false, eval b X.env) :: starEach [] X.env := by rfl) :
    Ei X Δ tg (.Call (.Name "range" p) [a, b] [] pos) ((List.range (j - i).toNat).map fun k => .int (i + (k : Nat))) := fun S0 H0 S H σ A R k => WI.of (pi_range2 hg hm (pa_cons WE.pe (pa_cons WE.pe pa_nil hs4) hs3) hs hs2) (h S0 H0 S H σ A _ fun v S1 H1 l1 r1 =>
  h2 S0 H0 S1 H1 σ (A.mono l1) _ fun u S2 H2 l2 r2 => by
    cases Rp.int.mp r1
    cases Rp.int.mp r2
    exact ⟨i, j, rfl, hb, k _ S2 H2 (l1.trans l2) itok_rng⟩)
/-- range(i, j, -1) -/
theorem ei_rngD {i j : Int} (h : Ed X Δ a (.int i)) (h2 : Ed X Δ b (.int j)) (h3 : Ed X Δ c (.int (-1))) (hb : -(2 ^ 62) ≤ i ∧ i < 2 ^ 62 ∧ -(2 ^ 62) ≤ j ∧ j < 2 ^ 62) (hm : X.mg "range" = none) (hg : Gl X "range" := by rfl)
    (hs : starEach [a, b, c] X.env = (false, eval a X.env) :: starEach [b, c] X.env := by rfl) (hs2 : starEach [b, c] X.env = (false, eval b X.env) :: starEach [c] X.env := by rfl) (hs3 : starEach [c] X.env = (false, eval c X.env) :: starEach [] X.env := by rfl) (hpl : (backTo pos (starEach [b, c] X.env)).any (·.1) = false := by rfl) :
    Ei X Δ tg (.Call (.Name "range" p) [a, b, c] [] pos) ((List.range (i - j).toNat).map fun k => .int (i - (k : Nat))) := fun S0 H0 S H σ A R k => WI.of (pi_range3 hg hm (pa_cons WE.pe (pa_cons WE.pe (pa_cons WE.pe pa_nil hs3) hs2) hs) hs hpl) (h S0 H0 S H σ A _ fun v S1 H1 l1 r1 =>
  h2 S0 H0 S1 H1 σ (A.mono l1) _ fun u S2 H2 l2 r2 => h3 S0 H0 S2 H2 σ (A.mono (l1.trans l2)) _ fun w S3 H3 l3 r3 => by
    cases Rp.int.mp r1
    cases Rp.int.mp r2
    cases Rp.int.mp r3
    refine ⟨i, j, -1, (i - j).toNat, rfl, RgC.neg hb.1 hb.2.1 hb.2.2.1 hb.2.2.2, k _ S3 H3 (l1.trans (l2.trans l3)) ⟨fun S2 H2 e1 e2 m hi => ?_, fun S2 H2 e1 e2 => ?_, fun S2 H2 e1 e2 m d x H3 hd y => ?_⟩⟩
    · show m < _
      simpa using hi
    · show (i - j).toNat ≤ _
      simp
    · obtain ⟨rfl, rfl⟩ := y
      refine ⟨S2, .refl e2, ?_⟩
      rw [List.getElem?_map] at hd
      cases q : (List.range (i - j).toNat)[m]? with
      | none => rw [q] at hd; cases hd
      | some n =>
        rw [q] at hd
        have ej : n = m := by
          obtain ⟨h1, h2⟩ := List.getElem?_eq_some_iff.mp q
          rw [List.getElem_range] at h2
          exact h2.symm
        cases hd
        rw [ej]
        exact Rp.int.mpr (by congr 1; omega))
/-- reversed(xs) -/
theorem ei_rev {l : List D} (h : Ed X Δ e (.lst l)) (hm : X.mg "reversed" = none) (hg : Gl X "reversed" := by rfl) (hs : starEach [e] X.env = [(false, eval e X.env)] := by rfl) (hs2 : starEach [e] X.env = (false, eval e X.env) :: starEach [] X.env := by rfl) :
    Ei X Δ tg (.Call (.Name "reversed" p) [e] [] pos) l.reverse := fun S0 H0 S H σ A R k => WI.of (pi_reversed hg hm (pa_cons WE.pe pa_nil hs2) hs) (h S0 H0 S H σ A _ fun v S1 H1 l1 r1 => by
  obtain ⟨q, vs, rfl, g2, g3⟩ := Rp.lst.mp r1
  have hl := g3.len
  refine ⟨q, vs, rfl, SqL.of (l1.sub _ _ g2), k _ S1 H1 l1 ⟨fun S2 H2 e1 e2 i hi => ?_, fun S2 H2 e1 e2 => ?_, fun S2 H2 e1 e2 i d x H3 hd y => ?_⟩⟩
  · rw [List.length_reverse] at hi
    exact ⟨by omega, vs, vs[vs.length - 1 - i]'(by omega), SqL.of (e2 _ _ (e1 _ _ g2)), by simp [show vs.length - 1 - i < vs.length by omega]⟩
  · show vs.length ≤ _
    rw [List.length_reverse]; omega
  · obtain ⟨rfl, y⟩ := y
    obtain ⟨w, hw, rw'⟩ := ((g3.mono e1).rev).get hd
    have hi : i < vs.length := by
      have := (List.getElem?_eq_some_iff.mp hw).1
      rwa [List.length_reverse] at this
    have q := y vs (SqL.of (e2 _ _ (e1 _ _ g2)))
    rw [List.getElem?_reverse hi] at hw
    rw [hw] at q; cases q
    exact ⟨S2, .refl e2, rw'⟩)
/-- enumerate(xs), to a tuple target -/
theorem ei_enum {l : List D} {elts : List Expr} {kk : Nat} {tpos : Pos} (h : Ed X Δ e (.lst l)) (hm : X.mg "enumerate" = none) (hg : Gl X "enumerate" := by rfl) (hs : starEach [e] X.env = [(false, eval e X.env)] := by rfl) (hs2 : starEach [e] X.env = (false, eval e X.env) :: starEach [] X.env := by rfl) :
    Ei X Δ (.Tuple elts kk tpos) (.Call (.Name "enumerate" p) [e] [] pos) (l.mapIdx fun i d => .tup [.int ((i : Nat) : Int), d]) := fun S0 H0 S H σ A R k => WI.of (pi_enum hg hm (pa_cons WE.pe pa_nil hs2) hs) (h S0 H0 S H σ A _ fun v S1 H1 l1 r1 => by
  obtain ⟨q, vs, rfl, g2, g3⟩ := Rp.lst.mp r1
  refine ⟨q, vs, rfl, SqL.of (l1.sub _ _ g2), k _ S1 H1 l1 ⟨fun S2 H2 e1 e2 i hi => ?_, fun S2 H2 e1 e2 => ⟨vs, SqL.of (e2 _ _ (e1 _ _ g2)), by rw [List.length_mapIdx, g3.len]; exact Nat.le_refl _⟩, fun S2 H2 e1 e2 i d x H3 hd y => ?_⟩⟩
  · rw [List.length_mapIdx, g3.len] at hi
    exact ⟨vs, vs[i], SqL.of (e2 _ _ (e1 _ _ g2)), by simp [hi]⟩
  · obtain ⟨T, w, rfl, hT, rfl, y⟩ := y
    rw [List.getElem?_mapIdx] at hd
    cases q1 : l[i]? with
    | none => rw [q1] at hd; cases hd
    | some d1 =>
      rw [q1] at hd
      cases hd
      obtain ⟨w', hw, rw'⟩ := (g3.mono e1).get q1
      have q2 := y vs (SqL.of (e2 _ _ (e1 _ _ g2)))
      rw [hw] at q2; cases q2
      have hTS : S2 T = none := e2.back hT
      exact ⟨upd S2 T (.tup [.int (i : Nat), w]), .laid e2 hT, Rp.tup.mpr ⟨T, _, rfl, upd_same, .cons (Rp.int.mpr rfl) (.cons (rw'.mono (.new hTS)) .nil)⟩⟩)
end

/-! ### targets -/
def WG (X : Cx) (tg : Expr) : TG := fun v σ H Q => Box (∀ (pins : List (Addr × Obj)) (s : Shared) (u : Value), Inv X pins σ H s → RelV v u → wpAny (model X.prog X.w) X.A (assign tg X.env u) (fun _ s' => ∃ σ' H', Inv X pins σ' H' s' ∧ Q σ' H') X.xe s)
theorem WG.pg {X : Cx} {tg : Expr} : PG X tg (WG X tg) := ⟨fun pins s σ H v u Q I r h => h.out pins s u I r⟩
theorem WG.of {X : Cx} {tg : Expr} {g : TG} (h : PG X tg g) {v : V} {σ : L2.St} {H : Hp} {Q : L2.St → Hp → Prop} (q : g v σ H Q) : WG X tg v σ H Q := ⟨fun pins s u I r => h.run pins s σ H v u Q I r q⟩
def WGs (X : Cx) (ts : List Expr) : TGs := fun vs σ H Q => Box (∀ (pins : List (Addr × Obj)) (s : Shared) (us : List Value), Inv X pins σ H s → Vals vs us → wpAny (model X.prog X.w) X.A (assignInOrder ((assignEach ts X.env).map (·.2)) us) (fun _ s' => ∃ σ' H', Inv X pins σ' H' s' ∧ Q σ' H') X.xe s)
theorem WGs.pgs {X : Cx} {ts : List Expr} : PGs X ts (WGs X ts) := ⟨fun pins s σ H vs us Q I r h => h.out pins s us I r⟩
theorem WGs.of {X : Cx} {ts : List Expr} {g : TGs} (h : PGs X ts g) {vs : List V} {σ : L2.St} {H : Hp} {Q : L2.St → Hp → Prop} (q : g vs σ H Q) : WGs X ts vs σ H Q := ⟨fun pins s us I r => h.run pins s σ H vs us Q I r q⟩
/-- the target takes the datum: the slots behind it -/
def Eg (X : Cx) (tg : Expr) (d : D) (Δ Δ' : Dl) : Prop := ∀ (S0 H0 S H : Hp) (σ : L2.St) (v : V), Ab S0 H0 S H σ Δ → Rp S d v → ∀ N : L2.St → Hp → Prop, (∀ σ', Ab S0 H0 S H σ' Δ' → N σ' H) → WG X tg v σ H N
def Egs (X : Cx) (ts : List Expr) (ds : List D) (Δ Δ' : Dl) : Prop := ∀ (S0 H0 S H : Hp) (σ : L2.St) (vs : List V), Ab S0 H0 S H σ Δ → RpL S ds vs → ∀ N : L2.St → Hp → Prop, (∀ σ', Ab S0 H0 S H σ' Δ' → N σ' H) → WGs X ts vs σ H N
section
variable {X : Cx} {Δ Δ1 Δ2 : Dl} {tg : Expr} {ts : List Expr} {d : D} {ds : List D} {pos : Pos}
theorem eg_name (i : Nat) {x : Str} (hN : X.N.Nodup) (hi : X.N[i]? = some x := by rfl) (hx : Loc X.env.scope x := by first | exact Or.inl rfl | exact Or.inr rfl) (hf : X.fn x = true ∨ X.env.scope.names.lookup x = some .local := by first | exact .inl rfl | exact .inr rfl) : Eg X (.Name x pos) d Δ (Δ.set i (some (.sh d))) :=
  fun S0 H0 S H σ v A r N k => WG.of (pg_name hN hi hx hf) (k _ (A.set i r))
theorem egs_nil : Egs X [] [] Δ Δ := fun S0 H0 S H σ vs A r N k => WGs.of pgs_nil ⟨by simpa only [RpL] using r, k σ A⟩
theorem egs_cons (h1 : Eg X tg d Δ Δ1) (h2 : Egs X ts ds Δ1 Δ2) (hs : (assignEach (tg :: ts) X.env).map (·.2) = assign tg X.env :: (assignEach ts X.env).map (·.2) := by rfl) : Egs X (tg :: ts) (d :: ds) Δ Δ2 :=
  fun S0 H0 S H σ vs A r N k => WGs.of (pgs_cons WG.pg WGs.pgs hs) (by
    simp only [RpL] at r
    obtain ⟨v, vr, rfl, r1, r2⟩ := r
    refine ⟨v, vr, rfl, h1 S0 H0 S H σ v A r1 _ fun σ1 A1 => ?_⟩
    exact h2 S0 H0 S H σ1 vr A1 r2 N k)
theorem eg_tup {k : Nat} {n : Nat} (hc : X.calm = true) (h : Egs X ts ds Δ Δ1) (hl : ds.length = n := by rfl) (hn : (assignEach ts X.env).length = n := by rfl) (hst : (assignEach ts X.env).findIdx? (·.1) = none := by rfl) : Eg X (.Tuple ts k pos) (.tup ds) Δ Δ1 :=
  fun S0 H0 S H σ v A r N kk => WG.of (pg_tup hc WGs.pgs hn hst) (by
    obtain ⟨p, vs, rfl, g2, g3⟩ := Rp.tup.mp r
    exact ⟨p, vs, rfl, SqT.of (A.sub _ _ g2), by rw [← g3.len, hl], h S0 H0 S H σ vs A g3 N kk⟩)
end
/-- x, y = e -/
theorem go_asg {X : Cx} {S0 H0 : Hp} {Z : Ends} {Δ Δ' : Dl} {tg e : Expr} {rest : List Stmt} {pos : Pos} {d : D} (he : Ed X Δ e d) (hg : Eg X tg d Δ Δ') (k : Go X S0 H0 Z rest Δ') (hs : swapsWithSole [tg] e pos.line X.env = pure false := by rfl) (hw : swappedStores [tg] e X.env = pure none := by rfl)
    (h1 : (assignEach [tg] X.env).map (·.2) = [assign tg X.env] := by rfl) : Go X S0 H0 Z (.Assign [tg] e pos :: rest) Δ :=
  go_cons fun S H σ A => WS.of (ps_asg WE.pe WG.pg hs hw h1) (he S0 H0 S H σ A _ fun v S1 H1 l r => hg S0 H0 S1 H1 σ v (A.mono l) r _ fun σ' A' => k S1 H1 σ' A')

/-! ### for -/
/-- a later beginning: what is seen has grown -/
def Rb (S0 H0 S1 : Hp) : Prop := ∀ S H, Le S1 H0 S H → Le S0 H0 S H
theorem Rb.refl (S0 H0 : Hp) : Rb S0 H0 S0 := fun _ _ h => h
theorem Rb.trans {S0 H0 S1 S2 : Hp} (a : Rb S0 H0 S1) (b : Rb S1 H0 S2) : Rb S0 H0 S2 := fun S H h => a S H (b S H h)
theorem Rb.of {S0 H0 S1 H1 : Hp} (l : Le S0 H0 S1 H1) : Rb S0 H0 S1 := fun S H h => ⟨l.s.trans h.s, fun a o q => by
    rcases h.h a o q with z | ⟨⟨x, m⟩, z⟩
    · exact .inl z
    · exact .inr ⟨l.unmark m q, z⟩, h.sub, fun a o h1 h2 h3 => h.new a o (l.new a o h1 h2 h3) h2 h3⟩
theorem Rb.post {S0 H0 S1 : Hp} (r : Rb S0 H0 S1) {a : Av} {Q : VK} (k : Post S0 H0 a Q) : Post S1 H0 a Q := by
  cases a with
  | sh d => exact fun v S2 H2 l q => k v S2 H2 (r _ _ l) q
  | ol x => exact fun p vs S2 H2 l h1 h2 h3 q => k p vs S2 H2 (r _ _ l) h1 h2 h3 q
  | od ks x => exact fun p vs S2 H2 l h1 h2 h3 h4 q => k p vs S2 H2 (r _ _ l) h1 h2 h3 h4 q
  | oi C ns x => exact fun p dx vs S2 H2 l h1 h2 h3 h4 q => k p dx vs S2 H2 (r _ _ l) h1 h2 h3 h4 q
theorem Rb.ab {S0 H0 S1 S H : Hp} {σ : L2.St} {Δ : Dl} (r : Rb S0 H0 S1) (A : Ab S1 H0 S H σ Δ) : Ab S0 H0 S H σ Δ := ⟨r _ _ A.le, A.sl, A.ap, A.len⟩
theorem Rb.nx {S0 H0 S1 : Hp} (r : Rb S0 H0 S1) {N : L2.St → Hp → Prop} {Δ : Dl} (k : Nx S0 H0 N Δ) : Nx S1 H0 N Δ := fun S H σ A => k S H σ (r.ab A)
theorem Rb.go {S0 H0 S1 : Hp} (r : Rb S0 H0 S1) {X : Cx} {Z : Ends} {sts : List Stmt} {Δ : Dl} (k : Go X S0 H0 Z sts Δ) : Go X S1 H0 Z sts Δ := fun S H σ A => k S H σ (r.ab A)
/-- from the state as it stands -/
theorem Ab.rebase {S0 H0 S H : Hp} {σ : L2.St} {Δ : Dl} (A : Ab S0 H0 S H σ Δ) : Ab S H0 S H σ Δ := ⟨⟨.refl _, fun a o q => (A.le.h a o q).imp (fun z => z) fun ⟨⟨x, m⟩, z⟩ => ⟨⟨x, A.le.s a _ m⟩, z⟩, A.sub, fun _ _ h _ _ => h⟩, A.sl, A.ap, A.len⟩
/-- what a turn ends in: the state st a for an a of the next turn's -/
inductive Turned {α : Type} (S0 H0 : Hp) (st : α → Dl) (P : Nat → α → Prop) (i : Nat) (σ : L2.St) (H : Hp) : Prop
  | mk (S : Hp) (a : α) (h1 : P i a) (h2 : Ab S0 H0 S H σ (st a)) : Turned S0 H0 st P i σ H
theorem nx_turned {α : Type} {S0 H0 : Hp} {st : α → Dl} {P : Nat → α → Prop} {i : Nat} {Δ : Dl} (a : α) (hP : P i a) (w : Wk Δ (st a)) : Nx S0 H0 (Turned S0 H0 st P i) Δ := fun S H σ A => ⟨S, a, hP, A.weak w.len w.get⟩
/-- a turn's end -/
theorem go_next {X : Cx} {Z : Ends} {α : Type} {S0 H0 : Hp} {st : α → Dl} {P : Nat → α → Prop} {i : Nat} {Δ : Dl} (hz : Z.nx = Turned S0 H0 st P i) (a : α) (hP : P i a) (w : Wk Δ (st a)) : Go X S0 H0 Z [] Δ := go_nil (by rw [hz]; exact nx_turned a hP w)
theorem ge_of_none {α : Type} {l : List α} {i : Nat} (h : ¬ i < l.length) (h2 : i ≤ l.length) : i = l.length := by omega
theorem for_post {X : Cx} {S0 H0 S H : Hp} {σ : L2.St} {Z : Ends} {Δ0 : Dl} {tg : Expr} {body : List Stmt} {α β : Type} (st : α → Dl) (P : Nat → α → Prop) {ys : List β} {enc : β → D} {J : It} (A : Ab S0 H0 S H σ Δ0) (ok : ItOk J S (ys.map enc)) (a0 : α) (h0 : P 0 a0) (w0 : Wk Δ0 (st a0))
    (ht : ∀ S1, Rb S0 H0 S1 → ∀ i y a, ys[i]? = some y → P i a → ∃ Δ', Eg X tg (enc y) (st a) Δ' ∧ Go X S1 H0 { Z with nx := Turned S1 H0 st P (i + 1), ct := Turned S1 H0 st P (i + 1), bk := Z.nx } body Δ')
    (hd : ∀ a, P ys.length a → Nx S0 H0 Z.nx (st a)) :
    ∃ W : Nat → Nat → L2.St → Hp → Prop, (∃ m, W 0 m σ H) ∧ ∀ i m σ H, W i m σ H →
      (J.stop i H ∧ Z.nx σ H) ∨ (J.go i H ∧ ∃ N : L2.St → Hp → Prop, (∀ σ' H', N σ' H' → ∃ m', m' < m ∧ W (i + 1) m' σ' H') ∧ ∀ x H', J.yld i H x H' → WG X tg x σ H' fun σ2 H2 => WSs X body { Z with nx := N, ct := N, bk := Z.nx } σ2 H2) := by
  have rb : Rb S0 H0 S := .of A.le
  refine ⟨fun i m σ' H' => m = ys.length - i ∧ i ≤ ys.length ∧ Turned S H0 st P i σ' H', ⟨ys.length, by simp, Nat.zero_le _, S, a0, h0, A.rebase.weak w0.len w0.get⟩, ?_⟩
  rintro i m σ1 H1 ⟨rfl, hi, S1, a, hP, A1⟩
  have e1 : Ex S S1 := A1.le.s
  by_cases hlt : i < ys.length
  · refine .inr ⟨ok.go S1 H1 e1 A1.sub i (by simpa using hlt), Turned S H0 st P (i + 1), fun σ' H' q => ⟨ys.length - (i + 1), by omega, rfl, hlt, q⟩, fun x H2 y => ?_⟩
    obtain ⟨S2, l2, r2⟩ := ok.yld S1 H1 e1 A1.sub i (enc ys[i]) x H2 (by simp [hlt]) y
    obtain ⟨Δ', hg, hb⟩ := ht S rb i ys[i] a (by simp [hlt]) hP
    exact hg S H0 S2 H2 σ1 x (A1.mono l2) r2 _ fun σ2 A2 => hb S2 H2 σ2 A2
  · have e : i = ys.length := by omega
    subst e
    refine .inl ⟨?_, hd a hP S1 H1 σ1 (rb.ab A1)⟩
    have := ok.stop S1 H1 e1 A1.sub
    rwa [List.length_map] at this
theorem go_for {X : Cx} {S0 H0 : Hp} {Z : Ends} {Δ : Dl} {tg iter : Expr} {body rest : List Stmt} {pos : Pos} {α β : Type} (st : α → Dl) (P : Nat → α → Prop) (ys : List β) (enc : β → D) {xs : List D} (hi : Ei X Δ tg iter xs) (hxs : xs = ys.map enc) (a0 : α) (h0 : P 0 a0) (w0 : Wk Δ (st a0))
    (ht : ∀ S1, Rb S0 H0 S1 → ∀ i y a, ys[i]? = some y → P i a → ∃ Δ', Eg X tg (enc y) (st a) Δ' ∧ Go X S1 H0 { Z with nx := Turned S1 H0 st P (i + 1), ct := Turned S1 H0 st P (i + 1), bk := WSs X rest Z } body Δ')
    (hd : ∀ a, P ys.length a → Go X S0 H0 Z rest (st a)) (hp : PassesOwn (model X.prog X.w) X.A X.env X.xe := by exact PassesOwn.never) (hc : X.calm = true := by rfl) (hs : ∀ x, foldedSetIterable iter X.env x = pure x := by intro _; rfl) : Go X S0 H0 Z (.For tg iter body [] pos :: rest) Δ := by
  subst hxs
  exact go_cons fun S H σ A => WS.of (ps_for hp hc WI.pi WG.pg WSs.pss hs) (hi S0 H0 S H σ A _ fun J S1 H1 l1 ok => for_post st P (A.mono l1) ok a0 h0 w0 ht hd)
end Bb
end
section
set_option maxRecDepth 100000
set_option maxHeartbeats 4000000
/-! B6: list comprehensions. -/
namespace Bb
open PySem PySem.Spec PyProof.Rows L2
open Evl (Ex)

/-- the block of a comprehension -/
abbrev XB (X : Cx) (scope : Scope) (s : Shared) (H : Hp) (C : Addr) (cl : List (Str × Addr)) (fp : List Addr) : Cx := X.blk s H scope (compEnvC scope cl C X.env) fp
/-- in every block of it -/
def InB (X : Cx) (scope : Scope) (Ψ : Cx → Prop) : Prop := ∀ (s : Shared) (H : Hp) (C : Addr) (cl : List (Str × Addr)) (fp : List Addr), Ψ (XB X scope s H C cl fp)
def WEb (X : Cx) (scope : Scope) (e : Expr) : TE := fun σ H Q => InB X scope fun Y => WE Y e σ H Q
def WTb (X : Cx) (scope : Scope) (e : Expr) : TT := fun σ H Q => InB X scope fun Y => WT Y e σ H Q
theorem WEb.pe {X : Cx} {scope : Scope} {e : Expr} : InB X scope fun Y => PE Y e (WEb X scope e) := fun s H C cl fp => ⟨fun pins s' σ H' Q I h => (h s H C cl fp).out pins s' I⟩
theorem WTb.pt {X : Cx} {scope : Scope} {e : Expr} : InB X scope fun Y => PT Y e (WTb X scope e) := fun s H C cl fp => ⟨fun pins s' σ H' Q I h => (h s H C cl fp).out pins s' I⟩
/-- the tests of a for: none or one -/
def WFb (X : Cx) (scope : Scope) : List Expr → TT
  | [] => tYes
  | [c] => WTb X scope c
  | _ => fun _ _ _ => False
theorem WFb.pts {X : Cx} {scope : Scope} : ∀ {ifs : List Expr}, ifs.length ≤ 1 → InB X scope fun Y => PTs Y ifs (WFb X scope ifs)
  | [], _ => fun _ _ _ _ _ => pts_nil
  | [c], _ => fun s H C cl fp => pts_one (WTb.pt s H C cl fp)
  | _ :: _ :: _, h => absurd h (by simp)
inductive Ef (X : Cx) (scope : Scope) (Δ : Dl) : List Expr → Bool → Prop
  | nil : Ef X scope Δ [] true
  | one {c : Expr} {t : Bool} (h : InB X scope fun Y => Et Y Δ c t) : Ef X scope Δ [c] t
theorem Ef.run {X : Cx} {scope : Scope} {Δ : Dl} {ifs : List Expr} {t : Bool} (h : Ef X scope Δ ifs t) {S0 H0 S H : Hp} {σ : L2.St} (A : Ab S0 H0 S H σ Δ) {Q : Bool → Hp → Prop} (k : ∀ S1 H1, Le S H S1 H1 → Q t H1) : WFb X scope ifs σ H Q := by
  cases h with
  | nil => exact k S H (.refl A.sub)
  | one h => exact fun s H' C cl fp => h s H' C cl fp S0 H0 S H σ A Q k
theorem wipe_one (σ : L2.St) (j : Nat) : wipe σ [j] = σ.set j none := rfl
theorem set_set (σ : L2.St) (j : Nat) (x y : Option V) : (σ.set j x).set j y = σ.set j y := by simp [List.set_set]
/-- a slot forgotten -/
theorem Ab.forget {S0 H0 S H : Hp} {σ : L2.St} {Δ : Dl} (A : Ab S0 H0 S H σ Δ) (j : Nat) : Ab S0 H0 S H (σ.set j none) (Δ.set j none) := by
  have key : ∀ (i : Nat) (a : Av), (Δ.set j none)[i]? = some (some a) → j ≠ i ∧ Δ[i]? = some (some a) := fun i a e => by
    by_cases hj : j = i
    · subst hj
      by_cases hi : j < Δ.length
      · rw [List.getElem?_set_self hi] at e; cases e
      · rw [List.getElem?_eq_none (by rw [List.length_set]; omega)] at e; cases e
    · rw [List.getElem?_set_ne hj] at e; exact ⟨hj, e⟩
  refine ⟨A.le, fun i a e => ?_, fun i k a b v hik e1 e2 o1 o2 s1 => ?_, by rw [List.length_set, List.length_set, A.len]⟩
  · obtain ⟨hj, e⟩ := key i a e
    rw [List.getElem?_set_ne hj]
    exact A.sl i a e
  · obtain ⟨h1, e1⟩ := key i a e1
    obtain ⟨h2, e2⟩ := key k b e2
    rw [List.getElem?_set_ne h1] at s1
    rw [List.getElem?_set_ne h2]
    exact A.ap i k a b v hik e1 e2 o1 o2 s1
/-- a loop's walk: its turns -/
structure WalkD (J : It) (S : Hp) (n : Nat) (xs : List D) : Prop where
  ok : ItOk J S xs
  len : xs.length = n
section
variable {X : Cx} {Δ : Dl} {elt iter iter1 : Expr} {ifs ifs1 : List Expr} {scope : Scope} {pos tp tp1 : Pos} {x x1 : Str} {j j1 : Nat} {β γ : Type}
/-- what the comprehension asks of its reading -/
theorem lc_post {xs : List D} {ys : List β} {enc : β → D} {T : β → Bool} {E : β → D} {S0 H0 S H : Hp} {σ : L2.St} (A : Ab S0 H0 S H σ Δ) (hi : Ei X Δ (.Name x tp) iter xs) (hxs : xs = ys.map enc) (hz : ys.length ≤ 1000000)
    (hf : ∀ y ∈ ys, Ef X scope (Δ.set j (some (.sh (enc y)))) ifs (T y)) (he : ∀ y ∈ ys, T y = true → InB X scope fun Y => Ed Y (Δ.set j (some (.sh (enc y)))) elt (E y)) {Q : VK} (k : Post S H (.ol ((ys.filter T).map E)) Q) :
    tLc (WI X (.Name x tp) iter) (gName j) (WFb X scope ifs) (WEb X scope elt) [j] σ H Q := by
  subst hxs
  refine hi S0 H0 S H σ A _ fun J S1 H1 l1 ok D0 hD => ?_
  have A1 := A.mono l1
  have hDS : S1 D0 = none := l1.sub.back hD
  refine ⟨fun i m H' => m = ys.length - i ∧ i ≤ ys.length ∧ ∃ S' vs, Le S1 H1 S' H' ∧ S' D0 = none ∧ H' D0 = some (.lst vs) ∧ RpL S' (((ys.take i).filter T).map E) vs, ⟨ys.length, by simp, Nat.zero_le _, S1, [], .hid l1.sub hD, hDS, upd_same, RpL.nil⟩, ?_⟩
  rintro i m H2 ⟨rfl, hi, S2, vs, l2, h1, h2, r⟩
  by_cases hlt : i < ys.length
  · refine .inr ⟨ok.go S2 H2 l2.s l2.sub i (by simpa using hlt), fun H' => i + 1 ≤ ys.length ∧ ∃ S' vs, Le S1 H1 S' H' ∧ S' D0 = none ∧ H' D0 = some (.lst vs) ∧ RpL S' (((ys.take (i + 1)).filter T).map E) vs, fun H' q => ⟨ys.length - (i + 1), by omega, rfl, q⟩, fun v H3 y => ?_⟩
    obtain ⟨S3, l3, r3⟩ := ok.yld S2 H2 l2.s l2.sub i (enc ys[i]) v H3 (by simp [hlt]) y
    have hm : ys[i] ∈ ys := List.getElem_mem hlt
    have A3 : Ab S0 H0 S3 H3 (σ.set j (some v)) (Δ.set j (some (.sh (enc ys[i])))) := (A1.mono (l2.trans l3)).set j r3
    have etake : ys.take (i + 1) = ys.take i ++ [ys[i]] := by rw [List.take_succ, List.getElem?_eq_getElem hlt]; rfl
    obtain ⟨g1, g2⟩ := l3.hidden h1 h2
    show wipe ((wipe σ [j]).set j (some v)) [j] = wipe σ [j] ∧ WFb X scope ifs ((wipe σ [j]).set j (some v)) H3 _
    rw [wipe_one, wipe_one, set_set σ j none (some v), set_set σ j (some v) none]
    refine ⟨rfl, Ef.run (hf ys[i] hm) A3 fun S4 H4 l4 => ?_⟩
    obtain ⟨f1, f2⟩ := l4.hidden g1 g2
    cases hT : T ys[i] with
    | false =>
      refine iteF ⟨hlt, S4, vs, l2.trans (l3.trans l4), f1, f2, ?_⟩
      rw [etake, List.filter_append, List.map_append]
      have e0 : ([ys[i]].filter T).map E = [] := by simp [hT]
      rw [e0, List.append_nil]
      exact r.mono (l3.s.trans l4.s)
    | true =>
      refine iteT fun s HB C cl fp => ?_
      refine he ys[i] hm hT s HB C cl fp S0 H0 S4 H4 _ (A3.mono l4) _ fun z S5 H5 l5 r5 => ?_
      obtain ⟨e1, e2⟩ := l5.hidden f1 f2
      have lz : vs.length ≤ 1000000 := by
        rw [← r.len, List.length_map]
        exact Nat.le_trans (List.length_filter_le _ _) (by rw [List.length_take]; omega)
      refine ⟨vs, e2, by rw [sizeLine_eq]; omega, hlt, S5, vs ++ [z], (l2.trans (l3.trans (l4.trans l5))).mut hD e1, e1, upd_same, ?_⟩
      rw [etake, List.filter_append, List.map_append]
      have e0 : ([ys[i]].filter T).map E = [E ys[i]] := by simp [hT]
      rw [e0]
      exact (r.mono (l3.s.trans (l4.s.trans l5.s))).app (.cons r5 .nil)
  · have e : i = ys.length := by omega
    subst e
    have hst := ok.stop S2 H2 l2.s l2.sub
    rw [List.length_map] at hst
    refine .inl ⟨hst, ?_⟩
    rw [List.take_length] at r
    exact k D0 vs S2 H2 (l1.trans l2) (l1.back hD) h1 h2 r
theorem ev_lc (ys : List β) (enc : β → D) (T : β → Bool) (E : β → D) {xs : List D} (hi : Ei X Δ (.Name x tp) iter xs) (hxs : xs = ys.map enc) (hz : ys.length ≤ 1000000) (hN : X.N.Nodup)
    (hf : ∀ y ∈ ys, Ef X scope (Δ.set j (some (.sh (enc y)))) ifs (T y)) (he : ∀ y ∈ ys, T y = true → InB X scope fun Y => Ed Y (Δ.set j (some (.sh (enc y)))) elt (E y))
    (ok : BlkOk X.N X.env.scope scope [(x, j)]) (hg : InB X scope fun Y => PG Y (.Name x tp) (gName j)) (hl : ifs.length ≤ 1 := by decide) (hc : X.calm = true := by rfl) (hs : ∀ x, foldedSetIterable iter X.env x = pure x := by intro _; rfl) :
    Ev X Δ (.ListComp elt [⟨.Name x tp, iter, ifs, 0⟩] scope pos) (.ol ((ys.filter T).map E)) := fun S0 H0 S H σ A Q k =>
  WE.of (pe_lc hc hN WI.pi ok hg (WFb.pts hl) WEb.pe hs) (lc_post A hi hxs hz hf he k)
/-- y = [..], on one line -/
theorem go_setLc {S0 H0 : Hp} {Z : Ends} {rest : List Stmt} {spos : Pos} (i : Nat) {y : Str} {py : Pos} (ys : List β) (enc : β → D) (T : β → Bool) (E : β → D) {xs : List D} (hi : Ei X Δ (.Name x tp) iter xs) (hxs : xs = ys.map enc) (hz : ys.length ≤ 1000000) (hN : X.N.Nodup)
    (hf : ∀ y ∈ ys, Ef X scope (Δ.set j (some (.sh (enc y)))) ifs (T y)) (he : ∀ y ∈ ys, T y = true → InB X scope fun Y => Ed Y (Δ.set j (some (.sh (enc y)))) elt (E y))
    (ok : BlkOk X.N X.env.scope scope [(x, j)]) (hg : InB X scope fun Y => PG Y (.Name x tp) (gName j)) (k : Go X S0 H0 Z rest (Δ.set i (some (.ol ((ys.filter T).map E)))))
    (hsw : swapsWith (.ListComp elt [⟨.Name x tp, iter, ifs, 0⟩] scope pos) (some (.Name y py)) spos.line X.env = pure true)
    (hy : X.N[i]? = some y := by rfl) (hyl : X.env.scope.names.lookup y = some .local := by rfl) (hl : ifs.length ≤ 1 := by decide) (hc : X.calm = true := by rfl) (hs : ∀ x, foldedSetIterable iter X.env x = pure x := by intro _; rfl) :
    Go X S0 H0 Z (.Assign [.Name y py] (.ListComp elt [⟨.Name x tp, iter, ifs, 0⟩] scope pos) spos :: rest) Δ :=
  go_cons fun S H σ A => WS.of (ps_setLc hc hN hy hyl hsw WI.pi ok hg (WFb.pts hl) WEb.pe hs) (lc_post A hi hxs hz hf he (set_post i A (nx_go k)))
/-! two fors, no tests -/
def WIb (X : Cx) (scope : Scope) (tg iter : Expr) : TI := fun σ H R => InB X scope fun Y => WI Y tg iter σ H R
theorem WIb.pi {tg : Expr} : InB X scope fun Y => PI Y tg iter (WIb X scope tg iter) := fun s H C cl fp => ⟨fun pins s' σ H' R I h => (h s H C cl fp).out pins s' I⟩
theorem wipe2 (σ : L2.St) {i j : Nat} (v : Option V) : wipe ((wipe σ [i, j]).set i v) [i, j] = wipe σ [i, j] := by
  show ((((σ.set j none).set i none).set i v).set j none).set i none = (σ.set j none).set i none
  apply List.ext_getElem?
  intro k
  simp only [List.getElem?_set, List.length_set]
  split <;> split <;> simp_all
theorem lc2_post {xs : List D} {ys : List β} {enc : β → D} {zs : β → List γ} {enc1 : γ → D} {E : β → γ → D} {S0 H0 S H : Hp} {σ : L2.St} (A : Ab S0 H0 S H σ Δ) (hi : Ei X Δ (.Name x tp) iter xs) (hxs : xs = ys.map enc) (hz : (ys.flatMap fun y => (zs y).map (E y)).length ≤ 1000000)
    (hi1 : ∀ y ∈ ys, InB X scope fun Y => Ei Y ((Δ.set j1 none).set j (some (.sh (enc y)))) (.Name x1 tp1) iter1 ((zs y).map enc1)) (he : ∀ y ∈ ys, ∀ z ∈ zs y, InB X scope fun Y => Ed Y ((((Δ.set j1 none).set j (some (.sh (enc y)))).set j1 none).set j1 (some (.sh (enc1 z)))) elt (E y z)) {Q : VK}
    (k : Post S H (.ol (ys.flatMap fun y => (zs y).map (E y))) Q) :
    tLc2 (WI X (.Name x tp) iter) (gName j) tYes (WIb X scope (.Name x1 tp1) iter1) (gName j1) tYes (WEb X scope elt) [j, j1] [j1] σ H Q := by
  subst hxs
  refine hi S0 H0 S H σ A _ fun J S1 H1 l1 ok D0 hD => ?_
  have A1 := A.mono l1
  have hDS : S1 D0 = none := l1.sub.back hD
  refine ⟨fun i m H' => m = ys.length - i ∧ i ≤ ys.length ∧ ∃ S' vs, Le S1 H1 S' H' ∧ S' D0 = none ∧ H' D0 = some (.lst vs) ∧ RpL S' ((ys.take i).flatMap fun y => (zs y).map (E y)) vs, ⟨ys.length, by simp, Nat.zero_le _, S1, [], .hid l1.sub hD, hDS, upd_same, RpL.nil⟩, ?_⟩
  rintro i m H2 ⟨rfl, hi, S2, vs, l2, h1, h2, r⟩
  by_cases hlt : i < ys.length
  · refine .inr ⟨ok.go S2 H2 l2.s l2.sub i (by simpa using hlt), fun H' => i + 1 ≤ ys.length ∧ ∃ S' vs, Le S1 H1 S' H' ∧ S' D0 = none ∧ H' D0 = some (.lst vs) ∧ RpL S' ((ys.take (i + 1)).flatMap fun y => (zs y).map (E y)) vs, fun H' q => ⟨ys.length - (i + 1), by omega, rfl, q⟩, fun v H3 y => ?_⟩
    obtain ⟨S3, l3, r3⟩ := ok.yld S2 H2 l2.s l2.sub i (enc ys[i]) v H3 (by simp [hlt]) y
    have hm : ys[i] ∈ ys := List.getElem_mem hlt
    have etake : ys.take (i + 1) = ys.take i ++ [ys[i]] := by rw [List.take_succ, List.getElem?_eq_getElem hlt]; rfl
    have hsub : ((ys.take i).flatMap fun y => (zs y).map (E y)).length + (zs ys[i]).length ≤ 1000000 := by
      have e1 : ys = ys.take i ++ (ys[i] :: ys.drop (i + 1)) := by
        rw [← List.drop_eq_getElem_cons hlt, List.take_append_drop]
      have e2 := congrArg (fun l => (List.flatMap (fun y => (zs y).map (E y)) l).length) e1
      simp only [List.flatMap_append, List.flatMap_cons, List.length_append, List.length_map] at e2
      omega
    generalize ys[i] = yi at *
    have A3 : Ab S0 H0 S3 H3 (((σ.set j1 none).set j none).set j (some v)) ((Δ.set j1 none).set j (some (.sh (enc yi)))) := by
      rw [set_set]
      exact ((A1.mono (l2.trans l3)).forget j1).set j r3
    obtain ⟨g1, g2⟩ := l3.hidden h1 h2
    refine ⟨wipe2 σ _, ?_⟩
    show WIb X scope (.Name x1 tp1) iter1 (((σ.set j1 none).set j none).set j (some v)) H3 _
    intro s HB C cl fp
    refine hi1 yi hm s HB C cl fp S0 H0 S3 H3 _ A3 _ fun J1 S4 H4 l4 ok1 => ?_
    obtain ⟨f1, f2⟩ := l4.hidden g1 g2
    have l14 : Le S1 H1 S4 H4 := l2.trans (l3.trans l4)
    refine ⟨fun n m H' => m = (zs yi).length - n ∧ n ≤ (zs yi).length ∧ ∃ S' ws, Le S1 H1 S' H' ∧ Ex S4 S' ∧ S' D0 = none ∧ H' D0 = some (.lst ws) ∧ RpL S' (((ys.take i).flatMap fun y => (zs y).map (E y)) ++ ((zs yi).take n).map (E yi)) ws,
      ⟨(zs yi).length, by simp, Nat.zero_le _, S4, vs, l14, .refl _, f1, f2, by simpa using r.mono (l3.s.trans l4.s)⟩, ?_⟩
    rintro n m H5 ⟨rfl, hn, S5, ws, l5, e5, p1, p2, r5⟩
    by_cases hnl : n < (zs yi).length
    · refine .inr ⟨ok1.go S5 H5 e5 l5.sub n (by simpa using hnl), fun H' => n + 1 ≤ (zs yi).length ∧ ∃ S' ws, Le S1 H1 S' H' ∧ Ex S4 S' ∧ S' D0 = none ∧ H' D0 = some (.lst ws) ∧ RpL S' (((ys.take i).flatMap fun y => (zs y).map (E y)) ++ ((zs yi).take (n + 1)).map (E yi)) ws, fun H' q => ⟨(zs yi).length - (n + 1), by omega, rfl, q⟩, fun w H6 y6 => ?_⟩
      obtain ⟨S6, l6, r6⟩ := ok1.yld S5 H5 e5 l5.sub n (enc1 (zs yi)[n]) w H6 (by simp [hnl]) y6
      have hm1 : (zs yi)[n] ∈ zs yi := List.getElem_mem hnl
      have A6 : Ab S0 H0 S6 H6 ((((((σ.set j1 none).set j none).set j (some v)).set j1 none).set j1 (some w))) (((((Δ.set j1 none).set j (some (.sh (enc yi)))).set j1 none).set j1 (some (.sh (enc1 (zs yi)[n]))))) := by
        have B : Ab S0 H0 S6 H6 (((σ.set j1 none).set j none).set j (some v)) ((Δ.set j1 none).set j (some (.sh (enc yi)))) := by
          rw [set_set]
          exact ((A1.mono (l5.trans l6)).forget j1).set j (r3.mono (l4.s.trans (e5.trans l6.s)))
        exact (B.forget j1).set j1 r6
      obtain ⟨q1, q2⟩ := l6.hidden p1 p2
      refine ⟨?_, ?_⟩
      · show ((((((σ.set j1 none).set j none).set j (some v)).set j1 none).set j1 (some w)).set j1 none) = _
        rw [set_set, set_set]
        rfl
      show WEb X scope elt (((((σ.set j1 none).set j none).set j (some v)).set j1 none).set j1 (some w)) H6 _
      intro s' HB' C' cl' fp'
      refine he yi hm _ hm1 s' HB' C' cl' fp' S0 H0 S6 H6 _ A6 _ fun z S7 H7 l7 r7 => ?_
      obtain ⟨t1, t2⟩ := l7.hidden q1 q2
      have lz : ws.length ≤ 1000000 := by
        rw [← r5.len, List.length_append, List.length_map, List.length_take]
        omega
      refine ⟨ws, t2, by rw [sizeLine_eq]; omega, hnl, S7, ws ++ [z], (l5.trans (l6.trans l7)).mut hD t1, e5.trans (l6.s.trans l7.s), t1, upd_same, ?_⟩
      have et : (zs yi).take (n + 1) = (zs yi).take n ++ [(zs yi)[n]] := by rw [List.take_succ, List.getElem?_eq_getElem hnl]; rfl
      rw [et, List.map_append, ← List.append_assoc]
      exact (r5.mono (l6.s.trans l7.s)).app (.cons r7 .nil)
    · have e : n = (zs yi).length := by omega
      subst e
      have hst := ok1.stop S5 H5 e5 l5.sub
      rw [List.length_map] at hst
      refine .inl ⟨hst, hlt, S5, ws, l5, p1, p2, ?_⟩
      rw [List.take_length] at r5
      rw [etake, List.flatMap_append]
      simpa using r5
  · have e : i = ys.length := by omega
    subst e
    have hst := ok.stop S2 H2 l2.s l2.sub
    rw [List.length_map] at hst
    refine .inl ⟨hst, ?_⟩
    rw [List.take_length] at r
    exact k D0 vs S2 H2 (l1.trans l2) (l1.back hD) h1 h2 r
/-- y = [.. for .. for ..] -/
theorem go_setLc2 {S0 H0 : Hp} {Z : Ends} {rest : List Stmt} {spos : Pos} (i : Nat) {y : Str} {py : Pos} (ys : List β) (enc : β → D) (zs : β → List γ) (enc1 : γ → D) (E : β → γ → D) {xs : List D} (hi : Ei X Δ (.Name x tp) iter xs) (hxs : xs = ys.map enc) (hz : (ys.flatMap fun y => (zs y).map (E y)).length ≤ 1000000) (hN : X.N.Nodup)
    (hi1 : ∀ y ∈ ys, InB X scope fun Y => Ei Y ((Δ.set j1 none).set j (some (.sh (enc y)))) (.Name x1 tp1) iter1 ((zs y).map enc1)) (he : ∀ y ∈ ys, ∀ z ∈ zs y, InB X scope fun Y => Ed Y ((((Δ.set j1 none).set j (some (.sh (enc y)))).set j1 none).set j1 (some (.sh (enc1 z)))) elt (E y z))
    (ok : BlkOk X.N X.env.scope scope [(x, j), (x1, j1)]) (hg : InB X scope fun Y => PG Y (.Name x tp) (gName j)) (hg1 : InB X scope fun Y => PG Y (.Name x1 tp1) (gName j1)) (k : Go X S0 H0 Z rest (Δ.set i (some (.ol (ys.flatMap fun y => (zs y).map (E y))))))
    (hsw : swapsWith (.ListComp elt [⟨.Name x tp, iter, [], 0⟩, ⟨.Name x1 tp1, iter1, [], 0⟩] scope pos) (some (.Name y py)) spos.line X.env = pure true)
    (hy : X.N[i]? = some y := by rfl) (hyl : X.env.scope.names.lookup y = some .local := by rfl) (hc : X.calm = true := by rfl) (hs : ∀ x, foldedSetIterable iter X.env x = pure x := by intro _; rfl) (hs1 : ∀ env x, foldedSetIterable iter1 env x = pure x := by intro _ _; rfl) :
    Go X S0 H0 Z (.Assign [.Name y py] (.ListComp elt [⟨.Name x tp, iter, [], 0⟩, ⟨.Name x1 tp1, iter1, [], 0⟩] scope pos) spos :: rest) Δ :=
  go_cons fun S H σ A => WS.of (ps_setLc2 (own := [(x, j), (x1, j1)]) (vs1 := [j1]) hc hN hy hyl hsw WI.pi ok (by intro i hi; simp at hi; subst hi; simp) hg (fun _ _ _ _ _ => pts_nil) WIb.pi hg1 (fun _ _ _ _ _ => pts_nil) WEb.pe hs hs1) (lc2_post A hi hxs hz hi1 he (set_post i A (nx_go k)))
end
end Bb
end
section
set_option maxRecDepth 100000
set_option maxHeartbeats 4000000
/-! B7: built-ins by name; methods of texts and lists; in. -/
namespace Bb
open PySem PySem.Spec PyProof.Rows L2

section
variable {X : Cx} {Δ : Dl} {e a b c : Expr} {es : List Expr} {pos p : Pos} {d x y z : D} {av : Av}
/-- sorted(e, reverse=True), ints -/
theorem ev_sorted {xs : List Int} {j : Nat} {kp p2 : Pos} (h : Ed X Δ e (dI xs)) (hm : X.mg "sorted" = none) (hg : Gl X "sorted" := by rfl) (hs : starEach [e] X.env = (false, eval e X.env) :: starEach [] X.env := by rfl)
    (hpe : ∀ (t : TA), Gl X "sorted" → X.mg "sorted" = none → PA X [e] t → PE X (.Call (.Name "sorted" p) [e] [⟨some "reverse", .Constant (.bool true) j p2, kp⟩] pos) (tCKw (rSortedKw X.K true [.bl true]) t (tCons (tC (.bl true)) tNil)) := by
      exact fun t hg hm ha => pe_callBK cr_sortedRev hg hm (by decide +kernel) ha (pk_cons pe_bl pk_nil)) :
    Ev X Δ (.Call (.Name "sorted" p) [e] [⟨some "reverse", .Constant (.bool true) j p2, kp⟩] pos) (.ol ((sortD xs).map .int)) := fun S0 H0 S H σ A Q k =>
  WE.of (hpe _ hg hm (pa_cons WE.pe pa_nil hs)) (h S0 H0 S H σ A _ fun v S1 H1 l1 r1 => by
    obtain ⟨q, rfl, g2⟩ := Rp.dI r1
    refine ⟨q, xs, rfl, rfl, SqL.of (l1.sub _ _ g2), fun ns' r hp ho hr => ?_⟩
    have hq : ns'.Pairwise (· ≥ ·) := ho
    rw [sortD_eq hp hq]
    exact Post.newL l1.sub (k.mono l1) hr (RpL.ints.mpr rfl))
theorem ev_listL {l : List D} (h : Ed X Δ e (.lst l)) (hm : X.mg "list" = none) (hg : Gl X "list" := by rfl) (hs : starEach [e] X.env = (false, eval e X.env) :: starEach [] X.env := by rfl) : Ev X Δ (.Call (.Name "list" p) [e] [] pos) (.ol l) :=
  ev_callTy call_list_of (ea_cons h ea_nil hs) (fun S H vs e h Q k => by
    simp only [RpL] at h
    obtain ⟨v, r, rfl, h1, rfl⟩ := h
    obtain ⟨q, ws, rfl, g2, g3⟩ := Rp.lst.mp h1
    exact ⟨q, ws, rfl, .inl (SqL.of (e _ _ g2)), fun r hr => Post.newL e k hr g3⟩) hm (hg := hg) (he := hs)
theorem ev_listT {l : List D} (h : Ed X Δ e (.tup l)) (hm : X.mg "list" = none) (hg : Gl X "list" := by rfl) (hs : starEach [e] X.env = (false, eval e X.env) :: starEach [] X.env := by rfl) : Ev X Δ (.Call (.Name "list" p) [e] [] pos) (.ol l) :=
  ev_callTy call_list_of (ea_cons h ea_nil hs) (fun S H vs e h Q k => by
    simp only [RpL] at h
    obtain ⟨v, r, rfl, h1, rfl⟩ := h
    obtain ⟨q, ws, rfl, g2, g3⟩ := Rp.tup.mp h1
    exact ⟨q, ws, rfl, .inr (SqT.of (e _ _ g2)), fun r hr => Post.newL e k hr g3⟩) hm (hg := hg) (he := hs)
/-- list(e), e an empty tuple of the written part -/
theorem ev_listK {q : Addr} (h : Ed X Δ e (.raw q)) (hk : SqT X.K (fun _ => none) q []) (hm : X.mg "list" = none) (hg : Gl X "list" := by rfl) (hs : starEach [e] X.env = (false, eval e X.env) :: starEach [] X.env := by rfl) : Ev X Δ (.Call (.Name "list" p) [e] [] pos) (.ol []) :=
  ev_callTy call_list_of (ea_cons h ea_nil hs) (fun S H vs e h Q k => by
    simp only [RpL] at h
    obtain ⟨v, r, rfl, h1, rfl⟩ := h
    cases Rp.raw.mp h1
    refine ⟨q, [], rfl, .inr ?_, fun r hr => Post.newL e k hr RpL.nil⟩
    rcases hk with (h | ⟨o, h⟩) | h
    · cases h
    · cases h
    · exact .inr h) hm (hg := hg) (he := hs)
theorem ed_tupleL {l : List D} (h : Ed X Δ e (.lst l)) (hm : X.mg "tuple" = none) (hg : Gl X "tuple" := by rfl) (hs : starEach [e] X.env = (false, eval e X.env) :: starEach [] X.env := by rfl) : Ed X Δ (.Call (.Name "tuple" p) [e] [] pos) (.tup l) :=
  ev_callTy call_tuple_of (ea_cons h ea_nil hs) (fun S H vs e h Q k => by
    simp only [RpL] at h
    obtain ⟨v, r, rfl, h1, rfl⟩ := h
    obtain ⟨q, ws, rfl, g2, g3⟩ := Rp.lst.mp h1
    exact ⟨q, ws, rfl, .inl ⟨SqL.of (e _ _ g2), fun r hr => Post.newT e k hr g3⟩⟩) hm (hg := hg) (he := hs)
theorem ed_tupleT {l : List D} (h : Ed X Δ e (.tup l)) (hm : X.mg "tuple" = none) (hg : Gl X "tuple" := by rfl) (hs : starEach [e] X.env = (false, eval e X.env) :: starEach [] X.env := by rfl) : Ed X Δ (.Call (.Name "tuple" p) [e] [] pos) (.tup l) :=
  ev_callTy call_tuple_of (ea_cons h ea_nil hs) (fun S H vs e h Q k => by
    simp only [RpL] at h
    obtain ⟨v, r, rfl, h1, rfl⟩ := h
    obtain ⟨q, ws, rfl, g2, g3⟩ := Rp.tup.mp h1
    exact ⟨q, ws, rfl, .inr ⟨SqT.of (e _ _ g2), Post.pure e k h1⟩⟩) hm (hg := hg) (he := hs)
theorem ed_min {i j : Int} (ha : Ed X Δ a (.int i)) (hb : Ed X Δ b (.int j)) (hm : X.mg "min" = none) (hc : X.calm = true := by rfl) (hg : Gl X "min" := by rfl) (hs : starEach [a, b] X.env = (false, eval a X.env) :: starEach [b] X.env := by rfl) (hs2 : starEach [b] X.env = (false, eval b X.env) :: starEach [] X.env := by rfl)
    (hpl : (backTo pos (starEach [b] X.env)).any (·.1) = false := by rfl) : Ed X Δ (.Call (.Name "min" p) [a, b] [] pos) (.int (min i j)) :=
  ev_callB (call_min2 hc) (ea_cons ha (ea_cons hb ea_nil hs2) hs) (fun S H vs e h Q k => by
    simp only [RpL] at h
    obtain ⟨v, r, rfl, h1, u, r2, rfl, h2, rfl⟩ := h
    cases Rp.int.mp h1; cases Rp.int.mp h2
    refine ⟨i, j, rfl, Post.pure e k (Rp.int.mpr ?_)⟩
    congr 1
    split <;> omega) hm (hg := hg) (he := hs) (hpl := hpl)
theorem ed_max {i j : Int} (ha : Ed X Δ a (.int i)) (hb : Ed X Δ b (.int j)) (hm : X.mg "max" = none) (hc : X.calm = true := by rfl) (hg : Gl X "max" := by rfl) (hs : starEach [a, b] X.env = (false, eval a X.env) :: starEach [b] X.env := by rfl) (hs2 : starEach [b] X.env = (false, eval b X.env) :: starEach [] X.env := by rfl)
    (hpl : (backTo pos (starEach [b] X.env)).any (·.1) = false := by rfl) : Ed X Δ (.Call (.Name "max" p) [a, b] [] pos) (.int (max i j)) :=
  ev_callB (call_max2 hc) (ea_cons ha (ea_cons hb ea_nil hs2) hs) (fun S H vs e h Q k => by
    simp only [RpL] at h
    obtain ⟨v, r, rfl, h1, u, r2, rfl, h2, rfl⟩ := h
    cases Rp.int.mp h1; cases Rp.int.mp h2
    refine ⟨i, j, rfl, Post.pure e k (Rp.int.mpr ?_)⟩
    congr 1
    split <;> omega) hm (hg := hg) (he := hs) (hpl := hpl)
theorem ed_abs {i : Int} (ha : Ed X Δ a (.int i)) (hm : X.mg "abs" = none) (hg : Gl X "abs" := by rfl) (hs : starEach [a] X.env = (false, eval a X.env) :: starEach [] X.env := by rfl) : Ed X Δ (.Call (.Name "abs" p) [a] [] pos) (.int (i.natAbs : Int)) :=
  ev_callB call_abs (ea_cons ha ea_nil hs) (fun S H vs e h Q k => by
    simp only [RpL] at h
    obtain ⟨v, r, rfl, h1, rfl⟩ := h
    cases Rp.int.mp h1
    refine ⟨i, rfl, Post.pure e k (Rp.int.mpr ?_)⟩
    congr 1
    split <;> omega) hm (hg := hg) (he := hs)
theorem ed_intI {i : Int} (ha : Ed X Δ a (.int i)) (hm : X.mg "int" = none) (hg : Gl X "int" := by rfl) (hs : starEach [a] X.env = (false, eval a X.env) :: starEach [] X.env := by rfl) : Ed X Δ (.Call (.Name "int" p) [a] [] pos) (.int i) :=
  ev_callTy call_int1 (ea_cons ha ea_nil hs) (fun S H vs e h Q k => by
    simp only [RpL] at h
    obtain ⟨v, r, rfl, h1, rfl⟩ := h
    cases Rp.int.mp h1
    exact .inl ⟨i, rfl, Post.pure e k (Rp.int.mpr rfl)⟩) hm (hg := hg) (he := hs)
theorem ed_intB {i : Bool} (ha : Ed X Δ a (.bl i)) (hm : X.mg "int" = none) (hg : Gl X "int" := by rfl) (hs : starEach [a] X.env = (false, eval a X.env) :: starEach [] X.env := by rfl) : Ed X Δ (.Call (.Name "int" p) [a] [] pos) (.int (if i then 1 else 0)) :=
  ev_callTy call_int1 (ea_cons ha ea_nil hs) (fun S H vs e h Q k => by
    simp only [RpL] at h
    obtain ⟨v, r, rfl, h1, rfl⟩ := h
    cases Rp.bl.mp h1
    exact .inr ⟨i, rfl, Post.pure e k (Rp.int.mpr rfl)⟩) hm (hg := hg) (he := hs)
theorem ed_sum {xs : List Int} (ha : Ed X Δ a (dI xs)) (hm : X.mg "sum" = none) (hc : X.calm = true := by rfl) (hg : Gl X "sum" := by rfl) (hs : starEach [a] X.env = (false, eval a X.env) :: starEach [] X.env := by rfl) : Ed X Δ (.Call (.Name "sum" p) [a] [] pos) (.int xs.sum) :=
  ev_callB (cr_sum hc) (ea_cons ha ea_nil hs) (fun S H vs e h Q k => by
    simp only [RpL] at h
    obtain ⟨v, r, rfl, h1, rfl⟩ := h
    obtain ⟨q, rfl, g2⟩ := Rp.dI h1
    exact ⟨q, xs, rfl, SqL.of (e _ _ g2), Post.pure e k (Rp.int.mpr rfl)⟩) hm (hg := hg) (he := hs)
/-! ### reading an owned list -/
theorem ed_ixO (i : Nat) {x : Str} {p' : Pos} {l : List D} {j : Int} (ha : Δ[i]? = some (some (.ol l))) (hb : Ed X Δ b (.int j)) (h : atI l j = some d) (hN : X.N[i]? = some x := by rfl)
    (hv : Vis X.env.scope x := by first | exact Or.inl rfl | exact Or.inr (Or.inl rfl) | exact Or.inr (Or.inr rfl)) (hdb : (x == ("__debug__" : Str)) = false := by decide) (hcd : (x == ("__classdict__" : Str)) = false := by decide) (hs : PlainIx b := by intro _ _; rfl) : Ed X Δ (.Subscript (.Name x p') b pos) d := by
  intro S0 H0 S H σ A Q k
  refine WE.of (pe_ix ix_list (pe_var hN hv hdb hcd) WE.pe hs) ?_
  obtain ⟨v, h1, h2⟩ := A.sl i _ ha
  obtain ⟨q, vs, rfl, g1, g2, g3, g4⟩ := h2
  refine ⟨_, h1, ?_⟩
  refine hb S0 H0 S H σ A _ fun u S1 H1 l1 r1 => ?_
  obtain ⟨f2, f3⟩ := l1.hidden g2 g3
  obtain ⟨m, hj, hd⟩ := Option.bind_eq_some_iff.mp h
  obtain ⟨w, hw, rw'⟩ := (g4.mono l1.s).get hd
  refine ⟨q, vs, j, w, rfl, Rp.int.mp r1, SqL.of f3, ?_, k w S1 H1 l1 rw'⟩
  unfold atI
  rw [← g4.len, hj]
  exact hw
theorem ed_lenO (i : Nat) {x : Str} {p' : Pos} {l : List D} (ha : Δ[i]? = some (some (.ol l))) (hm : X.mg "len" = none) (hg : Gl X "len" := by rfl) (hN : X.N[i]? = some x := by rfl)
    (hv : Vis X.env.scope x := by first | exact Or.inl rfl | exact Or.inr (Or.inl rfl) | exact Or.inr (Or.inr rfl)) (hdb : (x == ("__debug__" : Str)) = false := by decide) (hcd : (x == ("__classdict__" : Str)) = false := by decide)
    (hs : starEach [.Name x p'] X.env = (false, eval (.Name x p') X.env) :: starEach [] X.env := by rfl) : Ed X Δ (.Call (.Name "len" p) [.Name x p'] [] pos) (.int l.length) := by
  intro S0 H0 S H σ A Q k
  refine WE.of (pe_callB call_len hg hm boot_len (pa_cons (pe_var hN hv hdb hcd) pa_nil hs) (he := hs)) ?_
  obtain ⟨v, h1, h2⟩ := A.sl i _ ha
  obtain ⟨q, vs, rfl, g1, g2, g3, g4⟩ := h2
  exact ⟨_, h1, _, vs.length, rfl, .inl ⟨vs, SqL.of g3, rfl⟩, k _ S H (.refl A.sub) (Rp.int.mpr (by rw [g4.len]))⟩
/-! ### == of lists, of tuples -/
theorem dpAll_ints {K : PySem.W.Frag} {H : Hp} : ∀ xs : List Int, DpAll K H (xs.map V.int) (xs.map PyData.int)
  | [] => .nil
  | x :: xs => .cons (.int x) (dpAll_ints xs)
theorem canLay_ints : ∀ xs : List Int, PyData.canLayAll0 (xs.map PyData.int) = true
  | [] => by simp [PyData.canLayAll0]
  | x :: xs => by simp [PyData.canLayAll0, PyData.canLay0, canLay_ints xs]
theorem depth_ints : ∀ xs : List Int, PyData.depthAll (xs.map PyData.int) ≤ 1
  | [] => by simp [PyData.depthAll]
  | x :: xs => by
    have := depth_ints xs
    simp only [List.map_cons, PyData.depthAll, PyData.depth]
    omega
theorem shaped_L (xs : List Int) : SeqAt.shaped (.list (xs.map PyData.int)) = true := by
  have := depth_ints xs
  have e : (PyData.list (xs.map PyData.int)).depth = PyData.depthAll (xs.map PyData.int) + 1 := by first | rfl | simp [PyData.depth]
  simp only [SeqAt.shaped, PyData.canLay0, canLay_ints, Bool.true_and, decide_eq_true_eq]
  omega
theorem shaped_T (xs : List Int) : SeqAt.shaped (.tuple (xs.map PyData.int)) = true := by
  have := depth_ints xs
  have e : (PyData.tuple (xs.map PyData.int)).depth = PyData.depthAll (xs.map PyData.int) + 1 := by first | rfl | simp [PyData.depth]
  simp only [SeqAt.shaped, PyData.canLay0, canLay_ints, Bool.true_and, decide_eq_true_eq]
  omega
theorem eqv_ints : ∀ xs ys : List Int, PyData.eqvAll (xs.map PyData.int) (ys.map PyData.int) = decide (xs = ys)
  | [], [] => by simp [PyData.eqvAll]
  | [], y :: ys => by simp [PyData.eqvAll]
  | x :: xs, [] => by simp [PyData.eqvAll]
  | x :: xs, y :: ys => by
    simp only [List.map_cons, PyData.eqvAll, PyData.eqv, eqv_ints xs ys]
    by_cases h : x = y
    · by_cases h2 : xs = ys <;> simp [h, h2]
    · simp [h]
theorem et_eqL {xs ys : List Int} (ha : Ed X Δ a (dI xs)) (hb : Ed X Δ b (dI ys)) (hu : X.A.units + 64 < cLine) : Et X Δ (.Compare a [.Eq] [b] pos) (decide (xs = ys)) := et_cmp (op_eqD hu) ha hb fun S H u v e h1 h2 Q k => by
  obtain ⟨p, rfl, g1⟩ := h1.dI
  obtain ⟨q, rfl, g2⟩ := h2.dI
  refine ⟨_, _, .lst (SqL.of (e _ _ g1)) (dpAll_ints xs), .lst (SqL.of (e _ _ g2)) (dpAll_ints ys), shaped_L xs, shaped_L ys, ?_⟩
  simp only [PyData.eqv, eqv_ints]
  exact Post.pure e k (Rp.bl.mpr rfl)
theorem et_neT {xs ys : List Int} (ha : Ed X Δ a (tI xs)) (hb : Ed X Δ b (tI ys)) (hu : X.A.units + 64 < cLine) : Et X Δ (.Compare a [.NotEq] [b] pos) (!decide (xs = ys)) := et_cmp (op_neD hu) ha hb fun S H u v e h1 h2 Q k => by
  obtain ⟨p, rfl, g1⟩ := h1.tI
  obtain ⟨q, rfl, g2⟩ := h2.tI
  refine ⟨_, _, .tup (SqT.of (e _ _ g1)) (dpAll_ints xs), .tup (SqT.of (e _ _ g2)) (dpAll_ints ys), shaped_T xs, shaped_T ys, ?_⟩
  simp only [PyData.eqv, eqv_ints]
  exact Post.pure e k (Rp.bl.mpr rfl)
/-- sum of a tuple -/
theorem cr_sumT (hc : X.calm = true) : CallR X (.builtin "sum") (fun vs H Q => ∃ (a : Addr) (ns : List Int), vs = [V.ref a] ∧ SqT X.K H a (ns.map V.int) ∧ Q (.int ns.sum) H) := by
  intro pins s σ H vs us Q I r h
  obtain ⟨a, ns, rfl, hs, q⟩ := h
  obtain ⟨its, rv, hl, _⟩ := I.tuple hs
  rw [Vals.ref1 r]
  have hi := rv.ints
  obtain ⟨xs, e⟩ := hi.allInts.items
  have hn : numsOf (intItems xs).toList = ns := by rw [← e]; exact hi.numsOf
  rw [nums_intItems] at hn
  rw [e] at hl
  refine PySem.W.ktm_sumG (I.ok.hd hc) hl fun h' tk t' hk => ?_
  rw [preSum_eq, List.take_of_length_le (by simp), hn]
  exact ⟨.int _, H, I.kept hk, ⟨_, rfl⟩, q⟩
theorem ed_sumT {xs : List Int} (ha : Ed X Δ a (tI xs)) (hm : X.mg "sum" = none) (hc : X.calm = true := by rfl) (hg : Gl X "sum" := by rfl) (hs : starEach [a] X.env = (false, eval a X.env) :: starEach [] X.env := by rfl) : Ed X Δ (.Call (.Name "sum" p) [a] [] pos) (.int xs.sum) :=
  ev_callB (cr_sumT hc) (ea_cons ha ea_nil hs) (fun S H vs e h Q k => by
    simp only [RpL] at h
    obtain ⟨v, r, rfl, h1, rfl⟩ := h
    obtain ⟨q, rfl, g2⟩ := Rp.tI h1
    exact ⟨q, xs, rfl, SqT.of (e _ _ g2), Post.pure e k (Rp.int.mpr rfl)⟩) hm (hg := hg) (he := hs)
/-- t + u -/
theorem ed_catA {l m : List D} (ha : Ed X Δ a (.tup l)) (hb : Ed X Δ b (.tup m)) (hl : l.length + m.length ≤ 1000000) : Ed X Δ (.BinOp a .Add b pos) (.tup (l ++ m)) :=
  ev_bin op_catA ha hb fun S H u v e h1 h2 Q k => by
    obtain ⟨p, vs, rfl, g2, g3⟩ := Rp.tup.mp h1
    obtain ⟨q, ws, rfl, f2, f3⟩ := Rp.tup.mp h2
    refine ⟨p, q, vs, ws, rfl, rfl, SqT.of (e _ _ g2), SqT.of (e _ _ f2), by rw [← g3.len, ← f3.len, sizeLine_eq]; omega, fun z => ?_, fun z z2 => ?_, fun _ _ r hr => Post.newT e k hr (g3.app f3)⟩
    · subst z
      have hl0 : l = [] := List.eq_nil_of_length_eq_zero (by rw [g3.len]; rfl)
      subst hl0
      exact Post.pure e k h2
    · subst z2
      have hm0 : m = [] := List.eq_nil_of_length_eq_zero (by rw [f3.len]; rfl)
      subst hm0
      rw [List.append_nil] at k
      exact Post.pure e k h1
end
end Bb
end
section
set_option maxRecDepth 100000
set_option maxHeartbeats 4000000
namespace Bb
open PySem PySem.Spec PyProof.Rows L2
section
variable {P : Program} {w : World} {K : PySem.W.Frag} {mg : Str → Option Value} {base : Heap}

def normalM (xs : List Int) : List Int := sortD (xs.filter fun v => !decide (v = 0))
abbrev spNormal : Sp := spT (fun xs : List Int => [dI xs]) (fun xs => xs.length ≤ 1000000) (fun xs => .ol ((normalM xs).map .int))
theorem fo_normal (T : Txt K mg) : Cal P w K mg base 1 "normal" ["values"] [] spNormal := by
  obtain ⟨fd, F⟩ := T.f_normal
  refine cal_of F (def_ok F sc_normal (fun _ => rfl) fun cdv A outer s H E hr xs hp S0 Z kk hnx => ?_) T.g_normal (fun _ _ _ _ _ _ us hl => match us, hl with | [_], _ => rfl)
  refine go_ret (ev_sorted ?_ T.n_sorted) kk
  refine Ed.to (ev_lc (j := 1) xs D.int (fun v => !decide (v = 0)) D.int (ei_list (ed_var 0)) rfl hp sc_normal.nd (fun y _ => .one fun s H C cl fp => et_neI (ed_var 1) ed_int) (fun y _ _ s H C cl fp => ed_var 1) (blkOk_by (N := N_normal) (sc := defScope s_normal) (by decide +kernel)) (fun _ _ _ _ _ => pg_name sc_normal.nd rfl (Or.inl rfl))).lst ?_
  rfl

/-- an entry lowered by one -/
def takeM (xs : List Int) (p : Nat) : List Int := normalM (xs.set p (xs.getD p 0 - 1))
abbrev spTake : Sp := spT (fun a : List Int × Nat => [dI a.1, .int (a.2 : Int)]) (fun a => a.1.length ≤ 1000000 ∧ a.2 < a.1.length) (fun a => .ol ((takeM a.1 a.2).map .int))
theorem fo_take (T : Txt K mg) (c1 : Cal P w K mg base 1 "normal" ["values"] [] spNormal) : Cal P w K mg base 2 "take" ["sizes", "place"] [] spTake := by
  obtain ⟨fd, F⟩ := T.f_take
  refine cal_of F (def_ok F sc_take (fun _ => rfl) fun cdv A outer s H E hr a hp S0 Z kk hnx => ?_) T.g_take (fun _ _ _ _ _ _ us hl => match us, hl with | [_, _], _ => rfl)
  obtain ⟨xs, p⟩ := a
  obtain ⟨hl, hp⟩ := hp
  have hp' : p < xs.length := hp
  refine go_set 2 (ev_listL (ed_var 0) T.n_list) ?_ sc_take.nd
  have h1 : (xs.map D.int)[p]? = some (.int (xs.getD p 0)) := by simp [hp']
  refine go_augix 2 ip_sub rfl (ed_var 1) (m := p) ?_ h1 ed_int ?_
  · unfold ixN; rw [if_pos (by omega), if_pos (by rw [List.length_map]; omega)]; simp
  refine go_show 2 rfl ?_
  refine go_ret (ev_call c1 (xs.set p (xs.getD p 0 - 1)) (ea_cons (Ed.to (ed_var 2) ?_) ea_nil) ?_ (hr.mono (by decide))) kk
  · show D.lst ((xs.map D.int).set p _) = dI _
    rw [dI, List.map_set]
  · rw [List.length_set]; exact hl
abbrev spTakeL : Sp := spT (fun xs : List Int => [dI xs]) (fun xs => xs.length ≤ 1000000 ∧ xs ≠ []) (fun xs => .ol ((takeM xs 0).map .int))
theorem fo_take_largest (T : Txt K mg) (c1 : Cal P w K mg base 2 "take" ["sizes", "place"] [] spTake) : Cal P w K mg base 3 "take_largest" ["sizes"] [] spTakeL := by
  obtain ⟨fd, F⟩ := T.f_take_largest
  refine cal_of F (def_ok F sc_take_largest (fun _ => rfl) fun cdv A outer s H E hr xs hp S0 Z kk hnx => ?_) T.g_take_largest (fun _ _ _ _ _ _ us hl => match us, hl with | [_], _ => rfl)
  exact go_ret (ev_call c1 (xs, 0) (ea_cons (ed_var 0) (ea_cons ed_int ea_nil)) ⟨hp.1, List.length_pos_iff.mpr hp.2⟩ (hr.mono (by decide))) kk
abbrev spTakeS : Sp := spT (fun xs : List Int => [dI xs]) (fun xs => xs.length ≤ 1000000 ∧ xs ≠ []) (fun xs => .ol ((takeM xs (xs.length - 1)).map .int))
theorem fo_take_smallest (T : Txt K mg) (c1 : Cal P w K mg base 2 "take" ["sizes", "place"] [] spTake) : Cal P w K mg base 3 "take_smallest" ["sizes"] [] spTakeS := by
  obtain ⟨fd, F⟩ := T.f_take_smallest
  refine cal_of F (def_ok F sc_take_smallest (fun _ => rfl) fun cdv A outer s H E hr xs hp S0 Z kk hnx => ?_) T.g_take_smallest (fun _ _ _ _ _ _ us hl => match us, hl with | [_], _ => rfl)
  have h0 := List.length_pos_iff.mpr hp.2
  refine go_ret (ev_call c1 (xs, xs.length - 1) (ea_cons (ed_var 0) (ea_cons (Ed.to (ed_sub (ed_lenL (ed_var 0) T.n_len) ed_int) ?_) ea_nil)) ⟨hp.1, by show xs.length - 1 < xs.length; omega⟩ (hr.mono (by decide))) kk
  rw [List.length_map]
  show D.int _ = D.int _
  congr 1
  omega
end
end Bb
end
section
set_option maxRecDepth 100000
set_option maxHeartbeats 4000000
namespace Bb
open PySem PySem.Spec PyProof.Rows L2
theorem atI_intN {α : Type} {l : List α} {i : Int} {j : Nat} {d : α} (e : i = (j : Int)) (h : l[j]? = some d) : atI l i = some d := by subst e; exact atI_nat h
theorem ixN_of {n j : Nat} {i : Int} (e : i = (j : Int)) (h : j < n) : ixN n i = some j := by
  subst e; unfold ixN; rw [if_pos (by omega), if_pos (by omega)]; simp
theorem filterT {α : Type} (l : List α) : l.filter (fun _ => true) = l := List.filter_eq_self.mpr fun _ _ => rfl
theorem getI {xs : List Int} {j : Nat} (h : j < xs.length) : (xs.map D.int)[j]? = some (.int (xs.getD j 0)) := by simp [h]
section
variable {P : Program} {w : World} {K : PySem.W.Frag} {mg : Str → Option Value} {base : Heap}

def countedM (row : List Int) : List Int := row.map (fun b => min b (row.length : Int)) ++ [(row.length : Int)]
abbrev spCounted : Sp := spT (fun xs : List Int => [dI xs]) (fun xs => xs.length ≤ 1000) (fun xs => .ol ((countedM xs).map .int))
theorem fo_counted (T : Txt K mg) : Cal P w K mg base 1 "counted_bounds" ["row"] [] spCounted := by
  obtain ⟨fd, F⟩ := T.f_counted_bounds
  refine cal_of F (def_ok F sc_counted_bounds (fun _ => rfl) fun cdv A outer s H E hr xs hp S0 Z kk hnx => ?_) T.g_counted_bounds (fun _ _ _ _ _ _ us hl => match us, hl with | [_], _ => rfl)
  have hp : xs.length ≤ 1000 := hp
  refine go_set 1 (Ed.to (ed_lenL (ed_var 0) T.n_len) (d' := .int (xs.length : Int)) (by rw [List.length_map])) ?_ sc_counted_bounds.nd
  refine go_ret (Ev.to (ev_catL (l := (xs.map fun b => min b (xs.length : Int)).map .int) (m := [.int (xs.length : Int)]) ?_ (Ev.lst (ev_lst (ea_cons (ed_var 1) ea_nil))) ?_) ?_) kk
  · refine Ed.to (ev_lc (j := 2) xs D.int (fun _ => true) (fun b => .int (min b (xs.length : Int))) (ei_list (ed_var 0)) rfl (by omega) sc_counted_bounds.nd (fun y _ => .nil) (fun y _ _ s H C cl fp => ed_min (ed_var 2) (ed_var 1) T.n_min)
      (blkOk_by (N := N_counted_bounds) (sc := defScope s_counted_bounds) (by decide +kernel)) (fun _ _ _ _ _ => pg_name sc_counted_bounds.nd rfl (Or.inl rfl))).lst ?_
    rw [filterT, List.map_map]; rfl
  · simp; omega
  · show Av.ol _ = Av.ol _
    simp [countedM]

theorem countedM_len (row : List Int) : (countedM row).length = row.length + 1 := by simp [countedM]
def keeperAt (b : List Int) (j : Nat) : Int := min (b.getD (j + 1) 0 + 1) (b.getD j 0 + 1 + b.getD j 0 / ((j : Int) + 1))
def keeperM (row : List Int) : List Int := ((countedM row).getD 0 0 + 1) :: (List.range row.length).map (keeperAt (countedM row))
abbrev spKeeper : Sp := spT (fun xs : List Int => [dI xs]) (fun xs => xs.length ≤ 1000) (fun xs => .ol ((keeperM xs).map .int))
theorem fo_keeper (T : Txt K mg) (c1 : Cal P w K mg base 1 "counted_bounds" ["row"] [] spCounted) : Cal P w K mg base 2 "keeper_step" ["row"] [] spKeeper := by
  obtain ⟨fd, F⟩ := T.f_keeper_step
  refine cal_of F (def_ok F sc_keeper_step (fun _ => rfl) fun cdv A outer s H E hr xs hp S0 Z kk hnx => ?_) T.g_keeper_step (fun _ _ _ _ _ _ us hl => match us, hl with | [_], _ => rfl)
  have hp : xs.length ≤ 1000 := hp
  have hl := countedM_len xs
  refine go_set 1 (a := .sh (dI (countedM xs))) ?_ ?_ sc_keeper_step.nd
  · exact ed_call c1 xs (ea_cons (ed_var 0) ea_nil) hp (hr.mono (by decide))
  refine go_set 2 (ev_lst (ea_cons (ed_add (ed_ixL (ed_var 1) ed_int (atI_intN (j := 0) rfl (getI (by omega)))) ed_int) ea_nil)) ?_ sc_keeper_step.nd
  refine go_for (fun l : List Int => [some (.sh (dI xs)), some (.sh (dI (countedM xs))), some (.ol (l.map .int)), none, none]) (fun i l => l = ((countedM xs).getD 0 0 + 1) :: (List.range i).map (keeperAt (countedM xs)))
    (List.range xs.length) (fun j : Nat => .int (1 + (j : Int))) (ei_rng2 ed_int (ed_lenL (ed_var 1) T.n_len) (by rw [List.length_map]; omega) T.n_range) (by rw [List.length_map, hl]; congr 2; omega) [(countedM xs).getD 0 0 + 1] rfl (Wk.refl _) ?_ ?_
  · intro S1 rb i j l hj hP
    have ej : j = i := by
      obtain ⟨h1, h2⟩ := List.getElem?_eq_some_iff.mp hj
      rw [List.getElem_range] at h2; exact h2.symm
    have hi : i < xs.length := by
      have := (List.getElem?_eq_some_iff.mp hj).1
      rwa [List.length_range] at this
    subst ej hP
    refine ⟨_, eg_name 3 sc_keeper_step.nd, ?_⟩
    refine go_set 4 (ed_ixL (ed_var 1) (ed_sub (ed_var 3) ed_int) (atI_intN (j := j) (by omega) (getI (by omega)))) ?_ sc_keeper_step.nd
    refine go_app 2 rfl (ed_min (ed_add (ed_ixL (ed_var 1) (ed_var 3) (atI_intN (j := j + 1) (by omega) (getI (by omega)))) ed_int) (ed_add (ed_add (ed_var 4) ed_int) (ed_fdiv (ed_var 4) (ed_var 3) (by omega))) T.n_min) (by simp; omega) ?_
    refine go_next rfl (((countedM xs).getD 0 0 + 1) :: (List.range (j + 1)).map (keeperAt (countedM xs))) ?_ ?_
    · rfl
    have e : (((countedM xs).getD 0 0 + 1) :: (List.range j).map (keeperAt (countedM xs))).map D.int ++ [D.int (min ((countedM xs).getD (j + 1) 0 + 1) ((countedM xs).getD j 0 + 1 + (countedM xs).getD j 0 / (1 + (j : Int))))]
        = (((countedM xs).getD 0 0 + 1) :: (List.range (j + 1)).map (keeperAt (countedM xs))).map D.int := by
      rw [List.range_succ]
      simp [keeperAt, Int.add_comm]
    rw [← e]
    exact .keep (.keep (.keep (.skip (.skip .nil))))
  · rintro l rfl
    rw [List.length_range]
    exact go_retO 2 rfl kk

def raiderM (row : List Int) : List Int := ((countedM row).map fun b => if b < (row.length : Int) then b else (row.length : Int) + 1).set 0 (min (if (countedM row).getD 0 0 < (row.length : Int) then (countedM row).getD 0 0 else (row.length : Int) + 1) (row.length : Int))
abbrev spRaider : Sp := spT (fun xs : List Int => [dI xs]) (fun xs => xs.length ≤ 1000) (fun xs => .ol ((raiderM xs).map .int))
theorem fo_raider (T : Txt K mg) (c1 : Cal P w K mg base 1 "counted_bounds" ["row"] [] spCounted) : Cal P w K mg base 2 "raider_step" ["row"] [] spRaider := by
  obtain ⟨fd, F⟩ := T.f_raider_step
  refine cal_of F (def_ok F sc_raider_step (fun _ => rfl) fun cdv A outer s H E hr xs hp S0 Z kk hnx => ?_) T.g_raider_step (fun _ _ _ _ _ _ us hl => match us, hl with | [_], _ => rfl)
  have hp : xs.length ≤ 1000 := hp
  have hl := countedM_len xs
  refine go_set 1 (Ed.to (ed_lenL (ed_var 0) T.n_len) (d' := .int (xs.length : Int)) (by rw [List.length_map])) ?_ sc_raider_step.nd
  refine go_setLc 2 (j := 3) (countedM xs) D.int (fun _ => true) (fun b => .int (if b < (xs.length : Int) then b else (xs.length : Int) + 1)) (ei_list (ed_call c1 xs (ea_cons (ed_var 0) ea_nil) hp (hr.mono (by decide)))) rfl (by omega) sc_raider_step.nd
    (fun y _ => .nil) (fun y _ _ s H C cl fp => ?_) (blkOk_by (N := N_raider_step) (sc := defScope s_raider_step) (by decide +kernel)) (fun _ _ _ _ _ => pg_name sc_raider_step.nd rfl (Or.inl rfl)) ?_ (sw_true rfl rfl rfl (by decide +kernel))
  · refine ev_if (et_lt (ed_var 3) (ed_var 1)) (fun h => Ed.to (ed_var 3) ?_) (fun h => Ed.to (ed_add (ed_var 1) ed_int) ?_)
    · rw [if_pos (of_decide_eq_true h)]
    · rw [if_neg (of_decide_eq_false h)]
  have e : ((countedM xs).filter fun _ => true).map (fun b => D.int (if b < (xs.length : Int) then b else (xs.length : Int) + 1)) = ((countedM xs).map fun b => if b < (xs.length : Int) then b else (xs.length : Int) + 1).map .int := by rw [filterT, List.map_map]; rfl
  rw [e]
  refine go_setix 2 (m := 0) (l := ((countedM xs).map fun b => if b < (xs.length : Int) then b else (xs.length : Int) + 1).map .int) rfl (ed_min (i := if (countedM xs).getD 0 0 < (xs.length : Int) then (countedM xs).getD 0 0 else (xs.length : Int) + 1) (j := (xs.length : Int)) ?_ (ed_var 1) T.n_min) ed_int (ixN_of rfl (by simp [hl])) ?_
  · refine ed_ixO 2 rfl ed_int (atI_intN (j := 0) rfl ?_)
    rw [List.getElem?_map, List.getElem?_map]
    cases q : countedM xs with
    | nil => rw [q] at hl; simp at hl
    | cons b r => rfl
  refine go_retO 2 rfl (kk.to ?_)
  rw [raiderM, List.map_set]
end
end Bb
end
section
set_option maxRecDepth 100000
set_option maxHeartbeats 4000000
namespace Bb
open PySem PySem.Spec PyProof.Rows L2
/-- a turn's letter: true is R -/
def sgn (b : Bool) : Str := ⟨#[if b then 82 else 75]⟩
/-- an order as a text -/
def wd (l : List Bool) : Str := ⟨(l.map fun b => if b then 82 else 75).toArray⟩
theorem wd_len (l : List Bool) : (wd l).length = l.length := by simp [wd, Str.length]
theorem wd_signs (l : List Bool) : (wd l).cps.toList.map (fun c => D.str ⟨#[c]⟩) = l.map fun b => .str (sgn b) := by
  simp [wd, sgn]
theorem wd_rev (l : List Bool) : revS (wd l) = wd l.reverse := by simp [revS, wd]
theorem sgn_K (b : Bool) : decide (sgn b = ("K" : Str)) = !b := by cases b <;> decide
theorem sgn_R (b : Bool) : decide (sgn b = ("R" : Str)) = b := by cases b <;> decide
section
variable {P : Program} {w : World} {K : PySem.W.Frag} {mg : Str → Option Value} {base : Heap}
def stepM (b : Bool) (row : List Int) : List Int := if b then raiderM row else keeperM row
theorem keeperM_len (row : List Int) : (keeperM row).length = row.length + 1 := by simp [keeperM]
theorem raiderM_len (row : List Int) : (raiderM row).length = row.length + 1 := by simp [raiderM, countedM]
theorem stepM_len (b : Bool) (row : List Int) : (stepM b row).length = row.length + 1 := by
  unfold stepM; split
  · exact raiderM_len row
  · exact keeperM_len row
abbrev spStep : Sp := spT (fun a : Bool × List Int => [.str (sgn a.1), dI a.2]) (fun a => a.2.length ≤ 1000) (fun a => .ol ((stepM a.1 a.2).map .int))
theorem fo_step (T : Txt K mg) (c1 : Cal P w K mg base 2 "keeper_step" ["row"] [] spKeeper) (c2 : Cal P w K mg base 2 "raider_step" ["row"] [] spRaider) : Cal P w K mg base 3 "step" ["letter", "row"] [] spStep := by
  obtain ⟨fd, F⟩ := T.f_step
  refine cal_of F (def_ok F sc_step (fun _ => rfl) fun cdv A outer s H E hr a hp S0 Z kk hnx => ?_) T.g_step (fun _ _ _ _ _ _ us hl => match us, hl with | [_, _], _ => rfl)
  obtain ⟨b, xs⟩ := a
  refine go_if (t := !b) (Et.to (et_eqS (ed_var 0) ed_str) (sgn_K b)) (fun h => ?_) (fun h => ?_)
  · have hb : b = false := by simpa using h
    subst hb
    exact go_ret (ev_call c1 xs (ea_cons (ed_var 1) ea_nil) hp (hr.mono (by decide))) kk
  · have hb : b = true := by simpa using h
    subst hb
    refine go_nil (nx_go ?_)
    exact go_ret (ev_call c2 xs (ea_cons (ed_var 1) ea_nil) hp (hr.mono (by decide))) kk

def pullM (l : List Bool) : List Int := l.reverse.foldl (fun r b => stepM b r) []
theorem pullM_len (l : List Bool) : (pullM l).length = l.length := by
  unfold pullM
  rw [List.foldl_reverse]
  induction l with
  | nil => rfl
  | cons b l ih => rw [List.foldr_cons, stepM_len, ih]; rfl
abbrev gK (K : PySem.W.Frag) : Addr := kwAt "pull" "goal" K
theorem Txt.goal (T : Txt K mg) : SqT K (fun _ => none) (gK K) [] := by
  have h : emptyTup K (kwAt "pull" "goal" K) = true := (Bool.and_eq_true_iff.mp T.says.2).1
  unfold emptyTup at h
  show SqT K (fun _ => none) (kwAt "pull" "goal" K) []
  cases q : K.lookup (kwAt "pull" "goal" K) with
  | none => rw [q] at h; cases h
  | some o =>
    rw [q] at h
    obtain ⟨c, d, dt, sl⟩ := o
    cases c with
    | type c =>
      cases dt with
      | seq its n =>
        obtain ⟨h1, h2⟩ := Bool.and_eq_true_iff.mp (show (decide (c = "tuple") && its.isEmpty) = true from h)
        have e : its = #[] := by simpa using h2
        refine .inr ⟨_, its, n, q, congrArg Value.type (of_decide_eq_true h1), rfl, ?_, ?_⟩
        · rw [e]; exact Nat.zero_le _
        · rw [e]; exact .nil
      | _ => cases h
    | _ => cases dt <;> cases h
abbrev spPull (K : PySem.W.Frag) : Sp := spT (fun l : List Bool => [.str (wd l), .raw (gK K)]) (fun l => l.length ≤ 1000) (fun l => .sh (dI (pullM l)))
theorem fo_pull (T : Txt K mg) (c1 : Cal P w K mg base 3 "step" ["letter", "row"] [] spStep) : Cal P w K mg base 4 "pull" ["order", "goal"] [.ref (gK K)] (spPull K) := by
  obtain ⟨fd, F⟩ := T.f_pull
  refine cal_ofK (n := 1) F (def_ok F sc_pull (fun _ => rfl) fun cdv A outer s H E hr l hp S0 Z kk hnx => ?_) T.g_pull (List.cons_ne_nil _ _) rfl (fun D doc pm an cdv ct us ks h1 h2 => match us, h1, ks, h2 with | [_], _, [_], _ => ⟨_, _, _, _, _, _, rfl, rfl, rfl⟩)
  have hp : l.length ≤ 1000 := hp
  refine go_set 2 (Ev.show (ev_listK (ed_var 1) T.goal T.n_list)) ?_ sc_pull.nd
  refine go_for (fun r : List Int => [some (.sh (.str (wd l))), some (.sh (.raw (gK K))), some (.sh (dI r)), none]) (fun i r => r = (l.reverse.take i).foldl (fun r b => stepM b r) [] ∧ r.length = i)
    l.reverse (fun b => .str (sgn b)) (ei_str (ed_revS (ed_var 0) (by rw [wd_len]; omega))) (by rw [wd_rev, wd_signs]) [] ⟨rfl, rfl⟩ (Wk.refl _) ?_ ?_
  · rintro S1 rb i b r hb ⟨hP, hlen⟩
    have hi : i < l.length := by
      have := (List.getElem?_eq_some_iff.mp hb).1
      rwa [List.length_reverse] at this
    refine ⟨_, eg_name 3 sc_pull.nd, ?_⟩
    refine go_set 2 (a := .sh (dI (stepM b r))) ?_ ?_ sc_pull.nd
    · exact ed_call c1 (b, r) (ea_cons (ed_var 3) (ea_cons (ed_var 2) ea_nil)) (by show r.length ≤ 1000; omega) (hr.mono (by decide))
    refine go_next rfl (stepM b r) ⟨?_, by rw [stepM_len, hlen]⟩ (.keep (.keep (.keep (.skip .nil))))
    rw [List.take_succ, hb, List.foldl_append, ← hP]
    rfl
  · rintro r ⟨hP, hlen⟩
    rw [List.take_length] at hP
    refine go_ret (ed_var 2) (kk.to ?_)
    rw [hP]
    rfl
end
end Bb
end
section
set_option maxRecDepth 100000
set_option maxHeartbeats 4000000
namespace Bb
open PySem PySem.Spec PyProof.Rows L2
theorem atI_neg1 {α : Type} {l : List α} {d : α} (h : l[l.length - 1]? = some d) : atI l (-1) = some d := by
  have hl : 0 < l.length := by
    cases l with
    | nil => cases h
    | cons a r => simp
  have e : ixN l.length (-1) = some (l.length - 1) := by
    unfold ixN
    rw [if_neg (by decide), if_pos (by omega)]
    congr 1; omega
  unfold atI
  rw [e]
  exact h
section
variable {P : Program} {w : World} {K : PySem.W.Frag} {mg : Str → Option Value} {base : Heap}
def mostM (word : List Int) (bound total : Int) : Int := if word = [] then min bound total - word.sum else min (min bound total - word.sum) (word.getD (word.length - 1) 0)
def grownM (word : List Int) (bound total : Int) : List (List Int) :=
  if word.sum = total then (if total ≤ bound then [word] else []) else (List.range (mostM word bound total).toNat).map fun k : Nat => word ++ [mostM word bound total - (k : Int)]
structure GrownOk (a : List Int × Int × Int) : Prop where
  len : a.1.length ≤ 1000
  nn : ∀ x ∈ a.1, 0 ≤ x
  sum : a.1.sum ≤ 1000
  tot : 0 ≤ a.2.2 ∧ a.2.2 ≤ 1000
  bd : -1000000 ≤ a.2.1 ∧ a.2.1 ≤ 1000000
theorem sum_nn : ∀ {l : List Int}, (∀ x ∈ l, 0 ≤ x) → 0 ≤ l.sum
  | [], _ => by simp
  | a :: l, h => by
    have h1 := h a List.mem_cons_self
    have h2 := sum_nn fun x hx => h x (List.mem_cons_of_mem a hx)
    rw [List.sum_cons]; omega
theorem mem_le_sum : ∀ {l : List Int}, (∀ x ∈ l, 0 ≤ x) → ∀ x ∈ l, x ≤ l.sum
  | a :: l, h, x, hx => by
    have h1 := h a List.mem_cons_self
    have h3 : ∀ x ∈ l, 0 ≤ x := fun x hx => h x (List.mem_cons_of_mem a hx)
    have h2 := sum_nn h3
    rw [List.sum_cons]
    rcases List.mem_cons.mp hx with rfl | hx
    · omega
    · have := mem_le_sum h3 x hx; omega
abbrev spGrown : Sp := spT (fun a : List Int × Int × Int => [tI a.1, .int a.2.1, .int a.2.2]) GrownOk (fun a => .ol ((grownM a.1 a.2.1 a.2.2).map tI))
theorem fo_grown (T : Txt K mg) : Cal P w K mg base 1 "grown" ["word", "bound", "total"] [] spGrown := by
  obtain ⟨fd, F⟩ := T.f_grown
  refine cal_of F (def_ok F sc_grown (fun _ => rfl) fun cdv A outer s H E hr a hp S0 Z kk hnx => ?_) T.g_grown (fun _ _ _ _ _ _ us hl => match us, hl with | [_, _, _], _ => rfl)
  obtain ⟨word, bound, total⟩ := a
  obtain ⟨hl, hn, hs, ht, hb⟩ := hp
  simp only at hl hn hs ht hb
  have hs0 := sum_nn hn
  have hu : (XF P w K mg base N_grown (Str.ofString "grown") (defScope s_grown) (He.ga K (Str.ofString "grown")) cdv A outer s H E).A.units + 64 < cLine := hr.units
  refine go_set 3 (ed_sumT (ed_var 0) T.n_sum) ?_ sc_grown.nd
  refine go_if (et_eqI (ed_var 3) (ed_var 2)) (fun h => ?_) (fun h => ?_)
  · have h : word.sum = total := of_decide_eq_true h
    refine go_ret (ev_if (et_le (ed_var 2) (ed_var 1)) (fun q => Ev.to (ev_lst (ea_cons (ed_var 0) ea_nil)) ?_) (fun q => Ev.to (ev_lst ea_nil) ?_)) kk
    · simp only [grownM, if_pos h, if_pos (of_decide_eq_true q)]; rfl
    · simp only [grownM, if_pos h, if_neg (of_decide_eq_false q)]; rfl
  · have h : ¬ word.sum = total := of_decide_eq_false h
    refine go_nil (nx_go ?_)
    refine go_set 4 (ed_sub (ed_min (ed_var 1) (ed_var 2) T.n_min) (ed_var 3)) ?_ sc_grown.nd
    -- the rest, most known
    have rest : ∀ m : Int, m = mostM word bound total → Go (XF P w K mg base N_grown (Str.ofString "grown") (defScope s_grown) (He.ga K (Str.ofString "grown")) cdv A outer s H E) S0 H Z ((defBody s_grown).drop 4)
        [some (.sh (tI word)), some (.sh (.int bound)), some (.sh (.int total)), some (.sh (.int word.sum)), some (.sh (.int m)), none] := by
      rintro m rfl
      have hm : mostM word bound total ≤ 1000 ∧ -2000000 ≤ mostM word bound total := by
        unfold mostM
        split
        · omega
        · rename_i hne
          have hpos := List.length_pos_iff.mpr hne
          have hlast : word.getD (word.length - 1) 0 ∈ word := by
            have : word.length - 1 < word.length := by omega
            simp [List.getD, this]
          have h1 := hn _ hlast
          omega
      refine go_ret (Ev.to (ev_lc (j := 5) (List.range (mostM word bound total).toNat) (fun k : Nat => .int (mostM word bound total - (k : Int))) (fun _ => true) (fun k : Nat => tI (word ++ [mostM word bound total - (k : Int)]))
        (ei_rngD (ed_var 4) ed_int (Ed.to (ed_neg ed_int) rfl) (by omega) T.n_range) (by rw [Int.sub_zero]) (by rw [List.length_range]; omega) sc_grown.nd (fun y _ => .nil) (fun y _ _ s H C cl fp => Ed.to (ed_catA (ed_var 0) (ed_tup (ea_cons (ed_var 5) ea_nil)) (by simp; omega)) (by rw [tI, List.map_append]; rfl))
        (blkOk_by (N := N_grown) (sc := defScope s_grown) (by decide +kernel)) (fun _ _ _ _ _ => pg_name sc_grown.nd rfl (Or.inl rfl))) ?_) kk
      rw [filterT]
      simp only [grownM, if_neg h, List.map_map]; rfl
    refine go_if (et_neT (ys := []) (ed_var 0) (Ed.to (ed_tup ea_nil) rfl) hu) (fun q => ?_) (fun q => ?_)
    · have hne : ¬ word = [] := by simpa using q
      have hpos := List.length_pos_iff.mpr hne
      have hlast : (word.map D.int)[(word.map D.int).length - 1]? = some (.int (word.getD (word.length - 1) 0)) := by
        rw [List.length_map]
        exact getI (Nat.sub_lt hpos (by decide))
      refine go_set 4 (ed_min (ed_var 4) (ed_ixT (d := .int (word.getD (word.length - 1) 0)) (ed_var 0) (Ed.to (ed_neg ed_int) rfl) ?_) T.n_min) ?_ sc_grown.nd
      · exact atI_neg1 hlast
      · refine go_nil (nx_go (rest _ ?_))
        simp only [mostM, if_neg hne]
    · have he : word = [] := by simpa using q
      refine go_nil (nx_go (rest _ ?_))
      simp only [mostM, if_pos he]
end
end Bb
end
section
set_option maxRecDepth 100000
set_option maxHeartbeats 4000000
/-! D1: a dict by a comprehension, its keys tuples: one theorem for any clause, the clause's inside told by a promise of its own. -/
namespace Bb
open PySem PySem.Spec PyProof.Rows L2
/-! ### what stands inside a clause -/
/-- from slots and heap on to a heap of N -/
abbrev TB := L2.St → Hp → (Hp → Prop) → Prop
/-- the action, which ends by the loop's next turn, keeps the promise t in the block Y; the slots of vs are unknown behind it -/
def Inside (Y : Cx) (vs : List Nat) (loop : Code) (act : Sem Fin) (t : TB) : Prop :=
  ∀ (pins : List (Addr × Obj)) (s : Shared) (σ : L2.St) (H : Hp) (N : Hp → Prop), Inv Y pins σ H s → t σ H N → wpAny (model Y.prog Y.w) Y.A act (fun fin s' => fin = .again loop ∧ ∃ H', Inv Y pins (wipe σ vs) H' s' ∧ N H') (fun _ _ => False) s
/-- the tests, one by one -/
def testsOf (ifs : List Expr) (env : Env) : Sem Bool := forIn ifs true fun c r => if r = true then do let ok ← isTrue c env (eval c env); pure (ForInStep.yield ok) else pure (ForInStep.yield r)
/-- a turn of a clause's loop -/
def oneTurn (tg : Expr) (at_ : Pos) (ifs : List Expr) (it : Value) (env : Env) (act : Sem Fin) (loop : Code) : Sem Fin := do
  standAt at_
  match ← pyNext it with
  | none => pure (.done .next)
  | some v => do
    letOwnedTupleGo tg it v
    assign tg env v
    let ok ← testsOf ifs env
    if ok = true then act else again loop
/-- d[k] = v, as the innermost clause does -/
def putAct (kx vx : Expr) (D : Addr) (env : Env) : Sem Unit := do
  let a ← eval kx env
  let b ← holding [a] (eval vx env)
  standAt { kx.pos with endLine := vx.pos.endLine, endCol := vx.pos.endCol }
  holding [a, b] (dictSet D a b)
/-- the next clause, as the outer one does -/
def nextAct (e : Expr) (iter : Expr) (D : Addr) (env : Env) (loop : Code) : Sem Fin := do
  let a ← eval iter env
  standAt iter.pos
  let b ← foldedSetIterable iter env a
  let _ ← runOwn (.compStart e 1 (← holding [b] (pyIter b)) (.ref D) env) env
  again loop
section
variable {kx vx t0 i0 t1 i1 : Expr} {ifs0 ifs1 : List Expr} {scope : Scope} {pos : Pos} {it : Value} {D : Addr} {env : Env}
abbrev sole (kx vx t0 i0 : Expr) (ifs0 : List Expr) (scope : Scope) (pos : Pos) : Expr := .DictComp kx vx [⟨t0, i0, ifs0, 0⟩] scope pos
abbrev both2 (kx vx t0 i0 : Expr) (ifs0 : List Expr) (t1 i1 : Expr) (ifs1 : List Expr) (scope : Scope) (pos : Pos) : Expr := .DictComp kx vx [⟨t0, i0, ifs0, 0⟩, ⟨t1, i1, ifs1, 0⟩] scope pos
theorem turn_sole : compTurn (sole kx vx t0 i0 ifs0 scope pos) 0 it (.ref D) env = oneTurn t0 i0.pos ifs0 it env (putAct kx vx D env >>= fun _ => again (.compLoop (sole kx vx t0 i0 ifs0 scope pos) 0 it (.ref D) env)) (.compLoop (sole kx vx t0 i0 ifs0 scope pos) 0 it (.ref D) env) := by rfl
theorem turn_first : compTurn (both2 kx vx t0 i0 ifs0 t1 i1 ifs1 scope pos) 0 it (.ref D) env = oneTurn t0 i0.pos ifs0 it env (nextAct (both2 kx vx t0 i0 ifs0 t1 i1 ifs1 scope pos) i1 D env (.compLoop (both2 kx vx t0 i0 ifs0 t1 i1 ifs1 scope pos) 0 it (.ref D) env)) (.compLoop (both2 kx vx t0 i0 ifs0 t1 i1 ifs1 scope pos) 0 it (.ref D) env) := by rfl
theorem turn_second : compTurn (both2 kx vx t0 i0 ifs0 t1 i1 ifs1 scope pos) 1 it (.ref D) env = oneTurn t1 i1.pos ifs1 it env (putAct kx vx D env >>= fun _ => again (.compLoop (both2 kx vx t0 i0 ifs0 t1 i1 ifs1 scope pos) 1 it (.ref D) env)) (.compLoop (both2 kx vx t0 i0 ifs0 t1 i1 ifs1 scope pos) 1 it (.ref D) env) := by rfl
end
section
variable {X : Cx} {scope : Scope} {sB : Shared} {HB : Hp} {C : Addr} {cl : List (Str × Addr)} {fB : List Addr}
/-- a clause walked, from the heap H on to N: W by turn and measure; own: the slots that the clause's names and the inner ones' take -/
abbrev Runs (g : TG) (tt : TT) (tb : TB) (own : List Nat) (σ : L2.St) (J : It) (H : Hp) (N : Hp → Prop) : Prop := ∃ W : Nat → Nat → Hp → Prop, (∃ m, W 0 m H) ∧ ∀ i m H, W i m H →
  (J.stop i H ∧ N H) ∨ (J.go i H ∧ ∃ Nx : Hp → Prop, (∀ H', Nx H' → ∃ m', m' < m ∧ W (i + 1) m' H') ∧ ∀ x H', J.yld i H x H' → g x (wipe σ own) H' fun σ2 H2 => wipe σ2 own = wipe σ own ∧ tt σ2 H2 fun b H3 => if b = true then tb σ2 H3 Nx else Nx H3)
theorem wipe_sub {σ : L2.St} {vs own : List Nat} (h : ∀ i ∈ vs, i ∈ own) {i : Nat} {v : V} (e : (wipe σ own)[i]? = some (some v)) : (wipe σ vs)[i]? = some (some v) := by
  obtain ⟨e1, e2⟩ := wipe_some e
  rw [wipe_out fun z => e2 (h i z)]; exact e1
/-- the loop of any clause of a dict's comprehension -/
theorem loop_runs {kx vx tg : Expr} {gens : List Comprehension} {sc : Scope} {pos at_ : Pos} {ifs : List Expr} {j : Nat} {acc : Value} {it : Addr} {act : Sem Fin} {own vs : List Nat} {J : It} {fp : List Addr} {tn : Nat → Heap → Prop} {g : TG} {tt : TT} {tb : TB} (hc : X.calm = true)
    (eq : compTurn (.DictComp kx vx gens sc pos) j (.ref it) acc (XB X scope sB HB C cl fB).env = oneTurn tg at_ ifs (.ref it) (XB X scope sB HB C cl fB).env act (.compLoop (.DictComp kx vx gens sc pos) j (.ref it) acc (XB X scope sB HB C cl fB).env))
    (T : Turn X.prog X.w X.K tg J fp it tn) (pg : PG (XB X scope sB HB C cl fB) tg g) (pt : PTs (XB X scope sB HB C cl fB) ifs tt) (ins : Inside (XB X scope sB HB C cl fB) vs (.compLoop (.DictComp kx vx gens sc pos) j (.ref it) acc (XB X scope sB HB C cl fB).env) act tb) (hvs : ∀ i ∈ vs, i ∈ own)
    {pins : List (Addr × Obj)} {s : Shared} {σ : L2.St} {H : Hp} {N : Hp → Prop} {R : Result → Shared → Prop} (I : Inv (XB X scope sB HB C cl fB) pins (wipe σ own) H s) (st : tn 0 s.heap) (hfp : ∀ b ∈ fp, FpOk (XB X scope sB HB C cl fB) pins H b) (h : Runs g tt tb own σ J H N)
    (hR : ∀ s' H', Inv (XB X scope sB HB C cl fB) pins (wipe σ own) H' s' → N H' → R (.ok .next) s') : codeAny (model X.prog X.w) X.A (.compLoop (.DictComp kx vx gens sc pos) j (.ref it) acc (XB X scope sB HB C cl fB).env) R s := by
  obtain ⟨W, ⟨m0, w0⟩, walk⟩ := h
  refine codeAny_loop rfl (fun n s' => ∃ i H', Inv (XB X scope sB HB C cl fB) pins (wipe σ own) H' s' ∧ tn i s'.heap ∧ (∀ b ∈ fp, FpOk (XB X scope sB HB C cl fB) pins H' b) ∧ W i n H') (fun n s1 hI => ?_) m0 ⟨0, H, I, st, hfp, w0⟩
  obtain ⟨i, H1, I1, st1, f1, w1⟩ := hI
  change wpAny _ _ (Sem.onRaise (compTurn _ _ _ _ _) _) _ _ _
  rw [eq]
  refine wpAny_noted ?_
  unfold oneTurn
  refine wpAny_bind (wpAny_standAt (wpAny_bind ?_))
  rcases walk i n H1 w1 with ⟨end_, hN⟩ | ⟨more, Nx, hNx, step⟩
  · refine thnF (T.done (XB X scope sB HB C cl fB) rfl rfl rfl hc i pins s1 _ H1 (fun _ _ => False) I1 f1 st1 end_) fun r s2 hr => ?_
    rw [hr.1]
    exact wpAny_pure (hR s2 H1 hr.2 hN)
  refine thnF (T.item (XB X scope sB HB C cl fB) rfl rfl rfl hc i pins s1 _ H1 (fun _ _ => False) I1 f1 st1 more) fun r s2 hr => ?_
  obtain ⟨u, rfl, h2⟩ := hr
  refine wpAny_bind (thnF h2 fun _ s3 h3 => ?_)
  obtain ⟨x, H3, I3, rx, hy, st3, n3⟩ := h3
  -- the iterator stands still till the next turn
  have P3 := I3.pinned (fun b hb => ⟨n3 b hb, (f1 b hb).2⟩) (T.obj _ _ st3)
  have turned : ∀ σ' s' H', wipe σ' own = wipe σ own → Inv (XB X scope sB HB C cl fB) (pins ++ pinsAt fp s3.heap) (wipe σ' vs) H' s' → Nx H' → ∃ m, m < n ∧ ∃ i H', Inv (XB X scope sB HB C cl fB) pins (wipe σ own) H' s' ∧ tn i s'.heap ∧ (∀ b ∈ fp, FpOk (XB X scope sB HB C cl fB) pins H' b) ∧ W i m H' := by
    intro σ' s' H' hw I' nx
    obtain ⟨m, hm, w⟩ := hNx H' nx
    have still : ∀ b ∈ fp, ∀ o, s3.heap.get? b = some o → s'.heap.get? b = some o ∧ H' b = none := fun b hb o e =>
      have z := I'.pin (b, o) (by simp only [List.mem_append]; exact .inr (.inr (mem_pinsAt hb e)))
      ⟨z.1, z.2.1⟩
    refine ⟨m, hm, i + 1, H', I'.unpinned.weak (by rw [← hw, wipe_length, wipe_length]) (fun k v e => wipe_sub hvs (by rw [hw]; exact e)), T.keep _ _ _ st3 fun b hb o e => (still b hb o e).1, fun b hb => ⟨?_, (f1 b hb).2⟩, w⟩
    obtain ⟨o, e, _⟩ := T.obj _ _ st3 b hb
    exact (still b hb o e).2
  refine wpAny_bind (thnF (pg.run _ s3 _ H3 x u _ P3 rx (step x H3 hy)) fun _ s4 h4 => ?_)
  obtain ⟨σ4, H4, I4, hw, q4⟩ := h4
  refine wpAny_bind (thnF (pt.run _ s4 σ4 H4 _ I4 q4) fun b s5 h5 => ?_)
  obtain ⟨H5, I5, q5⟩ := h5
  cases b with
  | false =>
    rw [if_neg Bool.false_ne_true] at q5 ⊢
    exact wpAny_pure ⟨rfl, turned σ4 s5 H5 hw (I5.weak (wipe_length _ _) fun k v e => (wipe_some e).1) q5⟩
  | true =>
    rw [if_pos rfl] at q5 ⊢
    refine thnF (ins _ s5 σ4 H5 Nx I5 q5) fun fin s6 h6 => ?_
    obtain ⟨rfl, H6, I6, nx⟩ := h6
    exact ⟨rfl, turned σ4 s6 H6 hw I6 nx⟩
end
/-! ### the insides -/
abbrev tPut (tk tv : TE) (D : Addr) : TB := fun σ H N => tk σ H fun y H4 => tv σ H4 fun z H5 => ∃ (kvs : List (List Key × V)) (k : List Key) (b : Addr), y = .ref b ∧ H5 b = some (.tup (k.map kV)) ∧ H5 D = some (.dT kvs) ∧ kvs.length < sizeLine ∧ N (upd H5 D (.dT (putK kvs k z)))
abbrev tNext (wi : TI) (g : TG) (tt : TT) (own : List Nat) (tb : TB) : TB := fun σ H N => wi σ H fun J H1 => Runs g tt tb own σ J H1 N
/-- one pair into the dict, its key a tuple of ints and texts -/
theorem put_tuple {Y : Cx} {pins : List (Addr × Obj)} {σ : L2.St} {H : Hp} {s : Shared} {D b : Addr} {kvs : List (List Key × V)} {k : List Key} {v : V} {u r : Value} (hu : Y.A.units + 1 < cLine) (I : Inv Y pins σ H s) (hD : H D = some (.dT kvs)) (hb : H b = some (.tup (k.map kV))) (hz : kvs.length < sizeLine) (ru : RelV (.ref b) u) (rv : RelV v r) :
    wpAny (model Y.prog Y.w) Y.A (dictSet D u r) (fun _ s' => Inv Y pins σ (upd H D (.dT (putK kvs k v))) s') (fun _ _ => False) s := by
  have eu : u = .ref b := ru
  subst eu
  obtain ⟨hsz, hsys, ents, hrel, hdict⟩ := dt_of I.hok hD
  refine wpAny_dictSet_heap (knd := tupleKind (mixKind Y.prog Y.w)) (show Y.A.units < cLine by omega) (key_of I.hok hb) hdict (hsz := by rw [← Paired.length hrel]; exact hsz) fun h2 d2 keep => ?_
  obtain ⟨o2, es, ep, get2, p1, p2, p3, _, p4⟩ := d2
  have grow := length_putK kvs k v
  refine d_write I (by rw [hD]; trivial) keep ⟨o2, get2⟩ ⟨by omega, hsys, _, (hrel.put k hb rv).keeps fun c ys hc => ?_, o2, es, ep, get2, p1, p2, p3, p4⟩
  have ne : c ≠ D := fun z => by rw [z, hD] at hc; cases hc
  rw [upd_ne ne]; exact hc
section
variable {X : Cx} {scope : Scope} {sB : Shared} {HB : Hp} {C : Addr} {cl : List (Str × Addr)} {fB : List Addr} {kx vx : Expr} {tk tv : TE} {D : Addr}
theorem inside_put (hu : X.A.units + 1 < cLine) (hk : PE (XB X scope sB HB C cl fB) kx tk) (hv : PE (XB X scope sB HB C cl fB) vx tv) (loop : Code) :
    Inside (XB X scope sB HB C cl fB) [] loop (putAct kx vx D (XB X scope sB HB C cl fB).env >>= fun _ => again loop) (tPut tk tv D) := by
  intro pins s σ H N I h
  unfold putAct
  refine wpAny_bind (wpAny_bind (thn (hk.run pins s σ H _ I h) fun u s1 h1 => ?_))
  obtain ⟨y, H1, I1, r1, h1⟩ := h1
  refine wpAny_bind (wpAny_holding (thn (hv.run pins s1 σ H1 _ I1 h1) fun r s2 h2 => ?_))
  obtain ⟨z, H2, I2, r2, kvs, k, b, rfl, hb, hD, hz, hN⟩ := h2
  refine wpAny_bind (wpAny_standAt (wpAny_holding (thn (put_tuple (Y := XB X scope sB HB C cl fB) hu I2 hD hb hz r1 r2) fun _ s3 I3 => ?_)))
  exact wpAny_pure ⟨rfl, _, I3, hN⟩
end
section
variable {kx vx t0 i0 t1 i1 : Expr} {ifs0 ifs1 : List Expr} {scope : Scope} {pos : Pos} {it : Value} {D : Addr} {env : Env}
theorem start_second : compStart (both2 kx vx t0 i0 ifs0 t1 i1 ifs1 scope pos) 1 it (.ref D) env = (do
    let set ← ask
    if set.params.followText "comprehension-iter-twice" then again (.compLoop (both2 kx vx t0 i0 ifs0 t1 i1 ifs1 scope pos) 1 it (.ref D) env)
    else do
      rule "comprehension.iter-twice"
      standAt i1.pos
      let jt ← pyIter it
      again (.compLoop (both2 kx vx t0 i0 ifs0 t1 i1 ifs1 scope pos) 1 jt (.ref D) env)) := by rfl
/-- the second clause's loop is entered, by an iterator that is its own -/
theorem enter_second {P : Program} {w : World} {A : Around} {R : Result → Shared → Prop} {s : Shared} (self : ∀ (E : Value → Shared → Prop) (Q : Value → Shared → Prop), Q it s → wpAny (model P w) A (pyIter it) Q E s)
    (h : codeAny (model P w) A (.compLoop (both2 kx vx t0 i0 ifs0 t1 i1 ifs1 scope pos) 1 it (.ref D) env) R s) : codeAny (model P w) A (.compStart (both2 kx vx t0 i0 ifs0 t1 i1 ifs1 scope pos) 1 it (.ref D) env) R s := by
  refine codeAny_of_tree ?_
  change wpAny _ _ (Sem.onRaise (compStart _ _ _ _ _) _) _ _ _
  rw [start_second]
  refine wpAny_notedAt (wpAny_bind (wpAny_askSetting ?_))
  split
  · exact wpAny_pure ⟨rfl, h⟩
  · exact wpAny_bind (wpAny_rule (wpAny_bind (wpAny_standAt (wpAny_bind (self _ _ (wpAny_pure ⟨rfl, h⟩))))))
end
section
variable {X : Cx} {scope : Scope} {kx vx t0 i0 t1 i1 : Expr} {ifs0 ifs1 : List Expr} {pos : Pos} {wi wi1 : TI} {g g1 : TG} {tt tt1 : TT} {tk tv : TE} {own : List (Str × Nat)} {own1 : List Nat}
theorem inside_next {sB : Shared} {HB : Hp} {C : Addr} {cl : List (Str × Addr)} {fB : List Addr} {D : Addr} (hc : X.calm = true) (hu : X.A.units + 1 < cLine) (hi : PI (XB X scope sB HB C cl fB) t1 i1 wi1) (hs : ∀ x, foldedSetIterable i1 (XB X scope sB HB C cl fB).env x = pure x) (hg : PG (XB X scope sB HB C cl fB) t1 g1) (ht : PTs (XB X scope sB HB C cl fB) ifs1 tt1)
    (hk : PE (XB X scope sB HB C cl fB) kx tk) (hv : PE (XB X scope sB HB C cl fB) vx tv) (loop : Code) :
    Inside (XB X scope sB HB C cl fB) own1 loop (nextAct (both2 kx vx t0 i0 ifs0 t1 i1 ifs1 scope pos) i1 D (XB X scope sB HB C cl fB).env loop) (tNext wi1 g1 tt1 own1 (tPut tk tv D)) := by
  intro pins s σ H N I h
  unfold nextAct
  refine wpAny_bind (thn (hi.run pins s σ H _ I h) fun a s1 h1 => wpAny_bind (wpAny_standAt (wpAny_bind (wpAny_of_eq (hs a) (wpAny_bind (wpAny_holding (thn h1 fun jt s2 h2 => ?_)))))))
  obtain ⟨it, fp, tn, J, H2, rfl, I2, T, st2, f2, runs⟩ := h2
  refine wpAny_bind (wpAny_runOwn ?_)
  rw [Around.mark_none]
  refine enter_second (fun E Q q => T.self _ 0 _ _ _ st2 q) ?_
  refine loop_runs hc turn_second T hg ht (inside_put hu hk hv _) (fun i hi => nomatch hi) (I2.weak (wipe_length _ _) fun k v e => (wipe_some e).1) st2 f2 runs fun s' H' I' hN => ?_
  exact wpAny_pure ⟨rfl, H', I', hN⟩
/-- a comprehension's dict: the first clause walked, its inside told by tb -/
abbrev tDict (wi : TI) (g : TG) (tt : TT) (tb : Addr → TB) (own : List Nat) : TE := fun σ H Q => wi σ H fun J H1 => ∀ D, H1 D = none → Runs g tt (tb D) own σ J (upd H1 D (.dT [])) (Q (.ref D))
/-- what is asked of the first clause in every block -/
structure Clause (X : Cx) (scope : Scope) (own : List (Str × Nat)) (e : Expr) (t0 i0 : Expr) (ifs0 : List Expr) (wi : TI) (g : TG) (tt : TT) (tb : Addr → TB) : Prop where
  calm : X.calm = true
  nd : X.N.Nodup
  blk : BlkOk X.N X.env.scope scope own
  src : PI X t0 i0 wi
  tgt : InB X scope fun Y => PG Y t0 g
  tst : InB X scope fun Y => PTs Y ifs0 tt
  fold : ∀ x, foldedSetIterable i0 X.env x = pure x
  body : ∀ (D it : Addr), InB X scope fun Y => ∃ (act : Sem Fin) (vs : List Nat), (∀ i ∈ vs, i ∈ own.map (·.2)) ∧ compTurn e 0 (.ref it) (.ref D) Y.env = oneTurn t0 i0.pos ifs0 (.ref it) Y.env act (.compLoop e 0 (.ref it) (.ref D) Y.env) ∧ Inside Y vs (.compLoop e 0 (.ref it) (.ref D) Y.env) act (tb D)
theorem Clause.run {rest : List Comprehension} {tb : Addr → TB} (c : Clause X scope own (.DictComp kx vx (⟨t0, i0, ifs0, 0⟩ :: rest) scope pos) t0 i0 ifs0 wi g tt tb) {pins : List (Addr × Obj)} {s : Shared} {σ : L2.St} {H : Hp} {Q : VK} {use : Option (Value → Sem Unit)} {Qf : Value → Shared → Prop} {p2 : Pos} (I : Inv X pins σ H s) (h : tDict wi g tt tb (own.map (·.2)) σ H Q)
    (k : ∀ D C s' m H', Inv X pins σ H' s' → Q (.ref D) H' → s'.heap.Ns C m → FpOk X pins H' C → compPost (model X.prog X.w) X.A X.xe use Qf (.ref D) C (.ok .next) s') :
    wpAny (model X.prog X.w) X.A (comprehension (.DictComp kx vx (⟨t0, i0, ifs0, 0⟩ :: rest) scope pos) scope X.env p2 newDict false (eval i0 X.env) use) Qf X.xe s := by
  have cells : ∀ y ∈ scope.names, y.2 = .free → ∃ b, X.env.cells.lookup y.1 = some b := fun y hy e => I.ok.has _ (c.blk.free y hy e)
  refine wpAny_comprehension_free (use := use) rfl c.fold (closure_ok cells) c.blk.kind (fun y hy e => (c.blk.uniq y hy).trans (congrArg some e)) (thn (c.src.run pins s σ H _ I h) fun a s1 h1 => thn h1 fun jt s2 h2 => ?_)
  obtain ⟨it, fp, tn, J, H2, rfl, I2, T, st2, f2, runs⟩ := h2
  refine wpAny_newObj_type (newEnv_comp ?_)
  have young : ∀ b ∈ fp, b < s2.heap.objs.size := fun b hb => let ⟨_, e, _⟩ := T.obj _ _ st2 b hb; Heap.lt_size e
  have runs := runs s2.heap.objs.size (I2.hok.fresh (Nat.le_refl _))
  have I3 : Inv X pins σ (upd H2 s2.heap.objs.size (.dT [])) { s2 with heap := s2.heap.push { cls := .type "dict", data := .dict #[] } } := I2.laid (t' := s2.toks) (fun b o e => Heap.get?_push_of_some _ e) (Nat.le_refl _) (dt_empty s2.heap I2.big)
  have f3 : ∀ b ∈ fp, FpOk X pins (upd H2 s2.heap.objs.size (.dT [])) b ∧ b < (s2.heap.push { cls := .type "dict", data := .dict #[] }).objs.size := fun b hb =>
    ⟨⟨(upd_ne (Nat.ne_of_lt (young b hb))).trans (f2 b hb).1, (f2 b hb).2⟩, by rw [Heap.size_push]; exact Nat.lt_succ_of_lt (young b hb)⟩
  have I4 := block_start I3 c.blk c.nd f3
  generalize upd H2 s2.heap.objs.size (.dT []) = H3 at *
  generalize hs3 : ({ s2 with heap := s2.heap.push { cls := .type "dict", data := .dict #[] } } : Shared) = s3 at *
  have e3 : s3.heap = s2.heap.push { cls := .type "dict", data := .dict #[] } := by rw [← hs3]
  have st4 : tn 0 (pushCells (s3.heap.push { cls := .type "dict", data := .dict #[] }) scope.names) := T.keep _ _ _ st2 fun b _ o e => pushCells_keeps _ _ _ _ (Heap.get?_push_of_some _ (by rw [e3]; exact Heap.get?_push_of_some _ e))
  obtain ⟨act, vs, hvs, eq, ins⟩ := c.body s2.heap.objs.size it s3 H3 s3.heap.objs.size (cellsFrom (s3.heap.objs.size + 1) scope.names (cloFrom X.env.cells scope.names [])) fp
  have loop := loop_runs (R := compPost (model X.prog X.w) X.A X.xe use Qf (.ref s2.heap.objs.size) s3.heap.objs.size) c.calm eq T (c.tgt s3 H3 _ _ fp) (c.tst s3 H3 _ _ fp) ins hvs I4 st4 (fun b hb => ⟨(f3 b hb).1.1, (I4.ok.exf b hb).1, I4.ok.exfs b hb, .inl hb, (I4.ok.exf b hb).2, fun p hp => by cases hp⟩) runs fun s' H' I' q => by
    obtain ⟨m, ns, _⟩ := I'.loc
    refine k _ _ s' m H' (I3.call' (ch := fp) I'.os I'.base I'.hok I'.bare fun b hb => ?_) q ns (I3.fpOk (Nat.le_refl _) I'.free)
    obtain ⟨_, n1, _, n2, n3, n4⟩ := (f3 b hb).1
    exact ⟨n2, n1, n3, n4⟩
  exact codeAny_compStart_dict loop (T.self X.A 0 _ _ _ st4 loop)
end
section
variable {X : Cx} {scope : Scope} {kx vx t0 i0 t1 i1 : Expr} {ifs0 ifs1 : List Expr} {rest : List Comprehension} {pos : Pos} {wi wi1 : TI} {g g1 : TG} {tt tt1 : TT} {tk tv : TE} {own : List (Str × Nat)} {own1 : List Nat} {tb : Addr → TB}
theorem fp_turn {pins : List (Addr × Obj)} {σ : L2.St} {H : Hp} {s : Shared} {C : Addr} {h' : Heap} (f : FpOk X pins H C) (I : Inv X pins σ H s) (sb : Heap.SameBut C s.heap h') : Inv X pins σ H { s with heap := h' } :=
  let ⟨f0, f1, _, f2, f3, f4⟩ := f
  I.turned (t' := s.toks) (fun b o hb e => (sb.2 b hb).trans e) f0 f1 f2 f3 f4
/-- the dict, as a value -/
theorem pe_dict (c : Clause X scope own (.DictComp kx vx (⟨t0, i0, ifs0, 0⟩ :: rest) scope pos) t0 i0 ifs0 wi g tt tb) : PE X (.DictComp kx vx (⟨t0, i0, ifs0, 0⟩ :: rest) scope pos) (tDict wi g tt tb (own.map (·.2))) := by
  refine ⟨fun pins s σ H Q I h => ?_⟩
  rw [arm_eval_DictComp]
  exact c.run I h fun D C s' m H' I' q ns f => ⟨m, ns, fun h' sb => ⟨.ref D, H', fp_turn f I' sb, rfl, q⟩⟩
/-- y = the dict, on one line -/
theorem ps_dict {i : Nat} {y : Str} {py spos : Pos} (c : Clause X scope own (.DictComp kx vx (⟨t0, i0, ifs0, 0⟩ :: rest) scope pos) t0 i0 ifs0 wi g tt tb) (hy : X.N[i]? = some y) (hl : X.env.scope.names.lookup y = some .local)
    (hsw : swapsWith (.DictComp kx vx (⟨t0, i0, ifs0, 0⟩ :: rest) scope pos) (some (.Name y py)) spos.line X.env = pure true) : PS X (.Assign [.Name y py] (.DictComp kx vx (⟨t0, i0, ifs0, 0⟩ :: rest) scope pos) spos) (tAsg (tDict wi g tt tb (own.map (·.2))) (gName i)) := by
  refine ⟨fun pins s σ H Z I h => ?_⟩
  rw [exec_Assign_Name_used _ _ _ _ hsw]
  have h : tDict wi g tt tb (own.map (·.2)) σ H (fun x H1 => gName i x σ H1 Z.nx) := h
  refine wpAny_bind (wpAny_standAt (wpAny_bind (wpAny_bind (thn (c.run (Qf := fun _ s' => SP X pins Z .next s') (use := some (assign (.Name y py) X.env)) I h fun D C s' m H' I' q ns f => ?_) fun _ _ z => wpAny_pure (wpAny_pure z)))))
  change wpAny _ _ (assign (.Name y py) X.env (.ref D)) _ _ _
  refine wpAny_assign_Name (store_ok2 (v := V.ref D) I' c.nd hy (.inl hl) rfl (fun s2 I2 ⟨a, sb, ha⟩ => ?_) (.inr hl))
  have apart : C ≠ a := fun e => by
    rcases ha with z | z
    · exact f.2.1 (e.trans z)
    · exact f.2.2.2.2.1 y a z e.symm
  exact ⟨m, ns.sameBut sb apart, fun h' sb' => ⟨_, H', fp_turn f I2 sb', q⟩⟩
/-- one clause, no second -/
theorem clause_sole (hu : X.A.units + 1 < cLine) (hc : X.calm = true) (hn : X.N.Nodup) (hb : BlkOk X.N X.env.scope scope own) (hi : PI X t0 i0 wi) (hg : InB X scope fun Y => PG Y t0 g) (ht : InB X scope fun Y => PTs Y ifs0 tt) (hk : InB X scope fun Y => PE Y kx tk) (hv : InB X scope fun Y => PE Y vx tv) (hs : ∀ x, foldedSetIterable i0 X.env x = pure x) :
    Clause X scope own (sole kx vx t0 i0 ifs0 scope pos) t0 i0 ifs0 wi g tt (tPut tk tv) :=
  ⟨hc, hn, hb, hi, hg, ht, hs, fun D it s H C cl fp => ⟨_, [], (fun i hi => nomatch hi), turn_sole, inside_put hu (hk s H C cl fp) (hv s H C cl fp) _⟩⟩
/-- two clauses -/
theorem clause_two (hu : X.A.units + 1 < cLine) (hc : X.calm = true) (hn : X.N.Nodup) (hb : BlkOk X.N X.env.scope scope own) (hi : PI X t0 i0 wi) (hg : InB X scope fun Y => PG Y t0 g) (ht : InB X scope fun Y => PTs Y ifs0 tt) (hi1 : InB X scope fun Y => PI Y t1 i1 wi1) (hg1 : InB X scope fun Y => PG Y t1 g1) (ht1 : InB X scope fun Y => PTs Y ifs1 tt1)
    (hk : InB X scope fun Y => PE Y kx tk) (hv : InB X scope fun Y => PE Y vx tv) (hs : ∀ x, foldedSetIterable i0 X.env x = pure x) (hs1 : ∀ env x, foldedSetIterable i1 env x = pure x) (ho : ∀ i ∈ own1, i ∈ own.map (·.2)) :
    Clause X scope own (both2 kx vx t0 i0 ifs0 t1 i1 ifs1 scope pos) t0 i0 ifs0 wi g tt (fun D => tNext wi1 g1 tt1 own1 (tPut tk tv D)) :=
  ⟨hc, hn, hb, hi, hg, ht, hs, fun D it s H C cl fp => ⟨_, own1, ho, turn_first, inside_next hc hu (hi1 s H C cl fp) (hs1 _) (hg1 s H C cl fp) (ht1 s H C cl fp) (hk s H C cl fp) (hv s H C cl fp) _⟩⟩
/-- when the store may go ahead of the block's end -/
theorem swaps_dict {gs : List Comprehension} {py : Pos} {y : Str} {l : Nat} {env : Env} (h1 : env.scope.kind = .function) (h2 : env.scope.names.lookup y = some .local) (h3 : (py.line == pos.line) = true) (h4 : (scope.names.any fun z => z.1 == y && (z.2 == .local || z.2 == .cell)) = false) :
    swapsWith (.DictComp kx vx gs scope pos) (some (.Name y py)) l env = pure true := by
  have b1 : env.blockKind = .function := by rw [Env.blockKind, h1]; rfl
  have b2 : env.kindOf y = some .local := h2
  have b3 : (scope.names.any fun x => match x with | (n, k) => n == y && (k == .local || k == .cell)) = false := h4
  unfold swapsWith
  simp only [b1, b2, b3, Expr.pos, h3]
  rfl
end
end Bb
end
section
set_option maxRecDepth 100000
set_option maxHeartbeats 4000000
/-! D2: the values and the pairs of a frozen dict whose keys are tuples, walked by the library's walks of raw dicts; {k: v} for such a key. -/
namespace Bb
open PySem PySem.Spec PyProof.Rows L2
section
variable {X : Cx} {pins : List (Addr × Obj)} {σ : L2.St} {H : Hp} {s : Shared} {d it : Addr} {o : Obj} {es : Array DictEntry} {ep : Nat} {kvs : List (List Key × V)}
/-- the machine's entries tell the pairs -/
structure Ents (H : Hp) (kvs : List (List Key × V)) (es : Array DictEntry) : Prop where
  size : es.size = kvs.length
  row : ∀ (i : Nat) (hi : i < es.size), ∃ (k : List Key) (v : V) (q : Addr), kvs[i]? = some (k, v) ∧ es[i].key = .ref q ∧ H q = some (.tup (k.map kV)) ∧ RelV v es[i].val
theorem frozen_at (I : Inv X pins σ H s) (h : H d = some (.frz o (.dT kvs))) : (d == sysModules) = false ∧ ∃ es ep, o.data = .dict es ep ∧ s.heap.DictRaw d es ep ∧ Ents H kvs es := by
  obtain ⟨get, _, sys, ents, pair, o2, es, ep, get2, exact_, data, list_, _⟩ := I.hok d _ h
  have same : o2 = o := Option.some.inj (get2.symm.trans get)
  subst same
  have n1 := size_of_entries list_
  have n2 := Paired.length pair
  refine ⟨sys, es, ep, data, ⟨_, get, exact_, data⟩, by omega, fun i hi => ?_⟩
  have hk : i < kvs.length := by omega
  obtain ⟨b, hb, e1, e2, e3⟩ := L2.paired_get pair (List.getElem?_eq_getElem hk)
  have at_ := entry_at list_ i
  rw [hb, Array.getElem?_eq_getElem hi] at at_
  have ee := Option.some.inj at_
  exact ⟨kvs[i].1, kvs[i].2, b.2.1, List.getElem?_eq_getElem hk, by rw [ee]; rfl, e2, by rw [ee]; exact e3⟩
/-- .. of the very entries -/
theorem frozen_es (I : Inv X pins σ H s) (h : H d = some (.frz o (.dT kvs))) (e : o.data = .dict es ep) : s.heap.DictRaw d es ep ∧ Ents H kvs es := by
  obtain ⟨_, es2, ep2, e2, r⟩ := frozen_at I h
  obtain ⟨rfl, rfl⟩ := dict_ep e e2
  exact r
end
/-- a walk over a frozen dict: yl tells a turn -/
abbrev ItF (d : Addr) (o : Obj) (kvs : List (List Key × V)) (yl : Nat → Hp → V → Hp → Prop) : It := ⟨fun i H => H d = some (.frz o (.dT kvs)) ∧ i < kvs.length, yl, fun i H => H d = some (.frz o (.dT kvs)) ∧ kvs.length ≤ i⟩
abbrev yVal (kvs : List (List Key × V)) : Nat → Hp → V → Hp → Prop := fun i H x H' => H' = H ∧ ∃ k, kvs[i]? = some (k, x)
abbrev yPair (kvs : List (List Key × V)) : Nat → Hp → V → Hp → Prop := fun i H x H' => ∃ (T q : Addr) (k : List Key) (v : V), kvs[i]? = some (k, v) ∧ H q = some (.tup (k.map kV)) ∧ x = .ref T ∧ H T = none ∧ H' = upd H T (.tup [.ref q, v])
section
variable {P : Program} {w : World} {K : PySem.W.Frag} {tg : Expr} {d it : Addr} {o : Obj} {es : Array DictEntry} {ep n : Nat} {kvs : List (List Key × V)}
theorem turn_vals (hod : o.data = .dict es ep) (hn : es.size = n) (hne : d ≠ it) : Turn P w K tg (ItF d o kvs (yVal kvs)) [it] it (fun i h => h.IsValIter it d i n ep) := by
  subst hn
  refine ⟨List.mem_singleton.mpr rfl, fun i h ⟨ob, e, _, dt⟩ b hb => ⟨ob, by rw [List.mem_singleton.mp hb]; exact e, fun v z => nomatch dt.symm.trans z⟩, fun i h h' st k => st.at (k it (List.mem_singleton.mpr rfl)), ?_, ?_, fun A i s Q E st q => wpAny_pyIter_valiter st q⟩
  all_goals
    rintro X rfl rfl rfl hc i pins s σ H E I hf st ⟨hd, hi⟩
    obtain ⟨raw, ents⟩ := frozen_es I hd hod
    have hsz := ents.size
    obtain ⟨g0, g1, _, g2, g3, g4⟩ := hf it (List.mem_singleton.mpr rfl)
    have W := Walks.rawValues (prog := X.prog) (w := X.w) (I.ok.hd hc) it d hne es ep
  · refine W.item i s _ _ (by omega) ⟨st, raw⟩ fun u h' tk ⟨hi', eu⟩ ⟨st', _⟩ keep => ?_
    subst eu
    obtain ⟨k, v, q, hkv, _, _, rv⟩ := ents.row i hi'
    obtain ⟨ob, e, cl, dt⟩ := id st'
    exact ⟨_, rfl, go_of (s := { s with heap := h', toks := tk }) e cl dt (by decide) ⟨v, H, I.turned (fun b ob hb e => keep b ob (fun z => hb (List.mem_singleton.mp z)) e) g0 g1 g2 g3 g4, rv, ⟨rfl, k, hkv⟩, st', fun b hb => (hf b hb).1⟩⟩
  · have : i = es.size ∨ es.size < i := by omega
    have st := st
    obtain ⟨hsys, _⟩ := frozen_at I hd
    refine wpAny_pyNext_values_end_raw (I.ok.hd hc) st raw (by omega) fun h' keep => ⟨rfl, I.turned (t' := s.toks) keep g0 g1 g2 g3 g4⟩
theorem turn_pairs {elts : List Expr} {kk : Nat} {tpos : Pos} (hod : o.data = .dict es ep) (hn : es.size = n) (hne : d ≠ it) : Turn P w K (.Tuple elts kk tpos) (ItF d o kvs (yPair kvs)) [it] it (fun i h => ∃ ok ov, IsItemIter h it d i n ep ok ov) := by
  subst hn
  refine ⟨List.mem_singleton.mpr rfl, fun i h ⟨ok, ov, e⟩ b hb => ⟨_, (congrArg h.get? (List.mem_singleton.mp hb)).trans e, fun v z => by cases z⟩, fun i h h' ⟨ok, ov, e⟩ k => ⟨ok, ov, k it (List.mem_singleton.mpr rfl) _ e⟩, ?_, ?_, fun A i s Q E ⟨_, _, e⟩ q => wpAny_pyIter_itemiter e q⟩
  all_goals
    rintro X rfl rfl rfl hc i pins s σ H E I hf st ⟨hd, hi⟩
    obtain ⟨raw, ents⟩ := frozen_es I hd hod
    have hsz := ents.size
  · have W := WalksT.rawItems (prog := X.prog) (w := X.w) (I.ok.hd hc) it d hne es ep
    refine W.item i s _ _ (by omega) ⟨st, raw⟩ fun T vals h1 tk ⟨hi', ev⟩ hT tup mid keep => ⟨_, rfl, ?_⟩
    subst ev
    refine W.go elts kk tpos i T { s with heap := h1, toks := tk } _ _ mid fun h2 st' keep2 => ?_
    obtain ⟨k, v, q, hkv, hkey, hq, rv⟩ := ents.row i hi'
    have hH := I.hok.fresh hT
    obtain ⟨ob, tget, tcls, cap, tdat⟩ := tup
    have two : ObjOk X.prog X.w (upd H T (.tup [.ref q, v])) h2 T (.tup [.ref q, v]) :=
      ⟨by show 2 ≤ sizeLine; rw [sizeLine_eq]; decide, [es[i].key, es[i].val], .cons hkey (.cons rv .nil), ob, keep2 T ob (W.apart i T h1 mid) tget, tcls, cap, tdat⟩
    refine ⟨.ref T, _, I.turnedNew (t' := tk) (ch := [it]) (fun b u hb e => keep2 b u hb (keep b u hb e)) hf hT two, rfl, ⟨T, q, k, v, hkv, hq, rfl, hH, rfl⟩, st'.1, fun b hb => ?_⟩
    have hbs : b ≠ T := fun z => by
      rw [List.mem_singleton] at hb
      obtain ⟨ok, ov, e⟩ := st
      exact absurd (Heap.lt_size e) (by rw [← hb, z]; exact Nat.not_lt.mpr hT)
    rw [upd_ne hbs]; exact (hf b hb).1
  · obtain ⟨g0, g1, _, g2, g3, g4⟩ := hf it (List.mem_singleton.mpr rfl)
    obtain ⟨ok, ov, e⟩ := st
    exact wpAny_pyNext_items_end_raw (I.ok.hd hc) e raw (by omega) fun h' keep => ⟨rfl, I.turned (t' := s.toks) keep g0 g1 g2 g3 g4⟩
end
/-- d.values(), d.items() of a frozen dict -/
abbrev iFrz (td : TE) (yl : List (List Key × V) → Nat → Hp → V → Hp → Prop) : TI := fun σ H R => td σ H fun x H1 => ∃ d o kvs, x = .ref d ∧ H1 d = some (.frz o (.dT kvs)) ∧ R (ItF d o kvs (yl kvs)) H1
/-- a method without arguments that gives a view of the dict, iterated: one theorem for both -/
theorem pi_view {X : Cx} {tg e : Expr} {td : TE} {apos cpos : Pos} {name : Str} {id vc : String} {B : Builtin} {yl : List (List Key × V) → Nat → Hp → V → Hp → Prop} {itO : Addr → Nat → Nat → Obj} (slot : Slot "dict" name id) (ty : typeOf (.builtin id) = pure (.type "method_descriptor")) (entry : entryFor table id = some B) (args : ∀ d, argsOk id ⟨[.ref d], []⟩)
    (meets : ∀ d : Addr, (d == sysModules) = false → MeetsIn X.prog X.w (B ⟨[.ref d], []⟩) (fun _ R s => (∃ es ep, s.heap.DictRaw d es ep) ∧ R (.ok (.ret (.ref s.heap.objs.size))) { s with heap := s.heap.push { cls := .type vc, data := .fields #[.ref d] } }))
    (iter : ∀ (s : Shared) (v d : Addr) (es : Array DictEntry) (ep : Nat) (Q : Value → Shared → Prop), s.heap.get? v = some { cls := .type vc, data := .fields #[.ref d] } → s.heap.DictRaw d es ep → Q (.ref s.heap.objs.size) { s with heap := s.heap.push (itO d es.size ep) } → wpAny (model X.prog X.w) X.A (pyIter (.ref v)) Q X.xe s)
    (turn : ∀ (d it : Addr) (o : Obj) (es : Array DictEntry) (ep : Nat) (kvs : List (List Key × V)), o.data = .dict es ep → d ≠ it → ∃ tn, Turn X.prog X.w X.K tg (ItF d o kvs (yl kvs)) [it] it tn ∧ ∀ h : Heap, h.objs.size = it → tn 0 (h.push (itO d es.size ep)))
    (he : PE X e td) (hbase : attributeBase e name X.env (eval e X.env) = eval e X.env) (hline : (apos.endLine == cpos.line) = true) : PI X tg (.Call (.Attribute e name apos) [] [] cpos) (iFrz td yl) := by
  constructor
  intro pins s σ H R I h
  refine wpAny_Call_method hbase rfl hline F.plainAttrs_dict slot ty (thn (he.run pins s σ H _ I h) fun u s1 h1 => ?_)
  obtain ⟨x, H1, I1, ru, d, o, kvs, rfl, hd, hR⟩ := h1
  have eu : u = .ref d := ru
  subst eu
  obtain ⟨sys, es, ep, hod, raw, ents⟩ := frozen_at I1 hd
  have low : d < s1.heap.objs.size := let ⟨_, e, _⟩ := raw; Heap.lt_size e
  refine ⟨raw.typeIs, fun a e => ?_, method_meetsIn slot entry rfl (PySem.evalArgs_none ⟨rfl, raw.typeIs, args d, _, meets d sys, ⟨es, ep, raw⟩, ?_⟩)⟩
  · cases e
    obtain ⟨ob, e, ex, _⟩ := raw
    exact ⟨ob, e, ex.2.1⟩
  have I2 : Inv X pins σ H1 { s1 with heap := s1.heap.push { cls := .type vc, data := .fields #[.ref d] } } := I1.kept (t' := s1.toks) fun b ob q => Heap.get?_push_of_some _ q
  obtain ⟨tn, T, start⟩ := turn d (s1.heap.push { cls := .type vc, data := .fields #[.ref d] }).objs.size o es ep kvs hod (Nat.ne_of_lt (by rw [Heap.size_push]; exact Nat.lt_succ_of_lt low))
  refine iter _ s1.heap.objs.size d es ep _ (Heap.get?_push_size _ rfl) (raw.at fun ob e => Heap.get?_push_of_some _ e) (pi_one (tk := s1.toks) I2 _ T (start _ rfl) hR)
section
variable {X : Cx} {tg e : Expr} {td : TE} {apos cpos : Pos}
theorem pi_frzVals (he : PE X e td) (hbase : attributeBase e "values" X.env (eval e X.env) = eval e X.env := by rfl) (hline : (apos.endLine == cpos.line) = true := by rfl) : PI X tg (.Call (.Attribute e "values" apos) [] [] cpos) (iFrz td yVal) :=
  pi_view (vc := "dict_values") (itO := fun d n ep => { cls := .type "dict_valueiterator", data := .fields #[.ref d, .int 0 0, .int n 0, .int ep 0] }) F.slot_dict_values F.type_dict_values F.entry_dict_values (fun d => F.args_dict_values_1 _) meets_dict_values_raw (fun s v d es ep Q hv raw q => wpAny_pyIter_values_raw ⟨_, hv, rfl, rfl⟩ raw q)
    (fun d it o es ep kvs hod hne => ⟨(fun i h => h.IsValIter it d i es.size ep), turn_vals hod rfl hne, fun h g => by subst g; exact ⟨_, Heap.get?_push_size _ rfl, rfl, rfl⟩⟩) he hbase hline
theorem pi_frzItems {elts : List Expr} {kk : Nat} {tpos : Pos} (he : PE X e td) (hbase : attributeBase e "items" X.env (eval e X.env) = eval e X.env := by rfl) (hline : (apos.endLine == cpos.line) = true := by rfl) : PI X (.Tuple elts kk tpos) (.Call (.Attribute e "items" apos) [] [] cpos) (iFrz td yPair) :=
  pi_view (vc := "dict_items") (itO := fun d n ep => { cls := .type "dict_itemiterator", data := .fields #[.none, .bool false, .ref d, .int 0 0, .int n 0, .int ep 0, .none, .none] }) F.slot_dict_items F.type_dict_items F.entry_dict_items (fun d => F.args_dict_items_1 _) meets_dict_items_raw (fun s v d es ep Q hv raw q => wpAny_pyIter_items_raw ⟨_, hv, rfl, rfl⟩ raw q)
    (fun d it o es ep kvs hod hne => ⟨(fun i h => ∃ ok ov, IsItemIter h it d i es.size ep ok ov), turn_pairs hod rfl hne, fun h g => by subst g; exact ⟨.none, .none, Heap.get?_push_size _ rfl⟩⟩) he hbase hline
end
/-- {k: v}, the key a tuple: the dict is laid first, then key and value -/
def tDisp1 (tk tv : TE) : TE := fun σ H Q => ∀ p, H p = none → tk σ (upd H p (.dT [])) fun x H1 => tv σ H1 fun y H2 => H2 p = some (.dT []) ∧ ∃ (k : List Key) (b : Addr), x = .ref b ∧ H2 b = some (.tup (k.map kV)) ∧ Q (.ref p) (upd H2 p (.dT [(k, y)]))
theorem pe_disp1T {X : Cx} {ke ve : Expr} {pos : Pos} {tk tv : TE} (hu : X.A.units < cLine) (hk : PE X ke tk) (hv : PE X ve tv) : PE X (.Dict [some ke] [ve] pos) (tDisp1 tk tv) := by
  constructor
  intro pins s σ H Q I h
  have one := pairTrees_length [some ke] [ve] X.env pos rfl rfl
  have some_ : pairTrees [some ke] [ve] X.env pos ≠ [] := fun e => by rw [e] at one; cases one
  rw [arm_eval_Dict, zip_pairTrees [some ke] [ve] X.env pos rfl rfl, dictDisplay_pairs _ some_ (by rw [one]; exact Nat.lt_of_lt_of_le (Nat.lt_succ_self 1) (by decide))]
  have laid := I.laid (o := .dT []) (h' := s.heap.push { cls := .type "dict", data := .dict #[] }) (t' := s.toks) (fun b u q => Heap.get?_push_of_some _ q) (Nat.le_refl _) (dt_empty s.heap I.big)
  refine wpAny_bind (wpAny_standAt (wpAny_bind (wpAny_subDictH (knd := tupleKind (mixKind X.prog X.w)) (Q := fun d s' => wpAny (model X.prog X.w) X.A (pure (Value.ref d)) (EP X pins σ Q) X.xe s') hu (by rw [one]; exact Nat.le_of_ble_eq_true rfl) (pairTrees_cons_walk (thn (hk.run pins _ σ _ _ laid (h _ (I.hok.fresh (Nat.le_refl _)))) fun u s1 h1 => ?_)))))
  obtain ⟨x, H1, I1, ru, h1⟩ := h1
  refine thn (hv.run pins s1 σ H1 _ I1 h1) fun r s2 h2 => pairTrees_nil_walk ?_
  obtain ⟨y, H2, I2, rr, empty, k, b, rfl, hb, q⟩ := h2
  have eu : u = .ref b := ru
  subst eu
  obtain ⟨_, sys, ents, rel, none_⟩ := dt_of I2.hok empty
  cases rel
  refine ⟨[(k, b, r)], ⟨rfl, rfl, key_of I2.hok hb, trivial⟩, none_, fun h' tk' d2 keep => wpAny_pure ⟨.ref _, _, ?_, rfl, q⟩⟩
  obtain ⟨o2, es, ep, get2, p1, p2, p3, _, p4⟩ := d2
  have apart : b ≠ s.heap.objs.size := fun z => by rw [z, empty] at hb; cases hb
  exact d_write I2 (by rw [empty]; trivial) keep ⟨o2, get2⟩ ⟨by show 1 ≤ sizeLine; rw [sizeLine_eq]; decide, sys, _, Paired.cons (a := (k, y)) (b := (k, b, r)) ⟨rfl, (upd_ne apart).trans hb, rr⟩ Paired.nil, o2, es, ep, get2, p1, p2, p3, p4⟩
end Bb
end
section
set_option maxRecDepth 100000
set_option maxHeartbeats 4000000
/-! B8: dicts by data. -/
namespace Bb
open PySem PySem.Spec PyProof.Rows L2
open Evl (Ex)

/-! ### tables -/
def putA {α : Type} (l : List (List Int × α)) (k : List Int) (v : α) : List (List Int × α) :=
  if (l.any fun p => decide (p.1 = k)) = true then l.map (fun p => if p.1 = k then (p.1, v) else p) else l ++ [(k, v)]
def getA {α : Type} (l : List (List Int × α)) (k : List Int) : Option α := (l.find? fun p => decide (p.1 = k)).map (·.2)
def inK (k : List Int) : List Key := k.map Sum.inl
theorem inK_inj {a b : List Int} (h : inK a = inK b) : a = b := List.map_inj_right (fun x y e => Sum.inl.inj e) |>.mp h
theorem inK_V (k : List Int) : (inK k).map kV = k.map V.int := kk_kV k
section
variable {α β : Type}
theorem getA_nil {k : List Int} : getA ([] : List (List Int × α)) k = none := rfl
theorem getA_cons {p : List Int × α} {l : List (List Int × α)} {k : List Int} : getA (p :: l) k = if p.1 = k then some p.2 else getA l k := by
  unfold getA
  rw [List.find?_cons]
  by_cases h : p.1 = k
  · simp [h]
  · simp [h]
theorem getA_any {l : List (List Int × α)} {k : List Int} : (l.any fun p => decide (p.1 = k)) = (getA l k).isSome := by
  induction l with
  | nil => rfl
  | cons p l ih =>
    rw [getA_cons, List.any_cons, ih]
    by_cases h : p.1 = k <;> simp [h]
theorem getA_mem {l : List (List Int × α)} {k : List Int} {v : α} (h : getA l k = some v) : (k, v) ∈ l := by
  induction l with
  | nil => cases h
  | cons p l ih =>
    rw [getA_cons] at h
    split at h
    · rename_i e
      cases h; subst e
      exact List.mem_cons_self
    · exact List.mem_cons_of_mem _ (ih h)
theorem getA_none {l : List (List Int × α)} {k : List Int} : getA l k = none ↔ k ∉ l.map (·.1) := by
  induction l with
  | nil => simp [getA_nil]
  | cons p l ih =>
    rw [getA_cons]
    by_cases h : p.1 = k
    · simp [h]
    · rw [if_neg h, ih]
      simp [Ne.symm h, eq_comm]
theorem putA_new {l : List (List Int × α)} {k : List Int} {v : α} (h : k ∉ l.map (·.1)) : putA l k v = l ++ [(k, v)] := by
  unfold putA
  rw [getA_any, getA_none.mpr h]; rfl
theorem getA_rep {l : List (List Int × α)} {k j : List Int} {v : α} : getA (l.map fun p => if p.1 = k then (p.1, v) else p) j = (getA l j).map fun x => if j = k then v else x := by
  induction l with
  | nil => rfl
  | cons p l ih =>
    rw [List.map_cons, getA_cons, getA_cons, ih]
    by_cases h : p.1 = k <;> by_cases e : p.1 = j
    · subst e; simp [h]
    · have e2 : ¬ k = j := fun z => e (h.trans z)
      simp [h, e2]
    · subst e; simp [h]
    · simp [h, e]
theorem getA_snoc {l : List (List Int × α)} {k j : List Int} {v : α} : getA (l ++ [(k, v)]) j = (getA l j).or (if k = j then some v else none) := by
  induction l with
  | nil => rw [List.nil_append, getA_cons, getA_nil]; rfl
  | cons p l ih =>
    rw [List.cons_append, getA_cons, getA_cons, ih]
    split <;> rfl
theorem getA_put {l : List (List Int × α)} {k j : List Int} {v : α} : getA (putA l k v) j = if j = k then some v else getA l j := by
  unfold putA
  rw [getA_any]
  cases h : getA l k with
  | none =>
    simp only [Option.isSome_none, Bool.false_eq_true, if_false, getA_snoc]
    by_cases e : j = k
    · subst e; rw [h]; simp
    · rw [if_neg e, if_neg (Ne.symm e)]; cases getA l j <;> rfl
  | some x =>
    simp only [Option.isSome_some, if_true, getA_rep]
    by_cases e : j = k
    · subst e; rw [h]; simp
    · simp [e]
theorem putA_map {f : α → β} {l : List (List Int × α)} {k : List Int} {v : α} : putA (l.map fun p => (p.1, f p.2)) k (f v) = (putA l k v).map fun p => (p.1, f p.2) := by
  unfold putA
  have e : ((l.map fun p => (p.1, f p.2)).any fun p => decide (p.1 = k)) = l.any fun p => decide (p.1 = k) := by rw [List.any_map]; rfl
  rw [e]
  split
  · rw [List.map_map, List.map_map]
    apply List.map_congr_left
    intro p _
    by_cases h : p.1 = k <;> simp [h]
  · simp
theorem getA_map {f : α → β} {l : List (List Int × α)} {k : List Int} : getA (l.map fun p => (p.1, f p.2)) k = (getA l k).map f := by
  induction l with
  | nil => rfl
  | cons p l ih => rw [List.map_cons, getA_cons, getA_cons, ih]; split <;> rfl
theorem putA_len {l : List (List Int × α)} {k : List Int} {v : α} : (putA l k v).length ≤ l.length + 1 := by
  unfold putA
  split <;> simp
theorem putA_keys {l : List (List Int × α)} {k : List Int} {v : α} : ∀ j, j ∈ (putA l k v).map (·.1) ↔ j ∈ l.map (·.1) ∨ j = k := by
  intro j
  have h1 := @getA_none α (putA l k v) j
  have h2 := @getA_none α l j
  rw [getA_put] at h1
  by_cases e : j = k
  · subst e
    rw [if_pos rfl] at h1
    constructor
    · exact fun _ => .inr rfl
    · intro _
      by_cases m : j ∈ (putA l j v).map (·.1)
      · exact m
      · exact absurd (h1.mpr m) (by simp)
  · rw [if_neg e, h2] at h1
    have := not_congr h1
    simp only [Classical.not_not] at this
    rw [← this]; simp [e]
theorem putA_nodup {l : List (List Int × α)} {k : List Int} {v : α} (h : (l.map (·.1)).Nodup) : ((putA l k v).map (·.1)).Nodup := by
  by_cases m : k ∈ l.map (·.1)
  · unfold putA
    rw [getA_any]
    have hs : (getA l k).isSome = true := by
      cases q : getA l k with
      | none => exact absurd m (getA_none.mp q)
      | some _ => rfl
    rw [hs, if_pos rfl, List.map_map]
    have e : (l.map ((fun p : List Int × α => p.1) ∘ fun p => if p.1 = k then (p.1, v) else p)) = l.map (·.1) := by
      apply List.map_congr_left
      intro p _
      show (if p.1 = k then (p.1, v) else p).1 = p.1
      split <;> rfl
    rw [e]; exact h
  · rw [putA_new m, List.map_append]
    refine List.nodup_append.mpr ⟨h, by simp, ?_⟩
    intro a ha b hb
    simp at hb
    subst hb
    rintro rfl
    exact m ha
end
abbrev Tb := List (List Int × D)
/-- the raw table stands for the table -/
def TbR (S : Hp) (l : Tb) (hv : List (List Key × V)) : Prop := hv.map (·.1) = kk (l.map (·.1)) ∧ RpL S (l.map (·.2)) (hv.map (·.2))
abbrev oT (l : Tb) : Av := .od (l.map (·.1)) (l.map (·.2))
abbrev dT (l : Tb) : D := .dic (l.map (·.1)) (l.map (·.2))
section
variable {S S1 : Hp}
theorem TbR.nil : TbR S [] [] := ⟨rfl, .nil⟩
theorem TbR.nil_inv {hv : List (List Key × V)} (h : TbR S [] hv) : hv = [] := by
  have := h.1
  cases hv with
  | nil => rfl
  | cons p r => simp [kk] at this
theorem TbR.inv {p : List Int × D} {l : Tb} {hv : List (List Key × V)} (h : TbR S (p :: l) hv) : ∃ v r, hv = (inK p.1, v) :: r ∧ Rp S p.2 v ∧ TbR S l r := by
  obtain ⟨h1, h2⟩ := h
  cases hv with
  | nil => simp [kk] at h1
  | cons q r =>
    simp only [List.map_cons, kk, List.cons.injEq] at h1
    simp only [List.map_cons, RpL] at h2
    obtain ⟨v, r', e, h3, h4⟩ := h2
    obtain ⟨e1, e2⟩ := List.cons.inj e
    refine ⟨v, r, ?_, h3, ⟨h1.2, by rw [e2]; exact h4⟩⟩
    obtain ⟨a, b⟩ := q
    have ea : a = inK p.1 := h1.1
    have eb : b = v := e1
    rw [ea, eb]
theorem TbR.cons {p : List Int × D} {l : Tb} {v : V} {r : List (List Key × V)} (h : Rp S p.2 v) (t : TbR S l r) : TbR S (p :: l) ((inK p.1, v) :: r) :=
  ⟨by show inK p.1 :: r.map (·.1) = inK p.1 :: kk (l.map (·.1)); rw [t.1], .cons h t.2⟩
theorem TbR.get {l : Tb} : ∀ {hv : List (List Key × V)}, TbR S l hv → ∀ {k : List Int} {d : D}, getA l k = some d → ∃ v, valV hv (inK k) = some v ∧ Rp S d v := by
  induction l with
  | nil => intro hv h k d e; cases e
  | cons p l ih =>
    intro hv h k d e
    obtain ⟨v, r, rfl, h1, h2⟩ := h.inv
    rw [getA_cons] at e
    by_cases q : p.1 = k
    · rw [if_pos q] at e
      cases e
      exact ⟨v, valV_pos (p := (inK p.1, v)) (by rw [q]), h1⟩
    · rw [if_neg q] at e
      obtain ⟨w, h3, h4⟩ := ih h2 e
      exact ⟨w, by rw [valV_neg (p := (inK p.1, v)) (fun z => q (inK_inj z))]; exact h3, h4⟩
theorem TbR.get0 {l : Tb} : ∀ {hv : List (List Key × V)}, TbR S l hv → ∀ {k : List Int}, getA l k = none → valV hv (inK k) = none := by
  induction l with
  | nil => intro hv h k e; rw [h.nil_inv]; rfl
  | cons p l ih =>
    intro hv h k e
    obtain ⟨v, r, rfl, h1, h2⟩ := h.inv
    rw [getA_cons] at e
    by_cases q : p.1 = k
    · rw [if_pos q] at e; cases e
    · rw [if_neg q] at e
      rw [valV_neg (p := (inK p.1, v)) (fun z => q (inK_inj z))]
      exact ih h2 e
theorem TbR.some_ {l : Tb} {hv : List (List Key × V)} (h : TbR S l hv) {k : List Int} : (valV hv (inK k)).isSome = (getA l k).isSome := by
  cases q : getA l k with
  | none => rw [h.get0 q]; rfl
  | some d => obtain ⟨v, e, _⟩ := h.get q; rw [e]; rfl
theorem TbR.snoc {l : Tb} {k : List Int} {d : D} {v : V} : ∀ {hv : List (List Key × V)}, TbR S l hv → Rp S d v → TbR S (l ++ [(k, d)]) (hv ++ [(inK k, v)]) := by
  induction l with
  | nil => intro hv h r; rw [h.nil_inv]; exact .cons (p := (k, d)) r .nil
  | cons p l ih =>
    intro hv h r
    obtain ⟨w, t, rfl, h1, h2⟩ := h.inv
    exact .cons h1 (ih h2 r)
theorem TbR.rep {l : Tb} {k : List Int} {d : D} {v : V} : ∀ {hv : List (List Key × V)}, TbR S l hv → Rp S d v → TbR S (l.map fun p => if p.1 = k then (p.1, d) else p) (hv.map fun p => if p.1 = inK k then (p.1, v) else p) := by
  induction l with
  | nil => intro hv h r; rw [h.nil_inv]; exact .nil
  | cons p l ih =>
    intro hv h r
    obtain ⟨w, t, rfl, h1, h2⟩ := h.inv
    rw [List.map_cons, List.map_cons]
    by_cases q : p.1 = k
    · rw [if_pos q, if_pos (by show inK p.1 = inK k; rw [q])]
      exact .cons (p := (p.1, d)) r (ih h2 r)
    · rw [if_neg q, if_neg (fun z => q (inK_inj z))]
      exact .cons h1 (ih h2 r)
theorem TbR.put {l : Tb} {k : List Int} {d : D} {v : V} {hv : List (List Key × V)} (h : TbR S l hv) (r : Rp S d v) : TbR S (putA l k d) (putK hv (inK k) v) := by
  unfold putA putK
  have e : (hv.any fun p => decide (p.1 = inK k)) = l.any fun p => decide (p.1 = k) := by rw [valV_any, getA_any, h.some_]
  rw [e]
  split
  · exact h.rep r
  · exact h.snoc r
theorem TbR.mono {l : Tb} {hv : List (List Key × V)} (h : TbR S l hv) (e : Ex S S1) : TbR S1 l hv := ⟨h.1, h.2.mono e⟩
theorem TbR.len {l : Tb} {hv : List (List Key × V)} (h : TbR S l hv) : l.length = hv.length := by
  have := h.2.len
  simpa using this
theorem TbR.at_ {l : Tb} : ∀ {hv : List (List Key × V)}, TbR S l hv → ∀ {i : Nat} {p : List Int × D}, l[i]? = some p → ∃ v, hv[i]? = some (inK p.1, v) ∧ Rp S p.2 v := by
  induction l with
  | nil => intro hv h i p e; simp at e
  | cons q l ih =>
    intro hv h i p e
    obtain ⟨w, t, rfl, h1, h2⟩ := h.inv
    cases i with
    | zero => have e : q = p := by simpa using e
              subst e; exact ⟨w, rfl, h1⟩
    | succ i => exact ih h2 (by simpa using e)
end

section
variable {X : Cx} {Δ : Dl} {e a b c : Expr} {es : List Expr} {pos p : Pos} {d x y z : D} {av : Av} {l : Tb} {k : List Int}
theorem key_at {S H : Hp} {v : V} (e : Sb S H) (r : Rp S (tI k) v) : ∃ q, v = .ref q ∧ H q = some (.tup ((inK k).map kV)) := by
  obtain ⟨q, rfl, f⟩ := r.tI
  exact ⟨q, rfl, by rw [inK_V]; exact e _ _ f⟩
/-- {} -/
theorem ev_dnew : Ev X Δ (.Dict [] [] pos) (oT []) := fun S0 H0 S H σ A Q k => WE.of pe_dnewT fun q hq => k q [] S _ (.hid A.sub hq) hq (A.sub.back hq) upd_same rfl .nil
/-- {k: v} -/
theorem ev_disp1 (ha : Ed X Δ a (tI k)) (hb : Ed X Δ b d) (hu : X.A.units + 64 < cLine) : Ev X Δ (.Dict [some a] [b] pos) (oT [(k, d)]) := by
  intro S0 H0 S H σ A Q kq
  refine WE.of (pe_disp1T (by omega) WE.pe WE.pe) fun q hq => ?_
  have l0 : Le S H S (upd H q (.dT [])) := .hid A.sub hq
  have hs := A.sub.back hq
  refine ha S0 H0 S _ σ (A.mono l0) _ fun u S1 H1 l1 r1 => ?_
  refine hb S0 H0 S1 H1 σ (A.mono (l0.trans l1)) _ fun v S2 H2 l2 r2 => ?_
  obtain ⟨g1, g2⟩ := (l1.trans l2).hidden hs upd_same
  obtain ⟨w, rfl, hw⟩ := key_at l2.sub (r1.mono l2.s)
  exact ⟨g2, inK k, w, rfl, hw, kq q _ S2 _ ((l0.trans (l1.trans l2)).mut hq g1) hq g1 upd_same rfl (.cons r2 .nil)⟩
theorem ed_dget (ha : Ed X Δ a (dT l)) (hb : Ed X Δ b (tI k)) (h : getA l k = some d) (hu : X.A.units + 64 < cLine) (hs : NoSl b := by intro _ _; rfl) : Ed X Δ (.Subscript a b pos) d := by
  intro S0 H0 S H σ A Q kq
  refine WE.of (pe_dget (by omega) WE.pe WE.pe hs) ?_
  refine ha S0 H0 S H σ A _ fun u S1 H1 l1 r1 => ?_
  refine hb S0 H0 S1 H1 σ (A.mono l1) _ fun v S2 H2 l2 r2 => ?_
  obtain ⟨p, od, hv, rfl, g1, g2⟩ := Rp.dic.mp (r1.mono l2.s)
  obtain ⟨w, rfl, hw⟩ := key_at l2.sub r2
  obtain ⟨y, hy, ry⟩ := TbR.get (S := S2) (l := l) g2 h
  exact ⟨p, y, rfl, .inr ⟨hv, inK k, w, .inr ⟨od, l2.sub _ _ g1⟩, rfl, hw, hy.symm⟩, kq y S2 H2 (l1.trans l2) ry⟩
theorem ed_dgetO (i : Nat) {x : Str} {p' : Pos} (ha : Δ[i]? = some (some (oT l))) (hb : Ed X Δ b (tI k)) (h : getA l k = some d) (hu : X.A.units + 64 < cLine) (hN : X.N[i]? = some x := by rfl)
    (hv : Vis X.env.scope x := by first | exact Or.inl rfl | exact Or.inr (Or.inl rfl) | exact Or.inr (Or.inr rfl)) (hdb : (x == ("__debug__" : Str)) = false := by decide) (hcd : (x == ("__classdict__" : Str)) = false := by decide) (hs : NoSl b := by intro _ _; rfl) : Ed X Δ (.Subscript (.Name x p') b pos) d := by
  intro S0 H0 S H σ A Q kq
  refine WE.of (pe_dget (by omega) (pe_var hN hv hdb hcd) WE.pe hs) ?_
  obtain ⟨v, h1, h2⟩ := A.sl i _ ha
  obtain ⟨q, hv, rfl, g1, g2, g3, g4⟩ := h2
  refine ⟨_, h1, ?_⟩
  refine hb S0 H0 S H σ A _ fun u S1 H1 l1 r1 => ?_
  obtain ⟨f2, f3⟩ := l1.hidden g2 g3
  obtain ⟨w, rfl, hw⟩ := key_at l1.sub r1
  obtain ⟨y, hy, ry⟩ := TbR.get (S := S) (l := l) g4 h
  exact ⟨q, y, rfl, .inr ⟨hv, inK k, w, .inl f3, rfl, hw, hy.symm⟩, kq y S1 H1 l1 (ry.mono l1.s)⟩
/-- d[k] = e, d owned -/
theorem go_dput {S0 H0 : Hp} {Z : Ends} {rest : List Stmt} (i : Nat) {x : Str} {tp : Pos} (ha : Δ[i]? = some (some (oT l))) (he : Ed X Δ e d) (hk : Ed X Δ b (tI k)) (hz : l.length < 1000000) (hu : X.A.units + 64 < cLine) (kk : Go X S0 H0 Z rest (Δ.set i (some (oT (putA l k d)))))
    (hN : X.N[i]? = some x := by rfl) (hv : Vis X.env.scope x := by first | exact Or.inl rfl | exact Or.inr (Or.inl rfl) | exact Or.inr (Or.inr rfl)) (hdb : (x == ("__debug__" : Str)) = false := by decide) (hcd : (x == ("__classdict__" : Str)) = false := by decide)
    (hs : swapsWith e (some (.Subscript (.Name x p) b tp)) pos.line X.env = pure false := by rfl) : Go X S0 H0 Z (.Assign [.Subscript (.Name x p) b tp] e pos :: rest) Δ :=
  go_cons fun S H σ A => WS.of (ps_dput (by omega) (pe_var hN hv hdb hcd) WE.pe WE.pe hs) (by
    refine he S0 H0 S H σ A _ fun y S1 H1 l1 r1 => ?_
    have A1 := A.mono l1
    obtain ⟨v, h1, h2⟩ := A1.sl i _ ha
    obtain ⟨q, hv, rfl, g1, g2, g3, g4⟩ := h2
    refine ⟨_, h1, ?_⟩
    refine hk S0 H0 S1 H1 σ A1 _ fun z S2 H2 l2 r2 => ?_
    obtain ⟨f2, f3⟩ := l2.hidden g2 g3
    obtain ⟨w, rfl, hw⟩ := key_at l2.sub r2
    have hl := TbR.len (S := S1) (l := l) g4
    refine ⟨q, _, rfl, DPut.t f3 hw (by rw [← hl, sizeLine_eq]; omega), ?_⟩
    have t : TbR S2 (putA l k d) (putK hv (inK k) y) := TbR.put (TbR.mono (S := S1) g4 l2.s) (r1.mono l2.s)
    exact kk S2 _ σ ((A1.mono l2).mut ha rfl h1 f2 g1 (b := oT (putA l k d)) ⟨q, _, rfl, g1, f2, upd_same, t.1, t.2⟩ rfl))
/-- k in d -/
theorem ed_din (ha : Ed X Δ a (tI k)) (hb : Ed X Δ b (dT l)) (hu : X.A.units + 64 < cLine) (hm : behindInMarks .In b = false := by rfl) : Ed X Δ (.Compare a [.In] [b] pos) (.bl (getA l k).isSome) := by
  intro S0 H0 S H σ A Q kq
  refine WE.of (pe_cmp (pc_din (by omega) WE.pe WE.pe) hm) ?_
  refine ha S0 H0 S H σ A _ fun u S1 H1 l1 r1 => ?_
  refine hb S0 H0 S1 H1 σ (A.mono l1) _ fun v S2 H2 l2 r2 => ?_
  obtain ⟨p, od, hv, rfl, g1, g2⟩ := Rp.dic.mp r2
  obtain ⟨w, rfl, hw⟩ := key_at l2.sub (r1.mono l2.s)
  refine ⟨p, valV hv (inK k), rfl, .inr ⟨hv, inK k, w, .inr ⟨od, l2.sub _ _ g1⟩, rfl, hw, rfl⟩, kq _ S2 H2 (l1.trans l2) (Rp.bl.mpr ?_)⟩
  rw [TbR.some_ (S := S2) (l := l) g2]
/-! ### memos -/
theorem MemOk.get {S : Hp} {hv : List (List Key × V)} (m : MemOk S hv) {k : List Int} {v : V} (h : valV hv (inK k) = some v) : Rp S (dI (tallyL k)) v := by
  obtain ⟨l, h1, h2, h3, _⟩ := m
  have t : TbR S (l.map fun p => (p.1, dI p.2)) hv := ⟨by rw [h1, List.map_map]; rfl, by rw [List.map_map]; exact h2⟩
  cases q : getA (l.map fun p => (p.1, dI p.2)) k with
  | none => rw [t.get0 q] at h; cases h
  | some d =>
    obtain ⟨w, h4, h5⟩ := t.get q
    rw [h] at h4
    cases h4
    rw [getA_map] at q
    obtain ⟨r, hr, rfl⟩ := Option.map_eq_some_iff.mp q
    have := (h3 _ (getA_mem hr)).1
    simp only at this
    rw [← this]; exact h5
theorem MemOk.put {S : Hp} {hv : List (List Key × V)} (m : MemOk S hv) {k : List Int} {v : V} (h : Rp S (dI (tallyL k)) v) (hg : Good k) : MemOk S (putK hv (inK k) v) := by
  obtain ⟨l, h1, h2, h3, h4⟩ := m
  have t : TbR S (l.map fun p => (p.1, dI p.2)) hv := ⟨by rw [h1, List.map_map]; rfl, by rw [List.map_map]; exact h2⟩
  have t2 : TbR S (putA (l.map fun p => (p.1, dI p.2)) k (dI (tallyL k))) (putK hv (inK k) v) := t.put h
  rw [putA_map] at t2
  refine ⟨putA l k (tallyL k), by rw [t2.1, List.map_map]; rfl, by have := t2.2; rw [List.map_map] at this; exact this, fun p hp => ?_, putA_nodup h4⟩
  unfold putA at hp
  split at hp
  · obtain ⟨q, hq, rfl⟩ := List.mem_map.mp hp
    split
    · rename_i e; exact ⟨by show tallyL k = tallyL q.1; rw [e], by show Good q.1; rw [e]; exact hg⟩
    · exact h3 q hq
  · rcases List.mem_append.mp hp with hp | hp
    · exact h3 p hp
    · simp at hp; subst hp; exact ⟨rfl, hg⟩
theorem MemOk.nil {S : Hp} : MemOk S [] := ⟨[], rfl, .nil, by simp, List.nodup_nil⟩
theorem MemOk.len {S : Hp} {hv : List (List Key × V)} (m : MemOk S hv) : hv.length ≤ 40000 := by
  obtain ⟨l, h1, h2, h3, h4⟩ := m
  have e : hv.length = (l.map (·.1)).length := by
    have := congrArg List.length h1
    simpa [kk] using this
  rw [e]
  exact few h4 fun k hk => by
    obtain ⟨p, hp, rfl⟩ := List.mem_map.mp hk
    exact (h3 p hp).2
/-- {} as a memo -/
theorem ed_mnew : Ed X Δ (.Dict [] [] pos) .mem := fun S0 H0 S H σ A Q k => WE.of pe_dnewT fun q hq =>
  k _ (upd S q (.own 0)) _ ((Le.hid A.sub hq).showM hq (A.sub.back hq) upd_same .nil) (Rp.mem.mpr ⟨q, rfl, upd_same⟩)
section
variable {S0 H0 : Hp} {Z : Ends} {rest : List Stmt}
/-- if k in m: return m[k] -/
theorem go_ifMem (i j : Nat) {x y : Str} {p1 p2 p3 p4 pc ps pr : Pos} (ha : Δ[i]? = some (some (.sh (tI k)))) (hb : Δ[j]? = some (some (.sh .mem))) (hu : X.A.units + 64 < cLine)
    (kr : Post S0 H0 (.sh (dI (tallyL k))) Z.rt) (h2 : Go X S0 H0 Z rest Δ) (hN : X.N[i]? = some x := by rfl) (hN2 : X.N[j]? = some y := by rfl)
    (hv : Vis X.env.scope x := by first | exact Or.inl rfl | exact Or.inr (Or.inl rfl) | exact Or.inr (Or.inr rfl)) (hdb : (x == ("__debug__" : Str)) = false := by decide) (hcd : (x == ("__classdict__" : Str)) = false := by decide)
    (hv2 : Vis X.env.scope y := by first | exact Or.inl rfl | exact Or.inr (Or.inl rfl) | exact Or.inr (Or.inr rfl)) (hdb2 : (y == ("__debug__" : Str)) = false := by decide) (hcd2 : (y == ("__classdict__" : Str)) = false := by decide) (hm : behindInMarks .In (.Name y p2) = false := by rfl) :
    Go X S0 H0 Z (.If (.Compare (.Name x p1) [.In] [.Name y p2] pc) [.Return (some (.Subscript (.Name y p3) (.Name x p4) ps)) pr] [] pos :: rest) Δ :=
  go_cons fun S H σ A => WS.of (ps_if (pt_cmp (pc_din (by omega) (pe_var hN hv hdb hcd) (pe_var hN2 hv2 hdb2 hcd2)) hm) WSs.pss WSs.pss) (by
    obtain ⟨v, g1, g2⟩ := A.get ha
    obtain ⟨u, f1, f2⟩ := A.get hb
    obtain ⟨q, rfl, f3⟩ := Rp.mem.mp f2
    obtain ⟨ht, f4, m⟩ := A.sub.mem q 0 f3
    obtain ⟨w, rfl, hw⟩ := key_at A.sub g2
    refine ⟨_, g1, _, f1, q, valV ht (inK k), rfl, .inr ⟨ht, inK k, w, .inl f4, rfl, hw, rfl⟩, _, rfl, ?_⟩
    cases e : valV ht (inK k) with
    | none => exact iteF (WSs.of pss_nil (h2 S H σ A))
    | some y =>
      refine iteT (WSs.of (pss_cons (ps_ret (pe_dget (by omega) (pe_var hN2 hv2 hdb2 hcd2) (pe_var hN hv hdb hcd) (by intro _ _; rfl))) pss_nil) ?_)
      exact ⟨_, f1, _, g1, q, y, rfl, .inr ⟨ht, inK k, w, .inl f4, rfl, hw, e.symm⟩, kr y S H A.le (m.get e)⟩)
/-- m[k] = e -/
theorem go_mput (i : Nat) {x : Str} {tp : Pos} (ha : Δ[i]? = some (some (.sh .mem))) (he : Ed X Δ e (dI (tallyL k))) (hk : Ed X Δ b (tI k)) (hg : Good k) (hu : X.A.units + 64 < cLine) (kk : Go X S0 H0 Z rest Δ)
    (hN : X.N[i]? = some x := by rfl) (hv : Vis X.env.scope x := by first | exact Or.inl rfl | exact Or.inr (Or.inl rfl) | exact Or.inr (Or.inr rfl)) (hdb : (x == ("__debug__" : Str)) = false := by decide) (hcd : (x == ("__classdict__" : Str)) = false := by decide)
    (hs : swapsWith e (some (.Subscript (.Name x p) b tp)) pos.line X.env = pure false := by rfl) : Go X S0 H0 Z (.Assign [.Subscript (.Name x p) b tp] e pos :: rest) Δ :=
  go_cons fun S H σ A => WS.of (ps_dput (by omega) (pe_var hN hv hdb hcd) WE.pe WE.pe hs) (by
    refine he S0 H0 S H σ A _ fun y S1 H1 l1 r1 => ?_
    have A1 := A.mono l1
    obtain ⟨v, h1, h2⟩ := A1.get ha
    obtain ⟨q, rfl, f3⟩ := Rp.mem.mp h2
    refine ⟨_, h1, ?_⟩
    refine hk S0 H0 S1 H1 σ A1 _ fun z S2 H2 l2 r2 => ?_
    have f3' := l2.s _ _ f3
    obtain ⟨ht, f4, m⟩ := l2.sub.mem q 0 f3'
    obtain ⟨w, rfl, hw⟩ := key_at l2.sub r2
    refine ⟨q, _, rfl, DPut.t f4 hw (by have := m.len; rw [sizeLine_eq]; omega), ?_⟩
    exact kk S2 _ σ ((A1.mono l2).mono (.memo l2.sub f3' (m.put (r1.mono l2.s) hg))))
end
end
end Bb
end
section
set_option maxRecDepth 100000
set_option maxHeartbeats 4000000
/-! B9: dicts walked, dict comprehensions. -/
namespace Bb
open PySem PySem.Spec PyProof.Rows L2
open Evl (Ex)
section
variable {X : Cx} {Δ : Dl} {tg e a b c : Expr} {es : List Expr} {pos p apos cpos : Pos} {d x y z : D} {av : Av} {l : Tb} {k : List Int}
theorem keys_RpL {S H : Hp} (ex : Sb S H) {l : Tb} : ∀ {hv : List (List Key × V)} {bs : List Addr}, TbR S l hv → IsKeys H hv bs → ∃ S1, Le S H S1 H ∧ RpL S1 (l.map fun p => tI p.1) (bs.map V.ref) := by
  induction l with
  | nil =>
    intro hv bs h1 h2
    rw [h1.nil_inv] at h2
    cases h2
    exact ⟨S, .refl ex, .nil⟩
  | cons p l ih =>
    intro hv bs h1 h2
    obtain ⟨v, r, rfl, h3, h4⟩ := h1.inv
    cases h2 with
    | @cons _ b _ bs hb t =>
      obtain ⟨S1, l1, r1⟩ := ih h4 t
      have hb : H b = some (.tup (p.1.map V.int)) := by rw [← inK_V]; exact hb
      have l2 := Le.seen l1.sub hb
      exact ⟨_, l1.trans l2, .cons (Rp.tup.mpr ⟨b, _, rfl, upd_same, RpL.ints.mpr rfl⟩) (r1.mono l2.s)⟩
/-- list(d) -/
theorem ev_listD (h : Ed X Δ e (dT l)) (hm : X.mg "list" = none) (hc : X.calm = true := by rfl) (hg : Gl X "list" := by rfl) (hs : starEach [e] X.env = (false, eval e X.env) :: starEach [] X.env := by rfl) : Ev X Δ (.Call (.Name "list" p) [e] [] pos) (.ol (l.map fun p => tI p.1)) :=
  ev_callTy (call_list_dT hc) (ea_cons h ea_nil hs) (fun S H vs e h Q k => by
    simp only [RpL] at h
    obtain ⟨v, r, rfl, h1, rfl⟩ := h
    obtain ⟨q, od, hv, rfl, g2, g3⟩ := Rp.dic.mp h1
    refine ⟨q, hv, rfl, .inr ⟨od, e _ _ g2⟩, fun z bs hz hk => ?_⟩
    obtain ⟨S1, l1, r1⟩ := keys_RpL e (l := l) g3 hk
    exact Post.newL l1.sub (Post.mono (a := .ol _) l1 k) hz r1) hm (hg := hg) (he := hs)
/-- d.values() -/
theorem ei_values (h : Ed X Δ e (dT l)) (hbase : attributeBase e "values" X.env (eval e X.env) = eval e X.env := by rfl) (hline : (apos.endLine == cpos.line) = true := by rfl) : Ei X Δ tg (.Call (.Attribute e "values" apos) [] [] cpos) (l.map (·.2)) :=
  fun S0 H0 S H σ A R k => WI.of (pi_frzVals WE.pe hbase hline) (h S0 H0 S H σ A _ fun v S1 H1 l1 r1 => by
    obtain ⟨q, od, hv, rfl, g2, g3⟩ := Rp.dic.mp r1
    have t : TbR S1 l hv := g3
    have hl := t.len
    refine ⟨q, od, hv, rfl, l1.sub _ _ g2, k _ S1 H1 l1 ⟨fun S2 H2 e1 e2 i hi => ⟨e2 _ _ (e1 _ _ g2), by rw [List.length_map] at hi; omega⟩, fun S2 H2 e1 e2 => ⟨e2 _ _ (e1 _ _ g2), by rw [List.length_map]; omega⟩, fun S2 H2 e1 e2 i d x H3 hd y => ?_⟩⟩
    obtain ⟨rfl, kk, y⟩ := y
    rw [List.getElem?_map] at hd
    obtain ⟨pr, hp, rfl⟩ := Option.map_eq_some_iff.mp hd
    obtain ⟨w, hw, rw'⟩ := (t.mono e1).at_ hp
    rw [y] at hw
    cases hw
    exact ⟨S2, .refl e2, rw'⟩)
/-- d.items(), to a tuple target -/
theorem ei_items {elts : List Expr} {kk : Nat} {tpos : Pos} (h : Ed X Δ e (dT l)) (hbase : attributeBase e "items" X.env (eval e X.env) = eval e X.env := by rfl) (hline : (apos.endLine == cpos.line) = true := by rfl) : Ei X Δ (.Tuple elts kk tpos) (.Call (.Attribute e "items" apos) [] [] cpos) (l.map fun p => .tup [tI p.1, p.2]) :=
  fun S0 H0 S H σ A R k => WI.of (pi_frzItems WE.pe hbase hline) (h S0 H0 S H σ A _ fun v S1 H1 l1 r1 => by
    obtain ⟨q, od, hv, rfl, g2, g3⟩ := Rp.dic.mp r1
    have t : TbR S1 l hv := g3
    have hl := t.len
    refine ⟨q, od, hv, rfl, l1.sub _ _ g2, k _ S1 H1 l1 ⟨fun S2 H2 e1 e2 i hi => ⟨e2 _ _ (e1 _ _ g2), by rw [List.length_map] at hi; omega⟩, fun S2 H2 e1 e2 => ⟨e2 _ _ (e1 _ _ g2), by rw [List.length_map]; omega⟩, fun S2 H2 e1 e2 i d x H3 hd y => ?_⟩⟩
    obtain ⟨T, b, kk, v, y, hb, rfl, hT, rfl⟩ := y
    rw [List.getElem?_map] at hd
    obtain ⟨pr, hp, rfl⟩ := Option.map_eq_some_iff.mp hd
    obtain ⟨w, hw, rw'⟩ := (t.mono e1).at_ hp
    rw [y] at hw
    cases hw
    rw [inK_V] at hb
    have l2 := Le.seen e2 hb
    have hTS := l2.sub.back hT
    have l3 : Le _ H2 (upd _ T (.tup [.ref b, v])) (upd H2 T (.tup [.ref b, v])) := .laid l2.sub hT
    exact ⟨_, l2.trans l3, Rp.tup.mpr ⟨T, _, rfl, upd_same, .cons (Rp.tup.mpr ⟨b, _, rfl, l3.s _ _ upd_same, RpL.ints.mpr rfl⟩) (.cons (rw'.mono (l2.s.trans l3.s)) .nil)⟩⟩)
end
/-! ### dict comprehensions -/
def tabF {β : Type} (K : β → List Int) (E : β → D) (l : Tb) (ys : List β) : Tb := ys.foldl (fun l y => putA l (K y) (E y)) l
theorem tabF_len {β : Type} {K : β → List Int} {E : β → D} : ∀ {ys : List β} {l : Tb}, (tabF K E l ys).length ≤ l.length + ys.length
  | [], l => Nat.le_refl _
  | y :: ys, l => by
    have := tabF_len (K := K) (E := E) (ys := ys) (l := putA l (K y) (E y))
    have h2 := putA_len (l := l) (k := K y) (v := E y)
    show (tabF K E (putA l (K y) (E y)) ys).length ≤ _
    rw [List.length_cons]; omega
theorem tabF_app {β : Type} {K : β → List Int} {E : β → D} {l : Tb} {ys zs : List β} : tabF K E l (ys ++ zs) = tabF K E (tabF K E l ys) zs := by unfold tabF; rw [List.foldl_append]
theorem tabF_nodup {β : Type} {K : β → List Int} {E : β → D} : ∀ {ys : List β} {l : Tb}, (ys.map K).Nodup → (∀ y ∈ ys, K y ∉ l.map (·.1)) → tabF K E l ys = l ++ ys.map fun y => (K y, E y)
  | [], l, _, _ => by simp [tabF]
  | y :: ys, l, h, h2 => by
    obtain ⟨h3, h4⟩ := List.nodup_cons.mp h
    show tabF K E (putA l (K y) (E y)) ys = _
    rw [putA_new (h2 y List.mem_cons_self), tabF_nodup h4]
    · simp
    · intro z hz hm
      rw [List.map_append] at hm
      rcases List.mem_append.mp hm with q | q
      · exact h2 z (List.mem_cons_of_mem _ hz) q
      · simp at q
        exact h3 (q ▸ List.mem_map_of_mem hz)
section
variable {X : Cx} {Δ : Dl} {kx vx iter iter1 : Expr} {ifs ifs1 : List Expr} {scope : Scope} {pos tp tp1 : Pos} {x x1 : Str} {j j1 : Nat} {β γ : Type}
theorem dc_post {xs : List D} {ys : List β} {enc : β → D} {K : β → List Int} {E : β → D} {S0 H0 S H : Hp} {σ : L2.St} (A : Ab S0 H0 S H σ Δ) (hi : Ei X Δ (.Name x tp) iter xs) (hxs : xs = ys.map enc) (hz : ys.length ≤ 900000)
    (hk : ∀ y ∈ ys, InB X scope fun Y => Ed Y (Δ.set j (some (.sh (enc y)))) kx (tI (K y))) (he : ∀ y ∈ ys, InB X scope fun Y => Ed Y (Δ.set j (some (.sh (enc y)))) vx (E y)) {Q : VK} (k : Post S H (oT (tabF K E [] ys)) Q) :
    tDict (WI X (.Name x tp) iter) (gName j) tYes (tPut (WEb X scope kx) (WEb X scope vx)) [j] σ H Q := by
  subst hxs
  refine hi S0 H0 S H σ A _ fun J S1 H1 l1 ok D0 hD => ?_
  have A1 := A.mono l1
  have hDS : S1 D0 = none := l1.sub.back hD
  refine ⟨fun i m H' => m = ys.length - i ∧ i ≤ ys.length ∧ ∃ S' hv, Le S1 H1 S' H' ∧ S' D0 = none ∧ H' D0 = some (.dT hv) ∧ TbR S' (tabF K E [] (ys.take i)) hv, ⟨ys.length, by simp, Nat.zero_le _, S1, [], .hid l1.sub hD, hDS, upd_same, TbR.nil⟩, ?_⟩
  rintro i m H2 ⟨rfl, hi, S2, hv, l2, h1, h2, r⟩
  by_cases hlt : i < ys.length
  · refine .inr ⟨ok.go S2 H2 l2.s l2.sub i (by simpa using hlt), fun H' => i + 1 ≤ ys.length ∧ ∃ S' hv, Le S1 H1 S' H' ∧ S' D0 = none ∧ H' D0 = some (.dT hv) ∧ TbR S' (tabF K E [] (ys.take (i + 1))) hv, fun H' q => ⟨ys.length - (i + 1), by omega, rfl, q⟩, fun v H3 y => ?_⟩
    obtain ⟨S3, l3, r3⟩ := ok.yld S2 H2 l2.s l2.sub i (enc ys[i]) v H3 (by simp [hlt]) y
    have hm : ys[i] ∈ ys := List.getElem_mem hlt
    have A3 : Ab S0 H0 S3 H3 (σ.set j (some v)) (Δ.set j (some (.sh (enc ys[i])))) := (A1.mono (l2.trans l3)).set j r3
    have etake : ys.take (i + 1) = ys.take i ++ [ys[i]] := by rw [List.take_succ, List.getElem?_eq_getElem hlt]; rfl
    obtain ⟨g1, g2⟩ := l3.hidden h1 h2
    show wipe ((wipe σ [j]).set j (some v)) [j] = wipe σ [j] ∧ tYes ((wipe σ [j]).set j (some v)) H3 _
    rw [wipe_one, wipe_one, set_set σ j none (some v), set_set σ j (some v) none]
    refine ⟨rfl, ?_⟩
    unfold tYes
    show (if true = true then _ else _)
    rw [if_pos rfl]
    intro s HB C cl fp
    refine hk ys[i] hm s HB C cl fp S0 H0 S3 H3 _ A3 _ fun u S4 H4 l4 r4 => fun s HB C cl fp => ?_
    refine he ys[i] hm s HB C cl fp S0 H0 S4 H4 _ (A3.mono l4) _ fun z S5 H5 l5 r5 => ?_
    obtain ⟨e1, e2⟩ := (l4.trans l5).hidden g1 g2
    obtain ⟨w, rfl, hw⟩ := key_at l5.sub (r4.mono l5.s)
    have hl := r.len
    have hl2 := tabF_len (K := K) (E := E) (ys := ys.take i) (l := [])
    rw [List.length_take] at hl2
    refine ⟨hv, inK (K ys[i]), w, rfl, hw, e2, by rw [← hl, sizeLine_eq]; simp at hl2; omega, hlt, S5, _, (l2.trans (l3.trans (l4.trans l5))).mut hD e1, e1, upd_same, ?_⟩
    rw [etake, tabF_app]
    exact (r.mono (l3.s.trans (l4.s.trans l5.s))).put r5
  · have e : i = ys.length := by omega
    subst e
    have hst := ok.stop S2 H2 l2.s l2.sub
    rw [List.length_map] at hst
    refine .inl ⟨hst, ?_⟩
    rw [List.take_length] at r
    exact k D0 hv S2 H2 (l1.trans l2) (l1.back hD) h1 h2 r.1 r.2
theorem ev_dc (ys : List β) (enc : β → D) (K : β → List Int) (E : β → D) {xs : List D} (hi : Ei X Δ (.Name x tp) iter xs) (hxs : xs = ys.map enc) (hz : ys.length ≤ 900000) (hN : X.N.Nodup) (hu : X.A.units + 64 < cLine)
    (hk : ∀ y ∈ ys, InB X scope fun Y => Ed Y (Δ.set j (some (.sh (enc y)))) kx (tI (K y))) (he : ∀ y ∈ ys, InB X scope fun Y => Ed Y (Δ.set j (some (.sh (enc y)))) vx (E y))
    (ok : BlkOk X.N X.env.scope scope [(x, j)]) (hg : InB X scope fun Y => PG Y (.Name x tp) (gName j)) (hc : X.calm = true := by rfl) (hs : ∀ x, foldedSetIterable iter X.env x = pure x := by intro _; rfl) :
    Ev X Δ (.DictComp kx vx [⟨.Name x tp, iter, [], 0⟩] scope pos) (oT (tabF K E [] ys)) := fun S0 H0 S H σ A Q k =>
  WE.of (pe_dict (clause_sole (own := [(x, j)]) (by omega) hc hN ok WI.pi hg (fun _ _ _ _ _ => pts_nil) WEb.pe WEb.pe hs)) (dc_post A hi hxs hz hk he k)
theorem go_setDc {S0 H0 : Hp} {Z : Ends} {rest : List Stmt} {spos : Pos} (i : Nat) {y : Str} {py : Pos} (ys : List β) (enc : β → D) (K : β → List Int) (E : β → D) {xs : List D} (hi : Ei X Δ (.Name x tp) iter xs) (hxs : xs = ys.map enc) (hz : ys.length ≤ 900000) (hN : X.N.Nodup) (hu : X.A.units + 64 < cLine)
    (hk : ∀ y ∈ ys, InB X scope fun Y => Ed Y (Δ.set j (some (.sh (enc y)))) kx (tI (K y))) (he : ∀ y ∈ ys, InB X scope fun Y => Ed Y (Δ.set j (some (.sh (enc y)))) vx (E y))
    (ok : BlkOk X.N X.env.scope scope [(x, j)]) (hg : InB X scope fun Y => PG Y (.Name x tp) (gName j)) (k : Go X S0 H0 Z rest (Δ.set i (some (oT (tabF K E [] ys)))))
    (hsw : swapsWith (.DictComp kx vx [⟨.Name x tp, iter, [], 0⟩] scope pos) (some (.Name y py)) spos.line X.env = pure true)
    (hy : X.N[i]? = some y := by rfl) (hyl : X.env.scope.names.lookup y = some .local := by rfl) (hc : X.calm = true := by rfl) (hs : ∀ x, foldedSetIterable iter X.env x = pure x := by intro _; rfl) :
    Go X S0 H0 Z (.Assign [.Name y py] (.DictComp kx vx [⟨.Name x tp, iter, [], 0⟩] scope pos) spos :: rest) Δ :=
  go_cons fun S H σ A => WS.of (ps_dict (clause_sole (own := [(x, j)]) (by omega) hc hN ok WI.pi hg (fun _ _ _ _ _ => pts_nil) WEb.pe WEb.pe hs) hy hyl hsw) (dc_post A hi hxs hz hk he (set_post i A (nx_go k)))
/-! two fors, a test at the second -/
def tab2 (zs : β → List γ) (T : γ → Bool) (K : γ → List Int) (E : γ → D) (ys : List β) : Tb := tabF K E [] (ys.flatMap fun y => (zs y).filter T)
theorem dc2_post {xs : List D} {ys : List β} {enc : β → D} {zs : β → List γ} {enc1 : γ → D} {T : γ → Bool} {K : γ → List Int} {E : γ → D} {S0 H0 S H : Hp} {σ : L2.St} (A : Ab S0 H0 S H σ Δ) (hi : Ei X Δ (.Name x tp) iter xs) (hxs : xs = ys.map enc) (hz : (ys.flatMap fun y => zs y).length ≤ 900000)
    (hi1 : ∀ y ∈ ys, InB X scope fun Y => Ei Y ((Δ.set j1 none).set j (some (.sh (enc y)))) (.Name x1 tp1) iter1 ((zs y).map enc1))
    (hf : ∀ y ∈ ys, ∀ z ∈ zs y, Ef X scope ((((Δ.set j1 none).set j (some (.sh (enc y)))).set j1 none).set j1 (some (.sh (enc1 z)))) ifs1 (T z))
    (hk : ∀ y ∈ ys, ∀ z ∈ zs y, T z = true → InB X scope fun Y => Ed Y ((((Δ.set j1 none).set j (some (.sh (enc y)))).set j1 none).set j1 (some (.sh (enc1 z)))) kx (tI (K z)))
    (he : ∀ y ∈ ys, ∀ z ∈ zs y, T z = true → InB X scope fun Y => Ed Y ((((Δ.set j1 none).set j (some (.sh (enc y)))).set j1 none).set j1 (some (.sh (enc1 z)))) vx (E z)) {Q : VK}
    (k : Post S H (oT (tab2 zs T K E ys)) Q) :
    tDict (WI X (.Name x tp) iter) (gName j) tYes (fun D => tNext (WIb X scope (.Name x1 tp1) iter1) (gName j1) (WFb X scope ifs1) [j1] (tPut (WEb X scope kx) (WEb X scope vx) D)) [j, j1] σ H Q := by
  subst hxs
  refine hi S0 H0 S H σ A _ fun J S1 H1 l1 ok D0 hD => ?_
  have A1 := A.mono l1
  have hDS : S1 D0 = none := l1.sub.back hD
  refine ⟨fun i m H' => m = ys.length - i ∧ i ≤ ys.length ∧ ∃ S' hv, Le S1 H1 S' H' ∧ S' D0 = none ∧ H' D0 = some (.dT hv) ∧ TbR S' (tab2 zs T K E (ys.take i)) hv, ⟨ys.length, by simp, Nat.zero_le _, S1, [], .hid l1.sub hD, hDS, upd_same, TbR.nil⟩, ?_⟩
  rintro i m H2 ⟨rfl, hi, S2, hv, l2, h1, h2, r⟩
  by_cases hlt : i < ys.length
  · refine .inr ⟨ok.go S2 H2 l2.s l2.sub i (by simpa using hlt), fun H' => i + 1 ≤ ys.length ∧ ∃ S' hv, Le S1 H1 S' H' ∧ S' D0 = none ∧ H' D0 = some (.dT hv) ∧ TbR S' (tab2 zs T K E (ys.take (i + 1))) hv, fun H' q => ⟨ys.length - (i + 1), by omega, rfl, q⟩, fun v H3 y => ?_⟩
    obtain ⟨S3, l3, r3⟩ := ok.yld S2 H2 l2.s l2.sub i (enc ys[i]) v H3 (by simp [hlt]) y
    have hm : ys[i] ∈ ys := List.getElem_mem hlt
    have etake : ys.take (i + 1) = ys.take i ++ [ys[i]] := by rw [List.take_succ, List.getElem?_eq_getElem hlt]; rfl
    have hsub : ((ys.take i).flatMap fun y => zs y).length + (zs ys[i]).length ≤ 900000 := by
      have e1 : ys = ys.take i ++ (ys[i] :: ys.drop (i + 1)) := by
        rw [← List.drop_eq_getElem_cons hlt, List.take_append_drop]
      have e2 := congrArg (fun l => (List.flatMap (fun y => zs y) l).length) e1
      simp only [List.flatMap_append, List.flatMap_cons, List.length_append] at e2
      omega
    have hflt : ∀ us : List β, (us.flatMap fun y => (zs y).filter T).length ≤ (us.flatMap fun y => zs y).length := fun us => by
      induction us with
      | nil => exact Nat.le_refl _
      | cons u us ih =>
        rw [List.flatMap_cons, List.flatMap_cons, List.length_append, List.length_append]
        have := List.length_filter_le T (zs u)
        omega
    generalize ys[i] = yi at *
    have A3 : Ab S0 H0 S3 H3 (((σ.set j1 none).set j none).set j (some v)) ((Δ.set j1 none).set j (some (.sh (enc yi)))) := by
      rw [set_set]
      exact ((A1.mono (l2.trans l3)).forget j1).set j r3
    obtain ⟨g1, g2⟩ := l3.hidden h1 h2
    refine ⟨wipe2 σ _, ?_⟩
    show WIb X scope (.Name x1 tp1) iter1 (((σ.set j1 none).set j none).set j (some v)) H3 _
    intro s HB C cl fp
    refine hi1 yi hm s HB C cl fp S0 H0 S3 H3 _ A3 _ fun J1 S4 H4 l4 ok1 => ?_
    obtain ⟨f1, f2⟩ := l4.hidden g1 g2
    have l14 : Le S1 H1 S4 H4 := l2.trans (l3.trans l4)
    refine ⟨fun n m H' => m = (zs yi).length - n ∧ n ≤ (zs yi).length ∧ ∃ S' ws, Le S1 H1 S' H' ∧ Ex S4 S' ∧ S' D0 = none ∧ H' D0 = some (.dT ws) ∧ TbR S' (tabF K E (tab2 zs T K E (ys.take i)) (((zs yi).take n).filter T)) ws,
      ⟨(zs yi).length, by simp, Nat.zero_le _, S4, hv, l14, .refl _, f1, f2, by simpa [tabF] using r.mono (l3.s.trans l4.s)⟩, ?_⟩
    rintro n m H5 ⟨rfl, hn, S5, ws, l5, e5, p1, p2, r5⟩
    by_cases hnl : n < (zs yi).length
    · have et : (zs yi).take (n + 1) = (zs yi).take n ++ [(zs yi)[n]] := by rw [List.take_succ, List.getElem?_eq_getElem hnl]; rfl
      refine .inr ⟨ok1.go S5 H5 e5 l5.sub n (by simpa using hnl), fun H' => n + 1 ≤ (zs yi).length ∧ ∃ S' ws, Le S1 H1 S' H' ∧ Ex S4 S' ∧ S' D0 = none ∧ H' D0 = some (.dT ws) ∧ TbR S' (tabF K E (tab2 zs T K E (ys.take i)) (((zs yi).take (n + 1)).filter T)) ws, fun H' q => ⟨(zs yi).length - (n + 1), by omega, rfl, q⟩, fun w H6 y6 => ?_⟩
      obtain ⟨S6, l6, r6⟩ := ok1.yld S5 H5 e5 l5.sub n (enc1 (zs yi)[n]) w H6 (by simp [hnl]) y6
      have hm1 : (zs yi)[n] ∈ zs yi := List.getElem_mem hnl
      have A6 : Ab S0 H0 S6 H6 ((((((σ.set j1 none).set j none).set j (some v)).set j1 none).set j1 (some w))) (((((Δ.set j1 none).set j (some (.sh (enc yi)))).set j1 none).set j1 (some (.sh (enc1 (zs yi)[n]))))) := by
        have B : Ab S0 H0 S6 H6 (((σ.set j1 none).set j none).set j (some v)) ((Δ.set j1 none).set j (some (.sh (enc yi)))) := by
          rw [set_set]
          exact ((A1.mono (l5.trans l6)).forget j1).set j (r3.mono (l4.s.trans (e5.trans l6.s)))
        exact (B.forget j1).set j1 r6
      obtain ⟨q1, q2⟩ := l6.hidden p1 p2
      refine ⟨?_, ?_⟩
      · show ((((((σ.set j1 none).set j none).set j (some v)).set j1 none).set j1 (some w)).set j1 none) = _
        rw [set_set, set_set]
        rfl
      refine Ef.run (hf yi hm _ hm1) A6 fun S7 H7 l7 => ?_
      obtain ⟨t1, t2⟩ := l7.hidden q1 q2
      cases hT : T (zs yi)[n] with
      | false =>
        refine iteF ⟨hnl, S7, ws, l5.trans (l6.trans l7), e5.trans (l6.s.trans l7.s), t1, t2, ?_⟩
        rw [et, List.filter_append]
        have e0 : [(zs yi)[n]].filter T = [] := by simp [hT]
        rw [e0, List.append_nil]
        exact r5.mono (l6.s.trans l7.s)
      | true =>
        refine iteT fun s' HB' C' cl' fp' => ?_
        refine hk yi hm _ hm1 hT s' HB' C' cl' fp' S0 H0 S7 H7 _ (A6.mono l7) _ fun u S8 H8 l8 r8 => fun s' HB' C' cl' fp' => ?_
        refine he yi hm _ hm1 hT s' HB' C' cl' fp' S0 H0 S8 H8 _ (A6.mono (l7.trans l8)) _ fun z S9 H9 l9 r9 => ?_
        obtain ⟨v1, v2⟩ := (l8.trans l9).hidden t1 t2
        obtain ⟨w', rfl, hw⟩ := key_at l9.sub (r8.mono l9.s)
        have lz : ws.length ≤ 900000 := by
          have h3 := tabF_len (K := K) (E := E) (ys := ((zs yi).take n).filter T) (l := tab2 zs T K E (ys.take i))
          have h4 := tabF_len (K := K) (E := E) (ys := (ys.take i).flatMap fun y => (zs y).filter T) (l := [])
          have h5 := hflt (ys.take i)
          have h6 := List.length_filter_le T ((zs yi).take n)
          rw [List.length_take] at h6
          rw [← r5.len]
          simp only [List.length_nil] at h4
          have h7 : (tab2 zs T K E (ys.take i)).length ≤ ((ys.take i).flatMap fun y => zs y).length := by unfold tab2; omega
          omega
        have l79 := l7.trans (l8.trans l9)
        refine ⟨ws, inK (K (zs yi)[n]), w', rfl, hw, v2, by rw [sizeLine_eq]; omega, hnl, S9, _, (l5.trans (l6.trans l79)).mut hD v1, e5.trans (l6.s.trans l79.s), v1, upd_same, ?_⟩
        rw [et, List.filter_append]
        have e0 : [(zs yi)[n]].filter T = [(zs yi)[n]] := by simp [hT]
        rw [e0, tabF_app]
        exact (r5.mono (l6.s.trans l79.s)).put r9
    · have e : n = (zs yi).length := by omega
      subst e
      have hst := ok1.stop S5 H5 e5 l5.sub
      rw [List.length_map] at hst
      refine .inl ⟨hst, hlt, S5, ws, l5, p1, p2, ?_⟩
      rw [List.take_length] at r5
      rw [etake]
      unfold tab2 at r5 ⊢
      rw [List.flatMap_append, tabF_app]
      simpa using r5
  · have e : i = ys.length := by omega
    subst e
    have hst := ok.stop S2 H2 l2.s l2.sub
    rw [List.length_map] at hst
    refine .inl ⟨hst, ?_⟩
    rw [List.take_length] at r
    exact k D0 hv S2 H2 (l1.trans l2) (l1.back hD) h1 h2 r.1 r.2
theorem ev_dc2 (ys : List β) (enc : β → D) (zs : β → List γ) (enc1 : γ → D) (T : γ → Bool) (K : γ → List Int) (E : γ → D) {xs : List D} (hi : Ei X Δ (.Name x tp) iter xs) (hxs : xs = ys.map enc) (hz : (ys.flatMap fun y => zs y).length ≤ 900000) (hN : X.N.Nodup) (hu : X.A.units + 64 < cLine)
    (hi1 : ∀ y ∈ ys, InB X scope fun Y => Ei Y ((Δ.set j1 none).set j (some (.sh (enc y)))) (.Name x1 tp1) iter1 ((zs y).map enc1))
    (hf : ∀ y ∈ ys, ∀ z ∈ zs y, Ef X scope ((((Δ.set j1 none).set j (some (.sh (enc y)))).set j1 none).set j1 (some (.sh (enc1 z)))) ifs1 (T z))
    (hk : ∀ y ∈ ys, ∀ z ∈ zs y, T z = true → InB X scope fun Y => Ed Y ((((Δ.set j1 none).set j (some (.sh (enc y)))).set j1 none).set j1 (some (.sh (enc1 z)))) kx (tI (K z)))
    (he : ∀ y ∈ ys, ∀ z ∈ zs y, T z = true → InB X scope fun Y => Ed Y ((((Δ.set j1 none).set j (some (.sh (enc y)))).set j1 none).set j1 (some (.sh (enc1 z)))) vx (E z))
    (ok : BlkOk X.N X.env.scope scope [(x, j), (x1, j1)]) (hg : InB X scope fun Y => PG Y (.Name x tp) (gName j)) (hg1 : InB X scope fun Y => PG Y (.Name x1 tp1) (gName j1)) (hl : ifs1.length ≤ 1 := by decide) (hc : X.calm = true := by rfl) (hs : ∀ x, foldedSetIterable iter X.env x = pure x := by intro _; rfl) (hs1 : ∀ env x, foldedSetIterable iter1 env x = pure x := by intro _ _; rfl) :
    Ev X Δ (.DictComp kx vx [⟨.Name x tp, iter, [], 0⟩, ⟨.Name x1 tp1, iter1, ifs1, 0⟩] scope pos) (oT (tab2 zs T K E ys)) := fun S0 H0 S H σ A Q k =>
  WE.of (pe_dict (clause_two (own := [(x, j), (x1, j1)]) (own1 := [j1]) (by omega) hc hN ok WI.pi hg (fun _ _ _ _ _ => pts_nil) WIb.pi hg1 (WFb.pts hl) WEb.pe WEb.pe hs hs1 (by intro i hi; simp at hi; subst hi; simp))) (dc2_post A hi hxs hz hi1 hf hk he k)
end
end Bb
end
section
set_option maxRecDepth 100000
set_option maxHeartbeats 4000000
namespace Bb
open PySem PySem.Spec PyProof.Rows L2
theorem range_at {n i j : Nat} (h : (List.range n)[i]? = some j) : j = i ∧ i < n := by
  obtain ⟨h1, h2⟩ := List.getElem?_eq_some_iff.mp h
  rw [List.getElem_range] at h2
  rw [List.length_range] at h1
  exact ⟨h2.symm, h1⟩
theorem grown_mem {w : List Int} {b t : Int} {v : List Int} (h : v ∈ grownM w b t) : (v = w ∧ w.sum = t) ∨ (w.sum ≠ t ∧ ∃ e : Int, v = w ++ [e] ∧ 1 ≤ e ∧ w.sum + e ≤ t) := by
  unfold grownM at h
  split at h
  · rename_i e
    split at h
    · simp at h; exact .inl ⟨h, e⟩
    · simp at h
  · rename_i e
    obtain ⟨k, hk, rfl⟩ := List.mem_map.mp h
    have hk := List.mem_range.mp hk
    refine .inr ⟨e, _, rfl, by omega, ?_⟩
    have : mostM w b t ≤ min b t - w.sum := by unfold mostM; split <;> omega
    omega
theorem grown_nodup (w : List Int) (b t : Int) : (grownM w b t).Nodup := by
  unfold grownM
  split
  · split <;> simp
  · refine List.pairwise_map.mpr (List.Pairwise.imp ?_ (List.nodup_range (n := (mostM w b t).toNat)))
    intro a c hac e
    have := List.append_cancel_left e
    simp at this
    omega
/-- the words behind i bounds -/
structure WordsOk (t : Int) (i : Nat) (ws : List (List Int)) : Prop where
  nd : ws.Nodup
  all : ∀ w ∈ ws, (∀ x ∈ w, 1 ≤ x) ∧ w.length ≤ i ∧ w.sum ≤ t ∧ (w.sum ≠ t → w.length = i)
theorem WordsOk.next {t : Int} {i : Nat} {ws : List (List Int)} (h : WordsOk t i ws) (b : Int) : WordsOk t (i + 1) (ws.flatMap fun w => grownM w b t) where
  nd := by
    refine List.pairwise_flatMap.mpr ⟨fun w _ => grown_nodup w b t, ?_⟩
    have nd := h.nd
    have key : ∀ a ∈ ws, ∀ c ∈ ws, a ≠ c → ∀ x ∈ grownM a b t, ∀ y ∈ grownM c b t, x ≠ y := by
      rintro a ha c hc ne x hx y hy rfl
      obtain ⟨_, la, sa, fa⟩ := h.all a ha
      obtain ⟨_, lc, sc, fc⟩ := h.all c hc
      rcases grown_mem hx with ⟨e1, s1⟩ | ⟨s1, e, e1, _, _⟩
      · rcases grown_mem hy with ⟨e2, s2⟩ | ⟨s2, e', e2, _, _⟩
        · exact ne (e1.symm.trans e2)
        · have := congrArg List.length (e1.symm.trans e2)
          rw [List.length_append, List.length_singleton, fc s2] at this
          omega
      · rcases grown_mem hy with ⟨e2, s2⟩ | ⟨s2, e', e2, _, _⟩
        · have := congrArg List.length (e1.symm.trans e2)
          rw [List.length_append, List.length_singleton, fa s1] at this
          omega
        · have := (List.append_inj' (e1.symm.trans e2) rfl).1
          exact ne this
    clear h
    induction ws with
    | nil => exact .nil
    | cons w ws ih =>
      obtain ⟨h1, h2⟩ := List.pairwise_cons.mp nd
      refine List.pairwise_cons.mpr ⟨fun c hc x hx y hy => key w List.mem_cons_self c (List.mem_cons_of_mem _ hc) (h1 c hc) x hx y hy, ih h2 fun a ha c hc => key a (List.mem_cons_of_mem _ ha) c (List.mem_cons_of_mem _ hc)⟩
  all := fun v hv => by
    obtain ⟨w, hw, hv⟩ := List.mem_flatMap.mp hv
    obtain ⟨h1, h2, h3, h4⟩ := h.all w hw
    rcases grown_mem hv with ⟨rfl, s1⟩ | ⟨s1, e, rfl, h5, h6⟩
    · exact ⟨h1, by omega, h3, fun q => absurd s1 q⟩
    · refine ⟨fun x hx => ?_, by rw [List.length_append, List.length_singleton]; omega, by rw [List.sum_append]; simpa using h6, fun _ => by rw [List.length_append, List.length_singleton, h4 s1]⟩
      rcases List.mem_append.mp hx with q | q
      · exact h1 x q
      · simp at q; omega
theorem WordsOk.few {t : Int} {i : Nat} {ws : List (List Int)} (h : WordsOk t i ws) (ht : t ≤ 14) : ws.length ≤ 40000 := Bb.few h.nd fun k hk => ⟨(h.all k hk).1, by have := (h.all k hk).2.2.1; omega⟩
section
variable {P : Program} {w : World} {K : PySem.W.Frag} {mg : Str → Option Value} {base : Heap}
def listsF (t : Int) (bs : List Int) : List (List Int) := bs.foldl (fun ws b => ws.flatMap fun w => grownM w b t) [[]]
def listsM (row : List Int) : List (List Int) := listsF row.length row
theorem listsF_ok (t : Int) (ht : 0 ≤ t) : ∀ bs : List Int, WordsOk t bs.length (listsF t bs) := by
  have : ∀ (bs : List Int) (i : Nat) (ws : List (List Int)), WordsOk t i ws → WordsOk t (i + bs.length) (bs.foldl (fun ws b => ws.flatMap fun w => grownM w b t) ws) := by
    intro bs
    induction bs with
    | nil => intro i ws h; exact h
    | cons b bs ih =>
      intro i ws h
      have := ih (i + 1) _ (h.next b)
      rw [List.length_cons, show i + (bs.length + 1) = i + 1 + bs.length by omega]
      exact this
  intro bs
  have h := this bs 0 [[]] ⟨by simp, fun w hw => by simp at hw; subst hw; exact ⟨by simp, by simp, by simpa using ht, fun _ => rfl⟩⟩
  rw [Nat.zero_add] at h
  exact h
abbrev spLists : Sp := spT (fun xs : List Int => [dI xs]) (fun xs => xs.length ≤ 14 ∧ ∀ b ∈ xs, -1000 ≤ b ∧ b ≤ 1000) (fun xs => .sh (.lst ((listsM xs).map tI)))
theorem fo_lists (T : Txt K mg) (c1 : Cal P w K mg base 1 "grown" ["word", "bound", "total"] [] spGrown) : Cal P w K mg base 2 "lists_under" ["row"] [] spLists := by
  obtain ⟨fd, F⟩ := T.f_lists_under
  refine cal_of F (def_ok F sc_lists_under (fun _ => rfl) fun cdv A outer s H E hr xs hp S0 Z kk hnx => ?_) T.g_lists_under (fun _ _ _ _ _ _ us hl => match us, hl with | [_], _ => rfl)
  obtain ⟨hl, hb⟩ := hp
  refine go_set 1 (Ed.to (ed_lenL (ed_var 0) T.n_len) (d' := .int (xs.length : Int)) (by rw [List.length_map])) ?_ sc_lists_under.nd
  refine go_set 2 (a := .sh (.lst ([([] : List Int)].map tI))) (Ev.lst (ev_lst (ea_cons (Ed.to (ed_tup ea_nil) rfl) ea_nil))) ?_ sc_lists_under.nd
  refine go_for (fun ws : List (List Int) => [some (.sh (dI xs)), some (.sh (.int (xs.length : Int))), some (.sh (.lst (ws.map tI))), none, none, none]) (fun i ws => ws = listsF xs.length (xs.take i)) xs D.int (ei_list (ed_var 0)) rfl [[]] rfl (Wk.refl _) ?_ ?_
  · rintro S1 rb i b ws hb' rfl
    have hi := (List.getElem?_eq_some_iff.mp hb').1
    have hbm := hb b (List.mem_of_getElem? hb')
    have ok := listsF_ok (xs.length : Int) (by omega) (xs.take i)
    have ok2 := ok.next b
    have hlen := ok.few (by omega)
    have hlen2 := ok2.few (by omega)
    have etake : listsF xs.length (xs.take (i + 1)) = (listsF xs.length (xs.take i)).flatMap fun w => grownM w b xs.length := by
      rw [List.take_succ, hb']
      unfold listsF
      rw [List.foldl_append]
      rfl
    generalize listsF xs.length (xs.take i) = ws at *
    refine ⟨_, eg_name 3 sc_lists_under.nd, ?_⟩
    refine go_setLc2 2 (j := 4) (j1 := 5) ws tI (fun w => grownM w b xs.length) tI (fun _ l => tI l) (ei_list (ed_var 2)) rfl ?_ sc_lists_under.nd (fun y hy => ?_) (fun y _ z _ s H C cl fp => ed_var 5)
      (blkOk_by (N := N_lists_under) (sc := defScope s_lists_under) (by decide +kernel)) (fun _ _ _ _ _ => pg_name sc_lists_under.nd rfl (Or.inl rfl)) (fun _ _ _ _ _ => pg_name sc_lists_under.nd rfl (Or.inl rfl)) ?_ (sw_true rfl rfl rfl (by decide +kernel))
    · rw [← List.map_flatMap, List.length_map]; omega
    · intro s H C cl fp
      obtain ⟨h1, h2, h3, h4⟩ := ok.all y hy
      refine ei_list (ed_call c1 (y, b, (xs.length : Int)) (ea_cons (ed_var 4) (ea_cons (ed_var 3) (ea_cons (ed_var 1) ea_nil))) ⟨by have := List.length_take_le i xs; show y.length ≤ 1000; have := List.length_take (i := i) (l := xs); omega, fun x hx => by have := h1 x hx; omega, by show y.sum ≤ 1000; omega, ⟨by show (0 : Int) ≤ xs.length; omega, by show (xs.length : Int) ≤ 1000; omega⟩, ⟨by show -1000000 ≤ b; omega, by show b ≤ 1000000; omega⟩⟩ (hr.mono (by decide)))
    · refine go_show 2 rfl ?_
      refine go_next rfl _ rfl ?_
      rw [etake]
      have e : (List.flatMap (fun y => List.map (fun l => tI l) (grownM y b ↑xs.length)) ws) = (ws.flatMap fun w => grownM w b xs.length).map tI := by rw [List.map_flatMap]
      show Wk [_, _, some (.sh (.lst (List.flatMap (fun y => List.map (fun l => tI l) (grownM y b ↑xs.length)) ws))), _, _, _] _
      rw [e]
      exact .keep (.keep (.keep (.skip (.skip (.skip .nil)))))
  · rintro ws rfl
    rw [List.take_length]
    exact go_ret (ed_var 2) kk
end
end Bb
end
section
set_option maxRecDepth 100000
set_option maxHeartbeats 4000000
/-! B10: promises that tell by relations; worlds reset. -/
namespace Bb
open PySem PySem.Spec PyProof.Rows L2
open Evl (Ex)
def spG {α : Type} (enc : α → List D) (pre : α → Prop) (Kq : α → Hp → Hp → VK → Prop) : Sp := fun vs H Q _ => ∃ (a : α) (S : Hp), Sb S H ∧ RpL S (enc a) vs ∧ pre a ∧ Kq a S H Q
/-- the answer among many -/
abbrev spX {α : Type} (enc : α → List D) (pre : α → Prop) (F : α → Av → Prop) : Sp := spG enc pre fun a S H Q => ∀ av, F a av → Post S H av Q
theorem def_okG {P : Program} {w : World} {K : PySem.W.Frag} {mg : Str → Option Value} {base : Heap} {name qual : Str} {args : Arguments} {body : List Stmt} {scope : Scope} {f : Addr} {fd : FuncData} {N ps : List Str} {k : Nat}
    {α : Type} {enc : α → List D} {pre : α → Prop} {Kq : α → Hp → Hp → VK → Prop} {dvs : List V} {kws : List (Str × V)} (F : FunD K name qual args body scope dvs kws f fd) (S : FnScope N ps scope) (hl : ∀ a, (enc a).length = ps.length)
    (hb : ∀ (cdv : Value) (A : Around) (outer : List Env) (s : Shared) (H : Hp) (E : XK), Room k (A.deeper (envOfC qual scope s.heap.objs.size f cdv)) → ∀ (a : α), pre a → ∀ (S0 : Hp) (Z : Ends), Sb S0 H → Kq a S0 H Z.rt → (Z.nx = fun _ H' => Z.rt .non H') →
      Go (XF P w K mg base N qual scope f cdv A outer s H E) S0 H Z body ((enc a).map (fun d => some (.sh d)) ++ List.replicate (N.length - ps.length) none)) : FnOk P w K mg base CX0 (k + 1) f fd ps (spG enc pre Kq) := by
  refine F.ok S (fun vs H Q E h => ?_) (fun cdv A outer s H vs Q E hr h => ?_)
  · obtain ⟨a, S', _, r, _⟩ := h
    rw [← r.len]; exact hl a
  · obtain ⟨a, S', ex, r, hp, kk⟩ := h
    refine ⟨WSs (XF P w K mg base N qual scope f cdv A outer s H E) body, PSs.nox WSs.pss, ?_⟩
    refine hb cdv A outer s H E hr a hp S' { nx := fun _ H' => Q .non H', rt := Q } ex kk rfl S' H _ ?_
    have hlen : vs.length = ps.length := by rw [← r.len]; exact hl a
    refine ⟨.refl ex, fun i b eb => ?_, fun i j b c v hij e1 e2 o1 => ?_, ?_⟩
    · have hi : i < ((enc a).map fun d => some (Av.sh d)).length := by
        by_cases hi : i < ((enc a).map fun d => some (Av.sh d)).length
        · exact hi
        · rw [List.getElem?_append_right (by omega), List.getElem?_replicate] at eb
          split at eb <;> cases eb
      rw [List.getElem?_append_left hi, List.getElem?_map] at eb
      cases ed : (enc a)[i]? with
      | none => rw [ed] at eb; cases eb
      | some d =>
        rw [ed] at eb
        cases eb
        obtain ⟨v, hv, rv⟩ := r.get ed
        refine ⟨v, ?_, rv⟩
        unfold L2.start
        have hi2 : i < (vs.map some).length := by rw [List.length_map, ← r.len]; simpa using hi
        rw [List.getElem?_append_left hi2, List.getElem?_map, hv]
        rfl
    · exfalso
      have hi : i < ((enc a).map fun d => some (Av.sh d)).length := by
        by_cases hi : i < ((enc a).map fun d => some (Av.sh d)).length
        · exact hi
        · rw [List.getElem?_append_right (by omega), List.getElem?_replicate] at e1
          split at e1 <;> cases e1
      rw [List.getElem?_append_left hi, List.getElem?_map] at e1
      cases ed : (enc a)[i]? with
      | none => rw [ed] at e1; cases e1
      | some d => rw [ed] at e1; cases e1; cases o1
    · unfold L2.start
      rw [List.length_append, List.length_append, List.length_map, List.length_map, List.length_replicate, List.length_replicate, r.len, hlen]
theorem Cal.imp {P : Program} {w : World} {K : PySem.W.Frag} {mg : Str → Option Value} {base : Heap} {k : Nat} {x : Str} {ps : List Str} {dvs : List V} {sp sp' : Sp} (C : Cal P w K mg base k x ps dvs sp) (h : ∀ vs H Q E, sp' vs H Q E → sp vs H Q E) : Cal P w K mg base k x ps dvs sp' :=
  let ⟨f, fd, ds, F, r⟩ := C.ex; ⟨f, fd, ds, F.imp h, r⟩
/-! ### an answer among many -/
def EvR (X : Cx) (Δ : Dl) (e : Expr) (F : Av → Prop) : Prop := ∀ (S0 H0 S H : Hp) (σ : L2.St), Ab S0 H0 S H σ Δ → ∀ Q : VK, (∀ av, F av → Post S H av Q) → WE X e σ H Q
section
variable {X : Cx} {Δ : Dl} {e a b : Expr} {es : List Expr} {pos p : Pos} {d : D} {S0 H0 : Hp} {Z : Ends} {rest : List Stmt} {F : Av → Prop}
theorem evr_call {k : Nat} {x : Str} {ps : List Str} {α : Type} {enc : α → List D} {pre : α → Prop} {F : α → Av → Prop} (C : Cal X.prog X.w X.K X.mg X.base k x ps [] (spX enc pre F)) (a : α) (ha : Ea X Δ (e :: es) (enc a)) (hp : pre a) (hr : Room k X.A) (hg : Gl X x := by rfl)
    (hdb : (x == ("__debug__" : Str)) = false := by decide) (he : starEach (e :: es) X.env = (false, eval e X.env) :: starEach es X.env := by rfl) (hpl : (backTo pos (starEach es X.env)).any (·.1) = false := by rfl) : EvR X Δ (.Call (.Name x p) (e :: es) [] pos) (F a) := by
  obtain ⟨g, fd, ds, C, hm, hk, hb, hv⟩ := C.ex
  intro S0 H0 S H σ A Q kk
  refine WE.of (pe_call C hr hg hm hk hb hv pass0 WA.pa hdb he hpl) ?_
  refine ha S0 H0 S H σ A _ fun vs S1 H1 l1 r1 => ?_
  show spX enc pre F (vs ++ []) H1 Q E0
  rw [List.append_nil]
  exact ⟨a, S1, l1.sub, r1, hp, fun av h => (kk av h).mono l1⟩
theorem go_setR (i : Nat) {x : Str} {p : Pos} (he : EvR X Δ e F) (k : ∀ av, F av → Go X S0 H0 Z rest (Δ.set i (some av))) (hN : X.N.Nodup) (hi : X.N[i]? = some x := by rfl) (hx : Loc X.env.scope x := by first | exact Or.inl rfl | exact Or.inr rfl)
    (hs : swapsWith e (some (.Name x p)) pos.line X.env = pure false := by rfl) (hf : X.fn x = true ∨ X.env.scope.names.lookup x = some .local := by first | exact .inl rfl | exact .inr rfl) : Go X S0 H0 Z (.Assign [.Name x p] e pos :: rest) Δ :=
  go_cons fun S H σ A => WS.of (ps_set hN hi hx WE.pe hs hf) (he S0 H0 S H σ A _ fun av h => set_post i A (nx_go (k av h)))
theorem go_retR (he : EvR X Δ e F) (k : ∀ av, F av → Post S0 H0 av Z.rt) : Go X S0 H0 Z (.Return (some e) pos :: rest) Δ :=
  go_cons fun S H σ A => WS.of (ps_ret WE.pe) (he S0 H0 S H σ A _ fun av h => (k av h).mono A.le)
/-- f(..)[k], a new dict -/
theorem ed_dgetR {k : List Int} (ha : EvR X Δ a F) (hF : ∀ av, F av → ∃ l : Tb, av = oT l ∧ getA l k = some d) (hb : Ed X Δ b (tI k)) (hu : X.A.units + 64 < cLine) (hs : NoSl b := by intro _ _; rfl) : Ed X Δ (.Subscript a b pos) d := by
  intro S0 H0 S H σ A Q kq
  refine WE.of (pe_dget (by omega) WE.pe WE.pe hs) ?_
  refine ha S0 H0 S H σ A _ fun av h => ?_
  obtain ⟨l, rfl, hg⟩ := hF av h
  intro p hv S1 H1 l1 hp h1 h2 h3 h4
  refine hb S0 H0 S1 H1 σ (A.mono l1) _ fun v S2 H2 l2 r2 => ?_
  obtain ⟨f1, f2⟩ := l2.hidden h1 h2
  obtain ⟨w, rfl, hw⟩ := key_at l2.sub r2
  have t : TbR S1 l hv := ⟨h3, h4⟩
  obtain ⟨y, hy, ry⟩ := t.get hg
  exact ⟨p, y, rfl, .inr ⟨hv, inK k, w, .inl f2, rfl, hw, hy.symm⟩, kq y S2 H2 (l1.trans l2) (ry.mono l2.s)⟩
/-- x = y, y owned: from now on x owns -/
theorem go_move (i j : Nat) {x y : Str} {p p2 : Pos} {av : Av} (hj : Δ[j]? = some (some av)) (k : Go X S0 H0 Z rest ((Δ.set j none).set i (some av))) (hij : i ≠ j) (hil : i < Δ.length) (hN : X.N.Nodup) (hi : X.N[i]? = some x := by rfl) (hi2 : X.N[j]? = some y := by rfl) (hx : Loc X.env.scope x := by first | exact Or.inl rfl | exact Or.inr rfl)
    (hv : Vis X.env.scope y := by first | exact Or.inl rfl | exact Or.inr (Or.inl rfl) | exact Or.inr (Or.inr rfl)) (hdb : (y == ("__debug__" : Str)) = false := by decide) (hcd : (y == ("__classdict__" : Str)) = false := by decide)
    (hs : swapsWith (.Name y p2) (some (.Name x p)) pos.line X.env = pure false := by rfl) (hf : X.fn x = true ∨ X.env.scope.names.lookup x = some .local := by first | exact .inl rfl | exact .inr rfl) : Go X S0 H0 Z (.Assign [.Name x p] (.Name y p2) pos :: rest) Δ :=
  go_cons fun S H σ A => WS.of (ps_set hN hi hx (pe_var hi2 hv hdb hcd) hs hf) (by
    obtain ⟨v, h1, h2⟩ := A.sl j _ hj
    refine ⟨v, h1, k S H _ ?_⟩
    have hjl : j < Δ.length := (List.getElem?_eq_some_iff.mp hj).1
    have key : ∀ (m : Nat) (a : Av), ((Δ.set j none).set i (some av))[m]? = some (some a) → (m = i ∧ a = av) ∨ (m ≠ i ∧ m ≠ j ∧ Δ[m]? = some (some a)) := fun m a e => by
      by_cases hm : i = m
      · subst hm
        rw [List.getElem?_set_self (by rw [List.length_set]; exact hil)] at e
        cases e
        exact .inl ⟨rfl, rfl⟩
      · rw [List.getElem?_set_ne hm] at e
        by_cases hm2 : j = m
        · subst hm2
          rw [List.getElem?_set_self hjl] at e
          cases e
        · rw [List.getElem?_set_ne hm2] at e
          exact .inr ⟨Ne.symm hm, Ne.symm hm2, e⟩
    have si : (σ.set i (some v))[i]? = some (some v) := List.getElem?_set_self (by rw [A.len]; exact hil)
    have sn : ∀ m, m ≠ i → (σ.set i (some v))[m]? = σ[m]? := fun m hm => List.getElem?_set_ne (Ne.symm hm)
    refine ⟨A.le, fun m a e => ?_, fun m n a b u hmn e1 e2 o1 o2 s1 => ?_, by simp [A.len]⟩
    · rcases key m a e with ⟨rfl, rfl⟩ | ⟨h3, h4, e⟩
      · exact ⟨v, si, h2⟩
      · rw [sn m h3]; exact A.sl m a e
    · rcases key m a e1 with ⟨rfl, rfl⟩ | ⟨h3, h4, f1⟩
      · rcases key n b e2 with ⟨rfl, rfl⟩ | ⟨h5, h6, f2⟩
        · exact absurd rfl hmn
        · rw [si] at s1; cases s1
          rw [sn n h5]
          exact A.ap j n _ _ _ (Ne.symm h6) hj f2 o1 o2 h1
      · rw [sn m h3] at s1
        rcases key n b e2 with ⟨rfl, rfl⟩ | ⟨h5, h6, f2⟩
        · rw [si]
          intro z; cases z
          exact A.ap m j _ _ _ h4 f1 hj o1 o2 s1 h1
        · rw [sn n h5]; exact A.ap m n _ _ _ hmn f1 f2 o1 o2 s1)
/-- a list of ints shown, its address told -/
theorem go_showP (i : Nat) {sts : List Stmt} {xs : List Int} (hi : Δ[i]? = some (some (.ol (xs.map .int)))) (h : ∀ p, H0 p = none → (∀ (j : Nat) (a : Addr) (l : List Int), Δ[j]? = some (some (.sh (.la a l))) → a ≠ p) → Go X S0 H0 Z sts (Δ.set i (some (.sh (.la p xs))))) : Go X S0 H0 Z sts Δ := fun S H σ A => by
  obtain ⟨v, h1, h2⟩ := A.sl i _ hi
  obtain ⟨p, vs, rfl, g1, g2, g3, g4⟩ := h2
  rw [RpL.ints.mp g4] at g3
  refine h p g1 (fun j a l e z => ?_) _ H σ (A.shown hi rfl h1 g2 g1 g3 (Rp.la.mpr ⟨rfl, upd_same⟩))
  subst z
  obtain ⟨u, _, f2⟩ := A.sl j _ e
  have := (Rp.la.mp f2).2
  rw [g2] at this
  cases this
/-- .. may be read as one -/
theorem ed_la {q : Addr} {xs : List Int} (h : Ed X Δ e (.la q xs)) : Ed X Δ e (dI xs) := fun S0 H0 S H σ A Q k => h S0 H0 S H σ A _ fun v S1 H1 l1 r1 => k v S1 H1 l1 (Rp.lst.mpr ⟨q, _, (Rp.la.mp r1).1, (Rp.la.mp r1).2, RpL.ints.mpr rfl⟩)
end
/-- a world of some lists of ints alone -/
def Lc (S : Hp) : Prop := ∀ p o, S p = some o → ∃ xs : List Int, o = .lst (xs.map V.int)
/-- what stays when the world is reset: known lists; new ones are owned again -/
inductive Rs (S0 H0 : Hp) : Option Av → Option Av → Prop
  | none {a : Option Av} : Rs S0 H0 a none
  | old {a : Addr} {xs : List Int} (h : S0 a = some (.lst (xs.map V.int))) : Rs S0 H0 (some (.sh (.la a xs))) (some (.sh (.la a xs)))
  | new {a : Addr} {xs : List Int} (h : H0 a = .none) (h2 : S0 a = .none) : Rs S0 H0 (some (.sh (.la a xs))) (some (.ol (xs.map .int)))
theorem Ab.reset {S0 H0 S H : Hp} {σ : L2.St} {Δ Δ' : Dl} (A : Ab S0 H0 S H σ Δ) (hS : Sb S0 H0) (hL : Lc S0) (hl : Δ'.length = Δ.length) (hr : ∀ (i : Nat) (a : Av), Δ'[i]? = some (some a) → ∃ b, Δ[i]? = some b ∧ Rs S0 H0 b (some a))
    (hd : ∀ (i j : Nat) (p : Addr) (xs ys : List Int), i ≠ j → Δ[i]? = some (some (.sh (.la p xs))) → Δ[j]? = some (some (.sh (.la p ys))) → H0 p ≠ none) : Ab S0 H0 S0 H σ Δ' := by
  have nm : ∀ a x, S0 a ≠ some (.own x) := fun a x z => by obtain ⟨xs, e⟩ := hL a _ z; cases e
  have ex : Ex H0 H := fun a o q => by
    rcases A.le.h a o q with z | ⟨⟨x, z⟩, _⟩
    · exact z
    · exact absurd z (nm a x)
  refine ⟨⟨.refl _, fun a o q => .inl (ex a o q), ⟨fun a o q hu => ex a o (hS.ex a o q hu), fun a x q => absurd q (nm a x)⟩, fun a o h _ _ => h⟩, fun i a e => ?_, fun i j a b v hij e1 e2 o1 o2 s1 => ?_, A.len.trans hl.symm⟩
  · obtain ⟨b, eb, r⟩ := hr i a e
    cases r with
    | old h =>
      obtain ⟨v, h1, h2⟩ := A.sl i _ eb
      exact ⟨v, h1, Rp.la.mpr ⟨(Rp.la.mp h2).1, h⟩⟩
    | new h h3 =>
      obtain ⟨v, h1, h2⟩ := A.sl i _ eb
      obtain ⟨g1, g2⟩ := Rp.la.mp h2
      exact ⟨v, h1, _, _, g1, h, h3, A.sub _ _ g2, RpL.ints.mpr rfl⟩
  · obtain ⟨a', ea, ra⟩ := hr i a e1
    obtain ⟨b', eb, rb⟩ := hr j b e2
    cases ra with
    | old _ => cases o1
    | new h h3 =>
      cases rb with
      | old _ => cases o2
      | new h' h3' =>
        obtain ⟨u, h1, h2⟩ := A.sl i _ ea
        obtain ⟨u', h1', h2'⟩ := A.sl j _ eb
        rw [s1] at h1; cases h1
        intro z
        rw [z] at h1'; cases h1'
        have q1 := (Rp.la.mp h2).1
        have q2 := (Rp.la.mp h2').1
        rw [q1] at q2; cases q2
        exact hd i j _ _ _ hij ea eb h
theorem go_reset {X : Cx} {S0 H0 : Hp} {Z : Ends} {Δ Δ' : Dl} {sts : List Stmt} (hS : Sb S0 H0) (hL : Lc S0) (hl : Δ'.length = Δ.length) (hr : ∀ (i : Nat) (a : Av), Δ'[i]? = some (some a) → ∃ b, Δ[i]? = some b ∧ Rs S0 H0 b (some a))
    (hd : ∀ (i j : Nat) (p : Addr) (xs ys : List Int), i ≠ j → Δ[i]? = some (some (.sh (.la p xs))) → Δ[j]? = some (some (.sh (.la p ys))) → H0 p ≠ none) (h : Go X S0 H0 Z sts Δ') : Go X S0 H0 Z sts Δ := fun S H σ A => h S0 H σ (A.reset hS hL hl hr hd)
end Bb
end
section
set_option maxRecDepth 100000
set_option maxHeartbeats 4000000
/-! M1: words lowered, tallies. -/
namespace Bb
theorem sum_perm {l m : List Int} (h : l.Perm m) : l.sum = m.sum := by
  induction h with
  | nil => rfl
  | cons a _ ih => rw [List.sum_cons, List.sum_cons, ih]
  | swap a b l => simp only [List.sum_cons]; omega
  | trans _ _ h1 h2 => exact h1.trans h2
theorem sum_set {xs : List Int} {p : Nat} {v : Int} (h : p < xs.length) : (xs.set p v).sum = xs.sum - xs.getD p 0 + v := by
  induction xs generalizing p with
  | nil => simp at h
  | cons a l ih =>
    cases p with
    | zero => simp; omega
    | succ p =>
      have := ih (p := p) (by simpa using h)
      simp only [List.set_cons_succ, List.sum_cons, this, List.getD_cons_succ]; omega
theorem sum_filter0 {l : List Int} (h : ∀ x ∈ l, 0 ≤ x) : (l.filter fun v => decide (0 < v)).sum = l.sum := by
  induction l with
  | nil => rfl
  | cons a l ih =>
    have h1 := h a List.mem_cons_self
    have h2 := ih fun x hx => h x (List.mem_cons_of_mem _ hx)
    rw [List.filter_cons]
    split
    · rw [List.sum_cons, List.sum_cons, h2]
    · rename_i q
      have q' : ¬ 0 < a := fun z => q (decide_eq_true z)
      rw [List.sum_cons, h2]; omega
theorem set_nn {xs : List Int} (h : ∀ x ∈ xs, 1 ≤ x) (p : Nat) (hp : p < xs.length) : ∀ x ∈ xs.set p (xs.getD p 0 - 1), 0 ≤ x := fun x hx => by
  rcases List.mem_or_eq_of_mem_set hx with q | q
  · have := h x q; omega
  · have : xs.getD p 0 ∈ xs := by simp [List.getD, hp]
    have := h _ this
    omega
theorem lower_sum {xs : List Int} (h : ∀ x ∈ xs, 1 ≤ x) {p : Nat} (hp : p < xs.length) : (lowerM xs p).sum = xs.sum - 1 := by
  unfold lowerM
  rw [sum_perm (sortD_perm _), sum_filter0 (set_nn h p hp), sum_set hp]; omega
theorem lower_pos (xs : List Int) (p : Nat) : ∀ x ∈ lowerM xs p, 1 ≤ x := fun x hx => by
  have := (sortD_perm _).mem_iff.mp hx
  have := (List.mem_filter.mp this).2
  have := of_decide_eq_true this
  omega
theorem lower_good {xs : List Int} (h : Good xs) {p : Nat} (hp : p < xs.length) : Good (lowerM xs p) := ⟨lower_pos xs p, by rw [lower_sum h.1 hp]; have := h.2; omega⟩
theorem takeM_eq {xs : List Int} (h : ∀ x ∈ xs, 1 ≤ x) {p : Nat} (hp : p < xs.length) : takeM xs p = lowerM xs p := by
  unfold takeM lowerM normalM
  congr 1
  apply List.filter_congr
  intro x hx
  have := set_nn h p hp x hx
  by_cases e : x = 0
  · subst e; rfl
  · rw [decide_eq_false e, decide_eq_true (show 0 < x by omega)]; rfl
theorem Good.nil : Good [] := ⟨by simp, by simp⟩
theorem good_len {xs : List Int} (h : Good xs) : xs.length ≤ 14 := by
  have := sum_pos h.1
  have := h.2
  omega
theorem good_ne {xs : List Int} (h : Good xs) (hs : xs.sum ≠ 0) : 0 < xs.length := by
  cases xs with
  | nil => simp at hs
  | cons a l => simp
theorem good_sum0 {xs : List Int} (h : Good xs) (hs : xs.sum = 0) : xs = [] := by
  have := sum_pos h.1
  exact List.eq_nil_of_length_eq_zero (by omega)
theorem good_sumpos {xs : List Int} (h : Good xs) (hs : xs ≠ []) : 1 ≤ xs.sum := by
  have := sum_pos h.1
  have := List.length_pos_iff.mpr hs
  omega
/-- the two plucks -/
def plM (w : List Int) : List Int × Option (List Int) := (lowerM w 0, if w.length = 1 then none else some (lowerM w (w.length - 1)))
theorem tallyF_len : ∀ (n : Nat) (xs : List Int), (tallyF n xs).length = n + 1
  | 0, _ => rfl
  | n + 1, xs => by
    unfold tallyF
    split
    · rw [List.length_append, tallyF_len n]; rfl
    · rw [List.length_zipWith, List.length_append, List.length_cons (as := tallyF n _), tallyF_len n, tallyF_len n]; simp
theorem tallyL_len (xs : List Int) : (tallyL xs).length = xs.sum.toNat + 1 := tallyF_len _ _
theorem tallyL_nil : tallyL [] = [1] := rfl
theorem tallyL_step {xs : List Int} (h : Good xs) (hn : xs ≠ []) : tallyL xs = if xs.length ≤ 1 then tallyL (lowerM xs 0) ++ [0] else List.zipWith (· + ·) (tallyL (lowerM xs 0) ++ [0]) (0 :: tallyL (lowerM xs (xs.length - 1))) := by
  have hl := List.length_pos_iff.mpr hn
  have h1 := good_sumpos h hn
  have e1 : (lowerM xs 0).sum.toNat = xs.sum.toNat - 1 := by rw [lower_sum h.1 hl]; omega
  have e2 : (lowerM xs (xs.length - 1)).sum.toNat = xs.sum.toNat - 1 := by rw [lower_sum h.1 (by omega)]; omega
  unfold tallyL
  rw [e1, e2]
  obtain ⟨n, hn⟩ : ∃ n, xs.sum.toNat = n + 1 := ⟨xs.sum.toNat - 1, by omega⟩
  rw [hn]
  rfl
def cntL (xs : List Int) : Int := (tallyL xs).sum
theorem sum_zip : ∀ {a b : List Int}, a.length = b.length → (List.zipWith (· + ·) a b).sum = a.sum + b.sum
  | [], [], _ => rfl
  | x :: a, y :: b, h => by
    have := sum_zip (a := a) (b := b) (by simpa using h)
    simp only [List.zipWith_cons_cons, List.sum_cons, this]; omega
theorem cntL_step {xs : List Int} (h : Good xs) (hn : xs ≠ []) : cntL xs = cntL (lowerM xs 0) + (if xs.length ≤ 1 then 0 else cntL (lowerM xs (xs.length - 1))) := by
  have hl := List.length_pos_iff.mpr hn
  unfold cntL
  rw [tallyL_step h hn]
  split
  · rw [List.sum_append]; simp
  · rw [sum_zip, List.sum_append, List.sum_cons]
    · simp
    · rw [List.length_append, List.length_cons (as := tallyL _), tallyL_len, tallyL_len, lower_sum h.1 hl, lower_sum h.1 (by omega)]; rfl
theorem zip_nn : ∀ {a b : List Int}, (∀ x ∈ a, 0 ≤ x) → (∀ x ∈ b, 0 ≤ x) → ∀ x ∈ List.zipWith (· + ·) a b, 0 ≤ x
  | [], _, _, _, x, hx => by simp at hx
  | _ :: _, [], _, _, x, hx => by simp at hx
  | a :: l, b :: m, h1, h2, x, hx => by
    rw [List.zipWith_cons_cons] at hx
    rcases List.mem_cons.mp hx with rfl | hx
    · have := h1 a List.mem_cons_self
      have := h2 b List.mem_cons_self
      omega
    · exact zip_nn (fun x hx => h1 x (List.mem_cons_of_mem _ hx)) (fun x hx => h2 x (List.mem_cons_of_mem _ hx)) x hx
theorem tallyF_nn : ∀ (n : Nat) (xs : List Int), ∀ x ∈ tallyF n xs, 0 ≤ x
  | 0, _, x, hx => by simp [tallyF] at hx; omega
  | n + 1, xs, x, hx => by
    unfold tallyF at hx
    have ha : ∀ x ∈ tallyF n (lowerM xs 0) ++ [0], 0 ≤ x := fun x hx => by
      rcases List.mem_append.mp hx with q | q
      · exact tallyF_nn n _ x q
      · simp at q; omega
    split at hx
    · exact ha x hx
    · refine zip_nn ha (fun x hx => ?_) x hx
      rcases List.mem_cons.mp hx with rfl | q
      · exact Int.le_refl _
      · exact tallyF_nn n _ x q
theorem cntL_nn (xs : List Int) : 0 ≤ cntL xs := sum_nn (tallyF_nn _ _)
/-- a row with the first m of another's added, one to the right -/
def addP (base below : List Int) (m : Nat) : List Int := (List.range base.length).map fun j => base.getD j 0 + (if 1 ≤ j ∧ j ≤ m then below.getD (j - 1) 0 else 0)
theorem addP_len (base below : List Int) (m : Nat) : (addP base below m).length = base.length := by simp [addP]
theorem addP_zero (base below : List Int) : addP base below 0 = base := by
  unfold addP
  apply List.ext_getElem
  · simp
  · intro i h1 h2
    have : ¬ (1 ≤ i ∧ i = 0) := by omega
    simp [List.getD, h2]
    rw [if_neg this]; omega
theorem addP_at {base below : List Int} {m j : Nat} (h : j < base.length) : (addP base below m)[j]? = some (base.getD j 0 + (if 1 ≤ j ∧ j ≤ m then below.getD (j - 1) 0 else 0)) := by
  unfold addP
  rw [List.getElem?_map, List.getElem?_range h]; rfl
theorem addP_succ {base below : List Int} {m : Nat} (h : m + 1 < base.length) : (addP base below m).set (m + 1) (base.getD (m + 1) 0 + below.getD m 0) = addP base below (m + 1) := by
  apply List.ext_getElem?
  intro j
  by_cases hj : m + 1 = j
  · subst hj
    rw [List.getElem?_set_self (by rw [addP_len]; exact h), addP_at h]
    simp
  · rw [List.getElem?_set_ne hj]
    by_cases hl : j < base.length
    · rw [addP_at hl, addP_at hl]
      have : (1 ≤ j ∧ j ≤ m) ↔ (1 ≤ j ∧ j ≤ m + 1) := by omega
      simp only [this]
    · rw [List.getElem?_eq_none (by rw [addP_len]; omega), List.getElem?_eq_none (by rw [addP_len]; omega)]
theorem addP_all {base below : List Int} (h : base.length = below.length + 1) : addP base below below.length = List.zipWith (· + ·) base (0 :: below) := by
  apply List.ext_getElem?
  intro j
  by_cases hl : j < base.length
  · rw [addP_at hl]
    rw [List.getElem?_zipWith]
    have e : base[j]? = some (base.getD j 0) := by simp [List.getD, hl]
    rw [e]
    cases j with
    | zero => simp
    | succ j =>
      have hb : j < below.length := by omega
      have e2 : (0 :: below)[j + 1]? = some (below.getD j 0) := by simp [List.getD, hb]
      rw [e2]
      have : 1 ≤ j + 1 ∧ j + 1 ≤ below.length := by omega
      simp [this]
  · rw [List.getElem?_eq_none (by rw [addP_len]; omega), List.getElem?_eq_none (by rw [List.length_zipWith, List.length_cons]; omega)]
end Bb
end
section
set_option maxRecDepth 100000
set_option maxHeartbeats 4000000
namespace Bb
open PySem PySem.Spec PyProof.Rows L2
def optD : Option (List Int) → D
  | none => .non
  | some r => tI r
def plD (p : List Int × Option (List Int)) : D := .tup [tI p.1, optD p.2]
section
variable {P : Program} {w : World} {K : PySem.W.Frag} {mg : Str → Option Value} {base : Heap}
structure WdOk (xs : List Int) : Prop where
  good : Good xs
  ne : xs ≠ []
abbrev spPlucks : Sp := spT (fun xs : List Int => [tI xs]) WdOk (fun xs => .sh (plD (plM xs)))
theorem fo_plucks (T : Txt K mg) (c1 : Cal P w K mg base 3 "take_largest" ["sizes"] [] spTakeL) (c2 : Cal P w K mg base 3 "take_smallest" ["sizes"] [] spTakeS) : Cal P w K mg base 4 "best_plucks" ["word"] [] spPlucks := by
  obtain ⟨fd, F⟩ := T.f_best_plucks
  refine cal_of F (def_ok F sc_best_plucks (fun _ => rfl) fun cdv A outer s H E hr xs hp S0 Z kk hnx => ?_) T.g_best_plucks (fun _ _ _ _ _ _ us hl => match us, hl with | [_], _ => rfl)
  obtain ⟨hg, hn⟩ := hp
  have hl := List.length_pos_iff.mpr hn
  have hl2 := good_len hg
  refine go_set 1 (a := .sh (tI (lowerM xs 0))) ?_ ?_ sc_best_plucks.nd
  · refine Ed.to (ed_tupleL (ed_call c1 xs (ea_cons (ev_listT (ed_var 0) T.n_list).lst ea_nil) ⟨by omega, hn⟩ (hr.mono (by decide))) T.n_tuple) ?_
    rw [takeM_eq hg.1 hl]
  refine go_if (t := decide ((xs.length : Int) = 1)) (Et.to (et_eqI (ed_lenT (ed_var 0) T.n_len) ed_int) (by rw [List.length_map])) (fun h => ?_) (fun h => ?_)
  · have h1 : xs.length = 1 := by have := of_decide_eq_true h; omega
    refine go_ret (Ed.to (ed_tup (ea_cons (ed_var 1) (ea_cons ed_non ea_nil))) ?_) kk
    simp only [plD, plM, if_pos h1, optD]
  · have h1 : ¬ xs.length = 1 := by have := of_decide_eq_false h; omega
    refine go_nil (nx_go ?_)
    refine go_ret (Ed.to (ed_tup (ea_cons (ed_var 1) (ea_cons (ed_tupleL (ed_call c2 xs (ea_cons (ev_listT (ed_var 0) T.n_list).lst ea_nil) ⟨by omega, hn⟩ (hr.mono (by decide))) T.n_tuple) ea_nil))) ?_) kk
    rw [takeM_eq hg.1 (by omega)]
    simp only [plD, plM, if_neg h1, optD]

/-! ### layers -/
def aftK (z : Option (List Int)) : List Int := z.getD []
def nextT (ws : List (List Int)) : Tb := tab2 (fun y : List Int × Option (List Int) => [some y.1, y.2]) (fun z => z.isSome) aftK (fun _ => .bl true) (ws.map plM)
def nextW (ws : List (List Int)) : List (List Int) := (nextT ws).map (·.1)
theorem tabF_keys {β : Type} {K : β → List Int} {E : β → D} : ∀ {ys : List β} {l : Tb} (j : List Int), j ∈ (tabF K E l ys).map (·.1) ↔ j ∈ l.map (·.1) ∨ j ∈ ys.map K
  | [], l, j => by simp [tabF]
  | y :: ys, l, j => by
    have := tabF_keys (K := K) (E := E) (ys := ys) (l := putA l (K y) (E y)) j
    show j ∈ (tabF K E (putA l (K y) (E y)) ys).map (·.1) ↔ _
    rw [this, putA_keys, List.map_cons, List.mem_cons, or_assoc]
theorem tabF_nd {β : Type} {K : β → List Int} {E : β → D} : ∀ {ys : List β} {l : Tb}, (l.map (·.1)).Nodup → ((tabF K E l ys).map (·.1)).Nodup
  | [], l, h => h
  | y :: ys, l, h => tabF_nd (ys := ys) (putA_nodup h)
theorem nextW_nd (ws : List (List Int)) : (nextW ws).Nodup := tabF_nd List.nodup_nil
theorem nextW_mem {ws : List (List Int)} {v : List Int} : v ∈ nextW ws ↔ ∃ w ∈ ws, v = (plM w).1 ∨ (plM w).2 = some v := by
  unfold nextW nextT tab2
  rw [tabF_keys]
  simp only [List.map_nil, List.not_mem_nil, false_or, List.mem_map, List.mem_flatMap, List.mem_filter]
  constructor
  · rintro ⟨z, ⟨y, ⟨w, hw, rfl⟩, hz, hs⟩, rfl⟩
    refine ⟨w, hw, ?_⟩
    rcases List.mem_cons.mp hz with rfl | hz
    · exact .inl rfl
    · rcases List.mem_cons.mp hz with rfl | hz
      · obtain ⟨r, hr⟩ := Option.isSome_iff_exists.mp hs
        rw [hr]; exact .inr rfl
      · simp at hz
  · rintro ⟨w, hw, h | h⟩
    · exact ⟨some (plM w).1, ⟨_, ⟨w, hw, rfl⟩, by simp, rfl⟩, h.symm⟩
    · exact ⟨(plM w).2, ⟨_, ⟨w, hw, rfl⟩, by simp, by rw [h]; rfl⟩, by rw [h]; rfl⟩
def wsAt (w : List Int) : Nat → List (List Int)
  | 0 => [w]
  | n + 1 => nextW (wsAt w n)
theorem plM_good {w : List Int} (h : Good w) (hn : w ≠ []) : Good (plM w).1 ∧ (plM w).1.sum = w.sum - 1 ∧ ∀ v, (plM w).2 = some v → Good v ∧ v.sum = w.sum - 1 := by
  have hl := List.length_pos_iff.mpr hn
  refine ⟨lower_good h hl, lower_sum h.1 hl, fun v hv => ?_⟩
  unfold plM at hv
  split at hv
  · cases hv
  · cases hv
    exact ⟨lower_good h (by omega), lower_sum h.1 (by omega)⟩
theorem wsAt_ok {w : List Int} (h : Good w) : ∀ j : Nat, j ≤ w.sum.toNat → (wsAt w j).Nodup ∧ ∀ v ∈ wsAt w j, Good v ∧ v.sum = w.sum - (j : Int)
  | 0, _ => ⟨by simp [wsAt], fun v hv => by simp [wsAt] at hv; subst hv; exact ⟨h, by simp⟩⟩
  | j + 1, hj => by
    obtain ⟨h1, h2⟩ := wsAt_ok h j (by omega)
    refine ⟨nextW_nd _, fun v hv => ?_⟩
    obtain ⟨u, hu, hv⟩ := nextW_mem.mp hv
    obtain ⟨g1, g2⟩ := h2 u hu
    obtain ⟨p1, p2, p3⟩ := plM_good g1 (fun z => by subst z; simp at g2; omega)
    rcases hv with rfl | hv
    · exact ⟨p1, by rw [p2, g2]; push_cast; omega⟩
    · obtain ⟨p4, p5⟩ := p3 v hv
      exact ⟨p4, by rw [p5, g2]; push_cast; omega⟩
theorem wsAt_wd {w : List Int} (h : Good w) {j : Nat} (hj : j < w.sum.toNat) : ∀ v ∈ wsAt w j, WdOk v := fun v hv => by
  obtain ⟨_, h2⟩ := wsAt_ok h j (by omega)
  obtain ⟨g1, g2⟩ := h2 v hv
  exact ⟨g1, fun z => by subst z; simp at g2; omega⟩
theorem wsAt_len {w : List Int} (h : Good w) {j : Nat} (hj : j ≤ w.sum.toNat) : (wsAt w j).length ≤ 40000 := few (wsAt_ok h j hj).1 fun v hv => ((wsAt_ok h j hj).2 v hv).1
def layT (ws : List (List Int)) : Tb := ws.map fun v => (v, plD (plM v))
def layD (ws : List (List Int)) : D := dT (layT ws)
abbrev spLayers : Sp := spT (fun xs : List Int => [.lst [dI xs]]) Good (fun xs => .ol ((List.range xs.sum.toNat).map fun j => layD (wsAt xs j)))
theorem fo_layers (T : Txt K mg) (c1 : Cal P w K mg base 4 "best_plucks" ["word"] [] spPlucks) : Cal P w K mg base 5 "play_layers" ["starts"] [] spLayers := by
  obtain ⟨fd, F⟩ := T.f_play_layers
  refine cal_of F (def_ok F sc_play_layers (fun _ => rfl) fun cdv A outer s H E hr xs hp S0 Z kk hnx => ?_) T.g_play_layers (fun _ _ _ _ _ _ us hl => match us, hl with | [_], _ => rfl)
  have hg : Good xs := hp
  have hu : (XF P w K mg base N_play_layers (Str.ofString "play_layers") (defScope s_play_layers) (He.ga K (Str.ofString "play_layers")) cdv A outer s H E).A.units + 64 < cLine := hr.units
  have hs := hg.2
  have hs0 : 0 ≤ xs.sum := sum_nn fun x hx => by have := hg.1 x hx; omega
  refine go_set 1 (ev_lst ea_nil) ?_ sc_play_layers.nd
  refine go_setLc 2 (j := 5) [xs] (fun xs => dI xs) (fun _ => true) (fun xs => tI xs) (ei_list (ed_var 0)) rfl (by simp) sc_play_layers.nd (fun y _ => .nil) (fun y _ _ s H C cl fp => ed_tupleL (ed_var 5) T.n_tuple)
    (blkOk_by (N := N_play_layers) (sc := defScope s_play_layers) (by decide +kernel)) (fun _ _ _ _ _ => pg_name sc_play_layers.nd rfl (Or.inl rfl)) ?_ (sw_true rfl rfl rfl (by decide +kernel))
  refine go_show 2 rfl ?_
  refine go_for (fun a : List D × List (List Int) => [some (.sh (.lst [dI xs])), some (.ol a.1), some (.sh (.lst (a.2.map tI))), none, none, none, none, none, none]) (fun i a => a.1 = (List.range i).map (fun j => layD (wsAt xs j)) ∧ a.2 = wsAt xs i) (List.range xs.sum.toNat) (fun i : Nat => .int (i : Int))
    (ei_rng1 (Ed.to (ed_sum (ed_ixL (ed_var 0) ed_int (atI_intN (j := 0) rfl rfl)) T.n_sum) rfl) (by omega) T.n_range) rfl ([], [xs]) ⟨rfl, rfl⟩ (Wk.refl _) ?_ ?_
  · rintro S1 rb i y ⟨ls, ws⟩ hy ⟨h1, h2⟩
    obtain ⟨rfl, hi⟩ := range_at hy
    simp only at h1 h2
    subst h1
    have ok := wsAt_ok hg y (by omega)
    have wd := wsAt_wd hg hi
    have len := wsAt_len hg (j := y) (by omega)
    refine ⟨_, eg_name 3 sc_play_layers.nd, ?_⟩
    refine go_setDc 4 (j := 6) ws tI (fun v => v) (fun v => plD (plM v)) (ei_list (ed_var 2)) rfl (by rw [h2]; omega) sc_play_layers.nd hu (fun v _ s H C cl fp => ed_var 6) (fun v hv s H C cl fp => ed_call c1 v (ea_cons (ed_var 6) ea_nil) (wd v (h2 ▸ hv)) (hr.mono (by decide)))
      (blkOk_by (N := N_play_layers) (sc := defScope s_play_layers) (by decide +kernel)) (fun _ _ _ _ _ => pg_name sc_play_layers.nd rfl (Or.inl rfl)) ?_ (swaps_dict rfl rfl rfl (by decide +kernel))
    have e : tabF (fun v => v) (fun v => plD (plM v)) [] ws = layT ws := by
      rw [tabF_nodup (by rw [List.map_id', h2]; exact ok.1) (by simp)]; rfl
    rw [e]
    refine go_show 4 rfl ?_
    refine go_app 1 rfl (d := layD ws) (ed_var 4) (by simp; omega) ?_
    refine go_set 2 (a := .sh (.lst ((nextW ws).map tI))) ?_ ?_ sc_play_layers.nd
    · refine Ed.to (ev_listD (l := nextT ws) (Ev.show (ev_dc2 (j := 7) (j1 := 8) (ws.map plM) plD (fun y => [some y.1, y.2]) optD (fun z => z.isSome) aftK (fun _ => .bl true) (ei_values (l := layT ws) (ed_var 4)) ?_ ?_ sc_play_layers.nd hu
        (fun y _ s H C cl fp => ei_tup (ed_var 7)) (fun y _ z _ => .one fun s H C cl fp => Et.to (et_notN (ed_var 8)) ?_) (fun y _ z _ hz s H C cl fp => Ed.to (ed_var 8) ?_) (fun y _ z _ hz s H C cl fp => ed_bl)
        (blkOk_by (N := N_play_layers) (sc := defScope s_play_layers) (by decide +kernel)) (fun _ _ _ _ _ => pg_name sc_play_layers.nd rfl (Or.inl rfl)) (fun _ _ _ _ _ => pg_name sc_play_layers.nd rfl (Or.inl rfl)))) T.n_list).lst ?_
      · simp [layT]
      · rw [List.length_flatMap]
        have : ((ws.map plM).map fun y : List Int × Option (List Int) => [some y.1, y.2].length) = List.replicate ws.length 2 := by
          rw [List.map_map]; show ws.map (fun _ => 2) = _; exact List.map_const' ..
        rw [this, List.sum_replicate_nat, h2]; omega
      · cases z <;> rfl
      · cases z with
        | none => cases hz
        | some r => rfl
      · rw [nextW, List.map_map]; rfl
    · refine go_next rfl ((List.range y).map (fun j => layD (wsAt xs j)) ++ [layD ws], nextW ws) ⟨?_, ?_⟩ (.keep (.keep (.keep (.skip (.skip (.skip (.skip (.skip (.skip .nil)))))))))
      · show _ ++ _ = _
        rw [List.range_succ, List.map_append, h2]; rfl
      · show nextW ws = _
        rw [h2]; rfl
  · rintro ⟨ls, ws⟩ ⟨h1, h2⟩
    simp only [List.length_range] at h1
    subst h1
    exact go_retO 1 rfl kk
end
end Bb
end
section
set_option maxRecDepth 100000
set_option maxHeartbeats 4000000
namespace Bb
open PySem PySem.Spec PyProof.Rows L2
def iT (c : List (List Int × Int)) : Tb := c.map fun p => (p.1, .int p.2)
def kys {α : Type} (c : List (List Int × α)) : List (List Int) := c.map (·.1)
/-- counts so far -/
structure CInv (c : List (List Int × Int)) : Prop where
  nd : (kys c).Nodup
  val : ∀ p ∈ c, Good p.1 ∧ p.2 = cntL p.1
  cl : ∀ k ∈ kys c, k ≠ [] → (plM k).1 ∈ kys c ∧ ∀ v, (plM k).2 = some v → v ∈ kys c
theorem get_of_mem {α : Type} {c : List (List Int × α)} {k : List Int} (h : k ∈ kys c) : ∃ v, getA c k = some v := by
  cases q : getA c k with
  | none => exact absurd h (getA_none.mp q)
  | some v => exact ⟨v, rfl⟩
theorem CInv.get {c : List (List Int × Int)} (h : CInv c) {k : List Int} (hk : k ∈ kys c) : getA c k = some (cntL k) := by
  obtain ⟨v, hv⟩ := get_of_mem hk
  have e := (h.val _ (getA_mem hv)).2
  simp only at e
  rw [hv, e]
theorem CInv.getT {c : List (List Int × Int)} (h : CInv c) {k : List Int} (hk : k ∈ kys c) : getA (iT c) k = some (.int (cntL k)) := by
  unfold iT
  rw [getA_map, h.get hk]; rfl
theorem CInv.good {c : List (List Int × Int)} (h : CInv c) {k : List Int} (hk : k ∈ kys c) : Good k := by
  obtain ⟨p, hp, rfl⟩ := List.mem_map.mp hk
  exact (h.val p hp).1
theorem CInv.len {c : List (List Int × Int)} (h : CInv c) : c.length ≤ 40000 := by
  have := few h.nd fun k hk => h.good hk
  unfold kys at this
  rwa [List.length_map] at this
theorem CInv.put {c : List (List Int × Int)} (h : CInv c) {k : List Int} (hg : Good k) (h1 : k ≠ [] → (plM k).1 ∈ kys c) (h2 : k ≠ [] → ∀ v, (plM k).2 = some v → v ∈ kys c) : CInv (putA c k (cntL k)) where
  nd := putA_nodup h.nd
  val := fun p hp => by
    unfold putA at hp
    split at hp
    · obtain ⟨q, hq, rfl⟩ := List.mem_map.mp hp
      split
      · rename_i e; exact ⟨by show Good q.1; rw [e]; exact hg, by show cntL k = cntL q.1; rw [e]⟩
      · exact h.val q hq
    · rcases List.mem_append.mp hp with hp | hp
      · exact h.val p hp
      · simp at hp; subst hp; exact ⟨hg, rfl⟩
  cl := fun j hj hn => by
    have up : ∀ v, v ∈ kys c → v ∈ kys (putA c k (cntL k)) := fun v hv => (putA_keys v).mpr (.inl hv)
    rcases (putA_keys j).mp hj with hj | rfl
    · obtain ⟨g1, g2⟩ := h.cl j hj hn
      exact ⟨up _ g1, fun v hv => up _ (g2 v hv)⟩
    · exact ⟨up _ (h1 hn), fun v hv => up _ (h2 hn v hv)⟩
theorem putA_put {α : Type} {c : List (List Int × α)} {k : List Int} {u v : α} : putA (putA c k u) k v = putA c k v := by
  have e : ((putA c k u).any fun p => decide (p.1 = k)) = true := by rw [getA_any, getA_put, if_pos rfl]; rfl
  unfold putA at e ⊢
  split
  · rename_i h
    rw [if_pos h] at e
    rw [if_pos e, List.map_map]
    apply List.map_congr_left
    intro p _
    by_cases q : p.1 = k <;> simp [q]
  · rename_i h
    rw [if_neg h] at e
    rw [if_pos e, List.map_append]
    congr 1
    · conv => rhs; rw [← List.map_id c]
      apply List.map_congr_left
      intro p hp
      by_cases q : p.1 = k
      · exact absurd (List.any_eq_true.mpr ⟨p, hp, by simp [q]⟩) h
      · simp [q]
    · simp
theorem iT_put {c : List (List Int × Int)} {k : List Int} {v : Int} : putA (iT c) k (.int v) = iT (putA c k v) := putA_map (f := D.int)
theorem iT_len (c : List (List Int × Int)) : (iT c).length = c.length := by simp [iT]
theorem CInv.one : CInv [([], 1)] := ⟨by simp [kys], fun p hp => by simp at hp; subst hp; exact ⟨Good.nil, rfl⟩, fun k hk hn => by simp [kys] at hk; exact absurd hk hn⟩
section
variable {P : Program} {w : World} {K : PySem.W.Frag} {mg : Str → Option Value} {base : Heap}
def CountsOf (xs : List Int) (av : Av) : Prop := ∃ c, CInv c ∧ xs ∈ kys c ∧ av = oT (iT c)
abbrev spCounts : Sp := spX (fun xs : List Int => [.lst [dI xs]]) Good CountsOf
theorem fo_counts (T : Txt K mg) (c1 : Cal P w K mg base 5 "play_layers" ["starts"] [] spLayers) : Cal P w K mg base 6 "order_counts" ["starts"] [] spCounts := by
  obtain ⟨fd, F⟩ := T.f_order_counts
  refine cal_of F (def_okG F sc_order_counts (fun _ => rfl) fun cdv A outer s H E hr xs hp S0 Z hsb kk hnx => ?_) T.g_order_counts (fun _ _ _ _ _ _ us hl => match us, hl with | [_], _ => rfl)
  have hg : Good xs := hp
  have hu : (XF P w K mg base N_order_counts (Str.ofString "order_counts") (defScope s_order_counts) (He.ga K (Str.ofString "order_counts")) cdv A outer s H E).A.units + 64 < cLine := hr.units
  have hs0 : 0 ≤ xs.sum := sum_nn fun x hx => by have := hg.1 x hx; omega
  refine go_set 1 (ev_disp1 (k := []) (d := .int 1) (Ed.to (ed_tup ea_nil) rfl) ed_int hu) ?_ sc_order_counts.nd
  refine go_for (fun c : List (List Int × Int) => [some (.sh (.lst [dI xs])), some (oT (iT c)), none, none, none, none]) (fun i c => CInv c ∧ i ≤ xs.sum.toNat ∧ ∀ v ∈ wsAt xs (xs.sum.toNat - i), v ∈ kys c) (List.range xs.sum.toNat).reverse (fun j => layD (wsAt xs j))
    (ei_rev (ed_call c1 xs (ea_cons (ed_var 0) ea_nil) hg (hr.mono (by decide))) T.n_reversed) (by rw [List.map_reverse]) [([], 1)] ⟨CInv.one, Nat.zero_le _, fun v hv => ?_⟩ (Wk.refl _) ?_ ?_
  · obtain ⟨_, h2⟩ := wsAt_ok hg xs.sum.toNat (Nat.le_refl _)
    obtain ⟨g1, g2⟩ := h2 v hv
    have : v = [] := good_sum0 g1 (by rw [g2]; omega)
    subst this
    simp [kys]
  · rintro S1 rb i y c hy ⟨hc, hi', hin⟩
    have hi : i < xs.sum.toNat := by
      have := (List.getElem?_eq_some_iff.mp hy).1
      rwa [List.length_reverse, List.length_range] at this
    have ey : y = xs.sum.toNat - 1 - i := by
      rw [List.getElem?_reverse (by rw [List.length_range]; exact hi), List.length_range] at hy
      exact (range_at hy).1
    have e1 : xs.sum.toNat - i = y + 1 := by omega
    rw [e1] at hin
    have wd := wsAt_wd hg (j := y) (by omega)
    refine ⟨_, eg_name 2 sc_order_counts.nd, ?_⟩
    refine go_for (fun c : List (List Int × Int) => [some (.sh (.lst [dI xs])), some (oT (iT c)), some (.sh (layD (wsAt xs y))), none, none, none]) (fun m c => CInv c ∧ (∀ v ∈ nextW (wsAt xs y), v ∈ kys c) ∧ ∀ v ∈ (wsAt xs y).take m, v ∈ kys c) (wsAt xs y) (fun v => .tup [tI v, plD (plM v)])
      (ei_items (l := layT (wsAt xs y)) (ed_var 2)) (by rw [layT, List.map_map]; rfl) c ⟨hc, hin, by simp⟩ (.keep (.keep (.keep (.keep (.keep (.keep .nil)))))) ?_ ?_
    · rintro S2 rb2 m v c hv ⟨hc, hin, htk⟩
      have hvm := List.mem_of_getElem? hv
      obtain ⟨vg, vn⟩ := wd v hvm
      obtain ⟨p1, p2, p3⟩ := plM_good vg vn
      have k1 : (plM v).1 ∈ kys c := hin _ (nextW_mem.mpr ⟨v, hvm, .inl rfl⟩)
      have k2 : ∀ u, (plM v).2 = some u → u ∈ kys c := fun u h => hin _ (nextW_mem.mpr ⟨v, hvm, .inr h⟩)
      have hl := hc.len
      have ne1 : (plM v).1 ≠ v := fun z => by rw [z] at p2; omega
      refine ⟨_, eg_tup rfl (egs_cons (eg_name 3 sc_order_counts.nd) (egs_cons (eg_tup rfl (egs_cons (eg_name 4 sc_order_counts.nd) (egs_cons (eg_name 5 sc_order_counts.nd) egs_nil)) rfl rfl rfl) egs_nil)) rfl rfl rfl, ?_⟩
      refine go_dput 1 (l := iT c) (k := v) rfl (ed_dgetO 1 (l := iT c) rfl (ed_var 4) (hc.getT k1) hu) (ed_var 3) (by rw [iT_len]; omega) hu ?_
      have fin : ∀ (x : Int), x = cntL v → CInv (putA c v (cntL v)) ∧ (∀ u ∈ nextW (wsAt xs y), u ∈ kys (putA c v (cntL v))) ∧ ∀ u ∈ (wsAt xs y).take (m + 1), u ∈ kys (putA c v (cntL v)) := fun x hx => by
        refine ⟨hc.put vg (fun _ => k1) (fun _ => k2), fun u hu => (putA_keys u).mpr (.inl (hin u hu)), fun u hu => (putA_keys u).mpr ?_⟩
        rw [List.take_succ, hv] at hu
        rcases List.mem_append.mp hu with hu | hu
        · exact .inl (htk u hu)
        · simp at hu; exact .inr hu
      cases ho : (plM v).2 with
      | none =>
        refine go_if (t := false) (Et.to (et_notN (d := .non) (ed_var 5 (d := .non) rfl)) rfl) (fun h => nomatch h) (fun _ => ?_)
        refine go_nil (nx_go ?_)
        have hv1 : cntL v = cntL (plM v).1 := by
          rw [cntL_step vg vn]
          have : v.length ≤ 1 := by
            unfold plM at ho
            split at ho
            · omega
            · cases ho
          rw [if_pos this]; show _ = cntL (lowerM v 0); omega
        refine go_next rfl (putA c v (cntL v)) (fin _ rfl) ?_
        show Wk (some (.sh (.lst [dI xs])) :: some (oT (putA (iT c) v (.int (cntL (plM v).1)))) :: _) _
        rw [iT_put, ← hv1]
        exact .keep (.keep (.keep (.skip (.skip (.skip .nil)))))
      | some u =>
        refine go_if (t := true) (Et.to (et_notN (d := tI u) (ed_var 5 (d := tI u) rfl)) rfl) (fun _ => ?_) (fun h => nomatch h)
        have hv2 : cntL (plM v).1 + cntL u = cntL v := by
          rw [cntL_step vg vn]
          unfold plM at ho
          split at ho
          · cases ho
          · rename_i h1
            cases ho
            have := List.length_pos_iff.mpr vn
            rw [if_neg (by omega)]; rfl
        have ne2 : u ≠ v := fun z => by
          obtain ⟨_, q⟩ := p3 u ho
          rw [z] at q; omega
        have g1 : getA (putA (iT c) v (.int (cntL (plM v).1))) (plM v).1 = some (.int (cntL (plM v).1)) := by rw [getA_put, if_neg ne1]; exact hc.getT k1
        have g2 : getA (putA (iT c) v (.int (cntL (plM v).1))) u = some (.int (cntL u)) := by rw [getA_put, if_neg ne2]; exact hc.getT (k2 u ho)
        refine go_dput 1 (l := putA (iT c) v (.int (cntL (plM v).1))) (k := v) rfl (ed_add (ed_dgetO 1 (l := putA (iT c) v (.int (cntL (plM v).1))) rfl (ed_var 4) g1 hu) (ed_dgetO 1 (l := putA (iT c) v (.int (cntL (plM v).1))) rfl (ed_var 5 (d := tI u) rfl) g2 hu)) (ed_var 3) (by have := putA_len (l := iT c) (k := v) (v := D.int (cntL (plM v).1)); rw [iT_len] at this; omega) hu ?_
        refine go_nil (nx_go ?_)
        refine go_next rfl (putA c v (cntL v)) (fin _ rfl) ?_
        show Wk (some (.sh (.lst [dI xs])) :: some (oT (putA (putA (iT c) v (.int (cntL (plM v).1))) v (.int (cntL (plM v).1 + cntL u)))) :: _) _
        rw [putA_put, iT_put, hv2]
        exact .keep (.keep (.keep (.skip (.skip (.skip .nil)))))
    · rintro c ⟨hc, hin, htk⟩
      rw [List.take_length] at htk
      refine go_next rfl c ⟨hc, hi, ?_⟩ (.keep (.keep (.skip (.skip (.skip (.skip .nil))))))
      rw [show xs.sum.toNat - (i + 1) = y by omega]
      exact htk
  · rintro c ⟨hc, _, hin⟩
    rw [List.length_reverse, List.length_range, Nat.sub_self] at hin
    exact go_retO 1 (a := oT (iT c)) rfl (kk _ ⟨c, hc, hin xs (by simp [wsAt]), rfl⟩)
abbrev spCount : Sp := spT (fun xs : List Int => [dI xs]) Good (fun xs => .sh (.int (cntL xs)))
theorem fo_count (T : Txt K mg) (c1 : Cal P w K mg base 6 "order_counts" ["starts"] [] spCounts) : Cal P w K mg base 7 "count_orders" ["sizes"] [] spCount := by
  obtain ⟨fd, F⟩ := T.f_count_orders
  refine cal_of F (def_ok F sc_count_orders (fun _ => rfl) fun cdv A outer s H E hr xs hp S0 Z kk hnx => ?_) T.g_count_orders (fun _ _ _ _ _ _ us hl => match us, hl with | [_], _ => rfl)
  have hg : Good xs := hp
  have hu : (XF P w K mg base N_count_orders (Str.ofString "count_orders") (defScope s_count_orders) (He.ga K (Str.ofString "count_orders")) cdv A outer s H E).A.units + 64 < cLine := hr.units
  exact go_ret (ed_dgetR (F := CountsOf xs) (evr_call c1 xs (ea_cons (ev_lst (ea_cons (ed_var 0) ea_nil)).lst ea_nil) hg (hr.mono (by decide))) (fun av h => by obtain ⟨c, hc, hx, rfl⟩ := h; exact ⟨iT c, rfl, hc.getT hx⟩) (ed_tupleL (ed_var 0) T.n_tuple) hu) kk
end
end Bb
end
section
set_option maxRecDepth 100000
set_option maxHeartbeats 4000000
namespace Bb
open PySem PySem.Spec PyProof.Rows L2
structure RInv (c : List (List Int × List Int)) : Prop where
  nd : (kys c).Nodup
  val : ∀ p ∈ c, Good p.1 ∧ p.2 = tallyL p.1
def rT (c : List (List Int × List Int)) : Tb := c.map fun p => (p.1, dI p.2)
theorem rT_len (c : List (List Int × List Int)) : (rT c).length = c.length := by simp [rT]
theorem RInv.getT {c : List (List Int × List Int)} (h : RInv c) {k : List Int} (hk : k ∈ kys c) : getA (rT c) k = some (dI (tallyL k)) := by
  obtain ⟨v, hv⟩ := get_of_mem hk
  have e := (h.val _ (getA_mem hv)).2
  simp only at e
  unfold rT
  rw [getA_map, hv, e]; rfl
theorem RInv.len {c : List (List Int × List Int)} (h : RInv c) : c.length ≤ 40000 := by
  have := few h.nd fun k hk => by
    obtain ⟨p, hp, rfl⟩ := List.mem_map.mp hk
    exact (h.val p hp).1
  unfold kys at this
  rwa [List.length_map] at this
theorem RInv.put {c : List (List Int × List Int)} (h : RInv c) {k : List Int} (hg : Good k) : RInv (putA c k (tallyL k)) where
  nd := putA_nodup h.nd
  val := fun p hp => by
    unfold putA at hp
    split at hp
    · obtain ⟨q, hq, rfl⟩ := List.mem_map.mp hp
      split
      · rename_i e; exact ⟨by show Good q.1; rw [e]; exact hg, by show tallyL k = tallyL q.1; rw [e]⟩
      · exact h.val q hq
    · rcases List.mem_append.mp hp with hp | hp
      · exact h.val p hp
      · simp at hp; subst hp; exact ⟨hg, rfl⟩
theorem rT_put {c : List (List Int × List Int)} {k : List Int} {v : List Int} : putA (rT c) k (dI v) = rT (putA c k v) := putA_map (f := dI)
theorem tallyL_le (xs : List Int) (h : Good xs) : (tallyL xs).length ≤ 15 := by rw [tallyL_len]; have := h.2; omega
/-- the pairs that enumerate tells -/
theorem enum_eq (xs : List Int) : ((xs.map D.int).mapIdx fun i d => D.tup [.int ((i : Nat) : Int), d]) = (List.range xs.length).map fun j => .tup [.int (j : Int), .int (xs.getD j 0)] := by
  apply List.ext_getElem?
  intro j
  rw [List.getElem?_mapIdx, List.getElem?_map, List.getElem?_map]
  by_cases h : j < xs.length
  · rw [List.getElem?_range h]; simp [List.getD, h]
  · rw [List.getElem?_eq_none (by omega), List.getElem?_eq_none (by rw [List.length_range]; omega)]; rfl
theorem getD_app {a b : List Int} {j : Nat} (h : j < a.length) : (a ++ b).getD j 0 = a.getD j 0 := by simp [List.getD, List.getElem?_append_left h]
/-- the row of a word with two plucks -/
theorem row_two {v : List Int} (h : Good v) (hn : v ≠ []) {u : List Int} (ho : (plM v).2 = some u) : addP (tallyL (plM v).1 ++ [0]) (tallyL u) (tallyL u).length = tallyL v ∧ (tallyL (plM v).1 ++ [0]).length = (tallyL u).length + 1 := by
  have hl := List.length_pos_iff.mpr hn
  unfold plM at ho
  split at ho
  · cases ho
  · rename_i h1
    cases ho
    have e : (tallyL (lowerM v 0) ++ [0]).length = (tallyL (lowerM v (v.length - 1))).length + 1 := by
      rw [List.length_append, tallyL_len, tallyL_len, lower_sum h.1 hl, lower_sum h.1 (by omega)]; rfl
    refine ⟨?_, e⟩
    show addP (tallyL (lowerM v 0) ++ [0]) _ _ = _
    rw [addP_all e, tallyL_step h hn, if_neg (by omega)]
theorem row_one {v : List Int} (h : Good v) (hn : v ≠ []) (ho : (plM v).2 = none) : tallyL (plM v).1 ++ [0] = tallyL v := by
  have hl := List.length_pos_iff.mpr hn
  unfold plM at ho
  split at ho
  · rw [tallyL_step h hn, if_pos (by omega)]; rfl
  · cases ho
/-- a world of one list alone -/
theorem own_of_one {S H : Hp} {a : Addr} {xs row : List Int} (e : Sb S H) (ha : S a = some (.lst (xs.map V.int))) (hne : row.length ≠ xs.length) {Q : VK} (k : Post S H (.ol (row.map .int)) Q) :
    ∃ S1, Sb S1 H ∧ S1 a = some (.lst (xs.map V.int)) ∧ Post S1 H (.sh (dI row)) Q := by
  refine ⟨fun p => if p = a then some (.lst (xs.map V.int)) else none, ⟨fun p o q _ => ?_, fun p x q => ?_⟩, if_pos rfl, fun v S1 H1 l r => ?_⟩
  · by_cases hp : p = a
    · subst hp; simp at q; subst q; exact e _ _ ha
    · simp [hp] at q
  · by_cases hp : p = a
    · subst hp; simp at q
    · simp [hp] at q
  · obtain ⟨p, rfl, g⟩ := r.dI
    have unm : ∀ q x, (fun p => if p = a then some (HO.lst (xs.map V.int)) else none) q ≠ some (.own x) := fun q x z => by
      by_cases hp : q = a
      · simp [hp] at z
      · simp [hp] at z
    have ex : ∀ q o, H q = some o → H1 q = some o := fun q o z => (l.h q o z).elim (fun z => z) fun ⟨⟨x, m⟩, _⟩ => absurd m (unm q x)
    have hp : H p = none := by
      cases q : H p with
      | none => rfl
      | some o =>
        exfalso
        by_cases hpa : p = a
        · subst hpa
          have := l.s p (.lst (xs.map V.int)) (if_pos rfl)
          rw [g] at this
          have := congrArg List.length (HO.lst.inj (Option.some.inj this))
          simp at this
          exact hne this
        · have z := ex p o q
          have z2 := l.sub _ _ g
          rw [z] at z2
          cases z2
          have := l.new p _ (if_neg hpa) q trivial
          rw [g] at this; cases this
    refine k p _ S H1 ⟨.refl _, fun q o z => .inl (ex q o z), ⟨fun q o z hu => ex q o (e.ex q o z hu), fun q x z => let ⟨hv, w, m⟩ := e.mem q x z; ⟨hv, ex q _ w, m⟩⟩, fun _ _ z _ _ => z⟩ hp (e.back hp) (l.sub _ _ g) (RpL.ints.mpr rfl)
section
variable {P : Program} {w : World} {K : PySem.W.Frag} {mg : Str → Option Value} {base : Heap}
abbrev spRaidS : Sp := spT (fun xs : List Int => [dI xs]) Good (fun xs => .sh (dI (tallyL xs)))
abbrev spRaid : Sp := spT (fun xs : List Int => [dI xs]) Good (fun xs => .ol ((tallyL xs).map .int))
theorem fo_raidS (T : Txt K mg) (c1 : Cal P w K mg base 5 "play_layers" ["starts"] [] spLayers) : Cal P w K mg base 6 "raid_counts" ["sizes"] [] spRaidS := by
  obtain ⟨fd, F⟩ := T.f_raid_counts
  refine cal_of F (def_ok F sc_raid_counts (fun _ => rfl) fun cdv A outer s H E hr xs hp S0 Z kk hnx => ?_) T.g_raid_counts (fun _ _ _ _ _ _ us hl => match us, hl with | [_], _ => rfl)
  have hg : Good xs := hp
  have hu : (XF P w K mg base N_raid_counts (Str.ofString "raid_counts") (defScope s_raid_counts) (He.ga K (Str.ofString "raid_counts")) cdv A outer s H E).A.units + 64 < cLine := hr.units
  have hs0 : 0 ≤ xs.sum := sum_nn fun x hx => by have := hg.1 x hx; omega
  refine go_set 1 (a := oT (rT [([], [1])])) (ev_disp1 (k := []) (d := dI [1]) (Ed.to (ed_tup ea_nil) rfl) (ev_lst (ea_cons ed_int ea_nil)).lst hu) ?_ sc_raid_counts.nd
  refine go_for (fun c : List (List Int × List Int) => [some (.sh (dI xs)), some (oT (rT c)), none, none, none, none, none, none, none, none]) (fun i c => RInv c ∧ i ≤ xs.sum.toNat ∧ ∀ v ∈ wsAt xs (xs.sum.toNat - i), v ∈ kys c) (List.range xs.sum.toNat).reverse (fun j => layD (wsAt xs j))
    (ei_rev (ed_call c1 xs (ea_cons (ev_lst (ea_cons (ed_var 0) ea_nil)).lst ea_nil) hg (hr.mono (by decide))) T.n_reversed) (by rw [List.map_reverse]) [([], [1])] ⟨⟨by simp [kys], fun p hp => by simp at hp; subst hp; exact ⟨Good.nil, rfl⟩⟩, Nat.zero_le _, fun v hv => ?_⟩ (Wk.refl _) ?_ ?_
  · obtain ⟨_, h2⟩ := wsAt_ok hg xs.sum.toNat (Nat.le_refl _)
    obtain ⟨g1, g2⟩ := h2 v hv
    have : v = [] := good_sum0 g1 (by rw [g2]; omega)
    subst this
    simp [kys]
  · rintro S1 rb i y c hy ⟨hc, hi', hin⟩
    have hi : i < xs.sum.toNat := by
      have := (List.getElem?_eq_some_iff.mp hy).1
      rwa [List.length_reverse, List.length_range] at this
    have ey : y = xs.sum.toNat - 1 - i := by
      rw [List.getElem?_reverse (by rw [List.length_range]; exact hi), List.length_range] at hy
      exact (range_at hy).1
    have e1 : xs.sum.toNat - i = y + 1 := by omega
    rw [e1] at hin
    have wd := wsAt_wd hg (j := y) (by omega)
    refine ⟨_, eg_name 2 sc_raid_counts.nd, ?_⟩
    refine go_set 3 (a := oT (rT [])) ev_dnew ?_ sc_raid_counts.nd
    refine go_for (fun l : List (List Int × List Int) => [some (.sh (dI xs)), some (oT (rT c)), some (.sh (layD (wsAt xs y))), some (oT (rT l)), none, none, none, none, none, none]) (fun m l => RInv l ∧ ∀ v ∈ (wsAt xs y).take m, v ∈ kys l) (wsAt xs y) (fun v => .tup [tI v, plD (plM v)])
      (ei_items (l := layT (wsAt xs y)) (ed_var 2)) (by rw [layT, List.map_map]; rfl) [] ⟨⟨by simp [kys], by simp⟩, by simp⟩ (Wk.refl _) ?_ ?_
    · rintro S2 rb2 m v l hv ⟨hl, htk⟩
      have hvm := List.mem_of_getElem? hv
      obtain ⟨vg, vn⟩ := wd v hvm
      obtain ⟨p1, p2, p3⟩ := plM_good vg vn
      have k1 : (plM v).1 ∈ kys c := hin _ (nextW_mem.mpr ⟨v, hvm, .inl rfl⟩)
      have k2 : ∀ u, (plM v).2 = some u → u ∈ kys c := fun u h => hin _ (nextW_mem.mpr ⟨v, hvm, .inr h⟩)
      have hll := hl.len
      have tl := tallyL_le _ p1
      refine ⟨_, eg_tup rfl (egs_cons (eg_name 4 sc_raid_counts.nd) (egs_cons (eg_tup rfl (egs_cons (eg_name 5 sc_raid_counts.nd) (egs_cons (eg_name 6 sc_raid_counts.nd) egs_nil)) rfl rfl rfl) egs_nil)) rfl rfl rfl, ?_⟩
      refine go_set 7 (a := .ol ((tallyL (plM v).1 ++ [0]).map .int)) ?_ ?_ sc_raid_counts.nd
      · refine Ev.to (ev_catL (ed_dgetO 1 (l := rT c) rfl (ed_var 5) (hc.getT k1) hu) (ev_lst (ea_cons ed_int ea_nil)).lst (by rw [List.length_map]; simp; omega)) ?_
        rw [List.map_append]; rfl
      have fin : RInv (putA l v (tallyL v)) ∧ ∀ u ∈ (wsAt xs y).take (m + 1), u ∈ kys (putA l v (tallyL v)) := by
        refine ⟨hl.put vg, fun u hu => (putA_keys u).mpr ?_⟩
        rw [List.take_succ, hv] at hu
        rcases List.mem_append.mp hu with hu | hu
        · exact .inl (htk u hu)
        · simp at hu; exact .inr hu
      cases ho : (plM v).2 with
      | none =>
        refine go_if (t := false) (Et.to (et_notN (d := .non) (ed_var 6 (d := .non) rfl)) rfl) (fun h => nomatch h) (fun _ => ?_)
        refine go_nil (nx_go ?_)
        refine go_show 7 rfl ?_
        refine go_dput 3 (l := rT l) (k := v) (d := dI (tallyL v)) rfl (Ed.to (ed_var 7) (by rw [row_one vg vn ho]; rfl)) (ed_var 4) (by rw [rT_len]; omega) hu ?_
        refine go_next rfl (putA l v (tallyL v)) fin ?_
        show Wk (_ :: _ :: _ :: some (oT (putA (rT l) v (dI (tallyL v)))) :: _) _
        rw [rT_put]
        exact .keep (.keep (.keep (.keep (.skip (.skip (.skip (.skip (.skip (.skip .nil)))))))))
      | some u =>
        refine go_if (t := true) (Et.to (et_notN (d := tI u) (ed_var 6 (d := tI u) rfl)) rfl) (fun _ => ?_) (fun h => nomatch h)
        obtain ⟨r1, r2⟩ := row_two vg vn ho
        have ul := tallyL_le _ (p3 u ho).1
        refine go_for (fun r : List Int => [some (.sh (dI xs)), some (oT (rT c)), some (.sh (layD (wsAt xs y))), some (oT (rT l)), some (.sh (tI v)), none, none, some (.ol (r.map .int)), none, none]) (fun j r => r = addP (tallyL (plM v).1 ++ [0]) (tallyL u) j) (List.range (tallyL u).length) (fun j => .tup [.int (j : Int), .int ((tallyL u).getD j 0)])
          (ei_enum (ed_dgetO 1 (l := rT c) rfl (ed_var 6 (d := tI u) rfl) (hc.getT (k2 u ho)) hu) T.n_enumerate) (enum_eq _) (tallyL (plM v).1 ++ [0]) (addP_zero _ _).symm (.keep (.keep (.keep (.keep (.keep (.skip (.skip (.keep (.keep (.keep .nil)))))))))) ?_ ?_
        · rintro S3 rb3 j j' r hj rfl
          obtain ⟨rfl, hj⟩ := range_at hj
          have hj2 : j' + 1 < (tallyL (plM v).1 ++ [0]).length := by omega
          refine ⟨_, eg_tup rfl (egs_cons (eg_name 8 sc_raid_counts.nd) (egs_cons (eg_name 9 sc_raid_counts.nd) egs_nil)) rfl rfl rfl, ?_⟩
          refine go_augix 7 ip_add rfl (ed_add (ed_var 8) ed_int) (m := j' + 1) (ixN_of (by push_cast; rfl) (by rw [List.length_map, addP_len]; omega)) (c := (tallyL (plM v).1 ++ [0]).getD (j' + 1) 0) ?_ (ed_var 9) ?_
          · rw [List.getElem?_map, addP_at hj2]
            have : ¬ (1 ≤ j' + 1 ∧ j' + 1 ≤ j') := by omega
            rw [if_neg this]; simp
          · refine go_next rfl _ rfl ?_
            rw [← addP_succ hj2, List.map_set]
            exact .keep (.keep (.keep (.keep (.keep (.keep (.keep (.keep (.skip (.skip .nil)))))))))
        · rintro r rfl
          rw [List.length_range, r1]
          refine go_nil (nx_go ?_)
          refine go_show 7 rfl ?_
          refine go_dput 3 (l := rT l) (k := v) (d := dI (tallyL v)) rfl (ed_var 7) (ed_var 4) (by rw [rT_len]; omega) hu ?_
          refine go_next rfl (putA l v (tallyL v)) fin ?_
          show Wk (_ :: _ :: _ :: some (oT (putA (rT l) v (dI (tallyL v)))) :: _) _
          rw [rT_put]
          exact .keep (.keep (.keep (.keep (.skip (.skip (.skip (.skip (.skip (.skip .nil)))))))))
    · rintro l ⟨hl, htk⟩
      rw [List.take_length] at htk
      refine go_move 1 3 rfl ?_ (by decide) (by simp) sc_raid_counts.nd
      refine go_next rfl l ⟨hl, hi, ?_⟩ (.keep (.keep (.skip (.keep (.skip (.skip (.skip (.skip (.skip (.skip .nil))))))))))
      rw [show xs.sum.toNat - (i + 1) = y by omega]
      exact htk
  · rintro c ⟨hc, _, hin⟩
    rw [List.length_reverse, List.length_range, Nat.sub_self] at hin
    exact go_ret (ed_dgetO 1 (l := rT c) rfl (ed_tupleL (ed_var 0) T.n_tuple) (hc.getT (hin xs (by simp [wsAt]))) hu) kk
theorem fo_raid (T : Txt K mg) (c1 : Cal P w K mg base 5 "play_layers" ["starts"] [] spLayers) : Cal P w K mg base 6 "raid_counts" ["sizes"] [] spRaid :=
  (fo_raidS T c1).imp fun vs H Q E h => by
    obtain ⟨xs, S, e, r, hp, k⟩ := h
    obtain ⟨v, rs, rfl, r1, r2⟩ : ∃ v r, vs = v :: r ∧ Rp S (dI xs) v ∧ RpL S [] r := by simpa only [RpL] using r
    obtain rfl : rs = [] := by simpa only [RpL] using r2
    obtain ⟨a, rfl, g⟩ := r1.dI
    have hg : Good xs := hp
    have hs := sum_pos hg.1
    obtain ⟨S1, e1, g1, k1⟩ := own_of_one e g (by rw [tallyL_len]; omega) k
    exact ⟨xs, S1, e1, .cons (Rp.lst.mpr ⟨a, _, rfl, g1, RpL.ints.mpr rfl⟩) .nil, hp, k1⟩
end
end Bb
end
section
set_option maxRecDepth 100000
set_option maxHeartbeats 4000000
/-! B11: the script; texts' methods; membership, index in lists of texts. -/
namespace Bb
open PySem PySem.Spec PyProof.Rows L2
theorem Sb.sq {S H : Hp} {K : PySem.W.Frag} {a : Addr} {xs : List V} (e : Sb S H) (h : SqL K S a xs) : SqL K H a xs := by
  rcases h with (q | ⟨o, q⟩) | q
  · exact .inl (.inl (e _ _ q))
  · exact .inl (.inr ⟨o, e _ _ q⟩)
  · exact .inr q
theorem strs_flat (ys : List Str) : (ys.map V.str).all flatV = true := by rw [List.all_eq_true]; intro x hx; obtain ⟨y, _, rfl⟩ := List.mem_map.mp hx; rfl
theorem inV_strs {t : Str} (ys : List Str) : inV (.str t) (ys.map V.str) = decide (t ∈ ys) := by
  unfold inV
  rw [List.any_map]
  induction ys with
  | nil => simp
  | cons y ys ih =>
    rw [List.any_cons, ih]
    show ((y == t) || _) = _
    by_cases h : y = t
    · subst h; simp
    · have h2 : ¬ t = y := fun z => h z.symm
      by_cases h3 : t ∈ ys <;> simp [h, h2, h3]
section
variable {X : Cx} {Δ : Dl} {e a b c o : Expr} {es : List Expr} {pos p apos cpos : Pos} {d x y z : D} {av : Av}
theorem ed_lenQ {q : Addr} {xs : List Int} (h : Ed X Δ e (.sq X.K q xs)) (hm : X.mg "len" = none) (hg : Gl X "len" := by rfl) (hs : starEach [e] X.env = (false, eval e X.env) :: starEach [] X.env := by rfl) : Ed X Δ (.Call (.Name "len" p) [e] [] pos) (.int xs.length) :=
  ev_callB call_len (ea_cons h ea_nil hs) (fun S H vs e h Q k => by
    simp only [RpL] at h
    obtain ⟨v, r, rfl, h1, rfl⟩ := h
    obtain ⟨rfl, g⟩ := Rp.sq.mp h1
    exact ⟨_, xs.length, rfl, .inl ⟨_, e.sq g, by rw [List.length_map]⟩, Post.pure e k (Rp.int.mpr rfl)⟩) hm boot_len hg (he := hs)
theorem ed_ixQ {q : Addr} {xs : List Int} {i : Int} {n : Int} (ha : Ed X Δ a (.sq X.K q xs)) (hb : Ed X Δ b (.int i)) (h : atI xs i = some n) (hs : PlainIx b := by intro _ _; rfl) : Ed X Δ (.Subscript a b pos) (.int n) :=
  ev_ix ix_list ha hb (fun S H u v e h1 h2 Q k => by
    obtain ⟨rfl, g⟩ := Rp.sq.mp h1
    refine ⟨q, _, i, .int n, rfl, Rp.int.mp h2, e.sq g, ?_, Post.pure e k (Rp.int.mpr rfl)⟩
    obtain ⟨j, hj, hd⟩ := Option.bind_eq_some_iff.mp h
    unfold atI
    rw [List.length_map, hj]
    show (xs.map V.int)[j]? = _
    rw [List.getElem?_map, hd]; rfl) hs
/-- a text's method of one argument -/
theorem ed_m1 {id : String} {name : Str} {r : V → List V → Hp → VK → Prop} {t u : Str} (slot : Slot "str" name id) (ty : typeOf (.builtin id) = pure (.type "method_descriptor")) (rule : MtR X id r) (ho : Ed X Δ o (.str t)) (he : Ed X Δ e (.str u)) (hr : ∀ (S H : Hp), Sb S H → ∀ Q : VK, Post S H (.sh d) Q → r (.str t) [.str u] H Q)
    (hs : starEach [e] X.env = [(false, eval e X.env)] := by rfl) (hbase : attributeBase o name X.env (eval o X.env) = eval o X.env := by rfl) (hline : (apos.endLine == pos.line) = true := by rfl) : Ed X Δ (.Call (.Attribute o name apos) [e] [] pos) d := by
  intro S0 H0 S H σ A Q k
  refine WE.of (pe_m1 slot ty rule WE.pe WE.pe hs hbase hline) ?_
  refine ho S0 H0 S H σ A _ fun v S1 H1 l1 r1 => ?_
  cases Rp.str.mp r1
  refine ⟨⟨_, rfl⟩, he S0 H0 S1 H1 σ (A.mono l1) _ fun v S2 H2 l2 r2 => ?_⟩
  cases Rp.str.mp r2
  exact hr S2 H2 l2.sub Q (Post.mono (a := .sh _) (l1.trans l2) k)
theorem ed_count {t u : Str} (ho : Ed X Δ o (.str t)) (he : Ed X Δ e (.str u)) (hs : starEach [e] X.env = [(false, eval e X.env)] := by rfl) (hbase : attributeBase o "count" X.env (eval o X.env) = eval o X.env := by rfl) (hline : (apos.endLine == pos.line) = true := by rfl) : Ed X Δ (.Call (.Attribute o "count" apos) [e] [] pos) (.int (Txt.count t u)) :=
  ed_m1 (id := "str.count") PySem.F.slot_str_count PySem.F.type_str_count mt_count ho he (fun S H e Q k => ⟨t, u, rfl, rfl, Post.pure e k (Rp.int.mpr rfl)⟩) hs hbase hline
theorem ed_find {t u : Str} (ho : Ed X Δ o (.str t)) (he : Ed X Δ e (.str u)) (hs : starEach [e] X.env = [(false, eval e X.env)] := by rfl) (hbase : attributeBase o "find" X.env (eval o X.env) = eval o X.env := by rfl) (hline : (apos.endLine == pos.line) = true := by rfl) : Ed X Δ (.Call (.Attribute o "find" apos) [e] [] pos) (.int (Txt.find t u)) :=
  ed_m1 (id := "str.find") PySem.F.slot_str_find PySem.F.type_str_find mt_find ho he (fun S H e Q k => ⟨t, u, rfl, rfl, Post.pure e k (Rp.int.mpr rfl)⟩) hs hbase hline
/-- ''.join(list of texts) -/
theorem ed_join {ys : List Str} {t : Str} (ho : Ed X Δ o (.str t)) (he : Ed X Δ e (dS ys)) (hz : (ys.map (·.length)).sum + ys.length * t.length ≤ 16777216) (hs : starEach [e] X.env = [(false, eval e X.env)] := by rfl) (hbase : attributeBase o "join" X.env (eval o X.env) = eval o X.env := by rfl) (hline : (apos.endLine == pos.line) = true := by rfl) : Ed X Δ (.Call (.Attribute o "join" apos) [e] [] pos) (.str (Txt.join t ys)) := by
  intro S0 H0 S H σ A Q k
  refine WE.of (pe_m1 (id := "str.join") PySem.F.slot_str_join PySem.F.type_str_join mt_join WE.pe WE.pe hs hbase hline) ?_
  refine ho S0 H0 S H σ A _ fun v S1 H1 l1 r1 => ?_
  cases Rp.str.mp r1
  refine ⟨⟨_, rfl⟩, he S0 H0 S1 H1 σ (A.mono l1) _ fun v S2 H2 l2 r2 => ?_⟩
  obtain ⟨q, vs, rfl, g2, g3⟩ := Rp.lst.mp r2
  rw [RpL.strs.mp g3] at g2
  exact ⟨t, q, ys, rfl, rfl, .inl (SqL.of (l2.sub _ _ g2)), hz, k _ S2 H2 (l1.trans l2) (Rp.str.mpr rfl)⟩
/-- a sign in a text -/
theorem et_inS {t u : Str} (ha : Ed X Δ a (.str t)) (hb : Ed X Δ b (.str u)) (hm : behindInMarks .In b = false := by rfl) : Et X Δ (.Compare a [.In] [b] pos) (Txt.contains u t) := et_cmp op_in_str ha hb (fun S H u' v' e h1 h2 Q k => ⟨t, u, Rp.str.mp h1, Rp.str.mp h2, Post.pure e k (Rp.bl.mpr rfl)⟩) hm
/-- a text in a list of texts -/
theorem et_inL {t : Str} {ys : List Str} (ha : Ed X Δ a (.str t)) (hb : Ed X Δ b (dS ys)) (hm : behindInMarks .In b = false := by rfl) : Et X Δ (.Compare a [.In] [b] pos) (decide (t ∈ ys)) := et_cmp op_in_seq ha hb (fun S H u' v' e h1 h2 Q k => by
  cases Rp.str.mp h1
  obtain ⟨q, vs, rfl, g2, g3⟩ := Rp.lst.mp h2
  rw [RpL.strs.mp g3] at g2
  refine ⟨q, _, rfl, .inl (SqL.of (e _ _ g2)), rfl, strs_flat ys, Post.pure e k (Rp.bl.mpr ?_)⟩
  rw [inV_strs]; rfl) hm
/-- ys.index(t), there -/
theorem ed_index {t : Str} {ys : List Str} (ho : Ed X Δ o (dS ys)) (he : Ed X Δ e (.str t)) (hj : ys.findIdx (fun z => decide (z = t)) < ys.length)
    (hbase : attributeBase o "index" X.env (eval o X.env) = eval o X.env := by rfl)
    (hfew : ((backTo cpos (starEach [e] X.env)).all (fun x => !x.1) && (backToKw cpos (keywordEach [] X.env)).all (fun x => x.1.isSome)
      && decide (([e] : List Expr).length + ([] : List Keyword).length + (if ([] : List Keyword).isEmpty then 0 else 1) < 30)) = true := by rfl)
    (hline : (apos.endLine == cpos.line) = true := by rfl) (hs : starEach [e] X.env = (false, eval e X.env) :: starEach [] X.env := by rfl) (hplain : (backTo cpos (starEach [] X.env)).any (·.1) = false := by rfl) :
    Ed X Δ (.Call (.Attribute o "index" apos) [e] [] cpos) (.int (ys.findIdx (fun z => decide (z = t)) : Nat)) := by
  intro S0 H0 S H σ A Q k
  refine WE.of (pe_bm (T := "list") PySem.F.plainAttrs_list PySem.F.slot_list_index PySem.F.type_list_index mt_index WE.pe (pa_cons WE.pe pa_nil hs) hbase hfew hline hs hplain) ?_
  refine ho S0 H0 S H σ A _ fun v S1 H1 l1 r1 => ?_
  obtain ⟨q, vs, rfl, g2, g3⟩ := Rp.lst.mp r1
  rw [RpL.strs.mp g3] at g2
  refine ⟨.inl ⟨rfl, _, SqL.of (l1.sub _ _ g2)⟩, ?_⟩
  refine he S0 H0 S1 H1 σ (A.mono l1) _ fun v S2 H2 l2 r2 => ?_
  cases Rp.str.mp r2
  refine ⟨q, _, .str t, ys.findIdx (fun z => decide (z = t)), .str ys[ys.findIdx (fun z => decide (z = t))], rfl, rfl, SqL.of (l2.sub _ _ (l2.s _ _ g2)), rfl, strs_flat ys, ?_, ?_, fun m z' hm hz => ?_, k _ S2 H2 (l1.trans l2) (Rp.int.mpr rfl)⟩
  · rw [List.getElem?_map, List.getElem?_eq_getElem hj]; rfl
  · have := List.findIdx_getElem (w := hj)
    show (ys[_] == t) = true
    rw [of_decide_eq_true this]; simp
  · rw [List.getElem?_map] at hz
    obtain ⟨z, hz2, rfl⟩ := Option.map_eq_some_iff.mp hz
    have h1 := List.not_of_lt_findIdx hm
    have e : ys[m]'(by omega) = z := by
      rw [List.getElem?_eq_getElem (by omega)] at hz2
      exact Option.some.inj hz2
    rw [e] at h1
    show (z == t) = false
    have : ¬ z = t := by simpa using h1
    simp [this]
end
end Bb
end
section
set_option maxRecDepth 100000
set_option maxHeartbeats 4000000
namespace Bb
open PySem PySem.Spec PyProof.Rows L2
/-! ### the draws -/
def cellM (ns : List Int) (k : Nat) : Int := if k < ns.length then ((ns.getD k 0).natAbs : Int) else 0
def mixedM (c : Int) (k : Nat) (size : Int) : Int :=
  let m1 := (c + 7919 * (k : Int) + 13) % 2147483647
  let m2 := (m1 * (m1 + 48271)) % 2147483629
  let m3 := (m2 * (m2 + 69621) + 31 * (k : Int)) % 2147483647
  (m3 / 9) % size
def drawsG (c : Int) : Nat → Int → List Int → List Int
  | _, _, [] => []
  | k, rest, m :: ms => if 10 ^ 18 ≤ c ∧ 0 < rest then (rest % m) :: drawsG c (k + 1) (rest / m) ms else mixedM c k m :: drawsG c (k + 1) rest ms
def drawsM (c : Int) (menu : List Int) : List Int := drawsG c 0 c menu
theorem drawsG_len (c : Int) : ∀ (menu : List Int) (k : Nat) (rest : Int), (drawsG c k rest menu).length = menu.length
  | [], _, _ => rfl
  | m :: ms, k, rest => by
    unfold drawsG
    split <;> simp [drawsG_len c ms]
theorem drawsG_bd (c : Int) : ∀ (menu : List Int) (k : Nat) (rest : Int), (∀ m ∈ menu, 0 < m) → ∀ (j : Nat) (m : Int), menu[j]? = some m → ∃ d, (drawsG c k rest menu)[j]? = some d ∧ 0 ≤ d ∧ d < m
  | [], _, _, _, j, m, h => by simp at h
  | a :: ms, k, rest, hp, 0, m, h => by
    have h0 := hp a List.mem_cons_self
    have h : a = m := by simpa using h
    subst h
    unfold drawsG
    split
    · exact ⟨_, rfl, Int.emod_nonneg _ (by omega), Int.emod_lt_of_pos _ h0⟩
    · exact ⟨_, rfl, Int.emod_nonneg _ (by omega), Int.emod_lt_of_pos _ h0⟩
  | a :: ms, k, rest, hp, j + 1, m, h => by
    have h : ms[j]? = some m := by simpa using h
    unfold drawsG
    split
    · exact drawsG_bd c ms _ _ (fun x hx => hp x (List.mem_cons_of_mem _ hx)) j m h
    · exact drawsG_bd c ms _ _ (fun x hx => hp x (List.mem_cons_of_mem _ hx)) j m h
theorem drawsM_bd {c : Int} {menu : List Int} (hp : ∀ m ∈ menu, 0 < m) {j : Nat} {m : Int} (h : menu[j]? = some m) : (drawsM c menu)[j]? = some ((drawsM c menu).getD j 0) ∧ 0 ≤ (drawsM c menu).getD j 0 ∧ (drawsM c menu).getD j 0 < m := by
  obtain ⟨d, h1, h2, h3⟩ := drawsG_bd c menu 0 c hp j m h
  have e : (drawsM c menu).getD j 0 = d := by unfold drawsM List.getD; rw [h1]; rfl
  rw [e]
  exact ⟨h1, h2, h3⟩
section
variable {P : Program} {w : World} {K : PySem.W.Frag} {mg : Str → Option Value} {base : Heap}
abbrev spCell (K : PySem.W.Frag) : Sp := spT (fun a : Addr × List Int × Nat => [.sq K a.1 a.2.1, .int (a.2.2 : Int)]) (fun a => a.2.2 ≤ 1000) (fun a => .sh (.int (cellM a.2.1 a.2.2)))
theorem fo_cell (T : Txt K mg) : Cal P w K mg base 1 "_law_cell" ["_law_script", "_law_k"] [] (spCell K) := by
  obtain ⟨fd, F⟩ := T.f_law_cell
  refine cal_of F (def_ok F sc_law_cell (fun _ => rfl) fun cdv A outer s H E hr a hp S0 Z kk hnx => ?_) T.g_law_cell (fun _ _ _ _ _ _ us hl => match us, hl with | [_, _], _ => rfl)
  obtain ⟨q, ns, k⟩ := a
  refine go_if (et_lt (ed_var 1) (ed_lenQ (xs := ns) (ed_var 0) T.n_len)) (fun h => ?_) (fun h => ?_)
  · have h1 : k < ns.length := by have : (k : Int) < ns.length := of_decide_eq_true h; omega
    refine go_ret (Ed.to (ed_abs (ed_intI (ed_ixQ (xs := ns) (ed_var 0) (ed_var 1) (n := ns.getD k 0) (atI_intN (j := k) rfl (by simp [List.getD, h1]))) T.n_int) T.n_abs) ?_) kk
    show D.int _ = D.int (cellM ns k)
    unfold cellM; rw [if_pos h1]
  · have h1 : ¬ k < ns.length := by have : ¬ (k : Int) < ns.length := of_decide_eq_false h; omega
    refine go_nil (nx_go ?_)
    refine go_ret (Ed.to ed_int ?_) kk
    show D.int _ = D.int (cellM ns k)
    unfold cellM; rw [if_neg h1]
abbrev spMixed : Sp := spT (fun a : Int × Nat × Int => [.int a.1, .int (a.2.1 : Int), .int a.2.2]) (fun a => a.2.1 ≤ 1000 ∧ 0 < a.2.2) (fun a => .sh (.int (mixedM a.1 a.2.1 a.2.2)))
theorem fo_mixed (T : Txt K mg) : Cal P w K mg base 1 "_law_mixed" ["_law_cell_here", "_law_k", "_law_size"] [] spMixed := by
  obtain ⟨fd, F⟩ := T.f_law_mixed
  refine cal_of F (def_ok F sc_law_mixed (fun _ => rfl) fun cdv A outer s H E hr a hp S0 Z kk hnx => ?_) T.g_law_mixed (fun _ _ _ _ _ _ us hl => match us, hl with | [_, _, _], _ => rfl)
  obtain ⟨c, k, sz⟩ := a
  obtain ⟨hk, hs⟩ := hp
  have hk : k ≤ 1000 := hk
  refine go_set 3 (ed_mod (ed_intI (ed_add (ed_add (ed_var 0) (ed_mul ed_int (ed_var 1) (.inl (by omega)))) ed_int) T.n_int) ed_int (by omega)) ?_ sc_law_mixed.nd
  have b1 : 0 ≤ (c + 7919 * (k : Int) + 13) % 2147483647 ∧ (c + 7919 * (k : Int) + 13) % 2147483647 < 2147483647 := ⟨Int.emod_nonneg _ (by omega), Int.emod_lt_of_pos _ (by omega)⟩
  generalize hm1 : (c + 7919 * (k : Int) + 13) % 2147483647 = m1 at b1 ⊢
  refine go_set 3 (ed_mod (ed_intI (ed_mul (ed_var 3) (ed_add (ed_var 3) ed_int) (.inl (by omega))) T.n_int) ed_int (by omega)) ?_ sc_law_mixed.nd
  have b2 : 0 ≤ (m1 * (m1 + 48271)) % 2147483629 ∧ (m1 * (m1 + 48271)) % 2147483629 < 2147483629 := ⟨Int.emod_nonneg _ (by omega), Int.emod_lt_of_pos _ (by omega)⟩
  generalize hm2 : (m1 * (m1 + 48271)) % 2147483629 = m2 at b2 ⊢
  refine go_set 3 (ed_mod (ed_intI (ed_add (ed_mul (ed_var 3) (ed_add (ed_var 3) ed_int) (.inl (by omega))) (ed_mul ed_int (ed_var 1) (.inl (by omega)))) T.n_int) ed_int (by omega)) ?_ sc_law_mixed.nd
  refine go_ret (ed_mod (ed_intI (ed_fdiv (ed_var 3) ed_int (by omega)) T.n_int) (ed_var 2) hs) (kk.to ?_)
  show Av.sh (.int (mixedM c k sz)) = _
  unfold mixedM
  simp only [hm1, hm2]
structure MenuOk (a : Int × List Int) : Prop where
  len : a.2.length ≤ 1000
  pos : ∀ m ∈ a.2, 0 < m ∧ m < 1073741824
abbrev spDraws : Sp := spT (fun a : Int × List Int => [.int a.1, dI a.2]) MenuOk (fun a => .sh (dI (drawsM a.1 a.2)))
theorem fo_draws (T : Txt K mg) (c1 : Cal P w K mg base 1 "_law_mixed" ["_law_cell_here", "_law_k", "_law_size"] [] spMixed) : Cal P w K mg base 2 "_law_draws" ["_law_cell_here", "_law_menu"] [] spDraws := by
  obtain ⟨fd, F⟩ := T.f_law_draws
  refine cal_of F (def_ok F sc_law_draws (fun _ => rfl) fun cdv A outer s H E hr a hp S0 Z kk hnx => ?_) T.g_law_draws (fun _ _ _ _ _ _ us hl => match us, hl with | [_, _], _ => rfl)
  obtain ⟨c, menu⟩ := a
  obtain ⟨hl, hpos⟩ := hp
  have hl : menu.length ≤ 1000 := hl
  refine go_set 2 (ev_lst ea_nil) ?_ sc_law_draws.nd
  refine go_set 3 (ed_var 0) ?_ sc_law_draws.nd
  refine go_for (fun a : List Int × Int => [some (.sh (.int c)), some (.sh (dI menu)), some (.ol (a.1.map .int)), some (.sh (.int a.2)), none]) (fun i a => a.1.length = i ∧ a.1 ++ drawsG c i a.2 (menu.drop i) = drawsM c menu) (List.range menu.length) (fun i : Nat => .int (i : Int))
    (ei_rng1 (Ed.to (ed_lenL (ed_var 1) T.n_len) (by rw [List.length_map])) (by omega) T.n_range) (by simp) ([], c) ⟨rfl, rfl⟩ (Wk.refl _) ?_ ?_
  · rintro S1 rb i y ⟨f, rest⟩ hy ⟨h1, h2⟩
    obtain ⟨rfl, hi⟩ := range_at hy
    simp only at h1 h2
    have hd : menu.drop y = menu[y] :: menu.drop (y + 1) := List.drop_eq_getElem_cons hi
    have hgm : menu.getD y 0 = menu[y] := by simp [List.getD, hi]
    obtain ⟨hm0, hm1⟩ := hpos menu[y] (List.getElem_mem hi)
    have hix : atI (menu.map D.int) (y : Int) = some (.int (menu.getD y 0)) := atI_intN rfl (getI hi)
    refine ⟨_, eg_name 4 sc_law_draws.nd, ?_⟩
    have hpw : ((10 : Int) ^ (18 : Int).toNat) = 10 ^ 18 := rfl
    refine go_if (t := decide (10 ^ 18 ≤ c) && decide (0 < rest)) (Ew.et (ew_and (et_ge (ed_var 0) (ed_pow ed_int ed_int ⟨by decide, by decide, by decide⟩)) fun _ => ew_and1 (et_gt (ed_var 3) ed_int))) (fun h => ?_) (fun h => ?_)
    · have hc : 10 ^ 18 ≤ c ∧ 0 < rest := by simpa using h
      refine go_app 2 rfl (ed_mod (ed_intI (ed_var 3) T.n_int) (ed_ixL (ed_var 1) (ed_var 4) hix) (by rw [hgm]; exact hm0)) (by simp only [List.length_map]; omega) ?_
      refine go_set 3 (ed_fdiv (ed_var 3) (ed_ixL (ed_var 1) (ed_var 4) hix) (by rw [hgm]; exact ⟨hm0, hm1⟩)) ?_ sc_law_draws.nd
      refine go_nil (nx_go ?_)
      refine go_next rfl (f ++ [rest % menu.getD y 0], rest / menu.getD y 0) ⟨by simp [h1], ?_⟩ ?_
      · rw [hd] at h2
        unfold drawsG at h2
        rw [if_pos hc] at h2
        rw [← h2, hgm]; simp
      · show Wk [_, _, some (.ol (f.map .int ++ [.int (rest % menu.getD y 0)])), _, _] _
        rw [List.map_append]
        exact .keep (.keep (.keep (.keep (.skip .nil))))
    · have hc : ¬ (10 ^ 18 ≤ c ∧ 0 < rest) := by simpa using h
      refine go_app 2 rfl (ed_call c1 (c, y, menu.getD y 0) (ea_cons (ed_var 0) (ea_cons (ed_var 4) (ea_cons (ed_ixL (ed_var 1) (ed_var 4) hix) ea_nil))) ⟨by show y ≤ 1000; omega, by show 0 < menu.getD y 0; rw [hgm]; exact hm0⟩ (hr.mono (by decide))) (by simp only [List.length_map]; omega) ?_
      refine go_nil (nx_go ?_)
      refine go_next rfl (f ++ [mixedM c y (menu.getD y 0)], rest) ⟨by simp [h1], ?_⟩ ?_
      · rw [hd] at h2
        unfold drawsG at h2
        rw [if_neg hc] at h2
        rw [← h2, hgm]; simp
      · show Wk [_, _, some (.ol (f.map .int ++ [.int (mixedM c y (menu.getD y 0))])), _, _] _
        rw [List.map_append]
        exact .keep (.keep (.keep (.keep (.skip .nil))))
  · rintro ⟨f, rest⟩ ⟨h1, h2⟩
    simp only [List.length_range] at h1 h2
    have h3 : f = drawsM c menu := by
      rw [← h2]
      have : menu.drop menu.length = [] := List.drop_length ..
      rw [this]; simp [drawsG]
    subst h3
    refine go_show 2 rfl ?_
    exact go_ret (ed_var 2) kk
/-! ### slices -/
theorem cut_lo {α : Type} {xs : List α} {i : Nat} : cutD xs none (some (i : Int)) = xs.take i := by
  unfold cutD
  rw [HT.sIx_none, HT.sIx_nat, List.drop_zero, Nat.sub_zero]
  by_cases h : i ≤ xs.length
  · rw [Nat.min_eq_left h]
  · rw [Nat.min_eq_right (by omega), List.take_length, List.take_of_length_le (by omega)]
theorem cut_hi {α : Type} {xs : List α} {i : Nat} : cutD xs (some (i : Int)) none = xs.drop i := by
  unfold cutD
  rw [HT.sIx_none, HT.sIx_nat]
  by_cases h : i ≤ xs.length
  · rw [Nat.min_eq_left h, List.take_of_length_le (by rw [List.length_drop]; omega)]
  · rw [Nat.min_eq_right (by omega), List.drop_length, List.drop_of_length_le (by omega)]; simp
theorem wd_app (l m : List Bool) : wd l ++ wd m = wd (l ++ m) := by
  show (⟨(wd l).cps ++ (wd m).cps⟩ : Str) = _
  simp [wd]
theorem sgn_wd (b : Bool) : sgn b = wd [b] := by cases b <;> rfl
theorem cutS_lo {l : List Bool} {i : Nat} : cutS (wd l) none (some (i : Int)) = wd (l.take i) := by
  have h : (wd l).length = l.length := wd_len l
  have e := cut_lo (xs := l.map fun b => if b then 82 else 75) (i := i)
  unfold cutD at e
  rw [List.length_map] at e
  unfold cutS
  rw [h]
  show (⟨_⟩ : Str) = ⟨_⟩
  congr 1
  congr 1
  rw [List.map_take]
  exact e
theorem cutS_hi {l : List Bool} {i : Nat} : cutS (wd l) (some (i : Int)) none = wd (l.drop i) := by
  have h : (wd l).length = l.length := wd_len l
  have e := cut_hi (xs := l.map fun b => if b then 82 else 75) (i := i)
  unfold cutD at e
  rw [List.length_map] at e
  unfold cutS
  rw [h]
  show (⟨_⟩ : Str) = ⟨_⟩
  congr 1
  congr 1
  rw [List.map_drop]
  exact e
/-! ### plain play -/
theorem set_cut {xs : List Int} {p : Nat} {v : Int} (h : p < xs.length) : xs.take p ++ [v] ++ xs.drop (p + 1) = xs.set p v := by
  rw [List.set_eq_take_append_cons_drop, if_pos h]; simp
abbrev spLower : Sp := spT (fun a : List Int × Nat => [dI a.1, .int (a.2 : Int)]) (fun a => a.1.length ≤ 1000 ∧ a.2 < a.1.length) (fun a => .sh (dI (lowerM a.1 a.2)))
theorem fo_lower (T : Txt K mg) : Cal P w K mg base 1 "_law_lower" ["_law_sizes", "_law_place"] [] spLower := by
  obtain ⟨fd, F⟩ := T.f_law_lower
  refine cal_of F (def_ok F sc_law_lower (fun _ => rfl) fun cdv A outer s H E hr a hp S0 Z kk hnx => ?_) T.g_law_lower (fun _ _ _ _ _ _ us hl => match us, hl with | [_, _], _ => rfl)
  obtain ⟨xs, p⟩ := a
  obtain ⟨hl, hp⟩ := hp
  have hl : xs.length ≤ 1000 := hl
  have hp : p < xs.length := hp
  refine go_set 2 (a := .sh (dI (xs.set p (xs.getD p 0 - 1)))) ?_ ?_ sc_law_lower.nd
  · refine Ed.to (ev_catL (ev_catL (ev_slL (ed_var 0) .none (.some (ed_var 1))).lst (ev_lst (ea_cons (ed_sub (ed_ixL (ed_var 0) (ed_var 1) (atI_intN (j := p) rfl (getI hp))) ed_int) ea_nil)).lst ?_).lst (ev_slL (ed_var 0) (.some (i := ((p + 1 : Nat) : Int)) (Ed.to (ed_add (ed_var 1) ed_int) (by push_cast; rfl))) .none).lst ?_).lst ?_
    · rw [cut_lo, List.length_take, List.length_map]; simp; omega
    · rw [cut_lo, cut_hi, List.length_append, List.length_take, List.length_drop, List.length_map]; simp; omega
    · rw [cut_lo, cut_hi, ← set_cut hp]
      simp [dI]
  · refine go_ret (Ev.show (ev_sorted ?_ T.n_sorted)) kk
    refine Ed.to (ev_lc (j := 3) (xs.set p (xs.getD p 0 - 1)) D.int (fun v => decide (0 < v)) D.int (ei_list (ed_var 2)) rfl (by rw [List.length_set]; omega) sc_law_lower.nd (fun y _ => .one fun s H C cl fp => et_gt (ed_var 3) ed_int) (fun y _ _ s H C cl fp => ed_var 3) (blkOk_by (N := N_law_lower) (sc := defScope s_law_lower) (by decide +kernel)) (fun _ _ _ _ _ => pg_name sc_law_lower.nd rfl (Or.inl rfl))).lst ?_
    rfl
/-- the plain pluck: none where the raider has none -/
def bestM (xs : List Int) (b : Bool) : Option (List Int) := if b then (if xs.length ≤ 1 then none else some (lowerM xs (xs.length - 1))) else some (lowerM xs 0)
abbrev spBest : Sp := spT (fun a : List Int × Bool => [dI a.1, .str (sgn a.2)]) (fun a => a.1.length ≤ 1000 ∧ (a.2 = false → a.1 ≠ [])) (fun a => .sh (match bestM a.1 a.2 with | none => .non | some ys => dI ys))
theorem fo_best (T : Txt K mg) (c1 : Cal P w K mg base 1 "_law_lower" ["_law_sizes", "_law_place"] [] spLower) : Cal P w K mg base 2 "_law_best" ["_law_sizes", "_law_letter"] [] spBest := by
  obtain ⟨fd, F⟩ := T.f_law_best
  refine cal_of F (def_ok F sc_law_best (fun _ => rfl) fun cdv A outer s H E hr a hp S0 Z kk hnx => ?_) T.g_law_best (fun _ _ _ _ _ _ us hl => match us, hl with | [_, _], _ => rfl)
  obtain ⟨xs, b⟩ := a
  obtain ⟨hl, hp⟩ := hp
  have hl : xs.length ≤ 1000 := hl
  refine go_if (t := !b) (Et.to (et_eqS (ed_var 1) ed_str) (sgn_K b)) (fun h => ?_) (fun h => ?_)
  · have hb : b = false := by simpa using h
    subst hb
    exact go_ret (ed_call c1 (xs, 0) (ea_cons (ed_var 0) (ea_cons ed_int ea_nil)) ⟨hl, List.length_pos_iff.mpr (hp rfl)⟩ (hr.mono (by decide))) kk
  · have hb : b = true := by simpa using h
    subst hb
    refine go_nil (nx_go ?_)
    refine go_if (et_le (ed_lenL (ed_var 0) T.n_len) ed_int) (fun h => ?_) (fun h => ?_)
    · have h1 : xs.length ≤ 1 := by have : ((xs.map D.int).length : Int) ≤ 1 := of_decide_eq_true h; rw [List.length_map] at this; omega
      refine go_ret (Ed.to ed_non ?_) kk
      simp only [bestM, if_pos h1, if_true]
    · have h1 : ¬ xs.length ≤ 1 := by have : ¬ ((xs.map D.int).length : Int) ≤ 1 := of_decide_eq_false h; rw [List.length_map] at this; omega
      have hlt : xs.length - 1 < xs.length := by omega
      refine go_nil (nx_go ?_)
      refine go_ret (Ed.to (ed_call c1 (xs, xs.length - 1) (ea_cons (ed_var 0) (ea_cons (Ed.to (ed_sub (ed_lenL (ed_var 0) T.n_len) ed_int) (by rw [List.length_map]; show D.int _ = D.int _; congr 1; show (xs.length : Int) - 1 = ((xs.length - 1 : Nat) : Int); omega)) ea_nil)) ⟨hl, hlt⟩ (hr.mono (by decide))) ?_) kk
      simp only [bestM, if_neg h1, if_true]; rfl
/-! ### who survives -/
def survM : List Int → List Bool → Bool
  | _, [] => true
  | xs, b :: l => match bestM xs b with
    | none => false
    | some ys => survM ys l
theorem surv_cons (xs : List Int) (b : Bool) (l : List Bool) : survM xs (b :: l) = match bestM xs b with
    | none => false
    | some ys => survM ys l := rfl
theorem bestM_good {xs ys : List Int} {b : Bool} (h : Good xs) (hn : xs ≠ []) (e : bestM xs b = some ys) : Good ys ∧ ys.sum = xs.sum - 1 := by
  have hl := List.length_pos_iff.mpr hn
  unfold bestM at e
  split at e
  · split at e
    · cases e
    · cases e; exact ⟨lower_good h (by omega), lower_sum h.1 (by omega)⟩
  · cases e; exact ⟨lower_good h hl, lower_sum h.1 hl⟩
abbrev spSurv : Sp := spT (fun a : List Int × List Bool => [dI a.1, .str (wd a.2)]) (fun a => Good a.1 ∧ (a.2.length : Int) ≤ a.1.sum) (fun a => .sh (.bl (survM a.1 a.2)))
theorem fo_surv (T : Txt K mg) (c1 : Cal P w K mg base 2 "_law_best" ["_law_sizes", "_law_letter"] [] spBest) : Cal P w K mg base 3 "_law_survives" ["_law_sizes", "_law_order_here"] [] spSurv := by
  obtain ⟨fd, F⟩ := T.f_law_survives
  refine cal_of F (def_ok F sc_law_survives (fun _ => rfl) fun cdv A outer s H E hr a hp S0 Z kk hnx => ?_) T.g_law_survives (fun _ _ _ _ _ _ us hl => match us, hl with | [_, _], _ => rfl)
  obtain ⟨xs, l⟩ := a
  obtain ⟨hg, hs⟩ := hp
  have hs : (l.length : Int) ≤ xs.sum := hs
  refine go_set 2 (a := .sh (dI xs)) (ev_listL (ed_var 0) T.n_list).lst ?_ sc_law_survives.nd
  refine go_for (fun r : List Int => [some (.sh (dI xs)), some (.sh (.str (wd l))), some (.sh (dI r)), none]) (fun i r => Good r ∧ r.sum = xs.sum - (i : Int) ∧ survM r (l.drop i) = survM xs l) l (fun b => .str (sgn b)) (ei_str (ed_var 1)) (wd_signs l) xs ⟨hg, by simp, rfl⟩ (Wk.refl _) ?_ ?_
  · rintro S1 rb i b r hb ⟨h1, h2, h3⟩
    have hi := (List.getElem?_eq_some_iff.mp hb).1
    have hd : l.drop i = b :: l.drop (i + 1) := by
      rw [List.drop_eq_getElem_cons hi]
      rw [List.getElem?_eq_getElem hi] at hb
      cases hb; rfl
    have hne : r ≠ [] := fun z => by subst z; simp at h2; omega
    have hlr := good_len h1
    rw [hd] at h3
    refine ⟨_, eg_name 3 sc_law_survives.nd, ?_⟩
    refine go_set 2 (a := .sh (match bestM r b with | none => .non | some ys => dI ys)) (ed_call c1 (r, b) (ea_cons (ed_var 2) (ea_cons (ed_var 3) ea_nil)) ⟨by show r.length ≤ 1000; omega, fun _ => hne⟩ (hr.mono (by decide))) ?_ sc_law_survives.nd
    rw [surv_cons] at h3
    cases hbm : bestM r b with
    | none =>
      rw [hbm] at h3
      refine go_if (t := true) (Et.to (et_isN (d := .non) (ed_var 2)) rfl) (fun _ => ?_) (fun h => nomatch h)
      refine go_ret (Ed.to ed_bl ?_) (rb.post kk)
      show D.bl false = D.bl (survM xs l)
      rw [← h3]
    | some ys =>
      rw [hbm] at h3
      refine go_if (t := false) (Et.to (et_isN (d := dI ys) (ed_var 2)) rfl) (fun h => nomatch h) (fun _ => ?_)
      refine go_nil (nx_go ?_)
      obtain ⟨g1, g2⟩ := bestM_good h1 hne hbm
      exact go_next rfl ys ⟨g1, by rw [g2, h2]; push_cast; omega, h3⟩ (.keep (.keep (.keep (.skip .nil))))
  · rintro r ⟨_, _, h3⟩
    have : l.drop l.length = [] := List.drop_length ..
    rw [this] at h3
    refine go_ret (Ed.to ed_bl ?_) kk
    show D.bl true = D.bl (survM xs l)
    rw [← h3]; rfl
end
end Bb
end
section
set_option maxRecDepth 100000
set_option maxHeartbeats 4000000
/-! B12: if c: x = e. -/
namespace Bb
open PySem PySem.Spec PyProof.Rows L2
theorem set_same {α : Type} {l : List α} {i : Nat} {a : α} (h : l[i]? = some a) : l.set i a = l := by
  apply List.ext_getElem?
  intro j
  by_cases hj : i = j
  · subst hj; rw [List.getElem?_set_self (List.getElem?_eq_some_iff.mp h).1, h]
  · rw [List.getElem?_set_ne hj]
theorem go_ifs {X : Cx} {S0 H0 : Hp} {Z : Ends} {Δ : Dl} {c e : Expr} {rest : List Stmt} {pos pa p : Pos} {x : Str} (i : Nat) {α : Type} (enc : α → D) {v0 v1 : α} {t : Bool} (h0 : Δ[i]? = some (some (.sh (enc v0)))) (hc : Et X Δ c t) (he : t = true → Ed X Δ e (enc v1)) (k : Go X S0 H0 Z rest (Δ.set i (some (.sh (enc (if t then v1 else v0)))))) (hN : X.N.Nodup) (hi : X.N[i]? = some x := by rfl) (hx : Loc X.env.scope x := by first | exact Or.inl rfl | exact Or.inr rfl)
    (hs : swapsWith e (some (.Name x p)) pa.line X.env = pure false := by rfl) (hf : X.fn x = true ∨ X.env.scope.names.lookup x = some .local := by first | exact .inl rfl | exact .inr rfl) : Go X S0 H0 Z (.If c [.Assign [.Name x p] e pa] [] pos :: rest) Δ := by
  refine go_if hc (fun h => ?_) (fun h => ?_)
  · refine go_set i (he h) (go_nil (nx_go ?_)) hN hi hx hs hf
    subst h; exact k
  · refine go_nil (nx_go ?_)
    subst h
    rw [if_neg (by decide), set_same h0] at k
    exact k
end Bb
end
section
set_option maxRecDepth 100000
set_option maxHeartbeats 4000000
namespace Bb
open PySem PySem.Spec PyProof.Rows L2
def Desc (xs : List Int) : Prop := xs.Pairwise (· ≥ ·)
theorem rep_one (n : Nat) (d : D) : (List.replicate n [d]).flatten = List.replicate n d := by
  induction n with
  | zero => rfl
  | succ n ih => rw [List.replicate_succ, List.flatten_cons, ih, List.replicate_succ]; rfl
theorem sum_snoc (l : List Int) (x : Int) : (l ++ [x]).sum = l.sum + x := by rw [List.sum_append]; simp
theorem menu_ok {c : Int} {t : Nat} (ht : t ≤ 14) {m : Int} (hm : 0 < m ∧ m < 1000) {l : List Int} (hl : l.length ≤ 10) (hl2 : ∀ x ∈ l, 0 < x ∧ x < 1000) : MenuOk (c, l ++ List.replicate t m) :=
  ⟨by show (l ++ List.replicate t m).length ≤ 1000; rw [List.length_append, List.length_replicate]; omega, fun x hx => by
    rcases List.mem_append.mp hx with q | q
    · have := hl2 x q; omega
    · have := (List.mem_replicate.mp q).2; omega⟩
section
variable {P : Program} {w : World} {K : PySem.W.Frag} {mg : Str → Option Value} {base : Heap}
/-! ### a list of a given sum -/
def ListOf (a : Int × Nat) (av : Av) : Prop := ∃ ys : List Int, av = .ol (ys.map .int) ∧ (∀ x ∈ ys, 1 ≤ x) ∧ ys.sum = (a.2 : Int) ∧ Desc ys
abbrev spList : Sp := spX (fun a : Int × Nat => [.int a.1, .int (a.2 : Int)]) (fun a => a.2 ≤ 14) ListOf
theorem fo_list (T : Txt K mg) (c1 : Cal P w K mg base 2 "_law_draws" ["_law_cell_here", "_law_menu"] [] spDraws) : Cal P w K mg base 3 "_law_list" ["_law_cell_here", "_law_total"] [] spList := by
  obtain ⟨fd, F⟩ := T.f_law_list
  refine cal_of F (def_okG F sc_law_list (fun _ => rfl) fun cdv A outer s H E hr a hp S0 Z hsb kk hnx => ?_) T.g_law_list (fun _ _ _ _ _ _ us hl => match us, hl with | [_, _], _ => rfl)
  obtain ⟨c, t⟩ := a
  have ht : t ≤ 14 := hp
  have hmx : 0 < max 1 (t : Int) ∧ max 1 (t : Int) < 1000 := by omega
  have m1 : MenuOk (c, [4, 9]) := ⟨by show 2 ≤ 1000; decide, fun x hx => by simp at hx; omega⟩
  have m2 : MenuOk (c, [4, 9] ++ List.replicate t (max 1 (t : Int))) := menu_ok ht hmx (by decide) (fun x hx => by simp at hx; omega)
  have hd1 : ∀ {j : Nat} {m : Int}, _ → _ := fun {j m} h => drawsM_bd (c := c) (menu := [4, 9]) (fun m hm => (m1.pos m hm).1) (j := j) (m := m) h
  have hd2 : ∀ {j : Nat} {m : Int}, _ → _ := fun {j m} h => drawsM_bd (c := c) (menu := [4, 9] ++ List.replicate t (max 1 (t : Int))) (fun m hm => (m2.pos m hm).1) (j := j) (m := m) h
  refine go_set 2 (a := .sh (dI (drawsM c [4, 9]))) (ed_call c1 (c, [4, 9]) (ea_cons (ed_var 0) (ea_cons (Ed.to (ev_lst (ea_cons ed_int (ea_cons ed_int ea_nil))).lst rfl) ea_nil)) m1 (hr.mono (by decide))) ?_ sc_law_list.nd
  refine go_set 3 (a := .sh (dI (drawsM c ([4, 9] ++ List.replicate t (max 1 (t : Int)))))) (ed_call c1 (c, [4, 9] ++ List.replicate t (max 1 (t : Int))) (ea_cons (ed_var 0) (ea_cons (Ed.to (ev_catL (ev_lst (ea_cons ed_int (ea_cons ed_int ea_nil))).lst (ev_repL (ev_lst (ea_cons (ed_max ed_int (ed_var 1) T.n_max) ea_nil)).lst (ed_var 1) (by omega) (by simp)).lst ?_).lst ?_) ea_nil)) m2 (hr.mono (by decide))) ?_ sc_law_list.nd
  · rw [rep_one, List.length_replicate]; simp; omega
  · rw [rep_one, dI, List.map_append, List.map_replicate]; simp
  obtain ⟨h0a, h0b, h0c⟩ := hd1 (j := 0) (m := 4) rfl
  obtain ⟨h1a, h1b, h1c⟩ := hd1 (j := 1) (m := 9) rfl
  generalize drawsM c [4, 9] = hd at *
  generalize hdr : drawsM c ([4, 9] ++ List.replicate t (max 1 (t : Int))) = dr at *
  refine go_set 4 (ev_lst ea_nil) ?_ sc_law_list.nd
  refine go_set 5 (ed_var 1) ?_ sc_law_list.nd
  refine go_for (fun a : List Int × Int => [some (.sh (.int c)), some (.sh (.int (t : Int))), some (.sh (dI hd)), some (.sh (dI dr)), some (.ol (a.1.map .int)), some (.sh (.int a.2)), none, none]) (fun i a => (∀ x ∈ a.1, 1 ≤ x) ∧ a.1.sum + a.2 = (t : Int) ∧ 0 ≤ a.2 ∧ a.2 ≤ (t : Int) - (i : Int) ∧ a.1.length ≤ i) (List.range t) (fun i : Nat => .int (i : Int))
    (ei_rng1 (ed_var 1) (by omega) T.n_range) (by simp) ([], (t : Int)) ⟨by simp, by simp, by omega, by simp, by simp⟩ (Wk.refl _) ?_ ?_
  · rintro S1 rb i y ⟨f, rest⟩ hy ⟨p1, p2, p3, p4, p5⟩
    obtain ⟨rfl, hi⟩ := range_at hy
    simp only at p1 p2 p3 p4 p5
    refine ⟨_, eg_name 6 sc_law_list.nd, ?_⟩
    refine go_if (et_gt (ed_var 5) ed_int) (fun h => ?_) (fun h => ?_)
    · have hr0 : 0 < rest := of_decide_eq_true h
      obtain ⟨q1, q2, q3⟩ := hd2 (j := 2 + y) (m := max 1 (t : Int)) (by rw [List.getElem?_append_right (by show 2 ≤ 2 + y; omega), List.getElem?_replicate, if_pos (by show 2 + y - 2 < t; omega)])
      have hat : atI (dr.map D.int) (2 + (y : Int)) = some (.int (dr.getD (2 + y) 0)) := atI_intN (j := 2 + y) (by push_cast; rfl) (by rw [List.getElem?_map, q1]; rfl)
      have a0 : atI (hd.map D.int) 0 = some (.int (hd.getD 0 0)) := atI_intN (j := 0) rfl (by rw [List.getElem?_map, h0a]; rfl)
      have a1 : atI (hd.map D.int) 1 = some (.int (hd.getD 1 0)) := atI_intN (j := 1) rfl (by rw [List.getElem?_map, h1a]; rfl)
      generalize dr.getD (2 + y) 0 = dv at *
      generalize hd.getD 0 0 = g0 at *
      generalize hd.getD 1 0 = g1 at *
      have b1 : ∀ m : Int, 0 < m → m ≤ rest → 1 ≤ 1 + dv % m ∧ 1 + dv % m ≤ rest := fun m h1 h2 => by
        have := Int.emod_nonneg dv (show m ≠ 0 by omega)
        have := Int.emod_lt_of_pos dv h1
        omega
      have b2 := Int.emod_nonneg dv (show (2 : Int) ≠ 0 by decide)
      refine go_set 7 (a := .sh (.int (1 + dv % rest))) (ed_add ed_int (ed_mod (ed_intI (ed_ixL (ed_var 3) (ed_add ed_int (ed_var 6)) hat) T.n_int) (ed_var 5) hr0)) ?_ sc_law_list.nd
      refine go_ifs 7 D.int (v1 := 1 + dv % (min rest 3)) rfl (et_eqI (ed_ixL (ed_var 2) ed_int a0) ed_int) (fun _ => ed_add ed_int (ed_mod (ed_intI (ed_ixL (ed_var 3) (ed_add ed_int (ed_var 6)) hat) T.n_int) (ed_min (ed_var 5) ed_int T.n_min) (by omega))) ?_ sc_law_list.nd
      refine go_ifs 7 D.int (v1 := min rest (1 + g1 + dv % 2)) rfl (et_eqI (ed_ixL (ed_var 2) ed_int a0) ed_int) (fun _ => ed_min (ed_var 5) (ed_add (ed_add ed_int (ed_ixL (ed_var 2) ed_int a1)) (ed_mod (ed_intI (ed_ixL (ed_var 3) (ed_add ed_int (ed_var 6)) hat) T.n_int) ed_int (by decide))) T.n_min) ?_ sc_law_list.nd
      refine go_ifs 7 D.int (v1 := 1) (t := decide (g0 = 3) && decide (0 < (y : Int))) rfl (Ew.et (ew_and (et_eqI (ed_ixL (ed_var 2) ed_int a0) ed_int) fun _ => ew_and1 (et_gt (ed_var 6) ed_int))) (fun _ => ed_int) ?_ sc_law_list.nd
      generalize hpart : (if (decide (g0 = 3) && decide (0 < (y : Int))) = true then (1 : Int) else if decide (g0 = 2) = true then min rest (1 + g1 + dv % 2) else if decide (g0 = 1) = true then 1 + dv % (min rest 3) else 1 + dv % rest) = part
      have hpb : 1 ≤ part ∧ part ≤ rest := by
        have := b1 rest hr0 (Int.le_refl _)
        have := b1 (min rest 3) (by omega) (by omega)
        rw [← hpart]
        split
        · omega
        · split
          · omega
          · split <;> omega
      refine go_app 4 rfl (ed_var 7) (by simp only [List.length_map]; omega) ?_
      refine go_set 5 (ed_sub (ed_var 5) (ed_var 7)) ?_ sc_law_list.nd
      refine go_nil (nx_go ?_)
      refine go_next rfl (f ++ [part], rest - part) ⟨fun x hx => ?_, by show (f ++ [part]).sum + (rest - part) = _; rw [sum_snoc]; omega, by show 0 ≤ rest - part; omega, by show rest - part ≤ _; push_cast; omega, by show (f ++ [part]).length ≤ _; rw [List.length_append, List.length_singleton]; omega⟩ ?_
      · rcases List.mem_append.mp hx with q | q
        · exact p1 x q
        · simp at q; omega
      · show Wk [_, _, _, _, some (.ol (f.map .int ++ [.int part])), _, _, _] _
        rw [List.map_append]
        exact .keep (.keep (.keep (.keep (.keep (.keep (.skip (.skip .nil)))))))
    · have hr0 : ¬ 0 < rest := of_decide_eq_false h
      refine go_nil (nx_go ?_)
      exact go_next rfl (f, rest) ⟨p1, p2, p3, by show rest ≤ _; push_cast; omega, by show f.length ≤ _; omega⟩ (.keep (.keep (.keep (.keep (.keep (.keep (.skip (.skip .nil))))))))
  · rintro ⟨f, rest⟩ ⟨p1, p2, p3, p4, p5⟩
    simp only [List.length_range] at p1 p2 p3 p4 p5
    refine go_show 4 rfl ?_
    refine go_ret (ev_sorted (ed_var 4) T.n_sorted) (kk _ ⟨sortD f, rfl, fun x hx => p1 x ((sortD_perm f).mem_iff.mp hx), ?_, sortD_sorted f⟩)
    rw [sum_perm (sortD_perm f)]
    show f.sum = (t : Int)
    omega
/-! ### an order of a given length -/
def OrderOf (a : Int × Nat) (av : Av) : Prop := ∃ l : List Bool, av = .sh (.str (wd l)) ∧ l.length = a.2
abbrev spOrder : Sp := spX (fun a : Int × Nat => [.int a.1, .int (a.2 : Int)]) (fun a => a.2 ≤ 14) OrderOf
theorem ed_wdix {X : Cx} {Δ : Dl} {a b : Expr} {pos : Pos} {l : List Bool} {j : Int} {n : Nat} (ha : Ed X Δ a (.str (wd l))) (hb : Ed X Δ b (.int j)) (hl : l.length ≤ 1000000) (hj : j = (n : Int)) (hn : n < l.length) (hs : PlainIx b := by intro _ _; rfl) : Ed X Δ (.Subscript a b pos) (.str (sgn l[n])) :=
  ed_ixS ha hb (by rw [wd_len]; exact hl) (atI_intN hj (by simp [wd, hn])) hs
theorem fo_order (T : Txt K mg) (c1 : Cal P w K mg base 2 "_law_draws" ["_law_cell_here", "_law_menu"] [] spDraws) : Cal P w K mg base 3 "_law_order" ["_law_cell_here", "_law_turns"] [] spOrder := by
  obtain ⟨fd, F⟩ := T.f_law_order
  refine cal_of F (def_okG F sc_law_order (fun _ => rfl) fun cdv A outer s H E hr a hp S0 Z hsb kk hnx => ?_) T.g_law_order (fun _ _ _ _ _ _ us hl => match us, hl with | [_, _], _ => rfl)
  obtain ⟨c, t⟩ := a
  have ht : t ≤ 14 := hp
  have m1 : MenuOk (c, [6]) := ⟨by show 1 ≤ 1000; decide, fun x hx => by simp at hx; omega⟩
  have m2 : MenuOk (c, [6] ++ List.replicate t 12) := menu_ok ht (by omega) (by decide) (fun x hx => by simp at hx; omega)
  have hd1 : ∀ {j : Nat} {m : Int}, _ → _ := fun {j m} h => drawsM_bd (c := c) (menu := [6]) (fun m hm => (m1.pos m hm).1) (j := j) (m := m) h
  have hd2 : ∀ {j : Nat} {m : Int}, _ → _ := fun {j m} h => drawsM_bd (c := c) (menu := [6] ++ List.replicate t 12) (fun m hm => (m2.pos m hm).1) (j := j) (m := m) h
  refine go_set 2 (a := .sh (dI (drawsM c [6]))) (ed_call c1 (c, [6]) (ea_cons (ed_var 0) (ea_cons (Ed.to (ev_lst (ea_cons ed_int ea_nil)).lst rfl) ea_nil)) m1 (hr.mono (by decide))) ?_ sc_law_order.nd
  refine go_set 3 (a := .sh (dI (drawsM c ([6] ++ List.replicate t 12)))) (ed_call c1 (c, [6] ++ List.replicate t 12) (ea_cons (ed_var 0) (ea_cons (Ed.to (ev_catL (ev_lst (ea_cons ed_int ea_nil)).lst (ev_repL (ev_lst (ea_cons ed_int ea_nil)).lst (ed_var 1) (by omega) (by simp)).lst ?_).lst ?_) ea_nil)) m2 (hr.mono (by decide))) ?_ sc_law_order.nd
  · rw [rep_one, List.length_replicate]; simp; omega
  · rw [rep_one, dI, List.map_append, List.map_replicate]; simp
  obtain ⟨h0a, h0b, h0c⟩ := hd1 (j := 0) (m := 6) rfl
  generalize drawsM c [6] = hd at *
  generalize hdr : drawsM c ([6] ++ List.replicate t 12) = dr at *
  have a0 : atI (hd.map D.int) 0 = some (.int (hd.getD 0 0)) := atI_intN (j := 0) rfl (by rw [List.getElem?_map, h0a]; rfl)
  generalize hd.getD 0 0 = g0 at *
  refine go_set 4 (a := .sh (.str (wd [false, true]))) ed_str ?_ sc_law_order.nd
  refine go_set 5 (a := .sh (.str (wd []))) ed_str ?_ sc_law_order.nd
  refine go_for (fun l : List Bool => [some (.sh (.int c)), some (.sh (.int (t : Int))), some (.sh (dI hd)), some (.sh (dI dr)), some (.sh (.str (wd [false, true]))), some (.sh (.str (wd l))), none, none, none]) (fun i l => l.length = i) (List.range t) (fun i : Nat => .int (i : Int))
    (ei_rng1 (ed_var 1) (by omega) T.n_range) (by simp) [] rfl (Wk.refl _) ?_ ?_
  · rintro S1 rb i y l hy rfl
    obtain ⟨rfl, hi⟩ := range_at hy
    obtain ⟨q1, q2, q3⟩ := hd2 (j := 1 + l.length) (m := 12) (by rw [List.getElem?_append_right (by show 1 ≤ 1 + l.length; omega), List.getElem?_replicate, if_pos (by show 1 + l.length - 1 < t; omega)])
    have hat : atI (dr.map D.int) (1 + (l.length : Int)) = some (.int (dr.getD (1 + l.length) 0)) := atI_intN (j := 1 + l.length) (by push_cast; rfl) (by rw [List.getElem?_map, q1]; rfl)
    refine ⟨_, eg_name 6 sc_law_order.nd, ?_⟩
    refine go_set 7 (ed_intI (ed_ixL (ed_var 3) (ed_add ed_int (ed_var 6)) hat) T.n_int) ?_ sc_law_order.nd
    generalize dr.getD (1 + l.length) 0 = dv at *
    have hm2 : 0 ≤ dv % 2 ∧ dv % 2 < 2 := ⟨Int.emod_nonneg _ (by decide), Int.emod_lt_of_pos _ (by decide)⟩
    have hmn : dv % 2 = ((dv % 2).toNat : Int) := by omega
    have hmn2 : (dv % 2).toNat < [false, true].length := by show _ < 2; omega
    refine go_set 8 (ed_wdix (n := (dv % 2).toNat) (ed_var 4) (ed_mod (ed_var 7) ed_int (by decide)) (by decide) hmn hmn2) ?_ sc_law_order.nd
    generalize [false, true][(dv % 2).toNat] = b0
    refine go_ifs 8 (fun b => D.str (sgn b)) (v1 := false) (t := decide (g0 = 1) && !decide (dv % 4 = 1)) rfl (Ew.et (ew_and (et_eqI (ed_ixL (ed_var 2) ed_int a0) ed_int) fun _ => ew_and1 (et_neI (ed_mod (ed_var 7) ed_int (by decide)) ed_int))) (fun _ => ed_str) ?_ sc_law_order.nd
    generalize (if (decide (g0 = 1) && !decide (dv % 4 = 1)) = true then false else b0) = b1
    refine go_ifs 8 (fun b => D.str (sgn b)) (v1 := true) (t := decide (g0 = 2) && decide (0 < dv % 4)) rfl (Ew.et (ew_and (et_eqI (ed_ixL (ed_var 2) ed_int a0) ed_int) fun _ => ew_and1 (et_gt (ed_mod (ed_var 7) ed_int (by decide)) ed_int))) (fun _ => ed_str) ?_ sc_law_order.nd
    generalize (if (decide (g0 = 2) && decide (0 < dv % 4)) = true then true else b1) = b2
    refine go_ifs 8 (fun b => D.str (sgn b)) (v1 := l.getD (l.length - 1) false) (t := decide (g0 = 3) && (decide (0 < (l.length : Int)) && decide (0 < dv % 3))) rfl (Ew.et (ew_and (et_eqI (ed_ixL (ed_var 2) ed_int a0) ed_int) fun _ => ew_and (et_gt (ed_var 6) ed_int) fun _ => ew_and1 (et_gt (ed_mod (ed_var 7) ed_int (by decide)) ed_int))) (fun h => ?_) ?_ sc_law_order.nd
    · have hl : 0 < l.length := by simp at h; omega
      refine Ed.to (ed_wdix (n := l.length - 1) (ed_var 5) (ed_sub (ed_var 6) ed_int) (by omega) (by omega) (by omega)) ?_
      have : l.getD (l.length - 1) false = l[l.length - 1] := by simp [List.getD, show l.length - 1 < l.length by omega]
      rw [this]
    generalize (if (decide (g0 = 3) && (decide (0 < (l.length : Int)) && decide (0 < dv % 3))) = true then l.getD (l.length - 1) false else b2) = b3
    refine go_set 5 (a := .sh (.str (wd (l ++ [b3])))) (Ed.to (ed_cat (ed_var 5) (ed_var 8) (by rw [wd_len]; show _ + 1 ≤ _; omega)) (by rw [sgn_wd, wd_app])) ?_ sc_law_order.nd
    exact go_next rfl (l ++ [b3]) (by simp) (.keep (.keep (.keep (.keep (.keep (.keep (.skip (.skip (.skip .nil)))))))))
  · rintro l hl
    rw [List.length_range] at hl
    refine go_ifs 5 (fun l => D.str (wd l)) (v1 := l.take (t - 1) ++ [false]) (t := decide (0 < (t : Int)) && decide (1 < g0)) rfl (Ew.et (ew_and (et_gt (ed_var 1) ed_int) fun _ => ew_and1 (et_gt (ed_ixL (ed_var 2) ed_int a0) ed_int))) (fun h => ?_) ?_ sc_law_order.nd
    · have h0 : 0 < t := by simp at h; omega
      refine Ed.to (ed_cat (j := wd [false]) (Ed.to (ed_slS (ed_var 5) .none (.some (i := ((t - 1 : Nat) : Int)) (Ed.to (ed_sub (ed_var 1) ed_int) (by congr 1; omega))) (by rw [wd_len]; omega)) (by rw [cutS_lo])) ed_str (by rw [wd_len, List.length_take]; show _ + 1 ≤ _; omega)) (by rw [wd_app])
    refine go_ret (ed_var 5) (kk _ ⟨_, rfl, ?_⟩)
    show List.length (if _ then _ else _) = t
    split
    · rename_i h
      have h0 : 0 < t := by simp at h; omega
      rw [List.length_append, List.length_take, List.length_singleton]; omega
    · exact hl
end
end Bb
end
section
set_option maxRecDepth 100000
set_option maxHeartbeats 4000000
namespace Bb
open PySem PySem.Spec PyProof.Rows L2
/-- the last letter is R -/
def lastR (l : List Bool) : Bool := l.getD (l.length - 1) false
theorem lastR_wd (l : List Bool) : decide (wd (l.drop (l.length - 1)) = ("R" : Str)) = lastR l := by
  unfold lastR
  by_cases hl : 0 < l.length
  · have hi : l.length - 1 < l.length := by omega
    have e3 : l.drop (l.length - 1 + 1) = [] := List.drop_of_length_le (by omega)
    rw [List.drop_eq_getElem_cons hi, e3]
    have e2 : l.getD (l.length - 1) false = l[l.length - 1] := by simp [List.getD, hi]
    rw [e2, ← sgn_wd]
    exact sgn_R _
  · have : l = [] := List.eq_nil_of_length_eq_zero (by omega)
    subst this
    decide
theorem cutS_last (l : List Bool) : cutS (wd l) (some (-1)) none = wd (l.drop (l.length - 1)) := by
  have e : cutS (wd l) (some (-1)) none = cutS (wd l) (some ((l.length - 1 : Nat) : Int)) none := by
    unfold cutS
    rw [wd_len, HT.sIx_nat]
    have : HT.sIx l.length 0 (some (-1)) = min (l.length - 1) l.length := by
      show (if (-1 : Int) < 0 then ((-1 : Int) + (l.length : Int)).toNat else min (-1 : Int).toNat l.length) = _
      rw [if_pos (by decide)]; omega
    rw [this]
  rw [e, cutS_hi]
def wordsM : Nat → List (List Bool)
  | 0 => [[]]
  | n + 1 => (wordsM n).map (false :: ·) ++ (wordsM n).map (true :: ·)
theorem wordsM_len : ∀ n, (wordsM n).length = 2 ^ n
  | 0 => rfl
  | n + 1 => by show ((wordsM n).map _ ++ (wordsM n).map _).length = _; rw [List.length_append, List.length_map, List.length_map, wordsM_len n, Nat.pow_succ]; omega
theorem wordsM_mem : ∀ n, ∀ l ∈ wordsM n, l.length = n
  | 0, l, h => by simp [wordsM] at h; subst h; rfl
  | n + 1, l, h => by
    rcases List.mem_append.mp h with h | h
    · obtain ⟨m, hm, rfl⟩ := List.mem_map.mp h
      rw [List.length_cons, wordsM_mem n m hm]
    · obtain ⟨m, hm, rfl⟩ := List.mem_map.mp h
      rw [List.length_cons, wordsM_mem n m hm]
def cntR : List Bool → Nat
  | [] => 0
  | b :: l => cntR l + (if b then 1 else 0)
theorem cntR_le : ∀ l : List Bool, cntR l ≤ l.length
  | [] => Nat.le_refl _
  | b :: l => by have := cntR_le l; unfold cntR; rw [List.length_cons]; split <;> omega
theorem count_words : ∀ n ∈ List.range 7, ∀ l ∈ wordsM n, Txt.count (wd l) "R" = (cntR l : Int) := by decide +kernel
def waysM (xs : List Int) (ws : List (List Bool)) : List (List Bool) := ws.filter fun l => !lastR l && survM xs l
def rowM (ws : List (List Bool)) (t : Nat) : List Int := ws.foldl (fun r l => r.set (cntR l) (r.getD (cntR l) 0 + 1)) (List.replicate (t + 1) 0)
def allM : Nat → Int → Int → List (List Int)
  | 0, _, _ => [[]]
  | n + 1, total, most => if total = 0 then [[]] else (List.range (min total most).toNat).flatMap fun k : Nat => (allM n (total - (min total most - (k : Int))) (min total most - (k : Int))).map fun r => (min total most - (k : Int)) :: r
section
variable {P : Program} {w : World} {K : PySem.W.Frag} {mg : Str → Option Value} {base : Heap}
def KeptOf (a : List Int × List Bool × Int) (av : Av) : Prop := ∃ l : List Bool, av = .sh (.str (wd l)) ∧ l.length = a.2.1.length
abbrev spKept : Sp := spX (fun a : List Int × List Bool × Int => [dI a.1, .str (wd a.2.1), .int a.2.2]) (fun a => Good a.1 ∧ (a.2.1.length : Int) ≤ a.1.sum) KeptOf
theorem fo_kept (T : Txt K mg) (c1 : Cal P w K mg base 3 "_law_survives" ["_law_sizes", "_law_order_here"] [] spSurv) : Cal P w K mg base 4 "_law_kept_order" ["_law_sizes", "_law_order_here", "_law_style"] [] spKept := by
  obtain ⟨fd, F⟩ := T.f_law_kept_order
  refine cal_of F (def_okG F sc_law_kept_order (fun _ => rfl) fun cdv A outer s H E hr a hp S0 Z hsb kk hnx => ?_) T.g_law_kept_order (fun _ _ _ _ _ _ us hl => match us, hl with | [_, _, _], _ => rfl)
  obtain ⟨xs, l0, sty⟩ := a
  obtain ⟨hg, hs⟩ := hp
  have hs : (l0.length : Int) ≤ xs.sum := hs
  have hx := hg.2
  have hx : xs.sum ≤ 14 := hx
  have cut : ∀ {X : Cx} {Δ : Dl} {a a' e1 e2 : Expr} {k : Nat} {p1 p2 p3 p4 p5 p6 p7 : Pos} {l : List Bool} {i : Nat} (b : Bool) (c : Str), l.length = l0.length → i < l.length → sgn b = c → Ed X Δ a (.str (wd l)) → Ed X Δ a' (.str (wd l)) → Ed X Δ e1 (.int (i : Int)) → Ed X Δ e2 (.int ((i + 1 : Nat) : Int)) →
      Ed X Δ (.BinOp (.BinOp (.Subscript a (.Slice none (some e1) none p1) p2) .Add (.Constant (.str c) k p3) p4) .Add (.Subscript a' (.Slice (some e2) none none p5) p6) p7) (.str (wd (l.take i ++ [b] ++ l.drop (i + 1)))) := by
    intro X Δ a a' e1 e2 k p1 p2 p3 p4 p5 p6 p7 l i b c hl hi hb ha ha' h1 h2
    have hlen : l.length ≤ 1000 := by omega
    refine Ed.to (ed_cat (i := wd (l.take i ++ [b])) (j := wd (l.drop (i + 1))) (Ed.to (ed_cat (i := wd (l.take i)) (j := sgn b) (Ed.to (ed_slS ha .none (.some h1) (by rw [wd_len]; omega)) (by rw [cutS_lo])) (by rw [hb]; exact ed_str) (by rw [wd_len, List.length_take, sgn_wd, wd_len, List.length_singleton]; omega)) (by rw [sgn_wd, wd_app])) (Ed.to (ed_slS ha' (.some h2) .none (by rw [wd_len]; omega)) (by rw [cutS_hi])) ?_) (by rw [wd_app])
    rw [wd_len, wd_len, List.length_append, List.length_take, List.length_drop, List.length_singleton]; omega
  refine go_set 3 (Ed.to (ed_lenS (ed_var 1) T.n_len (by rw [wd_len]; show l0.length ≤ _; omega)) (d' := .int (l0.length : Int)) (by rw [wd_len])) ?_ sc_law_kept_order.nd
  refine go_set 4 (ed_var 1) ?_ sc_law_kept_order.nd
  -- the second loop
  have two : ∀ l : List Bool, l.length = l0.length → Go (XF P w K mg base N_law_kept_order (Str.ofString "_law_kept_order") (defScope s_law_kept_order) (He.ga K (Str.ofString "_law_kept_order")) cdv A outer s H E) S0 H Z ((defBody s_law_kept_order).drop 3) [some (.sh (dI xs)), some (.sh (.str (wd l0))), some (.sh (.int sty)), some (.sh (.int (l0.length : Int))), some (.sh (.str (wd l))), none, none, none] := by
    intro l hl
    refine go_for (fun l : List Bool => [some (.sh (dI xs)), some (.sh (.str (wd l0))), some (.sh (.int sty)), some (.sh (.int (l0.length : Int))), some (.sh (.str (wd l))), none, none, none]) (fun i l => l.length = l0.length) (List.range l0.length) (fun i : Nat => .int (i : Int))
      (ei_rng1 (ed_var 3) (by omega) T.n_range) (by simp) l hl (Wk.refl _) ?_ ?_
    · rintro S1 rb i y l hy hl
      obtain ⟨rfl, hi⟩ := range_at hy
      refine ⟨_, eg_name 5 sc_law_kept_order.nd, ?_⟩
      refine go_set 6 (Ed.to (ed_sub (ed_sub (ed_var 3) ed_int) (ed_var 5)) (d' := .int ((l0.length - 1 - y : Nat) : Int)) (by congr 1; omega)) ?_ sc_law_kept_order.nd
      refine go_set 7 (cut (i := l0.length - 1 - y) true "R" hl (by omega) rfl (ed_var 4) (ed_var 4) (ed_var 6) (Ed.to (ed_add (ed_var 6) ed_int) (by push_cast; rfl))) ?_ sc_law_kept_order.nd
      refine go_ifs 4 (fun l => D.str (wd l)) (v1 := l.take (l0.length - 1 - y) ++ [true] ++ l.drop (l0.length - 1 - y + 1)) (t := decide (0 < sty) && survM xs (l.take (l0.length - 1 - y) ++ [true] ++ l.drop (l0.length - 1 - y + 1))) rfl (Ew.et (ew_and (et_gt (ed_var 2) ed_int) fun _ => ew_and1 (et_val (ed_call c1 (xs, l.take (l0.length - 1 - y) ++ [true] ++ l.drop (l0.length - 1 - y + 1)) (ea_cons (ed_var 0) (ea_cons (ed_var 7) ea_nil)) ⟨hg, ?_⟩ (hr.mono (by decide)))))) (fun _ => ed_var 7) ?_ sc_law_kept_order.nd
      · refine go_next rfl _ ?_ (.keep (.keep (.keep (.keep (.keep (.skip (.skip (.skip .nil))))))))
        split
        · rw [List.length_append, List.length_append, List.length_take, List.length_drop, List.length_singleton]; omega
        · exact hl
      · show ((l.take (l0.length - 1 - y) ++ [true] ++ l.drop (l0.length - 1 - y + 1)).length : Int) ≤ xs.sum
        rw [List.length_append, List.length_append, List.length_take, List.length_drop, List.length_singleton]; omega
    · rintro l hl
      exact go_ret (ed_var 4) (kk _ ⟨l, rfl, hl⟩)
  refine go_for (fun l : List Bool => [some (.sh (dI xs)), some (.sh (.str (wd l0))), some (.sh (.int sty)), some (.sh (.int (l0.length : Int))), some (.sh (.str (wd l))), none, none, none]) (fun i l => l.length = l0.length) (List.range l0.length) (fun i : Nat => .int (i : Int))
    (ei_rng1 (ed_var 3) (by omega) T.n_range) (by simp) l0 rfl (Wk.refl _) ?_ (fun l hl => two l hl)
  rintro S1 rb i y l hy hl
  obtain ⟨rfl, hi⟩ := range_at hy
  refine ⟨_, eg_name 5 sc_law_kept_order.nd, ?_⟩
  refine go_if (et_val (ed_call c1 (xs, l) (ea_cons (ed_var 0) (ea_cons (ed_var 4) ea_nil)) ⟨hg, by show (l.length : Int) ≤ xs.sum; omega⟩ (hr.mono (by decide)))) (fun h => ?_) (fun h => ?_)
  · exact go_break (nx_go (rb.go (go_weak (.keep (.keep (.keep (.keep (.keep (.skip (.skip (.skip .nil)))))))) (two l hl))))
  · refine go_nil (nx_go ?_)
    refine go_set 4 (cut (i := l0.length - 1 - y) false "K" hl (by omega) rfl (ed_var 4) (ed_var 4) (Ed.to (ed_sub (ed_sub (ed_var 3) ed_int) (ed_var 5)) (by congr 1; omega)) (Ed.to (ed_sub (ed_var 3) (ed_var 5)) (by congr 1; omega))) ?_ sc_law_kept_order.nd
    refine go_next rfl _ ?_ (.keep (.keep (.keep (.keep (.keep (.skip (.skip (.skip .nil))))))))
    rw [List.length_append, List.length_append, List.length_take, List.length_drop, List.length_singleton]; omega
abbrev spWords : Sp := spT (fun n : Nat => [.int (n : Int)]) (fun n => n ≤ 6) (fun n => .sh (dS ((wordsM n).map wd)))
theorem fo_words (T : Txt K mg) : Cal P w K mg base 1 "_law_words" ["_law_turns"] [] spWords := by
  obtain ⟨fd, F⟩ := T.f_law_words
  refine cal_of F (def_ok F sc_law_words (fun _ => rfl) fun cdv A outer s H E hr n hp S0 Z kk hnx => ?_) T.g_law_words (fun _ _ _ _ _ _ us hl => match us, hl with | [_], _ => rfl)
  have hn : n ≤ 6 := hp
  refine go_set 1 (a := .sh (dS ((wordsM 0).map wd))) (ev_lst (ea_cons ed_str ea_nil)).lst ?_ sc_law_words.nd
  refine go_for (fun m : Nat => [some (.sh (.int (n : Int))), some (.sh (dS ((wordsM m).map wd))), none, none]) (fun i m => m = i) (List.range n) (fun i : Nat => .int (i : Int)) (ei_rng1 (ed_var 0) (by omega) T.n_range) (by simp) 0 rfl (Wk.refl _) ?_ ?_
  · rintro S1 rb i y m hy rfl
    obtain ⟨rfl, hi⟩ := range_at hy
    have hpow : (wordsM y).length ≤ 64 := by rw [wordsM_len]; exact Nat.pow_le_pow_right (n := 2) (by decide) (by omega : y ≤ 6)
    refine ⟨_, eg_name 2 sc_law_words.nd, ?_⟩
    refine go_set 1 (a := .sh (dS ((wordsM (y + 1)).map wd))) ?_ ?_ sc_law_words.nd
    · refine Ed.to (ev_catL (l := ((wordsM y).map (false :: ·)).map fun l => .str (wd l)) (m := ((wordsM y).map (true :: ·)).map fun l => .str (wd l)) (Ed.to (ev_lc (j := 3) (wordsM y) (fun l => .str (wd l)) (fun _ => true) (fun l => .str (wd (false :: l))) (ei_list (ed_var 1)) (by rw [List.map_map]; rfl) (by omega) sc_law_words.nd (fun _ _ => .nil) (fun l hl _ s H C cl fp => Ed.to (ed_cat (i := wd [false]) ed_str (ed_var 3) (by rw [wd_len, wd_len, wordsM_mem y l hl, List.length_singleton]; omega)) (by rw [wd_app]; rfl)) (blkOk_by (N := N_law_words) (sc := defScope s_law_words) (by decide +kernel)) (fun _ _ _ _ _ => pg_name sc_law_words.nd rfl (Or.inl rfl))).lst (by rw [filterT, List.map_map]; rfl))
        (Ed.to (ev_lc (j := 3) (wordsM y) (fun l => .str (wd l)) (fun _ => true) (fun l => .str (wd (true :: l))) (ei_list (ed_var 1)) (by rw [List.map_map]; rfl) (by omega) sc_law_words.nd (fun _ _ => .nil) (fun l hl _ s H C cl fp => Ed.to (ed_cat (i := wd [true]) ed_str (ed_var 3) (by rw [wd_len, wd_len, wordsM_mem y l hl, List.length_singleton]; omega)) (by rw [wd_app]; rfl)) (blkOk_by (N := N_law_words) (sc := defScope s_law_words) (by decide +kernel)) (fun _ _ _ _ _ => pg_name sc_law_words.nd rfl (Or.inl rfl))).lst (by rw [filterT, List.map_map]; rfl)) ?_).lst ?_
      · simp; omega
      · rw [← List.map_append]
        show D.lst ((wordsM (y + 1)).map _) = D.lst (((wordsM (y + 1)).map wd).map D.str)
        rw [List.map_map]; rfl
    · exact go_next rfl (y + 1) rfl (.keep (.keep (.skip (.skip .nil))))
  · rintro m rfl
    rw [List.length_range]
    exact go_ret (ed_var 1) kk
abbrev spWays : Sp := spT (fun a : List Int × List (List Bool) => [dI a.1, dS (a.2.map wd)]) (fun a => Good a.1 ∧ a.2.length ≤ 1000 ∧ ∀ l ∈ a.2, (l.length : Int) ≤ a.1.sum) (fun a => .sh (dS ((waysM a.1 a.2).map wd)))
theorem fo_ways (T : Txt K mg) (c1 : Cal P w K mg base 3 "_law_survives" ["_law_sizes", "_law_order_here"] [] spSurv) : Cal P w K mg base 4 "_law_ways" ["_law_sizes", "_law_words_here"] [] spWays := by
  obtain ⟨fd, F⟩ := T.f_law_ways
  refine cal_of F (def_ok F sc_law_ways (fun _ => rfl) fun cdv A outer s H E hr a hp S0 Z kk hnx => ?_) T.g_law_ways (fun _ _ _ _ _ _ us hl => match us, hl with | [_, _], _ => rfl)
  obtain ⟨xs, ws⟩ := a
  obtain ⟨hg, hl, hw⟩ := hp
  have hl : ws.length ≤ 1000 := hl
  have hx : xs.sum ≤ 14 := hg.2
  refine go_ret (Ev.show (ev_lc (j := 2) ws (fun l => .str (wd l)) (fun l => !lastR l && survM xs l) (fun l => .str (wd l)) (ei_list (ed_var 1)) (by rw [List.map_map]; rfl) (by omega) sc_law_ways.nd (fun l hl => .one fun s H C cl fp => ?_) (fun l _ _ s H C cl fp => ed_var 2) (blkOk_by (N := N_law_ways) (sc := defScope s_law_ways) (by decide +kernel)) (fun _ _ _ _ _ => pg_name sc_law_ways.nd rfl (Or.inl rfl)))) (kk.to ?_)
  · have hll := hw l hl
    refine Ew.et (ew_and (Et.to (et_neS (i := wd (l.drop (l.length - 1))) (Ed.to (ed_slS (ed_var 2) (.some (i := -1) (Ed.to (ed_neg ed_int) rfl)) .none (by rw [wd_len]; show l.length ≤ _; simp only at hll; omega)) (by rw [cutS_last])) ed_str) (by rw [lastR_wd])) fun _ => ew_and1 (et_val (ed_call c1 (xs, l) (ea_cons (ed_var 0) (ea_cons (ed_var 2) ea_nil)) ⟨hg, hll⟩ (hr.mono (by decide)))))
  · show Av.sh (dS ((waysM xs ws).map wd)) = Av.sh (D.lst _)
    unfold waysM dS
    rw [List.map_map]; rfl
abbrev spRow : Sp := spT (fun a : List (List Bool) × Nat => [dS (a.1.map wd), .int (a.2 : Int)]) (fun a => a.2 ≤ 6 ∧ ∀ l ∈ a.1, l ∈ wordsM a.2) (fun a => .sh (dI (rowM a.1 a.2)))
theorem rowM_len (t : Nat) : ∀ (ws : List (List Bool)) (r : List Int), r.length = t + 1 → (ws.foldl (fun r l => r.set (cntR l) (r.getD (cntR l) 0 + 1)) r).length = t + 1
  | [], r, h => h
  | l :: ws, r, h => rowM_len t ws _ (by rw [List.length_set]; exact h)
theorem fo_row (T : Txt K mg) : Cal P w K mg base 1 "_law_row" ["_law_ways_here", "_law_turns"] [] spRow := by
  obtain ⟨fd, F⟩ := T.f_law_row
  refine cal_of F (def_ok F sc_law_row (fun _ => rfl) fun cdv A outer s H E hr a hp S0 Z kk hnx => ?_) T.g_law_row (fun _ _ _ _ _ _ us hl => match us, hl with | [_, _], _ => rfl)
  obtain ⟨ws, t⟩ := a
  obtain ⟨ht, hw⟩ := hp
  have ht : t ≤ 6 := ht
  refine go_set 2 (a := .ol ((List.replicate (t + 1) (0 : Int)).map .int)) (Ev.to (ev_repL (ev_lst (ea_cons ed_int ea_nil)).lst (ed_add (ed_var 1) ed_int) (by omega) (by simp)) ?_) ?_ sc_law_row.nd
  · rw [rep_one, List.map_replicate]
    have : ((t : Int) + 1).toNat = t + 1 := by omega
    rw [this]
  refine go_for (fun r : List Int => [some (.sh (dS (ws.map wd))), some (.sh (.int (t : Int))), some (.ol (r.map .int)), none, none]) (fun i r => r = (ws.take i).foldl (fun r l => r.set (cntR l) (r.getD (cntR l) 0 + 1)) (List.replicate (t + 1) 0)) ws (fun l => .str (wd l)) (ei_list (ed_var 0)) (by rw [List.map_map]; rfl) (List.replicate (t + 1) 0) rfl (Wk.refl _) ?_ ?_
  · rintro S1 rb i l r hl hr'
    have hlm := List.mem_of_getElem? hl
    have hlw := hw l hlm
    have hc := count_words t (List.mem_range.mpr (by omega)) l hlw
    have hlen : r.length = t + 1 := by rw [hr']; exact rowM_len t _ _ (by simp)
    have hle : cntR l < r.length := by
      have := cntR_le l
      have := wordsM_mem t l hlw
      omega
    refine ⟨_, eg_name 3 sc_law_row.nd, ?_⟩
    refine go_set 4 (Ed.to (ed_count (ed_var 3) ed_str) (by rw [hc])) ?_ sc_law_row.nd
    refine go_setix 2 (m := cntR l) rfl (ed_add (ed_ixO 2 rfl (ed_var 4) (atI_intN (j := cntR l) rfl (getI hle))) ed_int) (ed_var 4) (ixN_of rfl (by rw [List.length_map]; exact hle)) ?_
    refine go_next rfl (r.set (cntR l) (r.getD (cntR l) 0 + 1)) ?_ ?_
    · rw [List.take_succ, hl, List.foldl_append, ← hr']; rfl
    · rw [List.map_set]
      exact .keep (.keep (.keep (.skip (.skip .nil))))
  · rintro r hr'
    rw [List.take_length] at hr'
    subst hr'
    refine go_show 2 rfl ?_
    exact go_ret (ed_var 2) kk
end
end Bb
end
section
set_option maxRecDepth 100000
set_option maxHeartbeats 4000000
namespace Bb
open PySem PySem.Spec PyProof.Rows L2
def facU : Nat → Nat
  | 0 => 1
  | n + 1 => (n + 1) * facU n
theorem flatMap_le {α β : Type} {f : α → List β} {m : Nat} : ∀ {l : List α}, (∀ a ∈ l, (f a).length ≤ m) → (l.flatMap f).length ≤ l.length * m
  | [], _ => by simp
  | a :: l, h => by
    have h1 := h a List.mem_cons_self
    have h2 := flatMap_le (l := l) fun b hb => h b (List.mem_cons_of_mem _ hb)
    rw [List.flatMap_cons, List.length_append, List.length_cons, Nat.add_mul]; omega
theorem allM_len : ∀ (n : Nat) (t m : Int), t ≤ (n : Int) → (allM n t m).length ≤ facU n
  | 0, t, m, _ => Nat.le_refl _
  | n + 1, t, m, h => by
    unfold allM
    split
    · have : ∀ n, 1 ≤ facU n := fun n => by
        induction n with
        | zero => exact Nat.le_refl _
        | succ n ih => unfold facU; exact Nat.le_trans ih (Nat.le_mul_of_pos_left _ (by omega))
      simpa using this (n + 1)
    · refine Nat.le_trans (flatMap_le (m := facU n) fun k hk => ?_) ?_
      · have hk := List.mem_range.mp hk
        rw [List.length_map]
        exact allM_len n (t - (min t m - (k : Int))) (min t m - (k : Int)) (by push_cast at h; omega)
      · rw [List.length_range]
        show _ ≤ (n + 1) * facU n
        exact Nat.mul_le_mul_right _ (show (min t m).toNat ≤ n + 1 by push_cast at h; omega)
theorem allM_mlen : ∀ (n : Nat) (t m : Int), ∀ r ∈ allM n t m, r.length ≤ n
  | 0, t, m, r, h => by simp [allM] at h; subst h; exact Nat.le_refl _
  | n + 1, t, m, r, h => by
    unfold allM at h
    split at h
    · simp at h; subst h; exact Nat.zero_le _
    · obtain ⟨k, _, h⟩ := List.mem_flatMap.mp h
      obtain ⟨q, hq, rfl⟩ := List.mem_map.mp h
      have := allM_mlen n _ _ q hq
      rw [List.length_cons]; omega
section
variable {P : Program} {w : World} {K : PySem.W.Frag} {mg : Str → Option Value} {base : Heap}
abbrev spAll (n : Nat) : Sp := spT (fun a : Int × Int => [.int a.1, .int a.2]) (fun a => 0 ≤ a.1 ∧ a.1 ≤ (n : Int) ∧ 0 ≤ a.2 ∧ a.2 ≤ 1000 ∧ n ≤ 6) (fun a => .sh (.lst ((allM n a.1 a.2).map dI)))
theorem fo_all (T : Txt K mg) : ∀ n : Nat, Cal P w K mg base (n + 1) "_law_all_lists" ["_law_total", "_law_most"] [] (spAll n) := by
  intro n
  obtain ⟨fd, F⟩ := T.f_law_all_lists
  have IH : ∀ m, n = m + 1 → Cal P w K mg base n "_law_all_lists" ["_law_total", "_law_most"] [] (spAll m) := fun m h => by subst h; exact fo_all T m
  refine cal_of F (def_ok F sc_law_all_lists (fun _ => rfl) fun cdv A outer s H E hr a hp S0 Z kk hnx => ?_) T.g_law_all_lists (fun _ _ _ _ _ _ us hl => match us, hl with | [_, _], _ => rfl)
  obtain ⟨t, m⟩ := a
  obtain ⟨h0, h1, h2, h3, h4⟩ := hp
  simp only at h0 h1 h2 h3
  cases n with
  | zero =>
    have : t = 0 := by push_cast at h1; omega
    subst this
    refine go_if (t := true) (Et.to (et_eqI (ed_var 0) ed_int) rfl) (fun _ => ?_) (fun h => nomatch h)
    exact go_ret (Ev.show (ev_lst (ea_cons (ev_lst ea_nil).lst ea_nil))) kk
  | succ n =>
    have c1 := IH n rfl
    refine go_if (et_eqI (ed_var 0) ed_int) (fun h => ?_) (fun h => ?_)
    · have ht : t = 0 := of_decide_eq_true h
      subst ht
      refine go_ret (Ev.show (ev_lst (ea_cons (ev_lst ea_nil).lst ea_nil))) (kk.to ?_)
      show Av.sh (.lst ((allM (n + 1) 0 m).map dI)) = _
      unfold allM
      rw [if_pos rfl]; rfl
    · have ht : ¬ t = 0 := of_decide_eq_false h
      refine go_nil (nx_go ?_)
      refine go_set 2 (ev_lst ea_nil) ?_ sc_law_all_lists.nd
      have hmul : 6 * facU n ≤ 5000 := by
        have : n ≤ 5 := by omega
        have : n = 0 ∨ n = 1 ∨ n = 2 ∨ n = 3 ∨ n = 4 ∨ n = 5 := by omega
        rcases this with rfl | rfl | rfl | rfl | rfl | rfl <;> decide
      have hpre : ∀ i, i ≤ 6 → i * facU n ≤ 5000 := fun i hi => Nat.le_trans (Nat.mul_le_mul_right _ hi) hmul
      have kk' : Post S0 H (.sh (.lst (((List.range (min t m).toNat).flatMap fun k : Nat => (allM n (t - (min t m - (k : Int))) (min t m - (k : Int))).map fun r => (min t m - (k : Int)) :: r).map dI))) Z.rt := by
        refine kk.to ?_
        show Av.sh (.lst ((allM (n + 1) t m).map dI)) = _
        conv => lhs; unfold allM
        rw [if_neg ht]
      push_cast at h1
      generalize hmn : min t m = mn at *
      have hb : mn ≤ 6 := by omega
      refine go_for (fun f : List (List Int) => [some (.sh (.int t)), some (.sh (.int m)), some (.ol (f.map dI)), none, none, none]) (fun i f => f = (List.range i).flatMap fun k : Nat => (allM n (t - (mn - (k : Int))) (mn - (k : Int))).map fun r => (mn - (k : Int)) :: r) (List.range mn.toNat) (fun i : Nat => .int (i : Int))
        (ei_rng1 (Ed.to (ed_min (ed_var 0) (ed_var 1) T.n_min) (by rw [hmn])) (by omega) T.n_range) rfl [] rfl (Wk.refl _) ?_ ?_
      · rintro S1 rb i y f hy hf
        obtain ⟨rfl, hi⟩ := range_at hy
        have hfl : f.length ≤ y * facU n := by
          rw [hf]
          refine Nat.le_trans (flatMap_le (m := facU n) fun k hk => ?_) (by rw [List.length_range]; exact Nat.le_refl _)
          have hk := List.mem_range.mp hk
          rw [List.length_map]
          exact allM_len n (t - (mn - (k : Int))) (mn - (k : Int)) (by omega)
        have hfl2 := hpre y (by omega)
        have hal := allM_len n (t - (mn - (y : Int))) (mn - (y : Int)) (by omega)
        have hf6 : facU n ≤ 5000 := by have := hpre 1 (by decide); omega
        refine ⟨_, eg_name 3 sc_law_all_lists.nd, ?_⟩
        refine go_set 4 (Ed.to (ed_sub (ed_min (ed_var 0) (ed_var 1) T.n_min) (ed_var 3)) (d' := .int (mn - (y : Int))) (by rw [hmn])) ?_ sc_law_all_lists.nd
        refine go_for (fun g : List (List Int) => [some (.sh (.int t)), some (.sh (.int m)), some (.ol (g.map dI)), some (.sh (.int (y : Int))), some (.sh (.int (mn - (y : Int)))), none]) (fun j g => g = f ++ ((allM n (t - (mn - (y : Int))) (mn - (y : Int))).take j).map fun r => (mn - (y : Int)) :: r) (allM n (t - (mn - (y : Int))) (mn - (y : Int))) dI
          (ei_list (ed_call c1 (t - (mn - (y : Int)), mn - (y : Int)) (ea_cons (ed_sub (ed_var 0) (ed_var 4)) (ea_cons (ed_var 4) ea_nil)) ⟨by show 0 ≤ t - (mn - (y : Int)); omega, by show t - (mn - (y : Int)) ≤ n; omega, by show 0 ≤ mn - (y : Int); omega, by show mn - (y : Int) ≤ 1000; omega, by omega⟩ hr)) rfl f (by simp) (Wk.refl _) ?_ ?_
        · rintro S2 rb2 j r g hrj hg
          have hjl := (List.getElem?_eq_some_iff.mp hrj).1
          have hgl : g.length ≤ f.length + facU n := by
            rw [hg, List.length_append, List.length_map, List.length_take]; omega
          have hrl : r.length ≤ n := allM_mlen n _ _ r (List.mem_of_getElem? hrj)
          refine ⟨_, eg_name 5 sc_law_all_lists.nd, ?_⟩
          refine go_app 2 rfl (d := dI ((mn - (y : Int)) :: r)) (Ed.to (ev_catL (ev_lst (ea_cons (ed_var 4) ea_nil)).lst (ed_var 5) (by rw [List.length_map]; simp; omega)).lst rfl) (by rw [List.length_map]; omega) ?_
          refine go_next rfl (g ++ [(mn - (y : Int)) :: r]) ?_ ?_
          · rw [List.take_succ, hrj, hg]; simp
          · rw [List.map_append]
            exact .keep (.keep (.keep (.keep (.keep (.skip .nil)))))
        · rintro g hg
          rw [List.take_length] at hg
          refine go_next rfl g ?_ (.keep (.keep (.keep (.skip (.skip (.skip .nil))))))
          rw [List.range_succ, List.flatMap_append, hg, hf]; simp
      · rintro f hf
        rw [List.length_range] at hf
        subst hf
        refine go_show 2 rfl ?_
        exact go_ret (ed_var 2) kk'
/-! ### the tally, with its memo -/
abbrev spTally (n : Nat) : Sp := spT (fun xs : List Int => [dI xs, .mem]) (fun xs => Good xs ∧ xs.sum ≤ (n : Int)) (fun xs => .sh (dI (tallyL xs)))
theorem row_two' {xs : List Int} (h : Good xs) (hn : xs ≠ []) {u : List Int} (ho : bestM xs true = some u) : (plM xs).2 = some u := by
  have hl := List.length_pos_iff.mpr hn
  unfold bestM at ho
  rw [if_pos rfl] at ho
  split at ho
  · cases ho
  · unfold plM; rw [if_neg (by omega)]; exact ho
theorem row_one' {xs : List Int} (hn : xs ≠ []) (ho : bestM xs true = none) : (plM xs).2 = none := by
  have hl := List.length_pos_iff.mpr hn
  unfold bestM at ho
  rw [if_pos rfl] at ho
  split at ho
  · unfold plM; rw [if_pos (by omega)]
  · cases ho
theorem fo_tally (T : Txt K mg) (c1 : Cal P w K mg base 2 "_law_best" ["_law_sizes", "_law_letter"] [] spBest) : ∀ n : Nat, Cal P w K mg base (n + 3) "_law_tally" ["_law_sizes", "_law_known"] [] (spTally n) := by
  intro n
  obtain ⟨fd, F⟩ := T.f_law_tally
  have IH : ∀ m, n = m + 1 → Cal P w K mg base (n + 2) "_law_tally" ["_law_sizes", "_law_known"] [] (spTally m) := fun m h => by subst h; exact fo_tally T c1 m
  refine cal_of F (def_ok F sc_law_tally (fun _ => rfl) fun cdv A outer s H E hr xs hp S0 Z kk hnx => ?_) T.g_law_tally (fun _ _ _ _ _ _ us hl => match us, hl with | [_, _], _ => rfl)
  obtain ⟨hg, hs⟩ := hp
  have hu : (XF P w K mg base N_law_tally (Str.ofString "_law_tally") (defScope s_law_tally) (He.ga K (Str.ofString "_law_tally")) cdv A outer s H E).A.units + 64 < cLine := hr.units
  have hlg := good_len hg
  refine go_set 2 (a := .sh (tI xs)) (ed_tupleL (ed_var 0) T.n_tuple) ?_ sc_law_tally.nd
  refine go_ifMem 2 1 (k := xs) rfl rfl hu kk ?_
  refine go_if (et_eqL (ys := []) (ed_var 0) (Ed.to (ev_lst ea_nil).lst rfl) hu) (fun h => ?_) (fun h => ?_)
  · have h0 : xs = [] := of_decide_eq_true h
    subst h0
    exact go_ret (Ev.show (ev_lst (ea_cons ed_int ea_nil))) kk
  · have hn : xs ≠ [] := of_decide_eq_false h
    have hl := List.length_pos_iff.mpr hn
    have hsp := good_sumpos hg hn
    refine go_nil (nx_go ?_)
    obtain ⟨m, rfl⟩ : ∃ m, n = m + 1 := ⟨n - 1, by omega⟩
    have c2 := IH m rfl
    push_cast at hs
    have hlow := lower_good hg hl
    have hlows := lower_sum hg.1 hl
    have tl := tallyL_le _ hlow
    have hr2 : Room (m + 3) (A.deeper (envOfC (Str.ofString "_law_tally") (defScope s_law_tally) s.heap.objs.size (He.ga K (Str.ofString "_law_tally")) cdv)) := hr
    refine go_set 3 (a := .ol ((tallyL (plM xs).1 ++ [0]).map .int)) ?_ ?_ sc_law_tally.nd
    · refine Ev.to (ev_catL (ed_call c2 (lowerM xs 0) (ea_cons (ed_call c1 (xs, false) (ea_cons (ed_var 0) (ea_cons ed_str ea_nil)) ⟨by show xs.length ≤ 1000; omega, fun _ => hn⟩ (hr2.mono (by omega))) (ea_cons (ed_var 1) ea_nil)) ⟨hlow, by rw [hlows]; omega⟩ hr2) (ev_lst (ea_cons ed_int ea_nil)).lst (by rw [List.length_map]; simp; omega)) ?_
      rw [List.map_append]; rfl
    refine go_set 4 (a := .sh (match bestM xs true with | none => .non | some ys => dI ys)) (ed_call c1 (xs, true) (ea_cons (ed_var 0) (ea_cons ed_str ea_nil)) ⟨by show xs.length ≤ 1000; omega, fun h => nomatch h⟩ (hr2.mono (by omega))) ?_ sc_law_tally.nd
    cases ho : bestM xs true with
    | none =>
      refine go_if (t := false) (Et.to (et_notN (d := .non) (ed_var 4)) rfl) (fun h => nomatch h) (fun _ => ?_)
      refine go_nil (nx_go ?_)
      refine go_show 3 rfl ?_
      have e := row_one hg hn (row_one' hn ho)
      refine go_mput 1 (k := xs) rfl (Ed.to (ed_var 3) (by rw [e]; rfl)) (ed_var 2) hg hu ?_
      exact go_ret (Ed.to (ed_var 3) (by rw [e]; rfl)) kk
    | some u =>
      refine go_if (t := true) (Et.to (et_notN (d := dI u) (ed_var 4)) rfl) (fun _ => ?_) (fun h => nomatch h)
      obtain ⟨r1, r2⟩ := row_two hg hn (row_two' hg hn ho)
      obtain ⟨ug, us⟩ := bestM_good hg hn ho
      have ul := tallyL_le _ ug
      refine go_set 5 (a := .sh (dI (tallyL u))) (ed_call c2 u (ea_cons (ed_var 4) (ea_cons (ed_var 1) ea_nil)) ⟨ug, by rw [us]; omega⟩ hr2) ?_ sc_law_tally.nd
      refine go_for (fun r : List Int => [some (.sh (dI xs)), some (.sh .mem), some (.sh (tI xs)), some (.ol (r.map .int)), none, some (.sh (dI (tallyL u))), none]) (fun j r => r = addP (tallyL (plM xs).1 ++ [0]) (tallyL u) j) (List.range (tallyL u).length) (fun j : Nat => .int (j : Int))
        (ei_rng1 (Ed.to (ed_lenL (ed_var 5) T.n_len) (by rw [List.length_map])) (by omega) T.n_range) (by simp) (tallyL (plM xs).1 ++ [0]) (addP_zero _ _).symm (.keep (.keep (.keep (.keep (.skip (.keep (.keep .nil))))))) ?_ ?_
      · rintro S3 rb3 j j' r hj rfl
        obtain ⟨rfl, hj⟩ := range_at hj
        have hj2 : j' + 1 < (tallyL (plM xs).1 ++ [0]).length := by omega
        refine ⟨_, eg_name 6 sc_law_tally.nd, ?_⟩
        have hrow : ((addP (tallyL (plM xs).1 ++ [0]) (tallyL u) j').map D.int)[j' + 1]? = some (.int ((tallyL (plM xs).1 ++ [0]).getD (j' + 1) 0)) := by
          rw [List.getElem?_map, addP_at hj2]
          have : ¬ (1 ≤ j' + 1 ∧ j' + 1 ≤ j') := by omega
          rw [if_neg this]; simp
        refine go_setix 3 (m := j' + 1) rfl (ed_add (ed_ixO 3 rfl (Ed.to (ed_add (ed_var 6) ed_int) (d' := .int ((j' + 1 : Nat) : Int)) (by push_cast; rfl)) (atI_intN (j := j' + 1) rfl hrow)) (ed_ixL (ed_var 5) (ed_var 6) (atI_intN (j := j') rfl (getI hj)))) (Ed.to (ed_add (ed_var 6) ed_int) (d' := .int ((j' + 1 : Nat) : Int)) (by push_cast; rfl)) (ixN_of rfl (by rw [List.length_map, addP_len]; omega)) ?_
        refine go_next rfl _ rfl ?_
        rw [← addP_succ hj2, List.map_set]
        exact .keep (.keep (.keep (.keep (.keep (.keep (.skip .nil))))))
      · rintro r rfl
        rw [List.length_range, r1]
        refine go_nil (nx_go ?_)
        refine go_show 3 rfl ?_
        refine go_mput 1 (k := xs) rfl (ed_var 3) (ed_var 2) hg hu ?_
        exact go_ret (ed_var 3) kk
/-- how many kept orders stand ahead -/
def aheadM : List Int → List Bool → Int
  | _, [] => 0
  | xs, b :: l => (if b then cntL (lowerM xs 0) else 0) + (match bestM xs b with | none => 0 | some ys => aheadM ys l)
theorem ahead_cons (xs : List Int) (b : Bool) (l : List Bool) : aheadM xs (b :: l) = (if b then cntL (lowerM xs 0) else 0) + (match bestM xs b with | none => 0 | some ys => aheadM ys l) := rfl
abbrev spAhead : Sp := spT (fun a : List Int × List Bool => [dI a.1, .str (wd a.2)]) (fun a => Good a.1 ∧ (a.2.length : Int) ≤ a.1.sum ∧ survM a.1 a.2 = true) (fun a => .sh (.int (aheadM a.1 a.2)))
theorem fo_ahead (T : Txt K mg) (c1 : Cal P w K mg base 2 "_law_best" ["_law_sizes", "_law_letter"] [] spBest) (c2 : Cal P w K mg base 17 "_law_tally" ["_law_sizes", "_law_known"] [] (spTally 14)) : Cal P w K mg base 18 "_law_ahead" ["_law_sizes", "_law_order_here"] [] spAhead := by
  obtain ⟨fd, F⟩ := T.f_law_ahead
  refine cal_of F (def_ok F sc_law_ahead (fun _ => rfl) fun cdv A outer s H E hr a hp S0 Z kk hnx => ?_) T.g_law_ahead (fun _ _ _ _ _ _ us hl => match us, hl with | [_, _], _ => rfl)
  obtain ⟨xs, l⟩ := a
  obtain ⟨hg, hs, hsv⟩ := hp
  have hs : (l.length : Int) ≤ xs.sum := hs
  refine go_set 2 (a := .sh .mem) ed_mnew ?_ sc_law_ahead.nd
  refine go_set 3 ed_int ?_ sc_law_ahead.nd
  refine go_set 4 (a := .sh (dI xs)) (ev_listL (ed_var 0) T.n_list).lst ?_ sc_law_ahead.nd
  refine go_for (fun a : Int × List Int => [some (.sh (dI xs)), some (.sh (.str (wd l))), some (.sh .mem), some (.sh (.int a.1)), some (.sh (dI a.2)), none]) (fun i a => Good a.2 ∧ a.2.sum = xs.sum - (i : Int) ∧ survM a.2 (l.drop i) = true ∧ a.1 + aheadM a.2 (l.drop i) = aheadM xs l) l (fun b => .str (sgn b)) (ei_str (ed_var 1)) (wd_signs l) (0, xs) ⟨hg, by simp, hsv, by simp⟩ (Wk.refl _) ?_ ?_
  · rintro S1 rb i b ⟨num, r⟩ hb ⟨h1, h2, h3, h4⟩
    have hi := (List.getElem?_eq_some_iff.mp hb).1
    have hd : l.drop i = b :: l.drop (i + 1) := by
      rw [List.drop_eq_getElem_cons hi]
      rw [List.getElem?_eq_getElem hi] at hb
      cases hb; rfl
    simp only at h1 h2 h3 h4
    have hne : r ≠ [] := fun z => by subst z; simp at h2; omega
    have hl := List.length_pos_iff.mpr hne
    have hlr := good_len h1
    rw [hd] at h3 h4
    rw [surv_cons] at h3
    rw [ahead_cons] at h4
    obtain ⟨ys, hbm⟩ : ∃ ys, bestM r b = some ys := by
      cases q : bestM r b with
      | none => rw [q] at h3; cases h3
      | some ys => exact ⟨ys, rfl⟩
    rw [hbm] at h3 h4
    obtain ⟨g1, g2⟩ := bestM_good h1 hne hbm
    have hlow := lower_good h1 hl
    refine ⟨_, eg_name 5 sc_law_ahead.nd, ?_⟩
    refine go_ifs 3 D.int (v1 := num + cntL (lowerM r 0)) (t := b) rfl (Et.to (et_eqS (ed_var 5) ed_str) (sgn_R b)) (fun _ => ed_add (ed_var 3) (ed_sum (ed_call c2 (lowerM r 0) (ea_cons (ed_call c1 (r, false) (ea_cons (ed_var 4) (ea_cons ed_str ea_nil)) ⟨by show r.length ≤ 1000; omega, fun _ => hne⟩ (hr.mono (by decide))) (ea_cons (ed_var 2) ea_nil)) ⟨hlow, by have := hlow.2; push_cast; omega⟩ (hr.mono (by decide))) T.n_sum)) ?_ sc_law_ahead.nd
    refine go_set 4 (a := .sh (dI ys)) (Ed.to (ed_call c1 (r, b) (ea_cons (ed_var 4) (ea_cons (ed_var 5) ea_nil)) ⟨by show r.length ≤ 1000; omega, fun _ => hne⟩ (hr.mono (by decide))) (by simp only [hbm]; rfl)) ?_ sc_law_ahead.nd
    refine go_next rfl (if b then num + cntL (lowerM r 0) else num, ys) ⟨g1, by show ys.sum = _; rw [g2, h2]; push_cast; omega, h3, ?_⟩ (.keep (.keep (.keep (.keep (.keep (.skip .nil))))))
    show (if b then num + cntL (lowerM r 0) else num) + aheadM ys (l.drop (i + 1)) = _
    rw [← h4]
    cases b <;> simp <;> omega
  · rintro ⟨num, r⟩ ⟨_, _, _, h4⟩
    have : l.drop l.length = [] := List.drop_length ..
    rw [this] at h4
    refine go_ret (ed_var 3) (kk.to ?_)
    show Av.sh (.int (aheadM xs l)) = _
    rw [← h4]; simp [aheadM]
end
end Bb
end
section
set_option maxRecDepth 100000
set_option maxHeartbeats 4000000
namespace Bb
open PySem PySem.Spec PyProof.Rows L2
/-! ### isinstance -/
def D.ty : D → Option String
  | .non => some "NoneType"
  | .bl _ => some "bool"
  | .int _ => some "int"
  | .str _ => some "str"
  | .lst _ => some "list"
  | .tup _ => some "tuple"
  | _ => none
theorem Rp.tyx {K : PySem.W.Frag} {S H : Hp} {d : D} {v : V} {t : String} (e : Sb S H) (r : Rp S d v) (h : d.ty = some t) : TyX K H v (.type t) := by
  cases d with
  | non => rw [Rp.non.mp r]; cases h; exact .base .non
  | bl b => rw [Rp.bl.mp r]; cases h; exact .base (.bl b)
  | int i => rw [Rp.int.mp r]; cases h; exact .base (.int i)
  | str x => rw [Rp.str.mp r]; cases h; exact .base (.str x)
  | lst l => obtain ⟨p, vs, rfl, g, _⟩ := Rp.lst.mp r; cases h; exact .base (.lst (e _ _ g))
  | tup l => obtain ⟨p, vs, rfl, g, _⟩ := Rp.tup.mp r; cases h; exact .base (.tup (e _ _ g))
  | _ => cases h
theorem ed_isi {X : Cx} {Δ : Dl} {e : Expr} {pos p p2 : Pos} {x : Str} {d : D} {t T : String} {r : Bool} (he : Ed X Δ e d) (ht : d.ty = some t) (hk : kitB t T = some r) (hm : X.mg "isinstance" = none) (hm2 : X.mg x = none) (hv : bootBuiltins x = some (.type T)) (hg : Gl X "isinstance" := by rfl) (hg2 : Gl X x := by rfl)
    (hn : x ≠ "__name__" := by decide) (hdb : (x == ("__debug__" : Str)) = false := by decide) (h1 : starEach [e, .Name x p2] X.env = (false, eval e X.env) :: starEach [.Name x p2] X.env := by rfl) (h2 : starEach [.Name x p2] X.env = (false, eval (.Name x p2) X.env) :: starEach [] X.env := by rfl) (hpl : (backTo pos (starEach [.Name x p2] X.env)).any (·.1) = false := by rfl) : Ed X Δ (.Call (.Name "isinstance" p) [e, .Name x p2] [] pos) (.bl r) := by
  intro S0 H0 S H σ A Q k
  refine WE.of (pe_callB call_isi hg hm (by decide +kernel) (pa_cons WE.pe (pa_cons (pe_bltn (v := .ty T) hg2 hm2 hv rfl hn hdb) pa_nil h2) h1) (he := h1) (hpl := hpl)) ?_
  refine he S0 H0 S H σ A _ fun v S1 H1 l1 r1 => ?_
  exact ⟨v, .ty T, .type t, .type T, r, rfl, .ty T, r1.tyx l1.sub ht, kit_ty hk, k _ S1 H1 l1 (Rp.bl.mpr rfl)⟩
/-- plain data, so deep at most -/
def plain : Nat → D → Prop
  | _, .non => True
  | _, .bl _ => True
  | _, .int _ => True
  | _, .str _ => True
  | n + 1, .lst l => l.length ≤ 100000 ∧ ∀ d ∈ l, plain n d
  | n + 1, .tup l => l.length ≤ 100000 ∧ ∀ d ∈ l, plain n d
  | _, _ => False
theorem foldS : ∀ (l : List Bool) (a : Array Nat), (l.map sgn).foldl (fun acc p => acc ++ ("" : Str).cps ++ p.cps) a = a ++ (wd l).cps
  | [], a => by simp [wd]
  | b :: l, a => by
    rw [List.map_cons, List.foldl_cons, foldS l]
    have : ("" : Str).cps = #[] := rfl
    rw [this]
    simp [wd, sgn]
theorem joinS (l : List Bool) : Txt.join "" (l.map sgn) = wd l := by
  show (⟨_⟩ : Str) = ⟨_⟩
  congr 1
  cases l with
  | nil => rfl
  | cons b l =>
    show ((l.map sgn).foldl (fun acc p => acc ++ ("" : Str).cps ++ p.cps) (sgn b).cps) = _
    rw [foldS]
    simp [wd, sgn]
section
variable {P : Program} {w : World} {K : PySem.W.Frag} {mg : Str → Option Value} {base : Heap}
abbrev spLike (n : Nat) : Sp := spT (fun d : D => [d, d]) (fun d => plain n d) (fun _ => .sh (.bl true))
theorem fo_like (T : Txt K mg) : ∀ n : Nat, Cal P w K mg base (n + 1) "_law_like" ["_law_actual", "_law_due"] [] (spLike n) := by
  intro n
  obtain ⟨fd, F⟩ := T.f_law_like
  have IH : ∀ m, n = m + 1 → Cal P w K mg base n "_law_like" ["_law_actual", "_law_due"] [] (spLike m) := fun m h => by subst h; exact fo_like T m
  refine cal_of F (def_ok F sc_law_like (fun _ => rfl) fun cdv A outer s H E hr d hp S0 Z kk hnx => ?_) T.g_law_like (fun _ _ _ _ _ _ us hl => match us, hl with | [_, _], _ => rfl)
  have hp : plain n d := hp
  refine go_if (et_isN (ed_var 1)) (fun h => ?_) (fun h => go_nil (nx_go ?_))
  · cases d with
    | non => exact go_ret (Ed.to (d' := .bl true) (ed_isN (ed_var 0)) rfl) kk
    | _ => cases h
  refine go_if (et_isB (ed_var 1)) (fun h1 => ?_) (fun h1 => go_nil (nx_go ?_))
  · cases d with
    | bl b =>
      have hb : b = true := of_decide_eq_true h1
      subst hb
      exact go_ret (Ed.to (d' := .bl true) (ed_isB (ed_var 0)) rfl) kk
    | _ => cases h1
  refine go_if (et_isB (ed_var 1)) (fun h2 => ?_) (fun h2 => go_nil (nx_go ?_))
  · cases d with
    | bl b =>
      have hb : b = false := of_decide_eq_true h2
      subst hb
      exact go_ret (Ed.to (d' := .bl true) (ed_isB (ed_var 0)) rfl) kk
    | _ => cases h2
  cases d with
  | non => cases h
  | bl b => cases b <;> cases h1 <;> cases h2
  | str x =>
    refine go_if (t := true) (et_val (ed_isi (t := "str") (T := "str") (ed_var 1) rfl (by decide +kernel) T.n_isinstance T.n_str (by decide +kernel))) (fun _ => ?_) (fun h => nomatch h)
    exact go_ret (Ed.to (d' := .bl true) (ed_and (t := true) (ed_isi (t := "str") (T := "str") (ed_var 0) rfl (by decide +kernel) T.n_isinstance T.n_str (by decide +kernel)) fun _ => ed_one (ev_cmp op_eq (ed_var 0) (ed_var 1) r2_eqS)) (by simp)) kk
  | int i =>
    refine go_if (t := false) (et_val (ed_isi (t := "int") (T := "str") (ed_var 1) rfl (by decide +kernel) T.n_isinstance T.n_str (by decide +kernel))) (fun h => nomatch h) (fun _ => go_nil (nx_go ?_))
    refine go_if (t := true) (et_val (ed_isi (t := "int") (T := "int") (ed_var 1) rfl (by decide +kernel) T.n_isinstance T.n_int (by decide +kernel))) (fun _ => ?_) (fun h => nomatch h)
    exact go_ret (Ed.to (d' := .bl true) (ed_and (t := true) (ed_isi (t := "int") (T := "int") (ed_var 0) rfl (by decide +kernel) T.n_isinstance T.n_int (by decide +kernel)) fun _ => ed_and (t := true) (Ed.to (ed_not (ed_isi (r := false) (t := "int") (T := "bool") (ed_var 0) rfl (by decide +kernel) T.n_isinstance T.n_bool (by decide +kernel))) rfl) fun _ => ed_one (ev_cmp op_eq (ed_var 0) (ed_var 1) r2_eqI)) (by simp)) kk
  | lst l =>
    cases n with
    | zero => exact hp.elim
    | succ n =>
      obtain ⟨hl, hpl⟩ := hp
      refine go_if (t := false) (et_val (ed_isi (t := "list") (T := "str") (ed_var 1) rfl (by decide +kernel) T.n_isinstance T.n_str (by decide +kernel))) (fun h => nomatch h) (fun _ => go_nil (nx_go ?_))
      refine go_if (t := false) (et_val (ed_isi (t := "list") (T := "int") (ed_var 1) rfl (by decide +kernel) T.n_isinstance T.n_int (by decide +kernel))) (fun h => nomatch h) (fun _ => go_nil (nx_go ?_))
      have loop : Go (XF P w K mg base N_law_like (Str.ofString "_law_like") (defScope s_law_like) (He.ga K (Str.ofString "_law_like")) cdv A outer s H E) S0 H Z ((defBody s_law_like).drop 6) [some (.sh (.lst l)), some (.sh (.lst l)), none] := by
        refine go_for (fun _ : Unit => [some (.sh (.lst l)), some (.sh (.lst l)), none]) (fun _ _ => True) (List.range l.length) (fun i : Nat => .int (i : Int)) (ei_rng1 (ed_lenL (ed_var 1) T.n_len) (by omega) T.n_range) (by simp) () trivial (Wk.refl _) ?_ ?_
        · rintro S1 rb i y _ hy _
          obtain ⟨rfl, hi⟩ := range_at hy
          have hat : atI l (y : Int) = some l[y] := atI_intN (j := y) rfl (List.getElem?_eq_getElem hi)
          refine ⟨_, eg_name 2 sc_law_like.nd, ?_⟩
          refine go_if (t := false) (Et.to (et_not (et_val (ed_call (IH n rfl) l[y] (ea_cons (ed_ixL (ed_var 0) (ed_var 2) hat) (ea_cons (ed_ixL (ed_var 1) (ed_var 2) hat) ea_nil)) (hpl _ (List.getElem_mem hi)) hr))) rfl) (fun h => nomatch h) (fun _ => go_nil (nx_go ?_))
          exact go_next rfl () trivial (.keep (.keep (.skip .nil)))
        · rintro _ _
          exact go_ret ed_bl kk
      refine go_if (t := true) (et_val (ed_isi (t := "list") (T := "list") (ed_var 1) rfl (by decide +kernel) T.n_isinstance T.n_list (by decide +kernel))) (fun _ => ?_) (fun h => nomatch h)
      refine go_if (t := false) (Et.to (Ew.et (ew_or (t := false) (Et.to (et_not (et_val (ed_isi (r := true) (t := "list") (T := "list") (ed_var 0) rfl (by decide +kernel) T.n_isinstance T.n_list (by decide +kernel)))) rfl) fun _ => ew_or1 (et_neI (ed_lenL (ed_var 0) T.n_len) (ed_lenL (ed_var 1) T.n_len)))) (by simp)) (fun h => nomatch h) (fun _ => go_nil (nx_go (go_nil (nx_go loop))))
  | tup l =>
    cases n with
    | zero => exact hp.elim
    | succ n =>
      obtain ⟨hl, hpl⟩ := hp
      refine go_if (t := false) (et_val (ed_isi (t := "tuple") (T := "str") (ed_var 1) rfl (by decide +kernel) T.n_isinstance T.n_str (by decide +kernel))) (fun h => nomatch h) (fun _ => go_nil (nx_go ?_))
      refine go_if (t := false) (et_val (ed_isi (t := "tuple") (T := "int") (ed_var 1) rfl (by decide +kernel) T.n_isinstance T.n_int (by decide +kernel))) (fun h => nomatch h) (fun _ => go_nil (nx_go ?_))
      have loop : Go (XF P w K mg base N_law_like (Str.ofString "_law_like") (defScope s_law_like) (He.ga K (Str.ofString "_law_like")) cdv A outer s H E) S0 H Z ((defBody s_law_like).drop 6) [some (.sh (.tup l)), some (.sh (.tup l)), none] := by
        refine go_for (fun _ : Unit => [some (.sh (.tup l)), some (.sh (.tup l)), none]) (fun _ _ => True) (List.range l.length) (fun i : Nat => .int (i : Int)) (ei_rng1 (ed_lenT (ed_var 1) T.n_len) (by omega) T.n_range) (by simp) () trivial (Wk.refl _) ?_ ?_
        · rintro S1 rb i y _ hy _
          obtain ⟨rfl, hi⟩ := range_at hy
          have hat : atI l (y : Int) = some l[y] := atI_intN (j := y) rfl (List.getElem?_eq_getElem hi)
          refine ⟨_, eg_name 2 sc_law_like.nd, ?_⟩
          refine go_if (t := false) (Et.to (et_not (et_val (ed_call (IH n rfl) l[y] (ea_cons (ed_ixT (ed_var 0) (ed_var 2) hat) (ea_cons (ed_ixT (ed_var 1) (ed_var 2) hat) ea_nil)) (hpl _ (List.getElem_mem hi)) hr))) rfl) (fun h => nomatch h) (fun _ => go_nil (nx_go ?_))
          exact go_next rfl () trivial (.keep (.keep (.skip .nil)))
        · rintro _ _
          exact go_ret ed_bl kk
      refine go_if (t := false) (et_val (ed_isi (t := "tuple") (T := "list") (ed_var 1) rfl (by decide +kernel) T.n_isinstance T.n_list (by decide +kernel))) (fun h => nomatch h) (fun _ => ?_)
      refine go_if (t := false) (Et.to (Ew.et (ew_or (t := false) (Et.to (et_not (et_val (ed_isi (r := true) (t := "tuple") (T := "tuple") (ed_var 0) rfl (by decide +kernel) T.n_isinstance T.n_tuple (by decide +kernel)))) rfl) fun _ => ew_or1 (et_neI (ed_lenT (ed_var 0) T.n_len) (ed_lenT (ed_var 1) T.n_len)))) (by simp)) (fun h => nomatch h) (fun _ => go_nil (nx_go (go_nil (nx_go loop))))
  | _ => cases n <;> exact hp.elim
/-! ### order_at -/
def orderM : Nat → List Int → Int → List Bool
  | 0, _, _ => []
  | n + 1, w, left => if left < cntL (plM w).1 then false :: orderM n (plM w).1 left else true :: orderM n (aftK (plM w).2) (left - cntL (plM w).1)
theorem order_succ (n : Nat) (w : List Int) (left : Int) : orderM (n + 1) w left = if left < cntL (plM w).1 then false :: orderM n (plM w).1 left else true :: orderM n (aftK (plM w).2) (left - cntL (plM w).1) := rfl
theorem pl_cnt {v : List Int} (vg : Good v) (vn : v ≠ []) : cntL v = cntL (plM v).1 + (match (plM v).2 with | none => 0 | some u => cntL u) := by
  rw [cntL_step vg vn]
  have := List.length_pos_iff.mpr vn
  unfold plM
  by_cases h : v.length = 1
  · simp [h]
  · have h2 : ¬ v.length ≤ 1 := by omega
    simp only [if_neg h, if_neg h2]
abbrev spAt : Sp := spT (fun a : List Int × Int => [dI a.1, .int a.2]) (fun a => Good a.1 ∧ 0 ≤ a.2 ∧ a.2 < cntL a.1) (fun a => .sh (.str (wd (orderM a.1.sum.toNat a.1 a.2))))
theorem fo_at (T : Txt K mg) (c1 : Cal P w K mg base 6 "order_counts" ["starts"] [] spCounts) (c2 : Cal P w K mg base 4 "best_plucks" ["word"] [] spPlucks) : Cal P w K mg base 7 "order_at" ["sizes", "index"] [] spAt := by
  obtain ⟨fd, F⟩ := T.f_order_at
  refine cal_of F (def_ok F sc_order_at (fun _ => rfl) fun cdv A outer s H E hr a hp S0 Z kk hnx => ?_) T.g_order_at (fun _ _ _ _ _ _ us hl => match us, hl with | [_, _], _ => rfl)
  obtain ⟨xs, ix⟩ := a
  obtain ⟨hg, h0, h1⟩ := hp
  simp only at hg h0 h1
  have hu : (XF P w K mg base N_order_at (Str.ofString "order_at") (defScope s_order_at) (He.ga K (Str.ofString "order_at")) cdv A outer s H E).A.units + 64 < cLine := hr.units
  have hs0 : 0 ≤ xs.sum := sum_nn fun x hx => by have := hg.1 x hx; omega
  have hs1 := hg.2
  refine go_setR 2 (evr_call c1 xs (ea_cons (ev_lst (ea_cons (ed_var 0) ea_nil)).lst ea_nil) hg (hr.mono (by decide))) (fun av hav => ?_) sc_order_at.nd
  obtain ⟨c, hc, hxc, rfl⟩ := hav
  refine go_set 3 (a := .sh (tI xs)) (ed_tupleL (ed_var 0) T.n_tuple) ?_ sc_order_at.nd
  refine go_if (t := false) (Et.to (et_not (et_chain op_le op_lt ed_int (ed_var 1) (ed_dgetO 2 (l := iT c) rfl (ed_var 3) (hc.getT hxc) hu) (r2_I0 fun _ => Rp.bl.mpr rfl) fun _ => r2_I0 fun _ => Rp.bl.mpr rfl)) (by simp [h0, h1])) (fun h => nomatch h) (fun _ => go_nil (nx_go ?_))
  refine go_set 4 (ev_lst ea_nil) ?_ sc_order_at.nd
  refine go_set 5 (ed_var 1) ?_ sc_order_at.nd
  refine go_for (fun a : List Int × List Bool × Int => [some (.sh (dI xs)), some (.sh (.int ix)), some (oT (iT c)), some (.sh (tI a.1)), some (.ol (a.2.1.map fun b => .str (sgn b))), some (.sh (.int a.2.2)), none, none, none]) (fun i a => a.1 ∈ kys c ∧ a.1.sum = xs.sum - (i : Int) ∧ 0 ≤ a.2.2 ∧ a.2.2 < cntL a.1 ∧ a.2.1 ++ orderM (xs.sum.toNat - i) a.1 a.2.2 = orderM xs.sum.toNat xs ix ∧ a.2.1.length ≤ i) (List.range xs.sum.toNat) (fun i : Nat => .int (i : Int))
    (ei_rng1 (n := xs.sum) (ed_sum (ed_var 0) T.n_sum) (by omega) T.n_range) (by simp) (xs, [], ix) ⟨hxc, by simp, h0, h1, by simp, by simp⟩ (Wk.refl _) ?_ ?_
  · rintro S1 rb i y ⟨v, ls, left⟩ hy ⟨p1, p2, p3, p4, p5, p6⟩
    obtain ⟨rfl, hi⟩ := range_at hy
    simp only at p1 p2 p3 p4 p5 p6
    have vg := hc.good p1
    have vn : v ≠ [] := fun z => by subst z; simp at p2; omega
    obtain ⟨k1, k2⟩ := hc.cl v p1 vn
    obtain ⟨q1, q2, q3⟩ := plM_good vg vn
    have hcv := pl_cnt vg vn
    have e1 : xs.sum.toNat - y = (xs.sum.toNat - (y + 1)) + 1 := by omega
    rw [e1] at p5
    rw [order_succ] at p5
    refine ⟨_, eg_name 6 sc_order_at.nd, ?_⟩
    refine go_asg (d := plD (plM v)) (ed_call c2 v (ea_cons (ed_var 3) ea_nil) ⟨vg, vn⟩ (hr.mono (by decide))) (eg_tup rfl (egs_cons (eg_name 7 sc_order_at.nd) (egs_cons (eg_name 8 sc_order_at.nd) egs_nil)) rfl rfl rfl) ?_
    refine go_if (et_lt (ed_var 5) (ed_dgetO 2 (l := iT c) rfl (ed_var 7) (hc.getT k1) hu)) (fun h => ?_) (fun h => ?_)
    · have hlt : left < cntL (plM v).1 := of_decide_eq_true h
      rw [if_pos hlt] at p5
      refine go_app 4 rfl (d := .str (sgn false)) ed_str (by simp only [List.length_map]; omega) ?_
      refine go_set 3 (ed_var 7) (go_nil (nx_go ?_)) sc_order_at.nd
      refine go_next rfl ((plM v).1, ls ++ [false], left) ⟨k1, by show (plM v).1.sum = _; rw [q2, p2]; push_cast; omega, p3, hlt, by show (ls ++ [false]) ++ _ = _; rw [← p5]; simp, by simp; omega⟩ ?_
      show Wk (_ :: _ :: _ :: _ :: some (.ol ((ls.map fun b => .str (sgn b)) ++ [.str (sgn false)])) :: _) _
      rw [List.map_append]
      exact .keep (.keep (.keep (.keep (.keep (.keep (.skip (.skip (.skip .nil))))))))
    · have hlt : ¬ left < cntL (plM v).1 := of_decide_eq_false h
      rw [if_neg hlt] at p5
      obtain ⟨u, hu2⟩ : ∃ u, (plM v).2 = some u := by
        cases q : (plM v).2 with
        | none => rw [q] at hcv; simp only at hcv; omega
        | some u => exact ⟨u, rfl⟩
      rw [hu2] at hcv p5
      simp only at hcv
      obtain ⟨g1, g2⟩ := q3 u hu2
      refine go_aug 5 ip_sub rfl (ed_dgetO 2 (l := iT c) rfl (ed_var 7) (hc.getT k1) hu) ?_ sc_order_at.nd
      refine go_app 4 rfl (d := .str (sgn true)) ed_str (by simp only [List.length_map]; omega) ?_
      refine go_set 3 (a := .sh (tI u)) (ed_var 8 (by rw [hu2]; rfl)) (go_nil (nx_go ?_)) sc_order_at.nd
      refine go_next rfl (u, ls ++ [true], left - cntL (plM v).1) ⟨k2 u hu2, by show u.sum = _; rw [g2, p2]; push_cast; omega, by show 0 ≤ left - cntL (plM v).1; omega, by show left - cntL (plM v).1 < cntL u; omega, by show (ls ++ [true]) ++ _ = _; rw [← p5]; simp [aftK], by simp; omega⟩ ?_
      show Wk (_ :: _ :: _ :: _ :: some (.ol ((ls.map fun b => .str (sgn b)) ++ [.str (sgn true)])) :: _) _
      rw [List.map_append]
      exact .keep (.keep (.keep (.keep (.keep (.keep (.skip (.skip (.skip .nil))))))))
  · rintro ⟨v, ls, left⟩ ⟨p1, p2, p3, p4, p5, p6⟩
    rw [List.length_range] at p2 p5 p6
    rw [Nat.sub_self] at p5
    simp only [orderM, List.append_nil] at p5
    refine go_show 4 rfl ?_
    refine go_ret (Ed.to (ed_join (ys := ls.map sgn) ed_str (Ed.to (ed_var 4) (by show D.lst (ls.map fun b => .str (sgn b)) = D.lst ((ls.map sgn).map .str); rw [List.map_map]; rfl)) ?_) ?_) kk
    · rw [List.length_map, List.map_map]
      have : (ls.map (Str.length ∘ sgn)) = List.replicate ls.length 1 := List.map_const' ..
      rw [this, List.sum_replicate_nat]
      show _ + _ * 0 ≤ _
      simp only at p6
      omega
    · show D.str (Txt.join "" (ls.map sgn)) = D.str (wd (orderM xs.sum.toNat xs ix))
      rw [joinS, p5]
end
end Bb
end
section
set_option maxRecDepth 100000
set_option maxHeartbeats 4000000
namespace Bb
open PySem PySem.Spec PyProof.Rows L2
/-! ### bounds of the rows -/
def Bd (row : List Int) : Prop := ∀ b ∈ row, 0 ≤ b ∧ b ≤ (row.length : Int)
theorem counted_bd {row : List Int} (h : Bd row) : ∀ b ∈ countedM row, 0 ≤ b ∧ b ≤ (row.length : Int) := fun b hb => by
  unfold countedM at hb
  rcases List.mem_append.mp hb with hb | hb
  · obtain ⟨c, hc, rfl⟩ := List.mem_map.mp hb
    have := h c hc
    omega
  · simp at hb; omega
theorem getD_mem {xs : List Int} {j : Nat} (h : j < xs.length) : xs.getD j 0 ∈ xs := by simp [List.getD, h]
theorem keeper_bd {row : List Int} (h : Bd row) : Bd (keeperM row) := fun b hb => by
  rw [keeperM_len]
  have hc := counted_bd h
  have hl := countedM_len row
  unfold keeperM at hb
  rcases List.mem_cons.mp hb with rfl | hb
  · have := hc _ (getD_mem (j := 0) (by omega))
    push_cast; omega
  · obtain ⟨j, hj, rfl⟩ := List.mem_map.mp hb
    have hj := List.mem_range.mp hj
    have h1 := hc _ (getD_mem (j := j + 1) (by omega))
    have h2 := hc _ (getD_mem (j := j) (by omega))
    have h3 : 0 ≤ (countedM row).getD j 0 / ((j : Int) + 1) := Int.ediv_nonneg h2.1 (by omega)
    unfold keeperAt
    push_cast; omega
theorem raider_bd {row : List Int} (h : Bd row) : Bd (raiderM row) := fun b hb => by
  rw [raiderM_len]
  have hc := counted_bd h
  have hl := countedM_len row
  unfold raiderM at hb
  rcases List.mem_or_eq_of_mem_set hb with hb | rfl
  · obtain ⟨c, hc', rfl⟩ := List.mem_map.mp hb
    have := hc c hc'
    split <;> (push_cast; omega)
  · have := hc _ (getD_mem (j := 0) (by omega))
    split <;> (push_cast; omega)
theorem pull_bd (l : List Bool) : Bd (pullM l) := by
  unfold pullM
  rw [List.foldl_reverse]
  induction l with
  | nil => intro b hb; simp at hb
  | cons b l ih =>
    rw [List.foldr_cons]
    unfold stepM
    split
    · exact raider_bd ih
    · exact keeper_bd ih
/-! ### the kept lists -/
def rowsOf (l : List Bool) : List (List Int) := listsM (pullM l)
def kT (ks : List (List Int)) : Tb := ks.map fun k => (k, .bl true)
theorem kT_get (ks : List (List Int)) (k : List Int) : (getA (kT ks) k).isSome = decide (k ∈ ks) := by
  cases q : getA (kT ks) k with
  | none =>
    have := getA_none.mp q
    have : k ∉ ks := fun z => this (by unfold kT; rw [List.map_map]; simpa using z)
    simp [this]
  | some v =>
    have := getA_mem q
    unfold kT at this
    obtain ⟨k', hk, e⟩ := List.mem_map.mp this
    cases e
    simp [hk]
theorem rows_ok (l : List Bool) (h : l.length ≤ 14) : (rowsOf l).Nodup ∧ (∀ k ∈ rowsOf l, Good k) ∧ (rowsOf l).length ≤ 40000 := by
  have hl := pullM_len l
  have ok := listsF_ok ((pullM l).length : Int) (by omega) (pullM l)
  exact ⟨ok.nd, fun k hk => ⟨(ok.all k hk).1, by have := (ok.all k hk).2.2.1; omega⟩, ok.few (by omega)⟩
abbrev keptN : List Str := ["_rows", "_known"]
def keptL (l : List Bool) : List D := [.lst ((rowsOf l).map tI), dT (kT (rowsOf l))]
def keptD (C : Addr) (l : List Bool) : D := .ins C keptN (keptL l)
abbrev kC (K : PySem.W.Frag) : Addr := He.ga K "KeptLists"
section
variable {P : Program} {w : World} {K : PySem.W.Frag} {mg : Str → Option Value} {base : Heap}
theorem Txt.kcls (T : Txt K mg) : Cls K (kC K) := He.cls_ok (T.says.1.fact 61 (f := .cls "KeptLists") rfl)
theorem Txt.kmk (T : Txt K mg) : Mk K (kC K) (He.ma K (kC K) "__init__") := He.mkr_ok (T.says.1.fact 62 (f := .mkr "KeptLists") rfl)
theorem Txt.miter (T : Txt K mg) : Meth K (kC K) "__iter__" (He.ma K (kC K) "__iter__") := He.meth_ok (T.says.1.fact 63 (f := .meth "KeptLists" "__iter__") rfl)
theorem Txt.mcont (T : Txt K mg) : Meth K (kC K) "__contains__" (He.ma K (kC K) "__contains__") := He.meth_ok (T.says.1.fact 64 (f := .meth "KeptLists" "__contains__") rfl)
theorem Txt.mtot (T : Txt K mg) : Meth K (kC K) "total" (He.ma K (kC K) "total") := He.meth_ok (T.says.1.fact 65 (f := .meth "KeptLists" "total") rfl)
theorem Txt.nrows (T : Txt K mg) : NoAttr K (kC K) "_rows" := He.noat_ok (T.says.1.fact 66 (f := .noat "KeptLists" "_rows") rfl)
theorem Txt.nknown (T : Txt K mg) : NoAttr K (kC K) "_known" := He.noat_ok (T.says.1.fact 67 (f := .noat "KeptLists" "_known") rfl)
/-- self._rows, self._known -/
theorem ed_rows {X : Cx} {Δ : Dl} {e : Expr} {pos : Pos} {l : List Bool} (T : Txt X.K mg) (h : Ed X Δ e (keptD (kC X.K) l)) (hb : attributeBase e "_rows" X.env (eval e X.env) = eval e X.env := by rfl) : Ed X Δ (.Attribute e "_rows" pos) (.lst ((rowsOf l).map tI)) := by
  intro S0 H0 S H σ A Q k
  refine WE.of (pe_fld WE.pe hb) ?_
  refine h S0 H0 S H σ A _ fun v S1 H1 l1 r1 => ?_
  obtain ⟨p, dx, vs, rfl, g1, g2, g3⟩ := Rp.ins.mp r1
  simp only [keptL, RpL] at g3
  obtain ⟨v1, r, rfl, h1, v2, r2, rfl, h2, rfl⟩ := g3
  exact ⟨p, _, dx, _, v1, rfl, l1.sub _ _ g1, T.kcls, T.nrows, rfl, k _ S1 H1 l1 h1⟩
theorem ed_known {X : Cx} {Δ : Dl} {e : Expr} {pos : Pos} {l : List Bool} (T : Txt X.K mg) (h : Ed X Δ e (keptD (kC X.K) l)) (hb : attributeBase e "_known" X.env (eval e X.env) = eval e X.env := by rfl) : Ed X Δ (.Attribute e "_known" pos) (dT (kT (rowsOf l))) := by
  intro S0 H0 S H σ A Q k
  refine WE.of (pe_fld WE.pe hb) ?_
  refine h S0 H0 S H σ A _ fun v S1 H1 l1 r1 => ?_
  obtain ⟨p, dx, vs, rfl, g1, g2, g3⟩ := Rp.ins.mp r1
  simp only [keptL, RpL] at g3
  obtain ⟨v1, r, rfl, h1, v2, r2, rfl, h2, rfl⟩ := g3
  exact ⟨p, _, dx, _, v2, rfl, l1.sub _ _ g1, T.kcls, T.nknown, rfl, k _ S1 H1 l1 h2⟩
/-- a method's promise -/
structure Mth (P : Program) (w : World) (K : PySem.W.Frag) (mg : Str → Option Value) (base : Heap) (k : Nat) (m : Str) (ps : List Str) (sp : Sp) : Prop where
  ex : ∃ fd : FuncData, FnOk P w K mg base CX0 k (He.ma K (kC K) m) fd ps sp ∧ Binds K fd ps []
abbrev spTotal (K : PySem.W.Frag) : Sp := spT (fun l : List Bool => [keptD (kC K) l]) (fun l => l.length ≤ 14) (fun l => .sh (.int (rowsOf l).length))
theorem fo_total (T : Txt K mg) : Mth P w K mg base 1 "total" ["self"] (spTotal K) := by
  obtain ⟨fd, F⟩ := T.f_kl_total
  refine ⟨fd, def_ok F sc_kl_total (fun _ => rfl) fun cdv A outer s H E hr l hp S0 Z kk hnx => ?_, F.bindsN (fun _ _ _ _ _ _ us hl => match us, hl with | [_], _ => rfl)⟩
  exact go_ret (Ed.to (ed_lenL (ed_rows T (ed_var 0)) T.n_len) (by rw [List.length_map])) kk
abbrev spCont (K : PySem.W.Frag) : Sp := spT (fun a : List Bool × List Int => [keptD (kC K) a.1, dI a.2]) (fun a => a.1.length ≤ 14) (fun a => .sh (.bl (decide (a.2 ∈ rowsOf a.1))))
theorem fo_cont (T : Txt K mg) : Mth P w K mg base 1 "__contains__" ["self", "sizes"] (spCont K) := by
  obtain ⟨fd, F⟩ := T.f_kl_contains
  refine ⟨fd, def_ok F sc_kl_contains (fun _ => rfl) fun cdv A outer s H E hr a hp S0 Z kk hnx => ?_, F.bindsN (fun _ _ _ _ _ _ us hl => match us, hl with | [_, _], _ => rfl)⟩
  obtain ⟨l, xs⟩ := a
  have hu : (XF P w K mg base N_kl_contains (Str.ofString "KeptLists.__contains__") (defScope s_kl_contains) (He.ma K (kC K) "__contains__") cdv A outer s H E).A.units + 64 < cLine := hr.units
  exact go_ret (Ed.to (ed_din (k := xs) (ed_tupleL (ed_var 1) T.n_tuple) (ed_known T (ed_var 0)) hu) (by rw [kT_get])) kk
/-- o.total() -/
theorem ed_total {X : Cx} {Δ : Dl} {o : Expr} {apos pos : Pos} {l : List Bool} {k : Nat} {pl : Sem Bool} (T : Txt X.K mg) (M : Mth X.prog X.w X.K X.mg X.base k "total" ["self"] (spTotal X.K)) (h : Ed X Δ o (keptD (kC X.K) l)) (hl : l.length ≤ 14) (hr : Room k X.A)
    (ht : eval (.Call (.Attribute o "total" apos) [] [] pos) X.env = (do
      let ov ← eval o X.env
      standAt apos.atName
      let (f, first) ← holding [ov] (getMethod ov "total" pl)
      callWith pos f first (backTo pos (starEach [] X.env)) (backToKw pos (keywordEach [] X.env))) := by rfl) : Ed X Δ (.Call (.Attribute o "total" apos) [] [] pos) (.int (rowsOf l).length) := by
  obtain ⟨fd, F, hb⟩ := M.ex
  intro S0 H0 S H σ A Q k
  refine WE.of (pe_meth0 (C := kC X.K) WE.pe T.kcls T.mtot F hr hb .nil pass0 ht) ?_
  refine h S0 H0 S H σ A _ fun v S1 H1 l1 r1 => ?_
  obtain ⟨p, dx, vs, rfl, g1, g2, g3⟩ := Rp.ins.mp r1
  have g3' := g3
  simp only [keptL, RpL] at g3'
  obtain ⟨v1, r, rfl, h1, v2, r2, rfl, h2, rfl⟩ := g3'
  refine ⟨p, dx, _, rfl, l1.sub _ _ g1, rfl, ?_⟩
  exact ⟨l, S1, l1.sub, .cons (Rp.ins.mpr ⟨p, dx, _, rfl, g1, g2, g3⟩) .nil, hl, Post.mono (a := .sh _) l1 k⟩
end
end Bb
end
section
set_option maxRecDepth 100000
set_option maxHeartbeats 4000000
namespace Bb
open PySem PySem.Spec PyProof.Rows L2
section
variable {P : Program} {w : World} {K : PySem.W.Frag} {mg : Str → Option Value} {base : Heap}
def spInit (K : PySem.W.Frag) : Sp := fun vs H Q _ => ∃ (l : List Bool) (x dx : Addr) (S H1 : Hp) (v : V), vs = [.ref x, v] ∧ H1 x = none ∧ H1 dx = none ∧ dx ≠ x ∧ H = upd (upd H1 dx (.own x)) x (.ins (kC K) dx []) ∧ Sb S H1 ∧ Rp S (.str (wd l)) v ∧ l.length ≤ 14 ∧
  ∀ S2 H2, Le S H1 S2 H2 → Rp S2 (keptD (kC K) l) (.ref x) → Q .non H2
/-- self._rows, self still its own -/
theorem ed_rowsO {X : Cx} {Δ : Dl} {pos p : Pos} {d : D} (T : Txt X.K mg) (i : Nat) {x : Str} (ha : Δ[i]? = some (some (.oi (kC X.K) ["_rows"] [d]))) (hN : X.N[i]? = some x := by rfl)
    (hv : Vis X.env.scope x := by first | exact Or.inl rfl | exact Or.inr (Or.inl rfl) | exact Or.inr (Or.inr rfl)) (hdb : (x == ("__debug__" : Str)) = false := by decide) (hcd : (x == ("__classdict__" : Str)) = false := by decide) (hb : attributeBase (.Name x p) "_rows" X.env (eval (.Name x p) X.env) = eval (.Name x p) X.env := by rfl) : Ed X Δ (.Attribute (.Name x p) "_rows" pos) d := by
  intro S0 H0 S H σ A Q k
  refine WE.of (pe_fld (pe_var hN hv hdb hcd) hb) ?_
  obtain ⟨v, h1, h2⟩ := A.sl i _ ha
  obtain ⟨q, dx, vs, rfl, g1, g2, g3, g4, g5⟩ := h2
  simp only [RpL] at g5
  obtain ⟨v1, r, rfl, h3, rfl⟩ := g5
  exact ⟨_, h1, q, _, dx, _, v1, rfl, g3, T.kcls, T.nrows, rfl, k _ S H (.refl A.sub) h3⟩
theorem ed_callD {X : Cx} {Δ : Dl} {e : Expr} {es : List Expr} {pos p : Pos} {k : Nat} {x : Str} {ps : List Str} {dvs : List V} {α : Type} {enc : α → List D} {pre : α → Prop} {f : α → Av} (F : Cal X.prog X.w X.K X.mg X.base k x ps dvs (spT enc pre f)) (a : α) (ds dds : List D) (henc : enc a = ds ++ dds) (hdd : ∀ S, RpL S dds dvs) (ha : Ea X Δ (e :: es) ds) (hp : pre a) (hr : Room k X.A) {d : D} (hf : (f a).shown = d := by rfl) (hg : Gl X x := by rfl)
    (hdb : (x == ("__debug__" : Str)) = false := by decide) (he : starEach (e :: es) X.env = (false, eval e X.env) :: starEach es X.env := by rfl) (hpl : (backTo pos (starEach es X.env)).any (·.1) = false := by rfl) : Ed X Δ (.Call (.Name x p) (e :: es) [] pos) d :=
  hf ▸ (ev_callD F a ds dds henc hdd ha hp hr hg hdb he hpl).show
theorem Ab.ev {X : Cx} {S0 H0 S H : Hp} {σ : L2.St} {Δ : Dl} (A : Ab S0 H0 S H σ Δ) {e : Expr} {a : Av} {Q : VK} (h : Ev X Δ e a) (k : Post S H a Q) : WE X e σ H Q := h S0 H0 S H σ A Q k
theorem fo_init (T : Txt K mg) (cp : Cal P w K mg base 4 "pull" ["order", "goal"] [.ref (gK K)] (spPull K)) (cl : Cal P w K mg base 2 "lists_under" ["row"] [] spLists) : Mth P w K mg base 5 "__init__" ["self", "order"] (spInit K) := by
  obtain ⟨fd, F⟩ := T.f_kl_init
  refine ⟨fd, F.ok sc_kl_init (fun vs H Q E h => ?_) (fun cdv A outer s H vs Q E hr h => ?_), F.bindsN (fun _ _ _ _ _ _ us hl => match us, hl with | [_, _], _ => rfl)⟩
  · obtain ⟨l, x, dx, S, H1, v, rfl, _⟩ := h; rfl
  obtain ⟨l, x, dx, S, H1, v, rfl, hx, hdx, hne, rfl, hsb, hv, hl, kk⟩ := h
  have hv' := Rp.str.mp hv
  subst hv'
  refine ⟨WSs (XF P w K mg base N_kl_init (Str.ofString "KeptLists.__init__") (defScope s_kl_init) (He.ma K (kC K) "__init__") cdv A outer s (upd (upd H1 dx (.own x)) x (.ins (kC K) dx [])) E) (defBody s_kl_init), PSs.nox WSs.pss, ?_⟩
  have hu : (XF P w K mg base N_kl_init (Str.ofString "KeptLists.__init__") (defScope s_kl_init) (He.ma K (kC K) "__init__") cdv A outer s (upd (upd H1 dx (.own x)) x (.ins (kC K) dx [])) E).A.units + 64 < cLine := hr.units
  generalize hX : XF P w K mg base N_kl_init (Str.ofString "KeptLists.__init__") (defScope s_kl_init) (He.ma K (kC K) "__init__") cdv A outer s (upd (upd H1 dx (.own x)) x (.ins (kC K) dx [])) E = X
  have hrow := rows_ok l hl
  have hpl := pullM_len l
  have hbd := pull_bd l
  -- the start
  have hgo : ∀ a o, H1 a = some o → (upd (upd H1 dx (.own x)) x (.ins (kC K) dx [])) a = some o := fun a o e => by
    rw [upd_ne (ne_of_none e hx), upd_ne (ne_of_none e hdx)]; exact e
  have A0 : Ab S H1 S (upd (upd H1 dx (.own x)) x (.ins (kC K) dx [])) [some (.ref x), some (.str (wd l)), none] [some (.oi (kC K) [] []), some (.sh (.str (wd l))), none] := by
    refine ⟨⟨.refl _, fun a o e => .inl (hgo a o e), ⟨fun a o e hu => hgo a o (hsb.ex a o e hu), fun a y e => let ⟨hv, z, m⟩ := hsb.mem a y e; ⟨hv, hgo a _ z, m⟩⟩, fun _ _ z _ _ => z⟩, fun i a e => ?_, fun i j a b u hij e1 e2 o1 o2 => ?_, rfl⟩
    · match i, e with
      | 0, e => cases e; exact ⟨_, rfl, x, dx, [], rfl, hx, hsb.back hx, upd_same, rfl, .nil⟩
      | 1, e => cases e; exact ⟨_, rfl, hv⟩
      | 2, e => cases e
      | i + 3, e => cases e
    · match i, e1 with
      | 0, _ =>
        match j, e2 with
        | 0, _ => exact absurd rfl hij
        | 1, e2 => cases e2; cases o2
        | 2, e2 => cases e2
        | j + 3, e2 => cases e2
      | 1, e1 => cases e1; cases o1
      | 2, e1 => cases e1
      | i + 3, e1 => cases e1
  subst hX
  refine WSs.of (pss_cons (ps_fld (pe_var (i := 0) rfl (Or.inl rfl)) WE.pe rfl) (pss_cons (ps_fld (pe_var (i := 0) rfl (Or.inl rfl)) WE.pe rfl) pss_nil)) ?_
  show WE _ _ _ _ _
  refine A0.ev (a := .sh (.lst ((rowsOf l).map tI))) (ed_call cl (pullM l) (ea_cons (ed_callD cp l [.str (wd l)] [.raw (gK K)] rfl (fun S => .cons (Rp.raw.mpr rfl) .nil) (ea_cons (ed_var 1) ea_nil) (by show l.length ≤ 1000; omega) (hr.mono (by decide))) ea_nil) ⟨by rw [hpl]; exact hl, fun b hb => by have := hbd b hb; rw [hpl] at this; omega⟩ (hr.mono (by decide))) fun y S1 H2 l1 r1 => ?_
  have A1 := A0.mono l1
  obtain ⟨v0, e0, q0⟩ := A1.sl 0 _ rfl
  cases e0
  obtain ⟨p, dx1, vs1, ep, p1, p2, p3, p4, p5⟩ := q0
  cases ep
  have hvs : vs1 = [] := by simpa only [RpL] using p5
  subst hvs
  refine ⟨_, rfl, x, kC K, dx1, _, rfl, p3, T.kcls, T.nrows, by decide, ?_⟩
  have A2 : Ab S H1 S1 (upd H2 x (.ins (kC K) dx1 (putF "_rows" y ([] : List (Str × V))))) [some (.ref x), some (.str (wd l)), none] [some (.oi (kC K) ["_rows"] [.lst ((rowsOf l).map tI)]), some (.sh (.str (wd l))), none] :=
    A1.mut (i := 0) (a := .oi (kC K) [] []) (b := .oi (kC K) ["_rows"] [.lst ((rowsOf l).map tI)]) rfl rfl rfl p2 p1 ⟨x, dx1, [y], rfl, p1, p2, by rw [upd_same]; rfl, rfl, .cons r1 .nil⟩ rfl
  show WE _ _ _ _ _
  refine A2.ev (Ev.show (ev_dc (j := 2) (rowsOf l) tI (fun k => k) (fun _ => .bl true) (ei_list (ed_rowsO T 0 rfl)) rfl (by omega) sc_kl_init.nd hu (fun k _ s H C cl fp => ed_var 2) (fun k _ s H C cl fp => ed_bl) (blkOk_by (N := N_kl_init) (sc := defScope s_kl_init) (by decide +kernel)) (fun _ _ _ _ _ => pg_name sc_kl_init.nd rfl (Or.inl rfl)))) fun z S3 H3 l3 r3 => ?_
  have A3 := A2.mono l3
  obtain ⟨v0, e0, q0⟩ := A3.sl 0 _ rfl
  cases e0
  obtain ⟨p, dx2, vs2, ep, t1, t2, t3, t4, t5⟩ := q0
  cases ep
  simp only [RpL] at t5
  obtain ⟨y2, r, rfl, r5, rfl⟩ := t5
  refine ⟨_, rfl, x, kC K, dx2, _, rfl, t3, T.kcls, T.nknown, (by show 1 < 1000; decide), ?_⟩
  have et : tabF (fun k => k) (fun _ => D.bl true) [] (rowsOf l) = kT (rowsOf l) := by
    rw [tabF_nodup (by rw [List.map_id']; exact hrow.1) (by simp)]; rfl
  have r3' : Rp S3 (dT (kT (rowsOf l))) z := by rw [← et]; exact r3
  have ho : (putF "_known" z [("_rows", y2)] : List (Str × V)) = keptN.zip [y2, z] := rfl
  have l4 := (A3.le.mut (o := .ins (kC K) dx2 (putF "_known" z [("_rows", y2)])) t1 t2)
  have l5 := l4.show_ t1 t2 upd_same
  refine kk _ _ l5 (Rp.ins.mpr ⟨x, dx2, [y2, z], rfl, ?_, rfl, ?_⟩)
  · rw [upd_same]; rfl
  · exact .cons (r5.mono (.new t2)) (.cons (r3'.mono (.new t2)) .nil)
/-- KeptLists(e) -/
theorem ed_make {X : Cx} {Δ : Dl} {e : Expr} {p pos : Pos} {l : List Bool} {k : Nat} (T : Txt X.K X.mg) (M : Mth X.prog X.w X.K X.mg X.base k "__init__" ["self", "order"] (spInit X.K)) (h : Ed X Δ e (.str (wd l))) (hl : l.length ≤ 14) (hr : Room (k + 1) X.A) (hg : Gl X "KeptLists" := by rfl)
    (he : starEach [e] X.env = (false, eval e X.env) :: starEach [] X.env := by rfl) (hpl : (backTo pos (starEach [] X.env)).any (·.1) = false := by rfl) : Ed X Δ (.Call (.Name "KeptLists" p) [e] [] pos) (keptD (kC X.K) l) := by
  obtain ⟨fd, F, hb⟩ := M.ex
  intro S0 H0 S H σ A Q k
  refine WE.of (pe_make T.kmk F hr hg T.g_KeptLists hb .nil pass0 (pa_cons WE.pe pa_nil he) (he := he) (hpl := hpl)) ?_
  refine h S0 H0 S H σ A _ fun v S1 H1 l1 r1 => ?_
  intro x dx hx hdx hne
  refine ⟨l, x, dx, S1, H1, v, rfl, hx, hdx, hne, rfl, l1.sub, r1, hl, fun S2 H2 l2 r2 => ⟨rfl, k _ S2 H2 (l1.trans l2) r2⟩⟩
end
end Bb
end
section
set_option maxRecDepth 100000
set_option maxHeartbeats 4000000
/-! D3: an object with a __contains__ and an __iter__ of its class's own: x in o, list(o). -/
namespace Bb
open PySem PySem.W PySem.Spec PyProof.Rows L2
section
variable {X : Cx} {pins : List (Addr × Obj)} {σ : L2.St} {H : Hp} {s : Shared} {a C dx f : Addr} {fs : List (Str × V)} {fd : FuncData} {ps : List Str} {sp : Sp} {k : Nat} {A : Around} {E : Value → Shared → Prop}
/-- a method that keeps its promise is called: some deeper place A -/
theorem call_meth {Q : VK} {us : List Value} {vs : List V} (F : FnOk X.prog X.w X.K X.mg X.base CX0 k f fd ps sp) (hb : Binds X.K fd ps []) (hr : Room k A) (env : Env0 X.prog X.w X.K X.mg X.base A X.stack s H) (I : Inv X pins σ H s) (r : Vals vs us) (h : sp vs H Q E0) :
    wpAny (model X.prog X.w) A (call (.ref f) us) (EP X pins σ Q) E s := by
  have hlen : us.length = ps.length := r.length.symm.trans (F.len _ _ _ _ h)
  have bind := hb s us I.kIn (by simp [hlen])
  rw [List.append_nil] at bind
  refine wpAny_call (codeAny_mono (F.run A X.stack s H ⟨us, []⟩ us vs Q E0 hr env bind r h) fun out s' q => ?_)
  match out, q with
  | .ok (.ret u), q => exact I.after q
  | .ok .next, q => exact absurd q id
  | .ok .brk, q => exact absurd q id
  | .ok .cont, q => exact absurd q id
  | .error e, q => exact absurd q id
/-- x in o -/
def rInOwn (C : Addr) (sp : Sp) : R2 := fun x y H Q => ∃ a dx fs, y = .ref a ∧ H a = some (.ins C dx fs) ∧ sp [.ref a, x] H (fun v H' => ∃ b, v = .bl b ∧ Q (.bl b) H') E0
theorem op_inOwn (m : Meth X.K C "__contains__" f) (F : FnOk X.prog X.w X.K X.mg X.base CX0 k f fd ps sp) (hr : Room k X.A) (hb : Binds X.K fd ps []) : OpR X (compareOp .In) (rInOwn C sp) := by
  rintro pins s σ H x y v u Q I rx ry ⟨a, dx, fs, rfl, ea, h⟩
  have eu : u = .ref a := ry
  subst eu
  obtain ⟨_, O, _⟩ := ins_get I.hok ea
  obtain ⟨_, J, _⟩ := O.look
  have inner := call_meth (us := [.ref a, v]) (E := X.xe) F hb hr I.env0 I (show Vals [V.ref a, x] [Value.ref a, v] from .cons rfl (.cons rx .nil)) h
  refine wpAny_bind ?_
  unfold contains
  refine wpAny_holding (wpAny_bind (wpAny_bind (J.type.here ((looks_findIn I.kIn m.at_).here ?_))))
  rw [if_neg (by simp)]
  refine wpAny_bind (unlessNone_K I.kIn J m.at_ m.fn (thn inner fun u s' hu => ?_))
  obtain ⟨z, H', I', ru, b, rfl, q⟩ := hu
  have eu : u = .bool b := ru
  subst eu
  exact wpAny_truthy_bool (wpAny_pure ⟨.bl b, H', I', rfl, q⟩)
/-! ### a list's items written -/
def lO (xs : Array Value) (n : Nat) : Obj := { cls := .type "list", dict := none, data := .seq xs n, slots := #[] }
theorem rewritten {M : Model} {A : Around} {S : Addr} {g : Array Value → Array Value} {xs : Array Value} {n : Nat} {Q : Unit → Shared → Prop} (h0 : s.heap.get? S = some (lO xs n)) (h1 : xs.size ≤ sizeLine) (h2 : (g xs).size ≤ sizeLine + 1)
    (q : ∀ h' n', h'.get? S = some (lO (g xs) n') → (∀ b o, b ≠ S → s.heap.get? b = some o → h'.get? b = some o) → Q () { s with heap := h' }) : wpAny M A (updateSeq S g) Q E s :=
  wpAny_updateSeq h0 rfl (q _ _ (Heap.get?_update_self _ h0 rfl) fun b o hb e => (Heap.get?_update_other _ _ fun z => hb z.symm).trans e) h1 h2
/-- the list at S is now the one of the values zs -/
theorem inv_items {S : Addr} {l0 zs : List V} {its : Array Value} {c tk : Nat} {h' : Heap} (I : Inv X pins σ H s) (hS : H S = some (.lst l0)) (get : h'.get? S = some (lO its c)) (keep : ∀ b o, b ≠ S → s.heap.get? b = some o → h'.get? b = some o) (hv : Vals zs its.toList) (hz : zs.length ≤ sizeLine) :
    Inv X pins σ (upd H S (.lst zs)) { s with heap := h', toks := tk } :=
  I.write (by rw [hS]; trivial) (.inl rfl) keep ⟨_, get⟩ ⟨hz, its.toList, c, hv, get⟩
/-! ### list(o) -/
/-- what the own __iter__ promises: a new iterator of the list that the object keeps under a name -/
def spIterO (C : Addr) (n : Nat) : Sp := fun vs H Q _ => ∃ (p dx q : Addr) (fs : List (Str × V)) (zs : List V), vs = [.ref p] ∧ H p = some (.ins C dx fs) ∧ fs.lookup ("_rows" : Str) = some (V.ref q) ∧ H q = some (.lst zs) ∧ (∃ b o, H b = some o ∧ n ≤ b) ∧ ∀ it, H it = none → n ≤ it → Q (.ref it) (upd H it (ItO q it 0))
/-- .. and then an iterator it of the list at q stands there, unknown to the heap that is told -/
theorem iter_own {Q : Value → Shared → Prop} {q : Addr} {zs : List V} (I : Inv X pins σ H s) (m : Meth X.K C "__iter__" f) (F : FnOk X.prog X.w X.K X.mg X.base CX0 k f fd ps (spIterO C X.s_0.heap.objs.size)) (hb : Binds X.K fd ps []) (hr : Room k A) (env : Env0 X.prog X.w X.K X.mg X.base A X.stack s H)
    (ea : H a = some (.ins C dx fs)) (er : fs.lookup ("_rows" : Str) = some (V.ref q)) (eq : H q = some (.lst zs)) (old : ∃ b o, H b = some o ∧ X.s_0.heap.objs.size ≤ b)
    (h : ∀ it s', H it = none → Inv X pins σ (upd H it (ItO q it 0)) s' → Inv X pins σ H s' → FpOk X pins H it → s'.heap.IsListIter it q 0 → Q (.ref it) s') : wpAny (model X.prog X.w) A (pyIter (.ref a)) Q E s := by
  obtain ⟨_, O, _⟩ := ins_get I.hok ea
  obtain ⟨_, J, _⟩ := O.look
  obtain ⟨mm, fr⟩ := I.fr
  refine owit_iter fr I.mod.kin J m.at_ m.fn (thn (call_meth (Q := fun v H' => ∃ it, H it = none ∧ X.s_0.heap.objs.size ≤ it ∧ v = .ref it ∧ H' = upd H it (ItO q it 0)) F hb hr env I (show Vals [V.ref a] [Value.ref a] from .cons rfl .nil) ⟨a, dx, q, fs, zs, rfl, ea, er, eq, old, fun it h1 h2 => ⟨it, h1, h2, rfl, rfl⟩⟩) fun u s' hu => ?_)
  obtain ⟨v, H', I', ru, it, hit, young, rfl, rfl⟩ := hu
  have eu : u = .ref it := ru
  subst eu
  have li := itO_get I' upd_same
  have I2 := ItX.inv_drop I' upd_same
  have fp := ItX.inv_fp I' upd_same young
  rw [ItX.dropH_upd hit] at I2 fp
  exact wpAny_specialOf (name := "__next__") ⟨_, li, rfl⟩ slot_listiter_next.lookup (h it s' hit I' I2 fp ⟨_, li, rfl, rfl⟩)
/-- no length is told of such an object -/
theorem hint_own {M : Model} {Q : Bool → Shared → Prop} (I : Inv X pins σ H s) (ea : H a = some (.ins C dx fs)) (n1 : NoAttr X.K C "__len__") (n2 : NoAttr X.K C "__length_hint__") (h : Q true s) : wpAny M A (Builtin.List.listLengthHint (.ref a)) Q E s := by
  obtain ⟨_, O, _⟩ := ins_get I.hok ea
  obtain ⟨_, J, _⟩ := O.look
  have none_ : ∀ (x : Str) {Q : Option Value → Shared → Prop}, NoAttr X.K C x → Q none s → wpAny M A (typeOf (.ref a) >>= fun t => typeLookup t x) Q E s := fun x Q n q => wpAny_bind (J.type.here ((looks_findIn I.kIn n).here q))
  unfold Builtin.List.listLengthHint
  refine wpAny_bind (none_ _ n1 ?_)
  exact wpAny_bind (none_ _ n2 (wpAny_pure h))
/-- the empty list at S takes what the object's iterator gives -/
theorem extend_own {R : Result → Shared → Prop} {q S : Addr} {zs : List V} (hh : A.handled = none) (I : Inv X pins σ (upd H S (.lst [])) s) (hS : H S = none) (hSz : X.s_0.heap.objs.size ≤ S) (ea : H a = some (.ins C dx fs)) (er : fs.lookup ("_rows" : Str) = some (V.ref q)) (eq : H q = some (.lst zs)) (hn : zs.length ≤ sizeLine)
    (m : Meth X.K C "__iter__" f) (F : FnOk X.prog X.w X.K X.mg X.base CX0 k f fd ps (spIterO C X.s_0.heap.objs.size)) (hb : Binds X.K fd ps []) (hr : Room k A.in1) (env : Env0 X.prog X.w X.K X.mg X.base A.in1 X.stack s (upd H S (.lst []))) (n1 : NoAttr X.K C "__len__") (n2 : NoAttr X.K C "__length_hint__")
    (hR : ∀ s', Inv X pins σ (upd H S (.lst zs)) s' → R (.ok (.ret .none)) s') :
    wpAny (model X.prog X.w) A.in1 (Builtin.List.listExtendWith (.ref S) (.ref a) .none) (fun fin s' => match fin with | .done f => R (.ok f) s' | .again c => c.quiet = true ∧ codeAny (model X.prog X.w) A c R s') (fun e s' => R (.error e) s') s := by
  have old : ∀ {b : Addr} {o : HO}, H b = some o → b ≠ S ∧ (upd H S (.lst [])) b = some o := fun {b o} e => by
    have ne : b ≠ S := fun z => by rw [z, hS] at e; cases e
    exact ⟨ne, (upd_ne ne).trans e⟩
  obtain ⟨aS, ea1⟩ := old ea
  obtain ⟨qS, eq1⟩ := old eq
  have hS1 : (upd H S (.lst [])) S = some (.lst []) := upd_same
  generalize hH1 : upd H S (.lst []) = H1 at *
  have upd2 : ∀ o, upd H1 S o = upd H S o := fun o => by rw [← hH1, upd_upd]
  obtain ⟨_, O, _⟩ := ins_get I.hok ea1
  obtain ⟨_, J, _⟩ := O.look
  have other : Builtin.List.listSameRef (.ref S) (.ref a) = false := by simp [Builtin.List.listSameRef, aS.symm]
  unfold Builtin.List.listExtendWith
  refine wpAny_bind (J.type.here ?_)
  rw [other]
  simp only [Bool.false_or]
  rw [if_neg (by simp)]
  refine wpAny_bind (iter_own I m F hb hr env ea1 er eq1 ⟨S, _, hS1, hSz⟩ fun it s3 hit I3 I4 fp li => ?_)
  have itS : it ≠ S := fun z => by rw [z, hS1] at hit; cases hit
  refine wpAny_bind (wpAny_holding (hint_own I4 ea1 n1 n2 ?_))
  obtain ⟨its, rv, pl, _⟩ := I4.list (SqL.of eq1)
  obtain ⟨_, none_, n0, r0, get0⟩ := (show ObjOk X.prog X.w H1 s3.heap S (.lst []) from I4.hok S _ hS1)
  cases r0
  have walk := Walks.list (prog := X.prog) (w := X.w) (A := A.in1) hh it q (fun z => by rw [z, hit] at eq1; cases eq1) its.toArray
  have size : its.toArray.size ≤ sizeLine := by rw [List.size_toArray, ← rv.length]; exact hn
  -- from any heap in which S is empty and all else as it was
  have fill : ∀ (h : Heap) (n tk : Nat), h.get? S = some (lO #[] n) → (∀ b o, b ≠ S → s3.heap.get? b = some o → h.get? b = some o) → codeAny (model X.prog X.w) A (.builtin "list.extend.loop" ⟨[.ref S, .ref it, .none], []⟩) R { s3 with heap := h, toks := tk } := by
    intro h n tk get keep
    refine codeAny_extend_loopS walk.toS size S (by simp [itS.symm, qS.symm]) .none _ 0 _ #[] n rfl (Nat.zero_le _) ⟨li.at (fun o e => keep it o itS e), pl.isList.at fun o e => keep q o qS e⟩ get (ItemsOf.nil _) fun s' acc c moved get' all => ?_
    rw [Moved.eq_with moved]
    have same : acc.toList = its := by
      have len : acc.toList.length = its.length := by rw [Array.length_toList, all.1, List.size_toArray]
      refine List.ext_getElem len fun j h1 h2 => ?_
      have e : its.toArray[j]? = some acc.toList[j] := all.2 j _ (by rw [← Array.getElem?_toList, List.getElem?_eq_getElem h1])
      rw [List.getElem?_toArray, List.getElem?_eq_getElem h2] at e
      exact (Option.some.inj e).symm
    have got := Heap.get?_update_self (fun _ => lO acc c) get0 rfl
    have I5 := inv_items (tk := s'.toks) I4 hS1 got (fun b o hb e => (Heap.get?_update_other _ _ fun z => hb z.symm).trans e) (by rw [same]; exact rv) hn
    rw [upd2] at I5
    obtain ⟨g0, g1, _, g2, g3, g4⟩ := fp
    have I6 := I5.turned (it := it) (t' := s'.toks) (h' := s'.heap) (fun b o hb e => ?_) (by rw [← upd2, upd_ne itS]; exact hit) g1 g2 g3 g4
    exact hR _ I6
    by_cases z : b = S
    · subst z
      exact get'.trans (got.symm.trans e)
    · have e' : s3.heap.get? b = some o := (Heap.get?_update_other _ _ fun y => z y.symm).symm.trans e
      exact moved.heap b o (by simp [z, hb]) (keep b o z e')
  have quiet := plainId_quiet PySem.F.plain_extend_loop
  refine wpAny_ite_split (fun _ => wpAny_bind (wpAny_rule (wpAny_bind ?_))) fun _ => wpAny_pure ⟨quiet _, fill _ n0 _ get0 fun b o _ e => e⟩
  change wpAny _ _ (updateSeq S (·.push .none) >>= fun _ => updateSeq S (·.pop)) _ _ _
  refine wpAny_bind (rewritten get0 (Nat.zero_le _) (by rw [sizeLine_eq]; decide) fun h1 c1 get1 k1 => rewritten get1 (by rw [sizeLine_eq]; decide) (by rw [sizeLine_eq]; decide) fun h2 c2 get2 k2 => ?_)
  exact wpAny_pure ⟨quiet _, fill h2 c2 _ get2 fun b o hb e => k2 b o hb (k1 b o hb e)⟩
/-- list(o) -/
def rListOwn (C : Addr) : List V → Hp → VK → Prop := fun xs H Q => ∃ (p dx q : Addr) (fs : List (Str × V)) (zs : List V), xs = [.ref p] ∧ H p = some (.ins C dx fs) ∧ fs.lookup ("_rows" : Str) = some (V.ref q) ∧ H q = some (.lst zs) ∧ zs.length ≤ sizeLine ∧ ∀ r, H r = none → Q (.ref r) (upd H r (.lst zs))
theorem call_list_own (hc : X.calm = true) (m : Meth X.K C "__iter__" f) (F : FnOk X.prog X.w X.K X.mg X.base CX0 k f fd ps (spIterO C X.s_0.heap.objs.size)) (hr : Room (k + 2) X.A) (hb : Binds X.K fd ps []) (n1 : NoAttr X.K C "__len__") (n2 : NoAttr X.K C "__length_hint__") : CallR X (.type "list") (rListOwn C) := by
  rintro pins s σ H xs us Q I r ⟨p, dx, q, fs, zs, rfl, ea, er, eq, hn, h⟩
  obtain rfl := Vals.ref1 r
  have fresh : H s.heap.objs.size = none := I.hok.fresh (Nat.le_refl _)
  refine callType_codes (Q₁ := fun obj s1 => obj = .ref s.heap.objs.size ∧ s1 = { s with heap := s.heap.push (lO #[] 0) }) PySem.F.called_list (PySem.F.typeCall_list_1 _) PySem.F.entry_list_init (code_list_new _ ⟨rfl, rfl⟩) fun obj s1 h1 => ?_
  obtain ⟨rfl, rfl⟩ := h1
  have get : ({ s with heap := s.heap.push (lO #[] 0) } : Shared).heap.get? s.heap.objs.size = some (lO #[] 0) := Heap.get?_push_size _ rfl
  refine ⟨⟨_, get, rfl⟩, PySem.F.args_list_init_2 _ _, ?_⟩
  have I1 : Inv X pins σ (upd H s.heap.objs.size (.lst [])) { s with heap := s.heap.push (lO #[] 0) } := I.laid (t' := s.toks) (fun b o e => Heap.get?_push_of_some _ e) (Nat.le_refl _) ⟨Nat.zero_le _, [], 0, .nil, get⟩
  have young := I.sz
  generalize s.heap.objs.size = S at *
  generalize ({ s with heap := s.heap.push (lO #[] 0) } : Shared) = s1 at *
  change wpAny _ _ (Builtin.List.listItems (.ref S) >>= fun was => Builtin.List.listUpdate (.ref S) (fun _ => #[]) >>= fun _ => letGo was.toList.reverse >>= fun _ => Builtin.List.listExtendWith (.ref S) (.ref p) .none) _ _ s1
  unfold Builtin.List.listItems
  refine wpAny_bind (wpAny_bind (wpAny_seqItems get rfl (wpAny_pure (wpAny_bind (rewritten get (Nat.zero_le _) (Nat.zero_le _) fun h2 c2 get2 keep => wpAny_bind (wpAny_letGo ?_))))))
  have I2 := inv_items (tk := s1.toks) (zs := []) I1 upd_same get2 keep .nil (Nat.zero_le _)
  rw [upd_upd] at I2
  exact extend_own (A := X.A.in1) (I.ok.hd hc) I2 fresh young ea er eq hn m F hb (Room.in1 (Room.in1 hr)) I2.env0.in1.in1 n1 n2 fun s' I' => ⟨rfl, .ref S, _, I', rfl, h S fresh⟩
end
end Bb
end
section
set_option maxRecDepth 100000
set_option maxHeartbeats 4000000
namespace Bb
open PySem PySem.Spec PyProof.Rows L2
def rIterM (K : PySem.W.Frag) (n : Nat) : List V → Hp → VK → Prop := fun xs H Q => ∃ (l : Addr) (zs : List V), xs = [.ref l] ∧ SqL K H l zs ∧ (∃ b o, H b = some o ∧ n ≤ b) ∧ ∀ it, H it = Option.none → n ≤ it → Q (.ref it) (upd H it (ItO l it 0))
theorem call_iterM {X : Cx} {n : Nat} : CallR X (.builtin "iter") (rIterM X.K n) := by
  intro pins s σ H xs us Q I r h
  obtain ⟨l, zs, rfl, hq, ⟨b, o, hb, hn⟩, q⟩ := h
  obtain ⟨u, rfl, ru⟩ := vals1 r
  cases ru
  obtain ⟨its, rv, pl, hz⟩ := I.list hq
  have hlt := I.hok.lt hb
  refine GNX.call_iter pl.isList ?_
  exact ⟨.ref s.heap.objs.size, _, I.laid (t' := s.toks) (fun b u e => Heap.get?_push_of_some _ e) (Nat.le_refl _) (itO_ok (Heap.get?_push_size _ rfl)), rfl, q _ (I.hok.fresh (Nat.le_refl _)) (Nat.le_trans hn (Nat.le_of_lt hlt))⟩
section
variable {P : Program} {w : World} {K : PySem.W.Frag} {mg : Str → Option Value} {base : Heap}
theorem Txt.nlen (T : Txt K mg) : NoAttr K (kC K) "__len__" := He.noat_ok (T.says.1.fact 71 (f := .noat "KeptLists" "__len__") rfl)
theorem Txt.nhint (T : Txt K mg) : NoAttr K (kC K) "__length_hint__" := He.noat_ok (T.says.1.fact 72 (f := .noat "KeptLists" "__length_hint__") rfl)
theorem fo_iter (T : Txt K mg) (n : Nat) : Mth P w K mg base 1 "__iter__" ["self"] (spIterO (kC K) n) := by
  obtain ⟨fd, F⟩ := T.f_kl_iter
  refine ⟨fd, F.ok sc_kl_iter (fun vs H Q E h => ?_) (fun cdv A outer s H vs Q E hr h => ?_), F.bindsN (fun _ _ _ _ _ _ us hl => match us, hl with | [_], _ => rfl)⟩
  · obtain ⟨p, dx, q, fs, zs, rfl, _⟩ := h; rfl
  obtain ⟨p, dx, q, fs, zs, rfl, ea, er, eq, ⟨b, o, hb, hn⟩, k⟩ := h
  refine ⟨_, PSs.nox (pss_cons (ps_ret (pe_callB (call_iterM (n := n)) rfl T.n_iter (by decide +kernel) (pa_cons (pe_fld (pe_var (i := 0) rfl (Or.inl rfl)) rfl) pa_nil rfl))) pss_nil), ?_⟩
  refine ⟨_, rfl, p, _, dx, _, _, rfl, ea, T.kcls, T.nrows, er, ?_⟩
  exact ⟨q, zs, rfl, SqL.of eq, ⟨b, o, hb, hn⟩, fun it hit hz => k it hit hz⟩
/-- x in a KeptLists -/
theorem ed_inK {X : Cx} {Δ : Dl} {a b : Expr} {pos : Pos} {l : List Bool} {xs : List Int} {k : Nat} (T : Txt X.K mg) (M : Mth X.prog X.w X.K X.mg X.base k "__contains__" ["self", "sizes"] (spCont X.K)) (ha : Ed X Δ a (dI xs)) (hb : Ed X Δ b (keptD (kC X.K) l)) (hl : l.length ≤ 14) (hr : Room k X.A) (hm : behindInMarks .In b = false := by rfl) : Ed X Δ (.Compare a [.In] [b] pos) (.bl (decide (xs ∈ rowsOf l))) := by
  obtain ⟨fd, F, hbd⟩ := M.ex
  refine ev_cmp (op_inOwn T.mcont F hr hbd) ha hb (fun S H u v e h1 h2 Q k => ?_) hm
  obtain ⟨p, dx, vs, rfl, g1, g2, g3⟩ := Rp.ins.mp h2
  refine ⟨p, dx, _, rfl, e _ _ g1, ?_⟩
  exact ⟨(l, xs), S, e, .cons h2 (.cons h1 .nil), hl, fun w S1 H1 l1 r1 => ⟨_, Rp.bl.mp r1, k _ S1 H1 l1 (Rp.bl.mpr rfl)⟩⟩
/-- list(a KeptLists) -/
theorem ev_listK2 {X : Cx} {Δ : Dl} {e : Expr} {p pos : Pos} {l : List Bool} {k : Nat} (T : Txt X.K X.mg) (M : ∀ n, Mth X.prog X.w X.K X.mg X.base k "__iter__" ["self"] (spIterO (kC X.K) n)) (h : Ed X Δ e (keptD (kC X.K) l)) (hl : l.length ≤ 14) (hr : Room (k + 2) X.A) (hc : X.calm = true := by rfl) (hg : Gl X "list" := by rfl) (hs : starEach [e] X.env = (false, eval e X.env) :: starEach [] X.env := by rfl) : Ev X Δ (.Call (.Name "list" p) [e] [] pos) (.ol ((rowsOf l).map tI)) := by
  obtain ⟨fd, F, hbd⟩ := (M X.s_0.heap.objs.size).ex
  refine ev_callTy (call_list_own hc T.miter F hr hbd T.nlen T.nhint) (ea_cons h ea_nil hs) (fun S H vs e h Q k => ?_) T.n_list (hg := hg) (he := hs)
  simp only [RpL] at h
  obtain ⟨v, r, rfl, h1, rfl⟩ := h
  obtain ⟨p, dx, vs, rfl, g1, g2, g3⟩ := Rp.ins.mp h1
  simp only [keptL, RpL] at g3
  obtain ⟨v1, r, rfl, h2, v2, r2, rfl, h3, rfl⟩ := g3
  obtain ⟨q, zs, rfl, t1, t2⟩ := Rp.lst.mp h2
  refine ⟨p, dx, q, _, zs, rfl, e _ _ g1, rfl, e _ _ t1, ?_, fun r hr => Post.newL e k hr t2⟩
  rw [← t2.len, List.length_map, sizeLine_eq]
  have := (rows_ok l hl).2.2
  omega
end
end Bb
end
section
set_option maxRecDepth 100000
set_option maxHeartbeats 4000000
namespace L2
open PySem PySem.Spec PyProof.Rows
section
variable {X : Cx} {pos : Pos}
/-- X() , X an own exception class without own __init__ -/
theorem pmk_own0 {C : Addr} {bmB : List Value} {B newId initId : String} {x : Str} {p : Pos} (F : ExcBaseFacts B newId initId bmB) (q : PySem.W.excIn X.K C bmB newId = true) (gC : X.mg x = some (.ref C))
    (kC : PySem.W.keepIn X.K (.ref C) = true) (r : Raises X (.ref C)) (hg : Gl X x) (hdb : (x == ("__debug__" : Str)) = false := by decide) :
    PMk X (.Call (.Name x p) [] [] pos) (fun σ H Q => Q (.ref C) none H) := by
  intro pins s σ H Q I h
  refine wpAny_Call_Name_kw (ld_glob I hg gC ?_ hdb)
  refine PySem.W.callWith_K0 I.kIn kC ?_
  obtain ⟨bm, N, nm, qn, bs, hdct, sn, sub, ab, col, dd, k0, k1, k2, k3, k5, mN, hC, hN, hni, T⟩ := exc_obj I.kIn q
  refine wpAny_call_exc_subT F T hC hN hni (fun h' e hm => ?_) (Nat.zero_le _)
  exact mk_of I hm r h (I.hok.gone hm.new)
end
end L2
namespace Bb
open PySem PySem.Spec PyProof.Rows L2
/-- the number of a kept order, none where it is lost -/
def idxM : List Int → List Bool → Option Int
  | _, [] => some 0
  | xs, false :: l => idxM (plM xs).1 l
  | xs, true :: l => match (plM xs).2 with
    | none => none
    | some u => (idxM u l).map (· + cntL (plM xs).1)
abbrev XR (P : Program) (w : World) (K : PySem.W.Frag) (mg : Str → Option Value) (base : Heap) (N : List Str) (qual : Str) (scope : Scope) (f : Addr) (cdv : Value) (A : Around) (outer : List Env) (s : Shared) (H : Hp) (E : XK) : Cx :=
  cxOf (L2.CX P w) P w K mg base N qual scope f cdv A outer s H E
abbrev nkC (K : PySem.W.Frag) : Addr := He.ga K "NotKept"
section
variable {P : Program} {w : World} {K : PySem.W.Frag} {mg : Str → Option Value} {base : Heap}
theorem Txt.exc (T : Txt K mg) : PySem.W.excIn K (nkC K) He.veBase "ValueError.__new__" = true ∧ PySem.W.keepIn K (.ref (nkC K)) = true ∧ PySem.W.subIn K (.ref (nkC K)) (.type "BaseException") = some true ∧ PySem.W.typeIn K (.ref (nkC K)) = some (.type "type") := He.exc_ok (T.says.1.fact 69 (f := .exc "NotKept") rfl)
theorem ab_start {S H : Hp} {N : List Str} {vs : List V} {ds : List D} (ex : Sb S H) (r : RpL S ds vs) : Ab S H S H (start N vs) (ds.map (fun d => some (Av.sh d)) ++ List.replicate (N.length - ds.length) none) := by
  refine ⟨.refl ex, fun i b eb => ?_, fun i j b c v hij e1 e2 o1 => ?_, ?_⟩
  · have hi : i < (ds.map fun d => some (Av.sh d)).length := by
      by_cases hi : i < (ds.map fun d => some (Av.sh d)).length
      · exact hi
      · rw [List.getElem?_append_right (by omega), List.getElem?_replicate] at eb
        split at eb <;> cases eb
    rw [List.getElem?_append_left hi, List.getElem?_map] at eb
    cases ed : ds[i]? with
    | none => rw [ed] at eb; cases eb
    | some d =>
      rw [ed] at eb
      cases eb
      obtain ⟨v, hv, rv⟩ := r.get ed
      refine ⟨v, ?_, rv⟩
      unfold L2.start
      have hi2 : i < (vs.map some).length := by rw [List.length_map, ← r.len]; simpa using hi
      rw [List.getElem?_append_left hi2, List.getElem?_map, hv]
      rfl
  · exfalso
    have hi : i < (ds.map fun d => some (Av.sh d)).length := by
      by_cases hi : i < (ds.map fun d => some (Av.sh d)).length
      · exact hi
      · rw [List.getElem?_append_right (by omega), List.getElem?_replicate] at e1
        split at e1 <;> cases e1
    rw [List.getElem?_append_left hi, List.getElem?_map] at e1
    cases ed : ds[i]? with
    | none => rw [ed] at e1; cases e1
    | some d => rw [ed] at e1; cases e1; cases o1
  · unfold L2.start
    rw [List.length_append, List.length_append, List.length_map, List.length_map, List.length_replicate, List.length_replicate, r.len]
def spIndex (K : PySem.W.Frag) : Sp := fun vs H Q E => ∃ (xs : List Int) (l : List Bool) (S : Hp), Sb S H ∧ RpL S [dI xs, .str (wd l)] vs ∧ Good xs ∧ (l.length : Int) = xs.sum ∧
  (∀ n, idxM xs l = some n → Post S H (.sh (.int n)) Q) ∧ (idxM xs l = none → ∀ S1 H1, Le S H S1 H1 → E (.ref (nkC K)) none H1)
theorem fo_index (T : Txt K mg) (c1 : Cal P w K mg base 6 "order_counts" ["starts"] [] spCounts) (c2 : Cal P w K mg base 4 "best_plucks" ["word"] [] spPlucks) : ∃ fd, FnOk P w K mg base (L2.CX P w) 7 (He.ga K "index_of") fd ["sizes", "order"] (spIndex K) ∧ PySem.W.keepIn K (.ref (He.ga K "index_of")) = true ∧ Binds K fd ["sizes", "order"] [] := by
  obtain ⟨fd, F⟩ := T.f_index_of
  refine ⟨fd, F.ok sc_index_of (fun vs H Q E h => ?_) (fun cdv A outer s H vs Q E hr h => ?_), F.kp, F.bindsN (fun _ _ _ _ _ _ us hl => match us, hl with | [_, _], _ => rfl)⟩
  · obtain ⟨xs, l, S, _, r, _⟩ := h
    rw [← r.len]; rfl
  obtain ⟨xs, l, S, hsb, r, hg, hl, kk, ke⟩ := h
  have hu : (XR P w K mg base N_index_of (Str.ofString "index_of") (defScope s_index_of) (He.ga K "index_of") cdv A outer s H E).A.units + 64 < cLine := hr.units
  refine ⟨WSs (XR P w K mg base N_index_of (Str.ofString "index_of") (defScope s_index_of) (He.ga K "index_of") cdv A outer s H E) (defBody s_index_of), WSs.pss, ?_⟩
  have tk : Takes (XR P w K mg base N_index_of (Str.ofString "index_of") (defScope s_index_of) (He.ga K "index_of") cdv A outer s H E) (fun cls d _ H => E cls d H) := takes_of rfl rfl rfl rfl
  have hs0 : 0 ≤ xs.sum := sum_nn fun x hx => by have := hg.1 x hx; omega
  have hs1 := hg.2
  have ab : Ab S H S H (start N_index_of vs) [some (.sh (dI xs)), some (.sh (.str (wd l))), none, none, none, none, none, none] := ab_start hsb r
  suffices hgo : Go (XR P w K mg base N_index_of (Str.ofString "index_of") (defScope s_index_of) (He.ga K "index_of") cdv A outer s H E) S H { nx := fun _ H' => Q .non H', rt := Q } (defBody s_index_of) [some (.sh (dI xs)), some (.sh (.str (wd l))), none, none, none, none, none, none] from hgo S H _ ab
  refine go_if (t := false) (Et.to (et_neI (ed_lenS (ed_var 1) T.n_len (by rw [wd_len]; omega)) (ed_sum (ed_var 0) T.n_sum)) (by rw [wd_len]; simp [hl])) (fun h => nomatch h) (fun _ => go_nil (nx_go ?_))
  refine go_setR 2 (evr_call c1 xs (ea_cons (ev_lst (ea_cons (ed_var 0) ea_nil)).lst ea_nil) hg (hr.mono (by decide))) (fun av hav => ?_) sc_index_of.nd
  obtain ⟨c, hc, hxc, rfl⟩ := hav
  refine go_set 3 (a := .sh (tI xs)) (ed_tupleL (ed_var 0) T.n_tuple) ?_ sc_index_of.nd
  refine go_set 4 ed_int ?_ sc_index_of.nd
  refine go_for (fun a : List Int × Int => [some (.sh (dI xs)), some (.sh (.str (wd l))), some (oT (iT c)), some (.sh (tI a.1)), some (.sh (.int a.2)), none, none, none]) (fun i a => a.1 ∈ kys c ∧ a.1.sum = xs.sum - (i : Int) ∧ (idxM a.1 (l.drop i)).map (· + a.2) = idxM xs l) l (fun b => .str (sgn b)) (ei_str (ed_var 1)) (wd_signs l) (xs, 0) ⟨hxc, by simp, by simp⟩ (Wk.refl _) ?_ ?_ (passes_of rfl)
  · rintro S1 rb i b ⟨v, ix⟩ hb ⟨p1, p2, p3⟩
    have hi := (List.getElem?_eq_some_iff.mp hb).1
    have hd : l.drop i = b :: l.drop (i + 1) := by
      rw [List.drop_eq_getElem_cons hi]
      rw [List.getElem?_eq_getElem hi] at hb
      cases hb; rfl
    simp only at p1 p2 p3
    rw [hd] at p3
    have vg := hc.good p1
    have vn : v ≠ [] := fun z => by subst z; simp at p2; omega
    obtain ⟨k1, k2⟩ := hc.cl v p1 vn
    obtain ⟨q1, q2, q3⟩ := plM_good vg vn
    refine ⟨_, eg_name 5 sc_index_of.nd, ?_⟩
    refine go_asg (d := plD (plM v)) (ed_call c2 v (ea_cons (ed_var 3) ea_nil) ⟨vg, vn⟩ (hr.mono (by decide))) (eg_tup rfl (egs_cons (eg_name 6 sc_index_of.nd) (egs_cons (eg_name 7 sc_index_of.nd) egs_nil)) rfl rfl rfl) ?_
    refine go_if (t := !b) (Et.to (et_eqS (ed_var 5) ed_str) (sgn_K b)) (fun h => ?_) (fun h => ?_)
    · have hb' : b = false := by simpa using h
      subst hb'
      refine go_set 3 (ed_var 6) (go_nil (nx_go ?_)) sc_index_of.nd
      exact go_next rfl ((plM v).1, ix) ⟨k1, by show (plM v).1.sum = _; rw [q2, p2]; push_cast; omega, p3⟩ (.keep (.keep (.keep (.keep (.keep (.skip (.skip (.skip .nil))))))))
    · have hb' : b = true := by simpa using h
      subst hb'
      cases ho : (plM v).2 with
      | none =>
        refine go_if (t := true) (Et.to (et_isN (d := .non) (ed_var 7 (d := .non) (by simp only [plD, ho]; rfl))) rfl) (fun _ => ?_) (fun h => nomatch h)
        refine go_cons fun S2 H2 σ A2 => WS.of (ps_raise rfl tk (pmk_own0 PySem.F.excBase_ValueError T.exc.1 T.g_NotKept T.exc.2.1 (raises_own T.exc.2.2.1 T.exc.2.2.2) rfl)) ?_
        refine ke ?_ S2 H2 (rb _ _ A2.le)
        rw [← p3]
        simp only [idxM, ho]; rfl
      | some u =>
        obtain ⟨g1, g2⟩ := q3 u ho
        refine go_if (t := false) (Et.to (et_isN (d := tI u) (ed_var 7 (d := tI u) (by simp only [plD, ho]; rfl))) rfl) (fun h => nomatch h) (fun _ => go_nil (nx_go ?_))
        refine go_aug 4 ip_add rfl (ed_dgetO 2 (l := iT c) rfl (ed_var 6) (hc.getT k1) hu) ?_ sc_index_of.nd
        refine go_set 3 (a := .sh (tI u)) (ed_var 7 (by simp only [plD, ho]; rfl)) (go_nil (nx_go ?_)) sc_index_of.nd
        refine go_next rfl (u, ix + cntL (plM v).1) ⟨k2 u ho, by show u.sum = _; rw [g2, p2]; push_cast; omega, ?_⟩ (.keep (.keep (.keep (.keep (.keep (.skip (.skip (.skip .nil))))))))
        show (idxM u (l.drop (i + 1))).map (· + (ix + cntL (plM v).1)) = _
        rw [← p3]
        simp only [idxM, ho]
        cases idxM u (l.drop (i + 1)) with
        | none => rfl
        | some n => simp; omega
  · rintro ⟨v, ix⟩ ⟨p1, p2, p3⟩
    have : l.drop l.length = [] := List.drop_length ..
    rw [this] at p3
    exact go_ret (ed_var 4) (kk ix (by rw [← p3]; simp [idxM]))
end
end Bb
end
section
set_option maxRecDepth 100000
set_option maxHeartbeats 200000
namespace Bb
theorem idx_ahead : ∀ (l : List Bool) (xs : List Int), Good xs → (l.length : Int) = xs.sum → idxM xs l = if survM xs l then some (aheadM xs l) else none
  | [], xs, _, _ => by cases xs <;> simp [idxM, survM, aheadM]
  | b :: l, xs, h, hs => by
    have hn : xs ≠ [] := fun z => by subst z; simp at hs; omega
    have hl := List.length_pos_iff.mpr hn
    rw [List.length_cons] at hs
    push_cast at hs
    cases b with
    | false =>
      have ih := idx_ahead l (lowerM xs 0) (lower_good h hl) (by rw [lower_sum h.1 hl]; omega)
      show idxM (plM xs).1 l = _
      rw [surv_cons, ahead_cons]
      simp only [bestM, plM, Bool.false_eq_true, if_false]
      rw [ih]; simp
    | true =>
      rw [surv_cons, ahead_cons]
      by_cases h1 : xs.length = 1
      · simp [idxM, bestM, plM, h1]
      · have h2 : ¬ xs.length ≤ 1 := by omega
        have ih := idx_ahead l (lowerM xs (xs.length - 1)) (lower_good h (by omega)) (by rw [lower_sum h.1 (by omega)]; omega)
        simp only [idxM, bestM, plM, if_neg h1, if_neg h2, if_true]
        rw [ih]
        split
        · simp [Int.add_comm]
        · rfl
theorem ahead_bd : ∀ (l : List Bool) (xs : List Int), Good xs → (l.length : Int) = xs.sum → survM xs l = true → 0 ≤ aheadM xs l ∧ aheadM xs l < cntL xs ∧ orderM xs.sum.toNat xs (aheadM xs l) = l
  | [], xs, h, hs, _ => by
    have : xs = [] := by
      cases xs with
      | nil => rfl
      | cons a r => exfalso; have := good_sumpos h (by simp); rw [List.length_nil] at hs; omega
    subst this
    decide
  | b :: l, xs, h, hs, sv => by
    have hn : xs ≠ [] := fun z => by subst z; simp at hs; omega
    have hl := List.length_pos_iff.mpr hn
    rw [List.length_cons] at hs
    push_cast at hs
    have c1 := cntL_nn (lowerM xs 0)
    have cs := cntL_step h hn
    rw [surv_cons] at sv
    have hsn : xs.sum.toNat = l.length + 1 := by omega
    rw [ahead_cons, hsn, cs]
    cases b with
    | false =>
      have ss : (lowerM xs 0).sum = xs.sum - 1 := lower_sum h.1 hl
      simp only [bestM, Bool.false_eq_true, if_false] at sv ⊢
      obtain ⟨i1, i2, i3⟩ := ahead_bd l (lowerM xs 0) (lower_good h hl) (by omega) sv
      rw [show (lowerM xs 0).sum.toNat = l.length by omega] at i3
      refine ⟨by omega, ?_, ?_⟩
      · split
        · omega
        · have := cntL_nn (lowerM xs (xs.length - 1))
          omega
      · rw [Int.zero_add]
        unfold orderM
        rw [if_pos (show aheadM (lowerM xs 0) l < cntL (plM xs).1 from i2)]
        exact congrArg _ i3
    | true =>
      by_cases h2 : xs.length ≤ 1
      · simp [bestM, h2] at sv
      · simp only [bestM, if_neg h2, if_true] at sv ⊢
        have ss : (lowerM xs (xs.length - 1)).sum = xs.sum - 1 := lower_sum h.1 (by omega)
        obtain ⟨i1, i2, i3⟩ := ahead_bd l (lowerM xs (xs.length - 1)) (lower_good h (by omega)) (by omega) sv
        rw [show (lowerM xs (xs.length - 1)).sum.toNat = l.length by omega] at i3
        refine ⟨by omega, by omega, ?_⟩
        unfold orderM
        rw [if_neg (show ¬ (cntL (lowerM xs 0) + aheadM (lowerM xs (xs.length - 1)) l < cntL (plM xs).1) from by show ¬ (_ < cntL (lowerM xs 0)); omega)]
        have e : aftK (plM xs).2 = lowerM xs (xs.length - 1) := by simp [plM, aftK, show xs.length ≠ 1 by omega]
        rw [e, show cntL (lowerM xs 0) + aheadM (lowerM xs (xs.length - 1)) l - cntL (plM xs).1 = aheadM (lowerM xs (xs.length - 1)) l by show _ - cntL (lowerM xs 0) = _; omega]
        exact congrArg _ i3
end Bb
end
section
set_option maxRecDepth 100000
set_option maxHeartbeats 200000
namespace Bb
/-- the sum of the first k -/
def sK (xs : List Int) (k : Nat) : Int := (xs.take k).sum
theorem sK_nil (k : Nat) : sK [] k = 0 := by simp [sK]
theorem sK_zero (xs : List Int) : sK xs 0 = 0 := by simp [sK]
theorem sK_cons (a : Int) (xs : List Int) (k : Nat) : sK (a :: xs) (k + 1) = a + sK xs k := by simp [sK]
theorem sK_step {b : Int} : ∀ {xs : List Int}, Desc (b :: xs) → 0 ≤ b → ∀ k, sK xs (k + 1) ≤ sK xs k + b
  | [], _, hb, k => by rw [sK_nil, sK_nil]; omega
  | x :: xs, h, hb, 0 => by
    rw [sK_cons, sK_zero, sK_zero]
    have := (List.pairwise_cons.mp h).1 x List.mem_cons_self
    have : x ≤ b := this
    omega
  | x :: xs, h, hb, k + 1 => by
    rw [sK_cons, sK_cons]
    have h2 : Desc (b :: xs) := List.pairwise_cons.mpr ⟨fun c hc => (List.pairwise_cons.mp h).1 c (List.mem_cons_of_mem _ hc), (List.pairwise_cons.mp (List.pairwise_cons.mp h).2).2⟩
    have := sK_step h2 hb k
    omega
theorem sK_ins {a : Int} (ha : 0 ≤ a) : ∀ {xs : List Int}, Desc xs → ∀ k, sK (insD a xs) (k + 1) = max (a + sK xs k) (sK xs (k + 1))
  | [], _, k => by rw [sK_nil, sK_nil]; show sK [a] (k + 1) = _; rw [sK_cons, sK_nil]; omega
  | b :: xs, h, k => by
    unfold insD
    split
    · rename_i hb
      have hb : b ≤ a := hb
      rw [sK_cons]
      have h2 : Desc (a :: b :: xs) := List.pairwise_cons.mpr ⟨fun c hc => by
        rcases List.mem_cons.mp hc with rfl | hc
        · exact hb
        · exact Int.le_trans ((List.pairwise_cons.mp h).1 c hc) hb, h⟩
      have := sK_step h2 ha k
      omega
    · rename_i hb
      have hb : ¬ b ≤ a := hb
      rw [sK_cons, sK_cons]
      cases k with
      | zero => rw [sK_zero, sK_zero, sK_zero]; omega
      | succ k =>
        rw [sK_ins ha (List.pairwise_cons.mp h).2 k, sK_cons]
        omega
theorem sortD_self {l : List Int} (h : Desc l) : sortD l = l := (sortD_eq (.refl _) h).symm
theorem filter_self {l : List Int} (h : ∀ x ∈ l, 1 ≤ x) : l.filter (fun v => decide (0 < v)) = l := List.filter_eq_self.mpr fun x hx => by have := h x hx; simp; omega
theorem sK_mono {xs : List Int} (h : ∀ x ∈ xs, 1 ≤ x) (k : Nat) : sK xs k ≤ sK xs (k + 1) := by
  induction xs generalizing k with
  | nil => rw [sK_nil, sK_nil]; omega
  | cons a xs ih =>
    have ha := h a List.mem_cons_self
    cases k with
    | zero => rw [sK_zero, sK_cons, sK_zero]; omega
    | succ k => rw [sK_cons, sK_cons]; have := ih (fun x hx => h x (List.mem_cons_of_mem _ hx)) k; omega
theorem lower0_eq {m : Int} {r : List Int} (h : ∀ x ∈ m :: r, 1 ≤ x) (hd : Desc (m :: r)) : lowerM (m :: r) 0 = if m = 1 then r else insD (m - 1) r := by
  have hr : ∀ x ∈ r, 1 ≤ x := fun x hx => h x (List.mem_cons_of_mem _ hx)
  have hm := h m List.mem_cons_self
  have hd2 : Desc r := (List.pairwise_cons.mp hd).2
  show sortD (((m - 1) :: r).filter _) = _
  by_cases h1 : m = 1
  · rw [if_pos h1, List.filter_cons_of_neg (by simp; omega), filter_self hr, sortD_self hd2]
  · rw [if_neg h1, List.filter_cons_of_pos (by simp; omega), filter_self hr]
    show insD (m - 1) (sortD r) = _
    rw [sortD_self hd2]
theorem sK_lower0 {m : Int} {r : List Int} (h : ∀ x ∈ m :: r, 1 ≤ x) (hd : Desc (m :: r)) (k : Nat) : sK (lowerM (m :: r) 0) (k + 1) = max (sK (m :: r) (k + 1) - 1) (sK (m :: r) (k + 2) - m) := by
  have hr : ∀ x ∈ r, 1 ≤ x := fun x hx => h x (List.mem_cons_of_mem _ hx)
  have hm := h m List.mem_cons_self
  have hd2 : Desc r := (List.pairwise_cons.mp hd).2
  rw [lower0_eq h hd, sK_cons, sK_cons]
  split
  · have := sK_mono hr k
    omega
  · rw [sK_ins (by omega) hd2]
    omega
end Bb
end
section
set_option maxRecDepth 100000
set_option maxHeartbeats 200000
namespace Bb
theorem sK_all {xs : List Int} {k : Nat} (h : xs.length ≤ k) : sK xs k = xs.sum := by unfold sK; rw [List.take_of_length_le h]
theorem sK_app {r t : List Int} (k : Nat) : sK (r ++ t) k = sK r k + sK t (k - r.length) := by
  unfold sK; rw [List.take_append, List.sum_append]
theorem lowerL_eq {r : List Int} {z : Int} (h : ∀ x ∈ r ++ [z], 1 ≤ x) (hd : Desc (r ++ [z])) : lowerM (r ++ [z]) ((r ++ [z]).length - 1) = r ++ (if z = 1 then [] else [z - 1]) := by
  have hr : ∀ x ∈ r, 1 ≤ x := fun x hx => h x (List.mem_append_left _ hx)
  have hz : 1 ≤ z := h z (by simp)
  have hd2 : Desc r := (List.pairwise_append.mp hd).1
  have hl : (r ++ [z]).length - 1 = r.length := by simp
  unfold lowerM
  rw [hl]
  have e1 : (r ++ [z]).getD r.length 0 = z := by simp
  rw [e1]
  have e2 : (r ++ [z]).set r.length (z - 1) = r ++ [z - 1] := by simp [List.set_append]
  rw [e2, List.filter_append, filter_self hr]
  split
  · rename_i e; subst e
    simp; exact sortD_self hd2
  · rw [List.filter_cons_of_pos (by simp; omega), List.filter_nil]
    refine sortD_self (List.pairwise_append.mpr ⟨hd2, by simp, fun a ha b hb => ?_⟩)
    have := (List.pairwise_append.mp hd).2.2 a ha z (by simp)
    have : z ≤ a := this
    rcases List.mem_singleton.mp hb with rfl
    show z - 1 ≤ a
    omega
theorem sK_le {xs : List Int} (h : ∀ x ∈ xs, 1 ≤ x) (k : Nat) : sK xs k ≤ xs.sum := by
  have e := List.take_append_drop k xs
  have := congrArg List.sum e
  rw [List.sum_append] at this
  have h2 : 0 ≤ (xs.drop k).sum := sum_nn fun x hx => by have := h x (List.mem_of_mem_drop hx); omega
  unfold sK; omega
theorem sK_lowerL {r : List Int} {z : Int} (h : ∀ x ∈ r ++ [z], 1 ≤ x) (hd : Desc (r ++ [z])) (k : Nat) : sK (lowerM (r ++ [z]) ((r ++ [z]).length - 1)) k = min (sK (r ++ [z]) k) ((r ++ [z]).sum - 1) := by
  have hr : ∀ x ∈ r, 1 ≤ x := fun x hx => h x (List.mem_append_left _ hx)
  have hz : 1 ≤ z := h z (by simp)
  rw [lowerL_eq h hd, sK_app, sK_app, List.sum_append]
  have hs := sK_le hr k
  by_cases hk : k ≤ r.length
  · rw [show k - r.length = 0 by omega, sK_zero, sK_zero]; simp; omega
  · obtain ⟨j, hj⟩ : ∃ j, k - r.length = j + 1 := ⟨k - r.length - 1, by omega⟩
    rw [hj, sK_cons, sK_nil, sK_all (xs := r) (by omega)]
    split
    · rename_i e; subst e; rw [sK_nil]; simp; omega
    · rw [sK_cons, sK_nil]; simp; omega
end Bb
end
section
set_option maxRecDepth 100000
set_option maxHeartbeats 200000
namespace Bb
/-- xs fits under the row -/
def Fits (xs row : List Int) : Prop := ∀ i, i < row.length → sK xs (i + 1) ≤ row.getD i 0
theorem counted_at {row : List Int} {i : Nat} (h : i < row.length) : (countedM row).getD i 0 = min (row.getD i 0) (row.length : Int) := by
  unfold countedM
  simp [List.getD, List.getElem?_append_left, h]
theorem counted_last (row : List Int) : (countedM row).getD row.length 0 = (row.length : Int) := by
  unfold countedM
  simp [List.getD]
def rdAt (n c : Int) : Int := if c < n then c else n + 1
theorem rdAt_lt {n c : Int} (h : c < n) : rdAt n c = c := if_pos h
theorem rdAt_ge {n c : Int} (h : ¬ c < n) : rdAt n c = n + 1 := if_neg h
theorem raider_0 {row : List Int} : (raiderM row).getD 0 0 = min (rdAt (row.length : Int) ((countedM row).getD 0 0)) (row.length : Int) := by
  have hl := countedM_len row
  unfold raiderM
  generalize countedM row = b at *
  rw [List.getD_eq_getElem?_getD, List.getElem?_set_self (by rw [List.length_map]; omega)]; rfl
theorem raider_s {row : List Int} {i : Nat} (hi : i + 1 ≤ row.length) : (raiderM row).getD (i + 1) 0 = rdAt (row.length : Int) ((countedM row).getD (i + 1) 0) := by
  have hl := countedM_len row
  unfold raiderM
  generalize countedM row = b at *
  rw [List.getD_eq_getElem?_getD, List.getElem?_set_ne (by omega), List.getElem?_map]
  have e : b[i + 1]? = some (b.getD (i + 1) 0) := by rw [List.getD_eq_getElem?_getD, List.getElem?_eq_getElem (show i + 1 < b.length from Nat.lt_of_lt_of_eq (Nat.lt_succ_of_le hi) hl.symm)]; rfl
  rw [e]; rfl
theorem fits_raider {r : List Int} {z : Int} {row : List Int} (h : ∀ x ∈ r ++ [z], 1 ≤ x) (hd : Desc (r ++ [z])) (hs : (r ++ [z]).sum = (row.length : Int) + 1) (hr : r ≠ []) : Fits (lowerM (r ++ [z]) ((r ++ [z]).length - 1)) row ↔ Fits (r ++ [z]) (raiderM row) := by
  have hle := sK_le h
  have one : sK (r ++ [z]) 1 ≤ (row.length : Int) := by
    have hz : 1 ≤ z := h z (by simp)
    have := sK_le (xs := r) (fun x hx => h x (List.mem_append_left _ hx)) 1
    have hlr := List.length_pos_iff.mpr hr
    rw [sK_app, show 1 - r.length = 0 by omega, sK_zero]
    rw [List.sum_append] at hs; simp at hs; omega
  have o2 : sK (r ++ [z]) (0 + 1) ≤ (row.length : Int) := one
  have step : ∀ i, i < row.length → (sK (lowerM (r ++ [z]) ((r ++ [z]).length - 1)) (i + 1) ≤ row.getD i 0 ↔ sK (r ++ [z]) (i + 1) ≤ rdAt (row.length : Int) ((countedM row).getD i 0)) := fun i hi => by
    have hk := hle (i + 1)
    rw [sK_lowerL h hd, hs, counted_at hi]
    by_cases c : min (row.getD i 0) (row.length : Int) < (row.length : Int)
    · rw [rdAt_lt c]; omega
    · rw [rdAt_ge c]; omega
  have lst : ∀ i, i = row.length → sK (r ++ [z]) (i + 1) ≤ rdAt (row.length : Int) ((countedM row).getD i 0) := fun i e => by
    subst e
    have hk := hle (row.length + 1)
    rw [counted_last, rdAt_ge (by omega)]; omega
  constructor
  · intro f i hi
    rw [raiderM_len] at hi
    have a : sK (r ++ [z]) (i + 1) ≤ rdAt (row.length : Int) ((countedM row).getD i 0) := by
      by_cases e : i < row.length
      · exact (step i e).mp (f i e)
      · exact lst i (by omega)
    cases i with
    | zero => rw [raider_0]; omega
    | succ i => rw [raider_s (by omega)]; exact a
  · intro f i hi
    have q := f i (by rw [raiderM_len]; omega)
    refine (step i hi).mpr ?_
    cases i with
    | zero => rw [raider_0] at q; omega
    | succ i => rwa [raider_s (by omega)] at q
end Bb
end
section
set_option maxRecDepth 100000
set_option maxHeartbeats 200000
namespace Bb
theorem raider_one {z : Int} {row : List Int} (hs : z = (row.length : Int) + 1) : ¬ Fits [z] (raiderM row) := fun f => by
  have q := f 0 (by rw [raiderM_len]; omega)
  rw [raider_0, sK_cons, sK_nil] at q
  omega
theorem keeper_0 {row : List Int} : (keeperM row).getD 0 0 = (countedM row).getD 0 0 + 1 := rfl
theorem keeper_s {row : List Int} {i : Nat} (hi : i < row.length) : (keeperM row).getD (i + 1) 0 = keeperAt (countedM row) i := by
  show ((List.range row.length).map (keeperAt (countedM row))).getD i 0 = _
  simp [List.getD, hi]
/-- the mean is at most the largest -/
theorem sK_top {m : Int} : ∀ {xs : List Int}, (∀ x ∈ xs, x ≤ m) → 0 ≤ m → ∀ k : Nat, sK xs k ≤ (k : Int) * m
  | [], _, hm, k => by rw [sK_nil]; exact Int.mul_nonneg (by omega) hm
  | x :: xs, h, hm, 0 => by rw [sK_zero]; simp
  | x :: xs, h, hm, k + 1 => by
    rw [sK_cons]
    have := sK_top (fun y hy => h y (List.mem_cons_of_mem _ hy)) hm k
    have := h x List.mem_cons_self
    push_cast
    rw [Int.add_mul]
    omega
theorem sK_ge : ∀ {xs : List Int}, (∀ x ∈ xs, 1 ≤ x) → Desc xs → ∀ k : Nat, (k : Int) * (sK xs (k + 1) - sK xs k) ≤ sK xs k
  | [], _, _, k => by rw [sK_nil, sK_nil]; simp
  | x :: xs, h, hd, 0 => by rw [sK_zero]; simp
  | x :: xs, h, hd, k + 1 => by
    rw [sK_cons, sK_cons]
    have hx := h x List.mem_cons_self
    have i := sK_ge (fun y hy => h y (List.mem_cons_of_mem _ hy)) (List.pairwise_cons.mp hd).2 k
    have st := sK_step hd (by omega) k
    have e : x + sK xs (k + 1) - (x + sK xs k) = sK xs (k + 1) - sK xs k := by omega
    rw [e]
    push_cast
    rw [Int.add_mul]
    omega
/-- the heart of the keeper's step -/
theorem keeper_core {m : Int} {r : List Int} (h : ∀ x ∈ m :: r, 1 ≤ x) (hd : Desc (m :: r)) (j : Nat) {b : Int} (h1 : sK (m :: r) (j + 1) ≤ b + 1) : sK (m :: r) (j + 2) ≤ b + m ↔ sK (m :: r) (j + 2) ≤ b + 1 + b / ((j : Int) + 1) := by
  have hm := h m List.mem_cons_self
  have st := sK_step hd (by omega) j
  have g := sK_ge (fun y hy => h y (List.mem_cons_of_mem _ hy)) (List.pairwise_cons.mp hd).2 j
  have tp : sK (m :: r) (j + 1) ≤ ((j + 1 : Nat) : Int) * m := sK_top (fun x hx => by
    rcases List.mem_cons.mp hx with rfl | hx
    · omega
    · exact (List.pairwise_cons.mp hd).1 x hx) (by omega) _
  rw [sK_cons] at h1 tp ⊢
  push_cast at tp
  generalize hD : sK r (j + 1) - sK r j = d at *
  have e2 : sK r (j + 1) = sK r j + d := by omega
  rw [e2] at st ⊢
  generalize sK r j = s at *
  have hp : (0 : Int) < (j : Int) + 1 := by omega
  have key : ∀ y : Int, y ≤ b / ((j : Int) + 1) ↔ y * ((j : Int) + 1) ≤ b := fun y => Int.le_ediv_iff_mul_le hp
  have ed : d * ((j : Int) + 1) = (j : Int) * d + d := by rw [Int.mul_add, Int.mul_comm d]; omega
  have em : m * ((j : Int) + 1) = ((j : Int) + 1) * m := Int.mul_comm _ _
  have kd := key d
  have km := key m
  rw [ed] at kd
  rw [em] at km
  constructor
  · intro q
    by_cases hdm : d = m
    · subst hdm
      rw [Int.add_mul] at km
      have : d ≤ b / ((j : Int) + 1) := km.mpr (by omega)
      omega
    · have : d ≤ b / ((j : Int) + 1) := kd.mpr (by omega)
      omega
  · intro q
    by_cases hq : m ≤ b / ((j : Int) + 1)
    · have := km.mp hq
      omega
    · omega
end Bb
end
section
set_option maxRecDepth 100000
set_option maxHeartbeats 200000
namespace Bb
theorem fits_keeper {m : Int} {r : List Int} {row : List Int} (h : ∀ x ∈ m :: r, 1 ≤ x) (hd : Desc (m :: r)) (hs : (m :: r).sum = (row.length : Int) + 1) : Fits (lowerM (m :: r) 0) row ↔ Fits (m :: r) (keeperM row) := by
  have hle := sK_le h
  have hm := h m List.mem_cons_self
  have lst : ∀ i, i = row.length → sK (m :: r) (i + 1) ≤ (countedM row).getD i 0 + 1 := fun i e => by
    subst e
    have := hle (row.length + 1)
    rw [counted_last]; omega
  have step : ∀ i, i < row.length → (sK (lowerM (m :: r) 0) (i + 1) ≤ row.getD i 0 ↔ sK (m :: r) (i + 1) ≤ (countedM row).getD i 0 + 1 ∧ sK (m :: r) (i + 2) ≤ (countedM row).getD i 0 + m) := fun i hi => by
    have k1 := hle (i + 1)
    have k2 := hle (i + 2)
    rw [sK_lower0 h hd, counted_at hi]
    omega
  constructor
  · intro f
    have all : ∀ i, i ≤ row.length → sK (m :: r) (i + 1) ≤ (countedM row).getD i 0 + 1 := fun i hi => by
      by_cases e : i < row.length
      · exact ((step i e).mp (f i e)).1
      · exact lst i (by omega)
    intro i hi
    rw [keeperM_len] at hi
    cases i with
    | zero => rw [keeper_0]; exact all 0 (by omega)
    | succ j =>
      have hj : j < row.length := by omega
      rw [keeper_s hj]
      have a1 := all (j + 1) (by omega)
      have a2 := (keeper_core h hd j (all j (by omega))).mp ((step j hj).mp (f j hj)).2
      unfold keeperAt
      have e : (countedM row).getD j 0 + 1 + (countedM row).getD j 0 / ((j : Int) + 1) = (countedM row).getD j 0 + 1 + (countedM row).getD j 0 / ((j : Int) + 1) := rfl
      exact Int.le_min.mpr ⟨a1, a2⟩
  · intro f
    have all : ∀ i, i ≤ row.length → sK (m :: r) (i + 1) ≤ (countedM row).getD i 0 + 1 := fun i hi => by
      cases i with
      | zero => have := f 0 (by rw [keeperM_len]; omega); rwa [keeper_0] at this
      | succ j =>
        have := f (j + 1) (by rw [keeperM_len]; omega)
        rw [keeper_s (by omega)] at this
        exact (Int.le_min.mp this).1
    intro i hi
    refine (step i hi).mpr ⟨all i (by omega), ?_⟩
    have := f (i + 1) (by rw [keeperM_len]; omega)
    rw [keeper_s hi] at this
    exact (keeper_core h hd i (all i (by omega))).mpr (Int.le_min.mp this).2
end Bb
end
section
set_option maxRecDepth 100000
set_option maxHeartbeats 200000
namespace Bb
theorem pullM_cons (b : Bool) (l : List Bool) : pullM (b :: l) = stepM b (pullM l) := by
  unfold pullM
  rw [List.foldl_reverse, List.foldl_reverse, List.foldr_cons]
theorem lower_desc (xs : List Int) (p : Nat) : Desc (lowerM xs p) := sortD_sorted _
theorem surv_fits : ∀ (l : List Bool) (xs : List Int), Good xs → Desc xs → (l.length : Int) = xs.sum → (survM xs l = true ↔ Fits xs (pullM l))
  | [], xs, _, _, _ => by
    have e : pullM [] = [] := rfl
    rw [e]
    constructor
    · intro _ i hi; exact absurd hi (by simp)
    · intro _; cases xs <;> rfl
  | b :: l, xs, h, hd, hs => by
    have hn : xs ≠ [] := fun z => by subst z; simp at hs; omega
    have hl := List.length_pos_iff.mpr hn
    rw [List.length_cons] at hs
    push_cast at hs
    have pl : (pullM l).length = l.length := pullM_len l
    rw [pullM_cons, surv_cons]
    cases b with
    | false =>
      obtain ⟨m, r, rfl⟩ : ∃ m r, xs = m :: r := by cases xs with | nil => exact absurd rfl hn | cons m r => exact ⟨m, r, rfl⟩
      have ih := surv_fits l (lowerM (m :: r) 0) (lower_good h hl) (lower_desc _ _) (by rw [lower_sum h.1 hl]; omega)
      show survM (lowerM (m :: r) 0) l = true ↔ Fits (m :: r) (keeperM (pullM l))
      rw [ih]
      exact fits_keeper h.1 hd (by rw [pl]; omega)
    | true =>
      show (match (if xs.length ≤ 1 then none else some (lowerM xs (xs.length - 1))) with | none => false | some ys => survM ys l) = true ↔ Fits xs (raiderM (pullM l))
      by_cases h1 : xs.length ≤ 1
      · rw [if_pos h1]
        obtain ⟨z, rfl⟩ : ∃ z, xs = [z] := List.length_eq_one_iff.mp (by omega)
        simp at hs
        exact ⟨fun q => (nomatch q), fun q => absurd q (raider_one (by rw [pl]; omega))⟩
      · rw [if_neg h1]
        have ih := surv_fits l (lowerM xs (xs.length - 1)) (lower_good h (by omega)) (lower_desc _ _) (by rw [lower_sum h.1 (by omega)]; omega)
        show survM (lowerM xs (xs.length - 1)) l = true ↔ _
        rw [ih]
        obtain ⟨r, z, rfl⟩ : ∃ r z, xs = r ++ [z] := ⟨xs.dropLast, xs.getLast hn, (List.dropLast_concat_getLast hn).symm⟩
        exact fits_raider h.1 hd (by rw [pl]; omega) (fun e => by subst e; simp at h1)
end Bb
end
section
set_option maxRecDepth 100000
set_option maxHeartbeats 4000000
namespace L2
open PySem PySem.Spec PyProof.Rows
/-- isinstance(e, (c1, c2, ..)), e the exception that the suite holds -/
def rIsET (K : PySem.W.Frag) (D a : Addr) : List V → Hp → VK → Prop := fun xs H Q => ∃ (tp : Addr) (cs : List V) (us : List Value) (b : Bool), xs = [.ref a, .ref tp] ∧ H tp = some (.tup cs) ∧ Paired ClsV cs us ∧ PySem.W.kitAny K (.ref D) us = some b ∧ Q (.bl b) H
theorem call_isET {X : Cx} {a D : Addr} {oe : Obj} {pn : List (Addr × Obj)} (C : ExcC X.K D) (hz : Zc (.ref D) none oe) (hf : ∃ vs, oe.data = .fields vs) : CallR (X.suite a ((a, oe) :: pn)) (.builtin "isinstance") (rIsET X.K D a) := by
  rintro pins s σ H xs us Q I r ⟨tp, cs, ws, b, rfl, tup, cls, any_, q⟩
  obtain ⟨u, v, rfl, ru, rv⟩ := vals2 r
  have eu : u = .ref a := ru
  have ev : v = .ref tp := rv
  subst eu ev
  have there : s.heap.get? a = some oe := (I.pin (a, oe) (by simp)).1
  have inst : PySem.W.InstAt s.heap a oe D none := by
    obtain ⟨c, d, dt, sl⟩ := oe
    obtain ⟨fields, hv⟩ := hf
    cases hz.1
    cases hz.2
    cases hv
    exact ⟨there, rfl, rfl, trivial⟩
  obtain ⟨_, items, same, o, get, oc, n, od⟩ := (I.hok tp _ tup : ObjOk X.prog X.w H s.heap tp (.tup cs))
  have items_ := ClsV.all cls same
  subst items_
  obtain ⟨c, d, dt, sl⟩ := o
  have oc : c = _ := oc
  have od : dt = _ := od
  subst oc od
  exact PySem.W.kia_tup (PySem.W.handS_kitx_exc C.hg C.hk C.hs C.hd C.ha C.hn C.ht C.hm) I.kIn inst get any_ (fun z => nomatch z) fun tk => ⟨.bl b, H, I.tok tk, rfl, q⟩
end L2
namespace Bb
open PySem PySem.Spec PyProof.Rows L2
def numD : Option Int → D
  | none => .tup [.str "lost"]
  | some n => .tup [.str "told", .int n]
section
variable {X : Cx} {a D : Addr} {oe : Obj} {pn : List (Addr × Obj)} {Δ : Dl} {ce : Expr} {cv : Value} {v : V} {b : Bool} {p pos : Pos} {x : Str}
/-- isinstance(e, C) in the suite that holds e -/
theorem ed_isE (C : ExcC X.K D) (hz : Zc (.ref D) none oe) (hf : ∃ vs, oe.data = .fields vs) {en : Expr} (he : Ed (X.suite a ((a, oe) :: pn)) Δ en (.raw a)) (hc : PE (X.suite a ((a, oe) :: pn)) ce (tC v)) (hu : ∀ u, RelV v u → u = cv) (hk : PySem.W.kitOne X.K (.ref D) cv = some b) (hm : X.mg "isinstance" = none) (hg : Gl X "isinstance")
    (he1 : starEach [en, ce] (X.suite a ((a, oe) :: pn)).env = (false, eval en (X.suite a ((a, oe) :: pn)).env) :: starEach [ce] (X.suite a ((a, oe) :: pn)).env := by rfl) (he2 : starEach [ce] (X.suite a ((a, oe) :: pn)).env = (false, eval ce (X.suite a ((a, oe) :: pn)).env) :: starEach [] (X.suite a ((a, oe) :: pn)).env := by rfl)
    (hpl : (backTo pos (starEach [ce] (X.suite a ((a, oe) :: pn)).env)).any (·.1) = false := by rfl) :
    Ed (X.suite a ((a, oe) :: pn)) Δ (.Call (.Name "isinstance" p) [en, ce] [] pos) (.bl b) := by
  intro S0 H0 S H σ A Q k
  refine WE.of (pe_callB (X := X.suite a ((a, oe) :: pn)) (call_isE (X := X) C hz hf) hg hm (by decide +kernel) (pa_cons WE.pe (pa_cons hc pa_nil he2) he1) (he := he1) (hpl := hpl)) ?_
  refine he S0 H0 S H σ A _ fun v1 S1 H1 l1 r1 => ?_
  exact ⟨v, cv, b, by rw [Rp.raw.mp r1], hu, hk, k _ S1 H1 l1 (Rp.bl.mpr rfl)⟩
/-- isinstance(e, (C1, C2)) -/
theorem ed_isET (C : ExcC X.K D) (hz : Zc (.ref D) none oe) (hf : ∃ vs, oe.data = .fields vs) {en c1 c2 : Expr} {j : Nat} {tp : Pos} {C1 C2 : Addr} (he : Ed (X.suite a ((a, oe) :: pn)) Δ en (.raw a)) (hc1 : PE (X.suite a ((a, oe) :: pn)) c1 (tC (.ref C1))) (hc2 : PE (X.suite a ((a, oe) :: pn)) c2 (tC (.ref C2)))
    (hk : PySem.W.kitAny X.K (.ref D) [.ref C1, .ref C2] = some b) (hm : X.mg "isinstance" = none) (hg : Gl X "isinstance")
    (he1 : starEach [en, .Tuple [c1, c2] j tp] (X.suite a ((a, oe) :: pn)).env = (false, eval en (X.suite a ((a, oe) :: pn)).env) :: starEach [.Tuple [c1, c2] j tp] (X.suite a ((a, oe) :: pn)).env := by rfl) (he2 : starEach [.Tuple [c1, c2] j tp] (X.suite a ((a, oe) :: pn)).env = (false, eval (.Tuple [c1, c2] j tp) (X.suite a ((a, oe) :: pn)).env) :: starEach [] (X.suite a ((a, oe) :: pn)).env := by rfl)
    (he3 : starEach [c1, c2] (X.suite a ((a, oe) :: pn)).env = (false, eval c1 (X.suite a ((a, oe) :: pn)).env) :: starEach [c2] (X.suite a ((a, oe) :: pn)).env := by rfl) (he4 : starEach [c2] (X.suite a ((a, oe) :: pn)).env = (false, eval c2 (X.suite a ((a, oe) :: pn)).env) :: starEach [] (X.suite a ((a, oe) :: pn)).env := by rfl)
    (hpl : (backTo pos (starEach [.Tuple [c1, c2] j tp] (X.suite a ((a, oe) :: pn)).env)).any (·.1) = false := by rfl) :
    Ed (X.suite a ((a, oe) :: pn)) Δ (.Call (.Name "isinstance" p) [en, .Tuple [c1, c2] j tp] [] pos) (.bl b) := by
  intro S0 H0 S H σ A Q k
  refine WE.of (pe_callB (X := X.suite a ((a, oe) :: pn)) (call_isET (X := X) C hz hf) hg hm (by decide +kernel) (pa_cons WE.pe (pa_cons (pe_tup (pa_cons hc1 (pa_cons hc2 pa_nil he4) he3)) pa_nil he2) he1) (he := he1) (hpl := hpl)) ?_
  refine he S0 H0 S H σ A _ fun v1 S1 H1 l1 r1 => ⟨by simp [sizeLine_eq], fun p hp => ?_⟩
  exact ⟨p, [.ref C1, .ref C2], [.ref C1, .ref C2], b, by rw [Rp.raw.mp r1], upd_same, .cons (.own C1) (.cons (.own C2) .nil), hk, k _ S1 _ (l1.trans (.hid l1.sub hp)) (Rp.bl.mpr rfl)⟩
end
section
variable {P : Program} {w : World} {K : PySem.W.Frag} {mg : Str → Option Value} {base : Heap}
theorem Txt.excC (T : Txt K mg) : ExcC K (nkC K) := by
  have h := (Bool.and_eq_true_iff.mp (Bool.and_eq_true_iff.mp T.says.2).2).1
  unfold excB at h
  simp only [Bool.and_eq_true] at h
  obtain ⟨⟨⟨⟨⟨⟨⟨h1, h2⟩, h3⟩, h4⟩, h5⟩, h6⟩, h7⟩, h8⟩ := h
  exact ⟨He.eqO_ok h1, He.eqO_ok h2, of_decide_eq_true h3, h4, He.eqO_ok h5, He.eqO_ok h6, of_decide_eq_true h7, of_decide_eq_true h8⟩
theorem Txt.isB (T : Txt K mg) : PySem.W.kitOne K (.ref (nkC K)) (.ref (nkC K)) = some true ∧ PySem.W.kitOne K (.ref (nkC K)) (.type "ValueError") = some true ∧ PySem.W.kitAny K (.ref (nkC K)) [.ref (He.ga K "OutOfRange"), .ref (He.ga K "WrongLength")] = some false := by
  have h := (Bool.and_eq_true_iff.mp (Bool.and_eq_true_iff.mp T.says.2).2).2
  unfold isB3 at h
  simp only [Bool.and_eq_true] at h
  obtain ⟨⟨h1, h2⟩, h3⟩ := h
  exact ⟨of_decide_eq_true h1, of_decide_eq_true h2, of_decide_eq_true h3⟩
theorem Txt.exm (T : Txt K mg) : PySem.W.exmOne K (.ref (nkC K)) (.ref (He.ga K "BoughError")) = some true := He.exm_ok (T.says.1.fact 70 (f := .exm "NotKept" "BoughError" true) rfl)
abbrev spNumber : Sp := spT (fun a : List Int × List Bool => [dI a.1, .str (wd a.2)]) (fun a => Good a.1 ∧ (a.2.length : Int) = a.1.sum) (fun a => .sh (numD (idxM a.1 a.2)))
abbrev XN (P : Program) (w : World) (K : PySem.W.Frag) (mg : Str → Option Value) (base : Heap) (cdv : Value) (A : Around) (outer : List Env) (s : Shared) (H : Hp) (E : XK) : Cx :=
  XF P w K mg base N_law_number (Str.ofString "_law_number") (defScope s_law_number) (He.ga K (Str.ofString "_law_number")) cdv A outer s H E
theorem fo_number (T : Txt K mg) (ci : ∃ fd, FnOk P w K mg base (L2.CX P w) 7 (He.ga K "index_of") fd ["sizes", "order"] (spIndex K) ∧ PySem.W.keepIn K (.ref (He.ga K "index_of")) = true ∧ Binds K fd ["sizes", "order"] []) : Cal P w K mg base 8 "_law_number" ["_law_sizes", "_law_order_here"] [] spNumber := by
  obtain ⟨fd, F⟩ := T.f_law_number
  obtain ⟨fi, Fi, ki, bi⟩ := ci
  refine cal_of F (def_ok F sc_law_number (fun _ => rfl) fun cdv A outer s H E hr a hp S0 Z kk hnx => ?_) T.g_law_number (fun _ _ _ _ _ _ us hl => match us, hl with | [_, _], _ => rfl)
  obtain ⟨xs, l⟩ := a
  obtain ⟨hg, hl⟩ := hp
  generalize hX : XF P w K mg base N_law_number (Str.ofString "_law_number") (defScope s_law_number) (He.ga K (Str.ofString "_law_number")) cdv A outer s H E = X
  refine go_cons fun S1 H1 σ A1 => ?_
  subst hX
  have nb : Names (XN P w K mg base cdv A outer s H E) "BoughError" (.ref (He.ga K "BoughError")) := ⟨rfl, by decide, .inl T.g_BoughError⟩
  refine WS.of (ps_try_as (i := 2) (c := .ref (He.ga K "BoughError")) (Wout := fun _ _ _ _ => False)
    (tb := fun W D σ H' => ∀ (pn : List (Addr × Obj)) (xe : Value → Shared → Prop), Takes ((XN P w K mg base cdv A outer s H E).tr pn xe) W → WSs ((XN P w K mg base cdv A outer s H E).tr pn xe) _ D σ H')
    (ts := fun a cls d D σ H' => ∀ (oe : Obj) (pn : List (Addr × Obj)), Zc cls d oe → (∃ vs, oe.data = .fields vs) → WSs ((XN P w K mg base cdv A outer s H E).suite a ((a, oe) :: pn)) _ D σ H')
    rfl rfl sc_law_number.nd rfl rfl nb takes0 (fun W pn xe tk po => ⟨fun pins s' σ' H' D I h => (h pn xe tk).out pins s' I⟩) (fun a oe cls d pn hz hf => ⟨fun pins s' σ' H' D I h => (h oe pn hz hf).out pins s' I⟩)) ?_
  intro pn xe tk
  refine WSs.of (pss_cons (ps_ret (pe_tup (pa_cons pe_str (pa_cons (pe_callS (X := (XN P w K mg base cdv A outer s H E).tr pn xe) (x := "index_of") Fi (hr.mono (by decide)) rfl T.g_index_of ki bi (fun σ => passAt tk σ) (pa_cons WE.pe (pa_cons WE.pe pa_nil))) pa_nil)))) pss_nil) ?_
  refine (ed_var (X := (XN P w K mg base cdv A outer s H E).tr pn xe) 0 : Ed _ _ _ (dI xs)) S0 H S1 H1 σ A1 _ fun v1 S2 H2 l2 r2 => ?_
  refine (ed_var (X := (XN P w K mg base cdv A outer s H E).tr pn xe) 1 : Ed _ _ _ (.str (wd l))) S0 H S2 H2 σ (A1.mono l2) _ fun v2 S3 H3 l3 r3 => ?_
  have A3 := (A1.mono l2).mono l3
  refine ⟨xs, l, S3, A3.sub, .cons (r2.mono l3.s) (.cons r3 .nil), hg, hl, fun n hn => ?_, fun hn S4 H4 l4 => ?_⟩
  · intro v S4 H4 l4 r4
    refine ⟨by simp [sizeLine_eq], fun p hp => ?_⟩
    have kq : Post S4 H4 (.sh (numD (idxM xs l))) Z.rt := kk.mono (A3.le.trans l4)
    rw [hn] at kq
    exact Post.newT l4.sub kq hp (.cons (Rp.str.mpr rfl) (.cons r4 .nil))
  · have A4 := A3.mono l4
    refine ⟨true, T.exm, fun _ a ha => ?_, fun q => nomatch q⟩
    intro oe pn2 hz hf
    have A5 := A4.set 2 (d := .raw a) (v := .ref a) (Rp.raw.mpr rfl)
    have kq : Post S0 H (.sh (numD (idxM xs l))) Z.rt := kk
    rw [hn] at kq
    have I1 := T.isB
    have tE := T.excC
    refine (show Go ((XN P w K mg base cdv A outer s H E).suite a ((a, oe) :: pn2)) S0 H _ _ [some (.sh (dI xs)), some (.sh (.str (wd l))), some (.sh (.raw a))] from ?_) S4 H4 _ A5
    refine go_if (t := true) (Et.to (Ew.et (ew_and (et_val (ed_isE tE hz hf (ed_var 2) (pe_glob (v := .ref (nkC K)) rfl T.g_NotKept rfl) (fun u hu => hu) I1.1 T.n_isinstance rfl)) fun _ => ew_and (et_val (ed_isE tE hz hf (ed_var 2) (pe_bltn (v := .ty "ValueError") rfl T.n_ValueError (by decide +kernel) rfl) (fun u hu => hu) I1.2.1 T.n_isinstance rfl)) fun _ => ew_and1 (et_not (et_val (ed_isET tE hz hf (ed_var 2) (pe_glob rfl T.g_OutOfRange rfl) (pe_glob rfl T.g_WrongLength rfl) I1.2.2 T.n_isinstance rfl))))) rfl) (fun _ => go_ret (ed_tup (ea_cons ed_str ea_nil)) kq) (fun h => nomatch h)
end
end Bb
end
section
set_option maxRecDepth 100000
set_option maxHeartbeats 4000000
namespace Bb
open PySem PySem.Spec PyProof.Rows L2
def numO : Option Int → D
  | none => .non
  | some n => .int n
section
variable {P : Program} {w : World} {K : PySem.W.Frag} {mg : Str → Option Value} {base : Heap}
structure PairOk (l : List Bool) (xs : List Int) (n : Option Int) : Prop where
  len : l.length ≤ 14
  good : Good xs
  sum : (l.length : Int) = xs.sum
  mem : decide (xs ∈ rowsOf l) = n.isSome
  idx : idxM xs l = n
  back : ∀ i, n = some i → 0 ≤ i ∧ i < cntL xs ∧ orderM xs.sum.toNat xs i = l
abbrev spPaired (K : PySem.W.Frag) : Sp := spT (fun a : List Bool × List Int × Option Int => [keptD (kC K) a.1, dI a.2.1, .str (wd a.1), numO a.2.2]) (fun a => PairOk a.1 a.2.1 a.2.2) (fun _ => .sh (.bl true))
theorem fo_paired (T : Txt K mg) (cc : Mth P w K mg base 1 "__contains__" ["self", "sizes"] (spCont K)) (cn : Cal P w K mg base 8 "_law_number" ["_law_sizes", "_law_order_here"] [] spNumber) (cl : ∀ n, Cal P w K mg base (n + 1) "_law_like" ["_law_actual", "_law_due"] [] (spLike n)) (ca : Cal P w K mg base 7 "order_at" ["sizes", "index"] [] spAt) : Cal P w K mg base 9 "_law_paired" ["_law_kept", "_law_sizes", "_law_order_here", "_law_number_here"] [] (spPaired K) := by
  obtain ⟨fd, F⟩ := T.f_law_paired
  refine cal_of F (def_ok F sc_law_paired (fun _ => rfl) fun cdv A outer s H E hr a hp S0 Z kk hnx => ?_) T.g_law_paired (fun _ _ _ _ _ _ us hl => match us, hl with | [_, _, _, _], _ => rfl)
  obtain ⟨l, xs, n⟩ := a
  have hu : (XF P w K mg base N_law_paired (Str.ofString "_law_paired") (defScope s_law_paired) (He.ga K (Str.ofString "_law_paired")) cdv A outer s H E).A.units + 64 < cLine := hr.units
  have hx : plain 1 (dI xs) := ⟨by rw [List.length_map]; have h14 : xs.length ≤ 14 := good_len hp.good; omega, fun d hd => by obtain ⟨i, _, rfl⟩ := List.mem_map.mp hd; trivial⟩
  refine go_set 4 (a := .sh (dI xs)) (ev_listL (ed_var 1) T.n_list).show ?_ sc_law_paired.nd
  refine go_if (t := false) (Et.to (et_neB (ed_inK (l := l) T cc (ed_var 4) (ed_var 0) hp.len (hr.mono (by decide))) (ed_notN (d := numO n) (ed_var 3))) (by rw [hp.mem]; cases n <;> rfl)) (fun h => nomatch h) (fun _ => go_nil (nx_go ?_))
  cases n with
  | none =>
    refine go_if (t := true) (Et.to (et_isN (d := .non) (ed_var 3)) rfl) (fun _ => ?_) (fun h => nomatch h)
    refine go_ret (ed_and (t := true) (ed_call (cl 1) (D.tup [.str "lost"]) (ea_cons (ed_call cn (xs, l) (ea_cons (ed_var 4) (ea_cons (ed_var 2) ea_nil)) ⟨hp.good, hp.sum⟩ (hr.mono (by decide)) (by show numD (idxM xs l) = _; rw [hp.idx]; rfl)) (ea_cons (ed_tup (ea_cons ed_str ea_nil)) ea_nil)) ⟨by decide, fun d hd => by rcases List.mem_singleton.mp hd with rfl; trivial⟩ (hr.mono (by decide))) fun _ => ed_one (ed_call (cl 1) (dI xs) (ea_cons (ed_var 4) (ea_cons (ed_var 1) ea_nil)) hx (hr.mono (by decide)))) kk
  | some n =>
    obtain ⟨b1, b2, b3⟩ := hp.back n rfl
    refine go_if (t := false) (Et.to (et_isN (d := .int n) (ed_var 3)) rfl) (fun h => nomatch h) (fun _ => go_nil (nx_go ?_))
    refine go_if (t := false) (Et.to (et_not (t := true) (et_val (ed_call (cl 1) (D.tup [.str "told", .int n]) (ea_cons (ed_call cn (xs, l) (ea_cons (ed_var 4) (ea_cons (ed_var 2) ea_nil)) ⟨hp.good, hp.sum⟩ (hr.mono (by decide)) (by show numD (idxM xs l) = _; rw [hp.idx]; rfl)) (ea_cons (ed_tup (ea_cons ed_str (ea_cons (ed_var 3) ea_nil))) ea_nil)) ⟨by simp, fun d hd => by rcases List.mem_cons.mp hd with rfl | hd; trivial; rcases List.mem_singleton.mp hd with rfl; trivial⟩ (hr.mono (by decide))))) rfl) (fun h => nomatch h) (fun _ => go_nil (nx_go ?_))
    refine go_ret (ed_and (t := true) (ed_call (cl 0) (D.str (wd l)) (ea_cons (ed_call ca (xs, n) (ea_cons (ed_var 4) (ea_cons (ed_var 3) ea_nil)) ⟨hp.good, b1, b2⟩ (hr.mono (by decide)) (by show D.str (wd (orderM xs.sum.toNat xs n)) = _; rw [b3])) (ea_cons (ed_var 2) ea_nil)) trivial (hr.mono (by decide))) fun _ => ed_one (ed_call (cl 1) (dI xs) (ea_cons (ed_var 4) (ea_cons (ed_var 1) ea_nil)) hx (hr.mono (by decide)))) kk
end
end Bb
end
section
set_option maxRecDepth 100000
set_option maxHeartbeats 4000000
namespace Bb
open PySem PySem.Spec PyProof.Rows L2
open Evl (Ex)
section
variable {P : Program} {w : World} {K : PySem.W.Frag} {mg : Str → Option Value} {base : Heap}
theorem tallyL_ne {xs : List Int} : ∃ c r, tallyL xs = c :: r := by
  have h := tallyL_len xs
  cases e : tallyL xs with
  | nil => rw [e] at h; simp at h
  | cons c r => exact ⟨c, r, rfl⟩
abbrev spCountedS : Sp := spG (fun a : Addr × Addr × List Int => [.la a.1 a.2.2, .la a.2.1 (tallyL a.2.2)]) (fun a => Good a.2.2) (fun a S H Q => (Lc S ∧ S a.1 = some (.lst (a.2.2.map V.int)) ∧ S a.2.1 = some (.lst ((tallyL a.2.2).map V.int))) ∧ Post S H (.sh (.bl true)) Q)
abbrev spCountedL : Sp := spT (fun xs : List Int => [dI xs, dI (tallyL xs)]) Good (fun _ => .sh (.bl true))
theorem fo_countedS (T : Txt K mg) (cr : Cal P w K mg base 6 "raid_counts" ["sizes"] [] spRaid) (co : Cal P w K mg base 7 "count_orders" ["sizes"] [] spCount) (cl : ∀ n, Cal P w K mg base (n + 1) "_law_like" ["_law_actual", "_law_due"] [] (spLike n)) : Cal P w K mg base 8 "_law_counted" ["_law_sizes", "_law_due"] [] spCountedS := by
  obtain ⟨fd, F⟩ := T.f_law_counted
  refine cal_of F (def_okG F sc_law_counted (fun _ => rfl) fun cdv A outer s H E hr a hp S0 Z hsb hq hnx => ?_) T.g_law_counted (fun _ _ _ _ _ _ us hl => match us, hl with | [_, _], _ => rfl)
  obtain ⟨a, b, xs⟩ := a
  obtain ⟨⟨hL, ha, hb⟩, kk⟩ := hq
  have hg : Good xs := hp
  have h14 := good_len hg
  have t15 := tallyL_le xs hg
  have hx : plain 1 (dI xs) := ⟨by rw [List.length_map]; omega, fun d hd => by obtain ⟨i, _, rfl⟩ := List.mem_map.mp hd; trivial⟩
  have ht : plain 1 (dI (tallyL xs)) := ⟨by rw [List.length_map]; omega, fun d hd => by obtain ⟨i, _, rfl⟩ := List.mem_map.mp hd; trivial⟩
  obtain ⟨c, r, htl⟩ := @tallyL_ne xs
  refine go_set 2 (a := .ol (xs.map .int)) (ev_listL (ed_la (ed_var 0)) T.n_list) ?_ sc_law_counted.nd
  refine go_showP 2 (xs := xs) rfl fun p hp0 hpn => ?_
  refine go_set 3 (ev_call (X := XF P w K mg base N_law_counted (Str.ofString "_law_counted") (defScope s_law_counted) (He.ga K (Str.ofString "_law_counted")) cdv A outer s H E) cr xs (ea_cons (ed_la (ed_var 2)) ea_nil) hg (hr.mono (by decide))) ?_ sc_law_counted.nd
  refine go_showP 3 (xs := tallyL xs) rfl fun q hq0 hqn => ?_
  have hpq : p ≠ q := hqn 2 p xs rfl
  refine go_if (t := false) (Et.to (Ew.et (ew_or (et_not (t := true) (et_val (ed_call (cl 1) (dI (tallyL xs)) (ea_cons (ed_la (ed_var 3)) (ea_cons (ed_la (ed_var 1)) ea_nil)) ht (hr.mono (by decide))))) fun _ => ew_or (et_not (t := true) (et_val (ed_call (cl 0) (D.int (cntL xs)) (ea_cons (ed_call co xs (ea_cons (ed_la (ed_var 2)) ea_nil) hg (hr.mono (by decide))) (ea_cons (ed_sum (ed_la (ed_var 1)) T.n_sum) ea_nil)) trivial (hr.mono (by decide))))) fun _ => ew_or1 (et_not (t := true) (et_val (ed_call (cl 1) (dI xs) (ea_cons (ed_la (ed_var 2)) (ea_cons (ed_la (ed_var 0)) ea_nil)) hx (hr.mono (by decide))))))) rfl) (fun h => nomatch h) (fun _ => go_nil (nx_go ?_))
  refine go_reset (Δ' := [some (.sh (.la a xs)), some (.sh (.la b (tallyL xs))), some (.ol (xs.map .int)), some (.ol ((tallyL xs).map .int))]) hsb hL rfl (fun i av e => ?_) (fun i j z ys zs hij e1 e2 => ?_) ?_
  · match i, e with
    | 0, e => cases e; exact ⟨_, rfl, .old ha⟩
    | 1, e => cases e; exact ⟨_, rfl, .old hb⟩
    | 2, e => cases e; exact ⟨_, rfl, .new hp0 (hsb.back hp0)⟩
    | 3, e => cases e; exact ⟨_, rfl, .new hq0 (hsb.back hq0)⟩
  · have na : H a ≠ none := fun q => by rw [hsb a _ ha] at q; cases q
    have nb : H b ≠ none := fun q => by rw [hsb b _ hb] at q; cases q
    match i, j, e1, e2 with
    | 0, _, e1, _ => cases e1; exact na
    | 1, _, e1, _ => cases e1; exact nb
    | _, 0, _, e2 => cases e2; exact na
    | _, 1, _, e2 => cases e2; exact nb
    | n + 4, _, e1, _ => cases e1
    | _, n + 4, _, e2 => cases e2
    | 2, 2, _, _ => exact absurd rfl hij
    | 3, 3, _, _ => exact absurd rfl hij
    | 2, 3, e1, e2 => cases e1; cases e2; exact absurd rfl hpq
    | 3, 2, e1, e2 => cases e1; cases e2; exact absurd rfl hpq
  refine go_app 3 (d := .int 1) (l := (tallyL xs).map .int) rfl ed_int (by rw [List.length_map]; omega) ?_
  refine go_setix 3 (d := .int (c + 1)) (l := (tallyL xs).map .int ++ [.int 1]) (j := 0) (m := 0) rfl (ed_add (ed_ixO 3 (l := (tallyL xs).map .int ++ [.int 1]) (j := 0) (d := .int c) rfl ed_int (atI_intN (j := 0) rfl (by rw [htl]; rfl))) ed_int) ed_int (by simp [ixN]) ?_
  refine go_app 2 (d := .int 1) (l := xs.map .int) rfl ed_int (by rw [List.length_map]; omega) ?_
  refine go_ret (ed_and (t := true) (ed_call (cl 1) (dI (tallyL xs)) (ea_cons (ed_call cr xs (ea_cons (ev_listL (ed_la (ed_var 0)) T.n_list).show ea_nil) hg (hr.mono (by decide))) (ea_cons (ed_la (ed_var 1)) ea_nil)) ht (hr.mono (by decide))) fun _ => ed_one (ed_call (cl 0) (D.int (cntL xs)) (ea_cons (ed_call co xs (ea_cons (ev_listL (ed_la (ed_var 0)) T.n_list).show ea_nil) hg (hr.mono (by decide))) (ea_cons (ed_sum (ed_la (ed_var 1)) T.n_sum) ea_nil)) trivial (hr.mono (by decide)))) kk
theorem fo_countedL (C : Cal P w K mg base 8 "_law_counted" ["_law_sizes", "_law_due"] [] spCountedS) : Cal P w K mg base 8 "_law_counted" ["_law_sizes", "_law_due"] [] spCountedL :=
  C.imp fun vs H Q E h => by
    obtain ⟨xs, S, e, r, hp, k⟩ := h
    obtain ⟨v, u, rfl, r1, r2⟩ : ∃ v u, vs = [v, u] ∧ Rp S (dI xs) v ∧ Rp S (dI (tallyL xs)) u := by
      simp only [RpL] at r
      obtain ⟨v, r', rfl, h1, u, r'', rfl, h2, rfl⟩ := r
      exact ⟨v, u, rfl, h1, h2⟩
    obtain ⟨a, rfl, ga⟩ := r1.dI
    obtain ⟨b, rfl, gb⟩ := r2.dI
    have ha := e _ _ ga
    have hb := e _ _ gb
    let S' : Hp := fun p => if p = a ∨ p = b then S p else none
    have hS : ∀ p o, S' p = some o → S p = some o ∧ (p = a ∨ p = b) := fun p o q => by
      show S p = some o ∧ _
      by_cases hh : p = a ∨ p = b
      · rw [show S' p = S p from if_pos hh] at q; exact ⟨q, hh⟩
      · rw [show S' p = none from if_neg hh] at q; cases q
    have lc : Lc S' := fun p o q => by
      obtain ⟨q1, rfl | rfl⟩ := hS p o q
      · rw [ga] at q1; cases q1; exact ⟨_, rfl⟩
      · rw [gb] at q1; cases q1; exact ⟨_, rfl⟩
    have sa : S' a = some (.lst (xs.map V.int)) := (if_pos (.inl rfl)).trans ga
    have sb : S' b = some (.lst ((tallyL xs).map V.int)) := (if_pos (.inr rfl)).trans gb
    have nm : ∀ p x, S' p ≠ some (.own x) := fun p x z => by obtain ⟨ys, q⟩ := lc p _ z; cases q
    refine ⟨(a, b, xs), S', ⟨fun p o q hu => e.ex p o (hS p o q).1 hu, fun p x z => absurd z (nm p x)⟩, .cons (Rp.la.mpr ⟨rfl, sa⟩) (.cons (Rp.la.mpr ⟨rfl, sb⟩) .nil), hp, ⟨lc, sa, sb⟩, fun w S1 H1 l1 r1 => ?_⟩
    have ex : Ex H H1 := fun p o q => by
      rcases l1.h p o q with z | ⟨⟨x, z⟩, _⟩
      · exact z
      · exact absurd z (nm p x)
    exact k w S H1 ⟨.refl _, fun p o q => .inl (ex p o q), ⟨fun p o q hu => ex p o (e.ex p o q hu), fun p x z => let ⟨hv, g, m⟩ := e.mem p x z; ⟨hv, ex p _ g, m⟩⟩, fun _ _ z _ _ => z⟩ (Rp.bl.mpr (Rp.bl.mp r1))
end
end Bb
end
section
set_option maxRecDepth 100000
set_option maxHeartbeats 4000000
namespace Bb
open PySem PySem.Spec PyProof.Rows L2
abbrev spBoth : Sp := spT (fun a : Nat × Nat × Int => [.int (a.1 : Int), .int (a.2.1 : Int), .int a.2.2]) (fun a => a.1 ≤ 6 ∧ a.2.1 ≤ a.1 ∧ 0 ≤ a.2.2) (fun _ => .sh (.bl true))
abbrev spLaw (K : PySem.W.Frag) : Sp := spT (fun a : Addr × List Int => [.sq K a.1 a.2]) (fun _ => True) (fun _ => .sh (.bl true))
def PairAll : Prop := ∀ (xs : List Int) (l : List Bool), Good xs → Desc xs → (l.length : Int) = xs.sum → PairOk l xs (if survM xs l then some (aheadM xs l) else none)
theorem find_K {l : List Bool} (h : Txt.contains (wd l) ("K" : Str) = true) : ∃ i : Nat, Txt.find (wd l) ("K" : Str) = (i : Int) ∧ i < l.length := by
  rcases PyProof.Rows.find_spec (wd l) ("K" : Str) with e | ⟨i, e, hi, _⟩
  · exfalso
    rcases PyProof.Rows.find_whole (wd l) ("K" : Str) with ⟨_, hn⟩ | ⟨i, e2, _⟩
    · unfold Txt.contains at h
      rcases StrLaws.occ_head (wd l) ("K" : Str) 1 (by decide) with ⟨h0, _⟩ | ⟨i, r, h0, hat, _⟩
      · rw [h0] at h; cases h
      · exact hn i hat
    · rw [e] at e2; omega
  · refine ⟨i, e, ?_⟩
    rw [wd_len] at hi
    have : ("K" : Str).length = 1 := rfl
    omega
theorem EvR.imp {X : Cx} {Δ : Dl} {e : Expr} {F G : Av → Prop} (h : EvR X Δ e F) (k : ∀ av, F av → G av) : EvR X Δ e G := fun S0 H0 S H σ A Q q => h S0 H0 S H σ A Q fun av hav => q av (k av hav)
theorem go_ifR {X : Cx} {S0 H0 : Hp} {Z : Ends} {Δ : Dl} {c e : Expr} {rest : List Stmt} {pos pa p : Pos} {x : Str} (i : Nat) {F : Av → Prop} {av0 : Av} {t : Bool} (h0 : Δ[i]? = some (some av0)) (hc : Et X Δ c t) (h2 : t = false → F av0) (he : t = true → EvR X Δ e F) (k : ∀ av, F av → Go X S0 H0 Z rest (Δ.set i (some av))) (hN : X.N.Nodup) (hi : X.N[i]? = some x := by rfl) (hx : Loc X.env.scope x := by first | exact Or.inl rfl | exact Or.inr rfl)
    (hs : swapsWith e (some (.Name x p)) pa.line X.env = pure false := by rfl) (hf : X.fn x = true ∨ X.env.scope.names.lookup x = some .local := by first | exact .inl rfl | exact .inr rfl) : Go X S0 H0 Z (.If c [.Assign [.Name x p] e pa] [] pos :: rest) Δ := by
  refine go_if hc (fun h => ?_) (fun h => ?_)
  · exact go_setR i (he h) (fun av hav => go_nil (nx_go (k av hav))) hN hi hx hs hf
  · have := k av0 (h2 h)
    rw [set_same h0] at this
    exact go_nil (nx_go this)
theorem go_ifJ {X : Cx} {S0 H0 : Hp} {Z : Ends} {Δ : Dl} {c : Expr} {body rest : List Stmt} {pos : Pos} {t : Bool} {β : Type} (Δs : β → Dl) (hc : Et X Δ c t) (k : ∀ b, Go X S0 H0 Z rest (Δs b)) (h2 : t = false → ∃ b, Wk Δ (Δs b)) (h1 : t = true → ∀ N, (∀ b, Nx S0 H0 N (Δs b)) → Go X S0 H0 { Z with nx := N } body Δ) : Go X S0 H0 Z (.If c body [] pos :: rest) Δ :=
  go_if hc (fun h => h1 h _ fun b => nx_go (k b)) (fun h => let ⟨b, w⟩ := h2 h; go_nil (nx_weak w (nx_go (k b))))
section
variable {P : Program} {w : World} {K : PySem.W.Frag} {mg : Str → Option Value} {base : Heap}
theorem fo_law (T : Txt K mg) (hP : PairAll) (c1 : Cal P w K mg base 1 "_law_cell" ["_law_script", "_law_k"] [] (spCell K)) (c2 : Cal P w K mg base 2 "_law_draws" ["_law_cell_here", "_law_menu"] [] spDraws) (c3 : Cal P w K mg base 25 "_law_both_ways" ["_law_turns", "_law_raiders", "_law_place"] [] spBoth)
    (c4 : Cal P w K mg base 3 "_law_list" ["_law_cell_here", "_law_total"] [] spList) (c5 : Cal P w K mg base 3 "_law_order" ["_law_cell_here", "_law_turns"] [] spOrder) (c6 : Cal P w K mg base 4 "_law_kept_order" ["_law_sizes", "_law_order_here", "_law_style"] [] spKept) (c7 : Cal P w K mg base 3 "_law_survives" ["_law_sizes", "_law_order_here"] [] spSurv)
    (c8 : Cal P w K mg base 18 "_law_ahead" ["_law_sizes", "_law_order_here"] [] spAhead) (c9 : Cal P w K mg base 8 "_law_counted" ["_law_sizes", "_law_due"] [] spCountedL) (c10 : Cal P w K mg base 17 "_law_tally" ["_law_sizes", "_law_known"] [] (spTally 14)) (c11 : Cal P w K mg base 9 "_law_paired" ["_law_kept", "_law_sizes", "_law_order_here", "_law_number_here"] [] (spPaired K))
    (mi : Mth P w K mg base 5 "__init__" ["self", "order"] (spInit K)) {fd : FuncData} (F : FunD K "law" "law" (defArgs s_law) (defBody s_law) (defScope s_law) [] [] (He.ga K "law") fd) : FnOk P w K mg base CX0 40 (He.ga K "law") fd ["_law_script"] (spLaw K) := by
  refine def_ok F sc_law (fun _ => rfl) fun cdv A outer s H E hr a hp S0 Z kk hnx => ?_
  obtain ⟨a, ns⟩ := a
  have m1 : ∀ c, MenuOk (c, [8, 6, 420, 60]) := fun c => ⟨by show 4 ≤ 1000; decide, fun x hx => by simp at hx; omega⟩
  have m2 : ∀ c, MenuOk (c, [15, 4]) := fun c => ⟨by show 2 ≤ 1000; decide, fun x hx => by simp at hx; omega⟩
  have hd1 : ∀ {c : Int} {j : Nat} {m : Int}, _ → _ := fun {c j m} h => drawsM_bd (c := c) (menu := [8, 6, 420, 60]) (fun m hm => ((m1 0).pos m hm).1) (j := j) (m := m) h
  have hd2 : ∀ {c : Int} {j : Nat} {m : Int}, _ → _ := fun {c j m} h => drawsM_bd (c := c) (menu := [15, 4]) (fun m hm => ((m2 0).pos m hm).1) (j := j) (m := m) h
  refine go_set 1 (a := .sh (dI (drawsM (cellM ns 0) [8, 6, 420, 60]))) (ed_call c2 (cellM ns 0, [8, 6, 420, 60]) (ea_cons (ed_call c1 (a, ns, 0) (ea_cons (ed_var 0) (ea_cons ed_int ea_nil)) (show (0 : Nat) ≤ 1000 by decide) (hr.mono (by decide))) (ea_cons (Ed.to (ev_lst (ea_cons ed_int (ea_cons ed_int (ea_cons ed_int (ea_cons ed_int ea_nil))))).lst rfl) ea_nil)) (m1 _) (hr.mono (by decide))) ?_ sc_law.nd
  obtain ⟨h0a, h0b, h0c⟩ := hd1 (c := cellM ns 0) (j := 0) (m := 8) rfl
  obtain ⟨h1a, h1b, h1c⟩ := hd1 (c := cellM ns 0) (j := 1) (m := 6) rfl
  obtain ⟨h2a, h2b, h2c⟩ := hd1 (c := cellM ns 0) (j := 2) (m := 420) rfl
  obtain ⟨h3a, h3b, h3c⟩ := hd1 (c := cellM ns 0) (j := 3) (m := 60) rfl
  generalize drawsM (cellM ns 0) [8, 6, 420, 60] = hd at *
  have a0 : atI (hd.map D.int) 0 = some (.int (hd.getD 0 0)) := atI_intN (j := 0) rfl (by rw [List.getElem?_map, h0a]; rfl)
  have a1 : atI (hd.map D.int) 1 = some (.int (hd.getD 1 0)) := atI_intN (j := 1) rfl (by rw [List.getElem?_map, h1a]; rfl)
  have a2 : atI (hd.map D.int) 2 = some (.int (hd.getD 2 0)) := atI_intN (j := 2) rfl (by rw [List.getElem?_map, h2a]; rfl)
  have a3 : atI (hd.map D.int) 3 = some (.int (hd.getD 3 0)) := atI_intN (j := 3) rfl (by rw [List.getElem?_map, h3a]; rfl)
  generalize hd.getD 0 0 = g0 at *
  generalize hd.getD 1 0 = g1 at *
  generalize hd.getD 2 0 = g2 at *
  generalize hd.getD 3 0 = g3 at *
  refine go_set 2 (a := .sh (.int g1)) (ed_ixL (ed_var 1) ed_int a1) ?_ sc_law.nd
  refine go_ifs 2 D.int (v0 := g1) (v1 := 6) rfl (et_eqI (ed_ixL (ed_var 1) ed_int a0) ed_int) (fun _ => ed_int) ?_ sc_law.nd
  obtain ⟨t, ht, ht6⟩ : ∃ t : Nat, (if decide (g0 = 1) = true then (6 : Int) else g1) = (t : Int) ∧ t ≤ 6 := by
    by_cases h : decide (g0 = 1) = true
    · exact ⟨6, by rw [if_pos h]; rfl, by decide⟩
    · exact ⟨g1.toNat, by rw [if_neg h]; omega, by omega⟩
  rw [ht]
  have hmod := Int.emod_nonneg g2 (show (t : Int) + 1 ≠ 0 by omega)
  have hmod2 := Int.emod_lt_of_pos g2 (show 0 < (t : Int) + 1 by omega)
  refine go_if (t := false) (Et.to (et_not (t := true) (et_val (ed_call c3 (t, (g2 % ((t : Int) + 1)).toNat, g3) (ea_cons (ed_var 2) (ea_cons (Ed.to (ed_mod (ed_intI (ed_ixL (ed_var 1) ed_int a2) T.n_int) (ed_add (ed_var 2) ed_int) (by omega)) (by show D.int _ = D.int (((g2 % ((t : Int) + 1)).toNat : Nat) : Int); rw [Int.toNat_of_nonneg hmod])) (ea_cons (ed_ixL (ed_var 1) ed_int a3) ea_nil))) ⟨ht6, by show (g2 % ((t : Int) + 1)).toNat ≤ t; omega, h3b⟩ (hr.mono (by decide))))) rfl) (fun h => nomatch h) (fun _ => go_nil (nx_go ?_))
  refine go_set 3 (a := .sh (dI (drawsM (cellM ns 1) [15, 4]))) (ed_call c2 (cellM ns 1, [15, 4]) (ea_cons (ed_call c1 (a, ns, 1) (ea_cons (ed_var 0) (ea_cons ed_int ea_nil)) (show (1 : Nat) ≤ 1000 by decide) (hr.mono (by decide))) (ea_cons (Ed.to (ev_lst (ea_cons ed_int (ea_cons ed_int ea_nil))).lst rfl) ea_nil)) (m2 _) (hr.mono (by decide))) ?_ sc_law.nd
  obtain ⟨t0a, t0b, t0c⟩ := hd2 (c := cellM ns 1) (j := 0) (m := 15) rfl
  obtain ⟨t1a, t1b, t1c⟩ := hd2 (c := cellM ns 1) (j := 1) (m := 4) rfl
  generalize drawsM (cellM ns 1) [15, 4] = tl at *
  have b0 : atI (tl.map D.int) 0 = some (.int (tl.getD 0 0)) := atI_intN (j := 0) rfl (by rw [List.getElem?_map, t0a]; rfl)
  have b1 : atI (tl.map D.int) 1 = some (.int (tl.getD 1 0)) := atI_intN (j := 1) rfl (by rw [List.getElem?_map, t1a]; rfl)
  generalize tl.getD 0 0 = u0 at *
  generalize tl.getD 1 0 = u1 at *
  obtain ⟨n, hn, hn14⟩ : ∃ n : Nat, (14 : Int) - u0 = (n : Int) ∧ n ≤ 14 := ⟨(14 - u0).toNat, by omega, by omega⟩
  refine go_setR 4 (evr_call c4 (cellM ns 2, n) (ea_cons (ed_call c1 (a, ns, 2) (ea_cons (ed_var 0) (ea_cons ed_int ea_nil)) (show (2 : Nat) ≤ 1000 by decide) (hr.mono (by decide))) (ea_cons (Ed.to (ed_sub ed_int (ed_ixL (ed_var 3) ed_int b0)) (by rw [hn])) ea_nil)) hn14 (hr.mono (by decide))) (fun av hav => ?_) sc_law.nd
  obtain ⟨xs, rfl, x1, x2, x3⟩ := hav
  have x2 : xs.sum = (n : Int) := x2
  have hg : Good xs := ⟨x1, by rw [x2]; omega⟩
  refine go_show 4 rfl ?_
  refine go_setR 5 (evr_call c5 (cellM ns 3, n) (ea_cons (ed_call c1 (a, ns, 3) (ea_cons (ed_var 0) (ea_cons ed_int ea_nil)) (show (3 : Nat) ≤ 1000 by decide) (hr.mono (by decide))) (ea_cons (Ed.to (ed_sub ed_int (ed_ixL (ed_var 3) ed_int b0)) (by rw [hn])) ea_nil)) hn14 (hr.mono (by decide))) (fun av hav => ?_) sc_law.nd
  obtain ⟨l0, rfl, y1⟩ := hav
  have y1 : l0.length = n := y1
  refine go_ifR 5 (F := fun av => ∃ l : List Bool, av = .sh (.str (wd l)) ∧ l.length = n) rfl (et_gt (ed_ixL (ed_var 3) ed_int b1) ed_int) (fun _ => ⟨l0, rfl, y1⟩) (fun _ => ?_) (fun av hav => ?_) sc_law.nd
  · refine EvR.imp (evr_call c6 (xs, l0, if decide (1 < u1) then 1 else 0) (ea_cons (ed_var 4) (ea_cons (ed_var 5) (ea_cons (ed_intB (ed_gt (ed_ixL (ed_var 3) ed_int b1) ed_int) T.n_int) ea_nil))) ⟨hg, by show (l0.length : Int) ≤ xs.sum; omega⟩ (hr.mono (by decide))) fun av h => ?_
    obtain ⟨l, rfl, h⟩ := h
    exact ⟨l, rfl, h.trans y1⟩
  obtain ⟨l1, rfl, z1⟩ := hav
  refine go_ifJ (β := { l : List Bool // l.length = n }) (fun l => [some (.sh (.sq K a ns)), some (.sh (dI hd)), some (.sh (.int (t : Int))), some (.sh (dI tl)), some (.sh (dI xs)), some (.sh (.str (wd l.1))), none, none]) (Ew.et (ew_and (et_eqI (ed_ixL (ed_var 3) ed_int b1) ed_int) fun _ => ew_and1 (et_inS ed_str (ed_var 5)))) (fun l => ?_) (fun _ => ⟨⟨l1, z1⟩, .refl _⟩) (fun h N hN => ?_)
  · obtain ⟨l, hl⟩ := l
    have hsum : (l.length : Int) = xs.sum := by rw [x2, hl]
    have pk := hP xs l hg x3 hsum
    refine go_set 7 (a := .sh .non) ed_non ?_ sc_law.nd
    refine go_ifs 7 numO (v0 := none) (v1 := some (aheadM xs l)) (t := survM xs l) rfl (et_val (ed_call c7 (xs, l) (ea_cons (ed_var 4) (ea_cons (ed_var 5) ea_nil)) ⟨hg, by show (l.length : Int) ≤ xs.sum; omega⟩ (hr.mono (by decide)))) (fun h => ed_call c8 (xs, l) (ea_cons (ed_var 4) (ea_cons (ed_var 5) ea_nil)) ⟨hg, by show (l.length : Int) ≤ xs.sum; omega, h⟩ (hr.mono (by decide))) ?_ sc_law.nd
    have hn14' : l.length ≤ 14 := by omega
    refine go_if (t := false) (Et.to (et_not (t := true) (et_val (ed_call c9 xs (ea_cons (ed_var 4) (ea_cons (ed_call c10 xs (ea_cons (ed_var 4) (ea_cons ed_mnew ea_nil)) ⟨hg, by show xs.sum ≤ ((14 : Nat) : Int); omega⟩ (hr.mono (by decide))) ea_nil)) hg (hr.mono (by decide))))) rfl) (fun h => nomatch h) (fun _ => go_nil (nx_go ?_))
    refine go_ret (ed_call c11 (l, xs, if survM xs l then some (aheadM xs l) else none) (ea_cons (ed_make T mi (ed_var 5) hn14' (hr.mono (by decide))) (ea_cons (ed_var 4) (ea_cons (ed_var 5) (ea_cons (ed_var 7) ea_nil)))) pk (hr.mono (by decide))) kk
  · obtain ⟨i, hf, hi⟩ := find_K (l := l1) (by simp only [Bool.and_eq_true] at h; exact h.2)
    refine go_set 6 (a := .sh (.int (i : Int))) (Ed.to (ed_find (ed_var 5) ed_str) (by rw [hf])) ?_ sc_law.nd
    have hl : (l1.take i ++ [true] ++ l1.drop (i + 1)).length = n := by simp; omega
    refine go_set 5 (a := .sh (.str (wd (l1.take i ++ [true] ++ l1.drop (i + 1))))) ?_ ?_ sc_law.nd
    · refine Ed.to (ed_cat (i := wd (l1.take i ++ [true])) (j := wd (l1.drop (i + 1))) (Ed.to (ed_cat (i := wd (l1.take i)) (j := wd [true]) (Ed.to (ed_slS (ed_var 5) .none (.some (ed_var 6)) (by rw [wd_len]; omega)) (by rw [cutS_lo])) ed_str (by rw [wd_len, wd_len, List.length_take, List.length_singleton]; omega)) (by rw [wd_app])) (Ed.to (ed_slS (ed_var 5) (.some (i := ((i + 1 : Nat) : Int)) (Ed.to (ed_add (ed_var 6) ed_int) (by push_cast; rfl))) .none (by rw [wd_len]; omega)) (by rw [cutS_hi])) (by rw [wd_len, wd_len]; simp; omega)) (by rw [wd_app])
    exact go_nil (nx_weak (.keep (.keep (.keep (.keep (.keep (.keep (.skip (.keep .nil)))))))) (hN ⟨_, hl⟩))
end
end Bb
end
section
set_option maxRecDepth 100000
set_option maxHeartbeats 200000
namespace Bb
theorem listsF_snoc (t : Int) (bs : List Int) (b : Int) : listsF t (bs ++ [b]) = (listsF t bs).flatMap fun w => grownM w b t := by
  unfold listsF
  rw [List.foldl_append]; rfl
theorem grown_fit {w : List Int} {b t : Int} {v : List Int} (h : v ∈ grownM w b t) : (v = w ∧ w.sum = t ∧ t ≤ b) ∨ (w.sum ≠ t ∧ ∃ e : Int, v = w ++ [e] ∧ w.sum + e ≤ b) := by
  unfold grownM at h
  split at h
  · rename_i e
    split at h
    · rename_i e2
      simp at h; exact .inl ⟨h, e, e2⟩
    · simp at h
  · rename_i e
    obtain ⟨k, hk, rfl⟩ := List.mem_map.mp h
    refine .inr ⟨e, _, rfl, ?_⟩
    have : mostM w b t ≤ min b t - w.sum := by unfold mostM; split <;> omega
    omega
theorem mem_grown {w : List Int} {b t e : Int} (hs : w.sum ≠ t) (h1 : 1 ≤ e) (h2 : e ≤ mostM w b t) : w ++ [e] ∈ grownM w b t := by
  unfold grownM
  rw [if_neg hs]
  refine List.mem_map.mpr ⟨(mostM w b t - e).toNat, List.mem_range.mpr (by omega), ?_⟩
  have : mostM w b t - ((mostM w b t - e).toNat : Int) = e := by omega
  rw [this]
theorem take_snoc {bs : List Int} {i : Nat} (h : i < bs.length) : bs.take (i + 1) = bs.take i ++ [bs.getD i 0] := by
  rw [List.take_succ, List.getElem?_eq_getElem h]
  simp [List.getD, h]
/-- what is listed fits -/
theorem lists_fit (t : Int) (ht : 0 ≤ t) (bs : List Int) : ∀ i, i ≤ bs.length → ∀ w ∈ listsF t (bs.take i), ∀ j, j < i → sK w (j + 1) ≤ bs.getD j 0
  | 0, _, w, _, j, hj => absurd hj (Nat.not_lt_zero j)
  | i + 1, hi, v, hv, j, hj => by
    rw [take_snoc (by omega), listsF_snoc] at hv
    obtain ⟨w, hw, hv⟩ := List.mem_flatMap.mp hv
    have ok := (listsF_ok t ht (bs.take i)).all w hw
    rw [List.length_take, show min i bs.length = i by omega] at ok
    obtain ⟨o1, o2, o3, o4⟩ := ok
    have ih := lists_fit t ht bs i (by omega) w hw
    rcases grown_fit hv with ⟨rfl, g1, g2⟩ | ⟨g1, e, rfl, g2⟩
    · by_cases hji : j < i
      · exact ih j hji
      · have : j = i := by omega
        subst this
        rw [sK_all (by omega)]; omega
    · have hl := o4 g1
      by_cases hji : j < i
      · have := ih j hji
        rw [sK_app, show j + 1 - w.length = 0 by omega, sK_zero]; omega
      · have : j = i := by omega
        subst this
        rw [sK_all (by simp; omega), List.sum_append]; simpa using g2
/-- what fits is listed -/
theorem fit_lists {xs bs : List Int} (h : ∀ x ∈ xs, 1 ≤ x) (hd : Desc xs) (hf : ∀ j, j < bs.length → sK xs (j + 1) ≤ bs.getD j 0) : ∀ i, i ≤ bs.length → xs.take i ∈ listsF xs.sum (bs.take i)
  | 0, _ => by simp [listsF]
  | i + 1, hi => by
    have ih := fit_lists h hd hf i (by omega)
    have hfi := hf i (by omega)
    rw [take_snoc (show i < bs.length by omega), listsF_snoc]
    refine List.mem_flatMap.mpr ⟨xs.take i, ih, ?_⟩
    by_cases hl : i < xs.length
    · have e1 : xs.take (i + 1) = xs.take i ++ [xs.getD i 0] := take_snoc hl
      have hm : xs.getD i 0 ∈ xs := getD_mem hl
      have hx := h _ hm
      have hsum : (xs.take (i + 1)).sum ≤ xs.sum := sK_le h (i + 1)
      have hb : (xs.take (i + 1)).sum ≤ bs.getD i 0 := hfi
      rw [e1, List.sum_append] at hsum hb
      simp only [List.sum_cons, List.sum_nil, Int.add_zero] at hsum hb
      rw [e1]
      refine mem_grown (by omega) hx ?_
      unfold mostM
      split
      · omega
      · rename_i hne
        have hpos := List.length_pos_iff.mpr hne
        rw [List.length_take, show min i xs.length = i by omega] at hpos ⊢
        have e2 : (xs.take i).getD (i - 1) 0 = xs.getD (i - 1) 0 := by
          simp [List.getD, List.getElem?_take, show i - 1 < i by omega]
        have e3 : xs.getD i 0 ≤ xs.getD (i - 1) 0 := by
          have := (List.pairwise_iff_getElem.mp hd) (i - 1) i (by omega) hl (by omega)
          simp [List.getD, hl, show i - 1 < xs.length by omega]
          exact this
        rw [e2]; omega
    · have e1 : xs.take (i + 1) = xs := List.take_of_length_le (by omega)
      have e2 : xs.take i = xs := List.take_of_length_le (by omega)
      rw [e1, e2]
      unfold grownM
      rw [sK_all (by omega)] at hfi
      rw [if_pos rfl, if_pos hfi]; simp
theorem mem_lists {xs row : List Int} (h : ∀ x ∈ xs, 1 ≤ x) (hd : Desc xs) (hs : xs.sum = (row.length : Int)) : xs ∈ listsM row ↔ Fits xs row := by
  have hlen := sum_pos h
  have et : row.take row.length = row := List.take_length
  unfold listsM
  constructor
  · intro q j hj
    have := lists_fit (row.length : Int) (by omega) row row.length (Nat.le_refl _) xs (by rw [et]; exact q)
    exact this j hj
  · intro f
    have := fit_lists h hd (bs := row) f row.length (Nat.le_refl _)
    rw [et, hs, List.take_of_length_le (by omega)] at this
    exact this
theorem mem_rows {xs : List Int} {l : List Bool} (h : Good xs) (hd : Desc xs) (hs : (l.length : Int) = xs.sum) : xs ∈ rowsOf l ↔ survM xs l = true := by
  rw [surv_fits l xs h hd hs]
  exact mem_lists h.1 hd (by rw [pullM_len, hs])
theorem pair_all : PairAll := fun xs l h hd hs => by
  refine ⟨by have := h.2; omega, h, hs, ?_, idx_ahead l xs h hs, fun i e => ?_⟩
  · have m := mem_rows h hd hs
    cases q : survM xs l with
    | true => rw [q] at m; simp [m.mpr rfl]
    | false =>
      rw [q] at m
      have : ¬ xs ∈ rowsOf l := fun z => nomatch m.mp z
      simp [this]
  · cases q : survM xs l with
    | false => rw [q] at e; cases e
    | true =>
      rw [q] at e
      cases e
      exact ahead_bd l xs h hs q
end Bb
end
section
set_option maxRecDepth 100000
set_option maxHeartbeats 4000000
/-! K1: all orders of at most six turns, counted by the kernel. -/
namespace Bb
abbrev listsT (t : Nat) : List (List Int) := allM t (t : Int) (t : Int)
abbrev waysT (t : Nat) (xs : List Int) : List (List Bool) := waysM xs (wordsM t)
abbrev chosenT (t r : Nat) : List (List Bool) := (wordsM t).filter fun l => decide (cntR l = r)
theorem k_good : ∀ t ∈ List.range 7, ∀ xs ∈ listsT t, ((∀ x ∈ xs, 1 ≤ x) ∧ xs.sum = (t : Int)) ∧ xs.Pairwise (· ≥ ·) := by decide +kernel
theorem k_tally : ∀ t ∈ List.range 7, ∀ xs ∈ listsT t, tallyL xs = rowM (waysT t xs) t ∧ cntL xs = ((waysT t xs).length : Int) := by decide +kernel
theorem k_rows : ∀ t ∈ List.range 7, ∀ l ∈ wordsM t, rowsOf l = (listsT t).filter fun xs => decide (l ∈ waysT t xs) := by decide +kernel
theorem k_num : ∀ t ∈ List.range 7, ∀ xs ∈ listsT t, ∀ l ∈ wordsM t, (if decide (l ∈ waysT t xs) = true then some (((waysT t xs).findIdx fun m => decide (m = l) : Nat) : Int) else none) = if survM xs l then some (aheadM xs l) else none := by decide +kernel
theorem k_sums : ∀ t ∈ List.range 7, ∀ r ∈ List.range (t + 1), ((chosenT t r).map fun l => (((rowsOf l).length : Nat) : Int)).sum = ((listsT t).map fun xs => (tallyL xs).getD r 0).sum ∧ (chosenT t r).isEmpty = false := by decide +kernel
end Bb
end
section
set_option maxRecDepth 100000
set_option maxHeartbeats 4000000
namespace Bb
open PySem PySem.Spec PyProof.Rows L2
def scOf : Option Stmt → Scope
  | some (.Assign _ (.ListComp _ _ sc _) _) => sc
  | _ => defScope s_law_both_ways
/-- the inner block's scope -/
def inScOf : Option Stmt → Scope
  | some (.Assign _ (.ListComp (.Call _ [.ListComp _ _ sc _] _ _) _ _ _) _) => sc
  | _ => defScope s_law_both_ways
def inSc : Scope := inScOf ((defBody s_law_both_ways)[6]?)
theorem wd_inj {l m : List Bool} (h : wd l = wd m) : l = m := by
  have h1 := congrArg (fun s : Str => s.cps.toList) h
  simp only [wd] at h1
  exact (List.map_inj_right (f := fun b : Bool => if b then 82 else 75) (fun a b e => by cases a <;> cases b <;> simp_all)).mp h1
theorem wd_mem (l : List Bool) (ws : List (List Bool)) : decide (wd l ∈ ws.map wd) = decide (l ∈ ws) :=
  decide_eq_decide.mpr ⟨fun h => by
    obtain ⟨m, hm, e⟩ := List.mem_map.mp h
    exact wd_inj e ▸ hm, fun h => List.mem_map_of_mem h⟩
theorem wd_idx (l : List Bool) : ∀ ws : List (List Bool), (ws.map wd).findIdx (fun z => decide (z = wd l)) = ws.findIdx fun m => decide (m = l)
  | [] => rfl
  | m :: ws => by
    have e : decide (wd m = wd l) = decide (m = l) := decide_eq_decide.mpr ⟨wd_inj, fun h => h ▸ rfl⟩
    rw [List.map_cons, List.findIdx_cons, List.findIdx_cons, e, wd_idx l ws]
theorem findIdx_in {l : List Bool} : ∀ {ws : List (List Bool)}, l ∈ ws → (ws.findIdx fun m => decide (m = l)) < ws.length := fun h => List.findIdx_lt_length_of_exists ⟨l, h, by simp⟩
theorem range_filter {α β : Type} (p : α → Bool) (f : α → β) (d : α) (L : List α) : ((List.range L.length).filter fun i => p (L.getD i d)).map (fun i => f (L.getD i d)) = (L.filter p).map f := by
  have e : L = (List.range L.length).map fun i => L.getD i d := by
    apply List.ext_getElem
    · simp
    · intro i h1 h2; simp [List.getD, h1]
  conv => rhs; rw [e]
  rw [List.filter_map, List.map_map]; rfl
theorem sumL_snoc (f : List Int → Int) {L : List (List Int)} {i : Nat} {xs : List Int} (h : L[i]? = some xs) : ((L.take (i + 1)).map f).sum = ((L.take i).map f).sum + f xs := by
  rw [List.take_succ, h, List.map_append, List.sum_append]; simp
section
variable {P : Program} {w : World} {K : PySem.W.Frag} {mg : Str → Option Value} {base : Heap}
theorem fo_both (T : Txt K mg) (hP : PairAll) (c1 : ∀ n, Cal P w K mg base (n + 1) "_law_all_lists" ["_law_total", "_law_most"] [] (spAll n)) (c2 : Cal P w K mg base 1 "_law_words" ["_law_turns"] [] spWords) (c3 : Cal P w K mg base 4 "_law_ways" ["_law_sizes", "_law_words_here"] [] spWays)
    (c4 : Cal P w K mg base 6 "raid_counts" ["sizes"] [] spRaid) (c5 : ∀ n, Cal P w K mg base (n + 1) "_law_like" ["_law_actual", "_law_due"] [] (spLike n)) (c6 : Cal P w K mg base 1 "_law_row" ["_law_ways_here", "_law_turns"] [] spRow) (c7 : Cal P w K mg base 7 "count_orders" ["sizes"] [] spCount)
    (mi : Mth P w K mg base 5 "__init__" ["self", "order"] (spInit K)) (mt : Mth P w K mg base 1 "total" ["self"] (spTotal K)) (mit : ∀ n, Mth P w K mg base 1 "__iter__" ["self"] (spIterO (kC K) n))
    (c8 : Cal P w K mg base 9 "_law_paired" ["_law_kept", "_law_sizes", "_law_order_here", "_law_number_here"] [] (spPaired K)) : Cal P w K mg base 25 "_law_both_ways" ["_law_turns", "_law_raiders", "_law_place"] [] spBoth := by
  obtain ⟨fd, F⟩ := T.f_law_both_ways
  refine cal_of F (def_ok F sc_law_both_ways (fun _ => rfl) fun cdv A outer s H E hr a hp S0 Z kk hnx => ?_) T.g_law_both_ways (fun _ _ _ _ _ _ us hl => match us, hl with | [_, _, _], _ => rfl)
  obtain ⟨t, r, place⟩ := a
  obtain ⟨ht, hrt, hpl⟩ := hp
  have ht : t ≤ 6 := ht
  have hrt : r ≤ t := hrt
  have hpl : 0 ≤ place := hpl
  have tm : t ∈ List.range 7 := List.mem_range.mpr (by omega)
  have nd := sc_law_both_ways.nd
  have gd : ∀ xs ∈ listsT t, Good xs ∧ Desc xs ∧ xs.sum = (t : Int) := fun xs hx => by
    obtain ⟨⟨h1, h2⟩, h3⟩ := k_good t tm xs hx
    exact ⟨⟨h1, by omega⟩, h3, h2⟩
  have ktal := k_tally t tm
  have krow := k_rows t tm
  have knum := k_num t tm
  obtain ⟨ksum, kne⟩ := k_sums t tm r (List.mem_range.mpr (by omega))
  have wl : ∀ l ∈ wordsM t, l.length = t := wordsM_mem t
  have hW : (wordsM t).length ≤ 64 := by rw [wordsM_len]; exact Nat.pow_le_pow_right (n := 2) (by decide) ht
  have hL : (listsT t).length ≤ 5000 := by
    have := allM_len t t t (by omega)
    have h6 : t = 0 ∨ t = 1 ∨ t = 2 ∨ t = 3 ∨ t = 4 ∨ t = 5 ∨ t = 6 := by omega
    have : facU t ≤ 5000 := by rcases h6 with rfl | rfl | rfl | rfl | rfl | rfl | rfl <;> decide
    show (allM t t t).length ≤ 5000
    omega
  have hways : ∀ xs, ∀ l ∈ waysT t xs, l ∈ wordsM t := fun xs l hl => (List.mem_filter.mp hl).1
  have hCW : ∀ l ∈ chosenT t r, l ∈ wordsM t := fun l hl => (List.mem_filter.mp hl).1
  have hC : (chosenT t r).length ≤ 64 := Nat.le_trans (List.length_filter_le _ _) hW
  have hC0 : 0 < (chosenT t r).length := by
    cases q : chosenT t r with
    | nil => rw [q] at kne; cases kne
    | cons a l => simp
  refine go_set 3 (a := .sh (.lst ((listsT t).map dI))) (ed_call (c1 t) ((t : Int), (t : Int)) (ea_cons (ed_var 0) (ea_cons (ed_var 0) ea_nil)) ⟨by show (0 : Int) ≤ t; omega, Int.le_refl _, by show (0 : Int) ≤ t; omega, by show (t : Int) ≤ 1000; omega, ht⟩ (hr.mono (by omega))) ?_ nd
  refine go_set 4 (a := .sh (dS ((wordsM t).map wd))) (ed_call c2 t (ea_cons (ed_var 0) ea_nil) ht (hr.mono (by decide))) ?_ nd
  refine go_set 5 (a := .sh (.lst ((listsT t).map fun xs => dS ((waysT t xs).map wd)))) (Ed.to (ev_lc (j := 17) (listsT t) dI (fun _ => true) (fun xs => dS ((waysT t xs).map wd)) (ei_list (ed_var 3)) rfl (by omega) nd (fun _ _ => .nil) (fun xs hx _ s H C cl fp => ed_call c3 (xs, wordsM t) (ea_cons (ed_var 17) (ea_cons (ed_var 4) ea_nil)) ⟨(gd xs hx).1, by show (wordsM t).length ≤ 1000; omega, fun l hl => by have h1 := wl l hl; have h2 := (gd xs hx).2.2; show (l.length : Int) ≤ xs.sum; omega⟩ (hr.mono (by decide)))
    (blkOk_by (N := N_law_both_ways) (sc := defScope s_law_both_ways) (by decide +kernel)) (fun _ _ _ _ _ => pg_name nd rfl (Or.inl rfl))).lst (by rw [filterT])) ?_ nd
  refine go_set 6 (a := .sh (.int 0)) ed_int ?_ nd
  refine go_for (fun b : Int => [some (.sh (.int (t : Int))), some (.sh (.int (r : Int))), some (.sh (.int place)), some (.sh (.lst ((listsT t).map dI))), some (.sh (dS ((wordsM t).map wd))), some (.sh (.lst ((listsT t).map fun xs => dS ((waysT t xs).map wd)))), some (.sh (.int b)), none, none, none, none, none, none, none, none, none, none, none, none, none, none]) (fun i b => b = (((listsT t).take i).map fun xs => (tallyL xs).getD r 0).sum) (List.range (listsT t).length) (fun i : Nat => .int (i : Int))
    (ei_rng1 (Ed.to (ed_lenL (ed_var 3) T.n_len) (d' := .int ((listsT t).length : Int)) (by rw [List.length_map])) (by omega) T.n_range) rfl 0 (by simp) (Wk.refl _) ?_ ?_
  · rintro S1 rb i y b hy rfl
    obtain ⟨rfl, hi⟩ := range_at hy
    obtain ⟨xs, hx⟩ : ∃ xs, (listsT t)[y]? = some xs := ⟨_, List.getElem?_eq_getElem hi⟩
    have hm := List.mem_of_getElem? hx
    obtain ⟨hg, hd, hsum⟩ := gd xs hm
    obtain ⟨kt1, kt2⟩ := ktal xs hm
    have t15 := tallyL_le xs hg
    have h14 := good_len hg
    have tlen := tallyL_len xs
    have ix3 : atI ((listsT t).map dI) (y : Int) = some (dI xs) := atI_intN (j := y) rfl (by rw [List.getElem?_map, hx]; rfl)
    have ix5 : atI ((listsT t).map fun xs => dS ((waysT t xs).map wd)) (y : Int) = some (dS ((waysT t xs).map wd)) := atI_intN (j := y) rfl (by rw [List.getElem?_map, hx]; rfl)
    have px : plain 1 (dI xs) := ⟨by rw [List.length_map]; omega, fun d hd => by obtain ⟨i, _, rfl⟩ := List.mem_map.mp hd; trivial⟩
    have pt : plain 1 (dI (tallyL xs)) := ⟨by rw [List.length_map]; omega, fun d hd => by obtain ⟨i, _, rfl⟩ := List.mem_map.mp hd; trivial⟩
    refine ⟨_, eg_name 7 nd, ?_⟩
    refine go_set 8 (a := .sh (dI xs)) (ev_listL (ed_ixL (ed_var 3) (ed_var 7) ix3) T.n_list).show ?_ nd
    refine go_set 9 (a := .sh (dI (tallyL xs))) (ed_call c4 xs (ea_cons (ed_var 8) ea_nil) hg (hr.mono (by decide))) ?_ nd
    refine go_if (t := false) (Et.to (Ew.et (ew_or (et_not (t := true) (et_val (ed_call (c5 1) (dI (tallyL xs)) (ea_cons (ed_var 9) (ea_cons (Ed.to (ed_call c6 (waysT t xs, t) (ea_cons (ed_ixL (ed_var 5) (ed_var 7) ix5) (ea_cons (ed_var 0) ea_nil)) ⟨ht, hways xs⟩ (hr.mono (by decide)) (d := dI (rowM (waysT t xs) t))) (by rw [kt1])) ea_nil)) pt (hr.mono (by decide))))) fun _ => ew_or1 (et_not (t := true) (et_val (ed_call (c5 1) (dI xs) (ea_cons (ed_var 8) (ea_cons (ed_ixL (ed_var 3) (ed_var 7) ix3) ea_nil)) px (hr.mono (by decide))))))) rfl) (fun h => nomatch h) (fun _ => go_nil (nx_go ?_))
    refine go_if (t := false) (Et.to (Ew.et (ew_or (et_not (t := true) (et_val (ed_call (c5 0) (D.int (cntL xs)) (ea_cons (ed_call c7 xs (ea_cons (ed_var 8) ea_nil) hg (hr.mono (by decide))) (ea_cons (Ed.to (ed_lenL (ed_ixL (ed_var 5) (ed_var 7) ix5) T.n_len) (by rw [List.length_map, List.length_map, kt2])) ea_nil)) trivial (hr.mono (by decide))))) fun _ => ew_or1 (et_not (t := true) (et_val (ed_call (c5 1) (dI xs) (ea_cons (ed_var 8) (ea_cons (ed_ixL (ed_var 3) (ed_var 7) ix3) ea_nil)) px (hr.mono (by decide))))))) rfl) (fun h => nomatch h) (fun _ => go_nil (nx_go ?_))
    refine go_set 6 (ed_add (ed_var 6) (ed_ixL (ed_var 9) (ed_var 1) (atI_intN (j := r) rfl (getI (by rw [tlen, hsum]; omega))))) ?_ nd
    exact go_next rfl _ (sumL_snoc (fun xs => (tallyL xs).getD r 0) hx).symm (.keep (.keep (.keep (.keep (.keep (.keep (.keep (.skip (.skip (.skip (Wk.refl _)))))))))))
  rintro b hb
  rw [List.length_range, List.take_length] at hb
  subst hb
  rw [← ksum]
  have cw := count_words t tm
  refine go_set 10 (a := .sh (dS ((chosenT t r).map wd))) (Ed.to (ev_lc (j := 18) (wordsM t) (fun l => .str (wd l)) (fun l => decide (cntR l = r)) (fun l => .str (wd l)) (ei_list (ed_var 4)) (by rw [List.map_map]; rfl) (by omega) nd (fun l hl => .one fun s H C cl fp => Et.to (et_eqI (ed_count (ed_var 18) ed_str) (ed_var 1)) (by rw [cw l hl]; exact decide_eq_decide.mpr (by omega))) (fun l hl _ s H C cl fp => ed_var 18)
    (blkOk_by (N := N_law_both_ways) (sc := defScope s_law_both_ways) (by decide +kernel)) (fun _ _ _ _ _ => pg_name nd rfl (Or.inl rfl))).lst (by show D.lst _ = D.lst (((chosenT t r).map wd).map D.str); rw [List.map_map]; rfl)) ?_ nd
  have hE : ((chosenT t r).filter fun _ => true).map (fun l => D.int (((rowsOf l).length : Nat) : Int)) = ((chosenT t r).map fun l => (((rowsOf l).length : Nat) : Int)).map .int := by rw [filterT, List.map_map]; rfl
  have pT : plain 1 (dI ((chosenT t r).map fun l => (((rowsOf l).length : Nat) : Int))) := ⟨by rw [List.length_map, List.length_map]; omega, fun d hd => by obtain ⟨i, _, rfl⟩ := List.mem_map.mp hd; trivial⟩
  refine go_setLc 11 (j := 18) (chosenT t r) (fun l => .str (wd l)) (fun _ => true) (fun l => .int (((rowsOf l).length : Nat) : Int)) (ei_list (ed_var 10)) (by rw [List.map_map]; rfl) (by omega) nd (fun _ _ => .nil) (fun l hl _ s H C cl fp => ?_)
    (blkOk_by (N := N_law_both_ways) (sc := defScope s_law_both_ways) (by decide +kernel)) (fun _ _ _ _ _ => pg_name nd rfl (Or.inr rfl)) ?_ (sw_true rfl rfl rfl (by decide +kernel))
  · refine Ed.to (ed_lenL (ev_lc (j := 19) (listsT t) (fun xs => dS ((waysT t xs).map wd)) (fun xs => decide (l ∈ waysT t xs)) (fun xs => dS ((waysT t xs).map wd)) (ei_list (ed_var 5)) rfl (by omega) nd (fun xs hx => .one fun s' H' C' cl' fp' => Et.to (et_inL (ed_var 18) (ed_var 19)) (wd_mem _ _)) (fun xs hx _ s' H' C' cl' fp' => ed_var 19)
      ?_ (fun _ _ _ _ _ => pg_name nd rfl (Or.inl rfl))).lst T.n_len) ?_
    · have ok : BlkOk N_law_both_ways (scOf ((defBody s_law_both_ways)[6]?)) inSc [("_law_row_here", 19)] := blkOk_by (by decide +kernel)
      refine ⟨ok.kind, ok.uniq, ok.ix, fun y hy hf => ?_, ok.own⟩
      rcases List.mem_cons.mp hy with rfl | hy
      · cases hf
      rcases List.mem_cons.mp hy with rfl | hy
      · cases hf
      rcases List.mem_cons.mp hy with rfl | hy
      · exact .inl rfl
      · cases hy
    rw [List.length_map, krow l (hCW l hl)]
  rw [hE]
  refine go_show 11 rfl ?_
  refine go_setLc 12 (j := 18) (chosenT t r) (fun l => .str (wd l)) (fun _ => true) (fun l => keptD (kC K) l) (ei_list (ed_var 10)) (by rw [List.map_map]; rfl) (by omega) nd (fun _ _ => .nil) (fun l hl _ s H C cl fp => ed_make T mi (ed_var 18) (by have := wl l (hCW l hl); omega) (hr.mono (by decide)))
    (blkOk_by (N := N_law_both_ways) (sc := defScope s_law_both_ways) (by decide +kernel)) (fun _ _ _ _ _ => pg_name nd rfl (Or.inl rfl)) ?_ (sw_true rfl rfl rfl (by decide +kernel))
  rw [filterT]
  refine go_show 12 rfl ?_
  refine go_setLc 13 (j := 20) (chosenT t r) (fun l => keptD (kC K) l) (fun _ => true) (fun l => .int (((rowsOf l).length : Nat) : Int)) (ei_list (ed_var 12)) rfl (by omega) nd (fun _ _ => .nil) (fun l hl _ s H C cl fp => ed_total T mt (ed_var 20) (by have := wl l (hCW l hl); omega) (hr.mono (by decide)))
    (blkOk_by (N := N_law_both_ways) (sc := defScope s_law_both_ways) (by decide +kernel)) (fun _ _ _ _ _ => pg_name nd rfl (Or.inl rfl)) ?_ (sw_true rfl rfl rfl (by decide +kernel))
  rw [hE]
  refine go_show 13 rfl ?_
  refine go_if (t := false) (Et.to (Ew.et (ew_or (et_not (t := true) (et_val (ed_call (c5 1) (dI ((chosenT t r).map fun l => (((rowsOf l).length : Nat) : Int))) (ea_cons (ed_var 13) (ea_cons (ed_var 11) ea_nil)) pT (hr.mono (by decide))))) fun _ => ew_or1 (et_neI (ed_sum (xs := (chosenT t r).map fun l => (((rowsOf l).length : Nat) : Int)) (ed_var 13) T.n_sum) (ed_var 6)))) (by simp)) (fun h => nomatch h) (fun _ => go_nil (nx_go ?_))
  have m0 := Int.emod_nonneg place (show ((chosenT t r).length : Int) ≠ 0 by omega)
  have m1 := Int.emod_lt_of_pos place (show (0 : Int) < ((chosenT t r).length : Int) by omega)
  obtain ⟨j, hj, hjl⟩ : ∃ j : Nat, place % ((chosenT t r).length : Int) = (j : Int) ∧ j < (chosenT t r).length := ⟨(place % ((chosenT t r).length : Int)).toNat, by omega, by omega⟩
  obtain ⟨l0, hl0⟩ : ∃ l, (chosenT t r)[j]? = some l := ⟨_, List.getElem?_eq_getElem hjl⟩
  have hlm := List.mem_of_getElem? hl0
  have hlw := hCW l0 hlm
  have hll := wl l0 hlw
  have ixC : atI (((chosenT t r).map wd).map D.str) (j : Int) = some (.str (wd l0)) := atI_intN (j := j) rfl (by rw [List.getElem?_map, List.getElem?_map, hl0]; rfl)
  have ixK : atI ((chosenT t r).map fun l => keptD (kC K) l) (j : Int) = some (keptD (kC K) l0) := atI_intN (j := j) rfl (by rw [List.getElem?_map, hl0]; rfl)
  refine go_set 14 (a := .sh (.int (j : Int))) (Ed.to (ed_mod (ed_intI (ed_var 2) T.n_int) (Ed.to (ed_lenL (ed_var 10) T.n_len) (d' := .int ((chosenT t r).length : Int)) (by rw [List.length_map, List.length_map])) (by omega)) (by rw [hj])) ?_ nd
  have ixL : ∀ i < (listsT t).length, atI ((listsT t).map dI) (i : Int) = some (dI ((listsT t).getD i [])) := fun i hi => atI_intN (j := i) rfl (by rw [List.getElem?_map, List.getElem?_eq_getElem hi]; simp [List.getD, hi])
  have ixW : ∀ i < (listsT t).length, atI ((listsT t).map fun xs => dS ((waysT t xs).map wd)) (i : Int) = some (dS ((waysT t ((listsT t).getD i [])).map wd)) := fun i hi => atI_intN (j := i) rfl (by rw [List.getElem?_map, List.getElem?_eq_getElem hi]; simp [List.getD, hi])
  refine go_setLc 15 (j := 7) (List.range (listsT t).length) (fun i : Nat => .int (i : Int)) (fun i => decide (l0 ∈ waysT t ((listsT t).getD i []))) (fun i => tI ((listsT t).getD i [])) (ei_rng1 (Ed.to (ed_lenL (ed_var 3) T.n_len) (d' := .int ((listsT t).length : Int)) (by rw [List.length_map])) (by omega) T.n_range) rfl (by rw [List.length_range]; omega) nd
    (fun i hi => .one fun s H C cl fp => Et.to (et_inL (ed_ixL (ed_var 10) (ed_var 14) ixC) (ed_ixL (ed_var 5) (ed_var 7) (ixW i (List.mem_range.mp hi)))) (wd_mem _ _)) (fun i hi _ s H C cl fp => ed_tupleL (ed_ixL (ed_var 3) (ed_var 7) (ixL i (List.mem_range.mp hi))) T.n_tuple)
    (blkOk_by (N := N_law_both_ways) (sc := defScope s_law_both_ways) (by decide +kernel)) (fun _ _ _ _ _ => pg_name nd rfl (Or.inl rfl)) ?_ (sw_true rfl rfl rfl (by decide +kernel))
  rw [range_filter (fun xs => decide (l0 ∈ waysT t xs)) (fun xs => tI xs) [] (listsT t), ← krow l0 hlw]
  refine go_show 15 rfl ?_
  have h14 : l0.length ≤ 14 := by omega
  have pR : plain 2 (.lst ((rowsOf l0).map tI)) := by
    obtain ⟨_, r2, r3⟩ := rows_ok l0 h14
    refine ⟨by rw [List.length_map]; omega, fun d hd => ?_⟩
    obtain ⟨ks, hk, rfl⟩ := List.mem_map.mp hd
    have := good_len (r2 ks hk)
    exact ⟨by rw [List.length_map]; omega, fun d hd => by obtain ⟨i, _, rfl⟩ := List.mem_map.mp hd; trivial⟩
  refine go_if (t := false) (Et.to (et_not (t := true) (et_val (ed_call (c5 2) (D.lst ((rowsOf l0).map tI)) (ea_cons (ev_listK2 T mit (ed_ixL (ed_var 12) (ed_var 14) ixK) h14 (hr.mono (by decide))).lst (ea_cons (ed_var 15) ea_nil)) pR (hr.mono (by decide))))) rfl) (fun h => nomatch h) (fun _ => go_nil (nx_go ?_))
  refine go_for (fun _ : Unit => [some (.sh (.int (t : Int))), some (.sh (.int (r : Int))), some (.sh (.int place)), some (.sh (.lst ((listsT t).map dI))), some (.sh (dS ((wordsM t).map wd))), some (.sh (.lst ((listsT t).map fun xs => dS ((waysT t xs).map wd)))), none, none, none, none, some (.sh (dS ((chosenT t r).map wd))), some (.sh (dI ((chosenT t r).map fun l => (((rowsOf l).length : Nat) : Int)))), some (.sh (.lst ((chosenT t r).map fun l => keptD (kC K) l))), none, some (.sh (.int (j : Int))), none, none, none, none, none, none]) (fun _ _ => True) (List.range (listsT t).length) (fun i : Nat => .int (i : Int))
    (ei_rng1 (Ed.to (ed_lenL (ed_var 3) T.n_len) (d' := .int ((listsT t).length : Int)) (by rw [List.length_map])) (by omega) T.n_range) rfl () trivial (.keep (.keep (.keep (.keep (.keep (.keep (.skip (.keep (.keep (.keep (.keep (.keep (.keep (.skip (.keep (.skip (Wk.refl _))))))))))))))))) ?_ ?_
  · rintro S1 rb i y _ hy _
    obtain ⟨rfl, hi⟩ := range_at hy
    refine ⟨_, eg_name 7 nd, ?_⟩
    have hm : (listsT t).getD y [] ∈ listsT t := by simp [List.getD, hi]
    have ix3 := ixL y hi
    have ix5 := ixW y hi
    generalize (listsT t).getD y [] = xs at *
    obtain ⟨hg, hd, hsum⟩ := gd xs hm
    have kn := knum xs hm l0 hlw
    have pk := hP xs l0 hg hd (by omega)
    rw [← kn] at pk
    refine go_set 16 (a := .sh .non) ed_non ?_ nd
    refine go_ifs 16 numO (v0 := none) (v1 := some (((waysT t xs).findIdx fun m => decide (m = l0) : Nat) : Int)) (t := decide (l0 ∈ waysT t xs)) rfl (Et.to (et_inL (ed_ixL (ed_var 10) (ed_var 14) ixC) (ed_ixL (ed_var 5) (ed_var 7) ix5)) (wd_mem _ _)) (fun h => Ed.to (ed_index (ed_ixL (ed_var 5) (ed_var 7) ix5) (ed_ixL (ed_var 10) (ed_var 14) ixC) (by rw [wd_idx, List.length_map]; exact findIdx_in (of_decide_eq_true h))) (by rw [wd_idx]; rfl)) ?_ nd
    refine go_if (t := false) (Et.to (et_not (t := true) (et_val (ed_call c8 (l0, xs, if decide (l0 ∈ waysT t xs) = true then some (((waysT t xs).findIdx fun m => decide (m = l0) : Nat) : Int) else none) (ea_cons (ed_ixL (ed_var 12) (ed_var 14) ixK) (ea_cons (ed_ixL (ed_var 3) (ed_var 7) ix3) (ea_cons (ed_ixL (ed_var 10) (ed_var 14) ixC) (ea_cons (ed_var 16) ea_nil)))) pk (hr.mono (by decide))))) rfl) (fun h => nomatch h) (fun _ => go_nil (nx_go ?_))
    exact go_next rfl () trivial (.keep (.keep (.keep (.keep (.keep (.keep (.keep (.skip (.keep (.keep (.keep (.keep (.keep (.keep (.keep (.keep (.skip (Wk.refl _))))))))))))))))))
  rintro _ _
  refine go_ret (ed_call (c5 1) (dI ((chosenT t r).map fun l => (((rowsOf l).length : Nat) : Int))) (ea_cons (Ed.to (ev_lc (j := 20) (chosenT t r) (fun l => keptD (kC K) l) (fun _ => true) (fun l => .int (((rowsOf l).length : Nat) : Int)) (ei_list (ed_var 12)) rfl (by omega) nd (fun _ _ => .nil) (fun l hl _ s H C cl fp => ed_total T mt (ed_var 20) (by have := wl l (hCW l hl); omega) (hr.mono (by decide)))
    (blkOk_by (N := N_law_both_ways) (sc := defScope s_law_both_ways) (by decide +kernel)) (fun _ _ _ _ _ => pg_name nd rfl (Or.inl rfl))).lst (by rw [hE])) (ea_cons (ed_var 11) ea_nil)) pT (hr.mono (by decide))) kk
end
end Bb
end
section
set_option maxRecDepth 100000
set_option maxHeartbeats 4000000
/-! S1: every def's promise, one from the other. -/
namespace Bb
open PySem PySem.Spec PyProof.Rows L2
section
variable {P : Program} {w : World} {K : PySem.W.Frag} {mg : Str → Option Value} {base : Heap}
theorem all_law (T : Txt K mg) {fd : FuncData} (F : FunD K "law" "law" (defArgs s_law) (defBody s_law) (defScope s_law) [] [] (He.ga K "law") fd) : FnOk P w K mg base CX0 40 (He.ga K "law") fd ["_law_script"] (spLaw K) := by
  have normal : Cal P w K mg base 1 "normal" ["values"] [] spNormal := fo_normal T
  have take := fo_take T normal
  have plucks := fo_plucks T (fo_take_largest T take) (fo_take_smallest T take)
  have counted : Cal P w K mg base 1 "counted_bounds" ["row"] [] spCounted := fo_counted T
  have pull := fo_pull T (fo_step T (fo_keeper T counted) (fo_raider T counted))
  have lists := fo_lists T (fo_grown (P := P) (w := w) (base := base) T)
  have layers := fo_layers T plucks
  have counts := fo_counts T layers
  have count := fo_count T counts
  have raid := fo_raid T layers
  have at_ := fo_at T counts plucks
  have index := fo_index T counts plucks
  have draws := fo_draws T (fo_mixed (P := P) (w := w) (base := base) T)
  have best := fo_best T (fo_lower (P := P) (w := w) (base := base) T)
  have surv := fo_surv T best
  have tally := fo_tally T best
  have like : ∀ n, Cal P w K mg base (n + 1) "_law_like" ["_law_actual", "_law_due"] [] (spLike n) := fo_like T
  have init := fo_init T pull lists
  have paired := fo_paired T (fo_cont T) (fo_number T index) like at_
  have both := fo_both T pair_all (fo_all T) (fo_words T) (fo_ways T surv) raid like (fo_row T) count init (fo_total T) (fo_iter T) paired
  exact fo_law T pair_all (fo_cell T) draws both (fo_list T draws) (fo_order T draws) (fo_kept T surv) surv (fo_ahead T best (tally 14)) (fo_countedL (fo_countedS T raid count like)) (tally 14) paired init F
theorem law_true {K : PySem.W.Frag} (H : Hp) (a : Addr) (ns : List Int) (hO : Only H) (hS : SqL K H a (ns.map V.int)) : spLaw K [V.ref a] H (fun v _ => v = V.bl true) E0 := by
  refine ⟨(a, ns), H, ⟨fun _ _ q _ => q, fun b x q => ?_⟩, .cons (Rp.sq.mpr ⟨rfl, hS⟩) .nil, trivial, fun v S1 H1 _ r => Rp.bl.mp r⟩
  rcases hO b with e | ⟨o, xs, e⟩ <;> rw [q] at e <;> cases e
end
end Bb
end
section
set_option maxRecDepth 100000
set_option maxHeartbeats 0
open PySem PySem.W PySem.Calls PyProof.Rows
theorem PySem.Challenge.cw_barebough_k60_whole_counted_both_ways_holds : PySem.Challenge.rw_barebough_k60_whole_counted_both_ways.Holds := by
  w_on; o_law
  refine HandSHeadRun.head_any (r := OpenLaw.row PySem.Challenge.rw_barebough_k60_whole_counted_both_ways) (q := view (OpenLaw.row PySem.Challenge.rw_barebough_k60_whole_counted_both_ways).prog [50]) (H := Bb.hk) (ob := Bb.ob) (M := 6000) (loose := Bb.loose) (d := HandSHeadRun.topDef (OpenLaw.row PySem.Challenge.rw_barebough_k60_whole_counted_both_ways).prog 50) (kwd := []) Bb.ob_eq
    (by kernel_rfl) (fun s => by kernel_rfl) Bb.run (by kernel_rfl) (by kernel_rfl) (by kernel_rfl) (by rfl) (by first | assumption | decide +kernel) (by decide +kernel) ⟨rfl, rfl, rfl, rfl, rfl, by decide +kernel⟩ ?hw ?hc
  case hw => w_witness2
  case hc =>
    refine L2.walk_ofE (l := PySem.Challenge.rw_barebough_k60_whole_counted_both_ways) (n := 63) (k := 40) (x := "_law_script") (CX := L2.CX0) rfl (by decide) (by kernel_rfl) ⟨rfl, by decide, by decide⟩ ?F (fun _ _ _ _ z => z)
    intro w mg fa h Y G hmg0
    obtain ⟨K, KX, c⟩ := Y
    have T := Bb.Txt.mk' KX G c
    have hmg : mg ("law" : PySem.Str) = some (.ref fa) := by
      have e : (HandSHeadRun.topDef (OpenLaw.row PySem.Challenge.rw_barebough_k60_whole_counted_both_ways).prog 50).name = ("law" : PySem.Str) := by kernel_rfl
      rw [← e]
      exact hmg0
    obtain ⟨fd, F⟩ := T.f_law
    have e := hmg.symm.trans T.g_law
    cases e
    have b := L2.FunD.bindsA (ps := ["_law_script"]) F fun _ _ _ _ _ _ us hl => match us, hl with | [_], _ => rfl
    exact ⟨K, fd, Bb.spLaw K, KX, fun s u => b s [u] rfl, fun H a ns _ hO hS => Bb.law_true H a ns hO hS, fun base _ _ => Bb.all_law T F⟩
end
