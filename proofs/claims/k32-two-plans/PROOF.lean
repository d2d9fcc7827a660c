import PyProof.Rows.All
import Wide.All
import OpenK.AllK
import Wide.FinOn
import KE.KStateDown
import HandS.ForMost
import HandS.Codes
import HandS.Defaults
import HandS.Property
import HandS.IsInst
import HandS.HeadNt
import HandS.Head0
import HandS.Head1
import HandS.Head2
import HandS.HeadEnd
import HandS.Evl
import HandS.Style
import HandS.Wide
import HandS.Deep
import HandS.Zip
import HandS.DictComp
import HandS.TupAny
import HandS.More
import HandS.Conv
import HandS.Walk
import HandS.SetBool
import HandS.SetKeys
import HandS.MakeKwOnly
import PyProof.DictUpdate
import OpenK.KMeth
import OpenK.KOps
import KE.KOpsOwn
import HandS.Small
import PyProof.Conv_bool
import PyProof.Rows.Range3
import HandS.GenList
import HandS.Words
import KE.KDictZip
import KE.KSortTupG
import HandS.NoneIn
import HandS.Sort
import PySem.Challenge.RW_gaplesskeys_k32_whole_two_plans_behind_o
/-! ## B0 -/
set_option Elab.async false
set_option linter.all false
set_option maxRecDepth 100000
set_option maxHeartbeats 2000000
/-! B0: the text by places, what the head tells of it (printed by genB0.py) -/
namespace Ab
open PySem L2 PyProof.Rows
abbrev prog0 : Program := PySem.Challenge.pw_gaplesskeys_k32_whole_two_plans_behind_o
def top (i : Nat) : Stmt := prog0.main.body.getD i (.Pass ⟨0, 0, 0, 0⟩)
/-- the getter of the property m of the class at C -/
def pgA (K : PySem.W.Frag) (C : Addr) (m : Str) : Addr := match PySem.W.recIn K (He.ma K C m) "property" with
  | some (.ref f :: _) => f
  | _ => 0
def prB (K : PySem.W.Frag) (C : Addr) (m : Str) : Bool := He.eqO (PySem.W.findIn K (.ref C) m) (some (some (.ref (He.ma K C m)))) && (He.eqO (PySem.W.specialIn K (.ref (He.ma K C m)) "__get__") (some (some (.builtin "property.__get__"))) &&
  (decide (PySem.W.takesIn K (.ref (He.ma K C m)) = some true) && (match PySem.W.recIn K (He.ma K C m) "property" with
    | some (.ref _ :: _) => true
    | _ => false)))
theorem prB_ok {K : PySem.W.Frag} {C : Addr} {m : Str} (h : prB K C m = true) : PropOf K C m (He.ma K C m) (pgA K C m) := by
  obtain ⟨h1, h⟩ := He.ba h
  obtain ⟨h2, h⟩ := He.ba h
  obtain ⟨h3, h4⟩ := He.ba h
  refine ⟨He.eqO_ok h1, He.eqO_ok h2, of_decide_eq_true h3, ?_⟩
  unfold pgA
  split at h4
  · rename_i f r e
    exact ⟨r, by rw [e]⟩
  · cases h4
def insB (K : PySem.W.Frag) (C : Addr) : Bool := He.eqO (PySem.W.findIn K (.ref C) "__class__") (some (some (.builtin "object.__class__"))) && (He.eqO (PySem.W.specialIn K (.builtin "object.__class__") "__get__") (some (some (.builtin "getset_descriptor.__get__"))) &&
  (decide (PySem.W.takesIn K (.builtin "object.__class__") = some true) && (decide (PySem.W.mroIn K C (.type "object") = some true) && decide (PySem.W.kitOne K (.ref C) (.ref C) = some true))))
theorem insB_ok {K : PySem.W.Frag} {C : Addr} (c : Cls K C) (h : insB K C = true) : C8.InsC K C := by
  obtain ⟨h1, h⟩ := He.ba h
  obtain ⟨h2, h⟩ := He.ba h
  obtain ⟨h3, h⟩ := He.ba h
  obtain ⟨h4, h5⟩ := He.ba h
  exact ⟨c, He.eqO_ok h1, He.eqO_ok h2, of_decide_eq_true h3, of_decide_eq_true h4, of_decide_eq_true h5⟩
/-- what is asked besides -/
def exL (K : PySem.W.Frag) : List Bool := [insB K (He.ga K "Contents"), insB K (He.ga K "Plan"), insB K (He.ga K "Range"), insB K (He.ga K "Kind"), insB K (He.ga K "Fleet"), prB K (He.ga K "Contents") "roles",
  He.eqO (PySem.W.findIn K (.ref (He.ga K "Range")) "__ne__") (some (some (.builtin "object.__ne__"))), PySem.W.selfFirst K (He.ga K "Range"), He.eqO (PySem.W.findIn K (.ref (He.ga K "Range")) "__radd__") (some (some (.ref (He.ma K (He.ga K "Range") "__radd__")))),
  (PySem.W.findIn K (.type "int") "__add__").isSome, (PySem.W.findIn K (.type "int") "__radd__").isSome, decide (PySem.W.subIn K (.type "int") (.ref (He.ga K "Range")) = some false), PySem.W.noSeq K (He.ga K "Fleet"),
  PySem.W.notFirst K (He.ga K "Range") (.ref (He.ga K "Range"))]
def exB (K : PySem.W.Frag) : Bool := (exL K).all id

def fn : List He5.DefA := [
  ⟨fun K => He.ga K "is_between", "is_between", "is_between", defArgs (top 7), defBody (top 7), defScope (top 7), [], []⟩,
  ⟨fun K => He.ga K "is_moment", "is_moment", "is_moment", defArgs (top 8), defBody (top 8), defScope (top 8), [], []⟩,
  ⟨fun K => He.ga K "is_word", "is_word", "is_word", defArgs (top 9), defBody (top 9), defScope (top 9), [], []⟩,
  ⟨fun K => He.ga K "are_keys", "are_keys", "are_keys", defArgs (top 10), defBody (top 10), defScope (top 10), [], []⟩,
  ⟨fun K => He.ga K "is_role", "is_role", "is_role", defArgs (top 26), defBody (top 26), defScope (top 26), [], []⟩,
  ⟨fun K => He.ga K "are_roles", "are_roles", "are_roles", defArgs (top 27), defBody (top 27), defScope (top 27), [], []⟩,
  ⟨fun K => He.ga K "is_edition", "is_edition", "is_edition", defArgs (top 31), defBody (top 31), defScope (top 31), [], []⟩,
  ⟨fun K => He.ga K "follows", "follows", "follows", defArgs (top 32), defBody (top 32), defScope (top 32), [], []⟩,
  ⟨fun K => He.ga K "check_editions", "check_editions", "check_editions", defArgs (top 33), defBody (top 33), defScope (top 33), [], []⟩,
  ⟨fun K => He.ga K "check_roles", "check_roles", "check_roles", defArgs (top 36), defBody (top 36), defScope (top 36), [], []⟩,
  ⟨fun K => He.ga K "check_plan", "check_plan", "check_plan", defArgs (top 37), defBody (top 37), defScope (top 37), [], []⟩,
  ⟨fun K => He.ga K "check_kind", "check_kind", "check_kind", defArgs (top 38), defBody (top 38), defScope (top 38), [], []⟩,
  ⟨fun K => He.ga K "check_number", "check_number", "check_number", defArgs (top 39), defBody (top 39), defScope (top 39), [], []⟩,
  ⟨fun K => He.ga K "is_limit", "is_limit", "is_limit", defArgs (top 41), defBody (top 41), defScope (top 41), [], []⟩,
  ⟨fun K => He.ga K "last_held", "last_held", "last_held", defArgs (top 44), defBody (top 44), defScope (top 44), [], []⟩,
  ⟨fun K => He.ga K "range_of", "range_of", "range_of", defArgs (top 45), defBody (top 45), defScope (top 45), [], []⟩,
  ⟨fun K => He.ga K "contents_list", "contents_list", "contents_list", defArgs (top 46), defBody (top 46), defScope (top 46), [], []⟩,
  ⟨fun K => He.ga K "held_range", "held_range", "held_range", defArgs (top 47), defBody (top 47), defScope (top 47), [], []⟩,
  ⟨fun K => He.ga K "jumps_of", "jumps_of", "jumps_of", defArgs (top 48), defBody (top 48), defScope (top 48), [], []⟩,
  ⟨fun K => He.ga K "jumps", "jumps", "jumps", defArgs (top 49), defBody (top 49), defScope (top 49), [], []⟩,
  ⟨fun K => He.ga K "found_lockouts", "found_lockouts", "found_lockouts", defArgs (top 50), defBody (top 50), defScope (top 50), [], []⟩,
  ⟨fun K => He.ga K "lockouts", "lockouts", "lockouts", defArgs (top 51), defBody (top 51), defScope (top 51), [], []⟩,
  ⟨fun K => He.ga K "client_range", "client_range", "client_range", defArgs (top 53), defBody (top 53), defScope (top 53), [], []⟩,
  ⟨fun K => He.ga K "server_range", "server_range", "server_range", defArgs (top 54), defBody (top 54), defScope (top 54), [], []⟩,
  ⟨fun K => He.ga K "do_meet", "do_meet", "do_meet", defArgs (top 55), defBody (top 55), defScope (top 55), [], []⟩,
  ⟨fun K => He.ga K "pairs_of", "pairs_of", "pairs_of", defArgs (top 56), defBody (top 56), defScope (top 56), [], []⟩,
  ⟨fun K => He.ga K "is_refused", "is_refused", "is_refused", defArgs (top 57), defBody (top 57), defScope (top 57), [], []⟩,
  ⟨fun K => He.ga K "found_refusals", "found_refusals", "found_refusals", defArgs (top 58), defBody (top 58), defScope (top 58), [], []⟩,
  ⟨fun K => He.ga K "refusals", "refusals", "refusals", defArgs (top 59), defBody (top 59), defScope (top 59), [], []⟩,
  ⟨fun K => He.ga K "is_gap", "is_gap", "is_gap", defArgs (top 64), defBody (top 64), defScope (top 64), [], []⟩,
  ⟨fun K => He.ga K "is_age", "is_age", "is_age", defArgs (top 65), defBody (top 65), defScope (top 65), [], []⟩,
  ⟨fun K => He.ga K "chain_of", "chain_of", "chain_of", defArgs (top 67), defBody (top 67), defScope (top 67), [], []⟩,
  ⟨fun K => He.ga K "_law_stream", "_law_stream", "_law_stream", defArgs (top 70), defBody (top 70), defScope (top 70), [], []⟩,
  ⟨fun K => He.ga K "_law_draw", "_law_draw", "_law_draw", defArgs (top 71), defBody (top 71), defScope (top 71), [], []⟩,
  ⟨fun K => He.ga K "_law_choose", "_law_choose", "_law_choose", defArgs (top 72), defBody (top 72), defScope (top 72), [], []⟩,
  ⟨fun K => He.ga K "_law_some", "_law_some", "_law_some", defArgs (top 73), defBody (top 73), defScope (top 73), [], []⟩,
  ⟨fun K => He.ga K "_law_words", "_law_words", "_law_words", defArgs (top 74), defBody (top 74), defScope (top 74), [], []⟩,
  ⟨fun K => He.ga K "_law_kinds", "_law_kinds", "_law_kinds", defArgs (top 75), defBody (top 75), defScope (top 75), [], []⟩,
  ⟨fun K => He.ga K "_law_calls", "_law_calls", "_law_calls", defArgs (top 76), defBody (top 76), defScope (top 76), [], []⟩,
  ⟨fun K => He.ga K "_law_told", "_law_told", "_law_told", defArgs (top 77), defBody (top 77), defScope (top 77), [], []⟩,
  ⟨fun K => He.ga K "_law_turned", "_law_turned", "_law_turned", defArgs (top 78), defBody (top 78), defScope (top 78), [], []⟩,
  ⟨fun K => He.ga K "_law_next", "_law_next", "_law_next", defArgs (top 79), defBody (top 79), defScope (top 79), [], []⟩,
  ⟨fun K => He.ga K "_law_tolds", "_law_tolds", "_law_tolds", defArgs (top 80), defBody (top 80), defScope (top 80), [], []⟩,
  ⟨fun K => He.ga K "_law_moments", "_law_moments", "_law_moments", defArgs (top 81), defBody (top 81), defScope (top 81), [], []⟩,
  ⟨fun K => He.ga K "_law_contents", "_law_contents", "_law_contents", defArgs (top 82), defBody (top 82), defScope (top 82), [], []⟩,
  ⟨fun K => He.ga K "_law_plan", "_law_plan", "_law_plan", defArgs (top 83), defBody (top 83), defScope (top 83), [], []⟩,
  ⟨fun K => He.ga K "_law_fleet", "_law_fleet", "_law_fleet", defArgs (top 84), defBody (top 84), defScope (top 84), [], []⟩,
  ⟨fun K => He.ga K "_law_large", "_law_large", "_law_large", defArgs (top 85), defBody (top 85), defScope (top 85), [], []⟩,
  ⟨fun K => He.ga K "_law_moved_right", "_law_moved_right", "_law_moved_right", defArgs (top 86), defBody (top 86), defScope (top 86), [], []⟩,
  ⟨fun K => He.ga K "_law_cut_right", "_law_cut_right", "_law_cut_right", defArgs (top 87), defBody (top 87), defScope (top 87), [], []⟩,
  ⟨fun K => He.ga K "_law_led_told", "_law_led_told", "_law_led_told", defArgs (top 88), defBody (top 88), defScope (top 88), [], []⟩,
  ⟨fun K => He.ga K "_law_led_right", "_law_led_right", "_law_led_right", defArgs (top 89), defBody (top 89), defScope (top 89), [], []⟩,
  ⟨fun K => He.ga K "law", "law", "law", defArgs (top 90), defBody (top 90), defScope (top 90), [], []⟩,
  ⟨fun K => He.ma K (He.ga K "Contents") "__init__", "__init__", "Contents.__init__", defArgs (inClass (top 28) 0), defBody (inClass (top 28) 0), defScope (inClass (top 28) 0), [], [("needed", .int 1), ("signers", .non)]⟩,
  ⟨fun K => He.ma K (He.ga K "Contents") "part_of", "part_of", "Contents.part_of", defArgs (inClass (top 28) 5), defBody (inClass (top 28) 5), defScope (inClass (top 28) 5), [], []⟩,
  ⟨fun K => He.ma K (He.ga K "Contents") "accepted", "accepted", "Contents.accepted", defArgs (inClass (top 28) 6), defBody (inClass (top 28) 6), defScope (inClass (top 28) 6), [], []⟩,
  ⟨fun K => He.ma K (He.ga K "Contents") "used", "used", "Contents.used", defArgs (inClass (top 28) 7), defBody (inClass (top 28) 7), defScope (inClass (top 28) 7), [], []⟩,
  ⟨fun K => He.ma K (He.ga K "Contents") "takes", "takes", "Contents.takes", defArgs (inClass (top 28) 11), defBody (inClass (top 28) 11), defScope (inClass (top 28) 11), [], []⟩,
  ⟨fun K => pgA K (He.ga K "Contents") "roles", "roles", "Contents.roles", defArgs (inClass (top 28) 1), defBody (inClass (top 28) 1), defScope (inClass (top 28) 1), [], []⟩,
  ⟨fun K => He.ma K (He.ga K "Plan") "__init__", "__init__", "Plan.__init__", defArgs (inClass (top 34) 0), defBody (inClass (top 34) 0), defScope (inClass (top 34) 0), [], []⟩,
  ⟨fun K => He.ma K (He.ga K "Plan") "__len__", "__len__", "Plan.__len__", defArgs (inClass (top 34) 1), defBody (inClass (top 34) 1), defScope (inClass (top 34) 1), [], []⟩,
  ⟨fun K => He.ma K (He.ga K "Plan") "check", "check", "Plan.check", defArgs (inClass (top 34) 4), defBody (inClass (top 34) 4), defScope (inClass (top 34) 4), [], []⟩,
  ⟨fun K => He.ma K (He.ga K "Plan") "contents_of", "contents_of", "Plan.contents_of", defArgs (inClass (top 34) 8), defBody (inClass (top 34) 8), defScope (inClass (top 34) 8), [], []⟩,
  ⟨fun K => He.ma K (He.ga K "Plan") "moments", "moments", "Plan.moments", defArgs (inClass (top 34) 9), defBody (inClass (top 34) 9), defScope (inClass (top 34) 9), [], []⟩,
  ⟨fun K => He.ma K (He.ga K "Plan") "cut", "cut", "Plan.cut", defArgs (inClass (top 34) 14), defBody (inClass (top 34) 14), defScope (inClass (top 34) 14), [], []⟩,
  ⟨fun K => He.ma K (He.ga K "Range") "__init__", "__init__", "Range.__init__", defArgs (inClass (top 42) 0), defBody (inClass (top 42) 0), defScope (inClass (top 42) 0), [], []⟩,
  ⟨fun K => He.ma K (He.ga K "Range") "__bool__", "__bool__", "Range.__bool__", defArgs (inClass (top 42) 7), defBody (inClass (top 42) 7), defScope (inClass (top 42) 7), [], []⟩,
  ⟨fun K => He.ma K (He.ga K "Range") "__eq__", "__eq__", "Range.__eq__", defArgs (inClass (top 42) 9), defBody (inClass (top 42) 9), defScope (inClass (top 42) 9), [], []⟩,
  ⟨fun K => He.ma K (He.ga K "Range") "__and__", "__and__", "Range.__and__", defArgs (inClass (top 42) 16), defBody (inClass (top 42) 16), defScope (inClass (top 42) 16), [], []⟩,
  ⟨fun K => He.ma K (He.ga K "Range") "moved", "moved", "Range.moved", defArgs (inClass (top 42) 17), defBody (inClass (top 42) 17), defScope (inClass (top 42) 17), [], []⟩,
  ⟨fun K => He.ma K (He.ga K "Range") "__add__", "__add__", "Range.__add__", defArgs (inClass (top 42) 18), defBody (inClass (top 42) 18), defScope (inClass (top 42) 18), [], []⟩,
  ⟨fun K => He.ma K (He.ga K "Kind") "__init__", "__init__", "Kind.__init__", defArgs (inClass (top 66) 0), defBody (inClass (top 66) 0), defScope (inClass (top 66) 0), [], [("age", .non), ("source", .non)]⟩,
  ⟨fun K => He.ma K (He.ga K "Kind") "twin", "twin", "Kind.twin", defArgs (inClass (top 66) 8), defBody (inClass (top 66) 8), defScope (inClass (top 66) 8), [], []⟩,
  ⟨fun K => He.ma K (He.ga K "Fleet") "__init__", "__init__", "Fleet.__init__", defArgs (inClass (top 68) 0), defBody (inClass (top 68) 0), defScope (inClass (top 68) 0), [], []⟩,
  ⟨fun K => He.ma K (He.ga K "Fleet") "__contains__", "__contains__", "Fleet.__contains__", defArgs (inClass (top 68) 4), defBody (inClass (top 68) 4), defScope (inClass (top 68) 4), [], []⟩,
  ⟨fun K => He.ma K (He.ga K "Fleet") "__setitem__", "__setitem__", "Fleet.__setitem__", defArgs (inClass (top 68) 6), defBody (inClass (top 68) 6), defScope (inClass (top 68) 6), [], []⟩,
  ⟨fun K => He.ma K (He.ga K "Fleet") "sources", "sources", "Fleet.sources", defArgs (inClass (top 68) 7), defBody (inClass (top 68) 7), defScope (inClass (top 68) 7), [], []⟩,
  ⟨fun K => He.ma K (He.ga K "Fleet") "check", "check", "Fleet.check", defArgs (inClass (top 68) 8), defBody (inClass (top 68) 8), defScope (inClass (top 68) 8), [], []⟩,
  ⟨fun K => He.ma K (He.ga K "Fleet") "names", "names", "Fleet.names", defArgs (inClass (top 68) 9), defBody (inClass (top 68) 9), defScope (inClass (top 68) 9), [], []⟩,
  ⟨fun K => He.ma K (He.ga K "Fleet") "chain", "chain", "Fleet.chain", defArgs (inClass (top 68) 10), defBody (inClass (top 68) 10), defScope (inClass (top 68) 10), [], []⟩,
  ⟨fun K => He.ma K (He.ga K "Fleet") "lateness", "lateness", "Fleet.lateness", defArgs (inClass (top 68) 11), defBody (inClass (top 68) 11), defScope (inClass (top 68) 11), [], []⟩,
  ⟨fun K => He.ma K (He.ga K "Fleet") "add_call", "add_call", "Fleet.add_call", defArgs (inClass (top 68) 12), defBody (inClass (top 68) 12), defScope (inClass (top 68) 12), [], [("life", .int 0)]⟩,
  ⟨fun K => He.ma K (He.ga K "Fleet") "calls", "calls", "Fleet.calls", defArgs (inClass (top 68) 13), defBody (inClass (top 68) 13), defScope (inClass (top 68) 13), [], []⟩]
def fa0 : List He.Fa := [.glo "is_between", .glo "is_moment", .glo "is_word", .glo "are_keys", .glo "is_role", .glo "are_roles", .glo "is_edition", .glo "follows", .glo "check_editions", .glo "check_roles", .glo "check_plan", .glo "check_kind", .glo "check_number", .glo "is_limit", .glo "last_held", .glo "range_of", .glo "contents_list", .glo "held_range", .glo "jumps_of", .glo "jumps", .glo "found_lockouts", .glo "lockouts", .glo "client_range", .glo "server_range", .glo "do_meet", .glo "pairs_of", .glo "is_refused", .glo "found_refusals", .glo "refusals", .glo "is_gap"]
def fa1 : List He.Fa := [.glo "is_age", .glo "chain_of", .glo "_law_stream", .glo "_law_draw", .glo "_law_choose", .glo "_law_some", .glo "_law_words", .glo "_law_kinds", .glo "_law_calls", .glo "_law_told", .glo "_law_turned", .glo "_law_next", .glo "_law_tolds", .glo "_law_moments", .glo "_law_contents", .glo "_law_plan", .glo "_law_fleet", .glo "_law_large", .glo "_law_moved_right", .glo "_law_cut_right", .glo "_law_led_told", .glo "_law_led_right", .glo "law", .glo "Contents", .glo "Plan", .glo "Range", .glo "Kind", .glo "Fleet", .free "isinstance", .free "int"]
def fa2 : List He.Fa := [.free "bool", .free "str", .free "len", .free "all", .free "list", .free "tuple", .free "dict", .free "sorted", .free "range", .free "enumerate", .free "max", .free "min", .free "zip", .int "MOST_LETTERS" 8, .int "MOST_INTEGER" (10 ^ 60 - 1), .int "MOST_MOMENT" (10 ^ 40), .int "MOST_GAP" (10 ^ 30), .int "MOST_ROLES" 3, .int "MOST_ACCEPTED" 8, .int "MOST_VOUCHERS" 4, .int "MOST_EDITIONS" 7, .int "MOST_KINDS" 5, .int "MOST_CHAIN" 4, .int "MOST_CALLS" 6, .str "LETTERS" "abcdefghijklmnopqrstuvwxyz", .cls "Contents", .mkr "Contents", .noat "Contents" "own_roles", .noat "Contents" "own_vouchers", .noat "Contents" "own_needed"]
def fa3 : List He.Fa := [.noat "Contents" "own_signers", .meth "Contents" "part_of", .meth "Contents" "accepted", .meth "Contents" "used", .meth "Contents" "takes", .cls "Plan", .mkr "Plan", .noat "Plan" "editions", .meth "Plan" "__len__", .meth "Plan" "check", .meth "Plan" "contents_of", .meth "Plan" "moments", .meth "Plan" "cut", .cls "Range", .mkr "Range", .noat "Range" "own_first", .noat "Range" "own_last", .noat "Range" "rank", .meth "Range" "__bool__", .meth "Range" "__eq__", .meth "Range" "__and__", .meth "Range" "moved", .meth "Range" "__add__", .cls "Kind", .mkr "Kind", .noat "Kind" "own_gap", .noat "Kind" "own_age", .noat "Kind" "own_source", .meth "Kind" "twin", .cls "Fleet"]
def fa4 : List He.Fa := [.mkr "Fleet", .noat "Fleet" "kinds", .noat "Fleet" "rows", .meth "Fleet" "__contains__", .meth "Fleet" "__setitem__", .meth "Fleet" "sources", .meth "Fleet" "check", .meth "Fleet" "names", .meth "Fleet" "chain", .meth "Fleet" "lateness", .meth "Fleet" "add_call", .meth "Fleet" "calls"]
def fa : List He.Fa := fa0 ++ (fa1 ++ (fa2 ++ (fa3 ++ (fa4))))
def la0 : List Addr := [3, 27, 28, 34, 35, 39, 40, 44, 45, 256, 257, 261, 262, 270, 274, 275, 281, 282, 283, 313, 314, 320, 321, 327, 328, 351, 352, 384, 385, 395]
def la1 : List Addr := [396, 402, 403, 409, 410, 423, 424, 430, 431, 451, 452, 479, 480, 484, 485, 519, 520, 529, 530, 540, 541, 547, 548, 554, 555, 561, 562, 568, 569, 582]
def la2 : List Addr := [583, 641, 642, 655, 656, 704, 705, 711, 712, 718, 719, 749, 750, 760, 761, 767, 768, 772, 773, 779, 780, 784, 785, 791, 792, 798, 799, 805, 806, 812]
def la3 : List Addr := [813, 819, 820, 826, 827, 831, 832, 838, 839, 845, 846, 852, 853, 859, 860, 866, 867, 875, 881, 882, 944, 945, 947, 948, 958, 959, 972, 973, 1000, 1001]
def la4 : List Addr := [1012, 1013, 1017, 1018, 1024, 1025, 1031, 1032, 1038, 1039, 1045, 1046, 1047, 1053, 1054, 1060, 1061, 1068, 1069, 1079, 1080, 1086, 1087, 1093, 1094, 1098, 1099, 1103, 1104, 1110]
def la5 : List Addr := [1111, 1117, 1118, 1124, 1125, 1129, 1130, 1136, 1137, 1143, 1144, 1150, 1151, 1155, 1156, 1160, 1161, 1167, 1168, 1174, 1175, 1181, 1182, 1186, 1187, 1191, 1192, 1196, 1197, 1201]
def la6 : List Addr := [1202]
/-- where what is asked stands (found by a run; any list would do) -/
def la : List Addr := la0 ++ (la1 ++ (la2 ++ (la3 ++ (la4 ++ (la5 ++ (la6))))))

/-! ### the Hook: He5's, and one Bool more -/
abbrev AlB : Type := He.AlD × Bool
def obsB (K : PySem.W.Frag) : AlB := (He5.obsA fa fn K, exB K)
def valB : AlB := (He5.valA fn, true)
def Says (K : PySem.W.Frag) : Prop := obsB K = valB
def obsBG (g : Addr → Option Obj) : AlB := obsB (He.frG g la)
def hookB : PySem.W.Hook where
  α := AlB
  obs := fun s => obsBG s.heap.get?
  val := fun _ => valB
  says := fun _ h => ∃ K : PySem.W.Frag, K.In h ∧ Says K
  of := fun _ _ e => ⟨_, He.frG_in, e⟩
  keeps := fun _ _ _ ⟨K, hK, c⟩ k => ⟨K, PySem.W.Frag.In.keeps hK k, c⟩
theorem obsBG_eq {g : Addr → Option Obj} {s : Shared} (h : ∀ a, g a = s.heap.get? a) : obsBG g = hookB.obs s := by
  have e : g = s.heap.get? := funext h
  rw [e] <;> rfl
/-- where the text has left its names -/
structure Tx (K : PySem.W.Frag) (mg : Str → Option Value) : Prop where
  h : ∃ h : Heap, K.In h ∧ h.Ns mainGlobals mg
  c : Says K
section
variable {K : PySem.W.Frag} {mg : Str → Option Value}
theorem Tx.sa (T : Tx K mg) : He5.SaysA fa fn K := congrArg (fun z : AlB => z.1) T.c
theorem Tx.exb (T : Tx K mg) : exB K = true := congrArg (fun z : AlB => z.2) T.c
theorem Tx.ex (T : Tx K mg) (i : Nat) {b : Bool} (h : (exL K)[i]? = some b) : b = true := List.all_eq_true.mp T.exb b (List.mem_of_getElem? h)
theorem Tx.fact (T : Tx K mg) (i : Nat) {f : He.Fa} (h : fa[i]? = some f) : f.ok K = true := T.sa.fact i h
theorem Tx.glo (T : Tx K mg) (i : Nat) {x : Str} (h : fa[i]? = some (.glo x)) : mg x = some (.ref (He.ga K x)) := by
  obtain ⟨h0, X, G⟩ := T.h
  exact He.glo_ok X G (T.fact i h)
theorem Tx.free (T : Tx K mg) (i : Nat) {x : Str} (h : fa[i]? = some (.free x)) : mg x = none := by
  obtain ⟨h0, X, G⟩ := T.h
  exact He.free_ok X G (T.fact i h)
theorem Tx.int (T : Tx K mg) (i : Nat) {x : Str} {n : Int} (h : fa[i]? = some (.int x n)) : ∃ u, mg x = some u ∧ RelV (.int n) u := by
  obtain ⟨h0, X, G⟩ := T.h
  obtain ⟨t, e⟩ := He.int_ok X G (T.fact i h)
  exact ⟨_, e, _, rfl⟩
theorem Tx.str (T : Tx K mg) (i : Nat) {x z : Str} (h : fa[i]? = some (.str x z)) : ∃ u, mg x = some u ∧ RelV (.str z) u := by
  obtain ⟨h0, X, G⟩ := T.h
  obtain ⟨t, e⟩ := He.str_ok X G (T.fact i h)
  exact ⟨_, e, _, rfl⟩
theorem Tx.cls (T : Tx K mg) (i : Nat) {x : Str} (h : fa[i]? = some (.cls x)) : Cls K (He.ga K x) := He.cls_ok (T.fact i h)
theorem Tx.mkr (T : Tx K mg) (i : Nat) {x : Str} (h : fa[i]? = some (.mkr x)) : Mk K (He.ga K x) (He.ma K (He.ga K x) "__init__") := He.mkr_ok (T.fact i h)
theorem Tx.noat (T : Tx K mg) (i : Nat) {x f : Str} (h : fa[i]? = some (.noat x f)) : NoAttr K (He.ga K x) f := He.noat_ok (T.fact i h)
theorem Tx.meth (T : Tx K mg) (i : Nat) {x m : Str} (h : fa[i]? = some (.meth x m)) : Meth K (He.ga K x) m (He.ma K (He.ga K x) m) := He.meth_ok (T.fact i h)
theorem Tx.def_ (T : Tx K mg) (i : Nat) {d : He5.DefA} (h : fn[i]? = some d) : ∃ fd, FunD K d.name d.qual d.params d.body d.scope (d.dvs K) (d.kws K) (d.at_ K) fd := T.sa.def_ i h

theorem Tx.g_is_between (T : Tx K mg) : mg "is_between" = some (.ref (He.ga K "is_between")) := T.glo 0 (by rfl)
theorem Tx.g_is_moment (T : Tx K mg) : mg "is_moment" = some (.ref (He.ga K "is_moment")) := T.glo 1 (by rfl)
theorem Tx.g_is_word (T : Tx K mg) : mg "is_word" = some (.ref (He.ga K "is_word")) := T.glo 2 (by rfl)
theorem Tx.g_are_keys (T : Tx K mg) : mg "are_keys" = some (.ref (He.ga K "are_keys")) := T.glo 3 (by rfl)
theorem Tx.g_is_role (T : Tx K mg) : mg "is_role" = some (.ref (He.ga K "is_role")) := T.glo 4 (by rfl)
theorem Tx.g_are_roles (T : Tx K mg) : mg "are_roles" = some (.ref (He.ga K "are_roles")) := T.glo 5 (by rfl)
theorem Tx.g_is_edition (T : Tx K mg) : mg "is_edition" = some (.ref (He.ga K "is_edition")) := T.glo 6 (by rfl)
theorem Tx.g_follows (T : Tx K mg) : mg "follows" = some (.ref (He.ga K "follows")) := T.glo 7 (by rfl)
theorem Tx.g_check_editions (T : Tx K mg) : mg "check_editions" = some (.ref (He.ga K "check_editions")) := T.glo 8 (by rfl)
theorem Tx.g_check_roles (T : Tx K mg) : mg "check_roles" = some (.ref (He.ga K "check_roles")) := T.glo 9 (by rfl)
theorem Tx.g_check_plan (T : Tx K mg) : mg "check_plan" = some (.ref (He.ga K "check_plan")) := T.glo 10 (by rfl)
theorem Tx.g_check_kind (T : Tx K mg) : mg "check_kind" = some (.ref (He.ga K "check_kind")) := T.glo 11 (by rfl)
theorem Tx.g_check_number (T : Tx K mg) : mg "check_number" = some (.ref (He.ga K "check_number")) := T.glo 12 (by rfl)
theorem Tx.g_is_limit (T : Tx K mg) : mg "is_limit" = some (.ref (He.ga K "is_limit")) := T.glo 13 (by rfl)
theorem Tx.g_last_held (T : Tx K mg) : mg "last_held" = some (.ref (He.ga K "last_held")) := T.glo 14 (by rfl)
theorem Tx.g_range_of (T : Tx K mg) : mg "range_of" = some (.ref (He.ga K "range_of")) := T.glo 15 (by rfl)
theorem Tx.g_contents_list (T : Tx K mg) : mg "contents_list" = some (.ref (He.ga K "contents_list")) := T.glo 16 (by rfl)
theorem Tx.g_held_range (T : Tx K mg) : mg "held_range" = some (.ref (He.ga K "held_range")) := T.glo 17 (by rfl)
theorem Tx.g_jumps_of (T : Tx K mg) : mg "jumps_of" = some (.ref (He.ga K "jumps_of")) := T.glo 18 (by rfl)
theorem Tx.g_jumps (T : Tx K mg) : mg "jumps" = some (.ref (He.ga K "jumps")) := T.glo 19 (by rfl)
theorem Tx.g_found_lockouts (T : Tx K mg) : mg "found_lockouts" = some (.ref (He.ga K "found_lockouts")) := T.glo 20 (by rfl)
theorem Tx.g_lockouts (T : Tx K mg) : mg "lockouts" = some (.ref (He.ga K "lockouts")) := T.glo 21 (by rfl)
theorem Tx.g_client_range (T : Tx K mg) : mg "client_range" = some (.ref (He.ga K "client_range")) := T.glo 22 (by rfl)
theorem Tx.g_server_range (T : Tx K mg) : mg "server_range" = some (.ref (He.ga K "server_range")) := T.glo 23 (by rfl)
theorem Tx.g_do_meet (T : Tx K mg) : mg "do_meet" = some (.ref (He.ga K "do_meet")) := T.glo 24 (by rfl)
theorem Tx.g_pairs_of (T : Tx K mg) : mg "pairs_of" = some (.ref (He.ga K "pairs_of")) := T.glo 25 (by rfl)
theorem Tx.g_is_refused (T : Tx K mg) : mg "is_refused" = some (.ref (He.ga K "is_refused")) := T.glo 26 (by rfl)
theorem Tx.g_found_refusals (T : Tx K mg) : mg "found_refusals" = some (.ref (He.ga K "found_refusals")) := T.glo 27 (by rfl)
theorem Tx.g_refusals (T : Tx K mg) : mg "refusals" = some (.ref (He.ga K "refusals")) := T.glo 28 (by rfl)
theorem Tx.g_is_gap (T : Tx K mg) : mg "is_gap" = some (.ref (He.ga K "is_gap")) := T.glo 29 (by rfl)
theorem Tx.g_is_age (T : Tx K mg) : mg "is_age" = some (.ref (He.ga K "is_age")) := T.glo 30 (by rfl)
theorem Tx.g_chain_of (T : Tx K mg) : mg "chain_of" = some (.ref (He.ga K "chain_of")) := T.glo 31 (by rfl)
theorem Tx.g__law_stream (T : Tx K mg) : mg "_law_stream" = some (.ref (He.ga K "_law_stream")) := T.glo 32 (by rfl)
theorem Tx.g__law_draw (T : Tx K mg) : mg "_law_draw" = some (.ref (He.ga K "_law_draw")) := T.glo 33 (by rfl)
theorem Tx.g__law_choose (T : Tx K mg) : mg "_law_choose" = some (.ref (He.ga K "_law_choose")) := T.glo 34 (by rfl)
theorem Tx.g__law_some (T : Tx K mg) : mg "_law_some" = some (.ref (He.ga K "_law_some")) := T.glo 35 (by rfl)
theorem Tx.g__law_words (T : Tx K mg) : mg "_law_words" = some (.ref (He.ga K "_law_words")) := T.glo 36 (by rfl)
theorem Tx.g__law_kinds (T : Tx K mg) : mg "_law_kinds" = some (.ref (He.ga K "_law_kinds")) := T.glo 37 (by rfl)
theorem Tx.g__law_calls (T : Tx K mg) : mg "_law_calls" = some (.ref (He.ga K "_law_calls")) := T.glo 38 (by rfl)
theorem Tx.g__law_told (T : Tx K mg) : mg "_law_told" = some (.ref (He.ga K "_law_told")) := T.glo 39 (by rfl)
theorem Tx.g__law_turned (T : Tx K mg) : mg "_law_turned" = some (.ref (He.ga K "_law_turned")) := T.glo 40 (by rfl)
theorem Tx.g__law_next (T : Tx K mg) : mg "_law_next" = some (.ref (He.ga K "_law_next")) := T.glo 41 (by rfl)
theorem Tx.g__law_tolds (T : Tx K mg) : mg "_law_tolds" = some (.ref (He.ga K "_law_tolds")) := T.glo 42 (by rfl)
theorem Tx.g__law_moments (T : Tx K mg) : mg "_law_moments" = some (.ref (He.ga K "_law_moments")) := T.glo 43 (by rfl)
theorem Tx.g__law_contents (T : Tx K mg) : mg "_law_contents" = some (.ref (He.ga K "_law_contents")) := T.glo 44 (by rfl)
theorem Tx.g__law_plan (T : Tx K mg) : mg "_law_plan" = some (.ref (He.ga K "_law_plan")) := T.glo 45 (by rfl)
theorem Tx.g__law_fleet (T : Tx K mg) : mg "_law_fleet" = some (.ref (He.ga K "_law_fleet")) := T.glo 46 (by rfl)
theorem Tx.g__law_large (T : Tx K mg) : mg "_law_large" = some (.ref (He.ga K "_law_large")) := T.glo 47 (by rfl)
theorem Tx.g__law_moved_right (T : Tx K mg) : mg "_law_moved_right" = some (.ref (He.ga K "_law_moved_right")) := T.glo 48 (by rfl)
theorem Tx.g__law_cut_right (T : Tx K mg) : mg "_law_cut_right" = some (.ref (He.ga K "_law_cut_right")) := T.glo 49 (by rfl)
theorem Tx.g__law_led_told (T : Tx K mg) : mg "_law_led_told" = some (.ref (He.ga K "_law_led_told")) := T.glo 50 (by rfl)
theorem Tx.g__law_led_right (T : Tx K mg) : mg "_law_led_right" = some (.ref (He.ga K "_law_led_right")) := T.glo 51 (by rfl)
theorem Tx.g_law (T : Tx K mg) : mg "law" = some (.ref (He.ga K "law")) := T.glo 52 (by rfl)
theorem Tx.g_Contents (T : Tx K mg) : mg "Contents" = some (.ref (He.ga K "Contents")) := T.glo 53 (by rfl)
theorem Tx.g_Plan (T : Tx K mg) : mg "Plan" = some (.ref (He.ga K "Plan")) := T.glo 54 (by rfl)
theorem Tx.g_Range (T : Tx K mg) : mg "Range" = some (.ref (He.ga K "Range")) := T.glo 55 (by rfl)
theorem Tx.g_Kind (T : Tx K mg) : mg "Kind" = some (.ref (He.ga K "Kind")) := T.glo 56 (by rfl)
theorem Tx.g_Fleet (T : Tx K mg) : mg "Fleet" = some (.ref (He.ga K "Fleet")) := T.glo 57 (by rfl)
theorem Tx.f_isinstance (T : Tx K mg) : mg "isinstance" = none := T.free 58 (by rfl)
theorem Tx.f_int (T : Tx K mg) : mg "int" = none := T.free 59 (by rfl)
theorem Tx.f_bool (T : Tx K mg) : mg "bool" = none := T.free 60 (by rfl)
theorem Tx.f_str (T : Tx K mg) : mg "str" = none := T.free 61 (by rfl)
theorem Tx.f_len (T : Tx K mg) : mg "len" = none := T.free 62 (by rfl)
theorem Tx.f_all (T : Tx K mg) : mg "all" = none := T.free 63 (by rfl)
theorem Tx.f_list (T : Tx K mg) : mg "list" = none := T.free 64 (by rfl)
theorem Tx.f_tuple (T : Tx K mg) : mg "tuple" = none := T.free 65 (by rfl)
theorem Tx.f_dict (T : Tx K mg) : mg "dict" = none := T.free 66 (by rfl)
theorem Tx.f_sorted (T : Tx K mg) : mg "sorted" = none := T.free 67 (by rfl)
theorem Tx.f_range (T : Tx K mg) : mg "range" = none := T.free 68 (by rfl)
theorem Tx.f_enumerate (T : Tx K mg) : mg "enumerate" = none := T.free 69 (by rfl)
theorem Tx.f_max (T : Tx K mg) : mg "max" = none := T.free 70 (by rfl)
theorem Tx.f_min (T : Tx K mg) : mg "min" = none := T.free 71 (by rfl)
theorem Tx.f_zip (T : Tx K mg) : mg "zip" = none := T.free 72 (by rfl)
theorem Tx.i_MOST_LETTERS (T : Tx K mg) : ∃ u, mg "MOST_LETTERS" = some u ∧ RelV (.int 8) u := T.int 73 (by rfl)
theorem Tx.i_MOST_INTEGER (T : Tx K mg) : ∃ u, mg "MOST_INTEGER" = some u ∧ RelV (.int (10 ^ 60 - 1)) u := T.int 74 (by rfl)
theorem Tx.i_MOST_MOMENT (T : Tx K mg) : ∃ u, mg "MOST_MOMENT" = some u ∧ RelV (.int (10 ^ 40)) u := T.int 75 (by rfl)
theorem Tx.i_MOST_GAP (T : Tx K mg) : ∃ u, mg "MOST_GAP" = some u ∧ RelV (.int (10 ^ 30)) u := T.int 76 (by rfl)
theorem Tx.i_MOST_ROLES (T : Tx K mg) : ∃ u, mg "MOST_ROLES" = some u ∧ RelV (.int 3) u := T.int 77 (by rfl)
theorem Tx.i_MOST_ACCEPTED (T : Tx K mg) : ∃ u, mg "MOST_ACCEPTED" = some u ∧ RelV (.int 8) u := T.int 78 (by rfl)
theorem Tx.i_MOST_VOUCHERS (T : Tx K mg) : ∃ u, mg "MOST_VOUCHERS" = some u ∧ RelV (.int 4) u := T.int 79 (by rfl)
theorem Tx.i_MOST_EDITIONS (T : Tx K mg) : ∃ u, mg "MOST_EDITIONS" = some u ∧ RelV (.int 7) u := T.int 80 (by rfl)
theorem Tx.i_MOST_KINDS (T : Tx K mg) : ∃ u, mg "MOST_KINDS" = some u ∧ RelV (.int 5) u := T.int 81 (by rfl)
theorem Tx.i_MOST_CHAIN (T : Tx K mg) : ∃ u, mg "MOST_CHAIN" = some u ∧ RelV (.int 4) u := T.int 82 (by rfl)
theorem Tx.i_MOST_CALLS (T : Tx K mg) : ∃ u, mg "MOST_CALLS" = some u ∧ RelV (.int 6) u := T.int 83 (by rfl)
theorem Tx.i_LETTERS (T : Tx K mg) : ∃ u, mg "LETTERS" = some u ∧ RelV (.str "abcdefghijklmnopqrstuvwxyz") u := T.str 84 (by rfl)
theorem Tx.c_Contents (T : Tx K mg) : Cls K (He.ga K "Contents") := T.cls 85 (by rfl)
theorem Tx.k_Contents (T : Tx K mg) : Mk K (He.ga K "Contents") (He.ma K (He.ga K "Contents") "__init__") := T.mkr 86 (by rfl)
theorem Tx.n_Contents_own_roles (T : Tx K mg) : NoAttr K (He.ga K "Contents") "own_roles" := T.noat 87 (by rfl)
theorem Tx.n_Contents_own_vouchers (T : Tx K mg) : NoAttr K (He.ga K "Contents") "own_vouchers" := T.noat 88 (by rfl)
theorem Tx.n_Contents_own_needed (T : Tx K mg) : NoAttr K (He.ga K "Contents") "own_needed" := T.noat 89 (by rfl)
theorem Tx.n_Contents_own_signers (T : Tx K mg) : NoAttr K (He.ga K "Contents") "own_signers" := T.noat 90 (by rfl)
theorem Tx.m_Contents_part_of (T : Tx K mg) : Meth K (He.ga K "Contents") "part_of" (He.ma K (He.ga K "Contents") "part_of") := T.meth 91 (by rfl)
theorem Tx.m_Contents_accepted (T : Tx K mg) : Meth K (He.ga K "Contents") "accepted" (He.ma K (He.ga K "Contents") "accepted") := T.meth 92 (by rfl)
theorem Tx.m_Contents_used (T : Tx K mg) : Meth K (He.ga K "Contents") "used" (He.ma K (He.ga K "Contents") "used") := T.meth 93 (by rfl)
theorem Tx.m_Contents_takes (T : Tx K mg) : Meth K (He.ga K "Contents") "takes" (He.ma K (He.ga K "Contents") "takes") := T.meth 94 (by rfl)
theorem Tx.c_Plan (T : Tx K mg) : Cls K (He.ga K "Plan") := T.cls 95 (by rfl)
theorem Tx.k_Plan (T : Tx K mg) : Mk K (He.ga K "Plan") (He.ma K (He.ga K "Plan") "__init__") := T.mkr 96 (by rfl)
theorem Tx.n_Plan_editions (T : Tx K mg) : NoAttr K (He.ga K "Plan") "editions" := T.noat 97 (by rfl)
theorem Tx.m_Plan___len__ (T : Tx K mg) : Meth K (He.ga K "Plan") "__len__" (He.ma K (He.ga K "Plan") "__len__") := T.meth 98 (by rfl)
theorem Tx.m_Plan_check (T : Tx K mg) : Meth K (He.ga K "Plan") "check" (He.ma K (He.ga K "Plan") "check") := T.meth 99 (by rfl)
theorem Tx.m_Plan_contents_of (T : Tx K mg) : Meth K (He.ga K "Plan") "contents_of" (He.ma K (He.ga K "Plan") "contents_of") := T.meth 100 (by rfl)
theorem Tx.m_Plan_moments (T : Tx K mg) : Meth K (He.ga K "Plan") "moments" (He.ma K (He.ga K "Plan") "moments") := T.meth 101 (by rfl)
theorem Tx.m_Plan_cut (T : Tx K mg) : Meth K (He.ga K "Plan") "cut" (He.ma K (He.ga K "Plan") "cut") := T.meth 102 (by rfl)
theorem Tx.c_Range (T : Tx K mg) : Cls K (He.ga K "Range") := T.cls 103 (by rfl)
theorem Tx.k_Range (T : Tx K mg) : Mk K (He.ga K "Range") (He.ma K (He.ga K "Range") "__init__") := T.mkr 104 (by rfl)
theorem Tx.n_Range_own_first (T : Tx K mg) : NoAttr K (He.ga K "Range") "own_first" := T.noat 105 (by rfl)
theorem Tx.n_Range_own_last (T : Tx K mg) : NoAttr K (He.ga K "Range") "own_last" := T.noat 106 (by rfl)
theorem Tx.n_Range_rank (T : Tx K mg) : NoAttr K (He.ga K "Range") "rank" := T.noat 107 (by rfl)
theorem Tx.m_Range___bool__ (T : Tx K mg) : Meth K (He.ga K "Range") "__bool__" (He.ma K (He.ga K "Range") "__bool__") := T.meth 108 (by rfl)
theorem Tx.m_Range___eq__ (T : Tx K mg) : Meth K (He.ga K "Range") "__eq__" (He.ma K (He.ga K "Range") "__eq__") := T.meth 109 (by rfl)
theorem Tx.m_Range___and__ (T : Tx K mg) : Meth K (He.ga K "Range") "__and__" (He.ma K (He.ga K "Range") "__and__") := T.meth 110 (by rfl)
theorem Tx.m_Range_moved (T : Tx K mg) : Meth K (He.ga K "Range") "moved" (He.ma K (He.ga K "Range") "moved") := T.meth 111 (by rfl)
theorem Tx.m_Range___add__ (T : Tx K mg) : Meth K (He.ga K "Range") "__add__" (He.ma K (He.ga K "Range") "__add__") := T.meth 112 (by rfl)
theorem Tx.c_Kind (T : Tx K mg) : Cls K (He.ga K "Kind") := T.cls 113 (by rfl)
theorem Tx.k_Kind (T : Tx K mg) : Mk K (He.ga K "Kind") (He.ma K (He.ga K "Kind") "__init__") := T.mkr 114 (by rfl)
theorem Tx.n_Kind_own_gap (T : Tx K mg) : NoAttr K (He.ga K "Kind") "own_gap" := T.noat 115 (by rfl)
theorem Tx.n_Kind_own_age (T : Tx K mg) : NoAttr K (He.ga K "Kind") "own_age" := T.noat 116 (by rfl)
theorem Tx.n_Kind_own_source (T : Tx K mg) : NoAttr K (He.ga K "Kind") "own_source" := T.noat 117 (by rfl)
theorem Tx.m_Kind_twin (T : Tx K mg) : Meth K (He.ga K "Kind") "twin" (He.ma K (He.ga K "Kind") "twin") := T.meth 118 (by rfl)
theorem Tx.c_Fleet (T : Tx K mg) : Cls K (He.ga K "Fleet") := T.cls 119 (by rfl)
theorem Tx.k_Fleet (T : Tx K mg) : Mk K (He.ga K "Fleet") (He.ma K (He.ga K "Fleet") "__init__") := T.mkr 120 (by rfl)
theorem Tx.n_Fleet_kinds (T : Tx K mg) : NoAttr K (He.ga K "Fleet") "kinds" := T.noat 121 (by rfl)
theorem Tx.n_Fleet_rows (T : Tx K mg) : NoAttr K (He.ga K "Fleet") "rows" := T.noat 122 (by rfl)
theorem Tx.m_Fleet___contains__ (T : Tx K mg) : Meth K (He.ga K "Fleet") "__contains__" (He.ma K (He.ga K "Fleet") "__contains__") := T.meth 123 (by rfl)
theorem Tx.m_Fleet___setitem__ (T : Tx K mg) : Meth K (He.ga K "Fleet") "__setitem__" (He.ma K (He.ga K "Fleet") "__setitem__") := T.meth 124 (by rfl)
theorem Tx.m_Fleet_sources (T : Tx K mg) : Meth K (He.ga K "Fleet") "sources" (He.ma K (He.ga K "Fleet") "sources") := T.meth 125 (by rfl)
theorem Tx.m_Fleet_check (T : Tx K mg) : Meth K (He.ga K "Fleet") "check" (He.ma K (He.ga K "Fleet") "check") := T.meth 126 (by rfl)
theorem Tx.m_Fleet_names (T : Tx K mg) : Meth K (He.ga K "Fleet") "names" (He.ma K (He.ga K "Fleet") "names") := T.meth 127 (by rfl)
theorem Tx.m_Fleet_chain (T : Tx K mg) : Meth K (He.ga K "Fleet") "chain" (He.ma K (He.ga K "Fleet") "chain") := T.meth 128 (by rfl)
theorem Tx.m_Fleet_lateness (T : Tx K mg) : Meth K (He.ga K "Fleet") "lateness" (He.ma K (He.ga K "Fleet") "lateness") := T.meth 129 (by rfl)
theorem Tx.m_Fleet_add_call (T : Tx K mg) : Meth K (He.ga K "Fleet") "add_call" (He.ma K (He.ga K "Fleet") "add_call") := T.meth 130 (by rfl)
theorem Tx.m_Fleet_calls (T : Tx K mg) : Meth K (He.ga K "Fleet") "calls" (He.ma K (He.ga K "Fleet") "calls") := T.meth 131 (by rfl)
theorem Tx.d_is_between (T : Tx K mg) : ∃ fd, FunD K "is_between" "is_between" (defArgs (top 7)) (defBody (top 7)) (defScope (top 7)) [] [] (He.ga K "is_between") fd := T.def_ 0 (by rfl)
theorem Tx.d_is_moment (T : Tx K mg) : ∃ fd, FunD K "is_moment" "is_moment" (defArgs (top 8)) (defBody (top 8)) (defScope (top 8)) [] [] (He.ga K "is_moment") fd := T.def_ 1 (by rfl)
theorem Tx.d_is_word (T : Tx K mg) : ∃ fd, FunD K "is_word" "is_word" (defArgs (top 9)) (defBody (top 9)) (defScope (top 9)) [] [] (He.ga K "is_word") fd := T.def_ 2 (by rfl)
theorem Tx.d_are_keys (T : Tx K mg) : ∃ fd, FunD K "are_keys" "are_keys" (defArgs (top 10)) (defBody (top 10)) (defScope (top 10)) [] [] (He.ga K "are_keys") fd := T.def_ 3 (by rfl)
theorem Tx.d_is_role (T : Tx K mg) : ∃ fd, FunD K "is_role" "is_role" (defArgs (top 26)) (defBody (top 26)) (defScope (top 26)) [] [] (He.ga K "is_role") fd := T.def_ 4 (by rfl)
theorem Tx.d_are_roles (T : Tx K mg) : ∃ fd, FunD K "are_roles" "are_roles" (defArgs (top 27)) (defBody (top 27)) (defScope (top 27)) [] [] (He.ga K "are_roles") fd := T.def_ 5 (by rfl)
theorem Tx.d_is_edition (T : Tx K mg) : ∃ fd, FunD K "is_edition" "is_edition" (defArgs (top 31)) (defBody (top 31)) (defScope (top 31)) [] [] (He.ga K "is_edition") fd := T.def_ 6 (by rfl)
theorem Tx.d_follows (T : Tx K mg) : ∃ fd, FunD K "follows" "follows" (defArgs (top 32)) (defBody (top 32)) (defScope (top 32)) [] [] (He.ga K "follows") fd := T.def_ 7 (by rfl)
theorem Tx.d_check_editions (T : Tx K mg) : ∃ fd, FunD K "check_editions" "check_editions" (defArgs (top 33)) (defBody (top 33)) (defScope (top 33)) [] [] (He.ga K "check_editions") fd := T.def_ 8 (by rfl)
theorem Tx.d_check_roles (T : Tx K mg) : ∃ fd, FunD K "check_roles" "check_roles" (defArgs (top 36)) (defBody (top 36)) (defScope (top 36)) [] [] (He.ga K "check_roles") fd := T.def_ 9 (by rfl)
theorem Tx.d_check_plan (T : Tx K mg) : ∃ fd, FunD K "check_plan" "check_plan" (defArgs (top 37)) (defBody (top 37)) (defScope (top 37)) [] [] (He.ga K "check_plan") fd := T.def_ 10 (by rfl)
theorem Tx.d_check_kind (T : Tx K mg) : ∃ fd, FunD K "check_kind" "check_kind" (defArgs (top 38)) (defBody (top 38)) (defScope (top 38)) [] [] (He.ga K "check_kind") fd := T.def_ 11 (by rfl)
theorem Tx.d_check_number (T : Tx K mg) : ∃ fd, FunD K "check_number" "check_number" (defArgs (top 39)) (defBody (top 39)) (defScope (top 39)) [] [] (He.ga K "check_number") fd := T.def_ 12 (by rfl)
theorem Tx.d_is_limit (T : Tx K mg) : ∃ fd, FunD K "is_limit" "is_limit" (defArgs (top 41)) (defBody (top 41)) (defScope (top 41)) [] [] (He.ga K "is_limit") fd := T.def_ 13 (by rfl)
theorem Tx.d_last_held (T : Tx K mg) : ∃ fd, FunD K "last_held" "last_held" (defArgs (top 44)) (defBody (top 44)) (defScope (top 44)) [] [] (He.ga K "last_held") fd := T.def_ 14 (by rfl)
theorem Tx.d_range_of (T : Tx K mg) : ∃ fd, FunD K "range_of" "range_of" (defArgs (top 45)) (defBody (top 45)) (defScope (top 45)) [] [] (He.ga K "range_of") fd := T.def_ 15 (by rfl)
theorem Tx.d_contents_list (T : Tx K mg) : ∃ fd, FunD K "contents_list" "contents_list" (defArgs (top 46)) (defBody (top 46)) (defScope (top 46)) [] [] (He.ga K "contents_list") fd := T.def_ 16 (by rfl)
theorem Tx.d_held_range (T : Tx K mg) : ∃ fd, FunD K "held_range" "held_range" (defArgs (top 47)) (defBody (top 47)) (defScope (top 47)) [] [] (He.ga K "held_range") fd := T.def_ 17 (by rfl)
theorem Tx.d_jumps_of (T : Tx K mg) : ∃ fd, FunD K "jumps_of" "jumps_of" (defArgs (top 48)) (defBody (top 48)) (defScope (top 48)) [] [] (He.ga K "jumps_of") fd := T.def_ 18 (by rfl)
theorem Tx.d_jumps (T : Tx K mg) : ∃ fd, FunD K "jumps" "jumps" (defArgs (top 49)) (defBody (top 49)) (defScope (top 49)) [] [] (He.ga K "jumps") fd := T.def_ 19 (by rfl)
theorem Tx.d_found_lockouts (T : Tx K mg) : ∃ fd, FunD K "found_lockouts" "found_lockouts" (defArgs (top 50)) (defBody (top 50)) (defScope (top 50)) [] [] (He.ga K "found_lockouts") fd := T.def_ 20 (by rfl)
theorem Tx.d_lockouts (T : Tx K mg) : ∃ fd, FunD K "lockouts" "lockouts" (defArgs (top 51)) (defBody (top 51)) (defScope (top 51)) [] [] (He.ga K "lockouts") fd := T.def_ 21 (by rfl)
theorem Tx.d_client_range (T : Tx K mg) : ∃ fd, FunD K "client_range" "client_range" (defArgs (top 53)) (defBody (top 53)) (defScope (top 53)) [] [] (He.ga K "client_range") fd := T.def_ 22 (by rfl)
theorem Tx.d_server_range (T : Tx K mg) : ∃ fd, FunD K "server_range" "server_range" (defArgs (top 54)) (defBody (top 54)) (defScope (top 54)) [] [] (He.ga K "server_range") fd := T.def_ 23 (by rfl)
theorem Tx.d_do_meet (T : Tx K mg) : ∃ fd, FunD K "do_meet" "do_meet" (defArgs (top 55)) (defBody (top 55)) (defScope (top 55)) [] [] (He.ga K "do_meet") fd := T.def_ 24 (by rfl)
theorem Tx.d_pairs_of (T : Tx K mg) : ∃ fd, FunD K "pairs_of" "pairs_of" (defArgs (top 56)) (defBody (top 56)) (defScope (top 56)) [] [] (He.ga K "pairs_of") fd := T.def_ 25 (by rfl)
theorem Tx.d_is_refused (T : Tx K mg) : ∃ fd, FunD K "is_refused" "is_refused" (defArgs (top 57)) (defBody (top 57)) (defScope (top 57)) [] [] (He.ga K "is_refused") fd := T.def_ 26 (by rfl)
theorem Tx.d_found_refusals (T : Tx K mg) : ∃ fd, FunD K "found_refusals" "found_refusals" (defArgs (top 58)) (defBody (top 58)) (defScope (top 58)) [] [] (He.ga K "found_refusals") fd := T.def_ 27 (by rfl)
theorem Tx.d_refusals (T : Tx K mg) : ∃ fd, FunD K "refusals" "refusals" (defArgs (top 59)) (defBody (top 59)) (defScope (top 59)) [] [] (He.ga K "refusals") fd := T.def_ 28 (by rfl)
theorem Tx.d_is_gap (T : Tx K mg) : ∃ fd, FunD K "is_gap" "is_gap" (defArgs (top 64)) (defBody (top 64)) (defScope (top 64)) [] [] (He.ga K "is_gap") fd := T.def_ 29 (by rfl)
theorem Tx.d_is_age (T : Tx K mg) : ∃ fd, FunD K "is_age" "is_age" (defArgs (top 65)) (defBody (top 65)) (defScope (top 65)) [] [] (He.ga K "is_age") fd := T.def_ 30 (by rfl)
theorem Tx.d_chain_of (T : Tx K mg) : ∃ fd, FunD K "chain_of" "chain_of" (defArgs (top 67)) (defBody (top 67)) (defScope (top 67)) [] [] (He.ga K "chain_of") fd := T.def_ 31 (by rfl)
theorem Tx.d__law_stream (T : Tx K mg) : ∃ fd, FunD K "_law_stream" "_law_stream" (defArgs (top 70)) (defBody (top 70)) (defScope (top 70)) [] [] (He.ga K "_law_stream") fd := T.def_ 32 (by rfl)
theorem Tx.d__law_draw (T : Tx K mg) : ∃ fd, FunD K "_law_draw" "_law_draw" (defArgs (top 71)) (defBody (top 71)) (defScope (top 71)) [] [] (He.ga K "_law_draw") fd := T.def_ 33 (by rfl)
theorem Tx.d__law_choose (T : Tx K mg) : ∃ fd, FunD K "_law_choose" "_law_choose" (defArgs (top 72)) (defBody (top 72)) (defScope (top 72)) [] [] (He.ga K "_law_choose") fd := T.def_ 34 (by rfl)
theorem Tx.d__law_some (T : Tx K mg) : ∃ fd, FunD K "_law_some" "_law_some" (defArgs (top 73)) (defBody (top 73)) (defScope (top 73)) [] [] (He.ga K "_law_some") fd := T.def_ 35 (by rfl)
theorem Tx.d__law_words (T : Tx K mg) : ∃ fd, FunD K "_law_words" "_law_words" (defArgs (top 74)) (defBody (top 74)) (defScope (top 74)) [] [] (He.ga K "_law_words") fd := T.def_ 36 (by rfl)
theorem Tx.d__law_kinds (T : Tx K mg) : ∃ fd, FunD K "_law_kinds" "_law_kinds" (defArgs (top 75)) (defBody (top 75)) (defScope (top 75)) [] [] (He.ga K "_law_kinds") fd := T.def_ 37 (by rfl)
theorem Tx.d__law_calls (T : Tx K mg) : ∃ fd, FunD K "_law_calls" "_law_calls" (defArgs (top 76)) (defBody (top 76)) (defScope (top 76)) [] [] (He.ga K "_law_calls") fd := T.def_ 38 (by rfl)
theorem Tx.d__law_told (T : Tx K mg) : ∃ fd, FunD K "_law_told" "_law_told" (defArgs (top 77)) (defBody (top 77)) (defScope (top 77)) [] [] (He.ga K "_law_told") fd := T.def_ 39 (by rfl)
theorem Tx.d__law_turned (T : Tx K mg) : ∃ fd, FunD K "_law_turned" "_law_turned" (defArgs (top 78)) (defBody (top 78)) (defScope (top 78)) [] [] (He.ga K "_law_turned") fd := T.def_ 40 (by rfl)
theorem Tx.d__law_next (T : Tx K mg) : ∃ fd, FunD K "_law_next" "_law_next" (defArgs (top 79)) (defBody (top 79)) (defScope (top 79)) [] [] (He.ga K "_law_next") fd := T.def_ 41 (by rfl)
theorem Tx.d__law_tolds (T : Tx K mg) : ∃ fd, FunD K "_law_tolds" "_law_tolds" (defArgs (top 80)) (defBody (top 80)) (defScope (top 80)) [] [] (He.ga K "_law_tolds") fd := T.def_ 42 (by rfl)
theorem Tx.d__law_moments (T : Tx K mg) : ∃ fd, FunD K "_law_moments" "_law_moments" (defArgs (top 81)) (defBody (top 81)) (defScope (top 81)) [] [] (He.ga K "_law_moments") fd := T.def_ 43 (by rfl)
theorem Tx.d__law_contents (T : Tx K mg) : ∃ fd, FunD K "_law_contents" "_law_contents" (defArgs (top 82)) (defBody (top 82)) (defScope (top 82)) [] [] (He.ga K "_law_contents") fd := T.def_ 44 (by rfl)
theorem Tx.d__law_plan (T : Tx K mg) : ∃ fd, FunD K "_law_plan" "_law_plan" (defArgs (top 83)) (defBody (top 83)) (defScope (top 83)) [] [] (He.ga K "_law_plan") fd := T.def_ 45 (by rfl)
theorem Tx.d__law_fleet (T : Tx K mg) : ∃ fd, FunD K "_law_fleet" "_law_fleet" (defArgs (top 84)) (defBody (top 84)) (defScope (top 84)) [] [] (He.ga K "_law_fleet") fd := T.def_ 46 (by rfl)
theorem Tx.d__law_large (T : Tx K mg) : ∃ fd, FunD K "_law_large" "_law_large" (defArgs (top 85)) (defBody (top 85)) (defScope (top 85)) [] [] (He.ga K "_law_large") fd := T.def_ 47 (by rfl)
theorem Tx.d__law_moved_right (T : Tx K mg) : ∃ fd, FunD K "_law_moved_right" "_law_moved_right" (defArgs (top 86)) (defBody (top 86)) (defScope (top 86)) [] [] (He.ga K "_law_moved_right") fd := T.def_ 48 (by rfl)
theorem Tx.d__law_cut_right (T : Tx K mg) : ∃ fd, FunD K "_law_cut_right" "_law_cut_right" (defArgs (top 87)) (defBody (top 87)) (defScope (top 87)) [] [] (He.ga K "_law_cut_right") fd := T.def_ 49 (by rfl)
theorem Tx.d__law_led_told (T : Tx K mg) : ∃ fd, FunD K "_law_led_told" "_law_led_told" (defArgs (top 88)) (defBody (top 88)) (defScope (top 88)) [] [] (He.ga K "_law_led_told") fd := T.def_ 50 (by rfl)
theorem Tx.d__law_led_right (T : Tx K mg) : ∃ fd, FunD K "_law_led_right" "_law_led_right" (defArgs (top 89)) (defBody (top 89)) (defScope (top 89)) [] [] (He.ga K "_law_led_right") fd := T.def_ 51 (by rfl)
theorem Tx.d_law (T : Tx K mg) : ∃ fd, FunD K "law" "law" (defArgs (top 90)) (defBody (top 90)) (defScope (top 90)) [] [] (He.ga K "law") fd := T.def_ 52 (by rfl)
theorem Tx.d_Contents___init__ (T : Tx K mg) : ∃ fd, FunD K "__init__" "Contents.__init__" (defArgs (inClass (top 28) 0)) (defBody (inClass (top 28) 0)) (defScope (inClass (top 28) 0)) [] [("needed", .int 1), ("signers", .non)] (He.ma K (He.ga K "Contents") "__init__") fd := T.def_ 53 (by rfl)
theorem Tx.d_Contents_part_of (T : Tx K mg) : ∃ fd, FunD K "part_of" "Contents.part_of" (defArgs (inClass (top 28) 5)) (defBody (inClass (top 28) 5)) (defScope (inClass (top 28) 5)) [] [] (He.ma K (He.ga K "Contents") "part_of") fd := T.def_ 54 (by rfl)
theorem Tx.d_Contents_accepted (T : Tx K mg) : ∃ fd, FunD K "accepted" "Contents.accepted" (defArgs (inClass (top 28) 6)) (defBody (inClass (top 28) 6)) (defScope (inClass (top 28) 6)) [] [] (He.ma K (He.ga K "Contents") "accepted") fd := T.def_ 55 (by rfl)
theorem Tx.d_Contents_used (T : Tx K mg) : ∃ fd, FunD K "used" "Contents.used" (defArgs (inClass (top 28) 7)) (defBody (inClass (top 28) 7)) (defScope (inClass (top 28) 7)) [] [] (He.ma K (He.ga K "Contents") "used") fd := T.def_ 56 (by rfl)
theorem Tx.d_Contents_takes (T : Tx K mg) : ∃ fd, FunD K "takes" "Contents.takes" (defArgs (inClass (top 28) 11)) (defBody (inClass (top 28) 11)) (defScope (inClass (top 28) 11)) [] [] (He.ma K (He.ga K "Contents") "takes") fd := T.def_ 57 (by rfl)
theorem Tx.d_Contents_roles (T : Tx K mg) : ∃ fd, FunD K "roles" "Contents.roles" (defArgs (inClass (top 28) 1)) (defBody (inClass (top 28) 1)) (defScope (inClass (top 28) 1)) [] [] (pgA K (He.ga K "Contents") "roles") fd := T.def_ 58 (by rfl)
theorem Tx.d_Plan___init__ (T : Tx K mg) : ∃ fd, FunD K "__init__" "Plan.__init__" (defArgs (inClass (top 34) 0)) (defBody (inClass (top 34) 0)) (defScope (inClass (top 34) 0)) [] [] (He.ma K (He.ga K "Plan") "__init__") fd := T.def_ 59 (by rfl)
theorem Tx.d_Plan___len__ (T : Tx K mg) : ∃ fd, FunD K "__len__" "Plan.__len__" (defArgs (inClass (top 34) 1)) (defBody (inClass (top 34) 1)) (defScope (inClass (top 34) 1)) [] [] (He.ma K (He.ga K "Plan") "__len__") fd := T.def_ 60 (by rfl)
theorem Tx.d_Plan_check (T : Tx K mg) : ∃ fd, FunD K "check" "Plan.check" (defArgs (inClass (top 34) 4)) (defBody (inClass (top 34) 4)) (defScope (inClass (top 34) 4)) [] [] (He.ma K (He.ga K "Plan") "check") fd := T.def_ 61 (by rfl)
theorem Tx.d_Plan_contents_of (T : Tx K mg) : ∃ fd, FunD K "contents_of" "Plan.contents_of" (defArgs (inClass (top 34) 8)) (defBody (inClass (top 34) 8)) (defScope (inClass (top 34) 8)) [] [] (He.ma K (He.ga K "Plan") "contents_of") fd := T.def_ 62 (by rfl)
theorem Tx.d_Plan_moments (T : Tx K mg) : ∃ fd, FunD K "moments" "Plan.moments" (defArgs (inClass (top 34) 9)) (defBody (inClass (top 34) 9)) (defScope (inClass (top 34) 9)) [] [] (He.ma K (He.ga K "Plan") "moments") fd := T.def_ 63 (by rfl)
theorem Tx.d_Plan_cut (T : Tx K mg) : ∃ fd, FunD K "cut" "Plan.cut" (defArgs (inClass (top 34) 14)) (defBody (inClass (top 34) 14)) (defScope (inClass (top 34) 14)) [] [] (He.ma K (He.ga K "Plan") "cut") fd := T.def_ 64 (by rfl)
theorem Tx.d_Range___init__ (T : Tx K mg) : ∃ fd, FunD K "__init__" "Range.__init__" (defArgs (inClass (top 42) 0)) (defBody (inClass (top 42) 0)) (defScope (inClass (top 42) 0)) [] [] (He.ma K (He.ga K "Range") "__init__") fd := T.def_ 65 (by rfl)
theorem Tx.d_Range___bool__ (T : Tx K mg) : ∃ fd, FunD K "__bool__" "Range.__bool__" (defArgs (inClass (top 42) 7)) (defBody (inClass (top 42) 7)) (defScope (inClass (top 42) 7)) [] [] (He.ma K (He.ga K "Range") "__bool__") fd := T.def_ 66 (by rfl)
theorem Tx.d_Range___eq__ (T : Tx K mg) : ∃ fd, FunD K "__eq__" "Range.__eq__" (defArgs (inClass (top 42) 9)) (defBody (inClass (top 42) 9)) (defScope (inClass (top 42) 9)) [] [] (He.ma K (He.ga K "Range") "__eq__") fd := T.def_ 67 (by rfl)
theorem Tx.d_Range___and__ (T : Tx K mg) : ∃ fd, FunD K "__and__" "Range.__and__" (defArgs (inClass (top 42) 16)) (defBody (inClass (top 42) 16)) (defScope (inClass (top 42) 16)) [] [] (He.ma K (He.ga K "Range") "__and__") fd := T.def_ 68 (by rfl)
theorem Tx.d_Range_moved (T : Tx K mg) : ∃ fd, FunD K "moved" "Range.moved" (defArgs (inClass (top 42) 17)) (defBody (inClass (top 42) 17)) (defScope (inClass (top 42) 17)) [] [] (He.ma K (He.ga K "Range") "moved") fd := T.def_ 69 (by rfl)
theorem Tx.d_Range___add__ (T : Tx K mg) : ∃ fd, FunD K "__add__" "Range.__add__" (defArgs (inClass (top 42) 18)) (defBody (inClass (top 42) 18)) (defScope (inClass (top 42) 18)) [] [] (He.ma K (He.ga K "Range") "__add__") fd := T.def_ 70 (by rfl)
theorem Tx.d_Kind___init__ (T : Tx K mg) : ∃ fd, FunD K "__init__" "Kind.__init__" (defArgs (inClass (top 66) 0)) (defBody (inClass (top 66) 0)) (defScope (inClass (top 66) 0)) [] [("age", .non), ("source", .non)] (He.ma K (He.ga K "Kind") "__init__") fd := T.def_ 71 (by rfl)
theorem Tx.d_Kind_twin (T : Tx K mg) : ∃ fd, FunD K "twin" "Kind.twin" (defArgs (inClass (top 66) 8)) (defBody (inClass (top 66) 8)) (defScope (inClass (top 66) 8)) [] [] (He.ma K (He.ga K "Kind") "twin") fd := T.def_ 72 (by rfl)
theorem Tx.d_Fleet___init__ (T : Tx K mg) : ∃ fd, FunD K "__init__" "Fleet.__init__" (defArgs (inClass (top 68) 0)) (defBody (inClass (top 68) 0)) (defScope (inClass (top 68) 0)) [] [] (He.ma K (He.ga K "Fleet") "__init__") fd := T.def_ 73 (by rfl)
theorem Tx.d_Fleet___contains__ (T : Tx K mg) : ∃ fd, FunD K "__contains__" "Fleet.__contains__" (defArgs (inClass (top 68) 4)) (defBody (inClass (top 68) 4)) (defScope (inClass (top 68) 4)) [] [] (He.ma K (He.ga K "Fleet") "__contains__") fd := T.def_ 74 (by rfl)
theorem Tx.d_Fleet___setitem__ (T : Tx K mg) : ∃ fd, FunD K "__setitem__" "Fleet.__setitem__" (defArgs (inClass (top 68) 6)) (defBody (inClass (top 68) 6)) (defScope (inClass (top 68) 6)) [] [] (He.ma K (He.ga K "Fleet") "__setitem__") fd := T.def_ 75 (by rfl)
theorem Tx.d_Fleet_sources (T : Tx K mg) : ∃ fd, FunD K "sources" "Fleet.sources" (defArgs (inClass (top 68) 7)) (defBody (inClass (top 68) 7)) (defScope (inClass (top 68) 7)) [] [] (He.ma K (He.ga K "Fleet") "sources") fd := T.def_ 76 (by rfl)
theorem Tx.d_Fleet_check (T : Tx K mg) : ∃ fd, FunD K "check" "Fleet.check" (defArgs (inClass (top 68) 8)) (defBody (inClass (top 68) 8)) (defScope (inClass (top 68) 8)) [] [] (He.ma K (He.ga K "Fleet") "check") fd := T.def_ 77 (by rfl)
theorem Tx.d_Fleet_names (T : Tx K mg) : ∃ fd, FunD K "names" "Fleet.names" (defArgs (inClass (top 68) 9)) (defBody (inClass (top 68) 9)) (defScope (inClass (top 68) 9)) [] [] (He.ma K (He.ga K "Fleet") "names") fd := T.def_ 78 (by rfl)
theorem Tx.d_Fleet_chain (T : Tx K mg) : ∃ fd, FunD K "chain" "Fleet.chain" (defArgs (inClass (top 68) 10)) (defBody (inClass (top 68) 10)) (defScope (inClass (top 68) 10)) [] [] (He.ma K (He.ga K "Fleet") "chain") fd := T.def_ 79 (by rfl)
theorem Tx.d_Fleet_lateness (T : Tx K mg) : ∃ fd, FunD K "lateness" "Fleet.lateness" (defArgs (inClass (top 68) 11)) (defBody (inClass (top 68) 11)) (defScope (inClass (top 68) 11)) [] [] (He.ma K (He.ga K "Fleet") "lateness") fd := T.def_ 80 (by rfl)
theorem Tx.d_Fleet_add_call (T : Tx K mg) : ∃ fd, FunD K "add_call" "Fleet.add_call" (defArgs (inClass (top 68) 12)) (defBody (inClass (top 68) 12)) (defScope (inClass (top 68) 12)) [] [("life", .int 0)] (He.ma K (He.ga K "Fleet") "add_call") fd := T.def_ 81 (by rfl)
theorem Tx.d_Fleet_calls (T : Tx K mg) : ∃ fd, FunD K "calls" "Fleet.calls" (defArgs (inClass (top 68) 13)) (defBody (inClass (top 68) 13)) (defScope (inClass (top 68) 13)) [] [] (He.ma K (He.ga K "Fleet") "calls") fd := T.def_ 82 (by rfl)
end
end Ab
/-! ## HD -/
set_option Elab.async false
set_option linter.all false
set_option maxRecDepth 100000
set_option maxHeartbeats 0
/-! HD: the top run in the kernel, the facts looked at (printed by genHD.py) -/
namespace Ab
open PySem L2 PyProof.Rows
abbrev RR : PySem.W.OpenRow := PySem.W.OpenLaw.row PySem.Challenge.rw_gaplesskeys_k32_whole_two_plans_behind_o
abbrev hk : PySem.W.Hook := hookB
def ob (s : PySem.W.SharedT) : AlB := obsBG (HandSHeadRun.getT s)
theorem ob_eq (s : PySem.W.SharedT) : ob s = hk.obs s.abs := obsBG_eq (HandSHeadRun.getT_eq s)
def lo0 : List PySem.Str := ["_wall", "LETTERS", "MOST_LETTERS", "MOST_INTEGER", "MOST_MOMENT", "MOST_GAP", "is_between", "is_moment", "is_word", "are_keys", "GapError", "InvalidRange", "InvalidMoment", "InvalidContents", "InvalidPlan", "InvalidKind", "InvalidCall", "UnknownName", "UnknownEdition", "LimitExceeded", "MOST_ROLES", "MOST_ACCEPTED", "MOST_VOUCHERS", "is_role", "are_roles", "Contents", "MOST_EDITIONS", "is_edition", "follows", "check_editions"]
def lo1 : List PySem.Str := ["Plan", "check_roles", "check_plan", "check_kind", "check_number", "is_limit", "Range", "last_held", "range_of", "contents_list", "held_range", "jumps_of", "jumps", "found_lockouts", "lockouts", "client_range", "server_range", "do_meet", "pairs_of", "is_refused", "found_refusals", "refusals", "MOST_KINDS", "MOST_CHAIN", "MOST_CALLS", "is_gap", "is_age", "Kind", "chain_of", "Fleet"]
def lo2 : List PySem.Str := ["_law_stream", "_law_draw", "_law_choose", "_law_some", "_law_words", "_law_kinds", "_law_calls", "_law_told", "_law_turned", "_law_next", "_law_tolds", "_law_moments", "_law_contents", "_law_plan", "_law_fleet", "_law_large", "_law_moved_right", "_law_cut_right", "_law_led_told", "_law_led_right"]
def loose : List PySem.Str := lo0 ++ (lo1 ++ (lo2))
theorem run (w : World) : HandSHeadRun.RunEq RR (PySem.W.view RR.prog [90]) hk ob 12000 loose w := by
  intro os
  kernel_rfl
end Ab
/-! ## A0 -/
set_option Elab.async false
set_option linter.all false
set_option maxRecDepth 100000
set_option maxHeartbeats 2000000
/-! A0: a frozen part B and a mutable part M of the tracked heap; readings over them -/
namespace Ab
open PySem L2 PyProof.Rows
open Evl (Ex)

abbrev Mu := Addr → Option (HO → Prop)
structure Ok (B : Hp) (M : Mu) (H : Hp) : Prop where
  has : Ex B H
  mtb : ∀ a P, M a = some P → B a = none ∧ ∃ o, H a = some o ∧ P o
def is (o : HO) : HO → Prop := fun u => u = o
theorem isr {o : HO} : is o o := rfl
def updM (M : Mu) (a : Addr) (P : HO → Prop) : Mu := fun b => if b = a then some P else M b
def delM (M : Mu) (a : Addr) : Mu := fun b => if b = a then none else M b
theorem updM_same {M : Mu} {a : Addr} {P : HO → Prop} : updM M a P a = some P := by unfold updM; rw [if_pos rfl]
theorem updM_ne {M : Mu} {a b : Addr} {P : HO → Prop} (h : b ≠ a) : updM M a P b = M b := by unfold updM; rw [if_neg h]
theorem updM_updM {M : Mu} {a : Addr} {P Q : HO → Prop} : updM (updM M a P) a Q = updM M a Q := by
  funext b; unfold updM; split <;> rfl
theorem delM_updM {M : Mu} {a : Addr} {P : HO → Prop} (h : M a = none) : delM (updM M a P) a = M := by
  funext b
  unfold delM updM
  by_cases e : b = a
  · rw [if_pos e, e, h]
  · rw [if_neg e, if_neg e]

section
variable {B H : Hp} {M : Mu} {a : Addr} {o : HO} {K : PySem.W.Frag} {xs : List V}
theorem Ok.rd (k : Ok B M H) (h : B a = some o) : Rd H a o := .inl (k.has a o h)
theorem Ok.at (k : Ok B M H) (h : B a = some o) : H a = some o := k.has a o h
theorem Ok.sqL (k : Ok B M H) (h : SqL K B a xs) : SqL K H a xs := Evl.ex_l k.has h
theorem Ok.sqT (k : Ok B M H) (h : SqT K B a xs) : SqT K H a xs := Evl.ex_t k.has h
theorem Ok.mutAt (k : Ok B M H) (h : M a = some (is o)) : H a = some o := by
  obtain ⟨_, u, e, q⟩ := k.mtb a _ h
  rw [e, show u = o from q]
theorem Ok.freeB (k : Ok B M H) (h : H a = none) : B a = none := by
  cases e : B a with
  | none => rfl
  | some o =>
    have z := k.has a o e
    rw [h] at z
    cases z
theorem Ok.freeM (k : Ok B M H) (h : H a = none) : M a = none := by
  cases e : M a with
  | none => rfl
  | some P =>
    obtain ⟨_, o, z, _⟩ := k.mtb a P e
    rw [h] at z
    cases z
/-- a new object, frozen -/
theorem Ok.new (k : Ok B M H) (h : H a = none) : Ok (upd B a o) M (upd H a o) := by
  refine ⟨fun b u e => ?_, fun b P e => ?_⟩
  · by_cases hb : b = a
    · subst hb
      rw [upd_same] at e ⊢
      exact e
    · rw [upd_ne hb] at e ⊢
      exact k.has b u e
  · have hb : b ≠ a := fun z => by
      rw [z, k.freeM h] at e
      cases e
    rw [upd_ne hb, upd_ne hb]
    exact k.mtb b P e
/-- a new object that is not told -/
theorem Ok.lay (k : Ok B M H) (h : H a = none) : Ok B M (upd H a o) := by
  refine ⟨fun b u e => ?_, fun b P e => ?_⟩
  · have hb : b ≠ a := fun z => by
      rw [z, k.freeB h] at e
      cases e
    rw [upd_ne hb]
    exact k.has b u e
  · have hb : b ≠ a := fun z => by
      rw [z, k.freeM h] at e
      cases e
    rw [upd_ne hb]
    exact k.mtb b P e
/-- a new object that may change -/
theorem Ok.newM {P : HO → Prop} (k : Ok B M H) (h : H a = none) (p : P o) : Ok B (updM M a P) (upd H a o) := by
  refine ⟨fun b u e => ?_, fun b P e => ?_⟩
  · have hb : b ≠ a := fun z => by
      rw [z, k.freeB h] at e
      cases e
    rw [upd_ne hb]
    exact k.has b u e
  · by_cases hb : b = a
    · subst hb
      rw [updM_same] at e
      cases e
      exact ⟨k.freeB h, o, upd_same, p⟩
    · rw [updM_ne hb] at e
      rw [upd_ne hb]
      exact k.mtb b _ e
/-- a mutable object changed -/
theorem Ok.put {P Q : HO → Prop} (k : Ok B M H) (h : M a = some P) (q : Q o) : Ok B (updM M a Q) (upd H a o) := by
  obtain ⟨nb, _⟩ := k.mtb a P h
  refine ⟨fun b u e => ?_, fun b P e => ?_⟩
  · have hb : b ≠ a := fun z => by
      rw [z, nb] at e
      cases e
    rw [upd_ne hb]
    exact k.has b u e
  · by_cases hb : b = a
    · subst hb
      rw [updM_same] at e
      cases e
      exact ⟨nb, o, upd_same, q⟩
    · rw [updM_ne hb] at e
      rw [upd_ne hb]
      exact k.mtb b _ e
theorem Ok.put' {P : HO → Prop} (k : Ok B M H) (h : M a = some P) (q : P o) : Ok B M (upd H a o) := by
  have z := k.put (o := o) h q
  have e : updM M a P = M := by
    funext b
    by_cases hb : b = a
    · rw [hb, updM_same, h]
    · rw [updM_ne hb]
  rw [e] at z
  exact z
/-- a mutable object frozen -/
theorem Ok.freeze (k : Ok B M H) (h : M a = some (is o)) : Ok (upd B a o) (delM M a) H := by
  refine ⟨fun b u e => ?_, fun b P e => ?_⟩
  · by_cases hb : b = a
    · subst hb
      rw [upd_same] at e
      cases e
      exact k.mutAt h
    · rw [upd_ne hb] at e
      exact k.has b u e
  · unfold delM at e
    by_cases hb : b = a
    · rw [if_pos hb] at e
      cases e
    · rw [if_neg hb] at e
      rw [upd_ne hb]
      exact k.mtb b P e
theorem Ok.freeze' {o : HO} (k : Ok B (updM M a (is o)) H) (n : M a = none) : Ok (upd B a o) M H := by
  have z := k.freeze (a := a) (o := o) updM_same
  rw [delM_updM n] at z
  exact z
theorem Ok.weak {P Q : HO → Prop} (k : Ok B M H) (h : M a = some P) (w : ∀ o, P o → Q o) : Ok B (updM M a Q) H := by
  refine ⟨k.has, fun b R e => ?_⟩
  by_cases hb : b = a
  · subst hb
    rw [updM_same] at e
    cases e
    obtain ⟨nb, o, e, p⟩ := k.mtb b P h
    exact ⟨nb, o, e, w o p⟩
  · rw [updM_ne hb] at e
    exact k.mtb b R e
theorem Ok.drop (k : Ok B M H) : Ok B (delM M a) H := by
  refine ⟨k.has, fun b R e => ?_⟩
  unfold delM at e
  by_cases hb : b = a
  · rw [if_pos hb] at e
    cases e
  · rw [if_neg hb] at e
    exact k.mtb b R e
end
theorem exNew {B : Hp} {p : Addr} {o : HO} (h : B p = none) : Ex B (upd B p o) := Ex.new h

/-! ### readings over a frozen and a mutable part -/
abbrev RV := V → Hp → Mu → Prop
def wE (te : TE) (σ : L2.St) (B : Hp) (M : Mu) (R : V → Hp → Mu → Prop) : Prop := ∀ H (Q : VK), Ok B M H → (∀ v B' M' H', Ok B' M' H' → R v B' M' → Q v H') → te σ H Q
def wA (ta : TA) (σ : L2.St) (B : Hp) (M : Mu) (R : List V → Hp → Mu → Prop) : Prop := ∀ H (Q : List V → Hp → Prop), Ok B M H → (∀ v B' M' H', Ok B' M' H' → R v B' M' → Q v H') → ta σ H Q
def wT (tt : TT) (σ : L2.St) (B : Hp) (M : Mu) (R : Bool → Hp → Mu → Prop) : Prop := ∀ H (Q : Bool → Hp → Prop), Ok B M H → (∀ v B' M' H', Ok B' M' H' → R v B' M' → Q v H') → tt σ H Q
def wO (to : TO) (σ : L2.St) (B : Hp) (M : Mu) (R : Option Int → Hp → Mu → Prop) : Prop := ∀ H (Q : Option Int → Hp → Prop), Ok B M H → (∀ v B' M' H', Ok B' M' H' → R v B' M' → Q v H') → to σ H Q
def wR (r : R2) (x y : V) (B : Hp) (M : Mu) (R : V → Hp → Mu → Prop) : Prop := ∀ H (Q : VK), Ok B M H → (∀ v B' M' H', Ok B' M' H' → R v B' M' → Q v H') → r x y H Q
def wU (r : V → Hp → VK → Prop) (x : V) (B : Hp) (M : Mu) (R : V → Hp → Mu → Prop) : Prop := ∀ H (Q : VK), Ok B M H → (∀ v B' M' H', Ok B' M' H' → R v B' M' → Q v H') → r x H Q
def wC (r : List V → Hp → VK → Prop) (vs : List V) (B : Hp) (M : Mu) (R : V → Hp → Mu → Prop) : Prop := ∀ H (Q : VK), Ok B M H → (∀ v B' M' H', Ok B' M' H' → R v B' M' → Q v H') → r vs H Q
def wG (g : TG) (v : V) (σ : L2.St) (B : Hp) (M : Mu) (R : L2.St → Hp → Mu → Prop) : Prop := ∀ H (Q : L2.St → Hp → Prop), Ok B M H → (∀ σ' B' M' H', Ok B' M' H' → R σ' B' M' → Q σ' H') → g v σ H Q
def wGs (g : TGs) (vs : List V) (σ : L2.St) (B : Hp) (M : Mu) (R : L2.St → Hp → Mu → Prop) : Prop := ∀ H (Q : L2.St → Hp → Prop), Ok B M H → (∀ σ' B' M' H', Ok B' M' H' → R σ' B' M' → Q σ' H') → g vs σ H Q
def wS (t : TS) (σ : L2.St) (B : Hp) (M : Mu) (nx : L2.St → Hp → Mu → Prop) (rt : V → Hp → Mu → Prop) : Prop := ∀ H (D : Ends), Ok B M H → (∀ σ' B' M' H', Ok B' M' H' → nx σ' B' M' → D.nx σ' H') → (∀ v B' M' H', Ok B' M' H' → rt v B' M' → D.rt v H') → t D σ H

/-! ### promises -/
abbrev Spc := List V → Hp → Mu → (V → Hp → Mu → Prop) → Prop
def Pm (S : Spc) : Sp := fun vs H Q _ => ∃ B M R, Ok B M H ∧ S vs B M R ∧ ∀ v B' M' H', Ok B' M' H' → R v B' M' → Q v H'

section
variable {σ : L2.St} {B : Hp} {M : Mu} {R : V → Hp → Mu → Prop} {K : PySem.W.Frag}
theorem wE.mono {te : TE} {R' : V → Hp → Mu → Prop} (h : wE te σ B M R) (k : ∀ v B' M', R v B' M' → R' v B' M') : wE te σ B M R' := fun H Q ok q => h H Q ok fun v B' M' H' o r => q v B' M' H' o (k v B' M' r)
theorem wT.mono {te : TT} {R R' : Bool → Hp → Mu → Prop} (h : wT te σ B M R) (k : ∀ v B' M', R v B' M' → R' v B' M') : wT te σ B M R' := fun H Q ok q => h H Q ok fun v B' M' H' o r => q v B' M' H' o (k v B' M' r)
/-- the state seen from another side -/
theorem wE.sh {te : TE} {B1 : Hp} {M1 : Mu} (h : wE te σ B1 M1 R) (k : ∀ H, Ok B M H → Ok B1 M1 H) : wE te σ B M R := fun H Q ok q => h H Q (k H ok) q
theorem wA.sh {te : TA} {B1 : Hp} {M1 : Mu} {R : List V → Hp → Mu → Prop} (h : wA te σ B1 M1 R) (k : ∀ H, Ok B M H → Ok B1 M1 H) : wA te σ B M R := fun H Q ok q => h H Q (k H ok) q
theorem wS.sh {t : TS} {B1 : Hp} {M1 : Mu} {nx : L2.St → Hp → Mu → Prop} {rt : V → Hp → Mu → Prop} (h : wS t σ B1 M1 nx rt) (k : ∀ H, Ok B M H → Ok B1 M1 H) : wS t σ B M nx rt := fun H D ok n r => h H D (k H ok) n r
theorem wS.mono {t : TS} {nx nx' : L2.St → Hp → Mu → Prop} {rt rt' : V → Hp → Mu → Prop} (h : wS t σ B M nx rt) (k : ∀ σ' B' M', nx σ' B' M' → nx' σ' B' M') (k2 : ∀ v B' M', rt v B' M' → rt' v B' M') : wS t σ B M nx' rt' :=
  fun H D ok n r => h H D ok (fun σ' B' M' H' o z => n σ' B' M' H' o (k _ _ _ z)) fun v B' M' H' o z => r v B' M' H' o (k2 _ _ _ z)
theorem wS.ok {t : TS} {nx : L2.St → Hp → Mu → Prop} {rt : V → Hp → Mu → Prop} (h : (∃ H, Ok B M H) → wS t σ B M nx rt) : wS t σ B M nx rt := fun H D ok n r => h ⟨H, ok⟩ H D ok n r
theorem wE.ok {te : TE} (h : (∃ H, Ok B M H) → wE te σ B M R) : wE te σ B M R := fun H Q ok q => h ⟨H, ok⟩ H Q ok q
theorem Ok.out {a : Addr} {P : HO → Prop} (h : ∃ H, Ok B M H) (m : M a = some P) : B a = none := h.elim fun H k => (k.mtb a P m).1
theorem wS.post {t : TS} {nx : L2.St → Hp → Mu → Prop} {rt : V → Hp → Mu → Prop} (h : wS t σ B M (fun σ' B' M' => ∃ B1 M1, (∀ H, Ok B' M' H → Ok B1 M1 H) ∧ nx σ' B1 M1) (fun v B' M' => ∃ B1 M1, (∀ H, Ok B' M' H → Ok B1 M1 H) ∧ rt v B1 M1)) : wS t σ B M nx rt :=
  fun H D ok n r => h H D ok (fun σ' B' M' H' o ⟨B1, M1, k, z⟩ => n σ' B1 M1 H' (k H' o) z) fun v B' M' H' o ⟨B1, M1, k, z⟩ => r v B1 M1 H' (k H' o) z
theorem wS.postO {t : TS} {nx : L2.St → Hp → Mu → Prop} {rt : V → Hp → Mu → Prop} (h : wS t σ B M (fun σ' B' M' => (∃ H, Ok B' M' H) → ∃ B1 M1, (∀ H, Ok B' M' H → Ok B1 M1 H) ∧ nx σ' B1 M1) (fun v B' M' => (∃ H, Ok B' M' H) → ∃ B1 M1, (∀ H, Ok B' M' H → Ok B1 M1 H) ∧ rt v B1 M1)) : wS t σ B M nx rt :=
  fun H D ok n r => h H D ok (fun σ' B' M' H' o g => by
    obtain ⟨B1, M1, k, z⟩ := g ⟨H', o⟩
    exact n σ' B1 M1 H' (k H' o) z) fun v B' M' H' o g => by
    obtain ⟨B1, M1, k, z⟩ := g ⟨H', o⟩
    exact r v B1 M1 H' (k H' o) z
theorem wE.post {te : TE} (h : wE te σ B M fun v B' M' => ∃ B1 M1, (∀ H, Ok B' M' H → Ok B1 M1 H) ∧ R v B1 M1) : wE te σ B M R := fun H Q ok q => h H Q ok fun v B' M' H' o ⟨B1, M1, k, z⟩ => q v B1 M1 H' (k H' o) z
theorem w_var {i : Nat} {v : V} (h : σ[i]? = some (some v)) (k : R v B M) : wE (tVar i) σ B M R := fun H Q ok q => ⟨v, h, q v B M H ok k⟩
theorem w_c {v : V} (k : R v B M) : wE (tC v) σ B M R := fun H Q ok q => q v B M H ok k
theorem w_op {r : R2} {ta tb : TE} (h : wE ta σ B M fun x B1 M1 => wE tb σ B1 M1 fun y B2 M2 => wR r x y B2 M2 R) : wE (tOp r ta tb) σ B M R := fun H Q ok q =>
  h H _ ok fun x B1 M1 H1 ok1 h1 => h1 H1 _ ok1 fun y B2 M2 H2 ok2 h2 => h2 H2 Q ok2 q
theorem w_un {r : V → Hp → VK → Prop} {ta : TE} (h : wE ta σ B M fun x B1 M1 => wU r x B1 M1 R) : wE (tUn r ta) σ B M R := fun H Q ok q =>
  h H _ ok fun x B1 M1 H1 ok1 h1 => h1 H1 Q ok1 q
/-- an operation that asks and yields a value, the heap as it was -/
theorem wr_val {r : R2} {x y : V} (z : V) (h : ∀ H (Q : VK), Ok B M H → Q z H → r x y H Q) (k : R z B M) : wR r x y B M R := fun H Q ok q => h H Q ok (q z B M H ok k)
theorem wc_val {r : List V → Hp → VK → Prop} {vs : List V} (z : V) (h : ∀ H (Q : VK), Ok B M H → Q z H → r vs H Q) (k : R z B M) : wC r vs B M R := fun H Q ok q => h H Q ok (q z B M H ok k)
/-- .. that lays a new list -/
theorem wc_lst {r : List V → Hp → VK → Prop} {vs xs : List V} (h : ∀ H (Q : VK), Ok B M H → (∀ p, H p = none → Q (.ref p) (upd H p (.lst xs))) → r vs H Q) (k : ∀ p, B p = none → M p = none → R (.ref p) (upd B p (.lst xs)) M) : wC r vs B M R := fun H Q ok q =>
  h H Q ok fun p hp => q _ _ _ _ (ok.new hp) (k p (ok.freeB hp) (ok.freeM hp))
theorem wr_lst {r : R2} {x y : V} {xs : List V} (h : ∀ H (Q : VK), Ok B M H → (∀ p, H p = none → Q (.ref p) (upd H p (.lst xs))) → r x y H Q) (k : ∀ p, B p = none → M p = none → R (.ref p) (upd B p (.lst xs)) M) : wR r x y B M R := fun H Q ok q =>
  h H Q ok fun p hp => q _ _ _ _ (ok.new hp) (k p (ok.freeB hp) (ok.freeM hp))
theorem wc_tup {r : List V → Hp → VK → Prop} {vs xs : List V} (h : ∀ H (Q : VK), Ok B M H → (∀ p, H p = none → Q (.ref p) (upd H p (.tup xs))) → r vs H Q) (k : ∀ p, B p = none → M p = none → R (.ref p) (upd B p (.tup xs)) M) : wC r vs B M R := fun H Q ok q =>
  h H Q ok fun p hp => q _ _ _ _ (ok.new hp) (k p (ok.freeB hp) (ok.freeM hp))
theorem wr_I0 {g : Int → Int → V} {i j : Int} (k : R (g i j) B M) : wR (rI0 g) (.int i) (.int j) B M R := wr_val _ (fun _ _ _ q => ⟨i, j, rfl, rfl, q⟩) k
theorem wr_I {C : Int → Int → Prop} {g : Int → Int → V} {i j : Int} (c : C i j) (k : R (g i j) B M) : wR (rI C g) (.int i) (.int j) B M R := wr_val _ (fun _ _ _ q => ⟨i, j, rfl, rfl, c, q⟩) k
theorem wr_eq {x y : V} (h : scal x y = true) (k : R (.bl (decide (x = y))) B M) : wR rEq x y B M R := wr_val _ (fun _ _ _ q => ⟨h, q⟩) k
theorem wr_ne {x y : V} (h : scal x y = true) (k : R (.bl (!decide (x = y))) B M) : wR rNe x y B M R := wr_val _ (fun _ _ _ q => ⟨h, q⟩) k
theorem wr_isN {x : V} (k : R (.bl (decide (x = .non))) B M) : wR (fun x y H Q => y = .non ∧ Q (.bl (decide (x = .non))) H) x .non B M R := wr_val _ (fun _ _ _ q => ⟨rfl, q⟩) k
theorem wr_notN {x : V} (k : R (.bl (!decide (x = .non))) B M) : wR (fun x y H Q => y = .non ∧ Q (.bl (!decide (x = .non))) H) x .non B M R := wr_val _ (fun _ _ _ q => ⟨rfl, q⟩) k
theorem wu_I {g : Int → V} {i : Int} (k : R (g i) B M) : wU (rU g) (.int i) B M R := fun H Q ok q => ⟨i, rfl, q _ B M H ok k⟩
/-! tests -/
variable {RB : Bool → Hp → Mu → Prop}
theorem w_test {te : TE} (h : wE te σ B M fun v B1 M1 => ∃ b, v = .bl b ∧ RB b B1 M1) : wT (tTest te) σ B M RB := fun H Q ok q => h H _ ok fun v B1 M1 H1 ok1 ⟨b, e, r⟩ => ⟨b, e, q b B1 M1 H1 ok1 r⟩
theorem w_B {te : TE} (h : wE te σ B M fun v B1 M1 => ∃ b, v = .bl b ∧ RB b B1 M1) : wT (tB te) σ B M RB := fun H Q ok q => h H _ ok fun v B1 M1 H1 ok1 ⟨b, e, r⟩ => ⟨b, e, q b B1 M1 H1 ok1 r⟩
theorem w_and {t u : TT} (h : wT t σ B M fun b B1 M1 => (b = true → wT u σ B1 M1 RB) ∧ (b = false → RB false B1 M1)) : wT (tAnd t u) σ B M RB := fun H Q ok q => h H _ ok fun b B1 M1 H1 ok1 r => by
  cases b with
  | true => exact r.1 rfl H1 Q ok1 q
  | false => exact q false B1 M1 H1 ok1 (r.2 rfl)
theorem w_or {t u : TT} (h : wT t σ B M fun b B1 M1 => (b = true → RB true B1 M1) ∧ (b = false → wT u σ B1 M1 RB)) : wT (tOr t u) σ B M RB := fun H Q ok q => h H _ ok fun b B1 M1 H1 ok1 r => by
  cases b with
  | false => exact r.2 rfl H1 Q ok1 q
  | true => exact q true B1 M1 H1 ok1 (r.1 rfl)
theorem w_not {t : TT} (h : wT t σ B M fun b B1 M1 => RB (!b) B1 M1) : wT (tNot t) σ B M RB := fun H Q ok q => h H _ ok fun b B1 M1 H1 ok1 r => q (!b) B1 M1 H1 ok1 r
theorem w_yes (k : RB true B M) : wT tYes σ B M RB := fun H Q ok q => q true B M H ok k
theorem w_andV {ta tb : TE} (h : wE ta σ B M fun v B1 M1 => ∃ b, v = .bl b ∧ (b = true → wE tb σ B1 M1 R) ∧ (b = false → R (.bl false) B1 M1)) : wE (tAndV ta tb) σ B M R := fun H Q ok q => h H _ ok fun v B1 M1 H1 ok1 ⟨b, e, r⟩ => ⟨b, e, by
  cases b with
  | true => exact r.1 rfl H1 Q ok1 q
  | false => exact q _ B1 M1 H1 ok1 (r.2 rfl)⟩
theorem w_orV {ta tb : TE} (h : wE ta σ B M fun v B1 M1 => ∃ b, v = .bl b ∧ (b = true → R (.bl true) B1 M1) ∧ (b = false → wE tb σ B1 M1 R)) : wE (tOrV ta tb) σ B M R := fun H Q ok q => h H _ ok fun v B1 M1 H1 ok1 ⟨b, e, r⟩ => ⟨b, e, by
  cases b with
  | false => exact r.2 rfl H1 Q ok1 q
  | true => exact q _ B1 M1 H1 ok1 (r.1 rfl)⟩
theorem w_notV {ta : TE} (h : wE ta σ B M fun v B1 M1 => ∃ b, v = .bl b ∧ R (.bl (!b)) B1 M1) : wE (tNotV ta) σ B M R := fun H Q ok q => h H _ ok fun v B1 M1 H1 ok1 ⟨b, e, r⟩ => ⟨b, e, q _ B1 M1 H1 ok1 r⟩
theorem w_if {t : TT} {ta tb : TE} (h : wT t σ B M fun b B1 M1 => (b = true → wE ta σ B1 M1 R) ∧ (b = false → wE tb σ B1 M1 R)) : wE (tIf t ta tb) σ B M R := fun H Q ok q => h H _ ok fun b B1 M1 H1 ok1 r => by
  cases b with
  | true => exact r.1 rfl H1 Q ok1 q
  | false => exact r.2 rfl H1 Q ok1 q
theorem w_chain {r r' : R2} {ta tb tc : TE} (h : wE ta σ B M fun x B1 M1 => wE tb σ B1 M1 fun y B2 M2 => wR r x y B2 M2 fun z B3 M3 => ∃ k, z = .bl k ∧ (k = true → wE tc σ B3 M3 fun u B4 M4 => wR r' y u B4 M4 R) ∧ (k = false → R (.bl false) B3 M3)) : wE (tChain r r' ta tb tc) σ B M R := fun H Q ok q =>
  h H _ ok fun x B1 M1 H1 ok1 h1 => h1 H1 _ ok1 fun y B2 M2 H2 ok2 h2 => h2 H2 _ ok2 fun z B3 M3 H3 ok3 ⟨k, e, h3, h4⟩ => ⟨k, e, by
    cases k with
    | true => exact h3 rfl H3 _ ok3 fun u B4 M4 H4 ok4 h5 => h5 H4 Q ok4 q
    | false => exact q _ B3 M3 H3 ok3 (h4 rfl)⟩
/-! arguments, displays -/
variable {RA : List V → Hp → Mu → Prop}
theorem w_nil (k : RA [] B M) : wA tNil σ B M RA := fun H Q ok q => q [] B M H ok k
theorem w_cons {ta : TE} {tr : TA} (h : wE ta σ B M fun x B1 M1 => wA tr σ B1 M1 fun xs B2 M2 => RA (x :: xs) B2 M2) : wA (tCons ta tr) σ B M RA := fun H Q ok q =>
  h H _ ok fun x B1 M1 H1 ok1 h1 => h1 H1 _ ok1 fun xs B2 M2 H2 ok2 h2 => q _ B2 M2 H2 ok2 h2
theorem w_tup {ta : TA} (h : wA ta σ B M fun xs B1 M1 => xs.length ≤ 100000 ∧ ∀ p, B1 p = none → M1 p = none → R (.ref p) (upd B1 p (.tup xs)) M1) : wE (tTup ta) σ B M R := fun H Q ok q =>
  h H _ ok fun xs B1 M1 H1 ok1 ⟨z, k⟩ => ⟨Evl.sz_of z, fun p hp => q _ _ _ _ (ok1.new hp) (k p (ok1.freeB hp) (ok1.freeM hp))⟩
theorem w_lst {ta : TA} (h : wA ta σ B M fun xs B1 M1 => xs.length ≤ 100000 ∧ ∀ p, B1 p = none → M1 p = none → R (.ref p) (upd B1 p (.lst xs)) M1) : wE (tLst ta) σ B M R := fun H Q ok q =>
  h H _ ok fun xs B1 M1 H1 ok1 ⟨z, k⟩ => ⟨Evl.sz_of z, fun p hp => q _ _ _ _ (ok1.new hp) (k p (ok1.freeB hp) (ok1.freeM hp))⟩
/-- a list that may change -/
theorem w_lstM {ta : TA} (P : HO → Prop) (h : wA ta σ B M fun xs B1 M1 => xs.length ≤ 100000 ∧ P (.lst xs) ∧ ∀ p, B1 p = none → M1 p = none → R (.ref p) B1 (updM M1 p P)) : wE (tLst ta) σ B M R := fun H Q ok q =>
  h H _ ok fun xs B1 M1 H1 ok1 ⟨z, pp, k⟩ => ⟨Evl.sz_of z, fun p hp => q _ _ _ _ (ok1.newM hp pp) (k p (ok1.freeB hp) (ok1.freeM hp))⟩
/-! calls -/
theorem w_cb {r : List V → Hp → VK → Prop} {ta : TA} (h : wA ta σ B M fun vs B1 M1 => wC r vs B1 M1 R) : wE (tCB r ta) σ B M R := fun H Q ok q => h H _ ok fun vs B1 M1 H1 ok1 h1 => h1 H1 Q ok1 q
theorem w_call {S : Spc} {dvs : List V} {E : XK} {ta : TA} (h : wA ta σ B M fun vs B1 M1 => S (vs ++ dvs) B1 M1 R) : wE (tCall (Pm S) dvs E ta) σ B M R := fun H Q ok q =>
  h H _ ok fun vs B1 M1 H1 ok1 h1 => ⟨B1, M1, R, ok1, h1, q⟩
theorem w_meth {C : Addr} {m : Str} {S : Spc} {dvs : List V} {E : XK} {to : TE} {ta : TA} (h : wE to σ B M fun x B1 M1 => ∃ a dx fs, x = .ref a ∧ B1 a = some (.ins C dx fs) ∧ fs.lookup m = none ∧ wA ta σ B1 M1 fun vs B2 M2 => S (x :: (vs ++ dvs)) B2 M2 R) : wE (tMeth C m (Pm S) dvs E to ta) σ B M R := fun H Q ok q =>
  h H _ ok fun x B1 M1 H1 ok1 ⟨a, dx, fs, e, hb, l, h1⟩ => ⟨a, dx, fs, e, ok1.at hb, l, h1 H1 _ ok1 fun vs B2 M2 H2 ok2 h2 => ⟨B2, M2, R, ok2, h2, q⟩⟩
theorem w_make {C : Addr} {S : Spc} {dvs : List V} {E : XK} {ta : TA} (h : wA ta σ B M fun vs B1 M1 => ∀ x dx, B1 x = none → M1 x = none → S (.ref x :: (vs ++ dvs)) B1 (updM M1 x (is (.ins C dx []))) fun v B2 M2 => v = .non ∧ R (.ref x) B2 M2) : wE (tMake C (Pm S) dvs E ta) σ B M R := fun H Q ok q =>
  h H _ ok fun vs B1 M1 H1 ok1 h1 => fun x dx nx nd ne => ⟨B1, updM M1 x (is (.ins C dx [])), _, (ok1.lay nd).newM (by rw [upd_ne fun z => ne z.symm]; exact nx) rfl, h1 x dx (ok1.freeB nx) (ok1.freeM nx), fun v B' M' H' ok' ⟨e, r⟩ => ⟨e, q _ B' M' H' ok' r⟩⟩
theorem w_fld {ta : TE} {f : Str} (h : wE ta σ B M fun x B1 M1 => ∃ a C dx fs v, x = .ref a ∧ (B1 a = some (.ins C dx fs) ∨ M1 a = some (is (.ins C dx fs))) ∧ Cls K C ∧ NoAttr K C f ∧ fs.lookup f = some v ∧ R v B1 M1) : wE (tFld K ta f) σ B M R := fun H Q ok q =>
  h H _ ok fun x B1 M1 H1 ok1 ⟨a, C, dx, fs, v, e, hb, c, n, l, r⟩ => ⟨a, C, dx, fs, v, e, hb.elim ok1.at ok1.mutAt, c, n, l, q v B1 M1 H1 ok1 r⟩
theorem w_prop {C : Addr} {S : Spc} {dvs : List V} {E : XK} {ta : TE} (h : wE ta σ B M fun x B1 M1 => ∃ a dx fs, x = .ref a ∧ B1 a = some (.ins C dx fs) ∧ S (.ref a :: dvs) B1 M1 R) : wE (tProp C (Pm S) dvs E ta) σ B M R := fun H Q ok q =>
  h H _ ok fun x B1 M1 H1 ok1 ⟨a, dx, fs, e, hb, h1⟩ => ⟨a, dx, fs, e, ok1.at hb, ⟨B1, M1, R, ok1, h1, q⟩⟩
/-! slices -/
variable {RO : Option Int → Hp → Mu → Prop}
theorem w_noPart (k : RO none B M) : wO tNoPart σ B M RO := fun H Q ok q => q none B M H ok k
theorem w_part {t : TE} (h : wE t σ B M fun v B1 M1 => ∃ i, v = .int i ∧ RO (some i) B1 M1) : wO (tPart t) σ B M RO := fun H Q ok q => h H _ ok fun v B1 M1 H1 ok1 ⟨i, e, r⟩ => ⟨i, e, q _ B1 M1 H1 ok1 r⟩
end
section
variable {σ : L2.St} {B : Hp} {M : Mu} {nx : L2.St → Hp → Mu → Prop} {rt : V → Hp → Mu → Prop} {K : PySem.W.Frag}
theorem s_next (k : nx σ B M) : wS tNext σ B M nx rt := fun H D ok n r => n σ B M H ok k
theorem s_seq {t u : TS} (h : wS t σ B M (fun σ' B' M' => wS u σ' B' M' nx rt) rt) : wS (tSeq t u) σ B M nx rt := fun H D ok n r => h H _ ok (fun σ' B' M' H' ok' z => z H' D ok' n r) r
theorem s_ret {te : TE} (h : wE te σ B M rt) : wS (tRet te) σ B M nx rt := fun H D ok n r => h H _ ok r
theorem s_retN (k : rt .non B M) : wS tRetN σ B M nx rt := fun H D ok n r => r _ B M H ok k
theorem s_drop {te : TE} (h : wE te σ B M fun _ B1 M1 => nx σ B1 M1) : wS (tDrop te) σ B M nx rt := fun H D ok n r => h H _ ok fun _ B1 M1 H1 ok1 z => n _ _ _ _ ok1 z
theorem s_if {c : TT} {t u : TS} (h : wT c σ B M fun b B1 M1 => (b = true → wS t σ B1 M1 nx rt) ∧ (b = false → wS u σ B1 M1 nx rt)) : wS (tIfS c t u) σ B M nx rt := fun H D ok n r => h H _ ok fun b B1 M1 H1 ok1 z => by
  cases b with
  | true => exact z.1 rfl H1 D ok1 n r
  | false => exact z.2 rfl H1 D ok1 n r
theorem s_asg {te : TE} {g : TG} (h : wE te σ B M fun v B1 M1 => wG g v σ B1 M1 nx) : wS (tAsg te g) σ B M nx rt := fun H D ok n r => h H _ ok fun v B1 M1 H1 ok1 z => z H1 _ ok1 n
theorem s_set {te : TE} {i : Nat} (h : wE te σ B M fun v B1 M1 => nx (σ.set i (some v)) B1 M1) : wS (tAsg te (gName i)) σ B M nx rt := fun H D ok n r => h H _ ok fun v B1 M1 H1 ok1 z => n _ _ _ _ ok1 z
theorem s_par {i j : Nat} {ta : TA} (h : wA ta σ B M fun vs B1 M1 => ∃ v w, vs = [v, w] ∧ nx ((σ.set i (some v)).set j (some w)) B1 M1) : wS (tPar i j ta) σ B M nx rt := fun H D ok n r => h H _ ok fun vs B1 M1 H1 ok1 ⟨v, w, e, z⟩ => ⟨v, w, e, n _ _ _ _ ok1 z⟩
theorem s_par3 {i j l : Nat} {ta : TA} (h : wA ta σ B M fun vs B1 M1 => ∃ u v w, vs = [u, v, w] ∧ nx (((σ.set i (some u)).set j (some v)).set l (some w)) B1 M1) : wS (tPar3 i j l ta) σ B M nx rt := fun H D ok n r => h H _ ok fun vs B1 M1 H1 ok1 ⟨u, v, w, e, z⟩ => ⟨u, v, w, e, n _ _ _ _ ok1 z⟩
theorem g_name {i : Nat} {v : V} (k : nx (σ.set i (some v)) B M) : wG (gName i) v σ B M nx := fun H Q ok q => q _ _ _ _ ok k
theorem g_tup {n : Nat} {t : TGs} {a : Addr} {xs : List V} (h : SqT K B a xs) (hl : xs.length = n) (k : wGs t xs σ B M nx) : wG (gTup K n t) (.ref a) σ B M nx := fun H Q ok q => ⟨a, xs, rfl, ok.sqT h, hl, k H Q ok q⟩
theorem gs_nil (k : nx σ B M) : wGs gNil [] σ B M nx := fun H Q ok q => ⟨rfl, q _ _ _ _ ok k⟩
theorem gs_cons {t : TG} {u : TGs} {v : V} {vs : List V} (h : wG t v σ B M fun σ1 B1 M1 => wGs u vs σ1 B1 M1 nx) : wGs (gCons t u) (v :: vs) σ B M nx := fun H Q ok q => ⟨v, vs, rfl, h H _ ok fun σ1 B1 M1 H1 ok1 z => z H1 Q ok1 q⟩
end
end Ab
/-! ## C0 -/
set_option Elab.async false
set_option linter.all false
set_option maxRecDepth 100000
set_option maxHeartbeats 2000000
/-! C0: the rule for a def over the frozen and the mutable part; built-ins over it -/
namespace Ab
open PySem L2 PyProof.Rows
open Evl (Ex)
section
variable {P : Program} {w : World} {K : PySem.W.Frag} {mg : Str → Option Value} {base : Heap}
abbrev Pos1 (n : Nat) (S : Spc) : Prop := ∀ vs B M R, S vs B M R → vs.length = n
theorem okOf {x qual : Str} {st : Stmt} {f : Addr} {kws : List (Str × V)} {fd : FuncData} {N ps : List Str} {k : Nat} {S : Spc} (F : FunD K x qual (defArgs st) (defBody st) (defScope st) [] kws f fd) (sc : FnScope N ps (defScope st)) (len : Pos1 ps.length S)
    (hbody : ∀ (cdv : Value) (A : Around) (outer : List Env) (s : Shared) (H : Hp) (E : XK), Room k (A.deeper (envOfC qual (defScope st) s.heap.objs.size f cdv)) →
      ∃ t, PSs (cxOf CX0 P w K mg base N qual (defScope st) f cdv A outer s H E).nox (defBody st) t ∧ ∀ vs B M R, S vs B M R → wS t (start N vs) B M (fun _ B' M' => R .non B' M') R) :
    FnOk P w K mg base CX0 (k + 1) f fd ps (Pm S) :=
  F.ok sc (fun vs H Q E ⟨B, M, R, _, h, _⟩ => len vs B M R h) fun cdv A outer s H vs Q E hr ⟨B, M, R, ok, h, q⟩ => by
    obtain ⟨t, ht, hw⟩ := hbody cdv A outer s H E hr
    exact ⟨t, ht.nox, hw vs B M R h H _ ok (fun _ B' M' H' o r => q _ B' M' H' o r) q⟩
theorem calOf {x : Str} {st : Stmt} {N ps : List Str} {k : Nat} {S : Spc} (F : ∃ fd, FunD K x x (defArgs st) (defBody st) (defScope st) [] [] (He.ga K x) fd) (g : mg x = some (.ref (He.ga K x))) (sc : FnScope N ps (defScope st))
    (b : ∀ (kV doc pm : Value) (an : Option Addr) (cdv ct : Value) (us : List Value), us.length = ps.length → bindArgs (PySem.W.fnOf x x (defArgs st) (defBody st) (defScope st) .none kV doc pm an cdv ct) ⟨us, []⟩ = pure (ps.zip us)) (len : Pos1 ps.length S)
    (hbody : ∀ (cdv : Value) (A : Around) (outer : List Env) (s : Shared) (H : Hp) (E : XK), Room k (A.deeper (envOfC x (defScope st) s.heap.objs.size (He.ga K x) cdv)) →
      ∃ t, PSs (cxOf CX0 P w K mg base N x (defScope st) (He.ga K x) cdv A outer s H E).nox (defBody st) t ∧ ∀ vs B M R, S vs B M R → wS t (start N vs) B M (fun _ B' M' => R .non B' M') R) :
    C8.Cal P w K mg base (k + 1) x (Pm S) [] := by
  obtain ⟨fd, F⟩ := F
  exact ⟨_, fd, ps, [], okOf F sc len hbody, g, F.kp, F.bindsN b, .nil⟩
theorem metOf {C m qual : Str} {st : Stmt} {N ps : List Str} {k : Nat} {S : Spc} (F : ∃ fd, FunD K m qual (defArgs st) (defBody st) (defScope st) [] [] (He.ma K (He.ga K C) m) fd) (c : Cls K (He.ga K C)) (me : Meth K (He.ga K C) m (He.ma K (He.ga K C) m)) (sc : FnScope N ps (defScope st))
    (b : ∀ (kV doc pm : Value) (an : Option Addr) (cdv ct : Value) (us : List Value), us.length = ps.length → bindArgs (PySem.W.fnOf m qual (defArgs st) (defBody st) (defScope st) .none kV doc pm an cdv ct) ⟨us, []⟩ = pure (ps.zip us)) (len : Pos1 ps.length S)
    (hbody : ∀ (cdv : Value) (A : Around) (outer : List Env) (s : Shared) (H : Hp) (E : XK), Room k (A.deeper (envOfC qual (defScope st) s.heap.objs.size (He.ma K (He.ga K C) m) cdv)) →
      ∃ t, PSs (cxOf CX0 P w K mg base N qual (defScope st) (He.ma K (He.ga K C) m) cdv A outer s H E).nox (defBody st) t ∧ ∀ vs B M R, S vs B M R → wS t (start N vs) B M (fun _ B' M' => R .non B' M') R) :
    C8.Met P w K mg base (k + 1) (He.ga K C) m (Pm S) [] := by
  obtain ⟨fd, F⟩ := F
  exact ⟨_, fd, ps, [], c, me, okOf F sc len hbody, F.bindsN b, .nil⟩
theorem makOf {C qual : Str} {st : Stmt} {N ps : List Str} {k : Nat} {S : Spc} (F : ∃ fd, FunD K "__init__" qual (defArgs st) (defBody st) (defScope st) [] [] (He.ma K (He.ga K C) "__init__") fd) (M : Mk K (He.ga K C) (He.ma K (He.ga K C) "__init__")) (g : mg C = some (.ref (He.ga K C))) (sc : FnScope N ps (defScope st))
    (b : ∀ (kV doc pm : Value) (an : Option Addr) (cdv ct : Value) (us : List Value), us.length = ps.length → bindArgs (PySem.W.fnOf "__init__" qual (defArgs st) (defBody st) (defScope st) .none kV doc pm an cdv ct) ⟨us, []⟩ = pure (ps.zip us)) (len : Pos1 ps.length S)
    (hbody : ∀ (cdv : Value) (A : Around) (outer : List Env) (s : Shared) (H : Hp) (E : XK), Room k (A.deeper (envOfC qual (defScope st) s.heap.objs.size (He.ma K (He.ga K C) "__init__") cdv)) →
      ∃ t, PSs (cxOf CX0 P w K mg base N qual (defScope st) (He.ma K (He.ga K C) "__init__") cdv A outer s H E).nox (defBody st) t ∧ ∀ vs B M R, S vs B M R → wS t (start N vs) B M (fun _ B' M' => R .non B' M') R) :
    C8.Mak P w K mg base (k + 1) C (He.ga K C) (Pm S) [] := by
  obtain ⟨fd, F⟩ := F
  exact ⟨_, fd, ps, [], M, okOf F sc len hbody, g, F.bindsN b, .nil⟩
end
/-- a property of the class at C -/
structure Pro (P : Program) (w : World) (K : PySem.W.Frag) (mg : Str → Option Value) (base : Heap) (k : Nat) (C : Addr) (f : Str) (S : Spc) : Prop where
  ex : ∃ (p g : Addr) (fd : FuncData), Cls K C ∧ PropOf K C f p g ∧ FnOk P w K mg base CX0 k g fd ["self"] (Pm S) ∧ Binds K fd ["self"] []
theorem pe_pr {X : Cx} {k j : Nat} {C : Addr} {f : Str} {S : Spc} {e : Expr} {pos : Pos} {ta : TE} (c : Pro X.prog X.w X.K X.mg X.base k C f S) (hr : Room j X.A) (hk : k + 1 ≤ j) (he : PE X e ta) (hab : attributeBase e f X.env (eval e X.env) = eval e X.env := by rfl) : PE X (.Attribute e f pos) (tProp C (Pm S) [] E0 ta) := by
  obtain ⟨p, g, fd, cl, pr, F, b⟩ := c.ex
  exact pe_prop he cl pr F (hr.mono hk) b .nil (fun _ _ _ _ _ _ _ h => h.elim) hab
/-! ### built-ins -/
theorem pe_ty {X : Cx} {x : Str} {pos : Pos} (n : String) (hg : Gl X x) (hm : X.mg x = none) (hv : bootBuiltins x = some (.type n)) (hn : x ≠ "__name__" := by decide) (hdb : (x == ("__debug__" : Str)) = false := by decide) : PE X (.Name x pos) (tC (.ty n)) := pe_bltn hg hm hv rfl hn hdb
theorem pe_cls {X : Cx} {x : Str} {pos : Pos} {a : Addr} (hg : Gl X x) (hm : X.mg x = some (.ref a)) (hdb : (x == ("__debug__" : Str)) = false := by decide) : PE X (.Name x pos) (tC (.ref a)) := pe_glob hg hm rfl hdb
/-! the written part named, for what stands in a comprehension -/
section
variable {X : Cx} {K : PySem.W.Frag}
theorem ix_tupK (h : X.K = K) : IxR X (rIxT K) := by rw [← h]; exact ix_tup
theorem ix_listK (h : X.K = K) : IxR X (rIxL K) := by rw [← h]; exact ix_list
theorem pe_fldK {e : Expr} {f : Str} {pos : Pos} {ta : TE} (h : X.K = K) (he : PE X e ta) (hb : attributeBase e f X.env (eval e X.env) = eval e X.env) : PE X (.Attribute e f pos) (tFld K ta f) := by rw [← h]; exact pe_fld he hb
theorem cr_sortedSK (h : X.K = K) : CallR X (.builtin "sorted") (rSortedS K) := by rw [← h]; exact cr_sortedS
theorem call_tuple_ofK (h : X.K = K) : CallR X (.type "tuple") (fun xs H Q => ∃ p ys, xs = [.ref p] ∧ ((SqL K H p ys ∧ ∀ l, H l = none → Q (.ref l) (upd H l (.tup ys))) ∨ (SqT K H p ys ∧ Q (.ref p) H))) := by rw [← h]; exact call_tuple_of
theorem call_len_seqK (h : X.K = K) : CallR X (.builtin "len") (fun xs H Q => ∃ p ys, xs = [.ref p] ∧ (SqL K H p ys ∨ SqT K H p ys) ∧ Q (.int ys.length) H) := by rw [← h]; exact call_len_seq
theorem op_in_seqK (h : X.K = K) : OpR X (compareOp .In) (rIn K false) := by rw [← h]; exact op_in_seq
theorem op_notInDK (h : X.K = K) (hu : X.A.units + 65 < cLine) : OpR X (compareOp .NotIn) (rNotInD K) := by rw [← h]; exact op_notInD hu
theorem pg_tupK {es : List Expr} {k : Nat} {t : TGs} {n : Nat} {pos : Pos} (hK : X.K = K) (hc : X.calm = true) (h : PGs X es t)
    (hn : (assignEach es X.env).length = n := by rfl) (hst : (assignEach es X.env).findIdx? (·.1) = none := by rfl) : PG X (.Tuple es k pos) (gTup K n t) := by rw [← hK]; exact pg_tup hc h hn hst
end
def TyB (K : PySem.W.Frag) (B : Hp) (x : V) (n : String) : Prop := ∀ M H, Ok B M H → TyX K H x (.type n)
section
variable {B : Hp} {M : Mu} {R : V → Hp → Mu → Prop} {K : PySem.W.Frag}
theorem tb_int {i : Int} : TyB K B (.int i) "int" := fun _ _ _ => .base (.int i)
theorem tb_str {z : Str} : TyB K B (.str z) "str" := fun _ _ _ => .base (.str z)
theorem tb_lst {a : Addr} {xs : List V} (h : SqL K B a xs) : TyB K B (.ref a) "list" := fun M H ok => by
  rcases ok.sqL h with (e | ⟨o, e⟩) | ⟨o, its, n, e, c, _⟩
  · exact .base (.lst e)
  · exact .base (.frz e)
  · exact .kList e c
theorem tb_tup {a : Addr} {xs : List V} (h : SqT K B a xs) : TyB K B (.ref a) "tuple" := fun M H ok => by
  rcases ok.sqT h with (e | ⟨o, e⟩) | ⟨o, its, n, e, c, _⟩
  · exact .base (.tup e)
  · exact .fTuple e
  · exact .kTuple e c
theorem tb_dK {a : Addr} {kvs : List (Key × V)} (h : B a = some (.dK kvs)) : TyB K B (.ref a) "dict" := fun M H ok => .base (.dK (ok.at h))
theorem wc_isi {x : V} {n m : String} {b : Bool} (h : TyB K B x n) (hb : kitB n m = some b) (k : R (.bl b) B M) : wC (rIsi K) [x, .ty m] B M R := fun H Q ok q => ⟨x, .ty m, .type n, .type m, b, rfl, .ty m, h M H ok, kit_ty hb, q _ _ _ _ ok k⟩
/-- one of two built-in types -/
theorem wc_isi2 {x : V} {p : Addr} {n m1 m2 : String} {b1 b2 : Bool} (h : TyB K B x n) (hp : B p = some (.tup [.ty m1, .ty m2])) (h1 : kitB n m1 = some b1) (h2 : kitB n m2 = some b2) (k : R (.bl (b1 || b2)) B M) : wC (rIsiT K) [x, .ref p] B M R := fun H Q ok q =>
  ⟨x, p, [.ty m1, .ty m2], .type n, [.type m1, .type m2], b1 || b2, rfl, ok.at hp, .cons (.ty m1) (.cons (.ty m2) .nil), h M H ok, by
    cases b1 with
    | true => exact kitAny_cons (kit_ty h1) (fun z => by cases z) fun _ => rfl
    | false =>
      refine kitAny_cons (kit_ty h1) (fun _ => ?_) fun z => by cases z
      cases b2 with
      | true => exact kitAny_cons (kit_ty h2) (fun z => by cases z) fun _ => rfl
      | false => exact kitAny_cons (kit_ty h2) (fun _ => kitAny_nil) fun z => (by cases z), q _ _ _ _ ok k⟩
theorem wi_int_int {i : Int} (k : R (.bl true) B M) : wC (rIsi K) [.int i, .ty "int"] B M R := wc_isi tb_int (by decide +kernel) k
theorem wi_int_bool {i : Int} (k : R (.bl false) B M) : wC (rIsi K) [.int i, .ty "bool"] B M R := wc_isi tb_int (by decide +kernel) k
theorem wi_str_str {z : Str} (k : R (.bl true) B M) : wC (rIsi K) [.str z, .ty "str"] B M R := wc_isi tb_str (by decide +kernel) k
theorem wi_lst_lst {a : Addr} {xs : List V} (h : SqL K B a xs) (k : R (.bl true) B M) : wC (rIsi K) [.ref a, .ty "list"] B M R := wc_isi (tb_lst h) (by decide +kernel) k
theorem wi_tup_tup {a : Addr} {xs : List V} (h : SqT K B a xs) (k : R (.bl true) B M) : wC (rIsi K) [.ref a, .ty "tuple"] B M R := wc_isi (tb_tup h) (by decide +kernel) k
theorem wi_dK_dict {a : Addr} {kvs : List (Key × V)} (h : B a = some (.dK kvs)) (k : R (.bl true) B M) : wC (rIsi K) [.ref a, .ty "dict"] B M R := wc_isi (tb_dK h) (by decide +kernel) k
theorem wi_lst_lt {a p : Addr} {xs : List V} (h : SqL K B a xs) (hp : B p = some (.tup [.ty "list", .ty "tuple"])) (k : R (.bl true) B M) : wC (rIsiT K) [.ref a, .ref p] B M R := wc_isi2 (b1 := true) (b2 := false) (tb_lst h) hp (by decide +kernel) (by decide +kernel) k
theorem wc_isC {a C dx : Addr} {fs : List (Str × V)} (h : B a = some (.ins C dx fs)) (k : R (.bl true) B M) : wC (fun xs H Q => ∃ a dx fs, xs = [.ref a, .ref C] ∧ H a = some (.ins C dx fs) ∧ Q (.bl true) H) [.ref a, .ref C] B M R := fun H Q ok q =>
  ⟨a, dx, fs, rfl, ok.at h, q _ _ _ _ ok k⟩
end
/-! ### short words for what a test leaves -/
theorem bT {X Y : Prop} (h : X) : (true = true → X) ∧ (true = false → Y) := ⟨fun _ => h, fun z => nomatch z⟩
theorem bF {X Y : Prop} (h : Y) : (false = true → X) ∧ (false = false → Y) := ⟨fun z => (nomatch z), fun _ => h⟩
theorem bnT {X Y : Prop} (h : X) : ((!false) = true → X) ∧ ((!false) = false → Y) := bT h
theorem bnF {X Y : Prop} (h : Y) : ((!true) = true → X) ∧ ((!true) = false → Y) := bF h
theorem bX {X : Bool → Prop} {b : Bool} (h : X b) : ∃ c, V.bl b = V.bl c ∧ X c := ⟨b, rfl, h⟩
theorem iX {X : Int → Prop} {b : Int} (h : X b) : ∃ c, V.int b = V.int c ∧ X c := ⟨b, rfl, h⟩
theorem bD {p : Prop} {_ : Decidable p} {X Y : Prop} (h : p → X) (h' : ¬ p → Y) : (decide p = true → X) ∧ (decide p = false → Y) := ⟨fun z => h (of_decide_eq_true z), fun z => h' (of_decide_eq_false z)⟩
theorem bN {p : Prop} {_ : Decidable p} {X Y : Prop} (h : p → Y) (h' : ¬ p → X) : ((!decide p) = true → X) ∧ ((!decide p) = false → Y) := by
  by_cases c : p
  · rw [decide_eq_true c]
    exact ⟨fun z => (nomatch z), fun _ => h c⟩
  · rw [decide_eq_false c]
    exact ⟨fun _ => h' c, fun z => nomatch z⟩
section
variable {X Y : Prop} {i : Int} {z : Str} {a : Addr}
theorem zN (h : X) : (decide (V.non = V.non) = true → X) ∧ (decide (V.non = V.non) = false → Y) := bT h
theorem zI (h : Y) : (decide (V.int i = V.non) = true → X) ∧ (decide (V.int i = V.non) = false → Y) := bF h
theorem zS (h : Y) : (decide (V.str z = V.non) = true → X) ∧ (decide (V.str z = V.non) = false → Y) := bF h
theorem zR (h : Y) : (decide (V.ref a = V.non) = true → X) ∧ (decide (V.ref a = V.non) = false → Y) := bF h
theorem zN' (h : Y) : ((!decide (V.non = V.non)) = true → X) ∧ ((!decide (V.non = V.non)) = false → Y) := bF h
theorem zI' (h : X) : ((!decide (V.int i = V.non)) = true → X) ∧ ((!decide (V.int i = V.non)) = false → Y) := bT h
theorem zS' (h : X) : ((!decide (V.str z = V.non)) = true → X) ∧ ((!decide (V.str z = V.non)) = false → Y) := bT h
theorem zR' (h : X) : ((!decide (V.ref a = V.non)) = true → X) ∧ ((!decide (V.ref a = V.non)) = false → Y) := bT h
end
/-- a test that is known to fail, its second half asked only sometimes -/
theorem and_cut {c : Bool} {u : TT} {σ : L2.St} {B : Hp} {M : Mu} {RB : Bool → Hp → Mu → Prop} (k : ∀ B3, Ex B B3 → RB false B3 M) (h : c = true → wT u σ B M (fun b B3 M3 => b = false ∧ Ex B B3 ∧ M3 = M)) : (c = true → wT u σ B M RB) ∧ (c = false → RB false B M) :=
  ⟨fun e => (h e).mono fun b B3 M3 ⟨e1, e2, e3⟩ => by rw [e1, e3]; exact k B3 e2, fun _ => k B (Ex.refl _)⟩
end Ab
/-! ## A1 -/
set_option Elab.async false
set_option linter.all false
set_option maxRecDepth 100000
set_option maxHeartbeats 2000000
/-! A1: loops and comprehensions over the frozen and the mutable part -/
namespace Ab
open PySem L2 PyProof.Rows
open Evl (Ex)
def wI (wi : TI) (σ : L2.St) (B : Hp) (M : Mu) (R : It → Hp → Mu → Prop) : Prop := ∀ H (Q : It → Hp → Prop), Ok B M H → (∀ v B' M' H', Ok B' M' H' → R v B' M' → Q v H') → wi σ H Q
/-- n turns; Y: what it gives at a turn -/
structure WB (J : It) (n : Nat) (B0 : Hp) (G : Mu → Prop) (Y : Nat → V → Hp → Prop) : Prop where
  goes : ∀ i B M H, i < n → Ex B0 B → G M → Ok B M H → J.go i H
  stops : ∀ B M H, Ex B0 B → G M → Ok B M H → J.stop n H
  yields : ∀ i B M H x H', i < n → Ex B0 B → G M → Ok B M H → J.yld i H x H' → ∃ B', Ex B B' ∧ Ok B' M H' ∧ Y i x B'
section
variable {σ : L2.St} {B : Hp} {M : Mu} {K : PySem.W.Frag} {a d : Addr} {xs ys : List V}
def GT : Mu → Prop := fun _ => True
theorem wb_list (h : SqL K B a xs) : WB (Itl K a) xs.length B GT (fun i x _ => xs[i]? = some x) :=
  ⟨fun i B' M H hi e _ ok => walk_list.goes i H hi (ok.sqL (Evl.ex_l e h)), fun B' M H e _ ok => walk_list.stops H (ok.sqL (Evl.ex_l e h)), fun i B' M H x H' hi e _ ok y => by
    obtain ⟨rfl, q⟩ := walk_list.yields i H x H' hi (ok.sqL (Evl.ex_l e h)) y
    exact ⟨B', Ex.refl _, ok, q⟩⟩
theorem wb_tup (h : SqT K B a xs) : WB (Itt K a) xs.length B GT (fun i x _ => xs[i]? = some x) :=
  ⟨fun i B' M H hi e _ ok => walk_tup.goes i H hi (ok.sqT (Evl.ex_t e h)), fun B' M H e _ ok => walk_tup.stops H (ok.sqT (Evl.ex_t e h)), fun i B' M H x H' hi e _ ok y => by
    obtain ⟨rfl, q⟩ := walk_tup.yields i H x H' hi (ok.sqT (Evl.ex_t e h)) y
    exact ⟨B', Ex.refl _, ok, q⟩⟩
theorem wb_range {lo : Int} {n : Nat} : WB (Itr lo n) n B GT (fun i x _ => x = .int (lo + i)) :=
  ⟨fun i B' M H hi e _ ok => walk_range.goes i H hi trivial, fun B' M H e _ ok => walk_range.stops H trivial, fun i B' M H x H' hi e _ ok y => by
    obtain ⟨rfl, q⟩ := walk_range.yields i H x H' hi trivial y
    exact ⟨B', Ex.refl _, ok, q⟩⟩
theorem wb_str {z : Str} : WB (Its z) z.cps.size B GT (fun i x _ => ∃ c, z.cps[i]? = some c ∧ x = .str ⟨#[c]⟩) :=
  ⟨fun i B' M H hi e _ ok => walk_str.goes i H hi trivial, fun B' M H e _ ok => walk_str.stops H trivial, fun i B' M H x H' hi e _ ok y => by
    obtain ⟨rfl, q⟩ := walk_str.yields i H x H' hi trivial y
    exact ⟨B', Ex.refl _, ok, q⟩⟩
theorem wb_enum (h : SqL K B a xs) : WB (Ite K a) xs.length B GT (fun i x B' => ∃ T y, x = .ref T ∧ xs[i]? = some y ∧ B' T = some (.tup [.int (i : Nat), y])) :=
  ⟨fun i B' M H hi e _ ok => walk_enum.goes i H hi (ok.sqL (Evl.ex_l e h)), fun B' M H e _ ok => walk_enum.stops H (ok.sqL (Evl.ex_l e h)), fun i B' M H x H' hi e _ ok y => by
    obtain ⟨T, u, v, rfl, hT, rfl, e1, e2⟩ := walk_enum.yields i H x H' hi (ok.sqL (Evl.ex_l e h)) y
    cases e1
    exact ⟨_, exNew (ok.freeB hT), ok.new hT, T, v, rfl, e2, upd_same⟩⟩
theorem wb_zip {b : Addr} {n : Nat} (hn : n = min xs.length ys.length) (h : SqL K B a xs) (h' : SqL K B b ys) : WB (Itz K a b) n B GT (fun i x B' => ∃ T y z, x = .ref T ∧ xs[i]? = some y ∧ ys[i]? = some z ∧ B' T = some (.tup [y, z])) :=
  ⟨fun i B' M H hi e _ ok => (walk_zip hn).goes i H hi ⟨ok.sqL (Evl.ex_l e h), ok.sqL (Evl.ex_l e h')⟩, fun B' M H e _ ok => (walk_zip hn).stops H ⟨ok.sqL (Evl.ex_l e h), ok.sqL (Evl.ex_l e h')⟩, fun i B' M H x H' hi e _ ok y => by
    obtain ⟨T, u, v, rfl, hT, rfl, e1, e2⟩ := (walk_zip hn).yields i H x H' hi ⟨ok.sqL (Evl.ex_l e h), ok.sqL (Evl.ex_l e h')⟩ y
    exact ⟨_, exNew (ok.freeB hT), ok.new hT, T, u, v, rfl, e1, e2, upd_same⟩⟩
theorem wb_keys {o : Obj} {kvs : List (Key × V)} : WB (Itk d o kvs) kvs.length B (fun M => M d = some (is (.frz o (.dK kvs)))) (fun i x _ => ∃ k v, kvs[i]? = some (k, v) ∧ x = kV k) :=
  ⟨fun i B' M H hi e g ok => walk_keys.goes i H hi (ok.mutAt g), fun B' M H e g ok => walk_keys.stops H (ok.mutAt g), fun i B' M H x H' hi e g ok y => by
    obtain ⟨rfl, q⟩ := walk_keys.yields i H x H' hi (ok.mutAt g) y
    exact ⟨B', Ex.refl _, ok, q⟩⟩
theorem wb_items {o : Obj} {kvs : List (Key × V)} : WB (Iti d o kvs) kvs.length B (fun M => M d = some (is (.frz o (.dK kvs)))) (fun i x B' => ∃ T k v, kvs[i]? = some (k, v) ∧ x = .ref T ∧ B' T = some (.tup [kV k, v])) :=
  ⟨fun i B' M H hi e g ok => walk_items.goes i H hi (ok.mutAt g), fun B' M H e g ok => walk_items.stops H (ok.mutAt g), fun i B' M H x H' hi e g ok y => by
    obtain ⟨T, u, v, rfl, hT, rfl, e1, e2⟩ := walk_items.yields i H x H' hi (ok.mutAt g) y
    have hk : kvs[i]? = some kvs[i] := by simp [hi]
    dsimp only at e1 e2
    rw [hk] at e1 e2
    cases e1
    cases e2
    exact ⟨_, exNew (ok.freeB hT), ok.new hT, T, _, _, hk, rfl, upd_same⟩⟩
/-! what is walked -/
variable {R : It → Hp → Mu → Prop}
theorem i_list {tl : TE} (h : wE tl σ B M fun v B1 M1 => ∃ a xs, v = .ref a ∧ SqL K B1 a xs ∧ R (Itl K a) B1 M1) : wI (iList K tl) σ B M R := fun H Q ok q => h H _ ok fun v B1 M1 H1 ok1 ⟨a, xs, e, hx, r⟩ => ⟨a, e, ⟨xs, ok1.sqL hx⟩, q _ _ _ _ ok1 r⟩
theorem i_tup {tl : TE} (h : wE tl σ B M fun v B1 M1 => ∃ a xs, v = .ref a ∧ SqT K B1 a xs ∧ R (Itt K a) B1 M1) : wI (iTup K tl) σ B M R := fun H Q ok q => h H _ ok fun v B1 M1 H1 ok1 ⟨a, xs, e, hx, r⟩ => ⟨a, e, ⟨xs, ok1.sqT hx⟩, q _ _ _ _ ok1 r⟩
theorem i_str {te : TE} (h : wE te σ B M fun v B1 M1 => ∃ x, v = .str x ∧ R (Its x) B1 M1) : wI (iStr te) σ B M R := fun H Q ok q => h H _ ok fun v B1 M1 H1 ok1 ⟨x, e, r⟩ => ⟨x, e, q _ _ _ _ ok1 r⟩
theorem i_rng1 {ta : TA} (h : wA ta σ B M fun vs B1 M1 => ∃ j : Int, vs = [.int j] ∧ -1000000 ≤ j ∧ j ≤ 1000000 ∧ R (Itr 0 j.toNat) B1 M1) : wI (iRng1 ta) σ B M R := fun H Q ok q => h H _ ok fun v B1 M1 H1 ok1 ⟨j, e, h1, h2, r⟩ => ⟨j, e, by omega, by omega, q _ _ _ _ ok1 r⟩
theorem i_rng2 {ta : TA} (h : wA ta σ B M fun vs B1 M1 => ∃ i j : Int, vs = [.int i, .int j] ∧ -1000000 ≤ i ∧ i ≤ 1000000 ∧ -1000000 ≤ j ∧ j ≤ 1000000 ∧ R (Itr i (j - i).toNat) B1 M1) : wI (iRng2 ta) σ B M R := fun H Q ok q => h H _ ok fun v B1 M1 H1 ok1 ⟨i, j, e, h1, h2, h3, h4, r⟩ => ⟨i, j, e, ⟨by omega, by omega, by omega, by omega⟩, q _ _ _ _ ok1 r⟩
theorem i_enum {ta : TA} (h : wA ta σ B M fun vs B1 M1 => ∃ a xs, vs = [.ref a] ∧ SqL K B1 a xs ∧ R (Ite K a) B1 M1) : wI (iEnum K ta) σ B M R := fun H Q ok q => h H _ ok fun v B1 M1 H1 ok1 ⟨a, xs, e, hx, r⟩ => ⟨a, xs, e, ok1.sqL hx, q _ _ _ _ ok1 r⟩
theorem i_zip {ta : TA} (h : wA ta σ B M fun vs B1 M1 => ∃ a b xs ys, vs = [.ref a, .ref b] ∧ SqL K B1 a xs ∧ SqL K B1 b ys ∧ R (Itz K a b) B1 M1) : wI (iZip K ta) σ B M R := fun H Q ok q => h H _ ok fun v B1 M1 H1 ok1 ⟨a, b, xs, ys, e, hx, hy, r⟩ => ⟨a, b, xs, ys, e, ok1.sqL hx, ok1.sqL hy, q _ _ _ _ ok1 r⟩
theorem i_keys {td : TE} (h : wE td σ B M fun v B1 M1 => ∃ d o kvs, v = .ref d ∧ M1 d = some (is (.frz o (.dK kvs))) ∧ R (Itk d o kvs) B1 M1) : wI (iKeys td) σ B M R := fun H Q ok q => h H _ ok fun v B1 M1 H1 ok1 ⟨d, o, kvs, e, hm, r⟩ => ⟨d, o, e, .inl ⟨kvs, ok1.mutAt hm, q _ _ _ _ ok1 r⟩⟩
theorem i_items {td : TE} (h : wE td σ B M fun v B1 M1 => ∃ d o kvs, v = .ref d ∧ M1 d = some (is (.frz o (.dK kvs))) ∧ R (Iti d o kvs) B1 M1) : wI (iItems td) σ B M R := fun H Q ok q => h H _ ok fun v B1 M1 H1 ok1 ⟨d, o, kvs, e, hm, r⟩ => ⟨d, o, kvs, e, ok1.mutAt hm, q _ _ _ _ ok1 r⟩
end
/-! ### for -/
section
variable {σ : L2.St} {B : Hp} {M : Mu} {K : PySem.W.Frag} {nx : L2.St → Hp → Mu → Prop} {rt : V → Hp → Mu → Prop}
/-- what a loop asks, J being walked -/
def Lp (g : TG) (tb : TS) (nx : L2.St → Hp → Mu → Prop) (rt : V → Hp → Mu → Prop) (σ : L2.St) (J : It) (B1 : Hp) (M1 : Mu) : Prop :=
  ∃ n G Y, WB J n B1 G Y ∧ ∃ Iv : Nat → L2.St → Hp → Mu → Prop, Iv 0 σ B1 M1 ∧ (∀ i σ' B' M', i ≤ n → Iv i σ' B' M' → Ex B1 B' ∧ G M') ∧
    (∀ i x σ' B' M' B2, i < n → Iv i σ' B' M' → Ex B' B2 → Y i x B2 → wG g x σ' B2 M' fun σ2 B3 M3 => wS tb σ2 B3 M3 (Iv (i + 1)) rt) ∧ (∀ σ' B' M', Iv n σ' B' M' → nx σ' B' M')
theorem s_for {wi : TI} {g : TG} {tb : TS} (h : wI wi σ B M fun J B1 M1 => Lp g tb nx rt σ J B1 M1) : wS (tFor wi g tb) σ B M nx rt := fun H D ok hn hr => h H _ ok fun J B1 M1 H1 ok1 ⟨n, G, Y, wb, Iv, h0, hI, hs, hd⟩ => by
  refine ⟨fun i m σ' H' => m = n - i ∧ i ≤ n ∧ ∃ B' M', Ok B' M' H' ∧ Iv i σ' B' M', ⟨_, rfl, Nat.zero_le _, B1, M1, ok1, h0⟩, ?_⟩
  rintro i m σ' H' ⟨rfl, hi, B', M', ok', iv⟩
  obtain ⟨e1, hG⟩ := hI i σ' B' M' hi iv
  by_cases hlt : i < n
  · refine .inr ⟨wb.goes i B' M' H' hlt e1 hG ok', fun σ2 H2 => ∃ B2 M2, Ok B2 M2 H2 ∧ Iv (i + 1) σ2 B2 M2, fun σ2 H2 p => ⟨n - (i + 1), by omega, rfl, hlt, p⟩, fun x H2 y => ?_⟩
    obtain ⟨B2, e2, ok2, hy⟩ := wb.yields i B' M' H' x H2 hlt e1 hG ok' y
    refine hs i x σ' B' M' B2 hlt iv e2 hy H2 _ ok2 fun σ3 B3 M3 H3 ok3 z => ?_
    exact z H3 _ ok3 (fun σ4 B4 M4 H4 ok4 q => ⟨B4, M4, ok4, q⟩) hr
  · have e : i = n := by omega
    subst e
    exact .inl ⟨wb.stops B' M' H' e1 hG ok', hn _ _ _ _ ok' (hd σ' B' M' iv)⟩
/-- while: Iv with a measure -/
theorem s_while {c : TT} {tb : TS} (Iv : Nat → L2.St → Hp → Mu → Prop) (m : Nat) (h0 : Iv m σ B M)
    (hs : ∀ m σ' B' M', Iv m σ' B' M' → wT c σ' B' M' fun b B1 M1 => (b = true → wS tb σ' B1 M1 (fun σ2 B2 M2 => ∃ m', m' < m ∧ Iv m' σ2 B2 M2) rt) ∧ (b = false → nx σ' B1 M1)) : wS (tWhile c tb) σ B M nx rt := fun H D ok hn hr => by
  refine ⟨fun m σ' H' => ∃ B' M', Ok B' M' H' ∧ Iv m σ' B' M', ⟨m, B, M, ok, h0⟩, ?_⟩
  rintro m σ' H' ⟨B', M', ok', iv⟩
  refine hs m σ' B' M' iv H' _ ok' fun b B1 M1 H1 ok1 z => ?_
  cases b with
  | true =>
    rw [if_pos rfl]
    exact ⟨fun σ2 H2 => ∃ m', m' < m ∧ ∃ B2 M2, Ok B2 M2 H2 ∧ Iv m' σ2 B2 M2, fun σ2 H2 p => p, z.1 rfl H1 _ ok1 (fun σ2 B2 M2 H2 ok2 ⟨m', hm, q⟩ => ⟨m', hm, B2, M2, ok2, q⟩) hr⟩
  | false =>
    rw [if_neg Bool.false_ne_true]
    exact hn _ _ _ _ ok1 (z.2 rfl)
end
/-! ### comprehensions -/
section
variable {σ : L2.St} {B : Hp} {M : Mu} {K : PySem.W.Frag} {R : V → Hp → Mu → Prop}
/-- what a list comprehension asks, J being walked: Iv by the turn, what is made so far, the frozen part -/
def Lc (g : TG) (tt : TT) (te : TE) (vs : List Nat) (R : V → Hp → Mu → Prop) (σ : L2.St) (J : It) (B1 : Hp) (M1 : Mu) : Prop :=
  ∃ n G Y, WB J n B1 G Y ∧ n ≤ 100000 ∧ ∃ Iv : Nat → List V → Hp → Prop, Iv 0 [] B1 ∧ ∀ D, B1 D = none → M1 D = none → (∀ P, G (updM M1 D P)) ∧
    (∀ i x acc B' B2, i < n → acc.length ≤ i → Ex B1 B' → Iv i acc B' → Ex B' B2 → Y i x B2 → wG g x (wipe σ vs) B2 (updM M1 D (is (.lst acc))) fun σ2 B3 M3 => wipe σ2 vs = wipe σ vs ∧ wT tt σ2 B3 M3 fun b B4 M4 =>
      (b = true → wE te σ2 B4 M4 fun y B5 M5 => M5 = updM M1 D (is (.lst acc)) ∧ Ex B2 B5 ∧ Iv (i + 1) (acc ++ [y]) B5) ∧ (b = false → M4 = updM M1 D (is (.lst acc)) ∧ Ex B2 B4 ∧ Iv (i + 1) acc B4)) ∧
    (∀ acc B', Ex B1 B' → B' D = none → acc.length ≤ n → Iv n acc B' → R (.ref D) (upd B' D (.lst acc)) M1)
theorem w_lc {wi : TI} {g : TG} {tt : TT} {te : TE} {vs : List Nat} (h : wI wi σ B M fun J B1 M1 => Lc g tt te vs R σ J B1 M1) : wE (tLc wi g tt te vs) σ B M R := fun H Q ok q => h H _ ok fun J B1 M1 H1 ok1 ⟨n, G, Y, wb, hz, Iv, h0, hD⟩ => by
  intro D hD1
  obtain ⟨hG, hs, hd⟩ := hD D (ok1.freeB hD1) (ok1.freeM hD1)
  refine ⟨fun i m H' => m = n - i ∧ i ≤ n ∧ ∃ acc B', Ok B' (updM M1 D (is (.lst acc))) H' ∧ acc.length ≤ i ∧ Ex B1 B' ∧ Iv i acc B', ⟨_, rfl, Nat.zero_le _, [], B1, ok1.newM hD1 rfl, Nat.le_refl _, Ex.refl _, h0⟩, ?_⟩
  rintro i m H' ⟨rfl, hi, acc, B', ok', hl, e1, iv⟩
  by_cases hlt : i < n
  · refine .inr ⟨wb.goes i B' _ H' hlt e1 (hG _) ok', fun H2 => ∃ acc B', Ok B' (updM M1 D (is (.lst acc))) H2 ∧ acc.length ≤ i + 1 ∧ Ex B1 B' ∧ Iv (i + 1) acc B', fun H2 p => ⟨n - (i + 1), by omega, rfl, hlt, p⟩, fun x H2 y => ?_⟩
    obtain ⟨B2, e2, ok2, hy⟩ := wb.yields i B' _ H' x H2 hlt e1 (hG _) ok' y
    refine hs i x acc B' B2 hlt hl e1 iv e2 hy H2 _ ok2 fun σ3 B3 M3 H3 ok3 z => ⟨z.1, ?_⟩
    refine z.2 H3 _ ok3 fun b B4 M4 H4 ok4 zb => ?_
    cases b with
    | true =>
      rw [if_pos rfl]
      refine zb.1 rfl H4 _ ok4 fun v B5 M5 H5 ok5 ⟨eM, e5, iv5⟩ => ?_
      subst eM
      refine ⟨acc, ok5.mutAt updM_same, Evl.sz_lt (by omega), acc ++ [v], B5, ?_, by simp; omega, (e1.trans e2).trans e5, iv5⟩
      have k := ok5.put (o := .lst (acc ++ [v])) (Q := is (.lst (acc ++ [v]))) updM_same rfl
      rw [updM_updM] at k
      exact k
    | false =>
      rw [if_neg Bool.false_ne_true]
      obtain ⟨eM, e4, iv4⟩ := zb.2 rfl
      subst eM
      exact ⟨acc, B4, ok4, by omega, (e1.trans e2).trans e4, iv4⟩
  · have e : i = n := by omega
    subst e
    refine .inl ⟨wb.stops B' _ H' e1 (hG _) ok', ?_⟩
    obtain ⟨nb, _⟩ := ok'.mtb D _ updM_same
    have k := ok'.freeze (a := D) (o := .lst acc) updM_same
    rw [delM_updM (ok1.freeM hD1)] at k
    exact q _ _ _ _ k (hd acc B' e1 nb (by omega) iv)
/-- the heap locked at d while e runs -/
theorem w_lockE {t : TE} {d : Addr} {kvs : List (Key × V)} (hd : M d = some (is (.dK kvs))) (h : ∀ od, wE t σ B (updM M d (is (.frz od (.dK kvs)))) fun v B' M' => ∃ M0, M' = updM M0 d (is (.frz od (.dK kvs))) ∧ R v B' (updM M0 d (is (.dK kvs)))) : wE (tLockE t) σ B M R := fun H Q ok q => by
  refine ⟨d, .dK kvs, ok.mutAt hd, trivial, fun od => ?_⟩
  refine h od _ _ (ok.put hd rfl) fun v B' M' H' ok' ⟨M0, eM, r⟩ => ?_
  subst eM
  refine ⟨ok'.mutAt updM_same, ?_⟩
  have k := ok'.put (o := .dK kvs) (Q := is (.dK kvs)) updM_same rfl
  rw [updM_updM] at k
  exact q _ _ _ _ k r
end
end Ab
/-! ## A2 -/
set_option Elab.async false
set_option linter.all false
set_option maxRecDepth 100000
set_option maxHeartbeats 2000000
/-! A2: built-ins, operators, stores over the frozen and the mutable part -/
namespace Ab
open PySem L2 PyProof.Rows
open Evl (Ex)
section
variable {σ : L2.St} {B : Hp} {M : Mu} {R : V → Hp → Mu → Prop} {K : PySem.W.Frag} {a b d : Addr} {xs ys : List V}
/-! len, list, tuple, all, max, min, int, sorted, dict -/
abbrev rLenQ (K : PySem.W.Frag) : List V → Hp → VK → Prop := fun xs H Q => ∃ p ys, xs = [.ref p] ∧ (SqL K H p ys ∨ SqT K H p ys) ∧ Q (.int ys.length) H
theorem wc_lenL (h : SqL K B a xs) (k : R (.int (xs.length : Nat)) B M) : wC (rLenQ K) [.ref a] B M R := wc_val _ (fun H Q ok q => ⟨a, xs, rfl, .inl (ok.sqL h), q⟩) k
theorem wc_lenT (h : SqT K B a xs) (k : R (.int (xs.length : Nat)) B M) : wC (rLenQ K) [.ref a] B M R := wc_val _ (fun H Q ok q => ⟨a, xs, rfl, .inr (ok.sqT h), q⟩) k
/-- len of a list that may change -/
theorem wc_lenM (h : M a = some (is (.lst xs))) (k : R (.int (xs.length : Nat)) B M) : wC (rLenQ K) [.ref a] B M R := wc_val _ (fun H Q ok q => ⟨a, xs, rfl, .inl (.of (ok.mutAt h)), q⟩) k
abbrev rLenZ : List V → Hp → VK → Prop := fun xs H Q => ∃ z, xs = [.str z] ∧ z.length ≤ sizeLine ∧ Q (.int z.length) H
theorem wc_lenS {z : Str} (h : z.length ≤ 100000) (k : R (.int (z.length : Nat)) B M) : wC rLenZ [.str z] B M R := wc_val _ (fun H Q ok q => ⟨z, rfl, Evl.sz_of h, q⟩) k
abbrev rLenDk : List V → Hp → VK → Prop := fun xs H Q => ∃ a kvs, xs = [V.ref a] ∧ H a = some (.dK kvs) ∧ Q (.int kvs.length) H
theorem wc_lenD {kvs : List (Key × V)} (h : M a = some (is (.dK kvs))) (k : R (.int (kvs.length : Nat)) B M) : wC rLenDk [.ref a] B M R := wc_val _ (fun H Q ok q => ⟨a, kvs, rfl, ok.mutAt h, q⟩) k
theorem wi_dM_dict {kvs : List (Key × V)} (h : M a = some (is (.dK kvs))) (k : R (.bl true) B M) : wC (rIsi K) [.ref a, .ty "dict"] B M R := fun H Q ok q =>
  ⟨.ref a, .ty "dict", .type "dict", .type "dict", true, rfl, .ty _, .base (.dK (ok.mutAt h)), kit_ty (by decide +kernel), q _ _ _ _ ok k⟩
abbrev rListQ (K : PySem.W.Frag) : List V → Hp → VK → Prop := fun xs H Q => ∃ p ys, xs = [.ref p] ∧ (SqL K H p ys ∨ SqT K H p ys) ∧ ∀ l, H l = none → Q (.ref l) (upd H l (.lst ys))
theorem wc_listL (h : SqL K B a xs) (k : ∀ p, B p = none → M p = none → R (.ref p) (upd B p (.lst xs)) M) : wC (rListQ K) [.ref a] B M R := wc_lst (fun H Q ok q => ⟨a, xs, rfl, .inl (ok.sqL h), q⟩) k
theorem wc_listT (h : SqT K B a xs) (k : ∀ p, B p = none → M p = none → R (.ref p) (upd B p (.lst xs)) M) : wC (rListQ K) [.ref a] B M R := wc_lst (fun H Q ok q => ⟨a, xs, rfl, .inr (ok.sqT h), q⟩) k
theorem wc_listM (h : M a = some (is (.lst xs))) (k : ∀ p, B p = none → M p = none → R (.ref p) (upd B p (.lst xs)) M) : wC (rListQ K) [.ref a] B M R := wc_lst (fun H Q ok q => ⟨a, xs, rfl, .inl (.of (ok.mutAt h)), q⟩) k
theorem wc_listD {kvs : List (Key × V)} (h : B a = some (.dK kvs)) (k : ∀ p, B p = none → M p = none → R (.ref p) (upd B p (.lst (kvs.map fun kv => kV kv.1))) M) : wC rListD [.ref a] B M R := wc_lst (fun H Q ok q => ⟨a, kvs, rfl, ok.at h, q⟩) k
abbrev rTupQ (K : PySem.W.Frag) : List V → Hp → VK → Prop := fun xs H Q => ∃ p ys, xs = [.ref p] ∧ ((SqL K H p ys ∧ ∀ l, H l = none → Q (.ref l) (upd H l (.tup ys))) ∨ (SqT K H p ys ∧ Q (.ref p) H))
theorem wc_tupL (h : SqL K B a xs) (k : ∀ p, B p = none → M p = none → R (.ref p) (upd B p (.tup xs)) M) : wC (rTupQ K) [.ref a] B M R := wc_tup (fun H Q ok q => ⟨a, xs, rfl, .inl ⟨ok.sqL h, q⟩⟩) k
theorem wc_all {bs : List Bool} (h : SqL K B a (bs.map V.bl)) (k : R (.bl (bs.all id)) B M) : wC (rAll K) [.ref a] B M R := wc_val _ (fun H Q ok q => ⟨a, bs, rfl, ok.sqL h, q⟩) k
abbrev rMax2 : List V → Hp → VK → Prop := fun xs H Q => ∃ i j, xs = [.int i, .int j] ∧ Q (.int (if j > i then j else i)) H
abbrev rMin2 : List V → Hp → VK → Prop := fun xs H Q => ∃ i j, xs = [.int i, .int j] ∧ Q (.int (if j < i then j else i)) H
theorem wc_max2 {i j : Int} (k : R (.int (if j > i then j else i)) B M) : wC rMax2 [.int i, .int j] B M R := wc_val _ (fun H Q ok q => ⟨i, j, rfl, q⟩) k
theorem wc_min2 {i j : Int} (k : R (.int (if j < i then j else i)) B M) : wC rMin2 [.int i, .int j] B M R := wc_val _ (fun H Q ok q => ⟨i, j, rfl, q⟩) k
theorem wc_maxL {ns : List Int} (h : SqL K B a (ns.map V.int)) (hn : 0 < ns.length) (k : ∀ m, m ∈ ns → (∀ y, y ∈ ns → y ≤ m) → R (.int m) B M) : wC (rMax K) [.ref a] B M R := fun H Q ok q => ⟨a, ns, rfl, ok.sqL h, hn, fun m h1 h2 => q _ _ _ _ ok (k m h1 h2)⟩
abbrev rIntQ : List V → Hp → VK → Prop := fun xs H Q => (∃ i, xs = [.int i] ∧ Q (.int i) H) ∨ ∃ k, xs = [.bl k] ∧ Q (.int (if k then 1 else 0)) H
theorem wc_intB {c : Bool} (k : R (.int (if c then 1 else 0)) B M) : wC rIntQ [.bl c] B M R := wc_val _ (fun H Q ok q => .inr ⟨c, rfl, q⟩) k
theorem wc_sortedS {ss : List Str} (h : SqL K B a (ss.map V.str)) (hz : ss.length < 64) (k : ∀ (ys : List Str) p, ys.Perm ss → sortedS ys = true → B p = none → M p = none → R (.ref p) (upd B p (.lst (ys.map V.str))) M) : wC (rSortedS K) [.ref a] B M R := fun H Q ok q =>
  ⟨a, ss, rfl, ok.sqL h, hz, fun ys p h1 h2 hp => q _ _ _ _ (ok.new hp) (k ys p h1 h2 (ok.freeB hp) (ok.freeM hp))⟩
abbrev rSortedDk : List V → Hp → VK → Prop := fun xs H Q => ∃ (a : Addr) (kvs : List (Key × V)) (ks : List Str), xs = [.ref a] ∧ Rd H a (.dK kvs) ∧ kvs.map (·.1) = ks.map Sum.inr ∧ ks.length < 64 ∧
    ∀ ys p, ys.Perm ks → sortedS ys = true → H p = none → Q (.ref p) (upd H p (.lst (ys.map V.str)))
theorem wc_sortedD {kvs : List (Key × V)} {ks : List Str} (h : M a = some (is (.dK kvs))) (hk : kvs.map (·.1) = ks.map Sum.inr) (hz : ks.length < 64) (k : ∀ (ys : List Str) p, ys.Perm ks → sortedS ys = true → B p = none → M p = none → R (.ref p) (upd B p (.lst (ys.map V.str))) M) : wC rSortedDk [.ref a] B M R := fun H Q ok q =>
  ⟨a, kvs, ks, rfl, .inl (ok.mutAt h), hk, hz, fun ys p h1 h2 hp => q _ _ _ _ (ok.new hp) (k ys p h1 h2 (ok.freeB hp) (ok.freeM hp))⟩
/-- dict([(k, v), ..]): a dict that may be locked -/
abbrev rDictP (K : PySem.W.Frag) : List V → Hp → VK → Prop := fun xs H Q => ∃ (a : Addr) (ps : List Addr) (kvs : List (Key × V)), xs = [.ref a] ∧ SqL K H a (ps.map V.ref) ∧ Paired (fun p kv => SqT K H p [kV kv.1, kv.2]) ps kvs ∧
    ∀ p, H p = none → Q (.ref p) (upd H p (.dK (mergeK [] kvs)))
theorem pairedM {α β : Type} {F G : α → β → Prop} (f : ∀ x y, F x y → G x y) : ∀ {l : List α} {m : List β}, Paired F l m → Paired G l m
  | _, _, .nil => .nil
  | _, _, .cons r t => .cons (f _ _ r) (pairedM f t)
theorem wc_dictP {ps : List Addr} {kvs : List (Key × V)} (h : SqL K B a (ps.map V.ref)) (hp : Paired (fun p kv => SqT K B p [kV kv.1, kv.2]) ps kvs) (k : ∀ p, B p = none → M p = none → R (.ref p) B (updM M p (is (.dK (mergeK [] kvs))))) : wC (rDictP K) [.ref a] B M R := fun H Q ok q =>
  ⟨a, ps, kvs, rfl, ok.sqL h, pairedM (fun _ _ z => ok.sqT z) hp, fun p np => q _ _ _ _ (ok.newM np isr) (k p (ok.freeB np) (ok.freeM np))⟩
/-! operators -/
theorem wr_ixL {i : Int} {v : V} (h : SqL K B a xs) (hi : atI xs i = some v) (k : R v B M) : wR (rIxL K) (.ref a) (.int i) B M R := wr_val _ (fun H Q ok q => ⟨a, xs, i, v, rfl, rfl, ok.sqL h, hi, q⟩) k
theorem wr_ixM {i : Int} {v : V} (h : M a = some (is (.lst xs))) (hi : atI xs i = some v) (k : R v B M) : wR (rIxL K) (.ref a) (.int i) B M R := wr_val _ (fun H Q ok q => ⟨a, xs, i, v, rfl, rfl, .of (ok.mutAt h), hi, q⟩) k
theorem wr_ixT {i : Int} {v : V} (h : SqT K B a xs) (hi : atI xs i = some v) (k : R v B M) : wR (rIxT K) (.ref a) (.int i) B M R := wr_val _ (fun H Q ok q => ⟨a, xs, i, v, rfl, rfl, ok.sqT h, hi, q⟩) k
theorem wr_ixS {z : Str} {i : Int} {c : Nat} (hz : z.length ≤ 100000) (hi : atI z.cps.toList i = some c) (k : R (.str ⟨#[c]⟩) B M) : wR rIxS (.str z) (.int i) B M R := wr_val _ (fun H Q ok q => ⟨z, i, c, rfl, rfl, Evl.sz_of hz, hi, q⟩) k
theorem wr_cat (h : B a = some (.lst xs)) (h' : B b = some (.lst ys)) (hz : xs.length + ys.length ≤ 100000) (k : ∀ p, B p = none → M p = none → R (.ref p) (upd B p (.lst (xs ++ ys))) M) : wR rCat (.ref a) (.ref b) B M R := wr_lst (fun H Q ok q => ⟨a, b, xs, ys, rfl, rfl, ok.at h, ok.at h', Evl.sz_of hz, q⟩) k
abbrev rAddS : R2 := fun x y H Q => ∃ i j, x = .str i ∧ y = .str j ∧ i.length + j.length ≤ sizeLine ∧ Q (.str (i ++ j)) H
theorem wr_addS {y z : Str} (h : y.length + z.length ≤ 100000) (k : R (.str (y ++ z)) B M) : wR rAddS (.str y) (.str z) B M R := wr_val _ (fun H Q ok q => ⟨y, z, rfl, rfl, Evl.sz_of h, q⟩) k
abbrev rInC : R2 := fun x y H Q => ∃ (c : Nat) (z : Str), x = .str ⟨#[c]⟩ ∧ y = .str z ∧ Q (.bl (decide (c ∈ z.cps.toList))) H
theorem wr_inC {c : Nat} {z : Str} (k : R (.bl (decide (c ∈ z.cps.toList))) B M) : wR rInC (.str ⟨#[c]⟩) (.str z) B M R := wr_val _ (fun H Q ok q => ⟨c, z, rfl, rfl, q⟩) k
theorem wr_inL {x : V} (h : SqL K B a xs) (hx : flatV x = true) (hf : xs.all flatV = true) (k : R (.bl (inV x xs)) B M) : wR (rIn K false) x (.ref a) B M R := wr_val _ (fun H Q ok q => ⟨a, xs, rfl, .inl (ok.sqL h), hx, hf, q⟩) k
theorem wr_ninL {x : V} (h : SqL K B a xs) (hx : flatV x = true) (hf : xs.all flatV = true) (k : R (.bl (!inV x xs)) B M) : wR (rIn K true) x (.ref a) B M R := wr_val _ (fun H Q ok q => ⟨a, xs, rfl, .inl (ok.sqL h), hx, hf, q⟩) k
theorem wr_inT {x : V} (h : SqT K B a xs) (hx : flatV x = true) (hf : xs.all flatV = true) (k : R (.bl (inV x xs)) B M) : wR (rIn K false) x (.ref a) B M R := wr_val _ (fun H Q ok q => ⟨a, xs, rfl, .inr (ok.sqT h), hx, hf, q⟩) k
mutual
theorem dp_ex {B H : Hp} (e : Ex B H) : ∀ {v : V} {d : PyData}, Dp K B v d → Dp K H v d
  | _, _, .non => .non
  | _, _, .bl b => .bl b
  | _, _, .int i => .int i
  | _, _, .str z => .str z
  | _, _, .lst h q => .lst (Evl.ex_l e h) (dpAll_ex e q)
  | _, _, .tup h q => .tup (Evl.ex_t e h) (dpAll_ex e q)
theorem dpAll_ex {B H : Hp} (e : Ex B H) : ∀ {vs : List V} {ds : List PyData}, DpAll K B vs ds → DpAll K H vs ds
  | _, _, .nil => .nil
  | _, _, .cons h q => .cons (dp_ex e h) (dpAll_ex e q)
end
theorem wr_eqD {x y : V} {d e : PyData} (h : Dp K B x d) (h' : Dp K B y e) (s : SeqAt.shaped d = true) (s' : SeqAt.shaped e = true) (k : R (.bl (PyData.eqv d e)) B M) : wR (rEqD K) x y B M R := wr_val _ (fun H Q ok q => ⟨d, e, dp_ex ok.has h, dp_ex ok.has h', s, s', q⟩) k
theorem wr_neD {x y : V} {d e : PyData} (h : Dp K B x d) (h' : Dp K B y e) (s : SeqAt.shaped d = true) (s' : SeqAt.shaped e = true) (k : R (.bl (!PyData.eqv d e)) B M) : wR (rNeD K) x y B M R := wr_val _ (fun H Q ok q => ⟨d, e, dp_ex ok.has h, dp_ex ok.has h', s, s', q⟩) k
theorem wr_ninD {x y : V} {d : PyData} {ds : List PyData} (h : Dp K B x d) (h' : Dp K B y (.list ds)) (s : SeqAt.shaped d = true) (s' : SeqAt.shaped (.list ds) = true) (k : R (.bl (!ds.any fun z => PyData.eqv z d)) B M) : wR (rNotInD K) x y B M R := wr_val _ (fun H Q ok q => ⟨d, ds, dp_ex ok.has h, dp_ex ok.has h', s, s', q⟩) k
/-! dicts: frozen or exactly known -/
def Dk (B : Hp) (M : Mu) (d : Addr) (kvs : List (Key × V)) : Prop := B d = some (.dK kvs) ∨ M d = some (is (.dK kvs)) ∨ ∃ o, M d = some (is (.frz o (.dK kvs)))
theorem Dk.rd {kvs : List (Key × V)} {H : Hp} (h : Dk B M d kvs) (ok : Ok B M H) : Rd H d (.dK kvs) := by
  rcases h with h | h | ⟨o, h⟩
  · exact .inl (ok.at h)
  · exact .inl (ok.mutAt h)
  · exact .inr ⟨o, ok.mutAt h⟩
theorem Dk.get {kvs : List (Key × V)} {H : Hp} {k : Key} (h : Dk B M d kvs) (ok : Ok B M H) : DGet H d (kV k) (valV kvs k) := .inl ⟨kvs, k, h.rd ok, rfl, rfl⟩
theorem w_dget {td ty : TE} (h : wE td σ B M fun x B1 M1 => wE ty σ B1 M1 fun y B2 M2 => ∃ d kvs k v, x = .ref d ∧ y = kV k ∧ Dk B2 M2 d kvs ∧ valV kvs k = some v ∧ R v B2 M2) : wE (tDGet td ty) σ B M R := fun H Q ok q =>
  h H _ ok fun x B1 M1 H1 ok1 h1 => h1 H1 _ ok1 fun y B2 M2 H2 ok2 ⟨d, kvs, k, v, e1, e2, hd, hv, r⟩ => ⟨d, v, e1, by rw [e2, ← hv]; exact hd.get ok2, q _ _ _ _ ok2 r⟩
theorem w_din {td ty : TE} (h : wE ty σ B M fun y B1 M1 => wE td σ B1 M1 fun x B2 M2 => ∃ d kvs k, x = .ref d ∧ y = kV k ∧ Dk B2 M2 d kvs ∧ R (.bl (valV kvs k).isSome) B2 M2) : wE (tDIn ty td) σ B M R := fun H Q ok q =>
  h H _ ok fun y B1 M1 H1 ok1 h1 => h1 H1 _ ok1 fun x B2 M2 H2 ok2 ⟨d, kvs, k, e1, e2, hd, r⟩ => ⟨d, valV kvs k, e1, by rw [e2]; exact hd.get ok2, q _ _ _ _ ok2 r⟩
theorem w_dnin {td ty : TE} (h : wE ty σ B M fun y B1 M1 => wE td σ B1 M1 fun x B2 M2 => ∃ d kvs k, x = .ref d ∧ y = kV k ∧ Dk B2 M2 d kvs ∧ R (.bl (!(valV kvs k).isSome)) B2 M2) : wE (tDNotIn ty td) σ B M R := fun H Q ok q =>
  h H _ ok fun y B1 M1 H1 ok1 h1 => h1 H1 _ ok1 fun x B2 M2 H2 ok2 ⟨d, kvs, k, e1, e2, hd, r⟩ => ⟨d, valV kvs k, e1, by rw [e2]; exact hd.get ok2, q _ _ _ _ ok2 r⟩
/-! slices -/
theorem w_sl {r : V → Option Int → Option Int → Hp → VK → Prop} {te : TE} {tl th : TO} (h : wE te σ B M fun x B1 M1 => wO tl σ B1 M1 fun l B2 M2 => wO th σ B2 M2 fun u B3 M3 => ∀ H (Q : VK), Ok B3 M3 H → (∀ v B' M' H', Ok B' M' H' → R v B' M' → Q v H') → r x l u H Q) : wE (tSl r te tl th) σ B M R := fun H Q ok q =>
  h H _ ok fun x B1 M1 H1 ok1 h1 => h1 H1 _ ok1 fun l B2 M2 H2 ok2 h2 => h2 H2 _ ok2 fun u B3 M3 H3 ok3 h3 => h3 H3 Q ok3 q
theorem wl_L {lo hi : Option Int} (h : SqL K B a xs) (k : ∀ p, B p = none → M p = none → R (.ref p) (upd B p (.lst (cutV xs lo hi))) M) : ∀ H (Q : VK), Ok B M H → (∀ v B' M' H', Ok B' M' H' → R v B' M' → Q v H') → rSlL K (.ref a) lo hi H Q := fun H Q ok q =>
  ⟨a, xs, rfl, ok.sqL h, fun p hp => q _ _ _ _ (ok.new hp) (k p (ok.freeB hp) (ok.freeM hp))⟩
theorem wl_T {lo hi : Option Int} (h : SqT K B a xs) (k0 : HT.sIx xs.length 0 lo = 0 ∧ HT.sIx xs.length xs.length hi = xs.length → R (.ref a) B M) (k : ∀ p, B p = none → M p = none → R (.ref p) (upd B p (.tup (cutV xs lo hi))) M) : ∀ H (Q : VK), Ok B M H → (∀ v B' M' H', Ok B' M' H' → R v B' M' → Q v H') → rSlA K (.ref a) lo hi H Q := fun H Q ok q =>
  ⟨a, xs, rfl, ok.sqT h, fun z => q _ _ _ _ ok (k0 z), fun _ p hp => q _ _ _ _ (ok.new hp) (k p (ok.freeB hp) (ok.freeM hp))⟩
theorem w_revL {te : TE} (h : wE te σ B M fun x B1 M1 => ∃ a xs, x = .ref a ∧ SqL K B1 a xs ∧ ∀ p, B1 p = none → M1 p = none → R (.ref p) (upd B1 p (.lst xs.reverse)) M1) : wE (tRevL K te) σ B M R := fun H Q ok q =>
  h H _ ok fun x B1 M1 H1 ok1 ⟨a, xs, e, hx, k⟩ => ⟨a, xs, e, ok1.sqL hx, fun p hp => q _ _ _ _ (ok1.new hp) (k p (ok1.freeB hp) (ok1.freeM hp))⟩
/-- .. of a list that may change -/
theorem w_revM {te : TE} (h : wE te σ B M fun x B1 M1 => ∃ a xs, x = .ref a ∧ M1 a = some (is (.lst xs)) ∧ ∀ p, B1 p = none → M1 p = none → R (.ref p) (upd B1 p (.lst xs.reverse)) M1) : wE (tRevL K te) σ B M R := fun H Q ok q =>
  h H _ ok fun x B1 M1 H1 ok1 ⟨a, xs, e, hx, k⟩ => ⟨a, xs, e, .of (ok1.mutAt hx), fun p hp => q _ _ _ _ (ok1.new hp) (k p (ok1.freeB hp) (ok1.freeM hp))⟩
/-! texts -/
abbrev rJoin (K : PySem.W.Frag) : V → List V → Hp → VK → Prop := fun x xs H Q => ∃ a p, ∃ ys : List Str, x = .str a ∧ xs = [.ref p] ∧ (SqL K H p (ys.map V.str) ∨ SqT K H p (ys.map V.str)) ∧
    (ys.map (·.length)).sum + ys.length * a.length ≤ 16777216 ∧ Q (.str (Txt.join a ys)) H
end
/-! ### stores -/
section
variable {σ : L2.St} {B : Hp} {M : Mu} {nx : L2.St → Hp → Mu → Prop} {rt : V → Hp → Mu → Prop} {K : PySem.W.Frag}
theorem s_fld {ta tv : TE} {f : Str} (h : wE tv σ B M fun y B1 M1 => wE ta σ B1 M1 fun x B2 M2 => ∃ a C dx fs, x = .ref a ∧ M2 a = some (is (.ins C dx fs)) ∧ Cls K C ∧ NoAttr K C f ∧ fs.length < 1000 ∧ nx σ B2 (updM M2 a (is (.ins C dx (putF f y fs))))) : wS (sFld K ta tv f) σ B M nx rt := fun H D ok n r =>
  h H _ ok fun y B1 M1 H1 ok1 h1 => h1 H1 _ ok1 fun x B2 M2 H2 ok2 ⟨a, C, dx, fs, e, hm, c, na, hl, k⟩ => ⟨a, C, dx, fs, e, ok2.mutAt hm, c, na, hl, n _ _ _ _ (ok2.put hm isr) k⟩
theorem s_app {ta te : TE} (h : wE ta σ B M fun x B1 M1 => ∃ l, x = .ref l ∧ (∃ xs, M1 l = some (is (.lst xs))) ∧ wE te σ B1 M1 fun y B2 M2 => ∃ xs, M2 l = some (is (.lst xs)) ∧ xs.length < 100000 ∧ nx σ B2 (updM M2 l (is (.lst (xs ++ [y]))))) :
    wS (tDrop (tBM K "list" rAppend ta (tCons te tNil))) σ B M nx rt := fun H D ok n r =>
  h H _ ok fun x B1 M1 H1 ok1 ⟨l, e, ⟨xs0, hm0⟩, h1⟩ => by
    subst e
    exact ⟨.inl ⟨rfl, xs0, .of (ok1.mutAt hm0)⟩, h1 H1 _ ok1 fun y B2 M2 H2 ok2 ⟨xs, hm, hz, k⟩ => ⟨l, xs, y, rfl, rfl, ok2.mutAt hm, Evl.sz_lt hz, n _ _ _ _ (ok2.put hm isr) k⟩⟩
theorem s_aug {i : Nat} {te : TE} {r : V → V → Hp → VK → Prop} (h : ∃ x, σ[i]? = some (some x) ∧ wE te σ B M fun y B1 M1 => wR r x y B1 M1 fun z B2 M2 => nx (σ.set i (some z)) B2 M2) : wS (tAug i te r) σ B M nx rt := fun H D ok n _ => by
  obtain ⟨x, e, h⟩ := h
  exact ⟨x, e, h H _ ok fun y B1 M1 H1 ok1 h1 => h1 H1 _ ok1 fun z B2 M2 H2 ok2 k => n _ _ _ _ ok2 k⟩
end
end Ab
/-! ## E0 -/
set_option Elab.async false
set_option linter.all false
set_option maxRecDepth 100000
set_option maxHeartbeats 2000000
/-! E0: a set comprehension of texts (after HandS.SetBool's, whose items are truth values), its length -/
namespace Ab
open PySem PySem.Spec L2 PyProof.Rows PpSet
section
variable {X : Cx}
theorem addK_ok {pins : List (Addr × Obj)} {σ : L2.St} {H : Hp} {s : Shared} {E : Value → Shared → Prop} {D : Addr} {S : Key → Bool} {n : Nat} {k : Key} {u : Value} {Q : Value → Shared → Prop} (I : Inv X pins σ H s) (hD : H D = some (SetK X.prog X.w D S n)) (room : n + 1 < scanBound) (ry : RelV (kV k) u)
    (h : ∀ s', Inv X pins σ (upd H D (SetK X.prog X.w D (fun j => S j || decide (j = k)) (if S k = true then n else n + 1))) s' → Q .none s') : wpAny (model X.prog X.w) X.A (call (.builtin "set.add") [.ref D, u]) Q E s := by
  refine call_set_add (kV_is ry) (key_scan ry) (setK_get I hD) room fun h' sb new => ?_
  have he : ∃ u, h'.get? D = some u := by
    have ⟨o, _, _, _, ho, _⟩ := new
    exact ⟨o, ho⟩
  exact h _ (I.write (e := D) (t' := s.toks + 1) (by rw [hD]; trivial) (.inl rfl) (fun b u hb hu => (sb.2 b hb).trans hu) he (setK_new new))
/-- {elt for target in iter if ..}, elt an int or a text -/
def tScK (P : Program) (w : World) (wi : TI) (g : TG) (tt : TT) (te : TE) (vs : List Nat) : TE := fun σ H Q => wi σ H fun J H1 => ∀ D, H1 D = none → ∃ W : Nat → Nat → Hp → Prop, (∃ m, W 0 m (upd H1 D (SetK P w D (fun _ => false) 0))) ∧ ∀ i m H, W i m H →
  (J.stop i H ∧ Q (.ref D) H) ∨ (J.go i H ∧ ∃ Nx : Hp → Prop, (∀ H', Nx H' → ∃ m', m' < m ∧ W (i + 1) m' H') ∧ ∀ x H', J.yld i H x H' → g x (wipe σ vs) H' fun σ2 H2 => wipe σ2 vs = wipe σ vs ∧ tt σ2 H2 fun b H3 =>
    if b = true then te σ2 H3 fun y H4 => ∃ (k : Key) (S : Key → Bool) (n : Nat), y = kV k ∧ H4 D = some (SetK P w D S n) ∧ n + 1 < scanBound ∧ Nx (upd H4 D (SetK P w D (fun j => S j || decide (j = k)) (if S k = true then n else n + 1))) else Nx H3)
theorem pe_scK {elt tg iter : Expr} {ifs : List Expr} {scope : Scope} {own : List (PySem.Str × Nat)} {pos : Pos} {wi : TI} {g : TG} {tt : TT} {te : TE} (hc : X.calm = true) (hN : X.N.Nodup) (hi : PI X tg iter wi) (ok : BlkOk X.N X.env.scope scope own)
    (hg : ∀ (s : Shared) (H : Hp) (C : Addr) (cl : List (PySem.Str × Addr)) (fp : List Addr), PG (X.blk s H scope (compEnvC scope cl C X.env) fp) tg g) (ht : ∀ (s : Shared) (H : Hp) (C : Addr) (cl : List (PySem.Str × Addr)) (fp : List Addr), PTs (X.blk s H scope (compEnvC scope cl C X.env) fp) ifs tt)
    (he : ∀ (s : Shared) (H : Hp) (C : Addr) (cl : List (PySem.Str × Addr)) (fp : List Addr), PE (X.blk s H scope (compEnvC scope cl C X.env) fp) elt te) (hs : ∀ x, foldedSetIterable iter X.env x = pure x := by intro _; rfl) :
    PE X (.SetComp elt [⟨tg, iter, ifs, 0⟩] scope pos) (tScK X.prog X.w wi g tt te (own.map (·.2))) := by
  refine ⟨fun pins s σ H Q I h => ?_⟩
  rw [eval_SetComp]
  have clo : ∀ y ∈ scope.names, y.2 = .free → ∃ c, X.env.cells.lookup y.1 = some c := fun y hy e =>
    (ok.free y hy e).elim (fun k => I.ok.has _ (.inl k)) fun k => I.ok.has _ (.inr k)
  refine wpAny_comprehension_free (use := none) rfl hs (closure_ok clo) ok.kind (fun y hy e => by rw [ok.uniq y hy, e])
    (thn (hi.run pins s σ H _ I h) fun xv s1 hx => thn hx fun itv s2 h2 => ?_)
  obtain ⟨it, fp, tn, J, H2, e, I2, T, st2, f2, q⟩ := h2
  subst e
  refine newSet_ok (newEnv_comp ?_)
  generalize hD : s2.heap.objs.size = D
  have hDn : H2 D = none := I2.hok.fresh (Nat.le_of_eq hD)
  obtain ⟨W, ⟨m0, w0⟩, turn⟩ := q D hDn
  have new0 : (s2.heap.push { cls := .type "set", dict := none, data := .set #[] 0 (.fresh 0 0 (!X.w.params.followText "set-order")) }).SetOf (mixKind X.prog X.w) s2.heap.objs.size (fun _ => false) 0 :=
    ⟨_, #[], 0, _, Heap.get?_push_size _ rfl, ⟨rfl, rfl, rfl⟩, rfl, (fun e he => by simp at he), (fun k => by simp), (by decide), (by rfl), rfl⟩
  generalize hs3 : ({ s2 with heap := s2.heap.push { cls := .type "set", dict := none, data := .set #[] 0 (.fresh 0 0 (!X.w.params.followText "set-order")) } } : Shared) = s3
  have I3 : Inv X pins σ (upd H2 D (SetK X.prog X.w D (fun _ => false) 0)) s3 := by
    rw [← hs3]
    refine I2.laid (t' := s2.toks) (fun b o e => Heap.get?_push_of_some _ e) (Nat.le_of_eq hD) ?_
    rw [← hD]
    exact setK_new new0
  have h3 : s3.heap = s2.heap.push { cls := .type "set", dict := none, data := .set #[] 0 (.fresh 0 0 (!X.w.params.followText "set-order")) } := by rw [← hs3]
  have below : ∀ b ∈ fp, b < s2.heap.objs.size := fun b hb => by
    obtain ⟨o, e, _⟩ := T.obj _ _ st2 b hb
    exact Heap.lt_size e
  have f3 : ∀ b ∈ fp, FpOk X pins (upd H2 D (SetK X.prog X.w D (fun _ => false) 0)) b ∧ b < s3.heap.objs.size := fun b hb => by
    have lt := below b hb
    refine ⟨⟨?_, (f2 b hb).2⟩, by rw [h3, Heap.size_push]; exact Nat.lt_succ_of_lt lt⟩
    rw [upd_ne (by rw [← hD]; exact Nat.ne_of_lt lt)]
    exact (f2 b hb).1
  have st3 : tn 0 s3.heap := T.keep _ _ _ st2 fun b _ o e => by rw [h3]; exact Heap.get?_push_of_some _ e
  have I4 := block_start I3 ok hN f3
  have pg := hg s3 (upd H2 D (SetK X.prog X.w D (fun _ => false) 0)) s3.heap.objs.size (cellsFrom (s3.heap.objs.size + 1) scope.names (cloFrom X.env.cells scope.names [])) fp
  have pt := ht s3 (upd H2 D (SetK X.prog X.w D (fun _ => false) 0)) s3.heap.objs.size (cellsFrom (s3.heap.objs.size + 1) scope.names (cloFrom X.env.cells scope.names [])) fp
  have pe := he s3 (upd H2 D (SetK X.prog X.w D (fun _ => false) 0)) s3.heap.objs.size (cellsFrom (s3.heap.objs.size + 1) scope.names (cloFrom X.env.cells scope.names [])) fp
  show codeAny _ _ (.compStart (.SetComp elt [⟨tg, iter, ifs, 0⟩] scope pos) 0 (.ref it) (.ref D) (compEnvC scope (cellsFrom (s3.heap.objs.size + 1) scope.names (cloFrom X.env.cells scope.names [])) s3.heap.objs.size X.env)) (compPost (model X.prog X.w) X.A X.xe none (EP X pins σ Q) (.ref D) s3.heap.objs.size) { s3 with heap := pushCells (s3.heap.push { cls := .type "dict", data := .dict #[] }) scope.names }
  have nfp : ∀ b ∈ fp, (upd H2 D (SetK X.prog X.w D (fun _ => false) 0)) b = none := fun b hb => (f3 b hb).1.1
  generalize hce : compEnvC scope (cellsFrom (s3.heap.objs.size + 1) scope.names (cloFrom X.env.cells scope.names [])) s3.heap.objs.size X.env = ce at I4 pg pt pe ⊢
  have cL : ce.locals = s3.heap.objs.size := by subst hce; rfl
  generalize hH3 : upd H2 D (SetK X.prog X.w D (fun _ => false) 0) = H3 at I3 I4 pg pt pe w0 nfp f3
  generalize hs4 : ({ s3 with heap := pushCells (s3.heap.push { cls := .type "dict", data := .dict #[] }) scope.names } : Shared) = s4 at I4 ⊢
  have st4 : tn 0 s4.heap := T.keep _ _ _ st3 fun b _ o e => by rw [← hs4]; exact pushCells_keeps _ _ _ _ (Heap.get?_push_of_some _ e)
  have stat : ∀ {σ' : L2.St} {H' : Hp} {s' : Shared}, Inv (X.blk s3 H3 scope ce fp) [] σ' H' s' → (∀ b ∈ fp, H' b = none) → ∀ b ∈ fp, FpOk (X.blk s3 H3 scope ce fp) [] H' b := fun {σ' H' s'} I' hn b hb =>
    ⟨hn b hb, (I'.ok.exf b hb).1, I'.ok.exfs b hb, .inl hb, fun x c e => (I'.ok.exf b hb).2 x c e, fun p hp => absurd (show p ∈ ([] : List (Addr × Obj)) ++ [] from hp) (by simp)⟩
  have loop : codeAny (model X.prog X.w) X.A (.compLoop (.SetComp elt [⟨tg, iter, ifs, 0⟩] scope pos) 0 (.ref it) (.ref D) ce) (compPost (model X.prog X.w) X.A X.xe none (EP X pins σ Q) (.ref D) s3.heap.objs.size) s4 := by
    refine compLoopS_any (fun n s' => ∃ i H', Inv (X.blk s3 H3 scope ce fp) [] (wipe σ (own.map (·.2))) H' s' ∧ tn i s'.heap ∧ (∀ b ∈ fp, H' b = none) ∧ W i n H') ?_ m0 ⟨0, H3, I4, st4, nfp, w0⟩
    rintro n s5 ⟨i, H5, I5, st5, n5, w5⟩
    rcases turn i n H5 w5 with ⟨stop, qq⟩ | ⟨go, Nx, hNx, step⟩
    · refine thnF (T.done (X.blk s3 H3 scope ce fp) rfl rfl rfl hc i [] s5 _ H5 (fun _ _ => False) I5 (stat I5 n5) st5 stop) fun r s6 ⟨hr, I6⟩ => ?_
      subst hr
      have I7 : Inv X pins σ H5 s6 := I3.call' (ch := fp) I6.os I6.base I6.hok I6.bare fun b hb => ⟨(f3 b hb).1.2.2.2.1, (f3 b hb).1.2.1, (f3 b hb).1.2.2.2.2.1, (f3 b hb).1.2.2.2.2.2⟩
      have nC : H5 s3.heap.objs.size = none := by
        have z : H5 ce.locals = none := I6.free
        rw [cL] at z
        exact z
      obtain ⟨m, hn, _⟩ := I6.loc
      have hn : s6.heap.Ns ce.locals m := hn
      rw [cL] at hn
      refine ⟨m, hn, fun h'' sb => ?_⟩
      obtain ⟨f0, f1, f2', f3', f4, f5⟩ := I3.fpOk (Nat.le_refl _) nC
      exact ⟨.ref D, H5, I7.turned (t' := s6.toks) (fun b o hb e => (sb.2 b hb).trans e) f0 f1 f3' f4 f5, rfl, qq⟩
    · refine thnF (T.item (X.blk s3 H3 scope ce fp) rfl rfl rfl hc i [] s5 _ H5 (fun _ _ => False) I5 (stat I5 n5) st5 go) fun r s6 ⟨u, hr, h6⟩ => ?_
      subst hr
      refine thnF h6 fun _ s7 ⟨x, H7, I7, r7, y7, st7, n7⟩ => ?_
      have I7' := I7.pinned (stat I7 n7) (T.obj _ _ st7)
      refine thnF (pg.run _ s7 _ H7 x u _ I7' r7 (step x H7 y7)) fun _ s8 ⟨σ8, H8, I8, hw8, q8⟩ => ?_
      refine thnF (pt.run _ s8 σ8 H8 _ I8 q8) fun b s9 ⟨H9, I9, q9⟩ => ?_
      have fin : ∀ {s' : Shared} {H' : Hp}, Inv (X.blk s3 H3 scope ce fp) ([] ++ pinsAt fp s7.heap) σ8 H' s' → Nx H' → ∃ m, m < n ∧ ∃ i H', Inv (X.blk s3 H3 scope ce fp) [] (wipe σ (own.map (·.2))) H' s' ∧ tn i s'.heap ∧ (∀ b ∈ fp, H' b = none) ∧ W i m H' := fun {s' H'} I' nx => by
        obtain ⟨m', hm, w'⟩ := hNx H' nx
        have pin' : ∀ b ∈ fp, ∀ o, s7.heap.get? b = some o → s'.heap.get? b = some o ∧ H' b = none := fun b hb o e =>
          let z := I'.pin (b, o) (List.mem_append_right _ (List.mem_append_right _ (mem_pinsAt hb e)))
          ⟨z.1, z.2.1⟩
        have hl : (wipe σ (own.map (·.2))).length = σ8.length := by rw [← hw8, wipe_length]
        refine ⟨m', hm, i + 1, H', (I'.unpinned (pins := [])).weak hl (fun j v e => ?_), T.keep _ _ _ st7 fun b hb o e => (pin' b hb o e).1, fun b hb => ?_, w'⟩
        · rw [← hw8] at e
          exact (wipe_some e).1
        · obtain ⟨o, e, _⟩ := T.obj _ _ st7 b hb
          exact (pin' b hb o e).2
      cases b with
      | false =>
        simp only [Bool.false_eq_true, if_false] at q9 ⊢
        exact fin I9 q9
      | true =>
        simp only [if_true] at q9 ⊢
        refine thnF (pe.run _ s9 σ8 H9 _ I9 q9) fun z s10 ⟨yv, H10, I10, r10, k, S0, n0, ey, hD10, hz10, nx⟩ => ?_
        subst ey
        exact addK_ok (X := X.blk s3 H3 scope ce fp) I10 hD10 hz10 r10 fun s11 I11 => fin I11 nx
  exact codeAny_compStart_set loop (T.self X.A 0 _ _ _ st4 loop)
/-- len of such a set -/
def rLenK (P : Program) (w : World) : List V → Hp → VK → Prop := fun xs H Q => ∃ a S n, xs = [.ref a] ∧ H a = some (SetK P w a S n) ∧ n < 100000 ∧ Q (.int (n : Nat)) H
theorem call_lenK : CallR X (.builtin "len") (rLenK X.prog X.w) := by
  intro pins s σ H xs us Q I r h
  obtain ⟨a, S, n, rfl, ha, hz, q⟩ := h
  rw [Vals.ref1 r]
  obtain ⟨o, es, ep, t, ho, hex, hd, _, _, _, hf, hn⟩ := setK_get I ha
  exact call_len_set ho hex hd hf (by rw [hn] <;> omega) ⟨.int n, H, I.tok _, ⟨_, by rw [hn]⟩, q⟩
end
/-! over the two parts: the set of a list of texts, no one twice, and its length -/
section
variable {σ : L2.St} {B : Hp} {M : Mu} {R : V → Hp → Mu → Prop} {K : PySem.W.Frag} {P : Program} {w : World}
theorem w_sc {te : TE} {j : Nat} (ws : List PySem.Str) (h : wE te σ B M fun v B1 M1 => ∃ a, v = .ref a ∧ SqL K B1 a (ws.map V.str) ∧ ws.Nodup ∧ ws.length < 1000 ∧ ∀ D S, B1 D = none → M1 D = none → R (.ref D) (upd B1 D (SetK P w D S ws.length)) M1) (hj : j < σ.length) :
    wE (tScK P w (iList K te) (gName j) tYes (tVar j) [j]) σ B M R := fun H Q ok q => by
  refine h H _ ok fun v B1 M1 H1 ok1 ⟨a, e, hx, nd, hz, r⟩ => ⟨a, e, ⟨_, ok1.sqL hx⟩, fun D hD => ?_⟩
  have scan : (1000 : Nat) < scanBound := by decide
  refine ⟨fun i m H' => m = ws.length - i ∧ i ≤ ws.length ∧ ∃ B2, H' = upd B2 D (SetK P w D (fun k => (ws.take i).any fun y => decide (k = (Sum.inr y : Key))) i) ∧ Ok B1 M1 B2 ∧ B2 D = none, ⟨_, rfl, Nat.zero_le _, H1, rfl, ok1, hD⟩, ?_⟩
  rintro i m H' ⟨rfl, hi, B2, rfl, ok2, hD2⟩
  have hl : SqL K (upd B2 D (SetK P w D (fun k => (ws.take i).any fun y => decide (k = (Sum.inr y : Key))) i)) a (ws.map V.str) := (ok2.lay hD2).sqL hx
  by_cases hlt : i < ws.length
  · refine .inr ⟨walk_list.goes i _ (by simpa using hlt) hl, fun H3 => ∃ B2, H3 = upd B2 D (SetK P w D (fun k => (ws.take (i + 1)).any fun y => decide (k = (Sum.inr y : Key))) (i + 1)) ∧ Ok B1 M1 B2 ∧ B2 D = none, fun H3 p => ⟨ws.length - (i + 1), by omega, rfl, hlt, p⟩, fun x H3 y => ?_⟩
    obtain ⟨rfl, hx3⟩ := walk_list.yields i _ x H3 (by simpa using hlt) hl y
    have ex : x = .str ws[i] := by
      rw [List.getElem?_map, List.getElem?_eq_getElem hlt] at hx3
      exact (Option.some.inj hx3).symm
    subst ex
    have wj : (wipe σ [j]).length = σ.length := wipe_length _ _
    refine ⟨?_, ?_⟩
    · show ((wipe σ [j]).set j _).set j none = wipe σ [j]
      show ((σ.set j none).set j _).set j none = σ.set j none
      rw [List.set_set, List.set_set]
    · simp only [tYes, if_true]
      refine ⟨.str ws[i], ?_, .inr ws[i], _, _, rfl, upd_same, by omega, B2, ?_, ok2, hD2⟩
      · rw [List.getElem?_set_self (by rw [wj]; exact hj)]
      · rw [upd_upd]
        have no : ((ws.take i).any fun y => decide ((Sum.inr ws[i] : Key) = (Sum.inr y : Key))) = false := by
          rw [List.any_eq_false]
          intro y hy ey
          cases of_decide_eq_true ey
          obtain ⟨k, hk, ek⟩ := List.mem_take_iff_getElem.mp hy
          have hk2 : k < i := by omega
          have := (List.getElem_inj nd).mp ek
          omega
        rw [no]
        have e2 : ws.take (i + 1) = ws.take i ++ [ws[i]] := List.take_succ_eq_append_getElem hlt
        rw [e2]
        congr 2
        funext k
        rw [List.any_append]
        simp
  · have e : i = ws.length := by omega
    subst e
    refine .inl ⟨by
      have := walk_list.stops _ hl
      rw [List.length_map] at this
      exact this, q _ _ _ _ (ok2.new hD2) (r D _ (ok1.freeB hD) (ok1.freeM hD))⟩
theorem wc_lenK {a : Addr} {S : Key → Bool} {n : Nat} (h : B a = some (SetK P w a S n)) (hz : n < 100000) (k : R (.int (n : Nat)) B M) : wC (rLenK P w) [.ref a] B M R := wc_val _ (fun H Q ok q => ⟨a, S, n, rfl, ok.at h, hz, q⟩) k
end
end Ab
/-! ## A3 -/
set_option Elab.async false
set_option linter.all false
set_option maxRecDepth 100000
set_option maxHeartbeats 2000000
/-! A3: dict comprehensions, makers with keywords -/
namespace Ab
open PySem L2 PyProof.Rows
open Evl (Ex)
section
variable {σ : L2.St} {B : Hp} {M : Mu} {K : PySem.W.Frag} {R : V → Hp → Mu → Prop}
/-- what a dict comprehension asks; the dict made may be locked later -/
def Dc (g : TG) (tt : TT) (tk tv : TE) (vs : List Nat) (R : V → Hp → Mu → Prop) (σ : L2.St) (J : It) (B1 : Hp) (M1 : Mu) : Prop :=
  ∃ n G Y, WB J n B1 G Y ∧ n ≤ 100000 ∧ ∃ Iv : Nat → List (Key × V) → Hp → Prop, Iv 0 [] B1 ∧ ∀ D, B1 D = none → M1 D = none → (∀ P, G (updM M1 D P)) ∧
    (∀ i x acc B' B2, i < n → acc.length ≤ i → Ex B1 B' → Iv i acc B' → Ex B' B2 → Y i x B2 → wG g x (wipe σ vs) B2 (updM M1 D (is (.dK acc))) fun σ2 B3 M3 => wipe σ2 vs = wipe σ vs ∧ wT tt σ2 B3 M3 fun b B4 M4 =>
      (b = true → wE tk σ2 B4 M4 fun y B5 M5 => wE tv σ2 B5 M5 fun z B6 M6 => ∃ k, y = kV k ∧ M6 = updM M1 D (is (.dK acc)) ∧ Ex B2 B6 ∧ Iv (i + 1) (putK acc k z) B6) ∧ (b = false → M4 = updM M1 D (is (.dK acc)) ∧ Ex B2 B4 ∧ Iv (i + 1) acc B4)) ∧
    (∀ acc B', Ex B1 B' → B' D = none → acc.length ≤ n → Iv n acc B' → R (.ref D) B' (updM M1 D (is (.dK acc))))
theorem w_dc {wi : TI} {g : TG} {tt : TT} {tk tv : TE} {vs : List Nat} (h : wI wi σ B M fun J B1 M1 => Dc g tt tk tv vs R σ J B1 M1) : wE (tDc wi g tt tk tv vs) σ B M R := fun H Q ok q => h H _ ok fun J B1 M1 H1 ok1 ⟨n, G, Y, wb, hz, Iv, h0, hD⟩ => by
  intro D hD1
  obtain ⟨hG, hs, hd⟩ := hD D (ok1.freeB hD1) (ok1.freeM hD1)
  refine ⟨fun i m H' => m = n - i ∧ i ≤ n ∧ ∃ acc B', Ok B' (updM M1 D (is (.dK acc))) H' ∧ acc.length ≤ i ∧ Ex B1 B' ∧ Iv i acc B', ⟨_, rfl, Nat.zero_le _, [], B1, ok1.newM hD1 isr, Nat.le_refl _, Ex.refl _, h0⟩, ?_⟩
  rintro i m H' ⟨rfl, hi, acc, B', ok', hl, e1, iv⟩
  by_cases hlt : i < n
  · refine .inr ⟨wb.goes i B' _ H' hlt e1 (hG _) ok', fun H2 => ∃ acc B', Ok B' (updM M1 D (is (.dK acc))) H2 ∧ acc.length ≤ i + 1 ∧ Ex B1 B' ∧ Iv (i + 1) acc B', fun H2 p => ⟨n - (i + 1), by omega, rfl, hlt, p⟩, fun x H2 y => ?_⟩
    obtain ⟨B2, e2, ok2, hy⟩ := wb.yields i B' _ H' x H2 hlt e1 (hG _) ok' y
    refine hs i x acc B' B2 hlt hl e1 iv e2 hy H2 _ ok2 fun σ3 B3 M3 H3 ok3 z => ⟨z.1, ?_⟩
    refine z.2 H3 _ ok3 fun b B4 M4 H4 ok4 zb => ?_
    cases b with
    | true =>
      rw [if_pos rfl]
      refine zb.1 rfl H4 _ ok4 fun y B5 M5 H5 ok5 z5 => z5 H5 _ ok5 fun v B6 M6 H6 ok6 ⟨k, ek, eM, e6, iv6⟩ => ?_
      subst eM
      refine ⟨acc, k, ek, ok6.mutAt updM_same, Evl.sz_lt (by omega), putK acc k v, B6, ?_, by have := length_putK acc k v; omega, (e1.trans e2).trans e6, iv6⟩
      have kk := ok6.put (o := .dK (putK acc k v)) (Q := is (.dK (putK acc k v))) updM_same isr
      rw [updM_updM] at kk
      exact kk
    | false =>
      rw [if_neg Bool.false_ne_true]
      obtain ⟨eM, e4, iv4⟩ := zb.2 rfl
      subst eM
      exact ⟨acc, B4, ok4, by omega, (e1.trans e2).trans e4, iv4⟩
  · have e : i = n := by omega
    subst e
    obtain ⟨nb, _⟩ := ok'.mtb D _ updM_same
    exact .inl ⟨wb.stops B' _ H' e1 (hG _) ok', q _ _ _ _ ok' (hd acc B' e1 nb (by omega) iv)⟩
theorem w_dnewM (k : ∀ p, B p = none → M p = none → R (.ref p) B (updM M p (is (.dK [])))) : wE tDNewK σ B M R := fun H Q ok q => fun p hp => q _ _ _ _ (ok.newM hp isr) (k p (ok.freeB hp) (ok.freeM hp))
theorem w_makeK {C : Addr} {n m : Nat} {S : Spc} {gV : List V → List V → List V} {E : XK} {ta tk : TA} (h : wA ta σ B M fun vs B1 M1 => wA tk σ B1 M1 fun zs B2 M2 => vs.length = n ∧ zs.length = m ∧ ∀ x dx, B2 x = none → M2 x = none →
    S (gV (.ref x :: vs) zs) B2 (updM M2 x (is (.ins C dx []))) fun v B3 M3 => v = .non ∧ R (.ref x) B3 M3) : wE (tMakeK C n m (Pm S) gV E ta tk) σ B M R := fun H Q ok q =>
  h H _ ok fun vs B1 M1 H1 ok1 h1 => h1 H1 _ ok1 fun zs B2 M2 H2 ok2 ⟨l1, l2, h2⟩ => ⟨l1, l2, fun x dx nx nd ne => ⟨B2, updM M2 x (is (.ins C dx [])), _, (ok2.lay nd).newM (by rw [upd_ne fun z => ne z.symm]; exact nx) isr, h2 x dx (ok2.freeB nx) (ok2.freeM nx), fun v B' M' H' ok' ⟨e, r⟩ => ⟨e, q _ B' M' H' ok' r⟩⟩⟩
theorem w_callN {n m : Nat} {S : Spc} {gV : List V → List V → List V} {E : XK} {ta tk : TA} (h : wA ta σ B M fun vs B1 M1 => wA tk σ B1 M1 fun zs B2 M2 => vs.length = n ∧ zs.length = m ∧ S (gV vs zs) B2 M2 R) : wE (tCallN n m (Pm S) gV E ta tk) σ B M R := fun H Q ok q =>
  h H _ ok fun vs B1 M1 H1 ok1 h1 => h1 H1 _ ok1 fun zs B2 M2 H2 ok2 ⟨l1, l2, h2⟩ => ⟨l1, l2, B2, M2, R, ok2, h2, q⟩
end
end Ab
/-! ## D1 -/
set_option Elab.async false
set_option linter.all false
set_option maxRecDepth 100000
set_option maxHeartbeats 4000000
namespace Ab
open PySem L2 PyProof.Rows
open Evl (Ex)
local macro_rules | `(tactic| trivial) => `(tactic| first
  | ((with_reducible apply w_var); exact rfl)
  | with_reducible refine w_c ?_ | with_reducible refine w_cons ?_ | with_reducible refine w_nil ?_ | with_reducible refine w_op ?_ | with_reducible refine w_cb ?_ | with_reducible refine w_call ?_ | with_reducible refine w_test ?_ | with_reducible refine w_B ?_
  | with_reducible refine bX ?_ | with_reducible refine bT ?_ | with_reducible refine bF ?_ | with_reducible refine zN ?_ | with_reducible refine zI ?_ | with_reducible refine zS ?_ | with_reducible refine zR ?_ | with_reducible refine zN' ?_ | with_reducible refine zI' ?_ | with_reducible refine zS' ?_ | with_reducible refine zR' ?_ | with_reducible refine bnT ?_ | with_reducible refine bnF ?_ | with_reducible refine w_and ?_ | with_reducible refine w_or ?_ | with_reducible refine w_not ?_ | with_reducible refine w_andV ?_ | with_reducible refine w_orV ?_
  | with_reducible refine w_notV ?_ | with_reducible refine w_if ?_ | with_reducible refine w_chain ?_ | with_reducible refine w_un ?_ | with_reducible refine wr_I0 ?_ | with_reducible refine wu_I ?_ | with_reducible refine wr_isN ?_ | with_reducible refine wr_notN ?_
  | with_reducible refine wr_eq rfl ?_ | with_reducible refine wr_ne rfl ?_ | with_reducible refine w_yes ?_ | with_reducible refine w_tup ?_ | with_reducible refine w_lst ?_ | with_reducible refine s_ret ?_ | with_reducible refine s_retN ?_
  | with_reducible refine s_seq ?_ | with_reducible refine s_if ?_ | with_reducible refine s_set ?_ | with_reducible refine s_drop ?_ | with_reducible refine s_next ?_ | with_reducible refine s_par ?_ | with_reducible refine s_par3 ?_ | with_reducible refine s_asg ?_
  | with_reducible refine g_name ?_ | with_reducible refine gs_nil ?_ | with_reducible refine gs_cons ?_ | with_reducible refine wi_int_int ?_ | with_reducible refine wi_int_bool ?_ | with_reducible refine wi_str_str ?_ | with_reducible refine w_fld ?_ | with_reducible refine w_meth ?_ | with_reducible refine w_prop ?_ | with_reducible refine w_dget ?_ | with_reducible refine w_din ?_ | with_reducible refine w_dnin ?_ | with_reducible refine s_fld ?_ | with_reducible refine w_sl ?_ | with_reducible refine s_app ?_ | with_reducible refine w_part ?_
  | with_reducible refine w_noPart ?_ | with_reducible refine iX ?_)

section
variable {P : Program} {w : World} {K : PySem.W.Frag} {mg : Str → Option Value} {base : Heap}
def S_is_between : Spc := fun vs B M R => ∃ v a b : Int, vs = [.int v, .int a, .int b] ∧ R (.bl (decide (a ≤ v ∧ v ≤ b))) B M
theorem sc_is_between : FnScope ["value", "least", "most"] ["value", "least", "most"] (defScope (top 7)) := ⟨rfl, rfl, rfl, by decide +kernel, rfl, by decide +kernel, by decide +kernel⟩
theorem ok_is_between (T : Tx K mg) : C8.Cal P w K mg base 1 "is_between" (Pm (S_is_between)) [] := by
  have nd := sc_is_between.nd
  refine calOf (k := 0) (S := (S_is_between)) T.d_is_between T.g_is_between sc_is_between (fun _ _ _ _ _ _ us hl => match us, hl with | [_, _, _], _ => rfl) (fun vs B M R ⟨_, _, _, e, _⟩ => by rw [e] <;> rfl) fun cdv A outer s H E hr => ?_
  have hu := hu_of hr
  refine ⟨_, (pss_one (ps_ret (pe_and (pe_callB call_isi (by rfl) T.f_isinstance (by decide +kernel) (pa_cons (pv 0) (pa_cons (pe_ty "int" (by rfl) T.f_int (by decide +kernel)) pa_nil))) (pe_and (pe_not (pe_callB call_isi (by rfl) T.f_isinstance (by decide +kernel) (pa_cons (pv 0) (pa_cons (pe_ty "bool" (by rfl) T.f_bool (by decide +kernel)) pa_nil)))) (pe_one (pe_chain op_le op_le (pv 1) (pv 0) (pv 2))))))), ?_⟩
  rintro vs B M R ⟨v, a, b, rfl, k⟩
  repeat trivial
  refine bD (fun h => ?_) fun h => ?_
  all_goals repeat trivial
  · have e : decide (a ≤ v ∧ v ≤ b) = decide (v ≤ b) := by simp [h]
    rw [← e]
    exact k
  · have e : decide (a ≤ v ∧ v ≤ b) = false := by simp [h]
    rw [← e]
    exact k
def S_is_moment : Spc := fun vs B M R => ∃ v : Int, vs = [.int v] ∧ R (.bl (decide (0 ≤ v ∧ v ≤ 10 ^ 40))) B M
theorem sc_is_moment : FnScope ["value"] ["value"] (defScope (top 8)) := ⟨rfl, rfl, rfl, by decide +kernel, rfl, by decide +kernel, by decide +kernel⟩
theorem ok_is_moment (T : Tx K mg) : C8.Cal P w K mg base 2 "is_moment" (Pm (S_is_moment)) [] := by
  have nd := sc_is_moment.nd
  refine calOf (k := 1) (S := (S_is_moment)) T.d_is_moment T.g_is_moment sc_is_moment (fun _ _ _ _ _ _ us hl => match us, hl with | [_], _ => rfl) (fun vs B M R ⟨_, e, _⟩ => by rw [e] <;> rfl) fun cdv A outer s H E hr => ?_
  have hu := hu_of hr
  refine ⟨_, (pss_one (ps_ret (C8.pe_c (ok_is_between T) hr (by decide) (by rfl) (pa_cons (pv 0) (pa_cons pe_int (pa_cons (C8.pe_gc (by rfl) T.i_MOST_MOMENT) pa_nil)))))), ?_⟩
  rintro vs B M R ⟨v, rfl, k⟩
  repeat trivial
  exact ⟨_, _, _, rfl, k⟩
def S_is_limit : Spc := fun vs B M R => ∃ v : Int, vs = [.int v] ∧ -(10 ^ 60 - 1) ≤ v ∧ v ≤ 10 ^ 60 - 1 ∧ R (.bl true) B M
theorem sc_is_limit : FnScope ["value"] ["value"] (defScope (top 41)) := ⟨rfl, rfl, rfl, by decide +kernel, rfl, by decide +kernel, by decide +kernel⟩
theorem ok_is_limit (T : Tx K mg) : C8.Cal P w K mg base 2 "is_limit" (Pm (S_is_limit)) [] := by
  have nd := sc_is_limit.nd
  refine calOf (k := 1) (S := (S_is_limit)) T.d_is_limit T.g_is_limit sc_is_limit (fun _ _ _ _ _ _ us hl => match us, hl with | [_], _ => rfl) (fun vs B M R ⟨_, e, _⟩ => by rw [e] <;> rfl) fun cdv A outer s H E hr => ?_
  have hu := hu_of hr
  refine ⟨_, (pss_one (ps_ret (C8.pe_c (ok_is_between T) hr (by decide) (by rfl) (pa_cons (pv 0) (pa_cons (pe_un un_neg (C8.pe_gc (by rfl) T.i_MOST_INTEGER)) (pa_cons (C8.pe_gc (by rfl) T.i_MOST_INTEGER) pa_nil)))))), ?_⟩
  rintro vs B M R ⟨v, rfl, h1, h2, k⟩
  repeat trivial
  refine ⟨_, _, _, rfl, ?_⟩
  rw [decide_eq_true ⟨h1, h2⟩]
  exact k
def S_is_gap : Spc := fun vs B M R => ∃ v : Int, vs = [.int v] ∧ 1 ≤ v ∧ v ≤ 10 ^ 30 ∧ R (.bl true) B M
theorem sc_is_gap : FnScope ["value"] ["value"] (defScope (top 64)) := ⟨rfl, rfl, rfl, by decide +kernel, rfl, by decide +kernel, by decide +kernel⟩
theorem ok_is_gap (T : Tx K mg) : C8.Cal P w K mg base 2 "is_gap" (Pm (S_is_gap)) [] := by
  have nd := sc_is_gap.nd
  refine calOf (k := 1) (S := (S_is_gap)) T.d_is_gap T.g_is_gap sc_is_gap (fun _ _ _ _ _ _ us hl => match us, hl with | [_], _ => rfl) (fun vs B M R ⟨_, e, _⟩ => by rw [e] <;> rfl) fun cdv A outer s H E hr => ?_
  have hu := hu_of hr
  refine ⟨_, (pss_one (ps_ret (C8.pe_c (ok_is_between T) hr (by decide) (by rfl) (pa_cons (pv 0) (pa_cons pe_int (pa_cons (C8.pe_gc (by rfl) T.i_MOST_GAP) pa_nil)))))), ?_⟩
  rintro vs B M R ⟨v, rfl, h1, h2, k⟩
  repeat trivial
  refine ⟨_, _, _, rfl, ?_⟩
  rw [decide_eq_true ⟨h1, h2⟩]
  exact k
def oI : Option Int → V
  | none => .non
  | some i => .int i
def S_is_age : Spc := fun vs B M R => ∃ o : Option Int, vs = [oI o] ∧ (∀ v, o = some v → 0 ≤ v ∧ v ≤ 10 ^ 30) ∧ R (.bl true) B M
theorem sc_is_age : FnScope ["value"] ["value"] (defScope (top 65)) := ⟨rfl, rfl, rfl, by decide +kernel, rfl, by decide +kernel, by decide +kernel⟩
theorem ok_is_age (T : Tx K mg) : C8.Cal P w K mg base 2 "is_age" (Pm (S_is_age)) [] := by
  have nd := sc_is_age.nd
  refine calOf (k := 1) (S := (S_is_age)) T.d_is_age T.g_is_age sc_is_age (fun _ _ _ _ _ _ us hl => match us, hl with | [_], _ => rfl) (fun vs B M R ⟨_, e, _⟩ => by rw [e] <;> rfl) fun cdv A outer s H E hr => ?_
  have hu := hu_of hr
  refine ⟨_, (pss_one (ps_ret (pe_or (pe_cmpR op_isN (pv 0) pe_non (nomark _)) (pe_one (C8.pe_c (ok_is_between T) hr (by decide) (by rfl) (pa_cons (pv 0) (pa_cons pe_int (pa_cons (C8.pe_gc (by rfl) T.i_MOST_GAP) pa_nil)))))))), ?_⟩
  rintro vs B M R ⟨o, rfl, h, k⟩
  cases o with
  | none =>
    show wS _ (L2.start _ [V.non]) B M _ R
    repeat trivial
  | some v =>
    show wS _ (L2.start _ [V.int v]) B M _ R
    repeat trivial
    refine ⟨_, _, _, rfl, ?_⟩
    rw [decide_eq_true (h v rfl)]
    exact k
end
end Ab
/-! ## D2 -/
set_option Elab.async false
set_option linter.all false
set_option maxRecDepth 100000
set_option maxHeartbeats 4000000
namespace Ab
open PySem L2 PyProof.Rows
open Evl (Ex)
local macro_rules | `(tactic| trivial) => `(tactic| first
  | ((with_reducible apply w_var); exact rfl)
  | with_reducible refine w_c ?_ | with_reducible refine w_cons ?_ | with_reducible refine w_nil ?_ | with_reducible refine w_op ?_ | with_reducible refine w_cb ?_ | with_reducible refine w_call ?_ | with_reducible refine w_test ?_ | with_reducible refine w_B ?_
  | with_reducible refine bX ?_ | with_reducible refine bT ?_ | with_reducible refine bF ?_ | with_reducible refine zN ?_ | with_reducible refine zI ?_ | with_reducible refine zS ?_ | with_reducible refine zR ?_ | with_reducible refine zN' ?_ | with_reducible refine zI' ?_ | with_reducible refine zS' ?_ | with_reducible refine zR' ?_ | with_reducible refine bnT ?_ | with_reducible refine bnF ?_ | with_reducible refine w_and ?_ | with_reducible refine w_or ?_ | with_reducible refine w_not ?_ | with_reducible refine w_andV ?_ | with_reducible refine w_orV ?_
  | with_reducible refine w_notV ?_ | with_reducible refine w_if ?_ | with_reducible refine w_chain ?_ | with_reducible refine w_un ?_ | with_reducible refine wr_I0 ?_ | with_reducible refine wu_I ?_ | with_reducible refine wr_isN ?_ | with_reducible refine wr_notN ?_
  | with_reducible refine wr_eq rfl ?_ | with_reducible refine wr_ne rfl ?_ | with_reducible refine w_yes ?_ | with_reducible refine w_tup ?_ | with_reducible refine w_lst ?_ | with_reducible refine s_ret ?_ | with_reducible refine s_retN ?_
  | with_reducible refine s_seq ?_ | with_reducible refine s_if ?_ | with_reducible refine s_set ?_ | with_reducible refine s_drop ?_ | with_reducible refine s_next ?_ | with_reducible refine s_par ?_ | with_reducible refine s_par3 ?_ | with_reducible refine s_asg ?_
  | with_reducible refine g_name ?_ | with_reducible refine gs_nil ?_ | with_reducible refine gs_cons ?_ | with_reducible refine wi_int_int ?_ | with_reducible refine wi_int_bool ?_ | with_reducible refine wi_str_str ?_ | with_reducible refine w_fld ?_ | with_reducible refine w_meth ?_ | with_reducible refine w_prop ?_ | with_reducible refine w_dget ?_ | with_reducible refine w_din ?_ | with_reducible refine w_dnin ?_ | with_reducible refine s_fld ?_ | with_reducible refine w_sl ?_ | with_reducible refine s_app ?_ | with_reducible refine w_part ?_
  | with_reducible refine w_noPart ?_ | with_reducible refine iX ?_)

section
variable {P : Program} {w : World} {K : PySem.W.Frag} {mg : Str → Option Value} {base : Heap}
theorem rep_succ {α : Type} {i : Nat} {x : α} : List.replicate i x ++ [x] = List.replicate (i + 1) x := (List.replicate_succ').symm
def letters : List Nat := ("abcdefghijklmnopqrstuvwxyz" : Str).cps.toList
/-- a word -/
def Wd (z : Str) : Prop := 1 ≤ z.length ∧ z.length ≤ 8 ∧ ∀ c ∈ z.cps.toList, c ∈ letters
def S_is_word : Spc := fun vs B M R => ∃ z : Str, vs = [.str z] ∧ Wd z ∧ ∀ B1, Ex B B1 → R (.bl true) B1 M
theorem sc_is_word : FnScope ["value", "letter"] ["value"] (defScope (top 9)) := ⟨rfl, rfl, rfl, by decide +kernel, rfl, by decide +kernel, by decide +kernel⟩
theorem ok_is_word (T : Tx K mg) : C8.Cal P w K mg base 1 "is_word" (Pm (S_is_word)) [] := by
  have nd := sc_is_word.nd
  refine calOf (k := 0) (S := (S_is_word)) T.d_is_word T.g_is_word sc_is_word (fun _ _ _ _ _ _ us hl => match us, hl with | [_], _ => rfl) (fun vs B M R ⟨_, e, _⟩ => by rw [e] <;> rfl) fun cdv A outer s H E hr => ?_
  have hu := hu_of hr
  refine ⟨_, (pss_cons (ps_if ((pw_or (pt_not (pt_val (pe_callB call_isi (by rfl) T.f_isinstance (by decide +kernel) (pa_cons (pv 0) (pa_cons (pe_ty "str" (by rfl) T.f_str (by decide +kernel)) pa_nil))))) (pw_or1 (pt_not (pt_chain op_le op_le pe_int (pe_callB call_len_str (by rfl) T.f_len (by decide +kernel) (pa_cons (pv 0) pa_nil)) (C8.pe_gc (by rfl) T.i_MOST_LETTERS)))))).pt
      (pss_one (ps_ret pe_bl))
      pss_nil)
    (pss_one (ps_ret (pe_callB (cr_all rfl) (by rfl) T.f_all (by decide +kernel) (pa_cons (pe_lc (own := [("letter", 1)]) (g := gName 1) rfl nd (pi_str (pv 0)) (blkOk_by (own := [("letter", 1)]) (N := ["value", "letter"]) (sc := defScope (top 9)) (by decide +kernel)) (fun _ _ _ _ _ => (pg_name (i := 1) nd rfl (Or.inl rfl))) (fun _ _ _ _ _ => pts_nil) (fun _ _ _ _ _ => (pe_cmpR op_in_sign (pv 1) (C8.pe_gc (by rfl) T.i_LETTERS) (by with_unfolding_all rfl)))) pa_nil))))), ?_⟩
  rintro vs B M R ⟨z, rfl, ⟨h1, h2, h3⟩, k⟩
  repeat trivial
  refine wc_lenS (by omega) ?_
  repeat trivial
  refine bD (fun h => ?_) fun h => absurd (by omega) h
  repeat trivial
  refine bN (fun _ => ?_) fun h => absurd (by omega) h
  repeat trivial
  refine w_lc (i_str ?_)
  repeat trivial
  refine ⟨z, rfl, z.cps.size, _, _, wb_str, by have : z.length = z.cps.size := rfl; omega, fun i acc _ => acc = List.replicate i (V.bl true), rfl, fun D hD hM => ⟨fun _ => True.intro, ?_, ?_⟩⟩
  · rintro i x acc B' B2 hi hl e1 rfl e2 ⟨c, hc, rfl⟩
    repeat trivial
    refine wr_inC ⟨rfl, Ex.refl _, ?_⟩
    have hm : c ∈ z.cps.toList := by
      rw [← Array.getElem?_toList] at hc
      exact List.mem_of_getElem? hc
    show _ ++ [V.bl (decide (c ∈ letters))] = List.replicate (i + 1) (V.bl true)
    rw [decide_eq_true (h3 c hm), List.replicate_succ']
  · rintro acc B' e1 nD hl rfl
    repeat trivial
    refine wc_all (bs := List.replicate z.cps.size true) (.of (by rw [List.map_replicate]; exact upd_same)) ?_
    have e : (List.replicate z.cps.size true).all id = true := by simp
    rw [e]
    exact k _ (e1.trans (exNew nD))
def S_are_keys : Spc := fun vs B M R => ∃ (a : Addr) (ws : List Str) (m : Nat), vs = [.ref a, .int m] ∧ B a = some (.lst (ws.map V.str)) ∧ ws.length ≤ m ∧ m ≤ 100 ∧ (∀ z ∈ ws, Wd z) ∧ ws.Nodup ∧ ∀ B1, Ex B B1 → R (.bl true) B1 M
theorem sc_are_keys : FnScope ["value", "most", "key"] ["value", "most"] (defScope (top 10)) := ⟨rfl, rfl, rfl, by decide +kernel, rfl, by decide +kernel, by decide +kernel⟩
theorem ok_are_keys (T : Tx K mg) : C8.Cal P w K mg base 2 "are_keys" (Pm (S_are_keys)) [] := by
  have nd := sc_are_keys.nd
  refine calOf (k := 1) (S := (S_are_keys)) T.d_are_keys T.g_are_keys sc_are_keys (fun _ _ _ _ _ _ us hl => match us, hl with | [_, _], _ => rfl) (fun vs B M R ⟨_, _, _, e, _⟩ => by rw [e] <;> rfl) fun cdv A outer s H E hr => ?_
  have hu := hu_of hr
  refine ⟨_, (pss_cons (ps_if ((pw_or (pt_not (pt_val (pe_callB call_isiT (by rfl) T.f_isinstance (by decide +kernel) (pa_cons (pv 0) (pa_cons (pe_tup (pa_cons (pe_ty "list" (by rfl) T.f_list (by decide +kernel)) (pa_cons (pe_ty "tuple" (by rfl) T.f_tuple (by decide +kernel)) pa_nil))) pa_nil))))) (pw_or1 (pt_cmpR op_gt (pe_callB call_len_seq (by rfl) T.f_len (by decide +kernel) (pa_cons (pv 0) pa_nil)) (pv 1) (nomark _))))).pt
      (pss_one (ps_ret pe_bl))
      pss_nil)
    (pss_one (ps_ret (pe_and (pe_callB (cr_all rfl) (by rfl) T.f_all (by decide +kernel) (pa_cons (pe_lc (own := [("key", 2)]) (g := gName 2) rfl nd (pi_list (pv 0)) (blkOk_by (own := [("key", 2)]) (N := ["value", "most", "key"]) (sc := defScope (top 10)) (by decide +kernel)) (fun _ _ _ _ _ => (pg_name (i := 2) nd rfl (Or.inl rfl))) (fun _ _ _ _ _ => pts_nil) (fun _ _ _ _ _ => (C8.pe_c (ok_is_word T) hr (by decide) (by rfl) (pa_cons (pv 2) pa_nil)))) pa_nil)) (pe_one (pe_cmpR op_eq (pe_callB call_lenK (by rfl) T.f_len (by decide +kernel) (pa_cons (pe_scK (own := [("key", 2)]) (g := gName 2) rfl nd (pi_list (pv 0)) (blkOk_by (own := [("key", 2)]) (N := ["value", "most", "key"]) (sc := defScope (top 10)) (by decide +kernel)) (fun _ _ _ _ _ => (pg_name (i := 2) nd rfl (Or.inl rfl))) (fun _ _ _ _ _ => pts_nil) (fun _ _ _ _ _ => (pv 2))) pa_nil)) (pe_callB call_len_seq (by rfl) T.f_len (by decide +kernel) (pa_cons (pv 0) pa_nil)) (nomark _))))))), ?_⟩
  rintro vs B M R ⟨a, ws, m, rfl, ha, hm, hm2, hw, nw, k⟩
  repeat trivial
  refine ⟨by decide, fun p hp mp => ?_⟩
  repeat trivial
  have e1 := exNew (o := .tup [V.ty "list", V.ty "tuple"]) hp
  refine wi_lst_lt (.of (e1 _ _ ha)) upd_same ?_
  repeat trivial
  refine wc_lenL (.of (e1 _ _ ha)) ?_
  repeat trivial
  refine bD (fun h => absurd h (by rw [List.length_map]; omega)) fun _ => ?_
  repeat trivial
  refine w_lc (i_list ?_)
  repeat trivial
  refine ⟨a, _, rfl, .of (e1 _ _ ha), _, _, _, wb_list (.of (e1 _ _ ha)), by rw [List.length_map]; omega, fun i acc _ => acc = List.replicate i (V.bl true), rfl, fun D hD hM => ⟨fun _ => True.intro, ?_, ?_⟩⟩
  · rintro i x acc B' B2 hi hl e2 rfl e3 hx
    repeat trivial
    rw [List.getElem?_map] at hx
    obtain ⟨z, hz, rfl⟩ := Option.map_eq_some_iff.mp hx
    exact ⟨z, rfl, hw z (List.mem_of_getElem? hz), fun B1 e4 => ⟨rfl, e4, rep_succ⟩⟩
  · rintro acc B' e2 nD hl rfl
    repeat trivial
    refine wc_all (bs := List.replicate _ true) (.of (by rw [List.map_replicate]; exact upd_same)) ?_
    rw [show (List.replicate (ws.map V.str).length true).all id = true by simp]
    repeat trivial
    have e5 := e1.trans (e2.trans (exNew (o := .lst (List.replicate (ws.map V.str).length (V.bl true))) nD))
    refine w_sc (K := K) ws ?_ ?_
    rotate_left
    · exact (by decide : 2 < 3)
    repeat trivial
    refine ⟨a, rfl, .of (e5 _ _ ha), nw, by omega, fun D2 S hD2 mD2 => ?_⟩
    repeat trivial
    refine wc_lenK upd_same (by omega) ?_
    repeat trivial
    have e5 := e5.trans (exNew (o := SetK P w D2 S ws.length) hD2)
    refine wc_lenL (.of (e5 _ _ ha)) ?_
    repeat trivial
    rw [show decide (V.int ((ws.length : Nat) : Int) = V.int (((ws.map V.str).length : Nat) : Int)) = true from decide_eq_true (by rw [List.length_map])]
    exact k _ e5
def S_is_role : Spc := fun vs B M R => ∃ (t a : Addr) (own : Str), vs = [.ref t] ∧ ∃ ws : List Str, B t = some (.tup [.ref a, .str own]) ∧ B a = some (.lst (ws.map V.str)) ∧ ws.length ≤ 8 ∧ (∀ z ∈ ws, Wd z) ∧ ws.Nodup ∧ Wd own ∧ ∀ B1, Ex B B1 → R (.bl true) B1 M
theorem sc_is_role : FnScope ["value"] ["value"] (defScope (top 26)) := ⟨rfl, rfl, rfl, by decide +kernel, rfl, by decide +kernel, by decide +kernel⟩
theorem ok_is_role (T : Tx K mg) : C8.Cal P w K mg base 3 "is_role" (Pm (S_is_role)) [] := by
  have nd := sc_is_role.nd
  refine calOf (k := 2) (S := (S_is_role)) T.d_is_role T.g_is_role sc_is_role (fun _ _ _ _ _ _ us hl => match us, hl with | [_], _ => rfl) (fun vs B M R ⟨_, _, _, e, _⟩ => by rw [e] <;> rfl) fun cdv A outer s H E hr => ?_
  have hu := hu_of hr
  refine ⟨_, (pss_one (ps_ret (pe_and (pe_callB call_isi (by rfl) T.f_isinstance (by decide +kernel) (pa_cons (pv 0) (pa_cons (pe_ty "tuple" (by rfl) T.f_tuple (by decide +kernel)) pa_nil))) (pe_and (pe_cmpR op_eq (pe_callB call_len_seq (by rfl) T.f_len (by decide +kernel) (pa_cons (pv 0) pa_nil)) pe_int (nomark _)) (pe_and (C8.pe_c (ok_are_keys T) hr (by decide) (by rfl) (pa_cons (pe_ix ix_tup (pv 0) pe_int (fun _ _ => rfl)) (pa_cons (C8.pe_gc (by rfl) T.i_MOST_ACCEPTED) pa_nil))) (pe_one (C8.pe_c (ok_is_word T) hr (by decide) (by rfl) (pa_cons (pe_ix ix_tup (pv 0) pe_int (fun _ _ => rfl)) pa_nil)))))))), ?_⟩
  rintro vs B M R ⟨t, a, own, rfl, ws, ht, ha, hm, hw, nw, ho, k⟩
  repeat trivial
  refine wi_tup_tup (.of ht) ?_
  repeat trivial
  refine wc_lenT (.of ht) ?_
  repeat trivial
  refine bT ?_
  repeat trivial
  refine wr_ixT (.of ht) (v := .ref a) (by rfl) ?_
  repeat trivial
  refine ⟨a, ws, 8, rfl, ha, hm, by decide, hw, nw, fun B1 e1 => ?_⟩
  repeat trivial
  refine wr_ixT (.of (e1 _ _ ht)) (v := .str own) (by rfl) ?_
  repeat trivial
  exact ⟨own, rfl, ho, fun B2 e2 => k B2 (e1.trans e2)⟩
end
end Ab
/-! ## D3 -/
set_option Elab.async false
set_option linter.all false
set_option maxRecDepth 100000
set_option maxHeartbeats 4000000
namespace Ab
open PySem L2 PyProof.Rows
open Evl (Ex)
local macro_rules | `(tactic| trivial) => `(tactic| first
  | ((with_reducible apply w_var); exact rfl)
  | with_reducible refine w_c ?_ | with_reducible refine w_cons ?_ | with_reducible refine w_nil ?_ | with_reducible refine w_op ?_ | with_reducible refine w_cb ?_ | with_reducible refine w_call ?_ | with_reducible refine w_test ?_ | with_reducible refine w_B ?_
  | with_reducible refine bX ?_ | with_reducible refine bT ?_ | with_reducible refine bF ?_ | with_reducible refine zN ?_ | with_reducible refine zI ?_ | with_reducible refine zS ?_ | with_reducible refine zR ?_ | with_reducible refine zN' ?_ | with_reducible refine zI' ?_ | with_reducible refine zS' ?_ | with_reducible refine zR' ?_ | with_reducible refine bnT ?_ | with_reducible refine bnF ?_ | with_reducible refine w_and ?_ | with_reducible refine w_or ?_ | with_reducible refine w_not ?_ | with_reducible refine w_andV ?_ | with_reducible refine w_orV ?_
  | with_reducible refine w_notV ?_ | with_reducible refine w_if ?_ | with_reducible refine w_chain ?_ | with_reducible refine w_un ?_ | with_reducible refine wr_I0 ?_ | with_reducible refine wu_I ?_ | with_reducible refine wr_isN ?_ | with_reducible refine wr_notN ?_
  | with_reducible refine wr_eq rfl ?_ | with_reducible refine wr_ne rfl ?_ | with_reducible refine w_yes ?_ | with_reducible refine w_tup ?_ | with_reducible refine w_lst ?_ | with_reducible refine s_ret ?_ | with_reducible refine s_retN ?_
  | with_reducible refine s_seq ?_ | with_reducible refine s_if ?_ | with_reducible refine s_set ?_ | with_reducible refine s_drop ?_ | with_reducible refine s_next ?_ | with_reducible refine s_par ?_ | with_reducible refine s_par3 ?_ | with_reducible refine s_asg ?_
  | with_reducible refine g_name ?_ | with_reducible refine gs_nil ?_ | with_reducible refine gs_cons ?_ | with_reducible refine wi_int_int ?_ | with_reducible refine wi_int_bool ?_ | with_reducible refine wi_str_str ?_ | with_reducible refine w_fld ?_ | with_reducible refine w_meth ?_ | with_reducible refine w_prop ?_ | with_reducible refine w_dget ?_ | with_reducible refine w_din ?_ | with_reducible refine w_dnin ?_ | with_reducible refine s_fld ?_ | with_reducible refine w_sl ?_ | with_reducible refine s_app ?_ | with_reducible refine w_part ?_
  | with_reducible refine w_noPart ?_ | with_reducible refine iX ?_)

section
variable {P : Program} {w : World} {K : PySem.W.Frag} {mg : Str → Option Value} {base : Heap}
/-- a role with the keys it takes and the one it uses -/
structure Row where
  role : Str
  likes : List Str
  own : Str
structure RowOk (r : Row) : Prop where
  role : Wd r.role
  likes : ∀ z ∈ r.likes, Wd z
  nd : r.likes.Nodup
  few : r.likes.length ≤ 8
  own : Wd r.own
/-- a role's pair in a dict of roles -/
def KvRow (B : Hp) (kv : Key × V) (r : Row) : Prop := kv.1 = .inr r.role ∧ ∃ t a, kv.2 = .ref t ∧ B t = some (.tup [.ref a, .str r.own]) ∧ B a = some (.lst (r.likes.map V.str))
theorem KvRow.ex {B B' : Hp} (e : Ex B B') {kv : Key × V} {r : Row} (h : KvRow B kv r) : KvRow B' kv r := by
  obtain ⟨h1, t, a, h2, h3, h4⟩ := h
  exact ⟨h1, t, a, h2, e _ _ h3, e _ _ h4⟩
theorem f2_get {α β : Type} {p : α → β → Prop} : ∀ {l : List α} {m : List β} {i : Nat} {x : α}, Paired p l m → l[i]? = some x → ∃ y, m[i]? = some y ∧ p x y
  | _, _, _, _, .nil, h => by simp at h
  | _, _, 0, _, .cons r _, h => by
    simp at h
    subst h
    exact ⟨_, rfl, r⟩
  | _, _, i + 1, x, .cons _ t, h => by
    obtain ⟨y, h1, h2⟩ := f2_get (i := i) (x := x) t (by simpa using h)
    exact ⟨y, by simpa using h1, h2⟩
theorem f2_len {α β : Type} {p : α → β → Prop} : ∀ {l : List α} {m : List β}, Paired p l m → l.length = m.length
  | _, _, .nil => rfl
  | _, _, .cons _ t => congrArg Nat.succ (f2_len t)
theorem f2_mono {α β : Type} {p q : α → β → Prop} (f : ∀ x y, p x y → q x y) : ∀ {l : List α} {m : List β}, Paired p l m → Paired q l m
  | _, _, .nil => .nil
  | _, _, .cons r t => .cons (f _ _ r) (f2_mono f t)

def S_are_roles : Spc := fun vs B M R => ∃ (d : Addr) (kvs : List (Key × V)) (rows : List Row), vs = [.ref d] ∧ M d = some (is (.dK kvs)) ∧ Paired (KvRow B) kvs rows ∧ 1 ≤ rows.length ∧ rows.length ≤ 3 ∧ (∀ r ∈ rows, RowOk r) ∧ ∀ B1, Ex B B1 → R (.bl true) B1 M
theorem sc_are_roles : FnScope ["value", "role", "part"] ["value"] (defScope (top 27)) := ⟨rfl, rfl, rfl, by decide +kernel, rfl, by decide +kernel, by decide +kernel⟩
theorem ok_are_roles (T : Tx K mg) : C8.Cal P w K mg base 4 "are_roles" (Pm (S_are_roles)) [] := by
  have nd := sc_are_roles.nd
  refine calOf (k := 3) (S := (S_are_roles)) T.d_are_roles T.g_are_roles sc_are_roles (fun _ _ _ _ _ _ us hl => match us, hl with | [_], _ => rfl) (fun vs B M R ⟨_, _, _, e, _⟩ => by rw [e] <;> rfl) fun cdv A outer s H E hr => ?_
  have hu := hu_of hr
  refine ⟨_, (pss_cons (ps_if ((pw_or (pt_not (pt_val (pe_callB call_isi (by rfl) T.f_isinstance (by decide +kernel) (pa_cons (pv 0) (pa_cons (pe_ty "dict" (by rfl) T.f_dict (by decide +kernel)) pa_nil))))) (pw_or1 (pt_not (pt_chain op_le op_le pe_int (pe_callB call_lenD (by rfl) T.f_len (by decide +kernel) (pa_cons (pv 0) pa_nil)) (C8.pe_gc (by rfl) T.i_MOST_ROLES)))))).pt
      (pss_one (ps_ret pe_bl))
      pss_nil)
    (pss_one (ps_ret (pe_callB (cr_all rfl) (by rfl) T.f_all (by decide +kernel) (pa_cons (pe_lock (pe_lc (own := [("role", 1), ("part", 2)]) (g := gTup K 2 (gCons (gName 1) (gCons (gName 2) gNil))) rfl nd (pi_items (pv 0)) (blkOk_by (own := [("role", 1), ("part", 2)]) (N := ["value", "role", "part"]) (sc := defScope (top 27)) (by decide +kernel)) (fun _ _ _ _ _ => (pg_tupK (K := K) rfl rfl (pgs_cons (pg_name (i := 1) nd rfl (Or.inl rfl)) (pgs_cons (pg_name (i := 2) nd rfl (Or.inl rfl)) pgs_nil)))) (fun _ _ _ _ _ => pts_nil) (fun _ _ _ _ _ => (pe_and (C8.pe_c (ok_is_word T) hr (by decide) (by rfl) (pa_cons (pv 1) pa_nil)) (pe_one (C8.pe_c (ok_is_role T) hr (by decide) (by rfl) (pa_cons (pv 2) pa_nil))))))) pa_nil))))), ?_⟩
  rintro vs B M R ⟨d, kvs, rows, rfl, hd, hf, h1, h3, hr1, k⟩
  have hl := f2_len hf
  repeat trivial
  refine wi_dM_dict hd ?_
  repeat trivial
  refine wc_lenD hd ?_
  repeat trivial
  refine bD (fun _ => ?_) fun h => absurd (by omega) h
  repeat trivial
  refine bN (fun _ => ?_) fun h => absurd (by omega) h
  repeat trivial
  refine w_lockE hd fun od => ?_
  refine w_lc (i_items ?_)
  repeat trivial
  refine ⟨d, od, kvs, rfl, updM_same, _, _, _, wb_items, by omega, fun i acc _ => acc = List.replicate i (V.bl true), rfl, fun D hD hM => ⟨fun P => ?_, ?_, ?_⟩⟩
  · rw [updM_ne fun z => by rw [← z, updM_same] at hM; cases hM]
    exact updM_same
  · rintro i x acc B' B2 hi hl2 e1 rfl e2 ⟨T, kk, v, hk, rfl, hT⟩
    obtain ⟨r, hr2, e3, t, a, rfl, ht, ha⟩ := f2_get hf hk
    have ok := hr1 r (List.mem_of_getElem? hr2)
    cases e3
    refine g_tup (.of hT) rfl ?_
    repeat trivial
    refine ⟨r.role, rfl, ok.role, fun B3 e4 => ?_⟩
    repeat trivial
    have e5 := (e1.trans e2).trans e4
    refine ⟨t, a, r.own, rfl, r.likes, e5 _ _ ht, e5 _ _ ha, ok.few, ok.likes, ok.nd, ok.own, fun B4 e6 => ⟨rfl, e4.trans e6, rep_succ⟩⟩
  · rintro acc B' e1 nD hl2 rfl
    refine ⟨M, rfl, ?_⟩
    have eM : updM M d (is (.dK kvs)) = M := by
      funext b
      by_cases hb : b = d
      · rw [hb, updM_same, hd]
      · rw [updM_ne hb]
    rw [eM]
    repeat trivial
    refine wc_all (bs := List.replicate _ true) (.of (by rw [List.map_replicate]; exact upd_same)) ?_
    rw [show (List.replicate kvs.length true).all id = true by simp]
    exact k _ (e1.trans (exNew nD))
end
end Ab
/-! ## D4 -/
set_option Elab.async false
set_option linter.all false
set_option maxRecDepth 100000
set_option maxHeartbeats 4000000
namespace Ab
open PySem L2 PyProof.Rows
open Evl (Ex)
local macro_rules | `(tactic| trivial) => `(tactic| first
  | ((with_reducible apply w_var); exact rfl)
  | with_reducible refine w_c ?_ | with_reducible refine w_cons ?_ | with_reducible refine w_nil ?_ | with_reducible refine w_op ?_ | with_reducible refine w_cb ?_ | with_reducible refine w_call ?_ | with_reducible refine w_test ?_ | with_reducible refine w_B ?_
  | with_reducible refine bX ?_ | with_reducible refine bT ?_ | with_reducible refine bF ?_ | with_reducible refine zN ?_ | with_reducible refine zI ?_ | with_reducible refine zS ?_ | with_reducible refine zR ?_ | with_reducible refine zN' ?_ | with_reducible refine zI' ?_ | with_reducible refine zS' ?_ | with_reducible refine zR' ?_ | with_reducible refine bnT ?_ | with_reducible refine bnF ?_ | with_reducible refine w_and ?_ | with_reducible refine w_or ?_ | with_reducible refine w_not ?_ | with_reducible refine w_andV ?_ | with_reducible refine w_orV ?_
  | with_reducible refine w_notV ?_ | with_reducible refine w_if ?_ | with_reducible refine w_chain ?_ | with_reducible refine w_un ?_ | with_reducible refine wr_I0 ?_ | with_reducible refine wu_I ?_ | with_reducible refine wr_isN ?_ | with_reducible refine wr_notN ?_
  | with_reducible refine wr_eq rfl ?_ | with_reducible refine wr_ne rfl ?_ | with_reducible refine w_yes ?_ | with_reducible refine w_tup ?_ | with_reducible refine w_lst ?_ | with_reducible refine s_ret ?_ | with_reducible refine s_retN ?_
  | with_reducible refine s_seq ?_ | with_reducible refine s_if ?_ | with_reducible refine s_set ?_ | with_reducible refine s_drop ?_ | with_reducible refine s_next ?_ | with_reducible refine s_par ?_ | with_reducible refine s_par3 ?_ | with_reducible refine s_asg ?_
  | with_reducible refine g_name ?_ | with_reducible refine gs_nil ?_ | with_reducible refine gs_cons ?_ | with_reducible refine wi_int_int ?_ | with_reducible refine wi_int_bool ?_ | with_reducible refine wi_str_str ?_ | with_reducible refine w_fld ?_ | with_reducible refine w_meth ?_ | with_reducible refine w_prop ?_ | with_reducible refine w_dget ?_ | with_reducible refine w_din ?_ | with_reducible refine w_dnin ?_ | with_reducible refine s_fld ?_ | with_reducible refine w_sl ?_ | with_reducible refine s_app ?_ | with_reducible refine w_part ?_
  | with_reducible refine w_noPart ?_ | with_reducible refine iX ?_)

section
variable {P : Program} {w : World} {K : PySem.W.Frag} {mg : Str → Option Value} {base : Heap}
structure Told where
  rows : List Row
  vouch : List Str
  least : Nat
  sign : Option (List Str)
def sgV (B : Hp) (v : V) : Option (List Str) → Prop
  | none => v = .non
  | some ws => ∃ a, v = .ref a ∧ B a = some (.lst (ws.map V.str))
theorem sgV.ex {B B' : Hp} {v : V} (e : Ex B B') : ∀ {o : Option (List Str)}, sgV B v o → sgV B' v o
  | none, h => h
  | some ws, ⟨a, h1, h2⟩ => ⟨a, h1, e _ _ h2⟩
/-- what may be made to contents -/
structure ToldOk (t : Told) : Prop where
  few : 1 ≤ t.rows.length
  most : t.rows.length ≤ 3
  rows : ∀ r ∈ t.rows, RowOk r
  nd : (t.rows.map Row.role).Nodup
  vw : ∀ z ∈ t.vouch, Wd z
  vn : t.vouch.Nodup
  vl : t.vouch.length ≤ 4
  least : t.least ≤ 4
  sw : ∀ ws, t.sign = some ws → (∀ z ∈ ws, Wd z) ∧ ws.Nodup ∧ ws.length ≤ 4
/-- a role's pair as contents keep it -/
def KvOut (B : Hp) (rows : List Row) (kv : Key × V) (z : Str) : Prop := kv.1 = .inr z ∧ ∃ (r : Row) (q u : Addr) (us : List Str), r ∈ rows ∧ r.role = z ∧ kv.2 = .ref q ∧ B q = some (.tup [.ref u, .str r.own]) ∧ B u = some (.tup (us.map V.str)) ∧ us.Perm r.likes
theorem KvOut.ex {B B' : Hp} (e : Ex B B') {rows : List Row} {kv : Key × V} {z : Str} (h : KvOut B rows kv z) : KvOut B' rows kv z := by
  obtain ⟨h1, r, q, u, us, h2, h3, h4, h5, h6, h7⟩ := h
  exact ⟨h1, r, q, u, us, h2, h3, h4, e _ _ h5, e _ _ h6, h7⟩
def cFs (d vt st : Addr) (n : Nat) : List (Str × V) := [("own_roles", .ref d), ("own_vouchers", .ref vt), ("own_needed", .int n), ("own_signers", .ref st)]
/-- contents -/
def ContV (K : PySem.W.Frag) (B : Hp) (v : V) (t : Told) : Prop := ∃ (a dx d vt st : Addr) (kvs : List (Key × V)) (ys vs ss : List Str), v = .ref a ∧ B a = some (.ins (He.ga K "Contents") dx (cFs d vt st t.least)) ∧ B d = some (.dK kvs) ∧ Paired (KvOut B t.rows) kvs ys ∧ ys.Perm (t.rows.map Row.role) ∧ sortedS ys = true ∧
  B vt = some (.tup (vs.map V.str)) ∧ vs.Perm t.vouch ∧ B st = some (.tup (ss.map V.str)) ∧ ss.Perm (t.sign.getD t.vouch)
theorem ContV.ex {K : PySem.W.Frag} {B B' : Hp} {v : V} {t : Told} (e : Ex B B') (h : ContV K B v t) : ContV K B' v t := by
  obtain ⟨a, dx, d, vt, st, kvs, ys, vs, ss, h1, h2, h3, h4, h5, h6, h7, h8, h9, h10⟩ := h
  exact ⟨a, dx, d, vt, st, kvs, ys, vs, ss, h1, e _ _ h2, e _ _ h3, f2_mono (fun _ _ => KvOut.ex e) h4, h5, h6, e _ _ h7, h8, e _ _ h9, h10⟩
theorem f2_keys {B : Hp} {rows : List Row} : ∀ {kvs : List (Key × V)} {ys : List Str}, Paired (KvOut B rows) kvs ys → kvs.map (·.1) = ys.map Sum.inr
  | _, _, .nil => rfl
  | _, _, .cons h t => by rw [List.map_cons, List.map_cons, f2_keys t, h.1]
theorem f2_keysR {B : Hp} : ∀ {kvs : List (Key × V)} {rows : List Row}, Paired (KvRow B) kvs rows → kvs.map (·.1) = (rows.map Row.role).map Sum.inr
  | _, _, .nil => rfl
  | _, _, .cons h t => by rw [List.map_cons, List.map_cons, List.map_cons, f2_keysR t, h.1]
/-- a pair found by its key -/
theorem f2_val {α : Type} {p : Key × V → α → Prop} {f : α → Str} (hp : ∀ kv x, p kv x → kv.1 = .inr (f x)) : ∀ {kvs : List (Key × V)} {xs : List α} {x : α}, Paired p kvs xs → (xs.map f).Nodup → x ∈ xs → ∃ kv, valV kvs (.inr (f x)) = some kv.2 ∧ p kv x
  | _, _, x, .nil, _, h => by simp at h
  | _, _, x, .cons (l₁ := kvs) (l₂ := xs) (a := kv) (b := y) r t, nd, h => by
    rw [List.map_cons, List.nodup_cons] at nd
    rcases List.mem_cons.mp h with rfl | h
    · exact ⟨kv, valV_pos (hp _ _ r), r⟩
    · obtain ⟨kv', e, q⟩ := f2_val hp t nd.2 h
      refine ⟨kv', ?_, q⟩
      rw [valV_neg]
      · exact e
      · intro z
        rw [hp _ _ r] at z
        have z2 := Sum.inr.inj z
        exact nd.1 (by rw [z2]; exact List.mem_map_of_mem h)
theorem putK_fresh {kvs : List (Key × V)} {k : Key} {v : V} (h : k ∉ kvs.map (·.1)) : putK kvs k v = kvs ++ [(k, v)] := by
  unfold putK
  rw [if_neg]
  intro z
  obtain ⟨kv, h1, h2⟩ := List.any_eq_true.mp z
  exact h (by rw [← of_decide_eq_true h2]; exact List.mem_map_of_mem h1)
theorem f2_snoc {α β : Type} {p : α → β → Prop} {x : α} {y : β} (h : p x y) : ∀ {l : List α} {m : List β}, Paired p l m → Paired p (l ++ [x]) (m ++ [y])
  | _, _, .nil => .cons h .nil
  | _, _, .cons r t => .cons r (f2_snoc h t)

end
end Ab
/-! ## D5 -/
set_option Elab.async false
set_option linter.all false
set_option maxRecDepth 100000
set_option maxHeartbeats 4000000
namespace Ab
open PySem L2 PyProof.Rows
open Evl (Ex)
local macro_rules | `(tactic| trivial) => `(tactic| first
  | ((with_reducible apply w_var); exact rfl)
  | with_reducible refine w_c ?_ | with_reducible refine w_cons ?_ | with_reducible refine w_nil ?_ | with_reducible refine w_op ?_ | with_reducible refine w_cb ?_ | with_reducible refine w_call ?_ | with_reducible refine w_test ?_ | with_reducible refine w_B ?_
  | with_reducible refine bX ?_ | with_reducible refine bT ?_ | with_reducible refine bF ?_ | with_reducible refine zN ?_ | with_reducible refine zI ?_ | with_reducible refine zS ?_ | with_reducible refine zR ?_ | with_reducible refine zN' ?_ | with_reducible refine zI' ?_ | with_reducible refine zS' ?_ | with_reducible refine zR' ?_ | with_reducible refine bnT ?_ | with_reducible refine bnF ?_ | with_reducible refine w_and ?_ | with_reducible refine w_or ?_ | with_reducible refine w_not ?_ | with_reducible refine w_andV ?_ | with_reducible refine w_orV ?_
  | with_reducible refine w_notV ?_ | with_reducible refine w_if ?_ | with_reducible refine w_chain ?_ | with_reducible refine w_un ?_ | with_reducible refine wr_I0 ?_ | with_reducible refine wu_I ?_ | with_reducible refine wr_isN ?_ | with_reducible refine wr_notN ?_
  | with_reducible refine wr_eq rfl ?_ | with_reducible refine wr_ne rfl ?_ | with_reducible refine w_yes ?_ | with_reducible refine w_tup ?_ | with_reducible refine w_lst ?_ | with_reducible refine s_ret ?_ | with_reducible refine s_retN ?_
  | with_reducible refine s_seq ?_ | with_reducible refine s_if ?_ | with_reducible refine s_set ?_ | with_reducible refine s_drop ?_ | with_reducible refine s_next ?_ | with_reducible refine s_par ?_ | with_reducible refine s_par3 ?_ | with_reducible refine s_asg ?_
  | with_reducible refine g_name ?_ | with_reducible refine gs_nil ?_ | with_reducible refine gs_cons ?_ | with_reducible refine wi_int_int ?_ | with_reducible refine wi_int_bool ?_ | with_reducible refine wi_str_str ?_ | with_reducible refine w_fld ?_ | with_reducible refine w_meth ?_ | with_reducible refine w_prop ?_ | with_reducible refine w_dget ?_ | with_reducible refine w_din ?_ | with_reducible refine w_dnin ?_ | with_reducible refine s_fld ?_ | with_reducible refine w_sl ?_ | with_reducible refine s_app ?_ | with_reducible refine w_part ?_
  | with_reducible refine w_noPart ?_ | with_reducible refine iX ?_)

section
variable {P : Program} {w : World} {K : PySem.W.Frag} {mg : Str → Option Value} {base : Heap}
theorem Ok.freezeD {B H : Hp} {M0 : Mu} {x D : Addr} {A A' : HO → Prop} {o : HO} (n : x ≠ D) (h : M0 D = none) (k : Ok B (updM (updM (updM M0 x A) D (is o)) x A') H) : Ok (upd B D o) (updM M0 x A') H := by
  have e : updM (updM (updM M0 x A) D (is o)) x A' = updM (updM M0 x A') D (is o) := by
    funext b
    unfold updM
    by_cases h1 : b = x
    · rw [if_pos h1, if_neg (by rw [h1]; exact n), if_pos h1]
    · rw [if_neg h1, if_neg h1, if_neg h1]
  rw [e] at k
  exact k.freeze' (by rw [updM_ne n.symm]; exact h)
theorem put_here {f : Str} {v x : V} {r : List (Str × V)} : putF f v ((f, x) :: r) = (f, v) :: r := if_pos rfl
theorem put_past {f g : Str} {v x : V} {r : List (Str × V)} (h : ¬ g = f) : putF f v ((g, x) :: r) = (g, x) :: putF f v r := if_neg h
theorem len2 {a b : V} : ([a, b] : List V).length ≤ 100000 := by show 2 ≤ 100000; decide
theorem len3 {a b c : V} : ([a, b, c] : List V).length ≤ 100000 := by show 3 ≤ 100000; decide
theorem len4 {a b c d : V} : ([a, b, c, d] : List V).length ≤ 100000 := by show 4 ≤ 100000; decide
theorem pF4 (d vt n st : V) : putF "own_signers" st (putF "own_needed" n (putF "own_vouchers" vt (putF "own_roles" d []))) = ([("own_roles", d), ("own_vouchers", vt), ("own_needed", n), ("own_signers", st)] : List (Str × V)) := by
  show putF "own_signers" st (putF "own_needed" n (putF "own_vouchers" vt [("own_roles", d)])) = _
  rw [put_past (by decide +kernel)]
  show putF "own_signers" st (putF "own_needed" n [("own_roles", d), ("own_vouchers", vt)]) = _
  rw [put_past (by decide +kernel), put_past (by decide +kernel)]
  show putF "own_signers" st [("own_roles", d), ("own_vouchers", vt), ("own_needed", n)] = _
  rw [put_past (by decide +kernel), put_past (by decide +kernel), put_past (by decide +kernel)]
  rfl
theorem lk_here {k : Str} {v : V} {r : List (Str × V)} : List.lookup k ((k, v) :: r) = some v := by
  have e : (k == k) = true := beq_self_eq_true k
  simp only [List.lookup, e]
theorem lk_past {k g : Str} {v : V} {r : List (Str × V)} (h : (k == g) = false) : List.lookup k ((g, v) :: r) = List.lookup k r := by
  simp only [List.lookup, h]
theorem pL3 (d vt n : V) : List.lookup ("own_vouchers" : Str) (putF "own_needed" n (putF "own_vouchers" vt (putF "own_roles" d []))) = some vt := by
  rw [lookup_putF, if_neg (by decide +kernel), lookup_putF, if_pos rfl]
def S_Contents___init__ (K : PySem.W.Frag) : Spc := fun vs B M R => ∃ (x d vl : Addr) (sg : V) (M0 : Mu) (dx : Addr) (kvs : List (Key × V)) (t : Told), vs = [.ref x, .ref d, .ref vl, .int (t.least : Nat), sg] ∧ M = updM M0 x (is (.ins (He.ga K "Contents") dx [])) ∧ B x = none ∧ M0 x = none ∧
  M0 d = some (is (.dK kvs)) ∧ Paired (KvRow B) kvs t.rows ∧ B vl = some (.lst (t.vouch.map V.str)) ∧ sgV B sg t.sign ∧ ToldOk t ∧ ∀ B1, Ex B B1 → ContV K B1 (.ref x) t → R .non B1 M0
theorem sc_Contents___init__ : FnScope ["self", "roles", "vouchers", "needed", "signers", "role"] ["self", "roles", "vouchers", "needed", "signers"] (defScope (inClass (top 28) 0)) := ⟨rfl, rfl, rfl, by decide +kernel, rfl, by decide +kernel, by decide +kernel⟩
theorem ok_Contents___init__ (T : Tx K mg) : ∃ fd, FunD K "__init__" "Contents.__init__" (defArgs (inClass (top 28) 0)) (defBody (inClass (top 28) 0)) (defScope (inClass (top 28) 0)) [] [("needed", .int 1), ("signers", .non)] (He.ma K (He.ga K "Contents") "__init__") fd ∧ FnOk P w K mg base CX0 5 (He.ma K (He.ga K "Contents") "__init__") fd ["self", "roles", "vouchers", "needed", "signers"] (Pm (S_Contents___init__ K)) := by
  have nd := sc_Contents___init__.nd
  obtain ⟨fd, F⟩ := T.d_Contents___init__
  refine ⟨fd, F, ?_⟩
  refine okOf (k := 4) (S := (S_Contents___init__ K)) F sc_Contents___init__ (fun vs B M R ⟨_, _, _, _, _, _, _, _, e, _⟩ => by rw [e] <;> rfl) fun cdv A outer s H E hr => ?_
  have hu := hu_of hr
  refine ⟨_, (pss_cons (ps_if (pt_not (pt_val (C8.pe_c (ok_are_roles T) hr (by decide) (by rfl) (pa_cons (pv 1) pa_nil))))
      (pss_one ps_never)
      pss_nil)
    (pss_cons (ps_if (pt_not (pt_val (C8.pe_c (ok_are_keys T) hr (by decide) (by rfl) (pa_cons (pv 2) (pa_cons (C8.pe_gc (by rfl) T.i_MOST_VOUCHERS) pa_nil)))))
      (pss_one ps_never)
      pss_nil)
    (pss_cons (ps_if (pt_not (pt_val (C8.pe_c (ok_is_between T) hr (by decide) (by rfl) (pa_cons (pv 3) (pa_cons pe_int (pa_cons (C8.pe_gc (by rfl) T.i_MOST_VOUCHERS) pa_nil))))))
      (pss_one ps_never)
      pss_nil)
    (pss_cons (ps_if ((pw_and (pt_cmpR op_notN (pv 4) pe_non (nomark _)) (pw_and1 (pt_not (pt_val (C8.pe_c (ok_are_keys T) hr (by decide) (by rfl) (pa_cons (pv 4) (pa_cons (C8.pe_gc (by rfl) T.i_MOST_VOUCHERS) pa_nil)))))))).pt
      (pss_one ps_never)
      pss_nil)
    (pss_cons (ps_fld (pv 0) (pe_dc (own := [("role", 5)]) (g := gName 5) rfl nd (pi_list (pe_callB (call_sortedD rfl) (by rfl) T.f_sorted (by decide +kernel) (pa_cons (pv 1) pa_nil))) (blkOk_by (own := [("role", 5)]) (N := ["self", "roles", "vouchers", "needed", "signers", "role"]) (sc := defScope (inClass (top 28) 0)) (by decide +kernel)) (fun _ _ _ _ _ => (pg_name (i := 5) nd rfl (Or.inl rfl))) (fun _ _ _ _ _ => pts_nil) (fun _ _ _ _ _ => (pv 5)) (fun _ _ _ _ _ => (pe_tup (pa_cons (pe_callTy (call_tuple_ofK (K := K) rfl) (by rfl) T.f_tuple (by decide +kernel) (pa_cons (pe_callB (cr_sortedSK (K := K) rfl) (by rfl) T.f_sorted (by decide +kernel) (pa_cons (pe_ix (ix_tupK (K := K) rfl) (pe_dget hu (pv 1) (pv 5) (fun _ _ => rfl)) pe_int (fun _ _ => rfl)) pa_nil)) pa_nil)) (pa_cons (pe_ix (ix_tupK (K := K) rfl) (pe_dget hu (pv 1) (pv 5) (fun _ _ => rfl)) pe_int (fun _ _ => rfl)) pa_nil))))) rfl)
    (pss_cons (ps_fld (pv 0) (pe_callTy call_tuple_of (by rfl) T.f_tuple (by decide +kernel) (pa_cons (pe_callB cr_sortedS (by rfl) T.f_sorted (by decide +kernel) (pa_cons (pv 2) pa_nil)) pa_nil)) rfl)
    (pss_cons (ps_fld (pv 0) (pv 3) rfl)
    (pss_one (ps_fld (pv 0) (pe_ifExp (pt_cmpR op_isN (pv 4) pe_non (nomark _)) (pe_fld (pv 0) rfl) (pe_callTy call_tuple_of (by rfl) T.f_tuple (by decide +kernel) (pa_cons (pe_callB cr_sortedS (by rfl) T.f_sorted (by decide +kernel) (pa_cons (pv 4) pa_nil)) pa_nil))) rfl))))))))), ?_⟩
  rintro vs B M R ⟨x, d, vl, sg, M0, dx, kvs, t, rfl, rfl, nB, nx, hd, hf, hv, hs, ok, k⟩
  have hdx : d ≠ x := fun z => by rw [z, nx] at hd; cases hd
  have hd1 : ∀ P, updM M0 x P d = some (is (.dK kvs)) := fun P => by rw [updM_ne hdx]; exact hd
  refine wS.post ?_
  repeat trivial
  refine ⟨d, kvs, t.rows, rfl, hd1 _, hf, ok.few, ok.most, ok.rows, fun B1 e1 => ?_⟩
  repeat trivial
  refine ⟨vl, t.vouch, 4, rfl, e1 _ _ hv, ok.vl, by decide, ok.vw, ok.vn, fun B2 e2 => ?_⟩
  repeat trivial
  refine ⟨_, _, _, rfl, ?_⟩
  rw [decide_eq_true ⟨by omega, by have := ok.least; omega⟩]
  repeat trivial
  refine and_cut (fun B3 e3 => ?_) fun hc => ?_
  rotate_left
  · cases hsg : t.sign with
    | none =>
      rw [hsg] at hs
      rw [show sg = V.non from hs] at hc
      cases hc
    | some ws =>
      rw [hsg] at hs
      obtain ⟨a, rfl, ha⟩ := hs
      obtain ⟨w1, w2, w3⟩ := ok.sw ws hsg
      repeat trivial
      refine ⟨a, ws, 4, rfl, e2 _ _ (e1 _ _ ha), w3, by decide, w1, w2, fun B3 e3 => ?_⟩
      repeat trivial
  have e123 := (e1.trans e2).trans e3
  repeat trivial
  have hkey : ∀ z ∈ t.rows.map Row.role, ∃ r ∈ t.rows, r.role = z ∧ ∃ tt a, valV kvs (.inr z) = some (.ref tt) ∧ B tt = some (.tup [.ref a, .str r.own]) ∧ B a = some (.lst (r.likes.map V.str)) := fun z hz => by
    obtain ⟨r, hr1, rfl⟩ := List.mem_map.mp hz
    obtain ⟨kv, e, _, tt, a, e2, e3, e4⟩ := f2_val (f := Row.role) (fun kv x h => h.1) hf ok.nd hr1
    exact ⟨r, hr1, rfl, tt, a, by rw [e, e2], e3, e4⟩
  refine w_dc (i_list ?_)
  repeat trivial
  refine wc_sortedD (hd1 _) (f2_keysR hf) (by rw [List.length_map]; have := ok.most; omega) fun ys p py sy hp mp => ?_
  repeat trivial
  have hly : ys.length ≤ 3 := by rw [py.length_eq, List.length_map]; exact ok.most
  have hny : ys.Nodup := py.nodup_iff.mpr ok.nd
  refine ⟨p, _, rfl, .of upd_same, _, _, _, wb_list (.of upd_same), by rw [List.length_map]; omega, fun i acc B' => Paired (KvOut B' t.rows) acc (ys.take i), .nil, fun D hD mD => ⟨fun _ => True.intro, ?_, ?_⟩⟩
  · rintro i v acc B' B2 hi hl e4 iv e5 hx
    rw [List.getElem?_map] at hx
    obtain ⟨z, hz, rfl⟩ := Option.map_eq_some_iff.mp hx
    obtain ⟨r, hr1, rfl, tt, a, hv1, hv2, hv3⟩ := hkey z (py.mem_iff.mp (List.mem_of_getElem? hz))
    have rok := ok.rows r hr1
    have e6 := e123.trans ((exNew (o := .lst (ys.map V.str)) hp).trans (e4.trans e5))
    have hdD : d ≠ D := fun q => by rw [← q, hd1] at mD; cases mD
    repeat trivial
    refine ⟨d, kvs, .inr r.role, _, rfl, rfl, .inr (.inl (by rw [updM_ne hdD]; exact hd1 _)), hv1, ?_⟩
    repeat trivial
    refine wr_ixT (.of (e6 _ _ hv2)) (v := .ref a) (by rfl) ?_
    repeat trivial
    refine wc_sortedS (.of (e6 _ _ hv3)) (by have := rok.few; omega) fun us q pu su hq mq => ?_
    repeat trivial
    refine wc_tupL (.of upd_same) fun u hu2 mu => ?_
    repeat trivial
    have e7 := exNew (o := .lst (us.map V.str)) hq
    have e8 := exNew (o := .tup (us.map V.str)) hu2
    refine ⟨d, kvs, .inr r.role, _, rfl, rfl, .inr (.inl (by rw [updM_ne hdD]; exact hd1 _)), hv1, ?_⟩
    repeat trivial
    refine wr_ixT (.of (e8 _ _ (e7 _ _ (e6 _ _ hv2)))) (v := .str r.own) (by rfl) ?_
    repeat trivial
    refine ⟨len2, fun w2 hw2 mw2 => ⟨.inr r.role, rfl, rfl, (e7.trans e8).trans (exNew hw2), ?_⟩⟩
    have e9 := exNew (o := .tup [V.ref u, V.str r.own]) hw2
    rw [putK_fresh]
    · show Paired _ _ (List.take (i + 1) ys)
      rw [List.take_add_one, hz]
      refine Paired.snoc (f2_mono (fun _ _ => KvOut.ex (((e5.trans e7).trans e8).trans e9)) iv) ⟨rfl, r, w2, u, us, hr1, rfl, rfl, upd_same, e9 _ _ upd_same, pu⟩
    · rw [f2_keys iv]
      intro hm
      obtain ⟨y, hy, ey⟩ := List.mem_map.mp hm
      cases ey
      obtain ⟨j, hj, ej⟩ := List.mem_take_iff_getElem.mp hy
      obtain ⟨hi2, ei⟩ := List.getElem?_eq_some_iff.mp hz
      have := (List.getElem_inj hny).mp (ej.trans ei.symm)
      omega
  rintro acc B4 e4 nD hl iv
  rw [List.length_map, List.take_length] at iv
  have exD : x ≠ D := fun q => by rw [← q, updM_same] at mD; cases mD
  repeat trivial
  refine ⟨x, _, dx, [], rfl, by rw [updM_ne exD]; exact updM_same, T.c_Contents, T.n_Contents_own_roles, by decide, ?_⟩
  have M0D : M0 D = none := by rw [updM_ne exD.symm] at mD; exact mD
  refine wS.sh ?_ (fun H kk => Ok.freezeD exD M0D kk)
  have e5 := e123.trans ((exNew (o := .lst (ys.map V.str)) hp).trans (e4.trans (exNew (o := .dK acc) nD)))
  repeat trivial
  refine wc_sortedS (.of (e5 _ _ hv)) (by have := ok.vl; omega) fun vs q pv sv hq mq => ?_
  repeat trivial
  refine wc_tupL (.of upd_same) fun u hu2 mu => ?_
  repeat trivial
  refine ⟨x, _, dx, _, rfl, updM_same, T.c_Contents, T.n_Contents_own_vouchers, by show 1 < 1000; decide, ?_⟩
  have e6 := e5.trans ((exNew (o := .lst (vs.map V.str)) hq).trans (exNew (o := .tup (vs.map V.str)) hu2))
  repeat trivial
  refine ⟨x, _, dx, _, rfl, updM_same, T.c_Contents, T.n_Contents_own_needed, by show 2 < 1000; decide, ?_⟩
  simp only [updM_updM]
  refine wS.ok fun ok0 => ?_
  have nx6 := Ok.out ok0 updM_same
  have f2 := exNew (o := .lst (vs.map V.str)) hq
  have f3 := exNew (o := .tup (vs.map V.str)) hu2
  have fin : ∀ (B7 : Hp) (st : Addr) (ss : List Str), Ex (upd (upd (upd B4 D (HO.dK acc)) q (.lst (vs.map V.str))) u (.tup (vs.map V.str))) B7 → B7 x = none → B7 st = some (.tup (ss.map V.str)) → ss.Perm (t.sign.getD t.vouch) →
      ∃ B8 M8, (∀ H, Ok B7 (updM M0 x (is (.ins (He.ga K "Contents") dx (cFs D u st t.least)))) H → Ok B8 M8 H) ∧ R .non B8 M8 := fun B7 st ss e7 n7 h1 h2 => by
    have e8 := exNew (o := .ins (He.ga K "Contents") dx (cFs D u st t.least)) n7
    refine ⟨_, M0, fun H kk => kk.freeze' nx, k _ ((e6.trans e7).trans e8) ⟨x, dx, D, u, st, acc, ys, vs, ss, rfl, upd_same, ?_, ?_, py, sy, ?_, pv, e8 _ _ h1, h2⟩⟩
    · exact e8 _ _ (e7 _ _ (f3 _ _ (f2 _ _ upd_same)))
    · exact f2_mono (fun _ _ => KvOut.ex ((((exNew (o := .dK acc) nD).trans f2).trans f3).trans (e7.trans e8))) iv
    · exact e8 _ _ (e7 _ _ upd_same)
  cases hsg : t.sign with
  | none =>
    rw [hsg] at hs fin
    rw [show sg = V.non from hs]
    repeat trivial
    refine ⟨x, _, dx, _, _, rfl, .inr updM_same, T.c_Contents, T.n_Contents_own_vouchers, (pL3 _ _ _), ?_⟩
    repeat trivial
    refine ⟨x, _, dx, _, rfl, updM_same, T.c_Contents, T.n_Contents_own_signers, by show 3 < 1000; decide, ?_⟩
    rw [updM_updM, pF4]
    exact fin _ u vs (Ex.refl _) nx6 upd_same pv
  | some ws =>
    rw [hsg] at hs fin
    obtain ⟨a, rfl, ha⟩ := hs
    obtain ⟨w1, w2, w3⟩ := ok.sw ws hsg
    repeat trivial
    refine wc_sortedS (.of (e6 _ _ ha)) (by omega) fun ss q2 ps ss2 hq2 mq2 => ?_
    repeat trivial
    refine wc_tupL (.of upd_same) fun u2 hu3 mu3 => ?_
    repeat trivial
    refine ⟨x, _, dx, _, rfl, updM_same, T.c_Contents, T.n_Contents_own_signers, by show 3 < 1000; decide, ?_⟩
    rw [updM_updM, pF4]
    have xq : x ≠ q2 := fun z => by rw [← z, updM_same] at mq2; cases mq2
    have xu : x ≠ u2 := fun z => by rw [← z, updM_same] at mu3; cases mu3
    exact fin _ u2 ss ((exNew hq2).trans (exNew hu3)) (by rw [upd_ne xu, upd_ne xq]; exact nx6) upd_same ps
end
end Ab
/-! ## D6 -/
set_option Elab.async false
set_option linter.all false
set_option maxRecDepth 100000
set_option maxHeartbeats 4000000
namespace Ab
open PySem L2 PyProof.Rows
open Evl (Ex)
local macro_rules | `(tactic| trivial) => `(tactic| first
  | ((with_reducible apply w_var); exact rfl)
  | with_reducible refine w_c ?_ | with_reducible refine w_cons ?_ | with_reducible refine w_nil ?_ | with_reducible refine w_op ?_ | with_reducible refine w_cb ?_ | with_reducible refine w_call ?_ | with_reducible refine w_test ?_ | with_reducible refine w_B ?_
  | with_reducible refine bX ?_ | with_reducible refine bT ?_ | with_reducible refine bF ?_ | with_reducible refine zN ?_ | with_reducible refine zI ?_ | with_reducible refine zS ?_ | with_reducible refine zR ?_ | with_reducible refine zN' ?_ | with_reducible refine zI' ?_ | with_reducible refine zS' ?_ | with_reducible refine zR' ?_ | with_reducible refine bnT ?_ | with_reducible refine bnF ?_ | with_reducible refine w_and ?_ | with_reducible refine w_or ?_ | with_reducible refine w_not ?_ | with_reducible refine w_andV ?_ | with_reducible refine w_orV ?_
  | with_reducible refine w_notV ?_ | with_reducible refine w_if ?_ | with_reducible refine w_chain ?_ | with_reducible refine w_un ?_ | with_reducible refine wr_I0 ?_ | with_reducible refine wu_I ?_ | with_reducible refine wr_isN ?_ | with_reducible refine wr_notN ?_
  | with_reducible refine wr_eq rfl ?_ | with_reducible refine wr_ne rfl ?_ | with_reducible refine w_yes ?_ | with_reducible refine w_tup ?_ | with_reducible refine w_lst ?_ | with_reducible refine s_ret ?_ | with_reducible refine s_retN ?_
  | with_reducible refine s_seq ?_ | with_reducible refine s_if ?_ | with_reducible refine s_set ?_ | with_reducible refine s_drop ?_ | with_reducible refine s_next ?_ | with_reducible refine s_par ?_ | with_reducible refine s_par3 ?_ | with_reducible refine s_asg ?_
  | with_reducible refine g_name ?_ | with_reducible refine gs_nil ?_ | with_reducible refine gs_cons ?_ | with_reducible refine wi_int_int ?_ | with_reducible refine wi_int_bool ?_ | with_reducible refine wi_str_str ?_ | with_reducible refine w_fld ?_ | with_reducible refine w_meth ?_ | with_reducible refine w_prop ?_ | with_reducible refine w_dget ?_ | with_reducible refine w_din ?_ | with_reducible refine w_dnin ?_ | with_reducible refine s_fld ?_ | with_reducible refine w_sl ?_ | with_reducible refine s_app ?_ | with_reducible refine w_part ?_
  | with_reducible refine w_noPart ?_ | with_reducible refine iX ?_)

section
variable {P : Program} {w : World} {K : PySem.W.Frag} {mg : Str → Option Value} {base : Heap}
theorem cL1 (d vt st : Addr) (n : Nat) : (cFs d vt st n).lookup ("own_roles" : Str) = some (.ref d) := lk_here
theorem cL2 (d vt st : Addr) (n : Nat) : (cFs d vt st n).lookup ("own_vouchers" : Str) = some (.ref vt) := (lk_past (by decide +kernel)).trans lk_here
theorem cL3 (d vt st : Addr) (n : Nat) : (cFs d vt st n).lookup ("own_needed" : Str) = some (.int n) := (lk_past (by decide +kernel)).trans ((lk_past (by decide +kernel)).trans lk_here)
theorem cL4 (d vt st : Addr) (n : Nat) : (cFs d vt st n).lookup ("own_signers" : Str) = some (.ref st) := (lk_past (by decide +kernel)).trans ((lk_past (by decide +kernel)).trans ((lk_past (by decide +kernel)).trans lk_here))
theorem cNo (d vt st : Addr) (n : Nat) {m : Str} (h : (m == ("own_roles" : Str)) = false := by decide +kernel) (h2 : (m == ("own_vouchers" : Str)) = false := by decide +kernel) (h3 : (m == ("own_needed" : Str)) = false := by decide +kernel) (h4 : (m == ("own_signers" : Str)) = false := by decide +kernel) : (cFs d vt st n).lookup m = none :=
  (lk_past h).trans ((lk_past h2).trans ((lk_past h3).trans ((lk_past h4).trans rfl)))
theorem nodup_map_inj {α β : Type} {f : α → β} : ∀ {l : List α} {x y : α}, (l.map f).Nodup → x ∈ l → y ∈ l → f x = f y → x = y
  | [], x, y, _, h, _, _ => by simp at h
  | a :: l, x, y, nd, h1, h2, e => by
    rw [List.map_cons, List.nodup_cons] at nd
    rcases List.mem_cons.mp h1 with e1 | h1
    · rcases List.mem_cons.mp h2 with e2 | h2
      · exact e1.trans e2.symm
      · exact absurd (by rw [← e1, e]; exact List.mem_map_of_mem h2) nd.1
    · rcases List.mem_cons.mp h2 with e2 | h2
      · exact absurd (by rw [← e2, ← e]; exact List.mem_map_of_mem h1) nd.1
      · exact nodup_map_inj nd.2 h1 h2 e
theorem inV_str {z : Str} {ws : List Str} : inV (.str z) (ws.map V.str) = decide (z ∈ ws) := by
  unfold inV
  rw [List.any_map, Bool.eq_iff_iff, List.any_eq_true, decide_eq_true_iff]
  constructor
  · rintro ⟨y, hy, e⟩
    have e2 : (y == z) = true := e
    rw [← eq_of_beq e2]
    exact hy
  · intro h
    exact ⟨z, h, show (z == z) = true from beq_self_eq_true z⟩
theorem flat_str {ws : List Str} : (ws.map V.str).all flatV = true := by
  rw [List.all_map, List.all_eq_true]
  exact fun _ _ => rfl
/-- one's signers are enough for another -/
def takesM (t u : Told) : Bool := decide (t.least ≤ ((u.sign.getD u.vouch).filter fun k => decide (k ∈ t.vouch)).length)
def S_Contents_roles (K : PySem.W.Frag) : Spc := fun vs B M R => ∃ (v : V) (t : Told), vs = [v] ∧ ContV K B v t ∧ ∀ (ys : List Str) (p : Addr) (B1 : Hp), Ex B B1 → ys.Perm (t.rows.map Row.role) → sortedS ys = true → B1 p = some (.lst (ys.map V.str)) → R (.ref p) B1 M
theorem sc_Contents_roles : FnScope ["self"] ["self"] (defScope (inClass (top 28) 1)) := ⟨rfl, rfl, rfl, by decide +kernel, rfl, by decide +kernel, by decide +kernel⟩
theorem ok_Contents_roles (T : Tx K mg) : Pro P w K mg base 1 (He.ga K "Contents") "roles" (S_Contents_roles K) := by
  have nd := sc_Contents_roles.nd
  obtain ⟨fd, F⟩ := T.d_Contents_roles
  refine ⟨_, _, fd, T.c_Contents, prB_ok (T.ex 5 (by rfl)), ?_, F.bindsN (fun _ _ _ _ _ _ us hl => match us, hl with | [_], _ => rfl)⟩
  refine okOf (k := 0) (S := (S_Contents_roles K)) F sc_Contents_roles (fun vs B M R ⟨_, _, e, _⟩ => by rw [e] <;> rfl) fun cdv A outer s H E hr => ?_
  have hu := hu_of hr
  refine ⟨_, (pss_one (ps_ret (pe_callTy (call_list_dK rfl) (by rfl) T.f_list (by decide +kernel) (pa_cons (pe_fld (pv 0) rfl) pa_nil)))), ?_⟩
  rintro vs B M R ⟨v, t, rfl, ⟨a, dx, d, vt, st, kvs, ys, vs, ss, rfl, h2, h3, h4, h5, h6, h7, h8, h9, h10⟩, k⟩
  repeat trivial
  refine ⟨a, _, dx, _, _, rfl, .inl h2, T.c_Contents, T.n_Contents_own_roles, cL1 .., ?_⟩
  repeat trivial
  refine wc_listD h3 fun p hp mp => k ys p _ (exNew hp) h5 h6 ?_
  rw [upd_same, show (kvs.map fun kv => kV kv.1) = ys.map V.str by
    have e := f2_keys h4
    rw [show (kvs.map fun kv => kV kv.1) = (kvs.map (·.1)).map kV by rw [List.map_map] <;> rfl, e, List.map_map]
    rfl]
def S_Contents_part_of (K : PySem.W.Frag) : Spc := fun vs B M R => ∃ (v : V) (z : Str) (t : Told) (r : Row), vs = [v, .str z] ∧ ContV K B v t ∧ r ∈ t.rows ∧ (t.rows.map Row.role).Nodup ∧ r.role = z ∧ Wd z ∧ ∀ (B1 : Hp) (q u : Addr) (us : List Str), Ex B B1 → B1 q = some (.tup [.ref u, .str r.own]) → B1 u = some (.tup (us.map V.str)) → us.Perm r.likes → R (.ref q) B1 M
theorem sc_Contents_part_of : FnScope ["self", "role"] ["self", "role"] (defScope (inClass (top 28) 5)) := ⟨rfl, rfl, rfl, by decide +kernel, rfl, by decide +kernel, by decide +kernel⟩
theorem ok_Contents_part_of (T : Tx K mg) : C8.Met P w K mg base 2 (He.ga K "Contents") "part_of" (Pm (S_Contents_part_of K)) [] := by
  have nd := sc_Contents_part_of.nd
  refine metOf (k := 1) (S := (S_Contents_part_of K)) T.d_Contents_part_of T.c_Contents T.m_Contents_part_of sc_Contents_part_of (fun _ _ _ _ _ _ us hl => match us, hl with | [_, _], _ => rfl) (fun vs B M R ⟨_, _, _, _, e, _⟩ => by rw [e] <;> rfl) fun cdv A outer s H E hr => ?_
  have hu := hu_of hr
  refine ⟨_, (pss_cons (ps_if ((pw_or (pt_not (pt_val (C8.pe_c (ok_is_word T) hr (by decide) (by rfl) (pa_cons (pv 1) pa_nil)))) (pw_or1 (pt_cmp (pc_dnotin hu (pv 1) (pe_fld (pv 0) rfl)))))).pt
      (pss_one ps_never)
      pss_nil)
    (pss_one (ps_ret (pe_dget hu (pe_fld (pv 0) rfl) (pv 1) (fun _ _ => rfl))))), ?_⟩
  rintro vs B M R ⟨v, z, t, r, rfl, ⟨a, dx, d, vt, st, kvs, ys, vs, ss, rfl, h2, h3, h4, h5, h6, h7, h8, h9, h10⟩, hr1, hn, rfl, hw, k⟩
  have hv : ∃ (q u : Addr) (us : List Str), valV kvs (.inr r.role) = some (.ref q) ∧ B q = some (.tup [.ref u, .str r.own]) ∧ B u = some (.tup (us.map V.str)) ∧ us.Perm r.likes := by
    obtain ⟨kv, e, _, r2, q, u, us, h11, h12, h13, h14, h15, h16⟩ := f2_val (f := fun z : Str => z) (fun kv x h => h.1) h4 (by rw [List.map_id']; exact h5.nodup_iff.mpr hn) (h5.mem_iff.mpr (List.mem_map_of_mem hr1))
    have e2 : r2 = r := nodup_map_inj hn h11 hr1 h12
    subst e2
    exact ⟨q, u, us, by rw [e, h13], h14, h15, h16⟩
  obtain ⟨q, u, us, v1, v2, v3, v4⟩ := hv
  repeat trivial
  refine ⟨r.role, rfl, hw, fun B1 e1 => ?_⟩
  repeat trivial
  refine ⟨a, _, dx, _, _, rfl, .inl (e1 _ _ h2), T.c_Contents, T.n_Contents_own_roles, cL1 .., ?_⟩
  refine ⟨d, kvs, .inr r.role, rfl, rfl, .inl (e1 _ _ h3), ?_⟩
  rw [v1]
  refine bX (bF ?_)
  repeat trivial
  refine ⟨a, _, dx, _, _, rfl, .inl (e1 _ _ h2), T.c_Contents, T.n_Contents_own_roles, cL1 .., ?_⟩
  repeat trivial
  exact ⟨d, kvs, .inr r.role, _, rfl, rfl, .inl (e1 _ _ h3), v1, k B1 q u us e1 (e1 _ _ v2) (e1 _ _ v3) v4⟩
def S_Contents_accepted (K : PySem.W.Frag) : Spc := fun vs B M R => ∃ (v : V) (z : Str) (t : Told) (r : Row), vs = [v, .str z] ∧ ContV K B v t ∧ r ∈ t.rows ∧ (t.rows.map Row.role).Nodup ∧ r.role = z ∧ Wd z ∧ ∀ (B1 : Hp) (p : Addr) (us : List Str), Ex B B1 → B1 p = some (.lst (us.map V.str)) → us.Perm r.likes → R (.ref p) B1 M
theorem sc_Contents_accepted : FnScope ["self", "role"] ["self", "role"] (defScope (inClass (top 28) 6)) := ⟨rfl, rfl, rfl, by decide +kernel, rfl, by decide +kernel, by decide +kernel⟩
theorem ok_Contents_accepted (T : Tx K mg) : C8.Met P w K mg base 3 (He.ga K "Contents") "accepted" (Pm (S_Contents_accepted K)) [] := by
  have nd := sc_Contents_accepted.nd
  refine metOf (k := 2) (S := (S_Contents_accepted K)) T.d_Contents_accepted T.c_Contents T.m_Contents_accepted sc_Contents_accepted (fun _ _ _ _ _ _ us hl => match us, hl with | [_, _], _ => rfl) (fun vs B M R ⟨_, _, _, _, e, _⟩ => by rw [e] <;> rfl) fun cdv A outer s H E hr => ?_
  have hu := hu_of hr
  refine ⟨_, (pss_one (ps_ret (pe_callTy call_list_of (by rfl) T.f_list (by decide +kernel) (pa_cons (pe_ix ix_tup (C8.pe_mt (ok_Contents_part_of T) hr (by decide) (pv 0) (pa_cons (pv 1) pa_nil)) pe_int (fun _ _ => rfl)) pa_nil)))), ?_⟩
  rintro vs B M R ⟨v, z, t, r, rfl, cv, hr1, hn, e, hw, k⟩
  obtain ⟨a, dx, d, vt, st, kvs, ys, vs, ss, rfl, h2, hh⟩ := id cv
  repeat trivial
  refine ⟨a, dx, _, rfl, h2, cNo .., ?_⟩
  repeat trivial
  refine ⟨_, z, t, r, rfl, cv, hr1, hn, e, hw, fun B1 q u us e1 g1 g2 g3 => ?_⟩
  repeat trivial
  refine wr_ixT (.of g1) (v := .ref u) (by rfl) ?_
  repeat trivial
  exact wc_listT (.of g2) fun p hp mp => k _ p us (e1.trans (exNew hp)) upd_same g3
def S_Contents_used (K : PySem.W.Frag) : Spc := fun vs B M R => ∃ (v : V) (z : Str) (t : Told) (r : Row), vs = [v, .str z] ∧ ContV K B v t ∧ r ∈ t.rows ∧ (t.rows.map Row.role).Nodup ∧ r.role = z ∧ Wd z ∧ ∀ (B1 : Hp), Ex B B1 → R (.str r.own) B1 M
theorem sc_Contents_used : FnScope ["self", "role"] ["self", "role"] (defScope (inClass (top 28) 7)) := ⟨rfl, rfl, rfl, by decide +kernel, rfl, by decide +kernel, by decide +kernel⟩
theorem ok_Contents_used (T : Tx K mg) : C8.Met P w K mg base 3 (He.ga K "Contents") "used" (Pm (S_Contents_used K)) [] := by
  have nd := sc_Contents_used.nd
  refine metOf (k := 2) (S := (S_Contents_used K)) T.d_Contents_used T.c_Contents T.m_Contents_used sc_Contents_used (fun _ _ _ _ _ _ us hl => match us, hl with | [_, _], _ => rfl) (fun vs B M R ⟨_, _, _, _, e, _⟩ => by rw [e] <;> rfl) fun cdv A outer s H E hr => ?_
  have hu := hu_of hr
  refine ⟨_, (pss_one (ps_ret (pe_ix ix_tup (C8.pe_mt (ok_Contents_part_of T) hr (by decide) (pv 0) (pa_cons (pv 1) pa_nil)) pe_int (fun _ _ => rfl)))), ?_⟩
  rintro vs B M R ⟨v, z, t, r, rfl, cv, hr1, hn, e, hw, k⟩
  obtain ⟨a, dx, d, vt, st, kvs, ys, vs, ss, rfl, h2, hh⟩ := id cv
  repeat trivial
  refine ⟨a, dx, _, rfl, h2, cNo .., ?_⟩
  repeat trivial
  refine ⟨_, z, t, r, rfl, cv, hr1, hn, e, hw, fun B1 q u us e1 g1 g2 g3 => ?_⟩
  repeat trivial
  refine wr_ixT (.of g1) (v := .str r.own) (by rfl) ?_
  exact k _ e1
def S_Contents_takes (K : PySem.W.Frag) : Spc := fun vs B M R => ∃ (v u : V) (t : Told) (o : Told), vs = [v, u] ∧ ContV K B v t ∧ ContV K B u o ∧ (o.sign.getD o.vouch).length ≤ 100 ∧ ∀ (B1 : Hp), Ex B B1 → R (.bl (takesM t o)) B1 M
theorem sc_Contents_takes : FnScope ["self", "other", "key"] ["self", "other"] (defScope (inClass (top 28) 11)) := ⟨rfl, rfl, rfl, by decide +kernel, rfl, by decide +kernel, by decide +kernel⟩
theorem ok_Contents_takes (T : Tx K mg) : C8.Met P w K mg base 1 (He.ga K "Contents") "takes" (Pm (S_Contents_takes K)) [] := by
  have nd := sc_Contents_takes.nd
  refine metOf (k := 0) (S := (S_Contents_takes K)) T.d_Contents_takes T.c_Contents T.m_Contents_takes sc_Contents_takes (fun _ _ _ _ _ _ us hl => match us, hl with | [_, _], _ => rfl) (fun vs B M R ⟨_, _, _, _, e, _⟩ => by rw [e] <;> rfl) fun cdv A outer s H E hr => ?_
  have hu := hu_of hr
  refine ⟨_, (pss_one (ps_ret (pe_cmpR op_ge (pe_callB call_len_seq (by rfl) T.f_len (by decide +kernel) (pa_cons (pe_lc (own := [("key", 2)]) (g := gName 2) rfl nd (pi_tup (pe_fld (pv 1) rfl)) (blkOk_by (own := [("key", 2)]) (N := ["self", "other", "key"]) (sc := defScope (inClass (top 28) 11)) (by decide +kernel)) (fun _ _ _ _ _ => (pg_name (i := 2) nd rfl (Or.inl rfl))) (fun _ _ _ _ _ => (pts_one (pt_cmpR (op_in_seqK (K := K) rfl) (pv 2) (pe_fldK (K := K) rfl (pv 0) rfl) (by with_unfolding_all rfl)))) (fun _ _ _ _ _ => (pv 2))) pa_nil)) (pe_fld (pv 0) rfl) (nomark _)))), ?_⟩
  rintro vs B M R ⟨v, u, t, o, rfl, ⟨a, dx, d, vt, st, kvs, ys, vs, ss, rfl, h2, h3, h4, h5, h6, h7, h8, h9, h10⟩, ⟨a2, dx2, d2, vt2, st2, kvs2, ys2, vs2, ss2, rfl, g2, g3, g4, g5, g6, g7, g8, g9, g10⟩, hl, k⟩
  repeat trivial
  refine w_lc (i_tup ?_)
  repeat trivial
  refine ⟨a2, _, dx2, _, _, rfl, .inl g2, T.c_Contents, T.n_Contents_own_signers, cL4 .., ?_⟩
  have hz : ss2.length ≤ 100 := by rw [g10.length_eq]; exact hl
  refine ⟨st2, _, rfl, .of g9, _, _, _, wb_tup (.of g9), by rw [List.length_map]; omega, fun i acc _ => acc = ((ss2.take i).filter fun z => decide (z ∈ vs)).map V.str, rfl, fun D hD hM => ⟨fun _ => True.intro, ?_, ?_⟩⟩
  · rintro i x acc B' B2 hi hl2 e2 rfl e3 hx
    rw [List.getElem?_map] at hx
    obtain ⟨z, hz, rfl⟩ := Option.map_eq_some_iff.mp hx
    have e4 := e2.trans e3
    have et : ss2.take (i + 1) = ss2.take i ++ [z] := by rw [List.take_add_one, hz] <;> rfl
    repeat trivial
    refine ⟨a, _, dx, _, _, rfl, .inl (e4 _ _ h2), T.c_Contents, T.n_Contents_own_vouchers, cL2 .., ?_⟩
    refine wr_inT (.of (e4 _ _ h7)) rfl flat_str ?_
    rw [inV_str]
    repeat trivial
    refine bD (fun hm => ?_) fun hm => ?_
    all_goals repeat trivial
    · refine ⟨rfl, Ex.refl _, ?_⟩
      show _ = List.map V.str (List.filter _ (ss2.take (i + 1)))
      rw [et, List.filter_append, List.map_append]
      simp [hm]
    · refine ⟨rfl, Ex.refl _, ?_⟩
      show _ = List.map V.str (List.filter _ (ss2.take (i + 1)))
      rw [et, List.filter_append, List.map_append]
      simp [hm]
  · rintro acc B' e2 nD hl2 rfl
    rw [List.length_map, List.take_length]
    repeat trivial
    have e3 := exNew (o := .lst ((ss2.filter fun z => decide (z ∈ vs)).map V.str)) nD
    refine wc_lenL (.of upd_same) ?_
    repeat trivial
    refine ⟨a, _, dx, _, _, rfl, .inl (e3 _ _ (e2 _ _ h2)), T.c_Contents, T.n_Contents_own_needed, cL3 .., ?_⟩
    repeat trivial
    have ef : (ss2.filter fun z => decide (z ∈ vs)).length = ((o.sign.getD o.vouch).filter fun z => decide (z ∈ t.vouch)).length := by
      rw [(g10.filter _).length_eq]
      congr 2
      funext z
      rw [decide_eq_decide]
      exact h8.mem_iff
    have er : decide (((t.least : Nat) : Int) ≤ ((((ss2.filter fun z => decide (z ∈ vs)).map V.str).length : Nat) : Int)) = takesM t o := by
      rw [List.length_map, ef]
      unfold takesM
      rw [decide_eq_decide]
      omega
    rw [er]
    exact k _ (e2.trans e3)
end
end Ab
/-! ## D7 -/
set_option Elab.async false
set_option linter.all false
set_option maxRecDepth 100000
set_option maxHeartbeats 4000000
namespace Ab
open PySem L2 PyProof.Rows
open Evl (Ex)
local macro_rules | `(tactic| trivial) => `(tactic| first
  | ((with_reducible apply w_var); exact rfl)
  | with_reducible refine w_c ?_ | with_reducible refine w_cons ?_ | with_reducible refine w_nil ?_ | with_reducible refine w_op ?_ | with_reducible refine w_cb ?_ | with_reducible refine w_call ?_ | with_reducible refine w_test ?_ | with_reducible refine w_B ?_
  | with_reducible refine bX ?_ | with_reducible refine bT ?_ | with_reducible refine bF ?_ | with_reducible refine zN ?_ | with_reducible refine zI ?_ | with_reducible refine zS ?_ | with_reducible refine zR ?_ | with_reducible refine zN' ?_ | with_reducible refine zI' ?_ | with_reducible refine zS' ?_ | with_reducible refine zR' ?_ | with_reducible refine bnT ?_ | with_reducible refine bnF ?_ | with_reducible refine w_and ?_ | with_reducible refine w_or ?_ | with_reducible refine w_not ?_ | with_reducible refine w_andV ?_ | with_reducible refine w_orV ?_
  | with_reducible refine w_notV ?_ | with_reducible refine w_if ?_ | with_reducible refine w_chain ?_ | with_reducible refine w_un ?_ | with_reducible refine wr_I0 ?_ | with_reducible refine wu_I ?_ | with_reducible refine wr_isN ?_ | with_reducible refine wr_notN ?_
  | with_reducible refine wr_eq rfl ?_ | with_reducible refine wr_ne rfl ?_ | with_reducible refine w_yes ?_ | with_reducible refine w_tup ?_ | with_reducible refine w_lst ?_ | with_reducible refine s_ret ?_ | with_reducible refine s_retN ?_
  | with_reducible refine s_seq ?_ | with_reducible refine s_if ?_ | with_reducible refine s_set ?_ | with_reducible refine s_drop ?_ | with_reducible refine s_next ?_ | with_reducible refine s_par ?_ | with_reducible refine s_par3 ?_ | with_reducible refine s_asg ?_
  | with_reducible refine g_name ?_ | with_reducible refine gs_nil ?_ | with_reducible refine gs_cons ?_ | with_reducible refine wi_int_int ?_ | with_reducible refine wi_int_bool ?_ | with_reducible refine wi_str_str ?_ | with_reducible refine w_fld ?_ | with_reducible refine w_meth ?_ | with_reducible refine w_prop ?_ | with_reducible refine w_dget ?_ | with_reducible refine w_din ?_ | with_reducible refine w_dnin ?_ | with_reducible refine s_fld ?_ | with_reducible refine w_sl ?_ | with_reducible refine s_app ?_ | with_reducible refine w_part ?_
  | with_reducible refine w_noPart ?_ | with_reducible refine iX ?_)

section
variable {P : Program} {w : World} {K : PySem.W.Frag} {mg : Str → Option Value} {base : Heap}
theorem Tx.s_Contents (T : Tx K mg) : C8.InsC K (He.ga K "Contents") := insB_ok T.c_Contents (T.ex 0 (by rfl))
theorem Tx.s_Plan (T : Tx K mg) : C8.InsC K (He.ga K "Plan") := insB_ok T.c_Plan (T.ex 1 (by rfl))
theorem Tx.s_Range (T : Tx K mg) : C8.InsC K (He.ga K "Range") := insB_ok T.c_Range (T.ex 2 (by rfl))
theorem Tx.s_Kind (T : Tx K mg) : C8.InsC K (He.ga K "Kind") := insB_ok T.c_Kind (T.ex 3 (by rfl))
/-! sorted texts -/
theorem pairw_of_rising : ∀ (l : List Str) (p : Str), risingS p l = true → (p :: l).Pairwise fun a b => a.cps.toList ≤ b.cps.toList
  | [], p, _ => by simp
  | x :: r, p, h => by
    have h2 : (!Spec.ltCps x.cps.toList p.cps.toList && risingS x r) = true := h
    rw [Bool.and_eq_true, ltCps_eq, Bool.not_eq_true', decide_eq_false_iff_not] at h2
    have le1 : p.cps.toList ≤ x.cps.toList := h2.1
    have ih := pairw_of_rising r x h2.2
    refine List.pairwise_cons.mpr ⟨fun y hy => ?_, ih⟩
    rcases List.mem_cons.mp hy with rfl | hy
    · exact le1
    · exact List.le_trans le1 ((List.pairwise_cons.mp ih).1 y hy)
theorem pairw_of_sorted : ∀ {l : List Str}, sortedS l = true → l.Pairwise fun a b => a.cps.toList ≤ b.cps.toList
  | [], _ => .nil
  | x :: r, h => pairw_of_rising r x h
theorem str_ext {a b : Str} (h : a.cps.toList = b.cps.toList) : a = b := by
  cases a
  cases b
  congr
  exact Array.toList_inj.mp h
theorem sorted_uniq {l m : List Str} (h : sortedS l = true) (h' : sortedS m = true) (p : l.Perm m) : l = m :=
  List.Perm.eq_of_pairwise (fun a b _ _ h1 h2 => str_ext (List.le_antisymm h1 h2)) (pairw_of_sorted h) (pairw_of_sorted h') p
/-! flat data -/
theorem strOk_wd {z : Str} (h : Wd z) : PyData.strOk z = true := by
  unfold PyData.strOk
  rw [Array.all_eq_true_iff_forall_mem]
  intro c hc
  have h1 := h.2.2 c (Array.mem_toList_iff.mpr hc)
  have h2 : ∀ c ∈ letters, c < 0x110000 := by decide +kernel
  exact decide_eq_true (h2 c h1)
theorem dpAll_str {B : Hp} : ∀ ws : List Str, DpAll K B (ws.map V.str) (ws.map PyData.str)
  | [] => .nil
  | w :: ws => .cons (.str w) (dpAll_str ws)
theorem dp_strs {B : Hp} {p : Addr} {ws : List Str} (h : B p = some (.lst (ws.map V.str))) : Dp K B (.ref p) (.list (ws.map PyData.str)) := .lst (.of h) (dpAll_str ws)
theorem canLay_strs : ∀ {ws : List Str}, (∀ z ∈ ws, Wd z) → PyData.canLayAll0 (ws.map PyData.str) = true
  | [], _ => rfl
  | w :: ws, h => by
    rw [List.map_cons, PyData.canLayAll0, PyData.canLay0, strOk_wd (h w (List.mem_cons_self ..)), canLay_strs fun z hz => h z (List.mem_cons_of_mem _ hz)]
    rfl
theorem depth_strs : ∀ {ws : List Str}, PyData.depthAll (ws.map PyData.str) = 0
  | [] => rfl
  | w :: ws => by
    rw [List.map_cons, PyData.depthAll, depth_strs]
    rfl
theorem shaped_strs {ws : List Str} (h : ∀ z ∈ ws, Wd z) : SeqAt.shaped (.list (ws.map PyData.str)) = true := by
  unfold SeqAt.shaped
  rw [PyData.canLay0, canLay_strs h, PyData.depth, depth_strs]
  rfl
theorem ContV.addr {B : Hp} {v : V} {t : Told} (h : ContV K B v t) : ∃ a dx, v = .ref a ∧ ∃ fs, B a = some (.ins (He.ga K "Contents") dx fs) := by
  obtain ⟨a, dx, d, vt, st, kvs, ys, vs, ss, h1, h2, _⟩ := h
  exact ⟨a, dx, h1, _, h2⟩
/-! ### plans -/
def EdV (K : PySem.W.Frag) (B : Hp) (v : V) (e : Int × Told) : Prop := ∃ (a : Addr) (c : V), v = .ref a ∧ B a = some (.tup [.int e.1, c]) ∧ ContV K B c e.2
theorem EdV.ex {B B' : Hp} {v : V} {e : Int × Told} (x : Ex B B') (h : EdV K B v e) : EdV K B' v e := by
  obtain ⟨a, c, h1, h2, h3⟩ := h
  exact ⟨a, c, h1, x _ _ h2, h3.ex x⟩
structure EdsOk (es : List (Int × Told)) : Prop where
  few : 1 ≤ es.length
  most : es.length ≤ 7
  mom : ∀ e ∈ es, 0 ≤ e.1 ∧ e.1 ≤ 10 ^ 40
  inc : ∀ (i : Nat) (e f : Int × Told), es[i]? = some e → es[i + 1]? = some f → e.1 < f.1
  roles : ∀ e ∈ es, ∀ f ∈ es, e.2.rows.map Row.role = f.2.rows.map Row.role
  told : ∀ e ∈ es, ToldOk e.2
def PlanV (K : PySem.W.Frag) (B : Hp) (v : V) (es : List (Int × Told)) : Prop := ∃ (a dx tp : Addr) (vs : List V), v = .ref a ∧ B a = some (.ins (He.ga K "Plan") dx [("editions", .ref tp)]) ∧ B tp = some (.tup vs) ∧ Paired (EdV K B) vs es
theorem PlanV.ex {B B' : Hp} {v : V} {es : List (Int × Told)} (x : Ex B B') (h : PlanV K B v es) : PlanV K B' v es := by
  obtain ⟨a, dx, tp, vs, h1, h2, h3, h4⟩ := h
  exact ⟨a, dx, tp, vs, h1, x _ _ h2, x _ _ h3, f2_mono (fun _ _ => EdV.ex x) h4⟩
theorem atN {α : Type} {xs : List α} {i : Nat} {v : α} (h : xs[i]? = some v) : atI xs (i : Int) = some v := atI_nat h
theorem f2_at {α β : Type} {p : α → β → Prop} : ∀ {l : List α} {m : List β} {i : Nat} {y : β}, Paired p l m → m[i]? = some y → ∃ x, l[i]? = some x ∧ p x y
  | _, _, _, _, .nil, h => by simp at h
  | _, _, 0, _, .cons r _, h => by
    simp at h
    subst h
    exact ⟨_, rfl, r⟩
  | _, _, i + 1, y, .cons _ t, h => by
    obtain ⟨x, h1, h2⟩ := f2_at (i := i) (y := y) t (by simpa using h)
    exact ⟨x, by simpa using h1, h2⟩
def S_is_edition (K : PySem.W.Frag) : Spc := fun vs B M R => ∃ (v : V) (e : Int × Told), vs = [v] ∧ EdV K B v e ∧ 0 ≤ e.1 ∧ e.1 ≤ 10 ^ 40 ∧ R (.bl true) B M
theorem sc_is_edition : FnScope ["value"] ["value"] (defScope (top 31)) := ⟨rfl, rfl, rfl, by decide +kernel, rfl, by decide +kernel, by decide +kernel⟩
theorem ok_is_edition (T : Tx K mg) : C8.Cal P w K mg base 3 "is_edition" (Pm (S_is_edition K)) [] := by
  have nd := sc_is_edition.nd
  refine calOf (k := 2) (S := (S_is_edition K)) T.d_is_edition T.g_is_edition sc_is_edition (fun _ _ _ _ _ _ us hl => match us, hl with | [_], _ => rfl) (fun vs B M R ⟨_, _, e, _⟩ => by rw [e] <;> rfl) fun cdv A outer s H E hr => ?_
  have hu := hu_of hr
  refine ⟨_, (pss_cons (ps_if ((pw_or (pt_not (pt_val (pe_callB call_isi (by rfl) T.f_isinstance (by decide +kernel) (pa_cons (pv 0) (pa_cons (pe_ty "tuple" (by rfl) T.f_tuple (by decide +kernel)) pa_nil))))) (pw_or1 (pt_cmpR op_ne (pe_callB call_len_seq (by rfl) T.f_len (by decide +kernel) (pa_cons (pv 0) pa_nil)) pe_int (nomark _))))).pt
      (pss_one (ps_ret pe_bl))
      pss_nil)
    (pss_one (ps_ret (pe_and (C8.pe_c (ok_is_moment T) hr (by decide) (by rfl) (pa_cons (pe_ix ix_tup (pv 0) pe_int (fun _ _ => rfl)) pa_nil)) (pe_one (pe_callB (C8.call_isC T.s_Contents) (by rfl) T.f_isinstance (by decide +kernel) (pa_cons (pe_ix ix_tup (pv 0) pe_int (fun _ _ => rfl)) (pa_cons (pe_cls (by rfl) T.g_Contents) pa_nil)))))))), ?_⟩
  rintro vs B M R ⟨v, e, rfl, ⟨a, c, rfl, h2, h3⟩, h4, h5, k⟩
  obtain ⟨ca, dx, d, vt, st, kvs, ys, vs, ss, rfl, g2, hh⟩ := h3
  repeat trivial
  refine wi_tup_tup (.of h2) ?_
  repeat trivial
  refine wc_lenT (.of h2) ?_
  repeat trivial
  refine bF ?_
  repeat trivial
  refine wr_ixT (.of h2) (v := .int e.1) (by rfl) ?_
  repeat trivial
  refine ⟨_, rfl, ?_⟩
  rw [decide_eq_true ⟨h4, h5⟩]
  repeat trivial
  refine wr_ixT (.of h2) (v := .ref ca) (by rfl) ?_
  repeat trivial
  exact wc_isC g2 k
def S_follows (K : PySem.W.Frag) : Spc := fun vs B M R => ∃ (a : Addr) (us : List V) (es : List (Int × Told)) (i : Nat), vs = [.ref a, .int i] ∧ B a = some (.lst us) ∧ Paired (EdV K B) us es ∧ EdsOk es ∧ i < es.length ∧ ∀ B1, Ex B B1 → R (.bl true) B1 M
theorem sc_follows : FnScope ["editions", "number"] ["editions", "number"] (defScope (top 32)) := ⟨rfl, rfl, rfl, by decide +kernel, rfl, by decide +kernel, by decide +kernel⟩
theorem ok_follows (T : Tx K mg) : C8.Cal P w K mg base 4 "follows" (Pm (S_follows K)) [] := by
  have nd := sc_follows.nd
  refine calOf (k := 3) (S := (S_follows K)) T.d_follows T.g_follows sc_follows (fun _ _ _ _ _ _ us hl => match us, hl with | [_, _], _ => rfl) (fun vs B M R ⟨_, _, _, _, e, _⟩ => by rw [e] <;> rfl) fun cdv A outer s H E hr => ?_
  have hu := hu_of hr
  refine ⟨_, (pss_cons (ps_if (pt_not (pt_val (C8.pe_c (ok_is_edition T) hr (by decide) (by rfl) (pa_cons (pe_ix ix_list (pv 0) (pv 1) (fun _ _ => rfl)) pa_nil))))
      (pss_one (ps_ret pe_bl))
      pss_nil)
    (pss_cons (ps_if (pt_cmpR op_eq (pv 1) pe_int (nomark _))
      (pss_one (ps_ret pe_bl))
      pss_nil)
    (pss_one (ps_ret (pe_and (pe_cmpR op_gt (pe_ix ix_tup (pe_ix ix_list (pv 0) (pv 1) (fun _ _ => rfl)) pe_int (fun _ _ => rfl)) (pe_ix ix_tup (pe_ix ix_list (pv 0) (pe_op op_sub (pv 1) pe_int) (fun _ _ => rfl)) pe_int (fun _ _ => rfl)) (nomark _)) (pe_one (pe_cmpR (op_eqD hr.units) (pe_pr (ok_Contents_roles T) hr (by decide) (pe_ix ix_tup (pe_ix ix_list (pv 0) (pv 1) (fun _ _ => rfl)) pe_int (fun _ _ => rfl))) (pe_pr (ok_Contents_roles T) hr (by decide) (pe_ix ix_tup (pe_ix ix_list (pv 0) pe_int (fun _ _ => rfl)) pe_int (fun _ _ => rfl))) (nomark _)))))))), ?_⟩
  rintro vs B M R ⟨a, us, es, i, rfl, ha, hp, ok, hi, k⟩
  obtain ⟨v, hv, ev⟩ := f2_at hp (List.getElem?_eq_getElem hi)
  have me : es[i] ∈ es := List.getElem_mem hi
  have mo := ok.mom _ me
  repeat trivial
  refine wr_ixL (.of ha) (atN hv) ?_
  repeat trivial
  refine ⟨v, es[i], rfl, ev, mo.1, mo.2, ?_⟩
  repeat trivial
  refine bD (fun h => ?_) fun h => ?_
  · repeat trivial
    exact k _ (Ex.refl _)
  have i0 : i ≠ 0 := fun z => h (by rw [z] <;> rfl)
  obtain ⟨j, rfl⟩ : ∃ j, i = j + 1 := ⟨i - 1, by omega⟩
  have hj : j < es.length := by omega
  obtain ⟨v0, hv0, ev0⟩ := f2_at hp (List.getElem?_eq_getElem hj)
  have h0 : 0 < es.length := by omega
  obtain ⟨v1, hv1, ev1⟩ := f2_at hp (List.getElem?_eq_getElem h0)
  obtain ⟨t, c, rfl, ht, hc⟩ := ev
  obtain ⟨t0, c0, rfl, ht0, hc0⟩ := ev0
  obtain ⟨t1, c1, rfl, ht1, hc1⟩ := ev1
  repeat trivial
  refine wr_ixL (.of ha) (atN hv) ?_
  repeat trivial
  refine wr_ixT (.of ht) (v := .int es[j + 1].1) (by rfl) ?_
  repeat trivial
  rw [show (((j + 1 : Nat) : Int) - 1) = (j : Int) by omega]
  refine wr_ixL (.of ha) (atN hv0) ?_
  repeat trivial
  refine wr_ixT (.of ht0) (v := .int es[j].1) (by rfl) ?_
  repeat trivial
  refine bD (fun _ => ?_) fun z => absurd (ok.inc j _ _ (List.getElem?_eq_getElem hj) (List.getElem?_eq_getElem hi)) z
  repeat trivial
  refine wr_ixL (.of ha) (atN hv) ?_
  repeat trivial
  refine wr_ixT (.of ht) (v := c) (by rfl) ?_
  obtain ⟨ca, dx, hca⟩ := ContV.addr hc
  obtain ⟨ca1, dx1, hca1⟩ := ContV.addr hc1
  refine ⟨ca, dx, _, hca.1, hca.2.choose_spec, ?_⟩
  refine ⟨_, _, rfl, hca.1 ▸ hc, fun ys p B1 e1 py sy hp1 => ?_⟩
  repeat trivial
  refine wr_ixL (.of (e1 _ _ ha)) (atN (i := 0) hv1) ?_
  repeat trivial
  refine wr_ixT (.of (e1 _ _ ht1)) (v := c1) (by rfl) ?_
  refine ⟨ca1, dx1, _, hca1.1, e1 _ _ hca1.2.choose_spec, ?_⟩
  refine ⟨_, _, rfl, hca1.1 ▸ hc1.ex e1, fun ys1 p1 B2 e2 py1 sy1 hp2 => ?_⟩
  have m0 : es[0] ∈ es := List.getElem_mem h0
  have ey : ys1 = ys := sorted_uniq sy1 sy (py1.trans (by rw [ok.roles _ m0 _ me]; exact py.symm))
  subst ey
  have wd : ∀ z ∈ ys1, Wd z := fun z hz => by
    obtain ⟨r, hr1, rfl⟩ := List.mem_map.mp (py.mem_iff.mp hz)
    exact ((ok.told _ me).rows r hr1).role
  refine wr_eqD (dp_strs (e2 _ _ hp1)) (dp_strs hp2) (shaped_strs wd) (shaped_strs wd) ?_
  rw [SeqAt.eqv_refl _ (SeqAt.canLay_of_shaped (shaped_strs wd))]
  exact k _ (e1.trans e2)
end
end Ab
/-! ## D8 -/
set_option Elab.async false
set_option linter.all false
set_option maxRecDepth 100000
set_option maxHeartbeats 4000000
namespace Ab
open PySem L2 PyProof.Rows
open Evl (Ex)
local macro_rules | `(tactic| trivial) => `(tactic| first
  | ((with_reducible apply w_var); exact rfl)
  | with_reducible refine w_c ?_ | with_reducible refine w_cons ?_ | with_reducible refine w_nil ?_ | with_reducible refine w_op ?_ | with_reducible refine w_cb ?_ | with_reducible refine w_call ?_ | with_reducible refine w_test ?_ | with_reducible refine w_B ?_
  | with_reducible refine bX ?_ | with_reducible refine bT ?_ | with_reducible refine bF ?_ | with_reducible refine zN ?_ | with_reducible refine zI ?_ | with_reducible refine zS ?_ | with_reducible refine zR ?_ | with_reducible refine zN' ?_ | with_reducible refine zI' ?_ | with_reducible refine zS' ?_ | with_reducible refine zR' ?_ | with_reducible refine bnT ?_ | with_reducible refine bnF ?_ | with_reducible refine w_and ?_ | with_reducible refine w_or ?_ | with_reducible refine w_not ?_ | with_reducible refine w_andV ?_ | with_reducible refine w_orV ?_
  | with_reducible refine w_notV ?_ | with_reducible refine w_if ?_ | with_reducible refine w_chain ?_ | with_reducible refine w_un ?_ | with_reducible refine wr_I0 ?_ | with_reducible refine wu_I ?_ | with_reducible refine wr_isN ?_ | with_reducible refine wr_notN ?_
  | with_reducible refine wr_eq rfl ?_ | with_reducible refine wr_ne rfl ?_ | with_reducible refine w_yes ?_ | with_reducible refine w_tup ?_ | with_reducible refine w_lst ?_ | with_reducible refine s_ret ?_ | with_reducible refine s_retN ?_
  | with_reducible refine s_seq ?_ | with_reducible refine s_if ?_ | with_reducible refine s_set ?_ | with_reducible refine s_drop ?_ | with_reducible refine s_next ?_ | with_reducible refine s_par ?_ | with_reducible refine s_par3 ?_ | with_reducible refine s_asg ?_
  | with_reducible refine g_name ?_ | with_reducible refine gs_nil ?_ | with_reducible refine gs_cons ?_ | with_reducible refine wi_int_int ?_ | with_reducible refine wi_int_bool ?_ | with_reducible refine wi_str_str ?_ | with_reducible refine w_fld ?_ | with_reducible refine w_meth ?_ | with_reducible refine w_prop ?_ | with_reducible refine w_make ?_ | with_reducible refine w_makeK ?_ | with_reducible refine w_callN ?_ | with_reducible refine w_dget ?_ | with_reducible refine w_din ?_ | with_reducible refine w_dnin ?_ | with_reducible refine s_fld ?_ | with_reducible refine w_sl ?_ | with_reducible refine s_app ?_ | with_reducible refine w_part ?_
  | with_reducible refine w_noPart ?_ | with_reducible refine iX ?_)

section
variable {P : Program} {w : World} {K : PySem.W.Frag} {mg : Str → Option Value} {base : Heap}
theorem EdsOk.take {es : List (Int × Told)} (h : EdsOk es) {n : Nat} (hn : 1 ≤ n) : EdsOk (es.take n) := by
  have mem : ∀ e ∈ es.take n, e ∈ es := fun e he => List.mem_of_mem_take he
  refine ⟨by rw [List.length_take]; have := h.few; omega, by rw [List.length_take]; have := h.most; omega, fun e he => h.mom e (mem e he), fun i e f h1 h2 => ?_, fun e he f hf => h.roles e (mem e he) f (mem f hf), fun e he => h.told e (mem e he)⟩
  rw [List.getElem?_take] at h1 h2
  by_cases c : i + 1 < n
  · rw [if_pos (by omega)] at h1
    rw [if_pos c] at h2
    exact h.inc i e f h1 h2
  · rw [if_neg c] at h2
    cases h2
theorem f2_take {α β : Type} {p : α → β → Prop} : ∀ {l : List α} {m : List β} (n : Nat), Paired p l m → Paired p (l.take n) (m.take n)
  | _, _, 0, _ => .nil
  | _, _, _ + 1, .nil => .nil
  | _, _, n + 1, .cons r t => .cons r (f2_take n t)
theorem cut_to {xs : List V} {n : Nat} (h : n ≤ xs.length) : cutV xs none (some (n : Int)) = xs.take n := by
  unfold cutV HT.sIx
  simp [show ¬ ((n : Int) < 0) by omega, Nat.min_eq_left h]
def S_check_editions (K : PySem.W.Frag) : Spc := fun vs B M R => ∃ (a : Addr) (us : List V) (es : List (Int × Told)), vs = [.ref a] ∧ B a = some (.lst us) ∧ Paired (EdV K B) us es ∧ EdsOk es ∧ ∀ B1, Ex B B1 → R .non B1 M
theorem sc_check_editions : FnScope ["editions", "number"] ["editions"] (defScope (top 33)) := ⟨rfl, rfl, rfl, by decide +kernel, rfl, by decide +kernel, by decide +kernel⟩
theorem ok_check_editions (T : Tx K mg) : C8.Cal P w K mg base 5 "check_editions" (Pm (S_check_editions K)) [] := by
  have nd := sc_check_editions.nd
  refine calOf (k := 4) (S := (S_check_editions K)) T.d_check_editions T.g_check_editions sc_check_editions (fun _ _ _ _ _ _ us hl => match us, hl with | [_], _ => rfl) (fun vs B M R ⟨_, _, _, e, _⟩ => by rw [e] <;> rfl) fun cdv A outer s H E hr => ?_
  have hu := hu_of hr
  refine ⟨_, (pss_one (ps_for PassesOwn.never rfl (pi_range1 (by rfl) T.f_range (pa_cons (pe_callB call_len_seq (by rfl) T.f_len (by decide +kernel) (pa_cons (pv 0) pa_nil)) pa_nil)) (pg_name (i := 1) nd rfl (Or.inl rfl))
      (pss_one (ps_if (pt_not (pt_val (C8.pe_c (ok_follows T) hr (by decide) (by rfl) (pa_cons (pv 0) (pa_cons (pv 1) pa_nil)))))
        (pss_one ps_never)
        pss_nil)))), ?_⟩
  rintro vs B M R ⟨a, us, es, rfl, ha, hp, ok, k⟩
  have hl := f2_len hp
  have hm := ok.most
  refine s_for (i_rng1 ?_)
  repeat trivial
  refine wc_lenL (.of ha) ?_
  repeat trivial
  refine ⟨_, rfl, by omega, by omega, _, _, _, wb_range, fun i σ' B' M' => (∃ x, σ' = [some (.ref a), x]) ∧ Ex B B' ∧ M' = M, ⟨⟨_, rfl⟩, Ex.refl _, rfl⟩, fun i σ' B' M' _ h => ⟨h.2.1, True.intro⟩, ?_, fun σ' B' M' ⟨_, e, eM⟩ => by rw [eM]; exact k B' e⟩
  rintro i x σ' B' M' B2 hi ⟨⟨y, rfl⟩, e1, rfl⟩ e2 rfl
  have e3 := e1.trans e2
  repeat trivial
  rw [show (0 : Int) + (i : Nat) = (i : Nat) by omega]
  refine ⟨a, us, es, i, rfl, e3 _ _ ha, f2_mono (fun _ _ => EdV.ex e3) hp, ok, by omega, fun B3 e4 => ?_⟩
  repeat trivial
  exact ⟨⟨_, rfl⟩, e3.trans e4, rfl⟩
def S_Plan___init__ (K : PySem.W.Frag) : Spc := fun vs B M R => ∃ (x a dx : Addr) (M0 : Mu) (us : List V) (es : List (Int × Told)), vs = [.ref x, .ref a] ∧ M = updM M0 x (is (.ins (He.ga K "Plan") dx [])) ∧ M0 x = none ∧
  B a = some (.lst us) ∧ Paired (EdV K B) us es ∧ EdsOk es ∧ ∀ B1, Ex B B1 → PlanV K B1 (.ref x) es → R .non B1 M0
theorem sc_Plan___init__ : FnScope ["self", "editions"] ["self", "editions"] (defScope (inClass (top 34) 0)) := ⟨rfl, rfl, rfl, by decide +kernel, rfl, by decide +kernel, by decide +kernel⟩
theorem ok_Plan___init__ (T : Tx K mg) : C8.Mak P w K mg base 6 "Plan" (He.ga K "Plan") (Pm (S_Plan___init__ K)) [] := by
  have nd := sc_Plan___init__.nd
  refine makOf (k := 5) (S := (S_Plan___init__ K)) T.d_Plan___init__ T.k_Plan T.g_Plan sc_Plan___init__ (fun _ _ _ _ _ _ us hl => match us, hl with | [_, _], _ => rfl) (fun vs B M R ⟨_, _, _, _, _, _, e, _⟩ => by rw [e] <;> rfl) fun cdv A outer s H E hr => ?_
  have hu := hu_of hr
  refine ⟨_, (pss_cons (ps_if ((pw_or (pt_not (pt_val (pe_callB call_isi (by rfl) T.f_isinstance (by decide +kernel) (pa_cons (pv 1) (pa_cons (pe_ty "list" (by rfl) T.f_list (by decide +kernel)) pa_nil))))) (pw_or1 (pt_not (pt_chain op_le op_le pe_int (pe_callB call_len_seq (by rfl) T.f_len (by decide +kernel) (pa_cons (pv 1) pa_nil)) (C8.pe_gc (by rfl) T.i_MOST_EDITIONS)))))).pt
      (pss_one ps_never)
      pss_nil)
    (pss_cons (ps_expr (C8.pe_c (ok_check_editions T) hr (by decide) (by rfl) (pa_cons (pv 1) pa_nil)))
    (pss_one (ps_fld (pv 0) (pe_callTy call_tuple_of (by rfl) T.f_tuple (by decide +kernel) (pa_cons (pv 1) pa_nil)) rfl)))), ?_⟩
  rintro vs B M R ⟨x, a, dx, M0, us, es, rfl, rfl, nx, ha, hp, ok, k⟩
  have hl := f2_len hp
  have hm := ok.most
  have hf := ok.few
  refine wS.postO ?_
  repeat trivial
  refine wi_lst_lst (.of ha) ?_
  repeat trivial
  refine wc_lenL (.of ha) ?_
  repeat trivial
  refine bD (fun _ => ?_) fun h => absurd (by omega) h
  repeat trivial
  refine bN (fun _ => ?_) fun h => absurd (by omega) h
  repeat trivial
  refine ⟨a, us, es, rfl, ha, hp, ok, fun B1 e1 => ?_⟩
  repeat trivial
  refine wc_tupL (.of (e1 _ _ ha)) fun p hp1 mp => ?_
  repeat trivial
  refine ⟨x, _, dx, [], rfl, updM_same, T.c_Plan, T.n_Plan_editions, by decide, ?_⟩
  intro ok0
  rw [updM_updM] at ok0 ⊢
  have n1 := Ok.out ok0 updM_same
  have e2 := exNew (o := .tup us) hp1
  have e3 := exNew (o := .ins (He.ga K "Plan") dx [("editions", .ref p)]) n1
  exact ⟨_, M0, fun H kk => kk.freeze' nx, k _ ((e1.trans e2).trans e3) ⟨x, dx, p, us, rfl, upd_same, e3 _ _ upd_same, f2_mono (fun _ _ => EdV.ex ((e1.trans e2).trans e3)) hp⟩⟩
def S_Plan___len__ (K : PySem.W.Frag) : Spc := fun vs B M R => ∃ (v : V) (es : List (Int × Told)), vs = [v] ∧ PlanV K B v es ∧ R (.int (es.length : Nat)) B M
theorem sc_Plan___len__ : FnScope ["self"] ["self"] (defScope (inClass (top 34) 1)) := ⟨rfl, rfl, rfl, by decide +kernel, rfl, by decide +kernel, by decide +kernel⟩
theorem ok_Plan___len__ (T : Tx K mg) : C8.Met P w K mg base 1 (He.ga K "Plan") "__len__" (Pm (S_Plan___len__ K)) [] := by
  have nd := sc_Plan___len__.nd
  refine metOf (k := 0) (S := (S_Plan___len__ K)) T.d_Plan___len__ T.c_Plan T.m_Plan___len__ sc_Plan___len__ (fun _ _ _ _ _ _ us hl => match us, hl with | [_], _ => rfl) (fun vs B M R ⟨_, _, e, _⟩ => by rw [e] <;> rfl) fun cdv A outer s H E hr => ?_
  have hu := hu_of hr
  refine ⟨_, (pss_one (ps_ret (pe_callB call_len_seq (by rfl) T.f_len (by decide +kernel) (pa_cons (pe_fld (pv 0) rfl) pa_nil)))), ?_⟩
  rintro vs B M R ⟨v, es, rfl, ⟨a, dx, tp, us, rfl, h2, h3, h4⟩, k⟩
  repeat trivial
  refine ⟨a, _, dx, _, _, rfl, .inl h2, T.c_Plan, T.n_Plan_editions, lk_here, ?_⟩
  repeat trivial
  refine wc_lenT (.of h3) ?_
  rw [f2_len h4]
  exact k
def S_Plan_check (K : PySem.W.Frag) : Spc := fun vs B M R => ∃ (v : V) (es : List (Int × Told)) (i : Nat), vs = [v, .int i] ∧ PlanV K B v es ∧ i < es.length ∧ R .non B M
theorem sc_Plan_check : FnScope ["self", "number"] ["self", "number"] (defScope (inClass (top 34) 4)) := ⟨rfl, rfl, rfl, by decide +kernel, rfl, by decide +kernel, by decide +kernel⟩
theorem ok_Plan_check (T : Tx K mg) : C8.Met P w K mg base 2 (He.ga K "Plan") "check" (Pm (S_Plan_check K)) [] := by
  have nd := sc_Plan_check.nd
  refine metOf (k := 1) (S := (S_Plan_check K)) T.d_Plan_check T.c_Plan T.m_Plan_check sc_Plan_check (fun _ _ _ _ _ _ us hl => match us, hl with | [_, _], _ => rfl) (fun vs B M R ⟨_, _, _, e, _⟩ => by rw [e] <;> rfl) fun cdv A outer s H E hr => ?_
  have hu := hu_of hr
  refine ⟨_, (pss_one (ps_if (pt_not (pt_val (C8.pe_c (ok_is_between T) hr (by decide) (by rfl) (pa_cons (pv 1) (pa_cons pe_int (pa_cons (pe_op op_sub (pe_callB call_len_seq (by rfl) T.f_len (by decide +kernel) (pa_cons (pe_fld (pv 0) rfl) pa_nil)) pe_int) pa_nil))))))
      (pss_one ps_never)
      pss_nil)), ?_⟩
  rintro vs B M R ⟨v, es, i, rfl, ⟨a, dx, tp, us, rfl, h2, h3, h4⟩, hi, k⟩
  repeat trivial
  refine ⟨a, _, dx, _, _, rfl, .inl h2, T.c_Plan, T.n_Plan_editions, lk_here, ?_⟩
  repeat trivial
  refine wc_lenT (.of h3) ?_
  repeat trivial
  refine ⟨_, _, _, rfl, ?_⟩
  rw [decide_eq_true ⟨by omega, by rw [f2_len h4]; omega⟩]
  repeat trivial
def S_Plan_contents_of (K : PySem.W.Frag) : Spc := fun vs B M R => ∃ (v : V) (es : List (Int × Told)) (i : Nat), vs = [v, .int i] ∧ PlanV K B v es ∧ ∃ e, es[i]? = some e ∧ ∀ c, ContV K B c e.2 → R c B M
theorem sc_Plan_contents_of : FnScope ["self", "number"] ["self", "number"] (defScope (inClass (top 34) 8)) := ⟨rfl, rfl, rfl, by decide +kernel, rfl, by decide +kernel, by decide +kernel⟩
theorem ok_Plan_contents_of (T : Tx K mg) : C8.Met P w K mg base 3 (He.ga K "Plan") "contents_of" (Pm (S_Plan_contents_of K)) [] := by
  have nd := sc_Plan_contents_of.nd
  refine metOf (k := 2) (S := (S_Plan_contents_of K)) T.d_Plan_contents_of T.c_Plan T.m_Plan_contents_of sc_Plan_contents_of (fun _ _ _ _ _ _ us hl => match us, hl with | [_, _], _ => rfl) (fun vs B M R ⟨_, _, _, e, _⟩ => by rw [e] <;> rfl) fun cdv A outer s H E hr => ?_
  have hu := hu_of hr
  refine ⟨_, (pss_cons (ps_expr (C8.pe_mt (ok_Plan_check T) hr (by decide) (pv 0) (pa_cons (pv 1) pa_nil)))
    (pss_one (ps_ret (pe_ix ix_tup (pe_ix ix_tup (pe_fld (pv 0) rfl) (pv 1) (fun _ _ => rfl)) pe_int (fun _ _ => rfl))))), ?_⟩
  rintro vs B M R ⟨v, es, i, rfl, pv, e, he, k⟩
  obtain ⟨a, dx, tp, us, rfl, h2, h3, h4⟩ := id pv
  obtain ⟨u, hu1, t, c, rfl, ht, hc⟩ := f2_at h4 he
  repeat trivial
  refine ⟨a, dx, _, rfl, h2, (lk_past (by decide +kernel)).trans rfl, ?_⟩
  repeat trivial
  refine ⟨_, es, i, rfl, pv, (List.getElem?_eq_some_iff.mp he).1, ?_⟩
  repeat trivial
  refine ⟨a, _, dx, _, _, rfl, .inl h2, T.c_Plan, T.n_Plan_editions, lk_here, ?_⟩
  repeat trivial
  refine wr_ixT (.of h3) (atN hu1) ?_
  repeat trivial
  exact wr_ixT (.of ht) (v := c) (by rfl) (k c hc)
def S_Plan_moments (K : PySem.W.Frag) : Spc := fun vs B M R => ∃ (v : V) (es : List (Int × Told)), vs = [v] ∧ PlanV K B v es ∧ es.length ≤ 1000 ∧ ∀ B1 p, Ex B B1 → B1 p = some (.lst (es.map fun e => V.int e.1)) → R (.ref p) B1 M
theorem sc_Plan_moments : FnScope ["self", "moment", "contents"] ["self"] (defScope (inClass (top 34) 9)) := ⟨rfl, rfl, rfl, by decide +kernel, rfl, by decide +kernel, by decide +kernel⟩
theorem ok_Plan_moments (T : Tx K mg) : C8.Met P w K mg base 1 (He.ga K "Plan") "moments" (Pm (S_Plan_moments K)) [] := by
  have nd := sc_Plan_moments.nd
  refine metOf (k := 0) (S := (S_Plan_moments K)) T.d_Plan_moments T.c_Plan T.m_Plan_moments sc_Plan_moments (fun _ _ _ _ _ _ us hl => match us, hl with | [_], _ => rfl) (fun vs B M R ⟨_, _, e, _⟩ => by rw [e] <;> rfl) fun cdv A outer s H E hr => ?_
  have hu := hu_of hr
  refine ⟨_, (pss_one (ps_ret (pe_lc (own := [("moment", 1), ("contents", 2)]) (g := gTup K 2 (gCons (gName 1) (gCons (gName 2) gNil))) rfl nd (pi_tup (pe_fld (pv 0) rfl)) (blkOk_by (own := [("moment", 1), ("contents", 2)]) (N := ["self", "moment", "contents"]) (sc := defScope (inClass (top 34) 9)) (by decide +kernel)) (fun _ _ _ _ _ => (pg_tupK (K := K) rfl rfl (pgs_cons (pg_name (i := 1) nd rfl (Or.inl rfl)) (pgs_cons (pg_name (i := 2) nd rfl (Or.inl rfl)) pgs_nil)))) (fun _ _ _ _ _ => pts_nil) (fun _ _ _ _ _ => (pv 1))))), ?_⟩
  rintro vs B M R ⟨v, es, rfl, ⟨a, dx, tp, us, rfl, h2, h3, h4⟩, hz, k⟩
  repeat trivial
  refine w_lc (i_tup ?_)
  repeat trivial
  refine ⟨a, _, dx, _, _, rfl, .inl h2, T.c_Plan, T.n_Plan_editions, lk_here, ?_⟩
  have hl := f2_len h4
  refine ⟨tp, us, rfl, .of h3, _, _, _, wb_tup (.of h3), by omega, fun i acc _ => acc = (es.take i).map fun e => V.int e.1, rfl, fun D hD hM => ⟨fun _ => True.intro, ?_, ?_⟩⟩
  · rintro i x acc B' B2 hi hl2 e2 rfl e3 hx
    obtain ⟨e, he, t, c, rfl, ht, hc⟩ := f2_get h4 hx
    refine g_tup (.of ((e2.trans e3) _ _ ht)) rfl ?_
    repeat trivial
    refine ⟨rfl, Ex.refl _, ?_⟩
    show _ = List.map _ (es.take (i + 1))
    rw [List.take_add_one, he, List.map_append]
    rfl
  · rintro acc B' e2 nD hl2 rfl
    rw [hl, List.take_length]
    exact k _ _ (e2.trans (exNew nD)) upd_same
def S_Plan_cut (K : PySem.W.Frag) : Spc := fun vs B M R => ∃ (v : V) (es : List (Int × Told)) (i : Nat), vs = [v, .int i] ∧ PlanV K B v es ∧ EdsOk es ∧ i < es.length ∧ ∀ B1 u, Ex B B1 → PlanV K B1 u (es.take (i + 1)) → R u B1 M
theorem sc_Plan_cut : FnScope ["self", "number"] ["self", "number"] (defScope (inClass (top 34) 14)) := ⟨rfl, rfl, rfl, by decide +kernel, rfl, by decide +kernel, by decide +kernel⟩
theorem ok_Plan_cut (T : Tx K mg) : C8.Met P w K mg base 8 (He.ga K "Plan") "cut" (Pm (S_Plan_cut K)) [] := by
  have nd := sc_Plan_cut.nd
  refine metOf (k := 7) (S := (S_Plan_cut K)) T.d_Plan_cut T.c_Plan T.m_Plan_cut sc_Plan_cut (fun _ _ _ _ _ _ us hl => match us, hl with | [_, _], _ => rfl) (fun vs B M R ⟨_, _, _, e, _⟩ => by rw [e] <;> rfl) fun cdv A outer s H E hr => ?_
  have hu := hu_of hr
  refine ⟨_, (pss_cons (ps_expr (C8.pe_mt (ok_Plan_check T) hr (by decide) (pv 0) (pa_cons (pv 1) pa_nil)))
    (pss_one (ps_ret (C8.pe_mk (ok_Plan___init__ T) hr (by decide) (by rfl) (pa_cons (pe_callTy call_list_of (by rfl) T.f_list (by decide +kernel) (pa_cons (pe_slice sl_tupA (pe_fld (pv 0) rfl) po_none (po_some (pe_op op_add (pv 1) pe_int))) pa_nil)) pa_nil))))), ?_⟩
  rintro vs B M R ⟨v, es, i, rfl, pv, ok, hi, k⟩
  obtain ⟨a, dx, tp, us, rfl, h2, h3, h4⟩ := id pv
  have hl := f2_len h4
  repeat trivial
  refine ⟨a, dx, _, rfl, h2, (lk_past (by decide +kernel)).trans rfl, ?_⟩
  repeat trivial
  refine ⟨_, es, i, rfl, pv, hi, ?_⟩
  repeat trivial
  refine ⟨a, _, dx, _, _, rfl, .inl h2, T.c_Plan, T.n_Plan_editions, lk_here, ?_⟩
  repeat trivial
  have ec : cutV us none (some (((i : Nat) : Int) + 1)) = us.take (i + 1) := cut_to (n := i + 1) (by omega)
  refine wl_T (.of h3) (fun z => ?_) (fun q hq mq => ?_)
  · have hq1 : B tp = some (.tup (us.take (i + 1))) := by
      have e1 : us.take (i + 1) = us := by
        rw [← ec]
        unfold cutV
        rw [z.1, z.2]
        simp
      rw [e1]
      exact h3
    have e1 := Ex.refl B
    repeat trivial
    refine wc_listT (.of hq1) fun p hp mp => ?_
    repeat trivial
    intro x dx2 nB nx
    have e2 := exNew (o := .lst (us.take (i + 1))) hp
    exact ⟨x, p, dx2, _, _, _, rfl, rfl, nx, upd_same, f2_mono (fun _ _ => EdV.ex (e1.trans e2)) (f2_take (i + 1) h4), ok.take (by omega), fun B3 e3 hp3 => ⟨rfl, k B3 _ ((e1.trans e2).trans e3) hp3⟩⟩
  · rw [ec] at *
    have hq1 : upd B q (.tup (us.take (i + 1))) q = some (.tup (us.take (i + 1))) := upd_same
    have e1 := exNew (o := .tup (us.take (i + 1))) hq
    repeat trivial
    refine wc_listT (.of hq1) fun p hp mp => ?_
    repeat trivial
    intro x dx2 nB nx
    have e2 := exNew (o := .lst (us.take (i + 1))) hp
    exact ⟨x, p, dx2, _, _, _, rfl, rfl, nx, upd_same, f2_mono (fun _ _ => EdV.ex (e1.trans e2)) (f2_take (i + 1) h4), ok.take (by omega), fun B3 e3 hp3 => ⟨rfl, k B3 _ ((e1.trans e2).trans e3) hp3⟩⟩
end
end Ab
/-! ## A4 -/
set_option Elab.async false
set_option linter.all false
set_option maxRecDepth 100000
set_option maxHeartbeats 2000000
/-! A4: makers and methods called with keywords -/
namespace Ab
open PySem L2 PyProof.Rows
open Evl (Ex)
structure MakK (P : Program) (w : World) (K : PySem.W.Frag) (mg : Str → Option Value) (base : Heap) (k : Nat) (x : Str) (C : Addr) (n : Nat) (ks : List Str) (gV : List V → List V → List V) (S : Spc) : Prop where
  ex : ∃ (f : Addr) (fd : FuncData) (ps : List Str) (g : List Value → List Value → List Value), Mk K C f ∧ FnOk P w K mg base CX0 k f fd ps (Pm S) ∧ mg x = some (.ref C) ∧ KBn K fd ps (n + 1) ks g gV
structure MetK (P : Program) (w : World) (K : PySem.W.Frag) (mg : Str → Option Value) (base : Heap) (k : Nat) (C : Addr) (m : Str) (n : Nat) (ks : List Str) (gV : List V → List V → List V) (S : Spc) : Prop where
  ex : ∃ (f : Addr) (fd : FuncData) (ps : List Str) (g : List Value → List Value → List Value), Cls K C ∧ Meth K C m f ∧ FnOk P w K mg base CX0 k f fd ps (Pm S) ∧ KBn K fd ps (n + 1) ks g gV
def tMethN (C : Addr) (m : Str) (n l : Nat) (S : Spc) (gV : List V → List V → List V) (ta : TE) (t tk : TA) : TE := fun σ H Q => ta σ H fun x H1 => ∃ a dx fs, x = .ref a ∧ H1 a = some (.ins C dx fs) ∧ fs.lookup m = none ∧
  t σ H1 fun vs H2 => tk σ H2 fun zs H3 => vs.length = n ∧ zs.length = l ∧ Pm S (gV (x :: vs) zs) H3 Q C8.E0
section
variable {X : Cx} {k j n : Nat} {C : Addr} {x m : Str} {ks : List Str} {gV : List V → List V → List V} {S : Spc} {p pos apos : Pos} {e o : Expr} {es : List Expr} {kws : List Keyword} {ta : TE} {t tk : TA}
theorem pe_mkK0 (c : MakK X.prog X.w X.K X.mg X.base k x C 0 ks gV S) (hr : Room j X.A) (hk : k + 1 ≤ j) (hg : Gl X x) (hkw : PK X kws tk)
    (hall : (backToKw pos (keywordEach kws X.env)).all (·.1.isSome) = true := by rfl) (hks : (backToKw pos (keywordEach kws X.env)).filterMap (·.1) = ks := by rfl) (hdb : (x == ("__debug__" : Str)) = false := by decide)
    (hpl : ((backTo pos (starEach [] X.env)).any (·.1) || (backToKw pos (keywordEach kws X.env)).any (·.1.isNone)) = false := by rfl) :
    PE X (.Call (.Name x p) [] kws pos) (tMakeK C 0 ks.length (Pm S) gV C8.E0 tNil tk) := by
  obtain ⟨f, fd, ps, g, M, F, hm, kb⟩ := c.ex
  exact pe_makeK0 M F (hr.mono hk) hg hm kb C8.pass0 hkw hall hks hdb hpl
theorem pe_mkK (c : MakK X.prog X.w X.K X.mg X.base k x C n ks gV S) (hr : Room j X.A) (hk : k + 1 ≤ j) (hg : Gl X x) (ha : PA X (e :: es) t) (hkw : PK X kws tk)
    (hall : (backToKw pos (keywordEach kws X.env)).all (·.1.isSome) = true := by rfl) (hks : (backToKw pos (keywordEach kws X.env)).filterMap (·.1) = ks := by rfl) (hdb : (x == ("__debug__" : Str)) = false := by decide)
    (he : starEach (e :: es) X.env = (false, eval e X.env) :: starEach es X.env := by rfl) (hpl : ((backTo pos (starEach (e :: es) X.env)).any (·.1) || (backToKw pos (keywordEach kws X.env)).any (·.1.isNone)) = false := by rfl) :
    PE X (.Call (.Name x p) (e :: es) kws pos) (tMakeK C n ks.length (Pm S) gV C8.E0 t tk) := by
  obtain ⟨f, fd, ps, g, M, F, hm, kb⟩ := c.ex
  exact pe_makeK M F (hr.mono hk) hg hm kb C8.pass0 ha hkw hall hks hdb he hpl
theorem pe_mk0 {sp : Sp} (c : C8.Mak X.prog X.w X.K X.mg X.base k x C sp []) (hr : Room j X.A) (hk : k + 1 ≤ j) (hg : Gl X x) (hdb : (x == ("__debug__" : Str)) = false := by decide) : PE X (.Call (.Name x p) [] [] pos) (tMake C sp [] C8.E0 tNil) := by
  obtain ⟨f, fd, ps, ds, M, F, hm, b, d⟩ := c.ex
  exact pe_make0 M F (hr.mono hk) hg hm b d C8.pass0 hdb
/-- o.m(e, .., k = v, ..) -/
theorem pe_methN {pl : Sem Bool} (c : MetK X.prog X.w X.K X.mg X.base k C m n ks gV S) (hr : Room j X.A) (hk : k ≤ j) (ho : PE X o ta) (ha : PA X (e :: es) t) (hkw : PK X kws tk)
    (hall : (backToKw pos (keywordEach kws X.env)).all (·.1.isSome) = true := by rfl) (hks : (backToKw pos (keywordEach kws X.env)).filterMap (·.1) = ks := by rfl)
    (hst : starEach (e :: es) X.env = (false, eval e X.env) :: starEach es X.env := by rfl) (hpl : ((backTo pos (starEach (e :: es) X.env)).any (·.1) || (backToKw pos (keywordEach kws X.env)).any (·.1.isNone)) = false := by rfl)
    (ht : eval (.Call (.Attribute o m apos) (e :: es) kws pos) X.env = (do
      let ov ← eval o X.env
      standAt apos.atName
      let (f, first) ← holding [ov] (getMethod ov m pl)
      callWith pos f first (backTo pos (starEach (e :: es) X.env)) (backToKw pos (keywordEach kws X.env))) := by rfl) :
    PE X (.Call (.Attribute o m apos) (e :: es) kws pos) (tMethN C m n ks.length S gV ta t tk) := by
  obtain ⟨f, fd, ps, g, hc, hm, F, kb⟩ := c.ex
  refine ⟨fun pins s σ H Q I h => ?_⟩
  refine PySem.W.methodCall_KW (pl := pl) (thn (ho.run pins s σ H _ I h) fun u s1 ⟨x, H1, I1, rx, a, dx, fs, ex, ea, l, q⟩ => ?_) ht
  subst ex
  obtain rfl : u = Value.ref a := rx
  refine getmeth_ok I1 ea hc hm l ?_
  refine PySem.W.callWith_KW (first := [.ref a]) (h₀ := X.base) I.ok.mod.kin hm.kp hall (thn (ha.run pos pins s1 σ H1 _ I1 q) fun us s2 ⟨vs, H2, I2, r, q2⟩ => ?_) hpl hst
  refine thn (hkw.run pos pins s2 σ H2 _ I2 q2) fun ws s3 ⟨zs, H3, I3, rz, l1, l2, q3⟩ => ⟨I3.kIn, ?_⟩
  rw [hks]
  exact run_fnN (us := .ref a :: us) (vs := .ref a :: vs) F (hr.mono hk) kb C8.pass0 I3 (.cons rfl r) rz (congrArg Nat.succ l1) l2 q3
end
section
variable {σ : L2.St} {B : Hp} {M : Mu} {R : V → Hp → Mu → Prop}
theorem w_methN {C : Addr} {m : Str} {n l : Nat} {S : Spc} {gV : List V → List V → List V} {to : TE} {ta tk : TA} (h : wE to σ B M fun x B1 M1 => ∃ a dx fs, x = .ref a ∧ B1 a = some (.ins C dx fs) ∧ fs.lookup m = none ∧ wA ta σ B1 M1 fun vs B2 M2 => wA tk σ B2 M2 fun zs B3 M3 =>
    vs.length = n ∧ zs.length = l ∧ S (gV (x :: vs) zs) B3 M3 R) : wE (tMethN C m n l S gV to ta tk) σ B M R := fun H Q ok q =>
  h H _ ok fun x B1 M1 H1 ok1 ⟨a, dx, fs, e, hb, lk, h1⟩ => ⟨a, dx, fs, e, ok1.at hb, lk, h1 H1 _ ok1 fun vs B2 M2 H2 ok2 h2 => h2 H2 _ ok2 fun zs B3 M3 H3 ok3 ⟨l1, l2, h3⟩ => ⟨l1, l2, B3, M3, R, ok3, h3, q⟩⟩
theorem wr_ip {f : Int → Int → Int} {i j : Int} (k : R (.int (f i j)) B M) : wR (ipI f) (.int i) (.int j) B M R := wr_val _ (fun _ _ _ q => ⟨i, j, rfl, rfl, q⟩) k
end
end Ab
/-! ## D9 -/
set_option Elab.async false
set_option linter.all false
set_option maxRecDepth 100000
set_option maxHeartbeats 4000000
namespace Ab
open PySem L2 PyProof.Rows
open Evl (Ex)
local macro_rules | `(tactic| trivial) => `(tactic| first
  | ((with_reducible apply w_var); exact rfl)
  | with_reducible refine w_c ?_ | with_reducible refine w_cons ?_ | with_reducible refine w_nil ?_ | with_reducible refine w_op ?_ | with_reducible refine w_cb ?_ | with_reducible refine w_call ?_ | with_reducible refine w_test ?_ | with_reducible refine w_B ?_
  | with_reducible refine bX ?_ | with_reducible refine bT ?_ | with_reducible refine bF ?_ | with_reducible refine zN ?_ | with_reducible refine zI ?_ | with_reducible refine zS ?_ | with_reducible refine zR ?_ | with_reducible refine zN' ?_ | with_reducible refine zI' ?_ | with_reducible refine zS' ?_ | with_reducible refine zR' ?_ | with_reducible refine bnT ?_ | with_reducible refine bnF ?_ | with_reducible refine w_and ?_ | with_reducible refine w_or ?_ | with_reducible refine w_not ?_ | with_reducible refine w_andV ?_ | with_reducible refine w_orV ?_
  | with_reducible refine w_notV ?_ | with_reducible refine w_if ?_ | with_reducible refine w_chain ?_ | with_reducible refine w_un ?_ | with_reducible refine wr_I0 ?_ | with_reducible refine wu_I ?_ | with_reducible refine wr_isN ?_ | with_reducible refine wr_notN ?_
  | with_reducible refine wr_eq rfl ?_ | with_reducible refine wr_ne rfl ?_ | with_reducible refine w_yes ?_ | with_reducible refine w_tup ?_ | with_reducible refine w_lst ?_ | with_reducible refine s_ret ?_ | with_reducible refine s_retN ?_
  | with_reducible refine s_seq ?_ | with_reducible refine s_if ?_ | with_reducible refine s_set ?_ | with_reducible refine s_drop ?_ | with_reducible refine s_next ?_ | with_reducible refine s_par ?_ | with_reducible refine s_par3 ?_ | with_reducible refine s_asg ?_
  | with_reducible refine g_name ?_ | with_reducible refine gs_nil ?_ | with_reducible refine gs_cons ?_ | with_reducible refine wi_int_int ?_ | with_reducible refine wi_int_bool ?_ | with_reducible refine wi_str_str ?_ | with_reducible refine w_fld ?_ | with_reducible refine w_meth ?_ | with_reducible refine w_prop ?_ | with_reducible refine w_make ?_ | with_reducible refine w_makeK ?_ | with_reducible refine w_methN ?_ | with_reducible refine w_callN ?_ | with_reducible refine w_dget ?_ | with_reducible refine w_din ?_ | with_reducible refine w_dnin ?_ | with_reducible refine s_fld ?_ | with_reducible refine w_sl ?_ | with_reducible refine s_app ?_ | with_reducible refine w_part ?_
  | with_reducible refine w_noPart ?_ | with_reducible refine iX ?_)

section
variable {P : Program} {w : World} {K : PySem.W.Frag} {mg : Str → Option Value} {base : Heap}
def oS : Option Str → V
  | none => .non
  | some z => .str z
structure Kd where
  name : Str
  gap : Int
  age : Option Int
  src : Option Str
structure KdOk (k : Kd) : Prop where
  g1 : 1 ≤ k.gap
  g2 : k.gap ≤ 10 ^ 30
  a : ∀ v, k.age = some v → 0 ≤ v ∧ v ≤ 10 ^ 30
  s : ∀ z, k.src = some z → Wd z
  n : Wd k.name
def kFs (k : Kd) : List (Str × V) := [("own_gap", .int k.gap), ("own_age", oI k.age), ("own_source", oS k.src)]
def KindV (K : PySem.W.Frag) (B : Hp) (v : V) (k : Kd) : Prop := ∃ a dx, v = .ref a ∧ B a = some (.ins (He.ga K "Kind") dx (kFs k))
theorem KindV.ex {B B' : Hp} {v : V} {k : Kd} (x : Ex B B') (h : KindV K B v k) : KindV K B' v k := by
  obtain ⟨a, dx, h1, h2⟩ := h
  exact ⟨a, dx, h1, x _ _ h2⟩
theorem kL1 (k : Kd) : (kFs k).lookup ("own_gap" : Str) = some (.int k.gap) := lk_here
theorem kL2 (k : Kd) : (kFs k).lookup ("own_age" : Str) = some (oI k.age) := (lk_past (by decide +kernel)).trans lk_here
theorem kL3 (k : Kd) : (kFs k).lookup ("own_source" : Str) = some (oS k.src) := (lk_past (by decide +kernel)).trans ((lk_past (by decide +kernel)).trans lk_here)
theorem kP (g a s : V) : putF "own_source" s (putF "own_age" a (putF "own_gap" g [])) = ([("own_gap", g), ("own_age", a), ("own_source", s)] : List (Str × V)) := by
  show putF "own_source" s (putF "own_age" a [("own_gap", g)]) = _
  rw [put_past (by decide +kernel)]
  show putF "own_source" s [("own_gap", g), ("own_age", a)] = _
  rw [put_past (by decide +kernel), put_past (by decide +kernel)]
  rfl
def S_Kind___init__ (K : PySem.W.Frag) : Spc := fun vs B M R => ∃ (x dx : Addr) (M0 : Mu) (k : Kd), vs = [.ref x, .int k.gap, oI k.age, oS k.src] ∧ M = updM M0 x (is (.ins (He.ga K "Kind") dx [])) ∧ M0 x = none ∧ KdOk k ∧ ∀ B1, Ex B B1 → KindV K B1 (.ref x) k → R .non B1 M0
theorem sc_Kind___init__ : FnScope ["self", "gap", "age", "source"] ["self", "gap", "age", "source"] (defScope (inClass (top 66) 0)) := ⟨rfl, rfl, rfl, by decide +kernel, rfl, by decide +kernel, by decide +kernel⟩
theorem ok_Kind___init__ (T : Tx K mg) : ∃ fd, FunD K "__init__" "Kind.__init__" (defArgs (inClass (top 66) 0)) (defBody (inClass (top 66) 0)) (defScope (inClass (top 66) 0)) [] [("age", .non), ("source", .non)] (He.ma K (He.ga K "Kind") "__init__") fd ∧ FnOk P w K mg base CX0 3 (He.ma K (He.ga K "Kind") "__init__") fd ["self", "gap", "age", "source"] (Pm (S_Kind___init__ K)) := by
  have nd := sc_Kind___init__.nd
  obtain ⟨fd, F⟩ := T.d_Kind___init__
  refine ⟨fd, F, ?_⟩
  refine okOf (k := 2) (S := (S_Kind___init__ K)) F sc_Kind___init__ (fun vs B M R ⟨_, _, _, _, e, _⟩ => by rw [e] <;> rfl) fun cdv A outer s H E hr => ?_
  have hu := hu_of hr
  refine ⟨_, (pss_cons (ps_if (pt_not (pt_val (C8.pe_c (ok_is_gap T) hr (by decide) (by rfl) (pa_cons (pv 1) pa_nil))))
      (pss_one ps_never)
      pss_nil)
    (pss_cons (ps_if (pt_not (pt_val (C8.pe_c (ok_is_age T) hr (by decide) (by rfl) (pa_cons (pv 2) pa_nil))))
      (pss_one ps_never)
      pss_nil)
    (pss_cons (ps_if ((pw_and (pt_cmpR op_notN (pv 3) pe_non (nomark _)) (pw_and1 (pt_not (pt_val (C8.pe_c (ok_is_word T) hr (by decide) (by rfl) (pa_cons (pv 3) pa_nil))))))).pt
      (pss_one ps_never)
      pss_nil)
    (pss_cons (ps_fld (pv 0) (pv 1) rfl)
    (pss_cons (ps_fld (pv 0) (pv 2) rfl)
    (pss_one (ps_fld (pv 0) (pv 3) rfl))))))), ?_⟩
  rintro vs B M R ⟨x, dx, M0, kd, rfl, rfl, nx, ok, k⟩
  refine wS.postO ?_
  repeat trivial
  refine ⟨kd.gap, rfl, ok.g1, ok.g2, ?_⟩
  repeat trivial
  refine ⟨kd.age, rfl, ok.a, ?_⟩
  repeat trivial
  refine and_cut (fun B1 e1 => ?_) fun hc => ?_
  rotate_left
  · cases hsg : kd.src with
    | none =>
      rw [hsg] at hc
      cases hc
    | some z =>
      rw [show oS (some z) = V.str z from rfl]
      repeat trivial
      refine ⟨z, rfl, ok.s z hsg, fun B1 e1 => ?_⟩
      repeat trivial
  repeat trivial
  refine ⟨x, _, dx, [], rfl, updM_same, T.c_Kind, T.n_Kind_own_gap, by decide, ?_⟩
  rw [updM_updM]
  repeat trivial
  refine ⟨x, _, dx, _, rfl, updM_same, T.c_Kind, T.n_Kind_own_age, by show 1 < 1000; decide, ?_⟩
  rw [updM_updM]
  repeat trivial
  refine ⟨x, _, dx, _, rfl, updM_same, T.c_Kind, T.n_Kind_own_source, by show 2 < 1000; decide, ?_⟩
  rw [updM_updM, kP]
  intro ok0
  have n1 := Ok.out ok0 updM_same
  have e2 := exNew (o := .ins (He.ga K "Kind") dx (kFs kd)) n1
  exact ⟨_, M0, fun H kk => kk.freeze' nx, k _ (e1.trans e2) ⟨x, dx, rfl, upd_same⟩⟩
theorem mk_Kind (T : Tx K mg) : MakK P w K mg base 3 "Kind" (He.ga K "Kind") 0 ["gap", "age", "source"] (fun vs zs => vs ++ zs) (S_Kind___init__ K) := by
  obtain ⟨fd, F, G⟩ := ok_Kind___init__ (P := P) (w := w) (base := base) T
  obtain ⟨mv, kb⟩ := F.kbinds0 (ps := ["self", "gap", "age", "source"]) 1 ["gap", "age", "source"] [] (fun us mv ws => us ++ ws) (by simp) (fun q hq => by cases hq) (fun r1 _ r3 => r1.append r3) (fun D doc pm an cdv ct us mv ws l1 l2 l3 => by
    match us, ws, l1, l3 with
    | [_], [_, _, _], _, _ => rfl)
  exact ⟨_, fd, _, _, T.k_Kind, G, T.g_Kind, kb⟩
def S_Kind_twin (K : PySem.W.Frag) : Spc := fun vs B M R => ∃ (v : V) (k : Kd), vs = [v] ∧ KindV K B v k ∧ KdOk k ∧ ∀ B1 u, Ex B B1 → KindV K B1 u k → R u B1 M
theorem sc_Kind_twin : FnScope ["self"] ["self"] (defScope (inClass (top 66) 8)) := ⟨rfl, rfl, rfl, by decide +kernel, rfl, by decide +kernel, by decide +kernel⟩
theorem ok_Kind_twin (T : Tx K mg) : C8.Met P w K mg base 5 (He.ga K "Kind") "twin" (Pm (S_Kind_twin K)) [] := by
  have nd := sc_Kind_twin.nd
  refine metOf (k := 4) (S := (S_Kind_twin K)) T.d_Kind_twin T.c_Kind T.m_Kind_twin sc_Kind_twin (fun _ _ _ _ _ _ us hl => match us, hl with | [_], _ => rfl) (fun vs B M R ⟨_, _, e, _⟩ => by rw [e] <;> rfl) fun cdv A outer s H E hr => ?_
  have hu := hu_of hr
  refine ⟨_, (pss_one (ps_ret (pe_mkK0 (mk_Kind T) hr (by decide) (by rfl) (pk_cons (pe_fld (pv 0) rfl) (pk_cons (pe_fld (pv 0) rfl) (pk_cons (pe_fld (pv 0) rfl) pk_nil)))))), ?_⟩
  rintro vs B M R ⟨v, kd, rfl, ⟨a, dx, rfl, h2⟩, ok, k⟩
  repeat trivial
  refine ⟨a, _, dx, _, _, rfl, .inl h2, T.c_Kind, T.n_Kind_own_gap, kL1 kd, ?_⟩
  repeat trivial
  refine ⟨a, _, dx, _, _, rfl, .inl h2, T.c_Kind, T.n_Kind_own_age, kL2 kd, ?_⟩
  repeat trivial
  refine ⟨a, _, dx, _, _, rfl, .inl h2, T.c_Kind, T.n_Kind_own_source, kL3 kd, ?_⟩
  repeat trivial
  refine ⟨rfl, rfl, fun x dx2 nB nM => ?_⟩
  exact ⟨x, dx2, M, kd, rfl, rfl, nM, ok, fun B1 e1 hk => ⟨rfl, k B1 _ e1 hk⟩⟩
end
end Ab
/-! ## D10 -/
set_option Elab.async false
set_option linter.all false
set_option maxRecDepth 100000
set_option maxHeartbeats 4000000
namespace Ab
open PySem L2 PyProof.Rows
open Evl (Ex)
local macro_rules | `(tactic| trivial) => `(tactic| first
  | ((with_reducible apply w_var); exact rfl)
  | with_reducible refine w_c ?_ | with_reducible refine w_cons ?_ | with_reducible refine w_nil ?_ | with_reducible refine w_op ?_ | with_reducible refine w_cb ?_ | with_reducible refine w_call ?_ | with_reducible refine w_test ?_ | with_reducible refine w_B ?_
  | with_reducible refine bX ?_ | with_reducible refine bT ?_ | with_reducible refine bF ?_ | with_reducible refine zN ?_ | with_reducible refine zI ?_ | with_reducible refine zS ?_ | with_reducible refine zR ?_ | with_reducible refine zN' ?_ | with_reducible refine zI' ?_ | with_reducible refine zS' ?_ | with_reducible refine zR' ?_ | with_reducible refine bnT ?_ | with_reducible refine bnF ?_ | with_reducible refine w_and ?_ | with_reducible refine w_or ?_ | with_reducible refine w_not ?_ | with_reducible refine w_andV ?_ | with_reducible refine w_orV ?_
  | with_reducible refine w_notV ?_ | with_reducible refine w_if ?_ | with_reducible refine w_chain ?_ | with_reducible refine w_un ?_ | with_reducible refine wr_I0 ?_ | with_reducible refine wu_I ?_ | with_reducible refine wr_isN ?_ | with_reducible refine wr_notN ?_
  | with_reducible refine wr_eq rfl ?_ | with_reducible refine wr_ne rfl ?_ | with_reducible refine w_yes ?_ | with_reducible refine w_tup ?_ | with_reducible refine w_lst ?_ | with_reducible refine s_ret ?_ | with_reducible refine s_retN ?_
  | with_reducible refine s_seq ?_ | with_reducible refine s_if ?_ | with_reducible refine s_set ?_ | with_reducible refine s_app ?_ | with_reducible refine s_drop ?_ | with_reducible refine s_next ?_ | with_reducible refine s_par ?_ | with_reducible refine s_par3 ?_ | with_reducible refine s_asg ?_
  | with_reducible refine g_name ?_ | with_reducible refine gs_nil ?_ | with_reducible refine gs_cons ?_ | with_reducible refine wi_int_int ?_ | with_reducible refine wi_int_bool ?_ | with_reducible refine wi_str_str ?_ | with_reducible refine w_fld ?_ | with_reducible refine w_meth ?_ | with_reducible refine w_prop ?_ | with_reducible refine w_make ?_ | with_reducible refine w_makeK ?_ | with_reducible refine w_methN ?_ | with_reducible refine w_callN ?_ | with_reducible refine w_dget ?_ | with_reducible refine w_din ?_ | with_reducible refine w_dnin ?_ | with_reducible refine s_fld ?_ | with_reducible refine w_sl ?_ | with_reducible refine w_part ?_
  | with_reducible refine w_noPart ?_ | with_reducible refine iX ?_)

section
variable {P : Program} {w : World} {K : PySem.W.Frag} {mg : Str → Option Value} {base : Heap}
/-! ### the kinds above a kind -/
def srcOf (ks : List Kd) (z : Str) : Option (Option Str) := (ks.find? fun k => decide (k.name = z)).map Kd.src
inductive Chn (ks : List Kd) : Str → List Str → Prop
  | root {z : Str} : srcOf ks z = some none → Chn ks z [z]
  | step {z y : Str} {l : List Str} : srcOf ks z = some (some y) → Chn ks y l → Chn ks z (z :: l)
theorem Chn.head {ks : List Kd} {z : Str} {l : List Str} (h : Chn ks z l) : ∃ r, l = z :: r := by
  cases h with
  | root _ => exact ⟨[], rfl⟩
  | step _ _ => exact ⟨_, rfl⟩
def srcKv (k : Kd) : Key × V := (.inr k.name, oS k.src)
theorem src_val : ∀ (ks : List Kd) (z : Str), valV (ks.map srcKv) (.inr z) = (srcOf ks z).map oS
  | [], _ => rfl
  | k :: ks, z => by
    rw [List.map_cons]
    unfold srcOf
    by_cases h : k.name = z
    · rw [valV_pos (by show Sum.inr k.name = Sum.inr z; rw [h]), List.find?_cons_of_pos (by exact decide_eq_true h)]
      rfl
    · rw [valV_neg (fun e => h (Sum.inr.inj e)), List.find?_cons_of_neg (by simpa using h)]
      exact src_val ks z
theorem atLast {α : Type} {xs : List α} {x : α} : atI (xs ++ [x]) (-1) = some x := by
  unfold atI ixN
  rw [if_neg (by omega), if_pos (by rw [List.length_append]; simp; omega)]
  rw [Option.bind_some, List.length_append]
  have e : (-1 + (((xs.length + [x].length : Nat)) : Int)).toNat = xs.length := by simp; omega
  rw [e, List.getElem?_append_right (Nat.le_refl _), Nat.sub_self]
  rfl
theorem Ok.dropM {B H : Hp} {M : Mu} {a : Addr} {P : HO → Prop} (n : M a = none) (k : Ok B (updM M a P) H) : Ok B M H := by
  have z := k.drop (a := a)
  rw [delM_updM n] at z
  exact z

def S_chain_of : Spc := fun vs B M R => ∃ (d : Addr) (z : Str) (ks : List Kd) (l : List Str), vs = [.ref d, .str z] ∧ Dk B M d (ks.map srcKv) ∧ Chn ks z l ∧ l.length ≤ 4 ∧ ∀ B1 p, Ex B B1 → B1 p = some (.lst (l.reverse.map V.str)) → R (.ref p) B1 M
theorem sc_chain_of : FnScope ["sources", "name", "found"] ["sources", "name"] (defScope (top 67)) := ⟨rfl, rfl, rfl, by decide +kernel, rfl, by decide +kernel, by decide +kernel⟩
theorem ok_chain_of (T : Tx K mg) : C8.Cal P w K mg base 1 "chain_of" (Pm (S_chain_of)) [] := by
  have nd := sc_chain_of.nd
  refine calOf (k := 0) (S := (S_chain_of)) T.d_chain_of T.g_chain_of sc_chain_of (fun _ _ _ _ _ _ us hl => match us, hl with | [_, _], _ => rfl) (fun vs B M R ⟨_, _, _, _, e, _⟩ => by rw [e] <;> rfl) fun cdv A outer s H E hr => ?_
  have hu := hu_of hr
  refine ⟨_, (pss_cons (ps_set (i := 2) nd rfl (Or.inl rfl) (pe_lst (pa_cons (pv 1) pa_nil)))
    (pss_cons (ps_while PassesOwn.never ((pw_and (pt_cmpR op_notN (pe_dget hu (pv 0) (pe_ix ix_list (pv 2) (pe_un un_neg pe_int) (fun _ _ => rfl)) (fun _ _ => rfl)) pe_non (nomark _)) (pw_and1 (pt_cmpR op_le (pe_callB call_len_seq (by rfl) T.f_len (by decide +kernel) (pa_cons (pv 2) pa_nil)) (C8.pe_gc (by rfl) T.i_MOST_CHAIN) (nomark _))))).pt
      (pss_one (ps_expr (pe_bm PySem.F.plainAttrs_list PySem.F.slot_list_append PySem.F.type_list_append mt_append (pv 2) (pa_cons (pe_dget hu (pv 0) (pe_ix ix_list (pv 2) (pe_un un_neg pe_int) (fun _ _ => rfl)) (fun _ _ => rfl)) pa_nil)))))
    (pss_one (ps_ret (pe_revL (pv 2)))))), ?_⟩
  rintro vs B M R ⟨d, z, ks, l, rfl, hd, hc, hl, k⟩
  refine wS.post ?_
  refine s_seq (s_set (w_lstM (is (.lst [V.str z])) (w_cons (w_var rfl (w_nil ⟨by show 1 ≤ 100000; decide, isr, fun q hB hM => ?_⟩)))))
  have hdq : ∀ P, Dk B (updM M q P) d (ks.map srcKv) := fun P => by
    rcases hd with h | h | ⟨o, h⟩
    · exact .inl h
    · exact .inr (.inl (by rw [updM_ne fun e => by rw [e, hM] at h; cases h]; exact h))
    · exact .inr (.inr ⟨o, by rw [updM_ne fun e => by rw [e, hM] at h; cases h]; exact h⟩)
  refine s_seq (s_while (fun m σ' B' M' => ∃ (pre : List Str) (y : Str) (r : List Str), σ' = [some (.ref d), some (.str z), some (.ref q)] ∧ B' = B ∧ M' = updM M q (is (.lst ((pre ++ [y]).map V.str))) ∧ pre ++ y :: r = l ∧ Chn ks y (y :: r) ∧ m = r.length) (l.length - 1) ?_ ?_)
  · obtain ⟨r, rfl⟩ := hc.head
    exact ⟨[], z, r, rfl, rfl, rfl, rfl, hc, rfl⟩
  rintro m σ' B' M' ⟨pre, y, r, rfl, rfl, rfl, hl2, hy, rfl⟩
  have hv : ∀ o, srcOf ks y = some o → valV (ks.map srcKv) (.inr y) = some (oS o) := fun o e => by rw [src_val, e] <;> rfl
  repeat trivial
  refine wr_ixM updM_same (by rw [List.map_append]; exact atLast) ?_
  cases hy with
  | root hs =>
    refine ⟨d, _, .inr y, .non, rfl, rfl, hdq _, hv _ hs, ?_⟩
    repeat trivial
    refine w_revM ?_
    repeat trivial
    refine ⟨q, _, rfl, updM_same, fun p hp mp => ⟨_, M, fun H kk => kk.dropM hM, k _ _ (exNew hp) ?_⟩⟩
    rw [upd_same, ← hl2, List.map_reverse]
  | step hs hc2 =>
    rename_i y2
    obtain ⟨r2, rfl⟩ := hc2.head
    refine ⟨d, _, .inr y, .str y2, rfl, rfl, hdq _, hv _ hs, ?_⟩
    repeat trivial
    refine wc_lenM updM_same ?_
    repeat trivial
    have hlen : pre.length + (r2.length + 2) ≤ 4 := by
      rw [← hl2, List.length_append] at hl
      exact hl
    refine bD (fun _ => ?_) fun h => absurd (by rw [List.length_map, List.length_append]; simp; omega) h
    repeat trivial
    refine ⟨q, rfl, ⟨_, updM_same⟩, ?_⟩
    repeat trivial
    refine wr_ixM updM_same (by rw [List.map_append]; exact atLast) ?_
    refine ⟨d, _, .inr y, .str y2, rfl, rfl, hdq _, hv _ hs, ?_⟩
    refine ⟨_, updM_same, by rw [List.length_map, List.length_append]; simp; omega, r2.length, by simp, pre ++ [y], y2, r2, rfl, rfl, ?_, by rw [List.append_assoc]; exact hl2, hc2, rfl⟩
    rw [updM_updM, List.map_append (l₂ := [y2])]
    rfl
end
end Ab
/-! ## D11 -/
set_option Elab.async false
set_option linter.all false
set_option maxRecDepth 100000
set_option maxHeartbeats 4000000
namespace Ab
open PySem L2 PyProof.Rows
open Evl (Ex)
local macro_rules | `(tactic| trivial) => `(tactic| first
  | ((with_reducible apply w_var); exact rfl)
  | with_reducible refine w_c ?_ | with_reducible refine w_cons ?_ | with_reducible refine w_nil ?_ | with_reducible refine w_op ?_ | with_reducible refine w_cb ?_ | with_reducible refine w_call ?_ | with_reducible refine w_test ?_ | with_reducible refine w_B ?_
  | with_reducible refine bX ?_ | with_reducible refine bT ?_ | with_reducible refine bF ?_ | with_reducible refine zN ?_ | with_reducible refine zI ?_ | with_reducible refine zS ?_ | with_reducible refine zR ?_ | with_reducible refine zN' ?_ | with_reducible refine zI' ?_ | with_reducible refine zS' ?_ | with_reducible refine zR' ?_ | with_reducible refine bnT ?_ | with_reducible refine bnF ?_ | with_reducible refine w_and ?_ | with_reducible refine w_or ?_ | with_reducible refine w_not ?_ | with_reducible refine w_andV ?_ | with_reducible refine w_orV ?_
  | with_reducible refine w_notV ?_ | with_reducible refine w_if ?_ | with_reducible refine w_chain ?_ | with_reducible refine w_un ?_ | with_reducible refine wr_I0 ?_ | with_reducible refine wu_I ?_ | with_reducible refine wr_isN ?_ | with_reducible refine wr_notN ?_
  | with_reducible refine wr_eq rfl ?_ | with_reducible refine wr_ne rfl ?_ | with_reducible refine w_yes ?_ | with_reducible refine w_tup ?_ | with_reducible refine w_lst ?_ | with_reducible refine s_ret ?_ | with_reducible refine s_retN ?_
  | with_reducible refine s_seq ?_ | with_reducible refine s_if ?_ | with_reducible refine s_set ?_ | with_reducible refine s_app ?_ | with_reducible refine s_drop ?_ | with_reducible refine s_next ?_ | with_reducible refine s_par ?_ | with_reducible refine s_par3 ?_ | with_reducible refine s_asg ?_
  | with_reducible refine g_name ?_ | with_reducible refine gs_nil ?_ | with_reducible refine gs_cons ?_ | with_reducible refine wi_int_int ?_ | with_reducible refine wi_int_bool ?_ | with_reducible refine wi_str_str ?_ | with_reducible refine w_fld ?_ | with_reducible refine w_meth ?_ | with_reducible refine w_prop ?_ | with_reducible refine w_make ?_ | with_reducible refine w_makeK ?_ | with_reducible refine w_methN ?_ | with_reducible refine w_callN ?_ | with_reducible refine w_dget ?_ | with_reducible refine w_din ?_ | with_reducible refine w_dnin ?_ | with_reducible refine s_fld ?_ | with_reducible refine w_sl ?_ | with_reducible refine w_part ?_
  | with_reducible refine w_noPart ?_ | with_reducible refine iX ?_)

section
variable {P : Program} {w : World} {K : PySem.W.Frag} {mg : Str → Option Value} {base : Heap}
theorem updM_comm {M : Mu} {a b : Addr} {P Q : HO → Prop} (n : a ≠ b) : updM (updM M a P) b Q = updM (updM M b Q) a P := by
  funext c
  unfold updM
  by_cases h1 : c = b
  · rw [if_pos h1, if_neg (by rw [h1]; exact n.symm), if_pos h1]
  · rw [if_neg h1, if_neg h1]
theorem updM_absorb {M : Mu} {a : Addr} {P : HO → Prop} (h : M a = some P) : updM M a P = M := by
  funext c
  by_cases e : c = a
  · rw [e, updM_same, h]
  · rw [updM_ne e]
structure Cl where
  role : Str
  client : Str
  server : Str
  life : Int
def CallV (B : Hp) (v : V) (c : Cl) : Prop := ∃ t, v = .ref t ∧ B t = some (.tup [.str c.role, .str c.client, .str c.server, .int c.life])
theorem CallV.ex {B B' : Hp} {v : V} {c : Cl} (x : Ex B B') (h : CallV B v c) : CallV B' v c := by
  obtain ⟨t, h1, h2⟩ := h
  exact ⟨t, h1, x _ _ h2⟩
def KvKind (K : PySem.W.Frag) (B : Hp) (kv : Key × V) (k : Kd) : Prop := kv.1 = .inr k.name ∧ KindV K B kv.2 k
theorem KvKind.ex {B B' : Hp} {kv : Key × V} {k : Kd} (x : Ex B B') (h : KvKind K B kv k) : KvKind K B' kv k := ⟨h.1, h.2.ex x⟩
/-- a fleet: its kinds' dict and its calls' list may be changed (and locked) -/
structure FleetAt (K : PySem.W.Frag) (B : Hp) (M : Mu) (a kd rd : Addr) (ks : List Kd) (cs : List Cl) : Prop where
  at_ : ∃ dx, B a = some (.ins (He.ga K "Fleet") dx [("kinds", .ref kd), ("rows", .ref rd)])
  kinds : ∃ kvs, M kd = some (is (.dK kvs)) ∧ Paired (KvKind K B) kvs ks
  rows : ∃ rs, M rd = some (is (.lst rs)) ∧ Paired (CallV B) rs cs
theorem FleetAt.ex {B B' : Hp} {M : Mu} {a kd rd : Addr} {ks : List Kd} {cs : List Cl} (x : Ex B B') (h : FleetAt K B M a kd rd ks cs) : FleetAt K B' M a kd rd ks cs := by
  obtain ⟨⟨dx, h1⟩, ⟨kvs, h2, h3⟩, ⟨rs, h4, h5⟩⟩ := h
  exact ⟨⟨dx, x _ _ h1⟩, ⟨kvs, h2, f2_mono (fun _ _ => KvKind.ex x) h3⟩, ⟨rs, h4, f2_mono (fun _ _ => CallV.ex x) h5⟩⟩
theorem f2_keysK {B : Hp} : ∀ {kvs : List (Key × V)} {ks : List Kd}, Paired (KvKind K B) kvs ks → kvs.map (·.1) = (ks.map Kd.name).map Sum.inr
  | _, _, .nil => rfl
  | _, _, .cons h t => by rw [List.map_cons, List.map_cons, List.map_cons, f2_keysK t, h.1]
theorem fL1 (kd rd : Addr) : ([("kinds", .ref kd), ("rows", .ref rd)] : List (Str × V)).lookup ("kinds" : Str) = some (.ref kd) := lk_here
theorem fL2 (kd rd : Addr) : ([("kinds", .ref kd), ("rows", .ref rd)] : List (Str × V)).lookup ("rows" : Str) = some (.ref rd) := (lk_past (by decide +kernel)).trans lk_here
theorem fNo (kd rd : Addr) {m : Str} (h : (m == ("kinds" : Str)) = false := by decide +kernel) (h2 : (m == ("rows" : Str)) = false := by decide +kernel) : ([("kinds", .ref kd), ("rows", .ref rd)] : List (Str × V)).lookup m = none := (lk_past h).trans ((lk_past h2).trans rfl)
/-- is a kind's name there -/
theorem has_kind {B : Hp} {kvs : List (Key × V)} {ks : List Kd} {z : Str} (h : Paired (KvKind K B) kvs ks) : (valV kvs (.inr z)).isSome = decide (z ∈ ks.map Kd.name) := by
  induction h with
  | nil => simp [valV_nil]
  | @cons kv k kvs ks h t ih =>
    by_cases e : k.name = z
    · rw [valV_pos (by rw [h.1, e])]
      simp [e]
    · rw [valV_neg (fun q => e (by rw [h.1] at q; exact Sum.inr.inj q)), ih]
      simp [Ne.symm e]
theorem get_kind {B : Hp} {kvs : List (Key × V)} {ks : List Kd} {z : Str} (h : Paired (KvKind K B) kvs ks) (hz : z ∈ ks.map Kd.name) : ∃ k v, ks.find? (fun k => decide (k.name = z)) = some k ∧ valV kvs (.inr z) = some v ∧ KindV K B v k := by
  induction h with
  | nil => simp at hz
  | @cons kv k kvs ks h t ih =>
    by_cases e : k.name = z
    · exact ⟨k, kv.2, List.find?_cons_of_pos (by exact decide_eq_true e), valV_pos (by rw [h.1, e]), h.2⟩
    · rw [valV_neg (fun q => e (by rw [h.1] at q; exact Sum.inr.inj q)), List.find?_cons_of_neg (by simpa using e)]
      refine ih ?_
      rw [List.map_cons, List.mem_cons] at hz
      exact hz.resolve_left (Ne.symm e)
def S_Fleet_calls (K : PySem.W.Frag) : Spc := fun vs B M R => ∃ (a kd rd : Addr) (ks : List Kd) (cs : List Cl) (u : Unit), vs = [.ref a] ∧ FleetAt K B M a kd rd ks cs ∧ ∀ B1 p rs, Ex B B1 → B1 p = some (.lst rs) → Paired (CallV B1) rs cs → R (.ref p) B1 M
theorem sc_Fleet_calls : FnScope ["self"] ["self"] (defScope (inClass (top 68) 13)) := ⟨rfl, rfl, rfl, by decide +kernel, rfl, by decide +kernel, by decide +kernel⟩
theorem ok_Fleet_calls (T : Tx K mg) : C8.Met P w K mg base 1 (He.ga K "Fleet") "calls" (Pm (S_Fleet_calls K)) [] := by
  have nd := sc_Fleet_calls.nd
  refine metOf (k := 0) (S := (S_Fleet_calls K)) T.d_Fleet_calls T.c_Fleet T.m_Fleet_calls sc_Fleet_calls (fun _ _ _ _ _ _ us hl => match us, hl with | [_], _ => rfl) (fun vs B M R ⟨_, _, _, _, _, _, e, _⟩ => by rw [e] <;> rfl) fun cdv A outer s H E hr => ?_
  have hu := hu_of hr
  refine ⟨_, (pss_one (ps_ret (pe_callTy call_list_of (by rfl) T.f_list (by decide +kernel) (pa_cons (pe_fld (pv 0) rfl) pa_nil)))), ?_⟩
  rintro vs B M R ⟨a, kd, rd, ks, cs, _, rfl, ⟨⟨dx, h1⟩, ⟨kvs, h2, h3⟩, ⟨rs, h4, h5⟩⟩, k⟩
  repeat trivial
  refine ⟨a, _, dx, _, _, rfl, .inl h1, T.c_Fleet, T.n_Fleet_rows, fL2 .., ?_⟩
  repeat trivial
  exact wc_listM h4 fun p hp mp => k _ p rs (exNew hp) upd_same (f2_mono (fun _ _ => CallV.ex (exNew hp)) h5)
def S_Fleet_names (K : PySem.W.Frag) : Spc := fun vs B M R => ∃ (a kd rd : Addr) (ks : List Kd) (cs : List Cl) (u : Unit), vs = [.ref a] ∧ FleetAt K B M a kd rd ks cs ∧ ks.length < 64 ∧ ∀ B1 p ys, Ex B B1 → ys.Perm (ks.map Kd.name) → sortedS ys = true → B1 p = some (.lst (ys.map V.str)) → R (.ref p) B1 M
theorem sc_Fleet_names : FnScope ["self"] ["self"] (defScope (inClass (top 68) 9)) := ⟨rfl, rfl, rfl, by decide +kernel, rfl, by decide +kernel, by decide +kernel⟩
theorem ok_Fleet_names (T : Tx K mg) : C8.Met P w K mg base 1 (He.ga K "Fleet") "names" (Pm (S_Fleet_names K)) [] := by
  have nd := sc_Fleet_names.nd
  refine metOf (k := 0) (S := (S_Fleet_names K)) T.d_Fleet_names T.c_Fleet T.m_Fleet_names sc_Fleet_names (fun _ _ _ _ _ _ us hl => match us, hl with | [_], _ => rfl) (fun vs B M R ⟨_, _, _, _, _, _, e, _⟩ => by rw [e] <;> rfl) fun cdv A outer s H E hr => ?_
  have hu := hu_of hr
  refine ⟨_, (pss_one (ps_ret (pe_callB (call_sortedD rfl) (by rfl) T.f_sorted (by decide +kernel) (pa_cons (pe_fld (pv 0) rfl) pa_nil)))), ?_⟩
  rintro vs B M R ⟨a, kd, rd, ks, cs, _, rfl, ⟨⟨dx, h1⟩, ⟨kvs, h2, h3⟩, ⟨rs, h4, h5⟩⟩, hz, k⟩
  repeat trivial
  refine ⟨a, _, dx, _, _, rfl, .inl h1, T.c_Fleet, T.n_Fleet_kinds, fL1 .., ?_⟩
  repeat trivial
  exact wc_sortedD h2 (f2_keysK h3) (by rw [List.length_map]; exact hz) fun ys p py sy hp mp => k _ p ys (exNew hp) py sy upd_same
def S_Fleet_check (K : PySem.W.Frag) : Spc := fun vs B M R => ∃ (a kd rd : Addr) (ks : List Kd) (cs : List Cl) (z : Str), vs = [.ref a, .str z] ∧ FleetAt K B M a kd rd ks cs ∧ Wd z ∧ z ∈ ks.map Kd.name ∧ ∀ B1, Ex B B1 → R .non B1 M
theorem sc_Fleet_check : FnScope ["self", "name"] ["self", "name"] (defScope (inClass (top 68) 8)) := ⟨rfl, rfl, rfl, by decide +kernel, rfl, by decide +kernel, by decide +kernel⟩
theorem ok_Fleet_check (T : Tx K mg) : C8.Met P w K mg base 2 (He.ga K "Fleet") "check" (Pm (S_Fleet_check K)) [] := by
  have nd := sc_Fleet_check.nd
  refine metOf (k := 1) (S := (S_Fleet_check K)) T.d_Fleet_check T.c_Fleet T.m_Fleet_check sc_Fleet_check (fun _ _ _ _ _ _ us hl => match us, hl with | [_, _], _ => rfl) (fun vs B M R ⟨_, _, _, _, _, _, e, _⟩ => by rw [e] <;> rfl) fun cdv A outer s H E hr => ?_
  have hu := hu_of hr
  refine ⟨_, (pss_one (ps_if ((pw_or (pt_not (pt_val (C8.pe_c (ok_is_word T) hr (by decide) (by rfl) (pa_cons (pv 1) pa_nil)))) (pw_or1 (pt_cmp (pc_dnotin hu (pv 1) (pe_fld (pv 0) rfl)))))).pt
      (pss_one ps_never)
      pss_nil)), ?_⟩
  rintro vs B M R ⟨a, kd, rd, ks, cs, z, rfl, ⟨⟨dx, h1⟩, ⟨kvs, h2, h3⟩, ⟨rs, h4, h5⟩⟩, hw, hz, k⟩
  repeat trivial
  refine ⟨z, rfl, hw, fun B1 e1 => ?_⟩
  repeat trivial
  refine ⟨a, _, dx, _, _, rfl, .inl (e1 _ _ h1), T.c_Fleet, T.n_Fleet_kinds, fL1 .., ?_⟩
  refine ⟨kd, kvs, .inr z, rfl, rfl, .inr (.inl h2), ?_⟩
  rw [has_kind h3, decide_eq_true hz]
  refine bX (bF ?_)
  repeat trivial
  exact k B1 e1
def S_Fleet___contains__ (K : PySem.W.Frag) : Spc := fun vs B M R => ∃ (a kd rd : Addr) (ks : List Kd) (cs : List Cl) (z : Str), vs = [.ref a, .str z] ∧ FleetAt K B M a kd rd ks cs ∧ Wd z ∧ ∀ B1, Ex B B1 → R (.bl (decide (z ∈ ks.map Kd.name))) B1 M
theorem sc_Fleet___contains__ : FnScope ["self", "name"] ["self", "name"] (defScope (inClass (top 68) 4)) := ⟨rfl, rfl, rfl, by decide +kernel, rfl, by decide +kernel, by decide +kernel⟩
theorem ok_Fleet___contains__ (T : Tx K mg) : C8.Met P w K mg base 2 (He.ga K "Fleet") "__contains__" (Pm (S_Fleet___contains__ K)) [] := by
  have nd := sc_Fleet___contains__.nd
  refine metOf (k := 1) (S := (S_Fleet___contains__ K)) T.d_Fleet___contains__ T.c_Fleet T.m_Fleet___contains__ sc_Fleet___contains__ (fun _ _ _ _ _ _ us hl => match us, hl with | [_, _], _ => rfl) (fun vs B M R ⟨_, _, _, _, _, _, e, _⟩ => by rw [e] <;> rfl) fun cdv A outer s H E hr => ?_
  have hu := hu_of hr
  refine ⟨_, (pss_one (ps_ret (pe_and (C8.pe_c (ok_is_word T) hr (by decide) (by rfl) (pa_cons (pv 1) pa_nil)) (pe_one (pe_cmp (pc_din hu (pv 1) (pe_fld (pv 0) rfl))))))), ?_⟩
  rintro vs B M R ⟨a, kd, rd, ks, cs, z, rfl, ⟨⟨dx, h1⟩, ⟨kvs, h2, h3⟩, ⟨rs, h4, h5⟩⟩, hw, k⟩
  repeat trivial
  refine ⟨z, rfl, hw, fun B1 e1 => ?_⟩
  repeat trivial
  refine ⟨a, _, dx, _, _, rfl, .inl (e1 _ _ h1), T.c_Fleet, T.n_Fleet_kinds, fL1 .., ?_⟩
  refine ⟨kd, kvs, .inr z, rfl, rfl, .inr (.inl h2), ?_⟩
  rw [has_kind h3]
  exact k B1 e1
def S_Fleet_sources (K : PySem.W.Frag) : Spc := fun vs B M R => ∃ (a kd rd : Addr) (ks : List Kd) (cs : List Cl) (u : Unit), vs = [.ref a] ∧ FleetAt K B M a kd rd ks cs ∧ (ks.map Kd.name).Nodup ∧ ks.length ≤ 1000 ∧ ∀ B1 p, Ex B B1 → B1 p = some (.dK (ks.map srcKv)) → R (.ref p) B1 M
theorem sc_Fleet_sources : FnScope ["self", "name", "kind"] ["self"] (defScope (inClass (top 68) 7)) := ⟨rfl, rfl, rfl, by decide +kernel, rfl, by decide +kernel, by decide +kernel⟩
theorem ok_Fleet_sources (T : Tx K mg) : C8.Met P w K mg base 1 (He.ga K "Fleet") "sources" (Pm (S_Fleet_sources K)) [] := by
  have nd := sc_Fleet_sources.nd
  refine metOf (k := 0) (S := (S_Fleet_sources K)) T.d_Fleet_sources T.c_Fleet T.m_Fleet_sources sc_Fleet_sources (fun _ _ _ _ _ _ us hl => match us, hl with | [_], _ => rfl) (fun vs B M R ⟨_, _, _, _, _, _, e, _⟩ => by rw [e] <;> rfl) fun cdv A outer s H E hr => ?_
  have hu := hu_of hr
  refine ⟨_, (pss_one (ps_ret (pe_lock (pe_dc (own := [("name", 1), ("kind", 2)]) (g := gTup K 2 (gCons (gName 1) (gCons (gName 2) gNil))) rfl nd (pi_items (pe_fld (pv 0) rfl)) (blkOk_by (own := [("name", 1), ("kind", 2)]) (N := ["self", "name", "kind"]) (sc := defScope (inClass (top 68) 7)) (by decide +kernel)) (fun _ _ _ _ _ => (pg_tupK (K := K) rfl rfl (pgs_cons (pg_name (i := 1) nd rfl (Or.inl rfl)) (pgs_cons (pg_name (i := 2) nd rfl (Or.inl rfl)) pgs_nil)))) (fun _ _ _ _ _ => pts_nil) (fun _ _ _ _ _ => (pv 1)) (fun _ _ _ _ _ => (pe_fldK (K := K) rfl (pv 2) rfl)))))), ?_⟩
  rintro vs B M R ⟨a, kd, rd, ks, cs, _, rfl, ⟨⟨dx, h1⟩, ⟨kvs, h2, h3⟩, ⟨rs, h4, h5⟩⟩, hn, hz, k⟩
  refine wS.post ?_
  have hl := f2_len h3
  repeat trivial
  refine w_lockE h2 fun od => ?_
  refine w_dc (i_items ?_)
  repeat trivial
  refine ⟨a, _, dx, _, _, rfl, .inl h1, T.c_Fleet, T.n_Fleet_kinds, fL1 .., ?_⟩
  refine ⟨kd, od, kvs, rfl, updM_same, _, _, _, wb_items, by omega, fun i acc _ => acc = (ks.take i).map srcKv, rfl, fun D hD hM => ⟨fun P => ?_, ?_, ?_⟩⟩
  · rw [updM_ne fun z => by rw [← z, updM_same] at hM; cases hM]
    exact updM_same
  · rintro i x acc B' B2 hi hl2 e1 rfl e2 ⟨t, kk, v, hk, rfl, ht⟩
    obtain ⟨kx, hkx, e3, b, bx, rfl, hb⟩ := f2_get h3 hk
    cases e3
    refine g_tup (.of ht) rfl ?_
    repeat trivial
    refine ⟨b, _, bx, _, _, rfl, .inl ((e1.trans e2) _ _ hb), T.c_Kind, T.n_Kind_own_source, kL3 kx, .inr kx.name, rfl, rfl, Ex.refl _, ?_⟩
    rw [putK_fresh]
    · show _ = List.map srcKv (ks.take (i + 1))
      rw [List.take_add_one, hkx, List.map_append]
      rfl
    · rw [List.map_map]
      intro hm
      obtain ⟨y, hy, ey⟩ := List.mem_map.mp hm
      have ey2 : y.name = kx.name := Sum.inr.inj ey
      obtain ⟨j, hj, ej⟩ := List.mem_take_iff_getElem.mp hy
      obtain ⟨hi2, ei⟩ := List.getElem?_eq_some_iff.mp hkx
      have h7 : (ks.map Kd.name)[j]'(by rw [List.length_map]; omega) = (ks.map Kd.name)[i]'(by rw [List.length_map]; omega) := by
        rw [List.getElem_map, List.getElem_map, ej, ei, ey2]
      have := (List.getElem_inj hn).mp h7
      omega
  · rintro acc B' e1 nD hl2 rfl
    rw [hl, List.take_length]
    have kD : kd ≠ D := fun z => by rw [← z, updM_same] at hM; cases hM
    have MD : M D = none := by rw [updM_ne kD.symm] at hM; exact hM
    refine ⟨updM M D (is (.dK (ks.map srcKv))), updM_comm kD, ?_⟩
    rw [updM_absorb (a := kd) (by rw [updM_ne kD]; exact h2)]
    exact ⟨_, M, fun H kk => kk.freeze' MD, k _ _ (e1.trans (exNew nD)) upd_same⟩
end
end Ab
/-! ## D12 -/
set_option Elab.async false
set_option linter.all false
set_option maxRecDepth 100000
set_option maxHeartbeats 4000000
namespace Ab
open PySem L2 PyProof.Rows
open Evl (Ex)
local macro_rules | `(tactic| trivial) => `(tactic| first
  | ((with_reducible apply w_var); exact rfl)
  | with_reducible refine w_c ?_ | with_reducible refine w_cons ?_ | with_reducible refine w_nil ?_ | with_reducible refine w_op ?_ | with_reducible refine w_cb ?_ | with_reducible refine w_call ?_ | with_reducible refine w_test ?_ | with_reducible refine w_B ?_
  | with_reducible refine bX ?_ | with_reducible refine bT ?_ | with_reducible refine bF ?_ | with_reducible refine zN ?_ | with_reducible refine zI ?_ | with_reducible refine zS ?_ | with_reducible refine zR ?_ | with_reducible refine zN' ?_ | with_reducible refine zI' ?_ | with_reducible refine zS' ?_ | with_reducible refine zR' ?_ | with_reducible refine bnT ?_ | with_reducible refine bnF ?_ | with_reducible refine w_and ?_ | with_reducible refine w_or ?_ | with_reducible refine w_not ?_ | with_reducible refine w_andV ?_ | with_reducible refine w_orV ?_
  | with_reducible refine w_notV ?_ | with_reducible refine w_if ?_ | with_reducible refine w_chain ?_ | with_reducible refine w_un ?_ | with_reducible refine wr_I0 ?_ | with_reducible refine wu_I ?_ | with_reducible refine wr_isN ?_ | with_reducible refine wr_notN ?_
  | with_reducible refine wr_eq rfl ?_ | with_reducible refine wr_ne rfl ?_ | with_reducible refine w_yes ?_ | with_reducible refine w_tup ?_ | with_reducible refine w_lst ?_ | with_reducible refine s_ret ?_ | with_reducible refine s_retN ?_
  | with_reducible refine s_seq ?_ | with_reducible refine s_if ?_ | with_reducible refine s_set ?_ | with_reducible refine s_app ?_ | with_reducible refine s_drop ?_ | with_reducible refine s_next ?_ | with_reducible refine s_par ?_ | with_reducible refine s_par3 ?_ | with_reducible refine s_asg ?_
  | with_reducible refine g_name ?_ | with_reducible refine gs_nil ?_ | with_reducible refine gs_cons ?_ | with_reducible refine wi_int_int ?_ | with_reducible refine wi_int_bool ?_ | with_reducible refine wi_str_str ?_ | with_reducible refine w_fld ?_ | with_reducible refine w_meth ?_ | with_reducible refine w_prop ?_ | with_reducible refine w_make ?_ | with_reducible refine w_makeK ?_ | with_reducible refine w_methN ?_ | with_reducible refine w_callN ?_ | with_reducible refine w_dget ?_ | with_reducible refine w_din ?_ | with_reducible refine w_dnin ?_ | with_reducible refine s_fld ?_ | with_reducible refine w_sl ?_ | with_reducible refine w_part ?_
  | with_reducible refine w_noPart ?_ | with_reducible refine iX ?_)

section
variable {P : Program} {w : World} {K : PySem.W.Frag} {mg : Str → Option Value} {base : Heap}
theorem Chn.mem {ks : List Kd} {z : Str} {l : List Str} (h : Chn ks z l) : ∀ y ∈ l, y ∈ ks.map Kd.name := by
  have key : ∀ {z : Str} {o : Option Str}, srcOf ks z = some o → z ∈ ks.map Kd.name := fun {z o} e => by
    unfold srcOf at e
    obtain ⟨k, h1, _⟩ := Option.map_eq_some_iff.mp e
    have h2 := List.find?_some h1
    exact List.mem_map.mpr ⟨k, List.mem_of_find?_eq_some h1, of_decide_eq_true h2⟩
  induction h with
  | root e => exact fun y hy => by rw [List.mem_singleton.mp hy]; exact key e
  | step e _ ih => exact fun y hy => (List.mem_cons.mp hy).elim (fun q => by rw [q]; exact key e) (ih y)
def contrib (k : Kd) : Int := match k.age with
  | none => k.gap - 1
  | some a => 2 * k.gap + a - 2
def contribOf (ks : List Kd) (z : Str) : Int := match ks.find? fun k => decide (k.name = z) with
  | some k => contrib k
  | none => 0
def lateL (ks : List Kd) (l : List Str) : Int := 1 + (l.map (contribOf ks)).sum
theorem sum_reverse : ∀ l : List Int, l.reverse.sum = l.sum
  | [] => rfl
  | x :: l => by
    rw [List.reverse_cons, List.sum_append, sum_reverse l]
    simp
    omega
def S_Fleet_chain (K : PySem.W.Frag) : Spc := fun vs B M R => ∃ (a kd rd : Addr) (ks : List Kd) (cs : List Cl) (z : Str) (l : List Str), vs = [.ref a, .str z] ∧ FleetAt K B M a kd rd ks cs ∧ Wd z ∧ (ks.map Kd.name).Nodup ∧ ks.length ≤ 1000 ∧ Chn ks z l ∧ l.length ≤ 4 ∧ ∀ B1 p, Ex B B1 → B1 p = some (.lst (l.reverse.map V.str)) → R (.ref p) B1 M
theorem sc_Fleet_chain : FnScope ["self", "kind"] ["self", "kind"] (defScope (inClass (top 68) 10)) := ⟨rfl, rfl, rfl, by decide +kernel, rfl, by decide +kernel, by decide +kernel⟩
theorem ok_Fleet_chain (T : Tx K mg) : C8.Met P w K mg base 3 (He.ga K "Fleet") "chain" (Pm (S_Fleet_chain K)) [] := by
  have nd := sc_Fleet_chain.nd
  refine metOf (k := 2) (S := (S_Fleet_chain K)) T.d_Fleet_chain T.c_Fleet T.m_Fleet_chain sc_Fleet_chain (fun _ _ _ _ _ _ us hl => match us, hl with | [_, _], _ => rfl) (fun vs B M R ⟨_, _, _, _, _, _, _, e, _⟩ => by rw [e] <;> rfl) fun cdv A outer s H E hr => ?_
  have hu := hu_of hr
  refine ⟨_, (pss_cons (ps_expr (C8.pe_mt (ok_Fleet_check T) hr (by decide) (pv 0) (pa_cons (pv 1) pa_nil)))
    (pss_one (ps_ret (C8.pe_c (ok_chain_of T) hr (by decide) (by rfl) (pa_cons (C8.pe_mt0 (ok_Fleet_sources T) hr (by decide) (pv 0)) (pa_cons (pv 1) pa_nil)))))), ?_⟩
  rintro vs B M R ⟨a, kd, rd, ks, cs, z, l, rfl, fl, hw, hn, hz, hc, hl, k⟩
  obtain ⟨dx, h1⟩ := fl.at_
  have zm : z ∈ ks.map Kd.name := by
    obtain ⟨r, e⟩ := hc.head
    exact hc.mem z (by rw [e]; exact List.mem_cons_self ..)
  repeat trivial
  refine ⟨a, dx, _, rfl, h1, fNo .., ?_⟩
  repeat trivial
  refine ⟨a, kd, rd, ks, cs, z, rfl, fl, hw, zm, fun B1 e1 => ?_⟩
  repeat trivial
  refine ⟨a, dx, _, rfl, e1 _ _ h1, fNo .., ?_⟩
  repeat trivial
  refine ⟨a, kd, rd, ks, cs, (), rfl, fl.ex e1, hn, hz, fun B2 d e2 hd => ?_⟩
  repeat trivial
  exact ⟨d, z, ks, l, rfl, .inl hd, hc, hl, fun B3 p e3 hp => k B3 p ((e1.trans e2).trans e3) hp⟩
def S_Fleet_lateness (K : PySem.W.Frag) : Spc := fun vs B M R => ∃ (a kd rd : Addr) (ks : List Kd) (cs : List Cl) (z : Str) (l : List Str), vs = [.ref a, .str z] ∧ FleetAt K B M a kd rd ks cs ∧ Wd z ∧ (ks.map Kd.name).Nodup ∧ ks.length ≤ 1000 ∧ Chn ks z l ∧ l.length ≤ 4 ∧ ∀ B1, Ex B B1 → R (.int (lateL ks l)) B1 M
theorem sc_Fleet_lateness : FnScope ["self", "kind", "late", "name", "one"] ["self", "kind"] (defScope (inClass (top 68) 11)) := ⟨rfl, rfl, rfl, by decide +kernel, rfl, by decide +kernel, by decide +kernel⟩
theorem ok_Fleet_lateness (T : Tx K mg) : C8.Met P w K mg base 4 (He.ga K "Fleet") "lateness" (Pm (S_Fleet_lateness K)) [] := by
  have nd := sc_Fleet_lateness.nd
  refine metOf (k := 3) (S := (S_Fleet_lateness K)) T.d_Fleet_lateness T.c_Fleet T.m_Fleet_lateness sc_Fleet_lateness (fun _ _ _ _ _ _ us hl => match us, hl with | [_, _], _ => rfl) (fun vs B M R ⟨_, _, _, _, _, _, _, e, _⟩ => by rw [e] <;> rfl) fun cdv A outer s H E hr => ?_
  have hu := hu_of hr
  refine ⟨_, (pss_cons (ps_set (i := 2) nd rfl (Or.inl rfl) pe_int)
    (pss_cons (ps_for PassesOwn.never rfl (pi_list (C8.pe_mt (ok_Fleet_chain T) hr (by decide) (pv 0) (pa_cons (pv 1) pa_nil))) (pg_name (i := 3) nd rfl (Or.inl rfl))
      (pss_cons (ps_set (i := 4) nd rfl (Or.inl rfl) (pe_dget hu (pe_fld (pv 0) rfl) (pv 3) (fun _ _ => rfl)))
      (pss_one (ps_if (pt_cmpR op_isN (pe_fld (pv 4) rfl) pe_non (nomark _))
        (pss_one (ps_aug (i := 2) nd rfl (Or.inl rfl) (pe_op op_sub (pe_fld (pv 4) rfl) pe_int) ip_add))
        (pss_one (ps_aug (i := 2) nd rfl (Or.inl rfl) (pe_op op_sub (pe_op op_add (pe_op op_mul pe_int (pe_fld (pv 4) rfl)) (pe_fld (pv 4) rfl)) pe_int) ip_add))))))
    (pss_one (ps_ret (pv 2))))), ?_⟩
  rintro vs B M R ⟨a, kd, rd, ks, cs, z, l, rfl, fl, hw, hn, hz, hc, hl, k⟩
  obtain ⟨⟨dx, h1⟩, ⟨kvs, h2, h3⟩, _⟩ := id fl
  repeat trivial
  refine s_for (i_list ?_)
  repeat trivial
  refine ⟨a, dx, _, rfl, h1, fNo .., ?_⟩
  repeat trivial
  refine ⟨a, kd, rd, ks, cs, z, l, rfl, fl, hw, hn, hz, hc, hl, fun B1 p e1 hp => ?_⟩
  refine ⟨p, _, rfl, .of hp, _, _, _, wb_list (.of hp), fun i σ' B' M' => (∃ x y, σ' = [some (.ref a), some (.str z), some (.int (lateL ks (l.reverse.take i))), x, y]) ∧ Ex B1 B' ∧ M' = M, ⟨⟨_, _, rfl⟩, Ex.refl _, rfl⟩, fun i σ' B' M' _ h => ⟨h.2.1, True.intro⟩, ?_, ?_⟩
  · rintro i x σ' B' M' B2 hi ⟨⟨y1, y2, rfl⟩, e2, rfl⟩ e3 hx
    rw [List.getElem?_map] at hx
    obtain ⟨y, hy, rfl⟩ := Option.map_eq_some_iff.mp hx
    have ym : y ∈ ks.map Kd.name := hc.mem y (List.mem_reverse.mp (List.mem_of_getElem? hy))
    obtain ⟨kx, v, f1, f2, b, bx, rfl, f3⟩ := get_kind h3 ym
    have e4 := (e1.trans e2).trans e3
    have next : lateL ks (l.reverse.take (i + 1)) = lateL ks (l.reverse.take i) + contrib kx := by
      unfold lateL
      rw [List.take_add_one, hy, List.map_append, List.sum_append]
      have : contribOf ks y = contrib kx := by
        unfold contribOf
        rw [f1]
      simp [this]
      omega
    repeat trivial
    refine ⟨a, _, dx, _, _, rfl, .inl (e4 _ _ h1), T.c_Fleet, T.n_Fleet_kinds, fL1 .., ?_⟩
    repeat trivial
    refine ⟨kd, kvs, .inr y, _, rfl, rfl, .inr (.inl h2), f2, ?_⟩
    repeat trivial
    refine ⟨b, _, bx, _, _, rfl, .inl (e4 _ _ f3), T.c_Kind, T.n_Kind_own_age, kL2 kx, ?_⟩
    repeat trivial
    cases ha : kx.age with
    | none =>
      rw [show oI none = V.non from rfl]
      repeat trivial
      refine s_aug ⟨_, rfl, ?_⟩
      repeat trivial
      refine ⟨b, _, bx, _, _, rfl, .inl (e4 _ _ f3), T.c_Kind, T.n_Kind_own_gap, kL1 kx, ?_⟩
      repeat trivial
      refine wr_ip ⟨⟨some (.str y), some (.ref b), ?_⟩, e2.trans e3, rfl⟩
      rw [next]
      unfold contrib
      rw [ha]
      rfl
    | some g =>
      rw [show oI (some g) = V.int g from rfl]
      repeat trivial
      refine s_aug ⟨_, rfl, ?_⟩
      repeat trivial
      refine ⟨b, _, bx, _, _, rfl, .inl (e4 _ _ f3), T.c_Kind, T.n_Kind_own_gap, kL1 kx, ?_⟩
      refine wr_I (.inl ⟨by omega, by omega⟩) ?_
      repeat trivial
      refine ⟨b, _, bx, _, _, rfl, .inl (e4 _ _ f3), T.c_Kind, T.n_Kind_own_age, kL2 kx, ?_⟩
      rw [ha, show oI (some g) = V.int g from rfl]
      repeat trivial
      refine wr_ip ⟨⟨some (.str y), some (.ref b), ?_⟩, e2.trans e3, rfl⟩
      rw [next]
      unfold contrib
      rw [ha]
      rfl
  · rintro σ' B' M' ⟨⟨y1, y2, rfl⟩, e2, rfl⟩
    repeat trivial
    have e5 : lateL ks (l.reverse.take (l.reverse.map V.str).length) = lateL ks l := by
      rw [List.length_map, List.take_length]
      unfold lateL
      rw [List.map_reverse, sum_reverse]
    rw [e5]
    exact k _ (e1.trans e2)
end
end Ab
/-! ## D13 -/
set_option Elab.async false
set_option linter.all false
set_option maxRecDepth 100000
set_option maxHeartbeats 4000000
namespace Ab
open PySem L2 PyProof.Rows
open Evl (Ex)
local macro_rules | `(tactic| trivial) => `(tactic| first
  | ((with_reducible apply w_var); exact rfl)
  | with_reducible refine w_c ?_ | with_reducible refine w_cons ?_ | with_reducible refine w_nil ?_ | with_reducible refine w_op ?_ | with_reducible refine w_cb ?_ | with_reducible refine w_call ?_ | with_reducible refine w_test ?_ | with_reducible refine w_B ?_
  | with_reducible refine bX ?_ | with_reducible refine bT ?_ | with_reducible refine bF ?_ | with_reducible refine zN ?_ | with_reducible refine zI ?_ | with_reducible refine zS ?_ | with_reducible refine zR ?_ | with_reducible refine zN' ?_ | with_reducible refine zI' ?_ | with_reducible refine zS' ?_ | with_reducible refine zR' ?_ | with_reducible refine bnT ?_ | with_reducible refine bnF ?_ | with_reducible refine w_and ?_ | with_reducible refine w_or ?_ | with_reducible refine w_not ?_ | with_reducible refine w_andV ?_ | with_reducible refine w_orV ?_
  | with_reducible refine w_notV ?_ | with_reducible refine w_if ?_ | with_reducible refine w_chain ?_ | with_reducible refine w_un ?_ | with_reducible refine wr_I0 ?_ | with_reducible refine wu_I ?_ | with_reducible refine wr_isN ?_ | with_reducible refine wr_notN ?_
  | with_reducible refine wr_eq rfl ?_ | with_reducible refine wr_ne rfl ?_ | with_reducible refine w_yes ?_ | with_reducible refine w_tup ?_ | with_reducible refine w_lst ?_ | with_reducible refine s_ret ?_ | with_reducible refine s_retN ?_
  | with_reducible refine s_seq ?_ | with_reducible refine s_if ?_ | with_reducible refine s_set ?_ | with_reducible refine s_app ?_ | with_reducible refine s_drop ?_ | with_reducible refine s_next ?_ | with_reducible refine s_par ?_ | with_reducible refine s_par3 ?_ | with_reducible refine s_asg ?_
  | with_reducible refine g_name ?_ | with_reducible refine gs_nil ?_ | with_reducible refine gs_cons ?_ | with_reducible refine wi_int_int ?_ | with_reducible refine wi_int_bool ?_ | with_reducible refine wi_str_str ?_ | with_reducible refine w_fld ?_ | with_reducible refine w_meth ?_ | with_reducible refine w_prop ?_ | with_reducible refine w_make ?_ | with_reducible refine w_makeK ?_ | with_reducible refine w_methN ?_ | with_reducible refine w_callN ?_ | with_reducible refine w_dget ?_ | with_reducible refine w_din ?_ | with_reducible refine w_dnin ?_ | with_reducible refine s_fld ?_ | with_reducible refine w_sl ?_ | with_reducible refine w_part ?_
  | with_reducible refine w_noPart ?_ | with_reducible refine iX ?_)

section
variable {P : Program} {w : World} {K : PySem.W.Frag} {mg : Str → Option Value} {base : Heap}
theorem fP (u v : V) : putF "rows" v (putF "kinds" u []) = ([("kinds", u), ("rows", v)] : List (Str × V)) := by
  show putF "rows" v [("kinds", u)] = _
  rw [put_past (by decide +kernel)]
  rfl
theorem is_ne {M : Mu} {a b : Addr} {kvs : List (Key × V)} {rs : List V} (h : M a = some (is (.dK kvs))) (h' : M b = some (is (.lst rs))) : a ≠ b := fun e => by
  rw [e, h'] at h
  have e2 : is (.lst rs) = is (.dK kvs) := Option.some.inj h
  have e3 : is (.dK kvs) (.lst rs) := by rw [← e2]; exact isr
  cases e3
def S_Fleet___init__ (K : PySem.W.Frag) : Spc := fun vs B M R => ∃ (x dx : Addr) (M0 : Mu), vs = [.ref x] ∧ M = updM M0 x (is (.ins (He.ga K "Fleet") dx [])) ∧ M0 x = none ∧
  ∀ B1 kd rd, Ex B B1 → kd ≠ rd → M0 kd = none → M0 rd = none → FleetAt K B1 (updM (updM M0 kd (is (.dK []))) rd (is (.lst []))) x kd rd [] [] → R .non B1 (updM (updM M0 kd (is (.dK []))) rd (is (.lst [])))
theorem sc_Fleet___init__ : FnScope ["self"] ["self"] (defScope (inClass (top 68) 0)) := ⟨rfl, rfl, rfl, by decide +kernel, rfl, by decide +kernel, by decide +kernel⟩
theorem ok_Fleet___init__ (T : Tx K mg) : C8.Mak P w K mg base 1 "Fleet" (He.ga K "Fleet") (Pm (S_Fleet___init__ K)) [] := by
  have nd := sc_Fleet___init__.nd
  refine makOf (k := 0) (S := (S_Fleet___init__ K)) T.d_Fleet___init__ T.k_Fleet T.g_Fleet sc_Fleet___init__ (fun _ _ _ _ _ _ us hl => match us, hl with | [_], _ => rfl) (fun vs B M R ⟨_, _, _, e, _⟩ => by rw [e] <;> rfl) fun cdv A outer s H E hr => ?_
  have hu := hu_of hr
  refine ⟨_, (pss_cons (ps_fld (pv 0) pe_dnewK rfl)
    (pss_one (ps_fld (pv 0) (pe_lst pa_nil) rfl))), ?_⟩
  rintro vs B M R ⟨x, dx, M0, rfl, rfl, nx, k⟩
  refine wS.postO ?_
  refine s_seq (s_fld (w_dnewM fun kd hB hM => ?_))
  repeat trivial
  have xk : x ≠ kd := fun z => by rw [← z, updM_same] at hM; cases hM
  refine ⟨x, _, dx, [], rfl, by rw [updM_ne xk]; exact updM_same, T.c_Fleet, T.n_Fleet_kinds, by decide, ?_⟩
  refine s_fld (w_lstM (is (.lst [])) (w_nil ⟨by decide, isr, fun rd hB2 hM2 => ?_⟩))
  repeat trivial
  have xr : x ≠ rd := fun z => by rw [← z, updM_same] at hM2; cases hM2
  refine ⟨x, _, dx, _, rfl, by rw [updM_ne xr]; exact updM_same, T.c_Fleet, T.n_Fleet_rows, by show 1 < 1000; decide, ?_⟩
  rw [fP]
  intro ok0
  have n1 := Ok.out ok0 updM_same
  have kr : kd ≠ rd := fun z => by rw [← z, updM_ne xk.symm, updM_same] at hM2; cases hM2
  have mk : M0 kd = none := by rw [updM_ne xk.symm] at hM; exact hM
  have mr : M0 rd = none := by rw [updM_ne xr.symm, updM_ne kr.symm, updM_ne xr.symm] at hM2; exact hM2
  have e0 : ∀ P1 P2 P3 D L, updM (updM (updM (updM (updM M0 x P1) kd D) x P2) rd L) x P3 = updM (updM (updM M0 kd D) rd L) x P3 := fun P1 P2 P3 D L => by
    funext c
    unfold updM
    by_cases h1 : c = x
    · rw [if_pos h1, if_pos h1]
    · rw [if_neg h1, if_neg h1, if_neg h1, if_neg h1]
  refine ⟨upd _ x (.ins (He.ga K "Fleet") dx [("kinds", .ref kd), ("rows", .ref rd)]), _, fun H kk => Ok.freeze' (M := updM (updM M0 kd (is (.dK []))) rd (is (.lst []))) (by rw [← e0]; exact kk) (by rw [updM_ne xr, updM_ne xk]; exact nx), k _ kd rd (exNew n1) kr mk mr ⟨⟨dx, upd_same⟩, ⟨[], by rw [updM_ne kr, updM_same], .nil⟩, ⟨[], updM_same, .nil⟩⟩⟩
def S_Fleet_add_call (K : PySem.W.Frag) : Spc := fun vs B M R => ∃ (a kd rd : Addr) (ks : List Kd) (cs : List Cl) (role client server : Str) (life : Int), vs = [.ref a, .str role, .str client, .str server, .int life] ∧ FleetAt K B M a kd rd ks cs ∧ Wd role ∧ Wd client ∧ Wd server ∧
  client ∈ ks.map Kd.name ∧ server ∈ ks.map Kd.name ∧ 0 ≤ life ∧ life ≤ 10 ^ 30 ∧ cs.length < 6 ∧ ∀ B1 rs v, Ex B B1 → FleetAt K B1 (updM M rd (is (.lst rs))) a kd rd ks (cs ++ [⟨role, client, server, life⟩]) → R v B1 (updM M rd (is (.lst rs)))
theorem sc_Fleet_add_call : FnScope ["self", "role", "client", "server", "life"] ["self", "role", "client", "server", "life"] (defScope (inClass (top 68) 12)) := ⟨rfl, rfl, rfl, by decide +kernel, rfl, by decide +kernel, by decide +kernel⟩
theorem ok_Fleet_add_call (T : Tx K mg) : ∃ fd, FunD K "add_call" "Fleet.add_call" (defArgs (inClass (top 68) 12)) (defBody (inClass (top 68) 12)) (defScope (inClass (top 68) 12)) [] [("life", .int 0)] (He.ma K (He.ga K "Fleet") "add_call") fd ∧ FnOk P w K mg base CX0 3 (He.ma K (He.ga K "Fleet") "add_call") fd ["self", "role", "client", "server", "life"] (Pm (S_Fleet_add_call K)) := by
  have nd := sc_Fleet_add_call.nd
  obtain ⟨fd, F⟩ := T.d_Fleet_add_call
  refine ⟨fd, F, ?_⟩
  refine okOf (k := 2) (S := (S_Fleet_add_call K)) F sc_Fleet_add_call (fun vs B M R ⟨_, _, _, _, _, _, _, _, _, e, _⟩ => by rw [e] <;> rfl) fun cdv A outer s H E hr => ?_
  have hu := hu_of hr
  refine ⟨_, (pss_cons (ps_if (pt_not (pt_val (C8.pe_c (ok_is_word T) hr (by decide) (by rfl) (pa_cons (pv 1) pa_nil))))
      (pss_one ps_never)
      pss_nil)
    (pss_cons (ps_expr (C8.pe_mt (ok_Fleet_check T) hr (by decide) (pv 0) (pa_cons (pv 2) pa_nil)))
    (pss_cons (ps_expr (C8.pe_mt (ok_Fleet_check T) hr (by decide) (pv 0) (pa_cons (pv 3) pa_nil)))
    (pss_cons (ps_if (pt_not (pt_val (C8.pe_c (ok_is_between T) hr (by decide) (by rfl) (pa_cons (pv 4) (pa_cons pe_int (pa_cons (C8.pe_gc (by rfl) T.i_MOST_GAP) pa_nil))))))
      (pss_one ps_never)
      pss_nil)
    (pss_cons (ps_if (pt_cmpR op_eq (pe_callB call_len_seq (by rfl) T.f_len (by decide +kernel) (pa_cons (pe_fld (pv 0) rfl) pa_nil)) (C8.pe_gc (by rfl) T.i_MOST_CALLS) (nomark _))
      (pss_one ps_never)
      pss_nil)
    (pss_cons (ps_expr (pe_bm PySem.F.plainAttrs_list PySem.F.slot_list_append PySem.F.type_list_append mt_append (pe_fld (pv 0) rfl) (pa_cons (pe_tup (pa_cons (pv 1) (pa_cons (pv 2) (pa_cons (pv 3) (pa_cons (pv 4) pa_nil))))) pa_nil)))
    (pss_one (ps_ret (pe_op op_sub (pe_callB call_len_seq (by rfl) T.f_len (by decide +kernel) (pa_cons (pe_fld (pv 0) rfl) pa_nil)) pe_int))))))))), ?_⟩
  rintro vs B M R ⟨a, kd, rd, ks, cs, role, client, server, life, rfl, fl, w1, w2, w3, c1, c2, l1, l2, hz, k⟩
  obtain ⟨⟨dx, h1⟩, ⟨kvs, h2, h3⟩, ⟨rs, h4, h5⟩⟩ := id fl
  have hl := f2_len h5
  have kr := is_ne h2 h4
  repeat trivial
  refine ⟨role, rfl, w1, fun B1 e1 => ?_⟩
  repeat trivial
  refine ⟨a, dx, _, rfl, e1 _ _ h1, fNo .., ?_⟩
  repeat trivial
  refine ⟨a, kd, rd, ks, cs, client, rfl, fl.ex e1, w2, c1, fun B2 e2 => ?_⟩
  repeat trivial
  refine ⟨a, dx, _, rfl, e2 _ _ (e1 _ _ h1), fNo .., ?_⟩
  repeat trivial
  refine ⟨a, kd, rd, ks, cs, server, rfl, (fl.ex e1).ex e2, w3, c2, fun B3 e3 => ?_⟩
  have e := (e1.trans e2).trans e3
  repeat trivial
  refine ⟨_, _, _, rfl, ?_⟩
  rw [decide_eq_true ⟨l1, l2⟩]
  repeat trivial
  refine ⟨a, _, dx, _, _, rfl, .inl (e _ _ h1), T.c_Fleet, T.n_Fleet_rows, fL2 .., ?_⟩
  repeat trivial
  refine wc_lenM h4 ?_
  repeat trivial
  refine bD (fun z => absurd (V.int.inj z) (by omega)) fun _ => ?_
  repeat trivial
  refine ⟨a, _, dx, _, _, rfl, .inl (e _ _ h1), T.c_Fleet, T.n_Fleet_rows, fL2 .., ?_⟩
  refine ⟨rd, rfl, ⟨_, h4⟩, ?_⟩
  repeat trivial
  refine ⟨len4, fun t ht mt => ?_⟩
  refine ⟨rs, h4, by omega, ?_⟩
  have e4 := exNew (o := .tup [V.str role, V.str client, V.str server, V.int life]) ht
  repeat trivial
  refine ⟨a, _, dx, _, _, rfl, .inl (e4 _ _ (e _ _ h1)), T.c_Fleet, T.n_Fleet_rows, fL2 .., ?_⟩
  repeat trivial
  refine wc_lenM updM_same ?_
  repeat trivial
  exact k _ _ _ (e.trans e4) ⟨⟨dx, e4 _ _ (e _ _ h1)⟩, ⟨kvs, by rw [updM_ne kr]; exact h2, f2_mono (fun _ _ => KvKind.ex (e.trans e4)) h3⟩, ⟨_, updM_same, Paired.snoc (f2_mono (fun _ _ => CallV.ex (e.trans e4)) h5) ⟨t, rfl, upd_same⟩⟩⟩
theorem mt_Fleet_add_call (T : Tx K mg) : MetK P w K mg base 3 (He.ga K "Fleet") "add_call" 3 ["life"] (fun vs zs => vs ++ zs) (S_Fleet_add_call K) := by
  obtain ⟨fd, F, G⟩ := ok_Fleet_add_call (P := P) (w := w) (base := base) T
  obtain ⟨mv, kb⟩ := F.kbinds0 (ps := ["self", "role", "client", "server", "life"]) 4 ["life"] [] (fun us mv ws => us ++ ws) (by simp) (fun q hq => by cases hq) (fun r1 _ r3 => r1.append r3) (fun D doc pm an cdv ct us mv ws l1 l2 l3 => by
    match us, ws, l1, l3 with
    | [_, _, _, _], [_], _, _ => rfl)
  exact ⟨_, fd, _, _, T.c_Fleet, T.m_Fleet_add_call, G, kb⟩
end
end Ab
/-! ## E1 -/
set_option Elab.async false
set_option linter.all false
set_option maxRecDepth 100000
set_option maxHeartbeats 2000000
/-! E1: {**e, k: v}: a dict's copy with one entry more -/
namespace Ab
open PySem PySem.Spec L2 PyProof.Rows
section
variable {prog : Program} {w : World} {κ : Type} [DecidableEq κ] {knd : KeyKind prog w κ} {A : Around} {E : Value → Shared → Prop} {s : Shared}
theorem put_pairs {d : Addr} {kvs : List (κ × Value)} {k : κ} {key v : Value} {Q : Unit → Shared → Prop} (hkey : knd.is k key = true) (hm : s.heap.DictOf knd d kvs)
    (hQ : ∀ h', h'.DictOf knd d (stored kvs k v) → Heap.SameBut d s.heap h' → Q () { s with heap := h' }) (hsz : kvs.length ≤ sizeLine) :
    wpAny (model prog w) A (dictPut d (knd.hash k) key v) Q E s := by
  obtain ⟨o, es, ep, ho, hc, hd, hk, hp, hn⟩ := hm
  have hes : es.size ≤ sizeLine := by
    have e1 := hp.length
    have e2 : es.toList.length = es.size := by simp
    omega
  have hidx : (es.findIdx? fun e => knd.is k e.key) = kvs.findIdx? fun kv => decide (kv.1 = k) := by
    rw [← hp.findIdx k]
    obtain ⟨l⟩ := es
    simp
  unfold dictPut
  refine wpAny_bind (wpAny_dictFind_of hkey ho hd hk ?_)
  cases hi : es.findIdx? fun e => knd.is k e.key with
  | some i =>
    refine wpAny_updateDict ho hd (hQ _ ⟨_, _, ep, Heap.get?_update_self _ ho (Obj.isFreed_of_dict (Obj.data_mapDict hd _)), hc.mapDict _, Obj.data_mapDict hd _, hk.modify _ _, ?_, ?_⟩ (Heap.SameBut.update ..))
    · rw [stored, if_pos (any_of_findIdx_some (hidx ▸ hi))]
      have hl : (es.toList.findIdx? fun e => knd.is k e.key) = some i := by
        rw [← hi]
        obtain ⟨l⟩ := es
        simp
      have z := hp.modify hn hl v
      obtain ⟨l⟩ := es
      simpa using z
    · rw [stored, if_pos (any_of_findIdx_some (hidx ▸ hi)), keys_map_store]
      exact hn
  | none =>
    have hnot : k ∉ kvs.map (·.1) := not_mem_of_findIdx_none (hidx ▸ hi)
    have hany : ¬ (kvs.any fun kv => decide (kv.1 = k)) = true := by
      rw [List.any_eq_true]
      rintro ⟨kv, hkv, he⟩
      exact hnot (List.mem_map.mpr ⟨kv, hkv, of_decide_eq_true he⟩)
    refine wpAny_updateDictKeys (hz := hes) ho hd (hQ _ ⟨_, _, ep + 1, Heap.get?_update_self _ ho (Obj.isFreed_of_dict (Obj.data_mapDictKeys hd _)), hc.mapDictKeys _, Obj.data_mapDictKeys hd _, hk.push hkey _, ?_, ?_⟩ (Heap.SameBut.update ..))
    · rw [stored, if_neg hany]
      have z := hp.append hkey (knd.hash k) v
      obtain ⟨l⟩ := es
      simpa using z
    · rw [stored, if_neg hany, List.map_append, List.nodup_append]
      refine ⟨hn, by simp, ?_⟩
      intro a ha b hb
      simp only [List.map_cons, List.map_nil, List.mem_singleton] at hb
      subst hb
      exact fun e => hnot (e ▸ ha)
theorem merge_pairs {d o : Addr} {kvs more : List (κ × Value)} {Q : Unit → Shared → Prop} (hdo : d ≠ o) (hoS : (o == sysModules) = false) (hd : s.heap.DictOf knd d kvs) (ho : s.heap.DictOf knd o more)
    (nr : ∀ k v, knd.is k v = true → ∀ a, v ≠ .ref a)
    (hQ : ∀ h', h'.DictOf knd d (merged kvs more) → h'.DictOf knd o more → Heap.SameBut d s.heap h' → Q () { s with heap := h' }) (hsz : kvs.length + more.length ≤ sizeLine) :
    wpAny (model prog w) A (mergeMapping d (.ref o) false) Q E s := by
  obtain ⟨od, esd, epd, hod, hcd, hdd, hkd, hpd, hnd⟩ := id hd
  obtain ⟨oo, eso, epo, hoo, hco, hdo', hko, hpo, hno⟩ := id ho
  have hlen : more.length = eso.size := by rw [← hpo.length]; simp
  unfold mergeMapping
  refine wpAny_bind (wpAny_isInstance ho.typeIs isSubtype_dict_dict ?_)
  simp only [if_true, Bool.false_eq_true, if_false]
  refine wpAny_bind (wpAny_specialOf ho.typeIs F.slot_dict_iter.lookup (wpAny_bind (wpAny_pure ?_)))
  simp only [beq_self_eq_true]
  rw [if_neg (by rw [hoS]; exact Bool.false_ne_true)]
  have loop : wpAny (model prog w) A (do
      let l ← dictEntries o
      let epoch ← dictEpoch o
      forIn (List.range l.size) PUnit.unit fun i (_ : PUnit) => (do
        let l' ← dictEntries o
        match l'[i]? with
          | some e => do
            holding [e.key, e.val] (dictPut d e.hash e.key e.val)
            let ep' ← dictEpoch o
            if (ep' != epoch) = true then do
                (unsupported "dict.changed-during-merge" : Sem PUnit)
                pure (ForInStep.yield PUnit.unit)
              else pure (ForInStep.yield PUnit.unit)
          | _ => do
            (unsupported "dict.changed-during-merge" : Sem PUnit)
            pure (ForInStep.yield PUnit.unit) : Sem (ForInStep PUnit))
      pure ()) Q E s := by
    refine wpAny_bind (wpAny_dictEntries hoo hdo' ?_)
    refine wpAny_bind (wpAny_dictEpoch hoo hdo' ?_)
    refine wpAny_bind ?_
    rw [List.range_eq_range']
    refine wpAny_forIn_list _
      (fun rest _ s' => ∃ h' i, s' = { s with heap := h' } ∧ rest = List.range' i (eso.size - i) ∧ i ≤ eso.size ∧ h'.DictOf knd d (merged kvs (more.take i)) ∧ h'.get? o = some oo ∧ Heap.SameBut d s.heap h')
      _ ?_ ?_ _ _ ⟨s.heap, 0, rfl, by simp, Nat.zero_le _, by simpa [merged] using hd, hoo, Heap.SameBut.refl _ _⟩
    · rintro x rest b s' ⟨h', i, rfl, hr, hi, hd', hoo', hs'⟩
      have hlt : i < eso.size := by
        rcases Nat.lt_or_ge i eso.size with h | h
        · exact h
        · rw [Nat.sub_eq_zero_of_le h] at hr
          simp at hr
      obtain ⟨rfl, hrest⟩ : x = i ∧ rest = List.range' (i + 1) (eso.size - (i + 1)) := by
        have e : eso.size - i = (eso.size - (i + 1)) + 1 := by omega
        rw [e, List.range'_succ] at hr
        injection hr with h1 h2
        exact ⟨h1, h2⟩
      refine wpAny_bind (wpAny_dictEntries hoo' hdo' ?_)
      rw [Array.getElem?_eq_getElem hlt]
      obtain ⟨kv, hkv⟩ : ∃ kv, more[x]? = some kv := ⟨more[x]'(by rw [hlen]; exact hlt), List.getElem?_eq_getElem _⟩
      obtain ⟨k, v⟩ := kv
      obtain ⟨hkey, hval⟩ := hpo.get? (e := eso[x]) (by simp [hlt]) hkv
      obtain ⟨k', hkey', hhash⟩ := hko eso[x] (Array.getElem_mem hlt)
      obtain rfl : k' = k := knd.inj _ _ _ hkey' hkey
      show wpAny _ _ (holding [eso[x].key, eso[x].val] (dictPut d eso[x].hash eso[x].key eso[x].val) >>= _) _ _ _
      rw [hhash, hval]
      have hmx : (merged kvs (more.take x)).length ≤ sizeLine := by
        have e1 := merged_length_le kvs (more.take x)
        have e2 : (more.take x).length ≤ more.length := by rw [List.length_take]; omega
        omega
      refine wpAny_bind (wpAny_holding (put_pairs hkey hd' (fun h'' hd'' hs'' => ?_) hmx))
      have hoo'' : h''.get? o = some oo := (hs''.2 o (Ne.symm hdo)).trans hoo'
      refine wpAny_bind (wpAny_dictEpoch hoo'' hdo' ?_)
      rw [if_neg (by simp)]
      exact wpAny_pure ⟨h'', x + 1, rfl, hrest, hlt, by rw [merged_take_succ kvs more x (k', v) hkv]; exact hd'', hoo'', hs'.trans hs''⟩
    · rintro b s' ⟨h', i, rfl, hr, hi, hd', hoo', hs'⟩
      have hin : i = eso.size := by
        rcases Nat.lt_or_ge i eso.size with h | h
        · have e : eso.size - i = (eso.size - (i + 1)) + 1 := by omega
          rw [e, List.range'_succ] at hr
          exact nomatch hr
        · exact Nat.le_antisymm hi h
      refine wpAny_pure (hQ h' ?_ ⟨oo, eso, epo, hoo', hco, hdo', hko, hpo, hno⟩ hs')
      rw [hin, ← hlen, List.take_length] at hd'
      exact hd'
  refine wpAny_bind (wpAny_dictEntries hod hdd ?_)
  split
  · refine wpAny_bind (wpAny_dictEntries hoo hdo' ?_)
    refine wpAny_bind ?_
    rw [← Array.forIn_toList]
    refine wpAny_forIn_list _ (fun rest _ s' => s' = s ∧ ∀ e ∈ rest, e ∈ eso.toList) _ ?_ ?_ _ _ ⟨rfl, fun _ h => h⟩
    · rintro e rest b s' ⟨rfl, hm⟩
      obtain ⟨k', hk', _⟩ := hko e (Array.mem_toList_iff.mp (hm e (List.mem_cons_self ..)))
      have hr := nr k' e.key hk'
      cases hkv : e.key with
      | ref a => exact absurd hkv (hr a)
      | _ => exact wpAny_pure ⟨rfl, fun x hx => hm x (List.mem_cons_of_mem _ hx)⟩
    · rintro b s' ⟨rfl, _⟩
      exact loop
  · exact loop
end

theorem display_star (t1 k2 v2 : Sem Value) : dictDisplay [(none, t1), (some k2, v2)] = (do
    let d ← alloc { cls := .type "dict", data := .dict #[] }
    let m ← holding [.ref d] t1
    (((holding [.ref d, m] (mergeMapping d m false)).onRaise fun x => do let _ ← holding [.ref d, m, x] (runValue (.builtin "proto.let_go" {}))).tryCatch fun e => do
      if ← isInstance e (.type "AttributeError") then
        rule "dict.display.not-a-mapping"
        raiseError "TypeError" s!"'{← typeNameOf m}' object is not a mapping"
      throw e).onRaise fun x => do let _ ← holding [.ref d, x] (runValue (.builtin "proto.let_go" {}))
    let sub ← holding [.ref d] (subDict [(k2, v2)])
    (holding [.ref d, .ref sub] (mergeMapping d (.ref sub) false)).onRaise fun x => do let _ ← holding [.ref d, x] (runValue (.builtin "proto.let_go" {}))
    pure (.ref d)) := by
  unfold dictDisplay
  simp

/-- {**e, k: v}: p the new dict, q a second one on the way -/
def tStar (te tk tv : TE) : TE := fun σ H Q => ∀ p, H p = none → te σ (upd H p (.dK [])) fun x H1 => ∃ a more, x = .ref a ∧ H1 a = some (.dK more) ∧ a ≠ p ∧ H1 p = some (.dK []) ∧ more.length ≤ 1000 ∧
  ∀ q, upd H1 p (.dK (mergeK [] more)) q = none → tk σ (upd (upd H1 p (.dK (mergeK [] more))) q (.dK [])) fun y H2 => tv σ H2 fun z H3 => ∃ kk, y = kV kk ∧ H3 q = some (.dK []) ∧ H3 p = some (.dK (mergeK [] more)) ∧ p ≠ q ∧
    Q (.ref p) (upd (upd H3 q (.dK [(kk, z)])) p (.dK (putK (mergeK [] more) kk z)))
theorem kv_noref {P : Program} {w : World} (k : Key) (v : Value) (h : (mixKind P w).is k v = true) (a : Addr) : v ≠ .ref a := by
  rintro rfl
  cases k with
  | inl i => cases h
  | inr x => cases h
theorem pe_star {X : Cx} {e k v : Expr} {te tk tv : TE} {pos : Pos} (he : PE X e te) (hk : PE X k tk) (hv : PE X v tv) : PE X (.Dict [none, some k] [e, v] pos) (tStar te tk tv) := by
  refine ⟨fun pins s σ H Q I h => ?_⟩
  rw [arm_eval_Dict]
  refine wpAny_bind (wpAny_standAt ?_)
  show wpAny _ _ (dictDisplay [(none, do let x ← eval e X.env; standAt pos; pure x), (some (eval k X.env), do let x ← eval v X.env; standAt pos; pure x)]) _ _ _
  rw [display_star]
  have hn := I.hok.fresh (Nat.le_refl s.heap.objs.size)
  have I1 := I.laid (a := s.heap.objs.size) (o := .dK []) (h' := s.heap.push { cls := .type "dict", data := .dict #[] }) (t' := s.toks) (fun _ _ q => Heap.get?_push_of_some _ q) (Nat.le_refl _) (dk_empty s.heap I.big)
  refine wpAny_bind (wpAny_alloc ?_)
  refine wpAny_bind (wpAny_holding (wpAny_bind (thn (he.run pins _ σ _ _ I1 (h _ hn)) fun u s1 ⟨x, H1, I2, rx, a, more, ex, ha, hap, hp, hz, q⟩ => wpAny_bind (wpAny_standAt (wpAny_pure ?_)))))
  subst ex
  obtain rfl : u = Value.ref a := rx
  obtain ⟨_, hsa, vs1, r1, d1⟩ := dk_of I2.hok ha
  obtain ⟨_, hsp, vs0, r0, d0⟩ := dk_of I2.hok hp
  cases r0
  have hl : sizeLine = 16777216 := sizeLine_eq
  have hm1 : (mergeK [] more).length ≤ sizeLine := by
    have h1 := length_mergeK more []
    rw [List.length_nil] at h1
    omega
  refine wpAny_bind (wpAny_onRaise (wpAny_tryCatch (wpAny_onRaise (wpAny_holding (merge_pairs (Ne.symm hap) hsa d0 d1 (fun k v hk a => kv_noref k v hk a) (fun h' d' _ hs => ?_) (by rw [List.length_nil, ← r1.length]; omega))))))
  have he1 : ∃ z, h'.get? s.heap.objs.size = some z := let ⟨z, _, _, hz, _⟩ := d'; ⟨z, hz⟩
  have I3 := d_write (t' := s1.toks) I2 (by rw [hp]; exact True.intro) hs he1 (dk_new hm1 hsp (r1.merge .nil) d')
  have hn3 := I3.hok.fresh (Nat.le_refl h'.objs.size)
  have I4 := I3.laid (a := h'.objs.size) (o := .dK []) (h' := h'.push { cls := .type "dict", data := .dict #[] }) (t' := s1.toks) (fun _ _ q => Heap.get?_push_of_some _ q) (Nat.le_refl _) (dk_empty h' I3.big)
  have pp : PPs X pos [some k] [v] [(tk, tv)] := pps_cons hk hv pps_nil
  have q0 := q _ hn3
  refine wpAny_bind (wpAny_holding (wpAny_subDict (knd := mixKind X.prog X.w) (by show 1 ≤ 15; decide) (thn (pp.run pins _ σ _ (fun ps H3 => match ps with
    | [(y, z)] => ∃ kk, y = kV kk ∧ H3 h'.objs.size = some (.dK []) ∧ H3 s.heap.objs.size = some (.dK (mergeK [] more)) ∧ s.heap.objs.size ≠ h'.objs.size ∧
        Q (.ref s.heap.objs.size) (upd (upd H3 h'.objs.size (.dK [(kk, z)])) s.heap.objs.size (.dK (putK (mergeK [] more) kk z)))
    | _ => False) I4 q0) fun ws s2 ⟨ps, H3, I5, rel, q3⟩ => ?_)))
  match ps, rel, q3 with
  | [(y, z)], rel, ⟨kk, ey, hq, hp3, hpq, q3⟩ =>
    subst ey
    obtain ⟨rs, c, rk⟩ := carries_of (P := X.prog) (w := X.w) (kvs := [(kk, z)]) rel
    obtain ⟨_, hdq, vs2, r2, dd⟩ := dk_of I5.hok hq
    cases r2
    refine ⟨rs, c, dd, fun h2 dd2 hs2 => ?_⟩
    have he2 : ∃ z, h2.get? h'.objs.size = some z := let ⟨z, _, _, hz, _⟩ := dd2; ⟨z, hz⟩
    have I6 := d_write (t' := s2.toks + ws.length) I5 (by rw [hq]; exact True.intro) hs2 he2 (dk_new (by show 1 ≤ sizeLine; rw [hl]; decide) hdq (rk.merge .nil) dd2)
    have hp6 : upd H3 h'.objs.size (.dK (mergeK [] [(kk, z)])) s.heap.objs.size = some (.dK (mergeK [] more)) := by
      rw [upd_ne hpq]
      exact hp3
    obtain ⟨_, hsp3, vs3, r3, d3⟩ := dk_of I6.hok hp6
    obtain ⟨_, _, vs4, r4, d4⟩ := dk_of I6.hok (a := h'.objs.size) upd_same
    have l3 := r3.length
    have l4 := r4.length
    have hm2 : (mergeK [] more).length ≤ 1000 := by
      have h1 := length_mergeK more []
      rw [List.length_nil] at h1
      omega
    have l5 : (mergeK [] [(kk, z)]).length ≤ 1 := by
      have h1 := length_mergeK [(kk, z)] []
      simpa using h1
    refine wpAny_bind (wpAny_onRaise (wpAny_holding (merge_pairs hpq hdq d3 d4 (fun k v hk a => kv_noref k v hk a) (fun h3 d5 _ hs3 => ?_) (by omega))))
    have he3 : ∃ z, h3.get? s.heap.objs.size = some z := let ⟨z, _, _, hz, _⟩ := d5; ⟨z, hz⟩
    have hm3 : (mergeK (mergeK [] more) (mergeK [] [(kk, z)])).length ≤ sizeLine := by
      have h1 := length_mergeK (mergeK [] [(kk, z)]) (mergeK [] more)
      omega
    have I7 := d_write (t' := s2.toks + ws.length) I6 (by rw [hp6]; exact True.intro) hs3 he3 (dk_new hm3 hsp3 (r4.merge r3) d5)
    exact wpAny_pure ⟨.ref s.heap.objs.size, _, I7, rfl, q3⟩
section
variable {σ : L2.St} {B : Hp} {M : Mu} {R : V → Hp → Mu → Prop}
theorem w_star {te tk tv : TE} (h : ∀ p, B p = none → M p = none → wE te σ B (updM M p (is (.dK []))) fun x B1 M1 => ∃ a more M0, x = .ref a ∧ B1 a = some (.dK more) ∧ M1 = updM M0 p (is (.dK [])) ∧ more.length ≤ 1000 ∧
    ∀ q, q ≠ p → M0 q = none → wE tk σ B1 (updM (updM M0 p (is (.dK (mergeK [] more)))) q (is (.dK []))) fun y B2 M2 => wE tv σ B2 M2 fun z B3 M3 => ∃ kk, y = kV kk ∧ M3 = updM (updM M0 p (is (.dK (mergeK [] more)))) q (is (.dK [])) ∧
      R (.ref p) B3 (updM M0 p (is (.dK (putK (mergeK [] more) kk z))))) : wE (tStar te tk tv) σ B M R := fun H Q ok qq => fun p hp => by
  refine h p (ok.freeB hp) (ok.freeM hp) _ _ (ok.newM hp isr) fun x B1 M1 H1 ok1 ⟨a, more, M0, ex, ha, eM, hz, h2⟩ => ?_
  subst eM
  have hap : a ≠ p := fun e => by
    have := (ok1.mtb p _ updM_same).1
    rw [← e, ha] at this
    cases this
  refine ⟨a, more, ex, ok1.at ha, hap, ok1.mutAt updM_same, hz, fun q hq => ?_⟩
  have ok2 := ok1.put (o := .dK (mergeK [] more)) (Q := is (.dK (mergeK [] more))) updM_same isr
  rw [updM_updM] at ok2
  have mq := ok2.freeM hq
  have qp : q ≠ p := fun e => by rw [e, updM_same] at mq; cases mq
  have m0 : M0 q = none := by rw [updM_ne qp] at mq; exact mq
  refine h2 q qp m0 _ _ (ok2.newM hq isr) fun y B2 M2 H2 ok3 h3 => h3 H2 _ ok3 fun z B3 M3 H3 ok4 ⟨kk, ey, eM, r⟩ => ?_
  subst eM
  refine ⟨kk, ey, ok4.mutAt updM_same, ok4.mutAt (by rw [updM_ne qp.symm, updM_same]), qp.symm, ?_⟩
  have ok5 := ok4.put (o := .dK [(kk, z)]) (Q := is (.dK [(kk, z)])) updM_same isr
  rw [updM_updM] at ok5
  have ok6 := ok5.put (a := p) (o := .dK (putK (mergeK [] more) kk z)) (P := is (.dK (mergeK [] more))) (Q := is (.dK (putK (mergeK [] more) kk z))) (by rw [updM_ne qp.symm, updM_same]) isr
  have e : updM (updM (updM M0 p (is (.dK (mergeK [] more)))) q (is (.dK [(kk, z)]))) p (is (.dK (putK (mergeK [] more) kk z))) = updM (updM M0 p (is (.dK (putK (mergeK [] more) kk z)))) q (is (.dK [(kk, z)])) := by
    funext c
    unfold updM
    by_cases h1 : c = p
    · rw [if_pos h1, if_neg (by rw [h1]; exact qp.symm), if_pos h1]
    · rw [if_neg h1, if_neg h1, if_neg h1]
  rw [e] at ok6
  have ok7 := ok6.drop (a := q)
  rw [delM_updM (by rw [updM_ne qp]; exact m0)] at ok7
  exact qq _ _ _ _ ok7 r
end
section
variable {σ : L2.St} {B : Hp} {M : Mu} {nx : L2.St → Hp → Mu → Prop} {rt : V → Hp → Mu → Prop}
theorem s_dput {td ty tv : TE} (h : wE tv σ B M fun v B1 M1 => wE td σ B1 M1 fun x B2 M2 => wE ty σ B2 M2 fun y B3 M3 => ∃ d kvs k, x = .ref d ∧ y = kV k ∧ M3 d = some (is (.dK kvs)) ∧ kvs.length < 100000 ∧ nx σ B3 (updM M3 d (is (.dK (putK kvs k v))))) : wS (sDPut td ty tv) σ B M nx rt := fun H D ok n r =>
  h H _ ok fun v B1 M1 H1 ok1 h1 => h1 H1 _ ok1 fun x B2 M2 H2 ok2 h2 => h2 H2 _ ok2 fun y B3 M3 H3 ok3 ⟨d, kvs, k, e1, e2, hm, hz, q⟩ => ⟨d, _, e1, by rw [e2]; exact DPut.k (ok3.mutAt hm) (Evl.sz_lt hz), n _ _ _ _ (ok3.put hm isr) q⟩
end
end Ab
/-! ## D14 -/
set_option Elab.async false
set_option linter.all false
set_option maxRecDepth 100000
set_option maxHeartbeats 4000000
namespace Ab
open PySem L2 PyProof.Rows
open Evl (Ex)
local macro_rules | `(tactic| trivial) => `(tactic| first
  | ((with_reducible apply w_var); exact rfl)
  | with_reducible refine w_c ?_ | with_reducible refine w_cons ?_ | with_reducible refine w_nil ?_ | with_reducible refine w_op ?_ | with_reducible refine w_cb ?_ | with_reducible refine w_call ?_ | with_reducible refine w_test ?_ | with_reducible refine w_B ?_
  | with_reducible refine bX ?_ | with_reducible refine bT ?_ | with_reducible refine bF ?_ | with_reducible refine zN ?_ | with_reducible refine zI ?_ | with_reducible refine zS ?_ | with_reducible refine zR ?_ | with_reducible refine zN' ?_ | with_reducible refine zI' ?_ | with_reducible refine zS' ?_ | with_reducible refine zR' ?_ | with_reducible refine bnT ?_ | with_reducible refine bnF ?_ | with_reducible refine w_and ?_ | with_reducible refine w_or ?_ | with_reducible refine w_not ?_ | with_reducible refine w_andV ?_ | with_reducible refine w_orV ?_
  | with_reducible refine w_notV ?_ | with_reducible refine w_if ?_ | with_reducible refine w_chain ?_ | with_reducible refine w_un ?_ | with_reducible refine wr_I0 ?_ | with_reducible refine wu_I ?_ | with_reducible refine wr_isN ?_ | with_reducible refine wr_notN ?_
  | with_reducible refine wr_eq rfl ?_ | with_reducible refine wr_ne rfl ?_ | with_reducible refine w_yes ?_ | with_reducible refine w_tup ?_ | with_reducible refine w_lst ?_ | with_reducible refine s_ret ?_ | with_reducible refine s_retN ?_
  | with_reducible refine s_seq ?_ | with_reducible refine s_if ?_ | with_reducible refine s_set ?_ | with_reducible refine s_dput ?_ | with_reducible refine s_app ?_ | with_reducible refine s_drop ?_ | with_reducible refine s_next ?_ | with_reducible refine s_par ?_ | with_reducible refine s_par3 ?_ | with_reducible refine s_asg ?_
  | with_reducible refine g_name ?_ | with_reducible refine gs_nil ?_ | with_reducible refine gs_cons ?_ | with_reducible refine wi_int_int ?_ | with_reducible refine wi_int_bool ?_ | with_reducible refine wi_str_str ?_ | with_reducible refine w_fld ?_ | with_reducible refine w_meth ?_ | with_reducible refine w_prop ?_ | with_reducible refine w_make ?_ | with_reducible refine w_makeK ?_ | with_reducible refine w_methN ?_ | with_reducible refine w_callN ?_ | with_reducible refine w_dget ?_ | with_reducible refine w_din ?_ | with_reducible refine w_dnin ?_ | with_reducible refine s_fld ?_ | with_reducible refine w_sl ?_ | with_reducible refine w_part ?_
  | with_reducible refine w_noPart ?_ | with_reducible refine iX ?_)

section
variable {P : Program} {w : World} {K : PySem.W.Frag} {mg : Str → Option Value} {base : Heap}
theorem src_nodup {ks : List Kd} (h : (ks.map Kd.name).Nodup) : ((ks.map srcKv).map (·.1)).Nodup := by
  have e : (ks.map srcKv).map (·.1) = (ks.map Kd.name).map (Sum.inr : Str → Key) := by
    rw [List.map_map, List.map_map]
    rfl
  rw [e]
  exact List.Pairwise.map _ (fun a b n q => n (Sum.inr.inj q)) h
theorem merge_app : ∀ (kvs acc : List (Key × V)), ((acc ++ kvs).map (·.1)).Nodup → mergeK acc kvs = acc ++ kvs
  | [], acc, _ => by show acc = acc ++ []; simp
  | kv :: kvs, acc, h => by
    show mergeK (putK acc kv.1 kv.2) kvs = _
    have hf : kv.1 ∉ acc.map (·.1) := by
      rw [List.map_append, List.map_cons] at h
      intro hm
      exact (List.nodup_append.mp h).2.2 _ hm _ (List.mem_cons_self ..) rfl
    rw [putK_fresh hf, merge_app kvs (acc ++ [kv]) (by simpa using h)]
    simp
theorem merge_nil {kvs : List (Key × V)} (h : (kvs.map (·.1)).Nodup) : mergeK [] kvs = kvs := merge_app kvs [] h
theorem fl_names {B : Hp} {kvs : List (Key × V)} {ks : List Kd} {z : Str} (h : Paired (KvKind K B) kvs ks) (hz : z ∉ ks.map Kd.name) : (Sum.inr z : Key) ∉ kvs.map (·.1) := by
  rw [f2_keysK h]
  intro hm
  obtain ⟨y, hy, e⟩ := List.mem_map.mp hm
  rw [← Sum.inr.inj e] at hz
  exact hz hy
def S_Fleet___setitem__ (K : PySem.W.Frag) : Spc := fun vs B M R => ∃ (a kd rd : Addr) (ks : List Kd) (cs : List Cl) (v : V) (k : Kd), vs = [.ref a, .str k.name, v] ∧ FleetAt K B M a kd rd ks cs ∧ KindV K B v k ∧ KdOk k ∧ (ks.map Kd.name).Nodup ∧ k.name ∉ ks.map Kd.name ∧ ks.length ≤ 4 ∧
  (∀ z, k.src = some z → z ∈ ks.map Kd.name) ∧ (∀ y ∈ (ks ++ [k]).map Kd.name, ∃ l, Chn (ks ++ [k]) y l ∧ l.length ≤ 4) ∧ ∀ B1 kvs, Ex B B1 → FleetAt K B1 (updM M kd (is (.dK kvs))) a kd rd (ks ++ [k]) cs → R .non B1 (updM M kd (is (.dK kvs)))
theorem sc_Fleet___setitem__ : FnScope ["self", "name", "kind", "sources", "other"] ["self", "name", "kind"] (defScope (inClass (top 68) 6)) := ⟨rfl, rfl, rfl, by decide +kernel, rfl, by decide +kernel, by decide +kernel⟩
theorem ok_Fleet___setitem__ (T : Tx K mg) : C8.Met P w K mg base 7 (He.ga K "Fleet") "__setitem__" (Pm (S_Fleet___setitem__ K)) [] := by
  have nd := sc_Fleet___setitem__.nd
  refine metOf (k := 6) (S := (S_Fleet___setitem__ K)) T.d_Fleet___setitem__ T.c_Fleet T.m_Fleet___setitem__ sc_Fleet___setitem__ (fun _ _ _ _ _ _ us hl => match us, hl with | [_, _, _], _ => rfl) (fun vs B M R ⟨_, _, _, _, _, _, _, e, _⟩ => by rw [e] <;> rfl) fun cdv A outer s H E hr => ?_
  have hu := hu_of hr
  refine ⟨_, (pss_cons (ps_if ((pw_or (pt_not (pt_val (C8.pe_c (ok_is_word T) hr (by decide) (by rfl) (pa_cons (pv 1) pa_nil)))) (pw_or1 (pt_not (pt_val (pe_callB (C8.call_isC T.s_Kind) (by rfl) T.f_isinstance (by decide +kernel) (pa_cons (pv 2) (pa_cons (pe_cls (by rfl) T.g_Kind) pa_nil)))))))).pt
      (pss_one ps_never)
      pss_nil)
    (pss_cons (ps_if ((pw_and (pt_cmpR op_notN (pe_fld (pv 2) rfl) pe_non (nomark _)) (pw_and1 (pt_cmp (pc_dnotin hu (pe_fld (pv 2) rfl) (pe_fld (pv 0) rfl)))))).pt
      (pss_one ps_never)
      pss_nil)
    (pss_cons (ps_if ((pw_and (pt_cmp (pc_dnotin hu (pv 1) (pe_fld (pv 0) rfl))) (pw_and1 (pt_cmpR op_eq (pe_callB call_lenD (by rfl) T.f_len (by decide +kernel) (pa_cons (pe_fld (pv 0) rfl) pa_nil)) (C8.pe_gc (by rfl) T.i_MOST_KINDS) (nomark _))))).pt
      (pss_one ps_never)
      pss_nil)
    (pss_cons (ps_set (i := 3) nd rfl (Or.inr rfl) (pe_star (C8.pe_mt0 (ok_Fleet_sources T) hr (by decide) (pv 0)) (pv 1) (pe_fld (pv 2) rfl)))
    (pss_cons (ps_if (pt_cmpR op_gt (pe_callB (cr_max rfl) (by rfl) T.f_max (by decide +kernel) (pa_cons (pe_lock (pe_lc (own := [("other", 4)]) (g := gName 4) rfl nd (pi_keys (pv 3)) (blkOk_by (own := [("other", 4)]) (N := ["self", "name", "kind", "sources", "other"]) (sc := defScope (inClass (top 68) 6)) (by decide +kernel)) (fun _ _ _ _ _ => (pg_name (i := 4) nd rfl (Or.inl rfl))) (fun _ _ _ _ _ => pts_nil) (fun _ _ _ _ _ => (pe_callB (call_len_seqK (K := K) rfl) (by rfl) T.f_len (by decide +kernel) (pa_cons (C8.pe_c (ok_chain_of T) hr (by decide) (by rfl) (pa_cons (pv 3) (pa_cons (pv 4) pa_nil))) pa_nil))))) pa_nil)) (C8.pe_gc (by rfl) T.i_MOST_CHAIN) (nomark _))
      (pss_one ps_never)
      pss_nil)
    (pss_one (ps_dput hu (pe_fld (pv 0) rfl) (pv 1) (C8.pe_mt0 (ok_Kind_twin T) hr (by decide) (pv 2)) rfl))))))), ?_⟩
  rintro vs B M R ⟨a, kd, rd, ks, cs, v, kx, rfl, fl, ⟨b, bx, rfl, hb⟩, ok, hn, hnew, hz, hsrc, hch, k⟩
  refine wS.post ?_
  obtain ⟨⟨dx, h1⟩, ⟨kvs, h2, h3⟩, ⟨rs, h4, h5⟩⟩ := id fl
  have hl := f2_len h3
  have kr := is_ne h2 h4
  repeat trivial
  refine ⟨kx.name, rfl, ok.n, fun B1 e1 => ?_⟩
  repeat trivial
  refine wc_isC (e1 _ _ hb) ?_
  repeat trivial
  refine ⟨b, _, bx, _, _, rfl, .inl (e1 _ _ hb), T.c_Kind, T.n_Kind_own_source, kL3 kx, ?_⟩
  repeat trivial
  refine and_cut (fun B2 e2 => ?_) fun hc => ?_
  rotate_left
  · cases hsg : kx.src with
    | none =>
      rw [hsg] at hc
      cases hc
    | some z =>
      repeat trivial
      refine ⟨b, _, bx, _, _, rfl, .inl (e1 _ _ hb), T.c_Kind, T.n_Kind_own_source, kL3 kx, ?_⟩
      rw [hsg, show oS (some z) = V.str z from rfl]
      repeat trivial
      refine ⟨a, _, dx, _, _, rfl, .inl (e1 _ _ h1), T.c_Fleet, T.n_Fleet_kinds, fL1 .., ?_⟩
      refine ⟨kd, kvs, .inr z, rfl, rfl, .inr (.inl h2), ?_⟩
      rw [has_kind h3, decide_eq_true (hsrc z hsg)]
      exact ⟨false, rfl, rfl, Ex.refl _, rfl⟩
  have e12 := e1.trans e2
  repeat trivial
  refine ⟨a, _, dx, _, _, rfl, .inl (e12 _ _ h1), T.c_Fleet, T.n_Fleet_kinds, fL1 .., ?_⟩
  refine ⟨kd, kvs, .inr kx.name, rfl, rfl, .inr (.inl h2), ?_⟩
  rw [has_kind h3, decide_eq_false hnew]
  refine bX (bT ?_)
  repeat trivial
  refine ⟨a, _, dx, _, _, rfl, .inl (e12 _ _ h1), T.c_Fleet, T.n_Fleet_kinds, fL1 .., ?_⟩
  repeat trivial
  refine wc_lenD h2 ?_
  repeat trivial
  refine bD (fun z => absurd (V.int.inj z) (by omega)) fun _ => ?_
  repeat trivial
  refine w_star fun p pB pM => ?_
  have pk : kd ≠ p := fun z => by rw [← z, h2] at pM; cases pM
  have pr : rd ≠ p := fun z => by rw [← z, h4] at pM; cases pM
  have fl2 : ∀ P, FleetAt K B (updM M p P) a kd rd ks cs := fun P => ⟨⟨dx, h1⟩, ⟨kvs, by rw [updM_ne pk]; exact h2, h3⟩, ⟨rs, by rw [updM_ne pr]; exact h4, h5⟩⟩
  repeat trivial
  refine ⟨a, dx, _, rfl, e12 _ _ h1, fNo .., ?_⟩
  repeat trivial
  refine ⟨a, kd, rd, ks, cs, (), rfl, (fl2 _).ex e12, hn, by omega, fun B3 d e3 hd => ?_⟩
  refine ⟨d, _, M, rfl, hd, rfl, by rw [List.length_map]; omega, fun q qp mq => ?_⟩
  rw [merge_nil (src_nodup hn)]
  have e123 := e12.trans e3
  repeat trivial
  refine ⟨b, _, bx, _, _, rfl, .inl (e123 _ _ hb), T.c_Kind, T.n_Kind_own_source, kL3 kx, .inr kx.name, rfl, rfl, ?_⟩
  rw [putK_fresh (by
    rw [List.map_map]
    intro hm
    obtain ⟨y, hy, ey⟩ := List.mem_map.mp hm
    exact hnew (by rw [← Sum.inr.inj ey]; exact List.mem_map_of_mem hy)), show ks.map srcKv ++ [(Sum.inr kx.name, oS kx.src)] = (ks ++ [kx]).map srcKv by rw [List.map_append] <;> rfl]
  repeat trivial
  refine w_lockE (updM_same (M := M) (a := p)) fun od => ?_
  refine w_lc (i_keys ?_)
  repeat trivial
  refine ⟨p, od, _, rfl, updM_same, _, _, _, wb_keys, by rw [List.length_map, List.length_append]; simp; omega, fun i acc _ => ∃ ns : List Int, acc = ns.map V.int ∧ ns.length = i ∧ ∀ m ∈ ns, m ≤ 4, ⟨[], rfl, rfl, fun _ h => by cases h⟩, fun D hD hM => ⟨fun P => ?_, ?_, ?_⟩⟩
  · rw [updM_ne fun z => by rw [← z, updM_same] at hM; cases hM]
    exact updM_same
  · rintro i x acc B' B2 hi hl2 f1 ⟨ns, rfl, hns, hle⟩ f2 ⟨kk, vv, hk, rfl⟩
    rw [List.getElem?_map] at hk
    obtain ⟨y, hy, ey⟩ := Option.map_eq_some_iff.mp hk
    have ek : kk = .inr y.name := (congrArg Prod.fst ey).symm
    subst ek
    obtain ⟨l, hc, hl4⟩ := hch y.name (List.mem_map_of_mem (List.mem_of_getElem? hy))
    have pD : p ≠ D := fun z => by rw [← z, updM_same] at hM; cases hM
    repeat trivial
    refine ⟨p, y.name, _, l, rfl, .inr (.inr ⟨od, by rw [updM_ne pD]; exact updM_same⟩), hc, hl4, fun B5 g f5 hg => ?_⟩
    repeat trivial
    refine wc_lenL (.of hg) ⟨rfl, f5, ns ++ [_], by rw [List.map_append]; rfl, by simp [hns], fun m hm => ?_⟩
    rcases List.mem_append.mp hm with hm | hm
    · exact hle m hm
    · rw [List.mem_singleton.mp hm, List.length_map, List.length_reverse]
      omega
  rintro acc B4 f1 nD hl2 ⟨ns, rfl, hns, hle⟩
  refine ⟨_, rfl, ?_⟩
  rw [updM_updM]
  have f3 := exNew (o := .lst (ns.map V.int)) nD
  repeat trivial
  refine wc_maxL (.of upd_same) (by rw [hns, List.length_map, List.length_append]; simp) fun m hm _ => ?_
  repeat trivial
  refine bD (fun z => absurd (hle m hm) (by omega)) fun _ => ?_
  have e5 := e123.trans (f1.trans f3)
  repeat trivial
  refine ⟨b, bx, _, rfl, e5 _ _ hb, (lk_past (by decide +kernel)).trans ((lk_past (by decide +kernel)).trans ((lk_past (by decide +kernel)).trans rfl)), ?_⟩
  repeat trivial
  refine ⟨_, kx, rfl, ⟨b, bx, rfl, e5 _ _ hb⟩, ok, fun B6 u e6 hu => ?_⟩
  have e56 := e5.trans e6
  repeat trivial
  refine ⟨a, _, dx, _, _, rfl, .inl (e56 _ _ h1), T.c_Fleet, T.n_Fleet_kinds, fL1 .., ?_⟩
  repeat trivial
  refine ⟨kd, kvs, .inr kx.name, rfl, rfl, by rw [updM_ne pk]; exact h2, by omega, ?_⟩
  refine ⟨B6, updM M kd (is (.dK (putK kvs (.inr kx.name) u))), fun H kk => Ok.dropM (a := p) (P := is (.dK ((ks ++ [kx]).map srcKv))) (by rw [updM_ne pk.symm]; exact pM) (by rw [updM_comm pk] ; exact kk), ?_⟩
  refine k B6 _ e56 ⟨⟨dx, e56 _ _ h1⟩, ⟨_, updM_same, ?_⟩, ⟨rs, by rw [updM_ne kr.symm]; exact h4, f2_mono (fun _ _ => CallV.ex e56) h5⟩⟩
  rw [putK_fresh (fl_names h3 hnew)]
  exact Paired.snoc (f2_mono (fun _ _ => KvKind.ex e56) h3) ⟨rfl, hu⟩
end
end Ab
/-! ## E2 -/
set_option Elab.async false
set_option linter.all false
set_option maxRecDepth 100000
set_option maxHeartbeats 2000000
/-! E2: operators that an own class defines by its methods: in, len, [k] = v, +, &, bool, != -/
namespace Ab
open PySem PySem.Spec L2 PyProof.Rows
section
variable {X : Cx} {k j : Nat} {C : Addr} {m : PySem.Str} {S : Spc} {pins : List (Addr × Obj)} {σ : L2.St} {H : Hp} {s : Shared}
/-- the method runs -/
theorem own_run {f : Addr} {fd : FuncData} {ps : List PySem.Str} {Q : VK} {us : List Value} {vs : List V} (F : FnOk X.prog X.w X.K X.mg X.base C8.CX0 k f fd ps (Pm S)) (hr : Room j X.A) (hk : k ≤ j) (b : Binds X.K fd ps []) (I : Inv X pins σ H s) (r : Vals vs us) (h : Pm S vs H Q C8.E0) :
    wpAny (model X.prog X.w) X.A (call (.ref f) us) (EP X pins σ Q) X.xe s := run_fn F (hr.mono hk) b .nil C8.pass0 I r (by rw [List.append_nil]; exact h)
/-- .. one level in -/
theorem own_run1 {f : Addr} {fd : FuncData} {ps : List PySem.Str} {Q : VK} {us : List Value} {vs : List V} {E : Value → Shared → Prop} (F : FnOk X.prog X.w X.K X.mg X.base C8.CX0 k f fd ps (Pm S)) (hr : Room j X.A) (hk : k + 1 ≤ j) (b : Binds X.K fd ps []) (I : Inv X pins σ H s) (r : Vals vs us) (h : Pm S vs H Q C8.E0) :
    wpAny (model X.prog X.w) X.A.in1 (call (.ref f) us) (EP X pins σ Q) E s := by
  have hl : us.length = ps.length := by rw [← r.length]; exact F.len _ _ _ _ h
  refine wpAny_call (codeAny_mono (F.run X.A.in1 X.stack s H ⟨us, []⟩ us vs Q C8.E0 (hr.mono hk).in1 I.env0.in1 (by have z := b s us I.kIn (by simpa using hl); simpa using z) r h) fun r s' hq => ?_)
  cases r with
  | error e => exact False.elim hq
  | ok fl =>
    cases fl with
    | ret u => exact I.after hq
    | next => exact False.elim hq
    | brk => exact False.elim hq
    | cont => exact False.elim hq
theorem own_look {a dx : Addr} {fs : List (PySem.Str × V)} (I : Inv X pins σ H s) (ha : H a = some (.ins C dx fs)) : ∃ ox od, PySem.W.InstAt s.heap a ox C od := by
  obtain ⟨mA, J, _⟩ := ins_get I.hok ha
  obtain ⟨od, J, _⟩ := J.look
  exact ⟨_, od, J⟩
/-- x not in o -/
def rOwnNin (C : Addr) (S : Spc) : R2 := fun x y H Q => ∃ a dx fs, y = .ref a ∧ H a = some (.ins C dx fs) ∧ Pm S [.ref a, x] H (fun v H' => ∃ b, v = .bl b ∧ Q (.bl (!b)) H') C8.E0
theorem op_ownNin (c : C8.Met X.prog X.w X.K X.mg X.base k C "__contains__" (Pm S) []) (hr : Room j X.A) (hk : k ≤ j) : OpR X (compareOp .NotIn) (rOwnNin C S) := by
  intro pins s σ H x y v u Q I rx ry h
  obtain ⟨a, dx, fs, rfl, ha, h⟩ := h
  cases ry
  obtain ⟨f, fd, ps, ds, hc, hm, F, b, d⟩ := c.ex
  cases d
  obtain ⟨ox, od, J⟩ := own_look I ha
  obtain ⟨m, hF⟩ := I.fr
  refine PySem.W.notIn_K hF I.ok.mod.kin J hm.at_ hm.fn (wpAny_mono (own_run (us := [.ref a, v]) (vs := [.ref a, x]) F hr hk b I (.cons rfl (.cons rx .nil)) h) (fun r s' q => ?_) fun _ _ z => z)
  obtain ⟨z, H', I', rz, bb, rfl, q⟩ := q
  cases rz
  exact wpAny_truthy_bool ⟨.bl (!bb), H', I', rfl, q⟩
/-- o & p, both instances of the class -/
def rOwnBin (C : Addr) (S : Spc) : R2 := fun x y H Q => ∃ a dx fs b dy gs, x = .ref a ∧ y = .ref b ∧ H a = some (.ins C dx fs) ∧ H b = some (.ins C dy gs) ∧ Pm S [.ref a, .ref b] H (fun v H' => (∃ c, v = .ref c) ∧ Q v H') C8.E0
theorem op_ownAnd (c : C8.Met X.prog X.w X.K X.mg X.base k C "__and__" (Pm S) []) (hs : PySem.W.selfFirst X.K C = true) (hr : Room j X.A) (hk : k ≤ j) : OpR X (binaryOp .BitAnd) (rOwnBin C S) := by
  intro pins s σ H x y v u Q I rx ry h
  obtain ⟨a, dx, fs, b', dy, gs, rfl, rfl, ha, hb, h⟩ := h
  cases rx
  cases ry
  obtain ⟨f, fd, ps, ds, hc, hm, F, b, d⟩ := c.ex
  cases d
  obtain ⟨ox, od, J⟩ := own_look I ha
  obtain ⟨ox', od', J'⟩ := own_look I hb
  obtain ⟨m, hF⟩ := I.fr
  refine PySem.W.binop_K (op := .BitAnd) hF I.ok.mod.kin J J'.type hs hm.at_ hm.fn (wpAny_mono (own_run (us := [.ref a, .ref b']) (vs := [.ref a, .ref b']) F hr hk b I (.cons rfl (.cons rfl .nil)) h) (fun r s' q => ?_) fun _ _ z => z)
  obtain ⟨z, H', I', rz, ⟨c, rfl⟩, q⟩ := q
  cases rz
  exact ⟨.ref c, H', I', rfl, q⟩
/-- o + a whole number -/
def rOwnAddI (C : Addr) (S : Spc) : R2 := fun x y H Q => ∃ a dx fs i, x = .ref a ∧ y = .int i ∧ H a = some (.ins C dx fs) ∧ Pm S [.ref a, .int i] H (fun v H' => (∃ c, v = .ref c) ∧ Q v H') C8.E0
theorem op_ownAddI {g : Addr} (c : C8.Met X.prog X.w X.K X.mg X.base k C "__add__" (Pm S) []) (hs : PySem.W.selfFirst X.K C = true) (h1 : PySem.W.findIn X.K (.ref C) "__radd__" = some (some (.ref g))) (h2 : (PySem.W.findIn X.K (.type "int") "__add__").isSome = true)
    (h3 : (PySem.W.findIn X.K (.type "int") "__radd__").isSome = true) (h4 : PySem.W.subIn X.K (.type "int") (.ref C) = some false) (hr : Room j X.A) (hk : k ≤ j) : OpR X (binaryOp .Add) (rOwnAddI C S) := by
  intro pins s σ H x y v u Q I rx ry h
  obtain ⟨a, dx, fs, i, rfl, rfl, ha, h⟩ := h
  cases rx
  obtain ⟨t, rfl⟩ := ry
  obtain ⟨f, fd, ps, ds, hc, hm, F, b, d⟩ := c.ex
  cases d
  obtain ⟨ox, od, J⟩ := own_look I ha
  obtain ⟨m, hF⟩ := I.fr
  obtain ⟨fo, e2⟩ := Option.isSome_iff_exists.mp h2
  obtain ⟨ro, e3⟩ := Option.isSome_iff_exists.mp h3
  refine PySem.W.ksp_binT (op := .Add) (T := "int") hF I.ok.mod.kin J rfl hs hm.at_ hm.fn h1 (.inr ⟨g, rfl⟩) e2 e3 h4 (wpAny_mono (own_run (us := [.ref a, .int i t]) (vs := [.ref a, .int i]) F hr hk b I (.cons rfl (.cons ⟨t, rfl⟩ .nil)) h) (fun r s' q => ?_) fun _ _ z => z)
  obtain ⟨z, H', I', rz, ⟨c, rfl⟩, q⟩ := q
  cases rz
  exact ⟨.ref c, H', I', rfl, q⟩
/-- len(o) -/
def rOwnLen (C : Addr) (S : Spc) : List V → Hp → VK → Prop := fun xs H Q => ∃ a dx fs, xs = [.ref a] ∧ H a = some (.ins C dx fs) ∧ Pm S [.ref a] H (fun v H' => ∃ n : Int, v = .int n ∧ 0 ≤ n ∧ n < 100000 ∧ Q (.int n) H') C8.E0
theorem call_ownLen (c : C8.Met X.prog X.w X.K X.mg X.base k C "__len__" (Pm S) []) (hr : Room j X.A) (hk : k + 1 ≤ j) : CallR X (.builtin "len") (rOwnLen C S) := by
  intro pins s σ H xs us Q I r h
  obtain ⟨a, dx, fs, rfl, ha, h⟩ := h
  rw [Vals.ref1 r]
  obtain ⟨f, fd, ps, ds, hc, hm, F, b, d⟩ := c.ex
  cases d
  obtain ⟨ox, od, J⟩ := own_look I ha
  obtain ⟨m, hF⟩ := I.fr
  refine PySem.W.len_K hF I.ok.mod.kin J hm.at_ hm.fn (wpAny_mono (own_run1 (us := [.ref a]) (vs := [.ref a]) F hr hk b I (.cons rfl .nil) h) (fun r s' q => ?_) fun _ _ z => z)
  obtain ⟨z, H', I', rz, n, rfl, h0, h9, q⟩ := q
  obtain ⟨t, rfl⟩ := rz
  exact ⟨⟨h0, by omega⟩, ⟨.int n, H', I'.tok _, ⟨_, rfl⟩, q⟩⟩
/-- o[k] = v -/
def rOwnSet (C : Addr) (S : Spc) : V → V → V → Hp → (Hp → Prop) → Prop := fun o i v H Q => ∃ a dx fs, o = .ref a ∧ H a = some (.ins C dx fs) ∧ Pm S [.ref a, i, v] H (fun _ H' => Q H') C8.E0
theorem set_own (c : C8.Met X.prog X.w X.K X.mg X.base k C "__setitem__" (Pm S) []) (hq : PySem.W.noSeq X.K C = true) (hr : Room j X.A) (hk : k ≤ j) : PSet X (rOwnSet C S) := by
  intro pins s σ H o i v ov iv u Q I ro ri rv h
  obtain ⟨a, dx, fs, rfl, ha, h⟩ := h
  cases ro
  obtain ⟨f, fd, ps, ds, hc, hm, F, b, d⟩ := c.ex
  cases d
  obtain ⟨ox, od, J⟩ := own_look I ha
  obtain ⟨m, hF⟩ := I.fr
  refine PySem.W.ksp_setItem hF I.ok.mod.kin J hq hm.at_ hm.fn (wpAny_mono (own_run (us := [.ref a, iv, u]) (vs := [.ref a, i, v]) F hr hk b I (.cons rfl (.cons ri (.cons rv .nil))) h) (fun r s' q => ?_) fun _ _ z => z)
  obtain ⟨z, H', I', rz, q⟩ := q
  exact ⟨H', I', q⟩
end
end Ab
/-! ## E3 -/
set_option Elab.async false
set_option linter.all false
set_option maxRecDepth 100000
set_option maxHeartbeats 2000000
/-! E3: bool(o), o != p by own methods -/
namespace Ab
open PySem PySem.Spec L2 PyProof.Rows
theorem meets_bool_own {prog : Program} {w : World} (x : Value) : MeetsIn prog w (Builtin.«bool.__new__» ⟨[.type "bool", x], []⟩) (fun A R s => wpAny (model prog w) A.in1 (truthy x) (fun b s' => R (.ok (.ret (.bool b))) s') (fun e s' => R (.error e) s') s) :=
  .of_wp fun A R s hs => by
    obtain ⟨hp, g, d, tk, os⟩ := s
    have f1 := F.conv_sub_bool
    repeat (any_goals (first | assumption | (refine wpAny_bind (m := truthy _) (wpAny_mono hs (fun b s' hb => ?_) fun _ _ z => z)) | wp_step))
    all_goals first | exact ⟨_, rfl, hb⟩ | exact hb | skip
section
variable {X : Cx} {k j : Nat} {C : Addr} {S : Spc} {pins : List (Addr × Obj)} {σ : L2.St} {H : Hp} {s : Shared}
theorem own_run2 {f : Addr} {fd : FuncData} {ps : List PySem.Str} {Q : VK} {us : List Value} {vs : List V} {E : Value → Shared → Prop} (F : FnOk X.prog X.w X.K X.mg X.base C8.CX0 k f fd ps (Pm S)) (hr : Room j X.A) (hk : k + 2 ≤ j) (b : Binds X.K fd ps []) (I : Inv X pins σ H s) (r : Vals vs us) (h : Pm S vs H Q C8.E0) :
    wpAny (model X.prog X.w) X.A.in1.in1 (call (.ref f) us) (EP X pins σ Q) E s := by
  have hl : us.length = ps.length := by rw [← r.length]; exact F.len _ _ _ _ h
  refine wpAny_call (codeAny_mono (F.run X.A.in1.in1 X.stack s H ⟨us, []⟩ us vs Q C8.E0 (hr.mono hk).in1.in1 I.env0.in1.in1 (by have z := b s us I.kIn (by simpa using hl); simpa using z) r h) fun r s' hq => ?_)
  cases r with
  | error e => exact False.elim hq
  | ok fl =>
    cases fl with
    | ret u => exact I.after hq
    | next => exact False.elim hq
    | brk => exact False.elim hq
    | cont => exact False.elim hq
/-- bool(o) -/
def rOwnBool (C : Addr) (S : Spc) : List V → Hp → VK → Prop := fun xs H Q => ∃ a dx fs, xs = [.ref a] ∧ H a = some (.ins C dx fs) ∧ Pm S [.ref a] H (fun v H' => ∃ b, v = .bl b ∧ Q (.bl b) H') C8.E0
theorem call_ownBool (c : C8.Met X.prog X.w X.K X.mg X.base k C "__bool__" (Pm S) []) (hr : Room j X.A) (hk : k + 2 ≤ j) : CallR X (.type "bool") (rOwnBool C S) := by
  intro pins s σ H xs us Q I r h
  obtain ⟨a, dx, fs, rfl, ha, h⟩ := h
  rw [Vals.ref1 r]
  obtain ⟨f, fd, ps, ds, hc, hm, F, b, d⟩ := c.ex
  cases d
  obtain ⟨ox, od, J⟩ := own_look I ha
  obtain ⟨m, hF⟩ := I.fr
  refine callType_newIn PySem.F.called_bool PySem.F.newNe_bool (PySem.F.typeCall_bool_1 _) (PySem.F.newCall_bool_1 _) (fun obj => PySem.F.args_object_init_2 obj _) PySem.F.entry_bool_new (meets_bool_own _) ?_
  refine PySem.W.truthy_K hF I.ok.mod.kin J hm.at_ hm.fn (wpAny_mono (own_run2 (us := [.ref a]) (vs := [.ref a]) F hr hk b I (.cons rfl .nil) h) (fun r s' q => ?_) fun _ _ z => z)
  obtain ⟨z, H', I', rz, bb, rfl, q⟩ := q
  cases rz
  exact ⟨rfl, .bl bb, H', I', rfl, q⟩
end
/-! o != p -/
section
variable {prog : Program} {w : World} {A : Around} {E : Value → Shared → Prop} {s : Shared} {K : PySem.W.Frag} {x y C L f : Addr} {h₀ : Heap} {m : PySem.Str → Option Value} {ox oy : Obj} {od od' : Option Obj}
theorem ne_body {Q : Fin → Shared → Prop} (hu : A.units < cLine) (X : K.In s.heap) (I : PySem.W.InstAt s.heap x ox C od) (he : PySem.W.findIn K (.ref C) "__eq__" = some (some (.ref f))) (hf : PySem.W.isFn K (.ref f) = true)
    (h : wpAny (model prog w) A (call (.ref f) [.ref x, .ref y]) (fun v s' => ∃ b, v = .bool b ∧ Q (.done (.ret (.bool (!b)))) s') E s) : wpAny (model prog w) A (Builtin.«object.__ne__» ⟨[.ref x, .ref y], []⟩) Q E s := by
  obtain ⟨hh, g, d, t, os⟩ := s
  unfold Builtin.«object.__ne__»
  repeat (first
    | with_reducible refine wpAny_cRoomFor hu ?_
    | (refine wpAny_bind (m := callSpecialIfBound? (.ref x) (Str.ofString "__eq__") [.ref y])
        (PySem.W.ifBound_K X I he hf (wpAny_mono h (fun r s' hr => by
          obtain ⟨b, rfl, hq⟩ := hr
          repeat (first | exact hq | exact wpAny_pure hq | exact wpAny_truthy_bool hq | (refine wpAny_bind (m := truthy (.bool _)) (wpAny_truthy_bool ?_)) | wp_step)) fun _ _ e => e)))
    | wp_step)
theorem ne_check {Q : Unit → Shared → Prop} (X : K.In s.heap) (I : PySem.W.InstAt s.heap x ox C od) (hm : PySem.W.mroIn K C (.type "object") = some true) (h : Q () s) : wpAny (model prog w) A (checkBuiltinCall "object.__ne__" ⟨[.ref x, .ref y], []⟩) Q E s := by
  have hk := PySem.F.cmpKind_ne
  have hs := PySem.F.cmpSplit_ne
  simp only [checkBuiltinCall, hk, hs]
  refine wpAny_bind ?_
  · unfold isInstance
    refine wpAny_bind (I.type.here ((PySem.W.looks_mroIn X hm).here ?_))
    simp only [Bool.not_true, Bool.false_eq_true, if_false]
    have ha := PySem.F.cmpArgs_ne (.ref x) (.ref y)
    cases hsig : Manifest.signature? "object.__ne__" with
    | none => exact wpAny_pure h
    | some sig =>
      simp only [argsOk, hsig] at ha
      have h2 : Bind.checkArgs "object.__ne__" sig ⟨[.ref x, .ref y], []⟩ = pure () := ha
      show wpAny _ A (Bind.checkArgs "object.__ne__" sig ⟨[.ref x, .ref y], []⟩) Q E _
      rw [h2]
      exact wpAny_pure h
theorem ne_try {Q : Option Value → Shared → Prop} (hu : A.units + 1 < cLine) (X : K.In s.heap) (I : PySem.W.InstAt s.heap x ox C od) (hm : PySem.W.mroIn K C (.type "object") = some true) (hn : PySem.W.findIn K (.ref C) "__ne__" = some (some (.builtin "object.__ne__")))
    (he : PySem.W.findIn K (.ref C) "__eq__" = some (some (.ref f))) (hf : PySem.W.isFn K (.ref f) = true) (h : wpAny (model prog w) A.in1 (call (.ref f) [.ref x, .ref y]) (fun v s' => ∃ b, v = .bool b ∧ Q (some (.bool (!b))) s') E s) :
    wpAny (model prog w) A (tryCompare (.ref x) "__ne__" (.ref y)) Q E s := by
  simp only [tryCompare, callSpecialIfBound?, bindSpecialIfBound?]
  refine wpAny_bind (wpAny_holding (wpAny_bind (wpAny_bind (wpAny_bind (I.type.here ((PySem.W.looks_findIn X hn).here ?_))))))
  simp only [PySem.F.cmp_object.ne.bind]
  refine wpAny_bind (wpAny_askSetting (wpAny_ite ?_))
  have run : wpAny (model prog w) A (call (.builtin "object.__ne__") [.ref x, .ref y]) (fun v s' => ∃ b, v = .bool b ∧ Q (some v) s') E s :=
    wpAny_call (codeAny_call_builtin PySem.F.cmp_object.ne.plain PySem.F.cmpEntry_ne (ne_check X I hm (ne_body (A := A.in1) hu X I he hf (wpAny_mono h (fun v s' hv => by
      obtain ⟨b, rfl, hq⟩ := hv
      exact ⟨b, rfl, !b, rfl, hq⟩) fun _ _ e => e))))
  split
  · refine wpAny_bind (wpAny_pure (wpAny_pure (wpAny_bind (wpAny_mono run (fun v s' hv => ?_) fun _ _ e => e))))
    obtain ⟨b, rfl, q⟩ := hv
    exact wpAny_pure (wpAny_pure q)
  · refine wpAny_tryCatch (wpAny_bind (wpAny_pure (wpAny_pure (wpAny_bind (wpAny_mono run (fun v s' hv => ?_) fun _ _ e => e)))))
    obtain ⟨b, rfl, q⟩ := hv
    exact wpAny_pure (wpAny_pure q)
theorem ne_own {Q : Value → Shared → Prop} (hu : A.units + 1 < cLine) (X : K.In s.heap) (I : PySem.W.InstAt s.heap x ox C od) (J : PySem.W.InstAt s.heap y oy C od') (hm : PySem.W.mroIn K C (.type "object") = some true) (hn : PySem.W.findIn K (.ref C) "__ne__" = some (some (.builtin "object.__ne__")))
    (he : PySem.W.findIn K (.ref C) "__eq__" = some (some (.ref f))) (hf : PySem.W.isFn K (.ref f) = true) (h : wpAny (model prog w) A.in1 (call (.ref f) [.ref x, .ref y]) (fun v s' => ∃ b, v = .bool b ∧ Q (.bool (!b)) s') E s) :
    wpAny (model prog w) A (richCompare .NotEq (.ref x) (.ref y)) Q E s := by
  unfold richCompare
  simp only [oneThing_ref]
  refine wpAny_holding (wpAny_bind (wpAny_cRoomFor (Nat.lt_of_succ_lt hu) ?_))
  rw [cmpInfo_NotEq]
  dsimp only
  refine wpAny_bind (I.type.here (wpAny_bind (J.type.here ?_)))
  rw [show (Value.ref C != Value.ref C) = false from by simp]
  simp only [Bool.false_eq_true, if_false]
  refine wpAny_bind (wpAny_pure ?_)
  simp only [Bool.false_eq_true, if_false]
  refine wpAny_bind (wpAny_mono (ne_try hu X I hm hn he hf (Q := fun r s' => ∃ b, r = some (.bool b) ∧ Q (.bool b) s') (wpAny_mono h (fun v s' hv => ?_) fun _ _ e => e)) (fun r s' hr => ?_) fun _ _ e => e)
  · obtain ⟨b, rfl, q⟩ := hv
    exact ⟨b, rfl, !b, rfl, q⟩
  · obtain ⟨b, rfl, q⟩ := hr
    first | exact wpAny_pure q | exact wpAny_pure (wpAny_pure q)
end
section
variable {X : Cx} {k j : Nat} {C : Addr} {S : Spc}
def rOwnNe (C : Addr) (S : Spc) : R2 := fun x y H Q => ∃ a dx fs b dy gs, x = .ref a ∧ y = .ref b ∧ H a = some (.ins C dx fs) ∧ H b = some (.ins C dy gs) ∧ Pm S [.ref a, .ref b] H (fun v H' => ∃ c, v = .bl c ∧ Q (.bl (!c)) H') C8.E0
theorem op_ownNe (c : C8.Met X.prog X.w X.K X.mg X.base k C "__eq__" (Pm S) []) (hm : PySem.W.mroIn X.K C (.type "object") = some true) (hn : PySem.W.findIn X.K (.ref C) "__ne__" = some (some (.builtin "object.__ne__"))) (hr : Room j X.A) (hk : k + 1 ≤ j) : OpR X (compareOp .NotEq) (rOwnNe C S) := by
  intro pins s σ H x y v u Q I rx ry h
  obtain ⟨a, dx, fs, b', dy, gs, rfl, rfl, ha, hb, h⟩ := h
  cases rx
  cases ry
  obtain ⟨f, fd, ps, ds, hc, me, F, b, d⟩ := c.ex
  cases d
  obtain ⟨ox, od, J⟩ := own_look I ha
  obtain ⟨ox', od', J'⟩ := own_look I hb
  show wpAny (model X.prog X.w) X.A (richCompare .NotEq (.ref a) (.ref b')) (EP X pins σ Q) X.xe s
  refine ne_own (by have := hr.units; omega) I.kIn J J' hm hn me.at_ me.fn (wpAny_mono (own_run1 (us := [.ref a, .ref b']) (vs := [.ref a, .ref b']) F hr hk b I (.cons rfl (.cons rfl .nil)) h) (fun r s' q => ?_) fun _ _ z => z)
  obtain ⟨z, H', I', rz, c, rfl, q⟩ := q
  cases rz
  exact ⟨c, rfl, .bl (!c), H', I', rfl, q⟩
end
end Ab
/-! ## E4 -/
set_option Elab.async false
set_option linter.all false
set_option maxRecDepth 100000
set_option maxHeartbeats 2000000
/-! E4: readings over own operators; comprehensions of two clauses -/
namespace Ab
open PySem L2 PyProof.Rows
open Evl (Ex)
section
variable {σ : L2.St} {B : Hp} {M : Mu} {R : V → Hp → Mu → Prop} {C : Addr} {S : Spc} {a b dx dy : Addr} {fs gs : List (Str × V)}
theorem wr_ownNin {x : V} (h : B a = some (.ins C dx fs)) (k : S [.ref a, x] B M fun v B' M' => ∃ b, v = .bl b ∧ R (.bl (!b)) B' M') : wR (rOwnNin C S) x (.ref a) B M R := fun H Q ok q =>
  ⟨a, dx, fs, rfl, ok.at h, B, M, _, ok, k, fun v B' M' H' ok' ⟨b, e, r⟩ => ⟨b, e, q _ _ _ _ ok' r⟩⟩
theorem wr_ownAnd (h : B a = some (.ins C dx fs)) (h' : B b = some (.ins C dy gs)) (k : S [.ref a, .ref b] B M fun v B' M' => (∃ c, v = .ref c) ∧ R v B' M') : wR (rOwnBin C S) (.ref a) (.ref b) B M R := fun H Q ok q =>
  ⟨a, dx, fs, b, dy, gs, rfl, rfl, ok.at h, ok.at h', B, M, _, ok, k, fun v B' M' H' ok' ⟨e, r⟩ => ⟨e, q _ _ _ _ ok' r⟩⟩
theorem wr_ownAddI {i : Int} (h : B a = some (.ins C dx fs)) (k : S [.ref a, .int i] B M fun v B' M' => (∃ c, v = .ref c) ∧ R v B' M') : wR (rOwnAddI C S) (.ref a) (.int i) B M R := fun H Q ok q =>
  ⟨a, dx, fs, i, rfl, rfl, ok.at h, B, M, _, ok, k, fun v B' M' H' ok' ⟨e, r⟩ => ⟨e, q _ _ _ _ ok' r⟩⟩
theorem wr_ownNe (h : B a = some (.ins C dx fs)) (h' : B b = some (.ins C dy gs)) (k : S [.ref a, .ref b] B M fun v B' M' => ∃ c, v = .bl c ∧ R (.bl (!c)) B' M') : wR (rOwnNe C S) (.ref a) (.ref b) B M R := fun H Q ok q =>
  ⟨a, dx, fs, b, dy, gs, rfl, rfl, ok.at h, ok.at h', B, M, _, ok, k, fun v B' M' H' ok' ⟨c, e, r⟩ => ⟨c, e, q _ _ _ _ ok' r⟩⟩
theorem wc_ownLen (h : B a = some (.ins C dx fs)) (k : S [.ref a] B M fun v B' M' => ∃ n : Int, v = .int n ∧ 0 ≤ n ∧ n < 100000 ∧ R (.int n) B' M') : wC (rOwnLen C S) [.ref a] B M R := fun H Q ok q =>
  ⟨a, dx, fs, rfl, ok.at h, B, M, _, ok, k, fun v B' M' H' ok' ⟨n, e, h1, h2, r⟩ => ⟨n, e, h1, h2, q _ _ _ _ ok' r⟩⟩
theorem wc_ownBool (h : B a = some (.ins C dx fs)) (k : S [.ref a] B M fun v B' M' => ∃ b, v = .bl b ∧ R (.bl b) B' M') : wC (rOwnBool C S) [.ref a] B M R := fun H Q ok q =>
  ⟨a, dx, fs, rfl, ok.at h, B, M, _, ok, k, fun v B' M' H' ok' ⟨b, e, r⟩ => ⟨b, e, q _ _ _ _ ok' r⟩⟩
/-- o[i] = v by the own method -/
theorem g_ownSet {to ti : TE} {v : V} {nx : L2.St → Hp → Mu → Prop} (h : wE to σ B M fun o B1 M1 => wE ti σ B1 M1 fun i B2 M2 => ∃ a dx fs, o = .ref a ∧ B2 a = some (.ins C dx fs) ∧ S [.ref a, i, v] B2 M2 fun _ B3 M3 => nx σ B3 M3) : wG (gSub to ti (rOwnSet C S)) v σ B M nx := fun H Q ok q =>
  h H _ ok fun o B1 M1 H1 ok1 h1 => h1 H1 _ ok1 fun i B2 M2 H2 ok2 ⟨a, dx, fs, e, hb, k⟩ => ⟨a, dx, fs, e, ok2.at hb, B2, M2, _, ok2, k, fun v B' M' H' ok' r => q _ _ _ _ ok' r⟩
/-! ### [.. for .. for ..] -/
def Lc2 (g : TG) (tt : TT) (wi1 : TI) (g1 : TG) (tt1 : TT) (te : TE) (vs vs1 : List Nat) (R : V → Hp → Mu → Prop) (σ : L2.St) (J : It) (B1 : Hp) (M1 : Mu) : Prop :=
  ∃ n G Y, WB J n B1 G Y ∧ ∃ Iv : Nat → List V → Hp → Prop, Iv 0 [] B1 ∧ ∀ D, B1 D = none → M1 D = none → (∀ P, G (updM M1 D P)) ∧
    (∀ i x acc B' B2, i < n → Ex B1 B' → Iv i acc B' → Ex B' B2 → Y i x B2 → wG g x (wipe σ vs) B2 (updM M1 D (is (.lst acc))) fun σ2 B3 M3 => wipe σ2 vs = wipe σ vs ∧ wT tt σ2 B3 M3 fun b B4 M4 =>
      (b = true → wI wi1 σ2 B4 M4 fun J1 B5 M5 => M5 = updM M1 D (is (.lst acc)) ∧ Ex B2 B5 ∧ ∃ n1 G1 Y1, WB J1 n1 B5 G1 Y1 ∧ (∀ P, G1 (updM M1 D P)) ∧ ∃ Iw : Nat → List V → Hp → Prop, Iw 0 acc B5 ∧ (∀ j acc' B', Iw j acc' B' → acc'.length < 100000) ∧
        (∀ j y acc' B6 B7, j < n1 → Ex B5 B6 → Iw j acc' B6 → Ex B6 B7 → Y1 j y B7 → wG g1 y (wipe σ2 vs1) B7 (updM M1 D (is (.lst acc'))) fun σ3 B8 M8 => wipe σ3 vs1 = wipe σ2 vs1 ∧ wT tt1 σ3 B8 M8 fun b B9 M9 =>
          (b = true → wE te σ3 B9 M9 fun z B10 M10 => M10 = updM M1 D (is (.lst acc')) ∧ Ex B7 B10 ∧ Iw (j + 1) (acc' ++ [z]) B10) ∧ (b = false → M9 = updM M1 D (is (.lst acc')) ∧ Ex B7 B9 ∧ Iw (j + 1) acc' B9)) ∧
        (∀ acc' B6, Ex B5 B6 → Iw n1 acc' B6 → Iv (i + 1) acc' B6)) ∧ (b = false → M4 = updM M1 D (is (.lst acc)) ∧ Ex B2 B4 ∧ Iv (i + 1) acc B4)) ∧
    (∀ acc B', Ex B1 B' → B' D = none → Iv n acc B' → R (.ref D) (upd B' D (.lst acc)) M1)
theorem w_lc2 {wi wi1 : TI} {g g1 : TG} {tt tt1 : TT} {te : TE} {vs vs1 : List Nat} (h : wI wi σ B M fun J B1 M1 => Lc2 g tt wi1 g1 tt1 te vs vs1 R σ J B1 M1) : wE (tLc2 wi g tt wi1 g1 tt1 te vs vs1) σ B M R := fun H Q ok q => h H _ ok fun J B1 M1 H1 ok1 ⟨n, G, Y, wb, Iv, h0, hD⟩ => by
  intro D hD1
  obtain ⟨hG, hs, hd⟩ := hD D (ok1.freeB hD1) (ok1.freeM hD1)
  refine ⟨fun i m H' => m = n - i ∧ i ≤ n ∧ ∃ acc B', Ok B' (updM M1 D (is (.lst acc))) H' ∧ Ex B1 B' ∧ Iv i acc B', ⟨_, rfl, Nat.zero_le _, [], B1, ok1.newM hD1 rfl, Ex.refl _, h0⟩, ?_⟩
  rintro i m H' ⟨rfl, hi, acc, B', ok', e1, iv⟩
  by_cases hlt : i < n
  · refine .inr ⟨wb.goes i B' _ H' hlt e1 (hG _) ok', fun H2 => ∃ acc B', Ok B' (updM M1 D (is (.lst acc))) H2 ∧ Ex B1 B' ∧ Iv (i + 1) acc B', fun H2 p => ⟨n - (i + 1), by omega, rfl, hlt, p⟩, fun x H2 y => ?_⟩
    obtain ⟨B2, e2, ok2, hy⟩ := wb.yields i B' _ H' x H2 hlt e1 (hG _) ok' y
    refine hs i x acc B' B2 hlt e1 iv e2 hy H2 _ ok2 fun σ3 B3 M3 H3 ok3 z => ⟨z.1, ?_⟩
    refine z.2 H3 _ ok3 fun b B4 M4 H4 ok4 zb => ?_
    cases b with
    | true =>
      rw [if_pos rfl]
      refine zb.1 rfl H4 _ ok4 fun J1 B5 M5 H5 ok5 ⟨eM, e5, n1, G1, Y1, wb1, hG1, Iw, w0, wl, ws, wd⟩ => ?_
      subst eM
      refine ⟨fun j k H' => k = n1 - j ∧ j ≤ n1 ∧ ∃ acc B', Ok B' (updM M1 D (is (.lst acc))) H' ∧ Ex B5 B' ∧ Iw j acc B', ⟨_, rfl, Nat.zero_le _, acc, B5, ok5, Ex.refl _, w0⟩, ?_⟩
      rintro j k H6 ⟨rfl, hj, acc', B6, ok6, e6, iw⟩
      by_cases hjt : j < n1
      · refine .inr ⟨wb1.goes j B6 _ H6 hjt e6 (hG1 _) ok6, fun H2 => ∃ acc B', Ok B' (updM M1 D (is (.lst acc))) H2 ∧ Ex B5 B' ∧ Iw (j + 1) acc B', fun H2 p => ⟨n1 - (j + 1), by omega, rfl, hjt, p⟩, fun x1 H7 y1 => ?_⟩
        obtain ⟨B7, e7, ok7, hy1⟩ := wb1.yields j B6 _ H6 x1 H7 hjt e6 (hG1 _) ok6 y1
        refine ws j x1 acc' B6 B7 hjt e6 iw e7 hy1 H7 _ ok7 fun σ4 B8 M8 H8 ok8 z1 => ⟨z1.1, ?_⟩
        refine z1.2 H8 _ ok8 fun b1 B9 M9 H9 ok9 zb1 => ?_
        cases b1 with
        | true =>
          rw [if_pos rfl]
          refine zb1.1 rfl H9 _ ok9 fun v B10 M10 H10 ok10 ⟨eM, e10, iv10⟩ => ?_
          subst eM
          refine ⟨acc', ok10.mutAt updM_same, Evl.sz_lt (wl _ _ _ iw), acc' ++ [v], B10, ?_, (e6.trans e7).trans e10, iv10⟩
          have k := ok10.put (o := .lst (acc' ++ [v])) (Q := is (.lst (acc' ++ [v]))) updM_same rfl
          rw [updM_updM] at k
          exact k
        | false =>
          rw [if_neg Bool.false_ne_true]
          obtain ⟨eM, e9, iv9⟩ := zb1.2 rfl
          subst eM
          exact ⟨acc', B9, ok9, (e6.trans e7).trans e9, iv9⟩
      · have e : j = n1 := by omega
        subst e
        exact .inl ⟨wb1.stops B6 _ H6 e6 (hG1 _) ok6, acc', B6, ok6, ((e1.trans e2).trans e5).trans e6, wd _ _ e6 iw⟩
    | false =>
      rw [if_neg Bool.false_ne_true]
      obtain ⟨eM, e4, iv4⟩ := zb.2 rfl
      subst eM
      exact ⟨acc, B4, ok4, (e1.trans e2).trans e4, iv4⟩
  · have e : i = n := by omega
    subst e
    refine .inl ⟨wb.stops B' _ H' e1 (hG _) ok', ?_⟩
    obtain ⟨nb, _⟩ := ok'.mtb D _ updM_same
    have k := ok'.freeze (a := D) (o := .lst acc) updM_same
    rw [delM_updM (ok1.freeM hD1)] at k
    exact q _ _ _ _ k (hd acc B' e1 nb iv)
end
end Ab
/-! ## D15 -/
set_option Elab.async false
set_option linter.all false
set_option maxRecDepth 100000
set_option maxHeartbeats 4000000
namespace Ab
open PySem L2 PyProof.Rows
open Evl (Ex)
local macro_rules | `(tactic| trivial) => `(tactic| first
  | ((with_reducible apply w_var); exact rfl)
  | with_reducible refine w_c ?_ | with_reducible refine w_cons ?_ | with_reducible refine w_nil ?_ | with_reducible refine w_op ?_ | with_reducible refine w_cb ?_ | with_reducible refine w_call ?_ | with_reducible refine w_test ?_ | with_reducible refine w_B ?_
  | with_reducible refine bX ?_ | with_reducible refine bT ?_ | with_reducible refine bF ?_ | with_reducible refine zN ?_ | with_reducible refine zI ?_ | with_reducible refine zS ?_ | with_reducible refine zR ?_ | with_reducible refine zN' ?_ | with_reducible refine zI' ?_ | with_reducible refine zS' ?_ | with_reducible refine zR' ?_ | with_reducible refine bnT ?_ | with_reducible refine bnF ?_ | with_reducible refine w_and ?_ | with_reducible refine w_or ?_ | with_reducible refine w_not ?_ | with_reducible refine w_andV ?_ | with_reducible refine w_orV ?_
  | with_reducible refine w_notV ?_ | with_reducible refine w_if ?_ | with_reducible refine w_chain ?_ | with_reducible refine w_un ?_ | with_reducible refine wr_I0 ?_ | with_reducible refine wu_I ?_ | with_reducible refine wr_isN ?_ | with_reducible refine wr_notN ?_
  | with_reducible refine wr_eq rfl ?_ | with_reducible refine wr_ne rfl ?_ | with_reducible refine w_yes ?_ | with_reducible refine w_tup ?_ | with_reducible refine w_lst ?_ | with_reducible refine s_ret ?_ | with_reducible refine s_retN ?_
  | with_reducible refine s_seq ?_ | with_reducible refine s_if ?_ | with_reducible refine s_set ?_ | with_reducible refine s_dput ?_ | with_reducible refine s_app ?_ | with_reducible refine s_drop ?_ | with_reducible refine s_next ?_ | with_reducible refine s_par ?_ | with_reducible refine s_par3 ?_ | with_reducible refine s_asg ?_
  | with_reducible refine g_name ?_ | with_reducible refine gs_nil ?_ | with_reducible refine gs_cons ?_ | with_reducible refine wi_int_int ?_ | with_reducible refine wi_int_bool ?_ | with_reducible refine wi_str_str ?_ | with_reducible refine w_fld ?_ | with_reducible refine w_meth ?_ | with_reducible refine w_prop ?_ | with_reducible refine w_make ?_ | with_reducible refine w_makeK ?_ | with_reducible refine w_methN ?_ | with_reducible refine w_callN ?_ | with_reducible refine w_dget ?_ | with_reducible refine w_din ?_ | with_reducible refine w_dnin ?_ | with_reducible refine s_fld ?_ | with_reducible refine w_sl ?_ | with_reducible refine w_part ?_
  | with_reducible refine w_noPart ?_ | with_reducible refine iX ?_)

section
variable {P : Program} {w : World} {K : PySem.W.Frag} {mg : Str → Option Value} {base : Heap}
abbrev Rg := Option (Int × Option Int)
def mkR (f : Int) (l : Option Int) : Rg := match l with
  | some x => if x < f then none else some (f, some x)
  | none => some (f, none)
def rF : Rg → V
  | none => .non
  | some (f, _) => .int f
def rL : Rg → V
  | none => .non
  | some (_, l) => oI l
def rK : Rg → List Int
  | none => [0, 0, 0, 0]
  | some (f, l) => [1, f, if l.isNone then 1 else 0, l.getD 0]
def rFs (r : Rg) (p : Addr) : List (Str × V) := [("own_first", rF r), ("own_last", rL r), ("rank", .ref p)]
def RangeV (K : PySem.W.Frag) (B : Hp) (v : V) (r : Rg) : Prop := ∃ a dx p, v = .ref a ∧ B a = some (.ins (He.ga K "Range") dx (rFs r p)) ∧ B p = some (.tup ((rK r).map V.int))
theorem RangeV.ex {B B' : Hp} {v : V} {r : Rg} (x : Ex B B') (h : RangeV K B v r) : RangeV K B' v r := by
  obtain ⟨a, dx, p, h1, h2, h3⟩ := h
  exact ⟨a, dx, p, h1, x _ _ h2, x _ _ h3⟩
def Lim (i : Int) : Prop := -(10 ^ 60 - 1) ≤ i ∧ i ≤ 10 ^ 60 - 1
theorem rL1 (r : Rg) (p : Addr) : (rFs r p).lookup ("own_first" : Str) = some (rF r) := lk_here
theorem rL2 (r : Rg) (p : Addr) : (rFs r p).lookup ("own_last" : Str) = some (rL r) := (lk_past (by decide +kernel)).trans lk_here
theorem rL3 (r : Rg) (p : Addr) : (rFs r p).lookup ("rank" : Str) = some (.ref p) := (lk_past (by decide +kernel)).trans ((lk_past (by decide +kernel)).trans lk_here)
theorem rNo (r : Rg) (p : Addr) {m : Str} (h : (m == ("own_first" : Str)) = false := by decide +kernel) (h2 : (m == ("own_last" : Str)) = false := by decide +kernel) (h3 : (m == ("rank" : Str)) = false := by decide +kernel) : (rFs r p).lookup m = none := (lk_past h).trans ((lk_past h2).trans ((lk_past h3).trans rfl))
theorem rP2 (u v : V) : putF "own_last" v (putF "own_first" u []) = ([("own_first", u), ("own_last", v)] : List (Str × V)) := by
  show putF "own_last" v [("own_first", u)] = _
  rw [put_past (by decide +kernel)]
  rfl
theorem rP3 (u v z : V) : putF "rank" z [("own_first", u), ("own_last", v)] = ([("own_first", u), ("own_last", v), ("rank", z)] : List (Str × V)) := by
  rw [put_past (by decide +kernel), put_past (by decide +kernel)]
  rfl
theorem rP4 (u v z y : V) : putF "rank" y [("own_first", u), ("own_last", v), ("rank", z)] = ([("own_first", u), ("own_last", v), ("rank", y)] : List (Str × V)) := by
  rw [put_past (by decide +kernel), put_past (by decide +kernel), put_here]
def S_Range___init__ (K : PySem.W.Frag) : Spc := fun vs B M R => ∃ (x dx : Addr) (M0 : Mu) (f : Int) (l : Option Int), vs = [.ref x, .int f, oI l] ∧ M = updM M0 x (is (.ins (He.ga K "Range") dx [])) ∧ M0 x = none ∧ Lim f ∧ (∀ y, l = some y → Lim y) ∧ ∀ B1, Ex B B1 → RangeV K B1 (.ref x) (mkR f l) → R .non B1 M0
theorem sc_Range___init__ : FnScope ["self", "first", "last", "is_none"] ["self", "first", "last"] (defScope (inClass (top 42) 0)) := ⟨rfl, rfl, rfl, by decide +kernel, rfl, by decide +kernel, by decide +kernel⟩
theorem ok_Range___init__ (T : Tx K mg) : C8.Mak P w K mg base 3 "Range" (He.ga K "Range") (Pm (S_Range___init__ K)) [] := by
  have nd := sc_Range___init__.nd
  refine makOf (k := 2) (S := (S_Range___init__ K)) T.d_Range___init__ T.k_Range T.g_Range sc_Range___init__ (fun _ _ _ _ _ _ us hl => match us, hl with | [_, _, _], _ => rfl) (fun vs B M R ⟨_, _, _, _, _, e, _⟩ => by rw [e] <;> rfl) fun cdv A outer s H E hr => ?_
  have hu := hu_of hr
  refine ⟨_, (pss_cons (ps_if (pt_not (pt_val (C8.pe_c (ok_is_limit T) hr (by decide) (by rfl) (pa_cons (pv 1) pa_nil))))
      (pss_one ps_never)
      pss_nil)
    (pss_cons (ps_if ((pw_and (pt_cmpR op_notN (pv 2) pe_non (nomark _)) (pw_and1 (pt_not (pt_val (C8.pe_c (ok_is_limit T) hr (by decide) (by rfl) (pa_cons (pv 2) pa_nil))))))).pt
      (pss_one ps_never)
      pss_nil)
    (pss_cons (ps_set (i := 3) nd rfl (Or.inl rfl) (pe_and (pe_cmpR op_notN (pv 2) pe_non (nomark _)) (pe_one (pe_cmpR op_lt (pv 2) (pv 1) (nomark _)))))
    (pss_cons (ps_fld (pv 0) (pe_ifExp (pt_val (pv 3)) pe_non (pv 1)) rfl)
    (pss_cons (ps_fld (pv 0) (pe_ifExp (pt_val (pv 3)) pe_non (pv 2)) rfl)
    (pss_cons (ps_fld (pv 0) (pe_tup (pa_cons pe_int (pa_cons pe_int (pa_cons pe_int (pa_cons pe_int pa_nil))))) rfl)
    (pss_one (ps_if (pt_not (pt_val (pv 3)))
      (pss_one (ps_fld (pv 0) (pe_tup (pa_cons pe_int (pa_cons (pv 1) (pa_cons (pe_callTy call_int1 (by rfl) T.f_int (by decide +kernel) (pa_cons (pe_cmpR op_isN (pv 2) pe_non (nomark _)) pa_nil)) (pa_cons (pe_ifExp (pt_cmpR op_isN (pv 2) pe_non (nomark _)) pe_int (pv 2)) pa_nil))))) rfl))
      pss_nil)))))))), ?_⟩
  rintro vs B M R ⟨x, dx, M0, f, l, rfl, rfl, nx, lf, ll, k⟩
  refine wS.postO ?_
  repeat trivial
  refine ⟨f, rfl, lf.1, lf.2, ?_⟩
  repeat trivial
  have fin : ∀ (B1 : Hp) (p : Addr) (r : Rg), Ex B B1 → r = mkR f l → B1 p = some (.tup ((rK r).map V.int)) → (∃ H, Ok B1 (updM M0 x (is (.ins (He.ga K "Range") dx (rFs r p)))) H) →
      ∃ B2 M2, (∀ H, Ok B1 (updM M0 x (is (.ins (He.ga K "Range") dx (rFs r p)))) H → Ok B2 M2 H) ∧ R .non B2 M2 := by
    intro B1 p r e1 er hp ok0
    have n1 := Ok.out ok0 updM_same
    have e2 := exNew (o := .ins (He.ga K "Range") dx (rFs r p)) n1
    exact ⟨_, M0, fun H kk => kk.freeze' nx, k _ (e1.trans e2) (er ▸ ⟨x, dx, p, rfl, upd_same, e2 _ _ hp⟩)⟩
  cases l with
  | none =>
    rw [show oI none = V.non from rfl]
    repeat trivial
    refine ⟨x, _, dx, [], rfl, updM_same, T.c_Range, T.n_Range_own_first, by decide, ?_⟩
    rw [updM_updM]
    repeat trivial
    refine ⟨x, _, dx, _, rfl, updM_same, T.c_Range, T.n_Range_own_last, by show 1 < 1000; decide, ?_⟩
    rw [updM_updM, rP2]
    repeat trivial
    refine ⟨len4, fun p pB pM => ?_⟩
    repeat trivial
    refine ⟨x, _, dx, _, rfl, updM_same, T.c_Range, T.n_Range_rank, by show 2 < 1000; decide, ?_⟩
    rw [updM_updM, rP3]
    repeat trivial
    refine wc_intB ?_
    repeat trivial
    refine ⟨len4, fun p2 pB2 pM2 => ?_⟩
    repeat trivial
    refine ⟨x, _, dx, _, rfl, updM_same, T.c_Range, T.n_Range_rank, by show 3 < 1000; decide, ?_⟩
    rw [updM_updM, rP4]
    exact fin _ p2 (some (f, none)) ((exNew pB).trans (exNew pB2)) rfl upd_same
  | some y =>
    rw [show oI (some y) = V.int y from rfl]
    repeat trivial
    refine ⟨y, rfl, (ll y rfl).1, (ll y rfl).2, ?_⟩
    repeat trivial
    by_cases c : y < f
    · rw [decide_eq_true c]
      repeat trivial
      refine ⟨x, _, dx, [], rfl, updM_same, T.c_Range, T.n_Range_own_first, by decide, ?_⟩
      rw [updM_updM]
      repeat trivial
      refine ⟨x, _, dx, _, rfl, updM_same, T.c_Range, T.n_Range_own_last, by show 1 < 1000; decide, ?_⟩
      rw [updM_updM, rP2]
      repeat trivial
      refine ⟨len4, fun p pB pM => ?_⟩
      repeat trivial
      refine ⟨x, _, dx, _, rfl, updM_same, T.c_Range, T.n_Range_rank, by show 2 < 1000; decide, ?_⟩
      rw [updM_updM, rP3]
      repeat trivial
      exact fin _ p none (exNew pB) (by show _ = (if y < f then none else _); rw [if_pos c]) upd_same
    · rw [decide_eq_false c]
      repeat trivial
      refine ⟨x, _, dx, [], rfl, updM_same, T.c_Range, T.n_Range_own_first, by decide, ?_⟩
      rw [updM_updM]
      repeat trivial
      refine ⟨x, _, dx, _, rfl, updM_same, T.c_Range, T.n_Range_own_last, by show 1 < 1000; decide, ?_⟩
      rw [updM_updM, rP2]
      repeat trivial
      refine ⟨len4, fun p pB pM => ?_⟩
      repeat trivial
      refine ⟨x, _, dx, _, rfl, updM_same, T.c_Range, T.n_Range_rank, by show 2 < 1000; decide, ?_⟩
      rw [updM_updM, rP3]
      repeat trivial
      refine wc_intB ?_
      repeat trivial
      refine ⟨len4, fun p2 pB2 pM2 => ?_⟩
      repeat trivial
      refine ⟨x, _, dx, _, rfl, updM_same, T.c_Range, T.n_Range_rank, by show 3 < 1000; decide, ?_⟩
      rw [updM_updM, rP4]
      exact fin _ p2 (some (f, some y)) ((exNew pB).trans (exNew pB2)) (by show _ = (if y < f then none else _); rw [if_neg c]) upd_same
def S_Range___bool__ (K : PySem.W.Frag) : Spc := fun vs B M R => ∃ (v : V) (r : Rg), vs = [v] ∧ RangeV K B v r ∧ R (.bl r.isSome) B M
theorem sc_Range___bool__ : FnScope ["self"] ["self"] (defScope (inClass (top 42) 7)) := ⟨rfl, rfl, rfl, by decide +kernel, rfl, by decide +kernel, by decide +kernel⟩
theorem ok_Range___bool__ (T : Tx K mg) : C8.Met P w K mg base 1 (He.ga K "Range") "__bool__" (Pm (S_Range___bool__ K)) [] := by
  have nd := sc_Range___bool__.nd
  refine metOf (k := 0) (S := (S_Range___bool__ K)) T.d_Range___bool__ T.c_Range T.m_Range___bool__ sc_Range___bool__ (fun _ _ _ _ _ _ us hl => match us, hl with | [_], _ => rfl) (fun vs B M R ⟨_, _, e, _⟩ => by rw [e] <;> rfl) fun cdv A outer s H E hr => ?_
  have hu := hu_of hr
  refine ⟨_, (pss_one (ps_ret (pe_cmpR op_notN (pe_fld (pv 0) rfl) pe_non (nomark _)))), ?_⟩
  rintro vs B M R ⟨v, r, rfl, ⟨a, dx, p, rfl, h2, h3⟩, k⟩
  repeat trivial
  refine ⟨a, _, dx, _, _, rfl, .inl h2, T.c_Range, T.n_Range_own_first, rL1 .., ?_⟩
  rcases r with _ | ⟨f, l⟩
  · rw [show rF none = V.non from rfl]
    repeat trivial
  · rw [show rF (some (f, l)) = V.int f from rfl]
    repeat trivial
theorem dpAll_int {B : Hp} : ∀ ws : List Int, DpAll K B (ws.map V.int) (ws.map PyData.int)
  | [] => .nil
  | z :: ws => .cons (.int z) (dpAll_int ws)
theorem eqv_int_all : ∀ ws : List Int, PyData.eqv (.tuple (ws.map PyData.int)) (.tuple (ws.map PyData.int)) = true := by
  intro ws
  simp only [PyData.eqv]
  induction ws with
  | nil => simp [PyData.eqvAll]
  | cons z ws ih => simp [PyData.eqvAll, PyData.eqv, ih]
def S_Range___eq__ (K : PySem.W.Frag) : Spc := fun vs B M R => ∃ (v u : V) (r : Rg), vs = [v, u] ∧ RangeV K B v r ∧ RangeV K B u r ∧ R (.bl true) B M
theorem sc_Range___eq__ : FnScope ["self", "other"] ["self", "other"] (defScope (inClass (top 42) 9)) := ⟨rfl, rfl, rfl, by decide +kernel, rfl, by decide +kernel, by decide +kernel⟩
theorem ok_Range___eq__ (T : Tx K mg) : C8.Met P w K mg base 1 (He.ga K "Range") "__eq__" (Pm (S_Range___eq__ K)) [] := by
  have nd := sc_Range___eq__.nd
  refine metOf (k := 0) (S := (S_Range___eq__ K)) T.d_Range___eq__ T.c_Range T.m_Range___eq__ sc_Range___eq__ (fun _ _ _ _ _ _ us hl => match us, hl with | [_, _], _ => rfl) (fun vs B M R ⟨_, _, _, e, _⟩ => by rw [e] <;> rfl) fun cdv A outer s H E hr => ?_
  have hu := hu_of hr
  refine ⟨_, (pss_one (ps_ret (pe_and (pe_callB (C8.call_isC T.s_Range) (by rfl) T.f_isinstance (by decide +kernel) (pa_cons (pv 1) (pa_cons (pe_cls (by rfl) T.g_Range) pa_nil))) (pe_one (pe_cmpR (op_eqD hr.units) (pe_fld (pv 0) rfl) (pe_fld (pv 1) rfl) (nomark _)))))), ?_⟩
  rintro vs B M R ⟨v, u, r, rfl, ⟨a, dx, p, rfl, h2, h3⟩, ⟨b, dy, p2, rfl, g2, g3⟩, k⟩
  repeat trivial
  refine wc_isC g2 ?_
  repeat trivial
  refine ⟨a, _, dx, _, _, rfl, .inl h2, T.c_Range, T.n_Range_rank, rL3 .., ?_⟩
  repeat trivial
  refine ⟨b, _, dy, _, _, rfl, .inl g2, T.c_Range, T.n_Range_rank, rL3 .., ?_⟩
  refine wr_eqD (.tup (.of h3) (dpAll_int _)) (.tup (.of g3) (dpAll_int _)) ?_ ?_ ?_
  · rcases r with _ | ⟨f, l⟩ <;> rfl
  · rcases r with _ | ⟨f, l⟩ <;> rfl
  rw [eqv_int_all]
  exact k
def S_Range_moved (K : PySem.W.Frag) : Spc := fun vs B M R => ∃ (v : V) (i f : Int) (l : Option Int) (u : Unit), vs = [v, .int i] ∧ RangeV K B v (some (f, l)) ∧ Lim i ∧ Lim (f + i) ∧ (∀ y, l = some y → Lim (y + i)) ∧ ∀ B1 u, Ex B B1 → RangeV K B1 u (mkR (f + i) (l.map (· + i))) → R u B1 M
theorem sc_Range_moved : FnScope ["self", "distance"] ["self", "distance"] (defScope (inClass (top 42) 17)) := ⟨rfl, rfl, rfl, by decide +kernel, rfl, by decide +kernel, by decide +kernel⟩
theorem ok_Range_moved (T : Tx K mg) : C8.Met P w K mg base 5 (He.ga K "Range") "moved" (Pm (S_Range_moved K)) [] := by
  have nd := sc_Range_moved.nd
  refine metOf (k := 4) (S := (S_Range_moved K)) T.d_Range_moved T.c_Range T.m_Range_moved sc_Range_moved (fun _ _ _ _ _ _ us hl => match us, hl with | [_, _], _ => rfl) (fun vs B M R ⟨_, _, _, _, _, e, _⟩ => by rw [e] <;> rfl) fun cdv A outer s H E hr => ?_
  have hu := hu_of hr
  refine ⟨_, (pss_cons (ps_if (pt_not (pt_val (C8.pe_c (ok_is_limit T) hr (by decide) (by rfl) (pa_cons (pv 1) pa_nil))))
      (pss_one ps_never)
      pss_nil)
    (pss_cons (ps_if (pt_cmpR op_isN (pe_fld (pv 0) rfl) pe_non (nomark _))
      (pss_one ps_never)
      pss_nil)
    (pss_one (ps_ret (C8.pe_mk (ok_Range___init__ T) hr (by decide) (by rfl) (pa_cons (pe_op op_add (pe_fld (pv 0) rfl) (pv 1)) (pa_cons (pe_ifExp (pt_cmpR op_isN (pe_fld (pv 0) rfl) pe_non (nomark _)) pe_non (pe_op op_add (pe_fld (pv 0) rfl) (pv 1))) pa_nil))))))), ?_⟩
  rintro vs B M R ⟨v, i, f, l, _, rfl, ⟨a, dx, p, rfl, h2, h3⟩, li, lf, ll, k⟩
  repeat trivial
  refine ⟨i, rfl, li.1, li.2, ?_⟩
  repeat trivial
  refine ⟨a, _, dx, _, _, rfl, .inl h2, T.c_Range, T.n_Range_own_first, rL1 .., ?_⟩
  rw [show rF (some (f, l)) = V.int f from rfl]
  repeat trivial
  refine ⟨a, _, dx, _, _, rfl, .inl h2, T.c_Range, T.n_Range_own_first, rL1 .., ?_⟩
  rw [show rF (some (f, l)) = V.int f from rfl]
  repeat trivial
  refine ⟨a, _, dx, _, _, rfl, .inl h2, T.c_Range, T.n_Range_own_last, rL2 .., ?_⟩
  rw [show rL (some (f, l)) = oI l from rfl]
  have fin : ∀ (x dx2 : Addr), B x = none → M x = none → S_Range___init__ K [.ref x, .int (f + i), oI (l.map (· + i))] B (updM M x (is (.ins (He.ga K "Range") dx2 []))) fun v B3 M3 => v = .non ∧ R (.ref x) B3 M3 :=
    fun x dx2 nB nM => ⟨x, dx2, M, f + i, l.map (· + i), rfl, rfl, nM, lf, fun y hy => by
      obtain ⟨z, hz, e⟩ := Option.map_eq_some_iff.mp hy
      rw [← e]
      exact ll z hz, fun B1 e1 hk => ⟨rfl, k B1 _ e1 hk⟩⟩
  cases l with
  | none =>
    rw [show oI none = V.non from rfl]
    repeat trivial
  | some y =>
    rw [show oI (some y) = V.int y from rfl]
    repeat trivial
    refine ⟨a, _, dx, _, _, rfl, .inl h2, T.c_Range, T.n_Range_own_last, rL2 .., ?_⟩
    rw [show rL (some (f, some y)) = V.int y from rfl]
    repeat trivial
def S_Range___add__ (K : PySem.W.Frag) : Spc := fun vs B M R => ∃ (v : V) (i f : Int) (l : Option Int) (u : Unit), vs = [v, .int i] ∧ RangeV K B v (some (f, l)) ∧ Lim i ∧ Lim (f + i) ∧ (∀ y, l = some y → Lim (y + i)) ∧ ∀ B1 u, Ex B B1 → RangeV K B1 u (mkR (f + i) (l.map (· + i))) → R u B1 M
theorem sc_Range___add__ : FnScope ["self", "distance"] ["self", "distance"] (defScope (inClass (top 42) 18)) := ⟨rfl, rfl, rfl, by decide +kernel, rfl, by decide +kernel, by decide +kernel⟩
theorem ok_Range___add__ (T : Tx K mg) : C8.Met P w K mg base 6 (He.ga K "Range") "__add__" (Pm (S_Range___add__ K)) [] := by
  have nd := sc_Range___add__.nd
  refine metOf (k := 5) (S := (S_Range___add__ K)) T.d_Range___add__ T.c_Range T.m_Range___add__ sc_Range___add__ (fun _ _ _ _ _ _ us hl => match us, hl with | [_, _], _ => rfl) (fun vs B M R ⟨_, _, _, _, _, e, _⟩ => by rw [e] <;> rfl) fun cdv A outer s H E hr => ?_
  have hu := hu_of hr
  refine ⟨_, (pss_one (ps_ret (C8.pe_mt (ok_Range_moved T) hr (by decide) (pv 0) (pa_cons (pv 1) pa_nil)))), ?_⟩
  rintro vs B M R ⟨v, i, f, l, _, rfl, hv, li, lf, ll, k⟩
  obtain ⟨a, dx, p, rfl, h2, h3⟩ := id hv
  repeat trivial
  refine ⟨a, dx, _, rfl, h2, rNo .., ?_⟩
  repeat trivial
  exact ⟨_, i, f, l, (), rfl, hv, li, lf, ll, k⟩
def minO (l m : Option Int) : Option Int := match l, m with
  | none, m => m
  | some x, none => some x
  | some x, some y => some (if y < x then y else x)
def maxI (f g : Int) : Int := if g > f then g else f
def S_Range___and__ (K : PySem.W.Frag) : Spc := fun vs B M R => ∃ (v u : V) (f g : Int) (l m : Option Int), vs = [v, u] ∧ RangeV K B v (some (f, l)) ∧ RangeV K B u (some (g, m)) ∧ Lim f ∧ Lim g ∧ (∀ y, l = some y → Lim y) ∧ (∀ y, m = some y → Lim y) ∧ ∀ B1 u, Ex B B1 → RangeV K B1 u (mkR (maxI f g) (minO l m)) → R u B1 M
theorem sc_Range___and__ : FnScope ["self", "other", "first"] ["self", "other"] (defScope (inClass (top 42) 16)) := ⟨rfl, rfl, rfl, by decide +kernel, rfl, by decide +kernel, by decide +kernel⟩
theorem ok_Range___and__ (T : Tx K mg) : C8.Met P w K mg base 5 (He.ga K "Range") "__and__" (Pm (S_Range___and__ K)) [] := by
  have nd := sc_Range___and__.nd
  refine metOf (k := 4) (S := (S_Range___and__ K)) T.d_Range___and__ T.c_Range T.m_Range___and__ sc_Range___and__ (fun _ _ _ _ _ _ us hl => match us, hl with | [_, _], _ => rfl) (fun vs B M R ⟨_, _, _, _, _, _, e, _⟩ => by rw [e] <;> rfl) fun cdv A outer s H E hr => ?_
  have hu := hu_of hr
  refine ⟨_, (pss_cons (ps_if ((pw_or (pt_cmpR op_isN (pe_fld (pv 0) rfl) pe_non (nomark _)) (pw_or1 (pt_cmpR op_isN (pe_fld (pv 1) rfl) pe_non (nomark _))))).pt
      (pss_one ps_never)
      pss_nil)
    (pss_cons (ps_set (i := 2) nd rfl (Or.inl rfl) (pe_callB (call_max2 rfl) (by rfl) T.f_max (by decide +kernel) (pa_cons (pe_fld (pv 0) rfl) (pa_cons (pe_fld (pv 1) rfl) pa_nil))))
    (pss_cons (ps_if ((pw_or (pt_cmpR op_isN (pe_fld (pv 0) rfl) pe_non (nomark _)) (pw_or1 (pt_cmpR op_isN (pe_fld (pv 1) rfl) pe_non (nomark _))))).pt
      (pss_one (ps_ret (C8.pe_mk (ok_Range___init__ T) hr (by decide) (by rfl) (pa_cons (pv 2) (pa_cons (pe_ifExp (pt_cmpR op_isN (pe_fld (pv 0) rfl) pe_non (nomark _)) (pe_fld (pv 1) rfl) (pe_fld (pv 0) rfl)) pa_nil)))))
      pss_nil)
    (pss_one (ps_ret (C8.pe_mk (ok_Range___init__ T) hr (by decide) (by rfl) (pa_cons (pv 2) (pa_cons (pe_callB (call_min2 rfl) (by rfl) T.f_min (by decide +kernel) (pa_cons (pe_fld (pv 0) rfl) (pa_cons (pe_fld (pv 1) rfl) pa_nil))) pa_nil)))))))), ?_⟩
  rintro vs B M R ⟨v, u, f, g, l, m, rfl, ⟨a, dx, p, rfl, h2, h3⟩, ⟨b, dy, p2, rfl, g2, g3⟩, lf, lg, ll, lm, k⟩
  repeat trivial
  refine ⟨a, _, dx, _, _, rfl, .inl h2, T.c_Range, T.n_Range_own_first, rL1 .., ?_⟩
  rw [show rF (some (f, l)) = V.int f from rfl]
  repeat trivial
  refine ⟨b, _, dy, _, _, rfl, .inl g2, T.c_Range, T.n_Range_own_first, rL1 .., ?_⟩
  rw [show rF (some (g, m)) = V.int g from rfl]
  repeat trivial
  refine ⟨a, _, dx, _, _, rfl, .inl h2, T.c_Range, T.n_Range_own_first, rL1 .., ?_⟩
  rw [show rF (some (f, l)) = V.int f from rfl]
  repeat trivial
  refine ⟨b, _, dy, _, _, rfl, .inl g2, T.c_Range, T.n_Range_own_first, rL1 .., ?_⟩
  rw [show rF (some (g, m)) = V.int g from rfl]
  repeat trivial
  refine wc_max2 ?_
  repeat trivial
  have lmx : Lim (maxI f g) := by
    unfold maxI
    split
    · exact lg
    · exact lf
  have fin : ∀ (o : Option Int), o = minO l m → ∀ (x dx2 : Addr), B x = none → M x = none → S_Range___init__ K [.ref x, .int (maxI f g), oI o] B (updM M x (is (.ins (He.ga K "Range") dx2 []))) fun v B3 M3 => v = .non ∧ R (.ref x) B3 M3 :=
    fun o eo x dx2 nB nM => ⟨x, dx2, M, maxI f g, o, rfl, rfl, nM, lmx, fun y hy => by
      rw [eo] at hy
      unfold minO at hy
      split at hy
      · exact lm y hy
      · exact ll y hy
      · rw [← Option.some.inj hy]
        split
        · exact lm _ rfl
        · exact ll _ rfl, fun B1 e1 hk => ⟨rfl, k B1 _ e1 (eo ▸ hk)⟩⟩
  refine ⟨a, _, dx, _, _, rfl, .inl h2, T.c_Range, T.n_Range_own_last, rL2 .., ?_⟩
  rw [show rL (some (f, l)) = oI l from rfl]
  cases l with
  | none =>
    rw [show oI none = V.non from rfl]
    repeat trivial
    refine ⟨a, _, dx, _, _, rfl, .inl h2, T.c_Range, T.n_Range_own_last, rL2 .., ?_⟩
    rw [show rL (some (f, none)) = V.non from rfl]
    repeat trivial
    refine ⟨b, _, dy, _, _, rfl, .inl g2, T.c_Range, T.n_Range_own_last, rL2 .., ?_⟩
    rw [show rL (some (g, m)) = oI m from rfl]
    repeat trivial
    exact fin m rfl
  | some y =>
    rw [show oI (some y) = V.int y from rfl]
    repeat trivial
    refine ⟨b, _, dy, _, _, rfl, .inl g2, T.c_Range, T.n_Range_own_last, rL2 .., ?_⟩
    rw [show rL (some (g, m)) = oI m from rfl]
    cases m with
    | none =>
      rw [show oI none = V.non from rfl]
      repeat trivial
      refine ⟨a, _, dx, _, _, rfl, .inl h2, T.c_Range, T.n_Range_own_last, rL2 .., ?_⟩
      rw [show rL (some (f, some y)) = V.int y from rfl]
      repeat trivial
      refine ⟨a, _, dx, _, _, rfl, .inl h2, T.c_Range, T.n_Range_own_last, rL2 .., ?_⟩
      rw [show rL (some (f, some y)) = V.int y from rfl]
      repeat trivial
      exact fin (some y) rfl
    | some z =>
      rw [show oI (some z) = V.int z from rfl]
      repeat trivial
      refine ⟨a, _, dx, _, _, rfl, .inl h2, T.c_Range, T.n_Range_own_last, rL2 .., ?_⟩
      rw [show rL (some (f, some y)) = V.int y from rfl]
      repeat trivial
      refine ⟨b, _, dy, _, _, rfl, .inl g2, T.c_Range, T.n_Range_own_last, rL2 .., ?_⟩
      rw [show rL (some (g, some z)) = V.int z from rfl]
      repeat trivial
      refine wc_min2 ?_
      repeat trivial
      exact fin (some (if z < y then z else y)) rfl
end
end Ab
/-! ## P1 -/
set_option Elab.async false
set_option linter.all false
set_option maxRecDepth 100000
set_option maxHeartbeats 2000000
/-! P1: what the program computes, in plain Lean -/
namespace Ab
open PySem L2 PyProof.Rows
def chainF (ks : List Kd) : Nat → Str → List Str
  | 0, _ => []
  | n + 1, z => match srcOf ks z with
    | some (some y) => z :: chainF ks n y
    | _ => [z]
def late (ks : List Kd) (z : Str) : Int := lateL ks (chainF ks 5 z)
theorem Chn.eq {ks : List Kd} {z : Str} {l : List Str} (h : Chn ks z l) : ∀ {n : Nat}, l.length ≤ n → chainF ks n z = l := by
  induction h with
  | root e =>
    intro n hn
    match n, hn with
    | n + 1, _ => rw [chainF, e]
  | step e _ ih =>
    intro n hn
    match n, hn with
    | n + 1, hn =>
      rw [chainF, e]
      show _ :: chainF ks n _ = _
      rw [ih (by simpa using hn)]
structure FlOk (ks : List Kd) (cs : List Cl) : Prop where
  nd : (ks.map Kd.name).Nodup
  few : ks.length ≤ 5
  ok : ∀ k ∈ ks, KdOk k
  ch : ∀ z ∈ ks.map Kd.name, ∃ l, Chn ks z l ∧ l.length ≤ 4
  cl : cs.length ≤ 6
  c1 : ∀ c ∈ cs, c.client ∈ ks.map Kd.name
  c2 : ∀ c ∈ cs, c.server ∈ ks.map Kd.name
  c3 : ∀ c ∈ cs, 0 ≤ c.life ∧ c.life ≤ 10 ^ 30
  c4 : ∀ c ∈ cs, Wd c.role
theorem FlOk.wd {ks : List Kd} {cs : List Cl} (h : FlOk ks cs) {z : Str} (hz : z ∈ ks.map Kd.name) : Wd z := by
  obtain ⟨k, hk, rfl⟩ := List.mem_map.mp hz
  exact (h.ok k hk).n
theorem FlOk.chn {ks : List Kd} {cs : List Cl} (h : FlOk ks cs) {z : Str} (hz : z ∈ ks.map Kd.name) : Chn ks z (chainF ks 5 z) ∧ (chainF ks 5 z).length ≤ 4 := by
  obtain ⟨l, h1, h2⟩ := h.ch z hz
  rw [h1.eq (n := 5) (by omega)]
  exact ⟨h1, h2⟩
theorem contrib_b {k : Kd} (h : KdOk k) : 0 ≤ contrib k ∧ contrib k ≤ 3 * 10 ^ 30 := by
  have h1 := h.g1
  have h2 := h.g2
  unfold contrib
  split
  · omega
  · rename_i a e
    have h3 := h.a a e
    omega
theorem contribOf_b {ks : List Kd} (h : ∀ k ∈ ks, KdOk k) (z : Str) : 0 ≤ contribOf ks z ∧ contribOf ks z ≤ 3 * 10 ^ 30 := by
  unfold contribOf
  split
  · rename_i k e
    exact contrib_b (h k (List.mem_of_find?_eq_some e))
  · omega
theorem sum_b {ks : List Kd} (h : ∀ k ∈ ks, KdOk k) : ∀ l : List Str, 0 ≤ (l.map (contribOf ks)).sum ∧ (l.map (contribOf ks)).sum ≤ l.length * (3 * 10 ^ 30)
  | [] => by simp
  | z :: l => by
    have h1 := contribOf_b h z
    have h2 := sum_b h l
    rw [List.map_cons, List.sum_cons, List.length_cons]
    push_cast
    omega
theorem FlOk.late_b {ks : List Kd} {cs : List Cl} (h : FlOk ks cs) {z : Str} (hz : z ∈ ks.map Kd.name) : 1 ≤ late ks z ∧ late ks z ≤ 1 + 12 * 10 ^ 30 := by
  have h1 := (h.chn hz).2
  have h2 := sum_b h.ok (chainF ks 5 z)
  unfold late lateL
  omega
/-- a plan and a fleet meet -/
def Fits (es : List (Int × Told)) (cs : List Cl) : Prop := ∀ c ∈ cs, ∀ e ∈ es, c.role ∈ e.2.rows.map Row.role
def lastH (ms : List Int) (L : Int) (n : Nat) : Option Int := if n + 1 = ms.length then none else some (ms.getD (n + 1) 0 + L - 2)
def heldR (ms : List Int) (L : Int) (n : Nat) : Rg := mkR (ms.getD n 0) (lastH ms L n)
def pairsUp (n : Nat) : List (Nat × Nat) := (List.range n).flatMap fun i => (List.range (n - (i + 1))).map fun j => (i, i + 1 + j)
def pairsAll (n : Nat) : List (Nat × Nat) := (List.range n).flatMap fun i => (List.range n).map fun j => (i, j)
def jumpB (ms : List Int) (L : Int) (p : Nat × Nat) : Bool := decide (ms.getD p.2 0 < ms.getD (p.1 + 1) 0 + L)
def jumpsM (ms : List Int) (L : Int) : List (Nat × Nat) := (pairsUp ms.length).filter (jumpB ms L)
def told0 : Told := ⟨[], [], 0, none⟩
def lockB (ts : List Told) (p : Nat × Nat) : Bool := !takesM (ts.getD p.1 told0) (ts.getD p.2 told0)
def lockM (ms : List Int) (ts : List Told) (ks : List Kd) (ys : List Str) : List (Str × Nat × Nat) := ys.flatMap fun z => ((jumpsM ms (late ks z)).filter (lockB ts)).map fun p => (z, p)
def clientR (ms : List Int) (ks : List Kd) (c : Cl) (n : Nat) : Rg := mkR (ms.getD n 0) ((lastH ms (late ks c.client) n).map (· + c.life))
def serverR (ms : List Int) (ks : List Kd) (c : Cl) (n : Nat) : Rg := heldR ms (late ks c.server) n
def andR : Rg → Rg → Rg
  | some (f, l), some (g, m) => mkR (maxI f g) (minO l m)
  | _, _ => none
def meetB (ms : List Int) (ks : List Kd) (c : Cl) (i j : Nat) : Bool := (andR (clientR ms ks c i) (serverR ms ks c j)).isSome
/-- the row of a role -/
def rowOf (t : Told) (z : Str) : Row := (t.rows.find? fun r => decide (r.role = z)).getD ⟨z, [], z⟩
def refB (t u : Told) (z : Str) : Bool := !decide ((rowOf t z).own ∈ (rowOf u z).likes)
def refuseB (ms : List Int) (ts : List Told) (ks : List Kd) (c : Cl) (p : Nat × Nat) : Bool := refB (ts.getD p.1 told0) (ts.getD p.2 told0) c.role && meetB ms ks c p.1 p.2
def refM (ms : List Int) (ts : List Told) (ks : List Kd) (cs : List Cl) : List (Nat × Nat × Nat) := cs.zipIdx.flatMap fun c => ((pairsAll ms.length).filter (refuseB ms ts ks c.1)).map fun p => (c.2, p)
end Ab
/-! ## P2 -/
set_option Elab.async false
set_option linter.all false
set_option maxRecDepth 100000
set_option maxHeartbeats 2000000
/-! P2: the plain law, moved and cut -/
namespace Ab
open PySem L2 PyProof.Rows
/-! ### moved by d -/
def shR (d : Int) : Rg → Rg := Option.map fun p => (p.1 + d, p.2.map (· + d))
def mv (d : Int) (ms : List Int) : List Int := ms.map (· + d)
section
variable {ms : List Int} {d L : Int} {n : Nat} {ts : List Told} {ks : List Kd} {cs : List Cl}
theorem mv_len : (mv d ms).length = ms.length := List.length_map ..
theorem mv_at (h : n < ms.length) : (mv d ms).getD n 0 = ms.getD n 0 + d := by
  unfold mv
  rw [List.getD_eq_getElem?_getD, List.getD_eq_getElem?_getD, List.getElem?_map, List.getElem?_eq_getElem h]
  rfl
theorem mkR_mv {f : Int} {l : Option Int} : mkR (f + d) (l.map (· + d)) = shR d (mkR f l) := by
  cases l with
  | none => rfl
  | some x =>
    unfold mkR
    dsimp only [Option.map]
    by_cases c : x < f
    · rw [if_pos c, if_pos (by omega)]
      rfl
    · rw [if_neg c, if_neg (by omega)]
      rfl
theorem lastH_mv (h : n < ms.length) : lastH (mv d ms) L n = (lastH ms L n).map (· + d) := by
  unfold lastH
  rw [mv_len]
  by_cases c : n + 1 = ms.length
  · rw [if_pos c, if_pos c]
    rfl
  · rw [if_neg c, if_neg c, mv_at (by omega)]
    show some _ = some (ms.getD (n + 1) 0 + L - 2 + d)
    congr 1
    omega
theorem heldR_mv (h : n < ms.length) : heldR (mv d ms) L n = shR d (heldR ms L n) := by
  unfold heldR
  rw [mv_at h, lastH_mv h, mkR_mv]
theorem clientR_mv {c : Cl} (h : n < ms.length) : clientR (mv d ms) ks c n = shR d (clientR ms ks c n) := by
  unfold clientR
  rw [mv_at h, lastH_mv h, ← mkR_mv]
  congr 1
  cases lastH ms (late ks c.client) n with
  | none => rfl
  | some x =>
    show some (x + d + c.life) = some (x + c.life + d)
    congr 1
    omega
theorem minO_mv {l m : Option Int} : minO (l.map (· + d)) (m.map (· + d)) = (minO l m).map (· + d) := by
  cases l with
  | none => rfl
  | some x =>
    cases m with
    | none => rfl
    | some y =>
      unfold minO
      dsimp only [Option.map]
      by_cases c : y < x
      · rw [if_pos c, if_pos (by omega)]
      · rw [if_neg c, if_neg (by omega)]
theorem maxI_mv {f g : Int} : maxI (f + d) (g + d) = maxI f g + d := by
  unfold maxI
  by_cases c : g > f
  · rw [if_pos c, if_pos (by omega)]
  · rw [if_neg c, if_neg (by omega)]
theorem andR_mv {a b : Rg} : andR (shR d a) (shR d b) = shR d (andR a b) := by
  cases a with
  | none => rfl
  | some p =>
    cases b with
    | none => rfl
    | some q =>
      obtain ⟨f, l⟩ := p
      obtain ⟨g, m⟩ := q
      show mkR (maxI (f + d) (g + d)) (minO (l.map (· + d)) (m.map (· + d))) = shR d (mkR (maxI f g) (minO l m))
      rw [maxI_mv, minO_mv, mkR_mv]
theorem shR_some {a : Rg} : (shR d a).isSome = a.isSome := by cases a <;> rfl
theorem meetB_mv {c : Cl} {i j : Nat} (hi : i < ms.length) (hj : j < ms.length) : meetB (mv d ms) ks c i j = meetB ms ks c i j := by
  unfold meetB serverR
  rw [clientR_mv hi, heldR_mv hj, andR_mv, shR_some]
theorem mem_all {n : Nat} {p : Nat × Nat} : p ∈ pairsAll n ↔ p.1 < n ∧ p.2 < n := by
  unfold pairsAll
  obtain ⟨a, b⟩ := p
  constructor
  · intro h
    obtain ⟨i, hi, h⟩ := List.mem_flatMap.mp h
    obtain ⟨j, hj, e⟩ := List.mem_map.mp h
    cases e
    exact ⟨List.mem_range.mp hi, List.mem_range.mp hj⟩
  · intro ⟨h1, h2⟩
    exact List.mem_flatMap.mpr ⟨a, List.mem_range.mpr h1, List.mem_map.mpr ⟨b, List.mem_range.mpr h2, rfl⟩⟩
theorem mem_up {n : Nat} {p : Nat × Nat} : p ∈ pairsUp n ↔ p.1 < p.2 ∧ p.2 < n := by
  unfold pairsUp
  obtain ⟨a, b⟩ := p
  constructor
  · intro h
    obtain ⟨i, hi, h⟩ := List.mem_flatMap.mp h
    obtain ⟨j, hj, e⟩ := List.mem_map.mp h
    cases e
    have := List.mem_range.mp hj
    exact ⟨by show a < a + 1 + j; omega, by show a + 1 + j < n; omega⟩
  · intro ⟨h1, h2⟩
    exact List.mem_flatMap.mpr ⟨a, List.mem_range.mpr (by omega), List.mem_map.mpr ⟨b - (a + 1), List.mem_range.mpr (by omega), by rw [show a + 1 + (b - (a + 1)) = b by omega]⟩⟩
theorem refM_mv : refM (mv d ms) ts ks cs = refM ms ts ks cs := by
  unfold refM
  rw [mv_len]
  congr 1
  funext c
  congr 1
  refine List.filter_congr fun p hp => ?_
  have h := mem_all.mp hp
  unfold refuseB
  rw [meetB_mv h.1 h.2]
theorem jumpsM_mv : jumpsM (mv d ms) L = jumpsM ms L := by
  unfold jumpsM
  rw [mv_len]
  refine List.filter_congr fun p hp => ?_
  have h := mem_up.mp hp
  unfold jumpB
  rw [mv_at h.2, mv_at (by omega)]
  exact decide_eq_decide.mpr (by omega)
theorem lockM_mv {ys : List Str} : lockM (mv d ms) ts ks ys = lockM ms ts ks ys := by
  unfold lockM
  simp only [jumpsM_mv]
end
/-! ### cut behind n -/
section
variable {ms : List Int} {L : Int} {n i j : Nat} {ts : List Told} {ks : List Kd} {cs : List Cl}
theorem cut_at {α : Type} {xs : List α} {a : α} (h : i ≤ n) : (xs.take (n + 1)).getD i a = xs.getD i a := by
  rw [List.getD_eq_getElem?_getD, List.getD_eq_getElem?_getD, List.getElem?_take, if_pos (by omega)]
theorem cut_len (h : n < ms.length) : (ms.take (n + 1)).length = n + 1 := by rw [List.length_take]; omega
theorem lastH_cut (h : n < ms.length) (hi : i < n) : lastH (ms.take (n + 1)) L i = lastH ms L i := by
  unfold lastH
  rw [cut_len h, if_neg (by omega), if_neg (by omega), cut_at (by omega)]
theorem meetB_cut {c : Cl} (h : n < ms.length) (hi : i < n) (hj : j < n) : meetB (ms.take (n + 1)) ks c i j = meetB ms ks c i j := by
  unfold meetB serverR clientR heldR
  rw [lastH_cut h hi, lastH_cut h hj, cut_at (by omega), cut_at (by omega)]
theorem mem_refM {x : Nat × Nat × Nat} : x ∈ refM ms ts ks cs ↔ ∃ c, cs[x.1]? = some c ∧ x.2.1 < ms.length ∧ x.2.2 < ms.length ∧ refuseB ms ts ks c x.2 = true := by
  unfold refM
  obtain ⟨m, p⟩ := x
  constructor
  · intro h
    obtain ⟨⟨c, k⟩, hc, h⟩ := List.mem_flatMap.mp h
    obtain ⟨q, hq, e⟩ := List.mem_map.mp h
    cases e
    obtain ⟨h1, h2⟩ := List.mem_filter.mp hq
    obtain ⟨a, b⟩ := mem_all.mp h1
    have z := List.mem_zipIdx hc
    have hk : k < cs.length := by simpa using z.2.1
    have e : c = cs[k] := by simpa using z.2.2
    exact ⟨c, (List.getElem?_eq_getElem hk).trans (congrArg some e.symm), a, b, h2⟩
  · rintro ⟨c, hc, a, b, h⟩
    refine List.mem_flatMap.mpr ⟨(c, m), ?_, List.mem_map.mpr ⟨p, List.mem_filter.mpr ⟨mem_all.mpr ⟨a, b⟩, h⟩, rfl⟩⟩
    have hm := (List.getElem?_eq_some_iff.mp hc)
    obtain ⟨hm, e⟩ := hm
    refine List.mem_iff_getElem?.mpr ⟨m, ?_⟩
    rw [List.getElem?_zipIdx, hc]
    simp
theorem mem_cut {x : Nat × Nat × Nat} (h : n < ms.length) (h1 : x.2.1 < n) (h2 : x.2.2 < n) : x ∈ refM (ms.take (n + 1)) (ts.take (n + 1)) ks cs ↔ x ∈ refM ms ts ks cs := by
  have e : ∀ c, refuseB (ms.take (n + 1)) (ts.take (n + 1)) ks c x.2 = refuseB ms ts ks c x.2 := fun c => by
    unfold refuseB
    rw [meetB_cut h h1 h2, cut_at (by omega), cut_at (by omega)]
  rw [mem_refM, mem_refM, cut_len h]
  simp only [e]
  constructor
  · rintro ⟨c, q1, q2, q3, q4⟩
    exact ⟨c, q1, by omega, by omega, q4⟩
  · rintro ⟨c, q1, q2, q3, q4⟩
    exact ⟨c, q1, by omega, by omega, q4⟩
theorem filter_range (b : Nat) : ∀ a, (List.range a).filter (fun j => decide (j < b)) = List.range (min a b)
  | 0 => by simp
  | a + 1 => by
    rw [List.range_succ, List.filter_append, filter_range b a]
    by_cases c : a < b
    · rw [show min (a + 1) b = min a b + 1 by omega, List.range_succ, show min a b = a by omega]
      simp [c]
    · rw [show min (a + 1) b = min a b by omega]
      simp [c]
theorem range_more (k : Nat) : ∀ m, List.range (k + m) = List.range k ++ (List.range m).map (k + ·)
  | 0 => by simp
  | m + 1 => by
    rw [← Nat.add_assoc, List.range_succ, range_more k m, List.range_succ, List.map_append, List.append_assoc]
    rfl
theorem up_cut (h : n < i) : (pairsUp i).filter (fun p => decide (p.2 ≤ n)) = pairsUp (n + 1) := by
  unfold pairsUp
  rw [List.filter_flatMap]
  have row : ∀ a, ((List.range (i - (a + 1))).map fun j => (a, a + 1 + j)).filter (fun p => decide (p.2 ≤ n)) = (List.range (n + 1 - (a + 1))).map fun j => (a, a + 1 + j) := fun a => by
    rw [List.filter_map]
    congr 1
    rw [show ((fun p : Nat × Nat => decide (p.2 ≤ n)) ∘ fun j => (a, a + 1 + j)) = fun j => decide (j < n - a) from funext fun j => decide_eq_decide.mpr (by show a + 1 + j ≤ n ↔ _; omega), filter_range]
    congr 1
    omega
  simp only [row]
  rw [show i = (n + 1) + (i - (n + 1)) by omega, range_more, List.flatMap_append]
  have z : ((List.range (i - (n + 1))).map (n + 1 + ·)).flatMap (fun a => (List.range (n + 1 - (a + 1))).map fun j => (a, a + 1 + j)) = [] := by
    rw [List.flatMap_eq_nil_iff]
    intro a ha
    obtain ⟨b, _, rfl⟩ := List.mem_map.mp ha
    rw [show n + 1 - (n + 1 + b + 1) = 0 by omega]
    rfl
  rw [z, List.append_nil]
theorem jumps_cut (h : n < ms.length) : (jumpsM ms L).filter (fun p => decide (p.2 ≤ n)) = jumpsM (ms.take (n + 1)) L := by
  unfold jumpsM
  rw [cut_len h, ← up_cut h, List.filter_filter, List.filter_filter]
  refine List.filter_congr fun p hp => ?_
  have hu := mem_up.mp hp
  by_cases c : p.2 ≤ n
  · rw [decide_eq_true c, Bool.true_and, Bool.and_true]
    unfold jumpB
    rw [cut_at c, cut_at (by omega)]
  · rw [decide_eq_false c, Bool.false_and, Bool.and_false]
theorem lock_cut {ys : List Str} (h : n < ms.length) : (lockM ms ts ks ys).filter (fun x => decide (x.2.2 ≤ n)) = lockM (ms.take (n + 1)) (ts.take (n + 1)) ks ys := by
  unfold lockM
  rw [List.filter_flatMap]
  congr 1
  funext z
  rw [List.filter_map, ← jumps_cut h, List.filter_filter, List.filter_filter]
  congr 1
  refine List.filter_congr fun p hp => ?_
  unfold jumpsM at hp
  have hu := mem_up.mp (List.mem_filter.mp hp).1
  show (decide (p.2 ≤ n) && lockB ts p) = (lockB (ts.take (n + 1)) p && decide (p.2 ≤ n))
  by_cases c : p.2 ≤ n
  · rw [decide_eq_true c, Bool.true_and, Bool.and_true]
    unfold lockB
    rw [cut_at c, cut_at (by omega)]
  · rw [decide_eq_false c, Bool.false_and, Bool.and_false]
end
end Ab
/-! ## D16 -/
set_option Elab.async false
set_option linter.all false
set_option maxRecDepth 100000
set_option maxHeartbeats 4000000
namespace Ab
open PySem L2 PyProof.Rows
open Evl (Ex)
local macro_rules | `(tactic| trivial) => `(tactic| first
  | ((with_reducible apply w_var); exact rfl)
  | with_reducible refine w_c ?_ | with_reducible refine w_cons ?_ | with_reducible refine w_nil ?_ | with_reducible refine w_op ?_ | with_reducible refine w_cb ?_ | with_reducible refine w_call ?_ | with_reducible refine w_test ?_ | with_reducible refine w_B ?_
  | with_reducible refine bX ?_ | with_reducible refine bT ?_ | with_reducible refine bF ?_ | with_reducible refine zN ?_ | with_reducible refine zI ?_ | with_reducible refine zS ?_ | with_reducible refine zR ?_ | with_reducible refine zN' ?_ | with_reducible refine zI' ?_ | with_reducible refine zS' ?_ | with_reducible refine zR' ?_ | with_reducible refine bnT ?_ | with_reducible refine bnF ?_ | with_reducible refine w_and ?_ | with_reducible refine w_or ?_ | with_reducible refine w_not ?_ | with_reducible refine w_andV ?_ | with_reducible refine w_orV ?_
  | with_reducible refine w_notV ?_ | with_reducible refine w_if ?_ | with_reducible refine w_chain ?_ | with_reducible refine w_un ?_ | with_reducible refine wr_I0 ?_ | with_reducible refine wu_I ?_ | with_reducible refine wr_isN ?_ | with_reducible refine wr_notN ?_
  | with_reducible refine wr_eq rfl ?_ | with_reducible refine wr_ne rfl ?_ | with_reducible refine w_yes ?_ | with_reducible refine w_tup ?_ | with_reducible refine w_lst ?_ | with_reducible refine s_ret ?_ | with_reducible refine s_retN ?_
  | with_reducible refine s_seq ?_ | with_reducible refine s_if ?_ | with_reducible refine s_set ?_ | with_reducible refine s_dput ?_ | with_reducible refine s_app ?_ | with_reducible refine s_drop ?_ | with_reducible refine s_next ?_ | with_reducible refine s_par ?_ | with_reducible refine s_par3 ?_ | with_reducible refine s_asg ?_
  | with_reducible refine g_name ?_ | with_reducible refine gs_nil ?_ | with_reducible refine gs_cons ?_ | with_reducible refine wi_int_int ?_ | with_reducible refine wi_int_bool ?_ | with_reducible refine wi_str_str ?_ | with_reducible refine w_fld ?_ | with_reducible refine w_meth ?_ | with_reducible refine w_prop ?_ | with_reducible refine w_make ?_ | with_reducible refine w_makeK ?_ | with_reducible refine w_methN ?_ | with_reducible refine w_callN ?_ | with_reducible refine w_dget ?_ | with_reducible refine w_din ?_ | with_reducible refine w_dnin ?_ | with_reducible refine s_fld ?_ | with_reducible refine w_sl ?_ | with_reducible refine w_part ?_
  | with_reducible refine w_noPart ?_ | with_reducible refine iX ?_)

section
variable {P : Program} {w : World} {K : PySem.W.Frag} {mg : Str → Option Value} {base : Heap}
theorem mAt {ms : List Int} {n : Nat} (h : n < ms.length) : atI (ms.map V.int) (n : Int) = some (.int (ms.getD n 0)) := atN (by simp [h])
theorem mAt1 {ms : List Int} {n : Nat} (h : n + 1 < ms.length) : atI (ms.map V.int) ((n : Int) + 1) = some (.int (ms.getD (n + 1) 0)) := mAt (n := n + 1) h
def S_check_roles (K : PySem.W.Frag) : Spc := fun vs B M R => ∃ (rp a kd rd : Addr) (ys : List Str) (ks : List Kd) (cs : List Cl) (u : Unit), vs = [.ref rp, .ref a] ∧ B rp = some (.lst (ys.map V.str)) ∧ FleetAt K B M a kd rd ks cs ∧ (∀ c ∈ cs, c.role ∈ ys) ∧ ∀ B1, Ex B B1 → R .non B1 M
theorem sc_check_roles : FnScope ["roles", "fleet", "role", "client", "server", "life"] ["roles", "fleet"] (defScope (top 36)) := ⟨rfl, rfl, rfl, by decide +kernel, rfl, by decide +kernel, by decide +kernel⟩
theorem ok_check_roles (T : Tx K mg) : C8.Cal P w K mg base 2 "check_roles" (Pm (S_check_roles K)) [] := by
  have nd := sc_check_roles.nd
  refine calOf (k := 1) (S := (S_check_roles K)) T.d_check_roles T.g_check_roles sc_check_roles (fun _ _ _ _ _ _ us hl => match us, hl with | [_, _], _ => rfl) (fun vs B M R ⟨_, _, _, _, _, _, _, _, e, _⟩ => by rw [e] <;> rfl) fun cdv A outer s H E hr => ?_
  have hu := hu_of hr
  refine ⟨_, (pss_one (ps_for PassesOwn.never rfl (pi_list (C8.pe_mt0 (ok_Fleet_calls T) hr (by decide) (pv 1))) (pg_tup rfl (pgs_cons (pg_name (i := 2) nd rfl (Or.inl rfl)) (pgs_cons (pg_name (i := 3) nd rfl (Or.inl rfl)) (pgs_cons (pg_name (i := 4) nd rfl (Or.inl rfl)) (pgs_cons (pg_name (i := 5) nd rfl (Or.inl rfl)) pgs_nil)))))
      (pss_one (ps_if (pt_cmpR op_notIn_seq (pv 2) (pv 0) (by with_unfolding_all rfl))
        (pss_one ps_never)
        pss_nil)))), ?_⟩
  rintro vs B M R ⟨rp, a, kd, rd, ys, ks, cs, _, rfl, hr1, fl, hc, k⟩
  obtain ⟨⟨dx, h1⟩, _⟩ := id fl
  refine s_for (i_list ?_)
  repeat trivial
  refine ⟨a, dx, _, rfl, h1, fNo .., ?_⟩
  repeat trivial
  refine ⟨a, kd, rd, ks, cs, (), rfl, fl, fun B1 p rs e1 hp hrs => ?_⟩
  have hl := f2_len hrs
  refine ⟨p, rs, rfl, .of hp, _, _, _, wb_list (.of hp), fun i σ' B' M' => (∃ u1 u2 u3 u4, σ' = [some (.ref rp), some (.ref a), u1, u2, u3, u4]) ∧ Ex B1 B' ∧ M' = M, ⟨⟨_, _, _, _, rfl⟩, Ex.refl _, rfl⟩, fun i σ' B' M' _ h => ⟨h.2.1, True.intro⟩, ?_, fun σ' B' M' ⟨_, e, eM⟩ => by rw [eM]; exact k B' (e1.trans e)⟩
  rintro i x σ' B' M' B2 hi ⟨⟨u1, u2, u3, u4, rfl⟩, e2, rfl⟩ e3 hx
  obtain ⟨c, hcx, t, rfl, ht⟩ := f2_get hrs hx
  have e4 := e2.trans e3
  refine g_tup (.of (e4 _ _ ht)) rfl ?_
  repeat trivial
  refine wr_ninL (.of ((e1.trans e4) _ _ hr1)) rfl flat_str ?_
  rw [inV_str, decide_eq_true (hc c (List.mem_of_getElem? hcx))]
  repeat trivial
  exact ⟨⟨_, _, _, _, rfl⟩, e4, rfl⟩
def S_check_plan (K : PySem.W.Frag) : Spc := fun vs B M R => ∃ (v : V) (a kd rd : Addr) (es : List (Int × Told)) (ks : List Kd) (cs : List Cl) (u : Unit), vs = [v, .ref a] ∧ PlanV K B v es ∧ 1 ≤ es.length ∧ FleetAt K B M a kd rd ks cs ∧ Fits es cs ∧ ∀ B1, Ex B B1 → R .non B1 M
theorem sc_check_plan : FnScope ["plan", "fleet"] ["plan", "fleet"] (defScope (top 37)) := ⟨rfl, rfl, rfl, by decide +kernel, rfl, by decide +kernel, by decide +kernel⟩
theorem ok_check_plan (T : Tx K mg) : C8.Cal P w K mg base 4 "check_plan" (Pm (S_check_plan K)) [] := by
  have nd := sc_check_plan.nd
  refine calOf (k := 3) (S := (S_check_plan K)) T.d_check_plan T.g_check_plan sc_check_plan (fun _ _ _ _ _ _ us hl => match us, hl with | [_, _], _ => rfl) (fun vs B M R ⟨_, _, _, _, _, _, _, _, e, _⟩ => by rw [e] <;> rfl) fun cdv A outer s H E hr => ?_
  have hu := hu_of hr
  refine ⟨_, (pss_one (ps_expr (C8.pe_c (ok_check_roles T) hr (by decide) (by rfl) (pa_cons (pe_pr (ok_Contents_roles T) hr (by decide) (C8.pe_mt (ok_Plan_contents_of T) hr (by decide) (pv 0) (pa_cons pe_int pa_nil))) (pa_cons (pv 1) pa_nil))))), ?_⟩
  rintro vs B M R ⟨v, a, kd, rd, es, ks, cs, _, rfl, pv, he, fl, hc, k⟩
  obtain ⟨b, bx, tp, us, rfl, h2, h3, h4⟩ := id pv
  repeat trivial
  refine ⟨b, bx, _, rfl, h2, (lk_past (by decide +kernel)).trans rfl, ?_⟩
  repeat trivial
  have h0 : es[0]? = some (es[0]'he) := by simp
  refine ⟨_, es, 0, rfl, pv, _, h0, fun c cv => ?_⟩
  obtain ⟨a1, dx1, rfl, fs, hb1⟩ := cv.addr
  refine ⟨a1, dx1, fs, rfl, hb1, ?_⟩
  refine ⟨_, _, rfl, cv, fun ys p B1 e1 pm so hp => ?_⟩
  repeat trivial
  exact ⟨p, a, kd, rd, ys, ks, cs, (), rfl, hp, fl.ex e1, fun c hcm => pm.mem_iff.mpr (hc c hcm _ (List.mem_of_getElem? h0)), fun B2 e2 => k B2 (e1.trans e2)⟩
def S_check_kind (K : PySem.W.Frag) : Spc := fun vs B M R => ∃ (a kd rd : Addr) (ks : List Kd) (cs : List Cl) (z : Str) (u : Unit), vs = [.ref a, .str z] ∧ FleetAt K B M a kd rd ks cs ∧ Wd z ∧ z ∈ ks.map Kd.name ∧ ∀ B1, Ex B B1 → R .non B1 M
theorem sc_check_kind : FnScope ["fleet", "kind"] ["fleet", "kind"] (defScope (top 38)) := ⟨rfl, rfl, rfl, by decide +kernel, rfl, by decide +kernel, by decide +kernel⟩
theorem ok_check_kind (T : Tx K mg) : C8.Cal P w K mg base 3 "check_kind" (Pm (S_check_kind K)) [] := by
  have nd := sc_check_kind.nd
  refine calOf (k := 2) (S := (S_check_kind K)) T.d_check_kind T.g_check_kind sc_check_kind (fun _ _ _ _ _ _ us hl => match us, hl with | [_, _], _ => rfl) (fun vs B M R ⟨_, _, _, _, _, _, _, e, _⟩ => by rw [e] <;> rfl) fun cdv A outer s H E hr => ?_
  have hu := hu_of hr
  refine ⟨_, (pss_one (ps_if (pt_cmpR (op_ownNin (ok_Fleet___contains__ T) hr (by decide)) (pv 1) (pv 0) (by with_unfolding_all rfl))
      (pss_one ps_never)
      pss_nil)), ?_⟩
  rintro vs B M R ⟨a, kd, rd, ks, cs, z, _, rfl, fl, hw, hz, k⟩
  obtain ⟨⟨dx, h1⟩, _⟩ := id fl
  repeat trivial
  refine wr_ownNin h1 ⟨a, kd, rd, ks, cs, z, rfl, fl, hw, fun B1 e1 => ⟨_, rfl, ?_⟩⟩
  rw [decide_eq_true hz]
  repeat trivial
  exact k B1 e1
def S_check_number (K : PySem.W.Frag) : Spc := fun vs B M R => ∃ (v : V) (es : List (Int × Told)) (n : Nat), vs = [v, .int n] ∧ PlanV K B v es ∧ es.length ≤ 1000 ∧ n < es.length ∧ R .non B M
theorem sc_check_number : FnScope ["plan", "number"] ["plan", "number"] (defScope (top 39)) := ⟨rfl, rfl, rfl, by decide +kernel, rfl, by decide +kernel, by decide +kernel⟩
theorem ok_check_number (T : Tx K mg) : C8.Cal P w K mg base 3 "check_number" (Pm (S_check_number K)) [] := by
  have nd := sc_check_number.nd
  refine calOf (k := 2) (S := (S_check_number K)) T.d_check_number T.g_check_number sc_check_number (fun _ _ _ _ _ _ us hl => match us, hl with | [_, _], _ => rfl) (fun vs B M R ⟨_, _, _, e, _⟩ => by rw [e] <;> rfl) fun cdv A outer s H E hr => ?_
  have hu := hu_of hr
  refine ⟨_, (pss_one (ps_if (pt_not (pt_val (C8.pe_c (ok_is_between T) hr (by decide) (by rfl) (pa_cons (pv 1) (pa_cons pe_int (pa_cons (pe_op op_sub (pe_callB (call_ownLen (ok_Plan___len__ T) hr (by decide)) (by rfl) T.f_len (by decide +kernel) (pa_cons (pv 0) pa_nil)) pe_int) pa_nil))))))
      (pss_one ps_never)
      pss_nil)), ?_⟩
  rintro vs B M R ⟨v, es, n, rfl, pv, hz, hn, k⟩
  obtain ⟨b, bx, tp, us, rfl, h2, h3, h4⟩ := id pv
  repeat trivial
  refine wc_ownLen h2 ⟨_, es, rfl, pv, _, rfl, by omega, by omega, ?_⟩
  repeat trivial
  refine ⟨_, _, _, rfl, ?_⟩
  rw [decide_eq_true ⟨by omega, by omega⟩]
  repeat trivial
def S_last_held (K : PySem.W.Frag) : Spc := fun vs B M R => ∃ (p : Addr) (ms : List Int) (L : Int) (n : Nat), vs = [.ref p, .int L, .int n] ∧ B p = some (.lst (ms.map V.int)) ∧ n < ms.length ∧ R (oI (lastH ms L n)) B M
theorem sc_last_held : FnScope ["moments", "lateness", "number"] ["moments", "lateness", "number"] (defScope (top 44)) := ⟨rfl, rfl, rfl, by decide +kernel, rfl, by decide +kernel, by decide +kernel⟩
theorem ok_last_held (T : Tx K mg) : C8.Cal P w K mg base 1 "last_held" (Pm (S_last_held K)) [] := by
  have nd := sc_last_held.nd
  refine calOf (k := 0) (S := (S_last_held K)) T.d_last_held T.g_last_held sc_last_held (fun _ _ _ _ _ _ us hl => match us, hl with | [_, _, _], _ => rfl) (fun vs B M R ⟨_, _, _, _, e, _⟩ => by rw [e] <;> rfl) fun cdv A outer s H E hr => ?_
  have hu := hu_of hr
  refine ⟨_, (pss_one (ps_ret (pe_ifExp (pt_cmpR op_eq (pv 2) (pe_op op_sub (pe_callB call_len_seq (by rfl) T.f_len (by decide +kernel) (pa_cons (pv 0) pa_nil)) pe_int) (nomark _)) pe_non (pe_op op_sub (pe_op op_add (pe_ix ix_list (pv 0) (pe_op op_add (pv 2) pe_int) (fun _ _ => rfl)) (pv 1)) pe_int)))), ?_⟩
  rintro vs B M R ⟨p, ms, L, n, rfl, hp, hn, k⟩
  repeat trivial
  refine wc_lenL (.of hp) ?_
  rw [List.length_map]
  repeat trivial
  unfold lastH at k
  refine bD (fun h => ?_) fun h => ?_
  · have h2 : n + 1 = ms.length := by
      have := V.int.inj h
      omega
    rw [if_pos h2] at k
    repeat trivial
  · have h2 : ¬ n + 1 = ms.length := fun z => h (congrArg V.int (by omega))
    rw [if_neg h2] at k
    repeat trivial
    refine wr_ixL (.of hp) (mAt1 (by omega)) ?_
    repeat trivial
def S_range_of (K : PySem.W.Frag) : Spc := fun vs B M R => ∃ (p : Addr) (ms : List Int) (L : Int) (n : Nat) (u : Unit), vs = [.ref p, .int L, .int n] ∧ B p = some (.lst (ms.map V.int)) ∧ n < ms.length ∧ Lim (ms.getD n 0) ∧ (∀ y, lastH ms L n = some y → Lim y) ∧ ∀ B1 v, Ex B B1 → RangeV K B1 v (heldR ms L n) → R v B1 M
theorem sc_range_of : FnScope ["moments", "lateness", "number"] ["moments", "lateness", "number"] (defScope (top 45)) := ⟨rfl, rfl, rfl, by decide +kernel, rfl, by decide +kernel, by decide +kernel⟩
theorem ok_range_of (T : Tx K mg) : C8.Cal P w K mg base 5 "range_of" (Pm (S_range_of K)) [] := by
  have nd := sc_range_of.nd
  refine calOf (k := 4) (S := (S_range_of K)) T.d_range_of T.g_range_of sc_range_of (fun _ _ _ _ _ _ us hl => match us, hl with | [_, _, _], _ => rfl) (fun vs B M R ⟨_, _, _, _, _, e, _⟩ => by rw [e] <;> rfl) fun cdv A outer s H E hr => ?_
  have hu := hu_of hr
  refine ⟨_, (pss_one (ps_ret (C8.pe_mk (ok_Range___init__ T) hr (by decide) (by rfl) (pa_cons (pe_ix ix_list (pv 0) (pv 2) (fun _ _ => rfl)) (pa_cons (C8.pe_c (ok_last_held T) hr (by decide) (by rfl) (pa_cons (pv 0) (pa_cons (pv 1) (pa_cons (pv 2) pa_nil)))) pa_nil))))), ?_⟩
  rintro vs B M R ⟨p, ms, L, n, _, rfl, hp, hn, l1, l2, k⟩
  repeat trivial
  refine wr_ixL (.of hp) (mAt hn) ?_
  repeat trivial
  refine ⟨p, ms, L, n, rfl, hp, hn, ?_⟩
  repeat trivial
  exact fun x dx nB nM => ⟨x, dx, M, ms.getD n 0, lastH ms L n, rfl, rfl, nM, l1, l2, fun B1 e1 hk => ⟨rfl, k B1 _ e1 hk⟩⟩
def S_contents_list (K : PySem.W.Frag) : Spc := fun vs B M R => ∃ (v : V) (es : List (Int × Told)) (u : Unit), vs = [v] ∧ PlanV K B v es ∧ es.length ≤ 1000 ∧ ∀ B1 p vs, Ex B B1 → B1 p = some (.lst vs) → Paired (ContV K B1) vs (es.map (·.2)) → R (.ref p) B1 M
theorem sc_contents_list : FnScope ["plan", "number"] ["plan"] (defScope (top 46)) := ⟨rfl, rfl, rfl, by decide +kernel, rfl, by decide +kernel, by decide +kernel⟩
theorem ok_contents_list (T : Tx K mg) : C8.Cal P w K mg base 4 "contents_list" (Pm (S_contents_list K)) [] := by
  have nd := sc_contents_list.nd
  refine calOf (k := 3) (S := (S_contents_list K)) T.d_contents_list T.g_contents_list sc_contents_list (fun _ _ _ _ _ _ us hl => match us, hl with | [_], _ => rfl) (fun vs B M R ⟨_, _, _, e, _⟩ => by rw [e] <;> rfl) fun cdv A outer s H E hr => ?_
  have hu := hu_of hr
  refine ⟨_, (pss_one (ps_ret (pe_lc (own := [("number", 1)]) (g := gName 1) rfl nd (pi_range1 (by rfl) T.f_range (pa_cons (pe_callB (call_ownLen (ok_Plan___len__ T) hr (by decide)) (by rfl) T.f_len (by decide +kernel) (pa_cons (pv 0) pa_nil)) pa_nil)) (blkOk_by (own := [("number", 1)]) (N := ["plan", "number"]) (sc := defScope (top 46)) (by decide +kernel)) (fun _ _ _ _ _ => (pg_name (i := 1) nd rfl (Or.inl rfl))) (fun _ _ _ _ _ => pts_nil) (fun _ _ _ _ _ => (C8.pe_mt (ok_Plan_contents_of T) hr (by decide) (pv 0) (pa_cons (pv 1) pa_nil)))))), ?_⟩
  rintro vs B M R ⟨v, es, _, rfl, pv, hz, k⟩
  obtain ⟨b, bx, tp, us, rfl, h2, h3, h4⟩ := id pv
  repeat trivial
  refine w_lc (i_rng1 ?_)
  repeat trivial
  refine wc_ownLen h2 ⟨_, es, rfl, pv, _, rfl, by omega, by omega, ?_⟩
  repeat trivial
  refine ⟨_, rfl, by omega, by omega, _, _, _, wb_range, by omega, fun i acc B' => Paired (ContV K B') acc ((es.map (·.2)).take i), .nil, fun D hD hM => ⟨fun _ => True.intro, ?_, ?_⟩⟩
  · rintro i x acc B' B2 hi hl2 e1 hacc e2 rfl
    have e3 := e1.trans e2
    repeat trivial
    refine ⟨b, bx, _, rfl, e3 _ _ h2, (lk_past (by decide +kernel)).trans rfl, ?_⟩
    rw [show (0 : Int) + (i : Nat) = (i : Nat) by omega]
    repeat trivial
    have hie : es[i]? = some (es[i]'(by omega)) := by simp
    refine ⟨_, es, i, rfl, pv.ex e3, _, hie, fun c cv => ?_⟩
    refine ⟨rfl, Ex.refl _, ?_⟩
    show Paired _ _ (List.take (i + 1) _)
    rw [List.take_add_one, List.getElem?_map, hie]
    exact Paired.snoc (f2_mono (fun _ _ => ContV.ex e2) hacc) cv
  · rintro acc B' e1 nD hl2 hacc
    rw [List.take_of_length_le (by rw [List.length_map]; omega)] at hacc
    exact k _ _ _ (e1.trans (exNew nD)) upd_same (f2_mono (fun _ _ => ContV.ex (exNew nD)) hacc)
def S_held_range (K : PySem.W.Frag) : Spc := fun vs B M R => ∃ (v : V) (a kd rd : Addr) (es : List (Int × Told)) (ks : List Kd) (cs : List Cl) (z : Str) (n : Nat), vs = [v, .ref a, .str z, .int n] ∧ PlanV K B v es ∧ EdsOk es ∧ FleetAt K B M a kd rd ks cs ∧ FlOk ks cs ∧ Fits es cs ∧ z ∈ ks.map Kd.name ∧ n < es.length ∧ ∀ B1 u, Ex B B1 → RangeV K B1 u (heldR (es.map (·.1)) (late ks z) n) → R u B1 M
theorem sc_held_range : FnScope ["plan", "fleet", "kind", "number"] ["plan", "fleet", "kind", "number"] (defScope (top 47)) := ⟨rfl, rfl, rfl, by decide +kernel, rfl, by decide +kernel, by decide +kernel⟩
theorem ok_held_range (T : Tx K mg) : C8.Cal P w K mg base 6 "held_range" (Pm (S_held_range K)) [] := by
  have nd := sc_held_range.nd
  refine calOf (k := 5) (S := (S_held_range K)) T.d_held_range T.g_held_range sc_held_range (fun _ _ _ _ _ _ us hl => match us, hl with | [_, _, _, _], _ => rfl) (fun vs B M R ⟨_, _, _, _, _, _, _, _, _, e, _⟩ => by rw [e] <;> rfl) fun cdv A outer s H E hr => ?_
  have hu := hu_of hr
  refine ⟨_, (pss_cons (ps_expr (C8.pe_c (ok_check_plan T) hr (by decide) (by rfl) (pa_cons (pv 0) (pa_cons (pv 1) pa_nil))))
    (pss_cons (ps_expr (C8.pe_c (ok_check_kind T) hr (by decide) (by rfl) (pa_cons (pv 1) (pa_cons (pv 2) pa_nil))))
    (pss_cons (ps_expr (C8.pe_c (ok_check_number T) hr (by decide) (by rfl) (pa_cons (pv 0) (pa_cons (pv 3) pa_nil))))
    (pss_one (ps_ret (C8.pe_c (ok_range_of T) hr (by decide) (by rfl) (pa_cons (C8.pe_mt0 (ok_Plan_moments T) hr (by decide) (pv 0)) (pa_cons (C8.pe_mt (ok_Fleet_lateness T) hr (by decide) (pv 1) (pa_cons (pv 2) pa_nil)) (pa_cons (pv 3) pa_nil))))))))), ?_⟩
  rintro vs B M R ⟨v, a, kd, rd, es, ks, cs, z, n, rfl, pv, eo, fl, fo, ft, hz, hn, k⟩
  obtain ⟨b, bx, tp, us, rfl, h2, h3, h4⟩ := id pv
  obtain ⟨⟨dx, h1⟩, _⟩ := id fl
  have hm := eo.most
  have hf := eo.few
  have hw := fo.wd hz
  repeat trivial
  refine ⟨_, a, kd, rd, es, ks, cs, (), rfl, pv, hf, fl, ft, fun B1 e1 => ?_⟩
  repeat trivial
  refine ⟨a, kd, rd, ks, cs, z, (), rfl, fl.ex e1, hw, hz, fun B2 e2 => ?_⟩
  have e12 := e1.trans e2
  repeat trivial
  refine ⟨_, es, n, rfl, pv.ex e12, by omega, hn, ?_⟩
  repeat trivial
  refine ⟨b, bx, _, rfl, e12 _ _ h2, (lk_past (by decide +kernel)).trans rfl, ?_⟩
  repeat trivial
  refine ⟨_, es, rfl, pv.ex e12, by omega, fun B3 p e3 hp => ?_⟩
  have e123 := e12.trans e3
  repeat trivial
  refine ⟨a, dx, _, rfl, e123 _ _ h1, fNo .., ?_⟩
  repeat trivial
  refine ⟨a, kd, rd, ks, cs, z, _, rfl, fl.ex e123, hw, fo.nd, by have := fo.few; omega, (fo.chn hz).1, (fo.chn hz).2, fun B4 e4 => ?_⟩
  have e := e123.trans e4
  repeat trivial
  have lb := fo.late_b hz
  have mb : ∀ i, i < es.length → 0 ≤ (es.map (·.1)).getD i 0 ∧ (es.map (·.1)).getD i 0 ≤ 10 ^ 40 := fun i hi => by
    have := eo.mom (es[i]'hi) (List.getElem_mem _)
    simpa [hi] using this
  refine ⟨p, es.map (fun e : Int × Told => e.1), late ks z, n, (), rfl, by rw [e4 _ _ hp, List.map_map] <;> rfl, by rw [List.length_map]; exact hn, ?_, fun y hy => ?_, fun B5 u e5 hu => k B5 u (e.trans e5) hu⟩
  · have := mb n hn
    unfold Lim
    omega
  · unfold lastH at hy
    rw [List.length_map] at hy
    split at hy
    · cases hy
    · have h7 := mb (n + 1) (by omega)
      rw [← Option.some.inj hy]
      unfold Lim
      omega
end
end Ab
/-! ## D17 -/
set_option Elab.async false
set_option linter.all false
set_option maxRecDepth 100000
set_option maxHeartbeats 4000000
namespace Ab
open PySem L2 PyProof.Rows
open Evl (Ex)
local macro_rules | `(tactic| trivial) => `(tactic| first
  | ((with_reducible apply w_var); exact rfl)
  | with_reducible refine w_c ?_ | with_reducible refine w_cons ?_ | with_reducible refine w_nil ?_ | with_reducible refine w_op ?_ | with_reducible refine w_cb ?_ | with_reducible refine w_call ?_ | with_reducible refine w_test ?_ | with_reducible refine w_B ?_
  | with_reducible refine bX ?_ | with_reducible refine bT ?_ | with_reducible refine bF ?_ | with_reducible refine zN ?_ | with_reducible refine zI ?_ | with_reducible refine zS ?_ | with_reducible refine zR ?_ | with_reducible refine zN' ?_ | with_reducible refine zI' ?_ | with_reducible refine zS' ?_ | with_reducible refine zR' ?_ | with_reducible refine bnT ?_ | with_reducible refine bnF ?_ | with_reducible refine w_and ?_ | with_reducible refine w_or ?_ | with_reducible refine w_not ?_ | with_reducible refine w_andV ?_ | with_reducible refine w_orV ?_
  | with_reducible refine w_notV ?_ | with_reducible refine w_if ?_ | with_reducible refine w_chain ?_ | with_reducible refine w_un ?_ | with_reducible refine wr_I0 ?_ | with_reducible refine wu_I ?_ | with_reducible refine wr_isN ?_ | with_reducible refine wr_notN ?_
  | with_reducible refine wr_eq rfl ?_ | with_reducible refine wr_ne rfl ?_ | with_reducible refine w_yes ?_ | with_reducible refine w_tup ?_ | with_reducible refine w_lst ?_ | with_reducible refine s_ret ?_ | with_reducible refine s_retN ?_
  | with_reducible refine s_seq ?_ | with_reducible refine s_if ?_ | with_reducible refine s_set ?_ | with_reducible refine s_dput ?_ | with_reducible refine s_app ?_ | with_reducible refine s_drop ?_ | with_reducible refine s_next ?_ | with_reducible refine s_par ?_ | with_reducible refine s_par3 ?_ | with_reducible refine s_asg ?_
  | with_reducible refine g_name ?_ | with_reducible refine gs_nil ?_ | with_reducible refine gs_cons ?_ | with_reducible refine wi_int_int ?_ | with_reducible refine wi_int_bool ?_ | with_reducible refine wi_str_str ?_ | with_reducible refine w_fld ?_ | with_reducible refine w_meth ?_ | with_reducible refine w_prop ?_ | with_reducible refine w_make ?_ | with_reducible refine w_makeK ?_ | with_reducible refine w_methN ?_ | with_reducible refine w_callN ?_ | with_reducible refine w_dget ?_ | with_reducible refine w_din ?_ | with_reducible refine w_dnin ?_ | with_reducible refine s_fld ?_ | with_reducible refine w_sl ?_ | with_reducible refine w_part ?_
  | with_reducible refine w_noPart ?_ | with_reducible refine iX ?_)

section
variable {P : Program} {w : World} {K : PySem.W.Frag} {mg : Str → Option Value} {base : Heap}
def PairV (B : Hp) (v : V) (p : Nat × Nat) : Prop := ∃ t, v = .ref t ∧ B t = some (.tup [.int (p.1 : Nat), .int (p.2 : Nat)])
theorem PairV.ex {B B' : Hp} {v : V} {p : Nat × Nat} (x : Ex B B') (h : PairV B v p) : PairV B' v p := by
  obtain ⟨t, h1, h2⟩ := h
  exact ⟨t, h1, x _ _ h2⟩
theorem mem_pairsUp {n : Nat} {p : Nat × Nat} (h : p ∈ pairsUp n) : p.1 < p.2 ∧ p.2 < n := by
  unfold pairsUp at h
  obtain ⟨i, hi, h2⟩ := List.mem_flatMap.mp h
  obtain ⟨j, hj, rfl⟩ := List.mem_map.mp h2
  rw [List.mem_range] at hi hj
  exact ⟨by show i < i + 1 + j; omega, by show i + 1 + j < n; omega⟩
def upTo (n i : Nat) : List (Nat × Nat) := (List.range i).flatMap fun i => (List.range (n - (i + 1))).map fun j => (i, i + 1 + j)
theorem upTo_succ (n i : Nat) : upTo n (i + 1) = upTo n i ++ (List.range (n - (i + 1))).map fun j => (i, i + 1 + j) := by
  unfold upTo
  rw [List.range_succ, List.flatMap_append]
  simp
theorem f2_keep {α β : Type} {p : α → β → Prop} {x : α} {y : β} {f : β → Bool} {acc : List α} {ys : List β} {i : Nat} (hy : ys[i]? = some y) (h : Paired p acc ((ys.take i).filter f)) (hp : p x y) (hf : f y = true) : Paired p (acc ++ [x]) ((ys.take (i + 1)).filter f) := by
  rw [List.take_add_one, hy, List.filter_append]
  simp [hf]
  exact Paired.snoc h hp
theorem f2_skip {α β : Type} {p : α → β → Prop} {y : β} {f : β → Bool} {acc : List α} {ys : List β} {i : Nat} (hy : ys[i]? = some y) (h : Paired p acc ((ys.take i).filter f)) (hf : f y = false) : Paired p acc ((ys.take (i + 1)).filter f) := by
  rw [List.take_add_one, hy, List.filter_append]
  simp [hf]
  exact h
theorem upTo_len (n i : Nat) (h : i ≤ n) (hn : n ≤ 7) : (upTo n i).length ≤ 7 * i := by
  induction i with
  | zero => simp [upTo]
  | succ i ih =>
    rw [upTo_succ, List.length_append, List.length_map, List.length_range]
    have := ih (by omega)
    omega
def S_jumps_of (K : PySem.W.Frag) : Spc := fun vs B M R => ∃ (p : Addr) (ms : List Int) (L : Int) (u : Unit), vs = [.ref p, .int L] ∧ B p = some (.lst (ms.map V.int)) ∧ ms.length ≤ 7 ∧ ∀ B1 q vs, Ex B B1 → B1 q = some (.lst vs) → Paired (PairV B1) vs (jumpsM ms L) → R (.ref q) B1 M
theorem sc_jumps_of : FnScope ["moments", "lateness", "pairs", "early", "late"] ["moments", "lateness"] (defScope (top 48)) := ⟨rfl, rfl, rfl, by decide +kernel, rfl, by decide +kernel, by decide +kernel⟩
theorem ok_jumps_of (T : Tx K mg) : C8.Cal P w K mg base 1 "jumps_of" (Pm (S_jumps_of K)) [] := by
  have nd := sc_jumps_of.nd
  refine calOf (k := 0) (S := (S_jumps_of K)) T.d_jumps_of T.g_jumps_of sc_jumps_of (fun _ _ _ _ _ _ us hl => match us, hl with | [_, _], _ => rfl) (fun vs B M R ⟨_, _, _, _, e, _⟩ => by rw [e] <;> rfl) fun cdv A outer s H E hr => ?_
  have hu := hu_of hr
  refine ⟨_, (pss_cons (ps_setLc2 (i := 2) rfl nd rfl rfl (sw_true rfl rfl rfl (by decide +kernel)) (own := [("early", 3), ("late", 4)]) (vs1 := [4]) (g := gName 3) (g1 := gName 4) (pi_range1 (by rfl) T.f_range (pa_cons (pe_callB call_len_seq (by rfl) T.f_len (by decide +kernel) (pa_cons (pv 0) pa_nil)) pa_nil)) (blkOk_by (own := [("early", 3), ("late", 4)]) (N := ["moments", "lateness", "pairs", "early", "late"]) (sc := defScope (top 48)) (by decide +kernel)) (by decide) (fun _ _ _ _ _ => (pg_name (i := 3) nd rfl (Or.inl rfl))) (fun _ _ _ _ _ => pts_nil) (fun _ _ _ _ _ => (pi_range2 (by rfl) T.f_range (pa_cons (pe_op op_add (pv 3) pe_int) (pa_cons (pe_callB (call_len_seqK (K := K) rfl) (by rfl) T.f_len (by decide +kernel) (pa_cons (pv 0) pa_nil)) pa_nil)))) (fun _ _ _ _ _ => (pg_name (i := 4) nd rfl (Or.inl rfl))) (fun _ _ _ _ _ => pts_nil) (fun _ _ _ _ _ => (pe_tup (pa_cons (pv 3) (pa_cons (pv 4) pa_nil)))))
    (pss_one (ps_ret (pe_lc (own := [("early", 3), ("late", 4)]) (g := gTup K 2 (gCons (gName 3) (gCons (gName 4) gNil))) rfl nd (pi_list (pv 2)) (blkOk_by (own := [("early", 3), ("late", 4)]) (N := ["moments", "lateness", "pairs", "early", "late"]) (sc := defScope (top 48)) (by decide +kernel)) (fun _ _ _ _ _ => (pg_tupK (K := K) rfl rfl (pgs_cons (pg_name (i := 3) nd rfl (Or.inl rfl)) (pgs_cons (pg_name (i := 4) nd rfl (Or.inl rfl)) pgs_nil)))) (fun _ _ _ _ _ => (pts_one (pt_cmpR op_lt (pe_ix (ix_listK (K := K) rfl) (pv 0) (pv 4) (fun _ _ => rfl)) (pe_op op_add (pe_ix (ix_listK (K := K) rfl) (pv 0) (pe_op op_add (pv 3) pe_int) (fun _ _ => rfl)) (pv 1)) (nomark _)))) (fun _ _ _ _ _ => (pe_tup (pa_cons (pv 3) (pa_cons (pv 4) pa_nil)))))))), ?_⟩
  rintro vs B M R ⟨p, ms, L, _, rfl, hp, hn, k⟩
  refine s_seq (s_set (w_lc2 (i_rng1 ?_)))
  repeat trivial
  refine wc_lenL (.of hp) ?_
  rw [List.length_map]
  repeat trivial
  refine ⟨_, rfl, by omega, by omega, _, _, _, wb_range, fun i acc B' => Paired (PairV B') acc (upTo ms.length i), .nil, fun D hD hM => ⟨fun _ => True.intro, ?_, ?_⟩⟩
  · rintro i x acc B' B2 hi e1 hacc e2 rfl
    repeat trivial
    refine i_rng2 ?_
    repeat trivial
    refine wc_lenL (.of ((e1.trans e2) _ _ hp)) ?_
    rw [List.length_map]
    repeat trivial
    refine ⟨_, _, rfl, by omega, by omega, by omega, by omega, rfl, Ex.refl _, _, _, _, wb_range, fun _ => True.intro, fun j acc' B' => Paired (PairV B') acc' (upTo ms.length i ++ (List.range j).map fun j => (i, i + 1 + j)) ∧ j ≤ ms.length - (i + 1), ⟨?_, Nat.zero_le _⟩, ?_, ?_, ?_⟩
    · rw [List.range_zero, List.map_nil, List.append_nil]
      exact f2_mono (fun _ _ => PairV.ex e2) hacc
    · intro j acc' B6 ⟨h6, h7⟩
      have := f2_len h6
      have h8 := upTo_len ms.length i (by omega) hn
      rw [List.length_append, List.length_map, List.length_range] at this
      omega
    · rintro j y acc' B6 B7 hj e6 ⟨h6, h7⟩ e7 rfl
      repeat trivial
      refine ⟨len2, fun t ht mt => ?_⟩
      refine ⟨rfl, exNew ht, ?_, by omega⟩
      show Paired _ _ (_ ++ List.map _ (List.range (j + 1)))
      rw [List.range_succ, List.map_append, ← List.append_assoc]
      refine Paired.snoc (f2_mono (fun _ _ => PairV.ex (e7.trans (exNew ht))) h6) ⟨t, rfl, ?_⟩
      rw [upd_same, show (0 : Int) + (i : Nat) = (i : Nat) by omega, show (i : Int) + 1 + (j : Nat) = ((i + 1 + j : Nat) : Int) by omega]
    · rintro acc' B6 e6 ⟨h6, h7⟩
      rw [upTo_succ]
      rw [show ((ms.length : Int) - (0 + (i : Nat) + 1)).toNat = ms.length - (i + 1) by omega] at h6
      exact h6
  rintro acc B1 e1 nD hacc
  rw [show ((ms.length : Nat) : Int).toNat = ms.length by omega] at hacc
  have e2 := e1.trans (exNew (o := .lst acc) nD)
  have hacc2 := f2_mono (fun _ _ => PairV.ex (exNew (o := .lst acc) nD)) hacc
  have hl := f2_len hacc2
  have hl2 := upTo_len ms.length ms.length (Nat.le_refl _) hn
  repeat trivial
  refine w_lc (i_list ?_)
  repeat trivial
  refine ⟨D, acc, rfl, .of upd_same, _, _, _, wb_list (.of upd_same), by omega, fun i acc2 B' => Paired (PairV B') acc2 (((upTo ms.length ms.length).take i).filter (jumpB ms L)), .nil, fun D2 hD2 hM2 => ⟨fun _ => True.intro, ?_, ?_⟩⟩
  · rintro i x acc2 B' B2 hi hla e3 h3 e4 hx
    obtain ⟨⟨ei, li⟩, hq, t, rfl, ht⟩ := f2_get hacc2 hx
    have hm := mem_pairsUp (List.mem_of_getElem? hq)
    have e5 := e3.trans e4
    refine g_tup (.of (e5 _ _ ht)) rfl ?_
    repeat trivial
    refine wr_ixL (.of ((e2.trans e5) _ _ hp)) (mAt hm.2) ?_
    repeat trivial
    refine wr_ixL (.of ((e2.trans e5) _ _ hp)) (mAt1 (by have := hm.1; have := hm.2; omega)) ?_
    repeat trivial
    refine bD (fun c => ?_) fun c => ?_
    · repeat trivial
      refine ⟨len2, fun t2 ht2 mt2 => ?_⟩
      refine ⟨rfl, exNew ht2, f2_keep hq (f2_mono (fun _ _ => PairV.ex (e4.trans (exNew ht2))) h3) ⟨t2, rfl, upd_same⟩ (decide_eq_true c)⟩
    · exact ⟨rfl, Ex.refl _, f2_skip hq (f2_mono (fun _ _ => PairV.ex e4) h3) (decide_eq_false c)⟩
  · rintro acc2 B' e3 nD2 hl3 h3
    rw [hl, List.take_length] at h3
    exact k _ _ _ (e2.trans (e3.trans (exNew nD2))) upd_same (f2_mono (fun _ _ => PairV.ex (exNew nD2)) h3)
end
end Ab
/-! ## D18 -/
set_option Elab.async false
set_option linter.all false
set_option maxRecDepth 100000
set_option maxHeartbeats 4000000
namespace Ab
open PySem L2 PyProof.Rows
open Evl (Ex)
local macro_rules | `(tactic| trivial) => `(tactic| first
  | ((with_reducible apply w_var); exact rfl)
  | with_reducible refine w_c ?_ | with_reducible refine w_cons ?_ | with_reducible refine w_nil ?_ | with_reducible refine w_op ?_ | with_reducible refine w_cb ?_ | with_reducible refine w_call ?_ | with_reducible refine w_test ?_ | with_reducible refine w_B ?_
  | with_reducible refine bX ?_ | with_reducible refine bT ?_ | with_reducible refine bF ?_ | with_reducible refine zN ?_ | with_reducible refine zI ?_ | with_reducible refine zS ?_ | with_reducible refine zR ?_ | with_reducible refine zN' ?_ | with_reducible refine zI' ?_ | with_reducible refine zS' ?_ | with_reducible refine zR' ?_ | with_reducible refine bnT ?_ | with_reducible refine bnF ?_ | with_reducible refine w_and ?_ | with_reducible refine w_or ?_ | with_reducible refine w_not ?_ | with_reducible refine w_andV ?_ | with_reducible refine w_orV ?_
  | with_reducible refine w_notV ?_ | with_reducible refine w_if ?_ | with_reducible refine w_chain ?_ | with_reducible refine w_un ?_ | with_reducible refine wr_I0 ?_ | with_reducible refine wu_I ?_ | with_reducible refine wr_isN ?_ | with_reducible refine wr_notN ?_
  | with_reducible refine wr_eq rfl ?_ | with_reducible refine wr_ne rfl ?_ | with_reducible refine w_yes ?_ | with_reducible refine w_tup ?_ | with_reducible refine w_lst ?_ | with_reducible refine s_ret ?_ | with_reducible refine s_retN ?_
  | with_reducible refine s_seq ?_ | with_reducible refine s_if ?_ | with_reducible refine s_set ?_ | with_reducible refine s_dput ?_ | with_reducible refine s_app ?_ | with_reducible refine s_drop ?_ | with_reducible refine s_next ?_ | with_reducible refine s_par ?_ | with_reducible refine s_par3 ?_ | with_reducible refine s_asg ?_
  | with_reducible refine g_name ?_ | with_reducible refine gs_nil ?_ | with_reducible refine gs_cons ?_ | with_reducible refine wi_int_int ?_ | with_reducible refine wi_int_bool ?_ | with_reducible refine wi_str_str ?_ | with_reducible refine w_fld ?_ | with_reducible refine w_meth ?_ | with_reducible refine w_prop ?_ | with_reducible refine w_make ?_ | with_reducible refine w_makeK ?_ | with_reducible refine w_methN ?_ | with_reducible refine w_callN ?_ | with_reducible refine w_dget ?_ | with_reducible refine w_din ?_ | with_reducible refine w_dnin ?_ | with_reducible refine s_fld ?_ | with_reducible refine w_sl ?_ | with_reducible refine w_part ?_
  | with_reducible refine w_noPart ?_ | with_reducible refine iX ?_)

section
variable {P : Program} {w : World} {K : PySem.W.Frag} {mg : Str → Option Value} {base : Heap}
def S_jumps (K : PySem.W.Frag) : Spc := fun vs B M R => ∃ (v : V) (a kd rd : Addr) (es : List (Int × Told)) (ks : List Kd) (cs : List Cl) (z : Str), vs = [v, .ref a, .str z] ∧ PlanV K B v es ∧ EdsOk es ∧ FleetAt K B M a kd rd ks cs ∧ FlOk ks cs ∧ Fits es cs ∧ z ∈ ks.map Kd.name ∧ ∀ B1 q vs, Ex B B1 → B1 q = some (.lst vs) → Paired (PairV B1) vs (jumpsM (es.map (·.1)) (late ks z)) → R (.ref q) B1 M
theorem sc_jumps : FnScope ["plan", "fleet", "kind"] ["plan", "fleet", "kind"] (defScope (top 49)) := ⟨rfl, rfl, rfl, by decide +kernel, rfl, by decide +kernel, by decide +kernel⟩
theorem ok_jumps (T : Tx K mg) : C8.Cal P w K mg base 5 "jumps" (Pm (S_jumps K)) [] := by
  have nd := sc_jumps.nd
  refine calOf (k := 4) (S := (S_jumps K)) T.d_jumps T.g_jumps sc_jumps (fun _ _ _ _ _ _ us hl => match us, hl with | [_, _, _], _ => rfl) (fun vs B M R ⟨_, _, _, _, _, _, _, _, e, _⟩ => by rw [e] <;> rfl) fun cdv A outer s H E hr => ?_
  have hu := hu_of hr
  refine ⟨_, (pss_cons (ps_expr (C8.pe_c (ok_check_plan T) hr (by decide) (by rfl) (pa_cons (pv 0) (pa_cons (pv 1) pa_nil))))
    (pss_cons (ps_expr (C8.pe_c (ok_check_kind T) hr (by decide) (by rfl) (pa_cons (pv 1) (pa_cons (pv 2) pa_nil))))
    (pss_one (ps_ret (C8.pe_c (ok_jumps_of T) hr (by decide) (by rfl) (pa_cons (C8.pe_mt0 (ok_Plan_moments T) hr (by decide) (pv 0)) (pa_cons (C8.pe_mt (ok_Fleet_lateness T) hr (by decide) (pv 1) (pa_cons (pv 2) pa_nil)) pa_nil))))))), ?_⟩
  rintro vs B M R ⟨v, a, kd, rd, es, ks, cs, z, rfl, pv, eo, fl, fo, ft, hz, k⟩
  obtain ⟨b, bx, tp, us, rfl, h2, h3, h4⟩ := id pv
  obtain ⟨⟨dx, h1⟩, _⟩ := id fl
  have hm := eo.most
  have hf := eo.few
  have hw := fo.wd hz
  repeat trivial
  refine ⟨_, a, kd, rd, es, ks, cs, (), rfl, pv, hf, fl, ft, fun B1 e1 => ?_⟩
  repeat trivial
  refine ⟨a, kd, rd, ks, cs, z, (), rfl, fl.ex e1, hw, hz, fun B2 e2 => ?_⟩
  have e12 := e1.trans e2
  repeat trivial
  refine ⟨b, bx, _, rfl, e12 _ _ h2, (lk_past (by decide +kernel)).trans rfl, ?_⟩
  repeat trivial
  refine ⟨_, es, rfl, pv.ex e12, by omega, fun B3 p e3 hp => ?_⟩
  have e123 := e12.trans e3
  repeat trivial
  refine ⟨a, dx, _, rfl, e123 _ _ h1, fNo .., ?_⟩
  repeat trivial
  refine ⟨a, kd, rd, ks, cs, z, _, rfl, fl.ex e123, hw, fo.nd, by have := fo.few; omega, (fo.chn hz).1, (fo.chn hz).2, fun B4 e4 => ?_⟩
  have e := e123.trans e4
  repeat trivial
  exact ⟨p, es.map (fun e : Int × Told => e.1), late ks z, (), rfl, by rw [e4 _ _ hp, List.map_map] <;> rfl, by rw [List.length_map]; exact hm, fun B5 q vs e5 hq hvs => k B5 q vs (e.trans e5) hq hvs⟩
def LockV (B : Hp) (v : V) (p : Str × Nat × Nat) : Prop := ∃ t, v = .ref t ∧ B t = some (.tup [.str p.1, .int (p.2.1 : Nat), .int (p.2.2 : Nat)])
theorem LockV.ex {B B' : Hp} {v : V} {p : Str × Nat × Nat} (x : Ex B B') (h : LockV B v p) : LockV B' v p := by
  obtain ⟨t, h1, h2⟩ := h
  exact ⟨t, h1, x _ _ h2⟩
theorem getT {ts : List Told} {i : Nat} (h : i < ts.length) : ts[i]? = some (ts.getD i told0) := by simp [h]
theorem ToldOk.signs {t : Told} (h : ToldOk t) : (t.sign.getD t.vouch).length ≤ 100 := by
  have h1 := h.vl
  cases e : t.sign with
  | none => exact Nat.le_trans h1 (by omega)
  | some ws => exact Nat.le_trans (h.sw ws e).2.2 (by omega)
theorem jumps_len (ms : List Int) (L : Int) (h : ms.length ≤ 7) : (jumpsM ms L).length ≤ 49 := by
  have h1 := upTo_len ms.length ms.length (Nat.le_refl _) h
  have h2 := List.length_filter_le (jumpB ms L) (upTo ms.length ms.length)
  show (List.filter (jumpB ms L) (upTo ms.length ms.length)).length ≤ 49
  omega
def lockRow (ms : List Int) (ts : List Told) (ks : List Kd) (z : Str) (n : Nat) : List (Str × Nat × Nat) := (((jumpsM ms (late ks z)).take n).filter (lockB ts)).map fun p => (z, p)
theorem lockM_succ {ms : List Int} {ts : List Told} {ks : List Kd} {ys : List Str} {i : Nat} {z : Str} (h : ys[i]? = some z) : lockM ms ts ks (ys.take (i + 1)) = lockM ms ts ks (ys.take i) ++ lockRow ms ts ks z (jumpsM ms (late ks z)).length := by
  unfold lockM lockRow
  rw [List.take_add_one, h, List.flatMap_append, List.take_length]
  simp
def S_found_lockouts (K : PySem.W.Frag) : Spc := fun vs B M R => ∃ (p q a kd rd : Addr) (cv : List V) (ms : List Int) (ts : List Told) (ks : List Kd) (cs : List Cl), vs = [.ref p, .ref q, .ref a] ∧ B p = some (.lst (ms.map V.int)) ∧ ms.length ≤ 7 ∧ ts.length = ms.length ∧ B q = some (.lst cv) ∧ Paired (ContV K B) cv ts ∧ (∀ t ∈ ts, ToldOk t) ∧ FleetAt K B M a kd rd ks cs ∧ FlOk ks cs ∧
  ∀ ys B1 r vs, ys.Perm (ks.map Kd.name) → sortedS ys = true → Ex B B1 → B1 r = some (.lst vs) → Paired (LockV B1) vs (lockM ms ts ks ys) → R (.ref r) B1 M
theorem sc_found_lockouts : FnScope ["moments", "contents", "fleet", "found", "kind", "early", "late"] ["moments", "contents", "fleet"] (defScope (top 50)) := ⟨rfl, rfl, rfl, by decide +kernel, rfl, by decide +kernel, by decide +kernel⟩
theorem ok_found_lockouts (T : Tx K mg) : C8.Cal P w K mg base 5 "found_lockouts" (Pm (S_found_lockouts K)) [] := by
  have nd := sc_found_lockouts.nd
  refine calOf (k := 4) (S := (S_found_lockouts K)) T.d_found_lockouts T.g_found_lockouts sc_found_lockouts (fun _ _ _ _ _ _ us hl => match us, hl with | [_, _, _], _ => rfl) (fun vs B M R ⟨_, _, _, _, _, _, _, _, _, _, e, _⟩ => by rw [e] <;> rfl) fun cdv A outer s H E hr => ?_
  have hu := hu_of hr
  refine ⟨_, (pss_cons (ps_set (i := 3) nd rfl (Or.inl rfl) (pe_lst pa_nil))
    (pss_cons (ps_for PassesOwn.never rfl (pi_list (C8.pe_mt0 (ok_Fleet_names T) hr (by decide) (pv 2))) (pg_name (i := 4) nd rfl (Or.inl rfl))
      (pss_one (ps_for PassesOwn.never rfl (pi_list (C8.pe_c (ok_jumps_of T) hr (by decide) (by rfl) (pa_cons (pv 0) (pa_cons (C8.pe_mt (ok_Fleet_lateness T) hr (by decide) (pv 2) (pa_cons (pv 4) pa_nil)) pa_nil)))) (pg_tup rfl (pgs_cons (pg_name (i := 5) nd rfl (Or.inl rfl)) (pgs_cons (pg_name (i := 6) nd rfl (Or.inl rfl)) pgs_nil)))
        (pss_one (ps_if (pt_not (pt_val (C8.pe_mt (ok_Contents_takes T) hr (by decide) (pe_ix ix_list (pv 1) (pv 5) (fun _ _ => rfl)) (pa_cons (pe_ix ix_list (pv 1) (pv 6) (fun _ _ => rfl)) pa_nil))))
          (pss_one (ps_expr (pe_bm PySem.F.plainAttrs_list PySem.F.slot_list_append PySem.F.type_list_append mt_append (pv 3) (pa_cons (pe_tup (pa_cons (pv 4) (pa_cons (pv 5) (pa_cons (pv 6) pa_nil)))) pa_nil))))
          pss_nil)))))
    (pss_one (ps_ret (pv 3))))), ?_⟩
  rintro vs B M R ⟨p, q, a, kd, rd, cv, ms, ts, ks, cs, rfl, hp, hm, hts, hq, hcv, hto, fl, fo, k⟩
  refine wS.postO ?_
  obtain ⟨⟨dx, h1⟩, _⟩ := id fl
  refine s_seq (s_set (w_lstM (is (.lst [])) (w_nil ⟨by decide, isr, fun f fB fM => ?_⟩)))
  have fl0 : ∀ P, FleetAt K B (updM M f P) a kd rd ks cs := fun P => by
    obtain ⟨hh1, ⟨kvs, hh2, hh3⟩, ⟨rs, hh4, hh5⟩⟩ := id fl
    exact ⟨hh1, ⟨kvs, by rw [updM_ne fun z => by rw [← z, hh2] at fM; cases fM]; exact hh2, hh3⟩, ⟨rs, by rw [updM_ne fun z => by rw [← z, hh4] at fM; cases fM]; exact hh4, hh5⟩⟩
  repeat trivial
  refine s_for (i_list ?_)
  repeat trivial
  refine ⟨a, dx, _, rfl, h1, fNo .., ?_⟩
  repeat trivial
  refine ⟨a, kd, rd, ks, cs, (), rfl, fl0 _, by have := fo.few; omega, fun B1 n ys e1 py sy hn => ?_⟩
  have yl : ys.length ≤ 5 := by
    have := py.length_eq
    rw [List.length_map] at this
    have := fo.few
    omega
  refine ⟨n, _, rfl, .of hn, _, _, _, wb_list (.of hn), fun i σ' B' M' => (∃ u1 u2 u3, σ' = [some (.ref p), some (.ref q), some (.ref a), some (.ref f), u1, u2, u3]) ∧ Ex B1 B' ∧ ∃ vs, M' = updM M f (is (.lst vs)) ∧ Paired (LockV B') vs (lockM ms ts ks (ys.take i)) ∧ vs.length ≤ 49 * i, ⟨⟨_, _, _, rfl⟩, Ex.refl _, [], rfl, .nil, Nat.zero_le _⟩, fun i σ' B' M' _ h => ⟨h.2.1, True.intro⟩, ?_, ?_⟩
  · rintro i x σ' B' M' B2 hi ⟨⟨u1, u2, u3, rfl⟩, e2, vs, rfl, hvs, hvl⟩ e3 hx
    rw [List.getElem?_map] at hx
    obtain ⟨z, hz, rfl⟩ := Option.map_eq_some_iff.mp hx
    have zm : z ∈ ks.map Kd.name := py.mem_iff.mp (List.mem_of_getElem? hz)
    have e4 := (e1.trans e2).trans e3
    rw [List.length_map] at hi
    repeat trivial
    refine s_for (i_list ?_)
    repeat trivial
    refine ⟨a, dx, _, rfl, e4 _ _ h1, fNo .., ?_⟩
    repeat trivial
    refine ⟨a, kd, rd, ks, cs, z, _, rfl, (fl0 _).ex e4, fo.wd zm, fo.nd, by have := fo.few; omega, (fo.chn zm).1, (fo.chn zm).2, fun B3 e5 => ?_⟩
    have e6 := e4.trans e5
    repeat trivial
    refine ⟨p, ms, late ks z, (), rfl, e6 _ _ hp, hm, fun B4 j js e7 hj hjs => ?_⟩
    have e8 := e6.trans e7
    have jl := f2_len hjs
    have jl2 := jumps_len ms (late ks z) hm
    refine ⟨j, js, rfl, .of hj, _, _, _, wb_list (.of hj), fun m σ' B' M' => (∃ u2 u3, σ' = [some (.ref p), some (.ref q), some (.ref a), some (.ref f), some (.str z), u2, u3]) ∧ Ex B4 B' ∧ ∃ vs, M' = updM M f (is (.lst vs)) ∧ Paired (LockV B') vs (lockM ms ts ks (ys.take i) ++ lockRow ms ts ks z m) ∧ vs.length ≤ 49 * i + m, ⟨⟨_, _, rfl⟩, Ex.refl _, vs, rfl, ?_, hvl⟩, fun i σ' B' M' _ h => ⟨h.2.1, True.intro⟩, ?_, ?_⟩
    · show Paired _ _ (_ ++ [])
      rw [List.append_nil]
      exact f2_mono (fun _ _ => LockV.ex ((e3.trans e5).trans e7)) hvs
    · rintro m x σ' B5 M' B6 hm2 ⟨⟨w2, w3, rfl⟩, e9, vs2, rfl, hvs2, hvl2⟩ e10 hx
      obtain ⟨⟨ei, li⟩, hq2, t, rfl, ht⟩ := f2_get hjs hx
      have hmem := mem_pairsUp ((List.mem_filter.mp (List.mem_of_getElem? hq2)).1)
      have e11 := e9.trans e10
      have e12 := e8.trans e11
      refine g_tup (.of (e11 _ _ ht)) rfl ?_
      repeat trivial
      obtain ⟨c1, hc1, hcc1⟩ := f2_at hcv (getT (ts := ts) (i := ei) (by have := hmem.1; have := hmem.2; omega))
      obtain ⟨c2, hc2, hcc2⟩ := f2_at hcv (getT (ts := ts) (i := li) (by have := hmem.2; omega))
      refine wr_ixL (.of (e12 _ _ hq)) (atN hc1) ?_
      obtain ⟨a1, d1, rfl, f1, g1⟩ := hcc1.addr
      refine ⟨a1, d1, f1, rfl, e12 _ _ g1, ?_, ?_⟩
      · obtain ⟨_, _, _, _, _, _, _, _, _, rz, g2, _⟩ := hcc1
        cases rz
        rw [g1] at g2
        cases g2
        exact cNo ..
      repeat trivial
      refine wr_ixL (.of (e12 _ _ hq)) (atN hc2) ?_
      repeat trivial
      refine ⟨_, _, ts.getD ei told0, ts.getD li told0, rfl, hcc1.ex e12, hcc2.ex e12, (hto _ (List.mem_of_getElem? (getT (by have := hmem.2; omega)))).signs, fun B7 e13 => ?_⟩
      have hlk : lockB ts (ei, li) = !takesM (ts.getD ei told0) (ts.getD li told0) := rfl
      have hrow : ∀ b, lockB ts (ei, li) = b → lockRow ms ts ks z (m + 1) = lockRow ms ts ks z m ++ (if b then [(z, ei, li)] else []) := by
        intro b hb
        unfold lockRow
        rw [List.take_add_one, hq2, List.filter_append, List.map_append]
        cases b <;> simp [hb]
      cases htk : takesM (ts.getD ei told0) (ts.getD li told0) with
      | true =>
        repeat trivial
        refine ⟨⟨_, _, rfl⟩, e11.trans e13, vs2, rfl, ?_, by omega⟩
        rw [hrow false (by rw [hlk, htk] <;> rfl)]
        simp
        exact f2_mono (fun _ _ => LockV.ex (e10.trans e13)) hvs2
      | false =>
        repeat trivial
        refine ⟨f, rfl, ⟨_, updM_same⟩, ?_⟩
        repeat trivial
        refine ⟨len3, fun t2 ht2 mt2 => ⟨vs2, updM_same, by omega, ?_⟩⟩
        rw [updM_updM]
        refine ⟨⟨_, _, rfl⟩, (e11.trans e13).trans (exNew ht2), _, rfl, ?_, by rw [List.length_append]; simp; omega⟩
        rw [hrow true (by rw [hlk, htk] <;> rfl), if_pos rfl, ← List.append_assoc]
        exact Paired.snoc (f2_mono (fun _ _ => LockV.ex ((e10.trans e13).trans (exNew ht2))) hvs2) ⟨t2, rfl, upd_same⟩
    · rintro σ' B5 M' ⟨⟨w2, w3, rfl⟩, e9, vs2, rfl, hvs2, hvl2⟩
      refine ⟨⟨_, _, _, rfl⟩, ((e2.trans e3).trans (e5.trans e7)).trans e9, vs2, rfl, ?_, by omega⟩
      rw [lockM_succ hz, ← jl]
      exact hvs2
  · rintro σ' B' M' ⟨⟨u1, u2, u3, rfl⟩, e2, vs, rfl, hvs, hvl⟩
    repeat trivial
    rw [List.take_of_length_le (by rw [List.length_map]; exact Nat.le_refl _)] at hvs
    intro ok0
    have n1 := Ok.out ok0 updM_same
    exact ⟨_, M, fun H kk => kk.freeze' fM, k ys _ f vs py sy ((e1.trans e2).trans (exNew n1)) upd_same (f2_mono (fun _ _ => LockV.ex (exNew n1)) hvs)⟩
end
end Ab
/-! ## D19 -/
set_option Elab.async false
set_option linter.all false
set_option maxRecDepth 100000
set_option maxHeartbeats 4000000
namespace Ab
open PySem L2 PyProof.Rows
open Evl (Ex)
local macro_rules | `(tactic| trivial) => `(tactic| first
  | ((with_reducible apply w_var); exact rfl)
  | with_reducible refine w_c ?_ | with_reducible refine w_cons ?_ | with_reducible refine w_nil ?_ | with_reducible refine w_op ?_ | with_reducible refine w_cb ?_ | with_reducible refine w_call ?_ | with_reducible refine w_test ?_ | with_reducible refine w_B ?_
  | with_reducible refine bX ?_ | with_reducible refine bT ?_ | with_reducible refine bF ?_ | with_reducible refine zN ?_ | with_reducible refine zI ?_ | with_reducible refine zS ?_ | with_reducible refine zR ?_ | with_reducible refine zN' ?_ | with_reducible refine zI' ?_ | with_reducible refine zS' ?_ | with_reducible refine zR' ?_ | with_reducible refine bnT ?_ | with_reducible refine bnF ?_ | with_reducible refine w_and ?_ | with_reducible refine w_or ?_ | with_reducible refine w_not ?_ | with_reducible refine w_andV ?_ | with_reducible refine w_orV ?_
  | with_reducible refine w_notV ?_ | with_reducible refine w_if ?_ | with_reducible refine w_chain ?_ | with_reducible refine w_un ?_ | with_reducible refine wr_I0 ?_ | with_reducible refine wu_I ?_ | with_reducible refine wr_isN ?_ | with_reducible refine wr_notN ?_
  | with_reducible refine wr_eq rfl ?_ | with_reducible refine wr_ne rfl ?_ | with_reducible refine w_yes ?_ | with_reducible refine w_tup ?_ | with_reducible refine w_lst ?_ | with_reducible refine s_ret ?_ | with_reducible refine s_retN ?_
  | with_reducible refine s_seq ?_ | with_reducible refine s_if ?_ | with_reducible refine s_set ?_ | with_reducible refine s_dput ?_ | with_reducible refine s_app ?_ | with_reducible refine s_drop ?_ | with_reducible refine s_next ?_ | with_reducible refine s_par ?_ | with_reducible refine s_par3 ?_ | with_reducible refine s_asg ?_
  | with_reducible refine g_name ?_ | with_reducible refine gs_nil ?_ | with_reducible refine gs_cons ?_ | with_reducible refine wi_int_int ?_ | with_reducible refine wi_int_bool ?_ | with_reducible refine wi_str_str ?_ | with_reducible refine w_fld ?_ | with_reducible refine w_meth ?_ | with_reducible refine w_prop ?_ | with_reducible refine w_make ?_ | with_reducible refine w_makeK ?_ | with_reducible refine w_methN ?_ | with_reducible refine w_callN ?_ | with_reducible refine w_dget ?_ | with_reducible refine w_din ?_ | with_reducible refine w_dnin ?_ | with_reducible refine s_fld ?_ | with_reducible refine w_sl ?_ | with_reducible refine w_part ?_
  | with_reducible refine w_noPart ?_ | with_reducible refine iX ?_)

section
variable {P : Program} {w : World} {K : PySem.W.Frag} {mg : Str → Option Value} {base : Heap}
def S_lockouts (K : PySem.W.Frag) : Spc := fun vs B M R => ∃ (v : V) (a kd rd : Addr) (es : List (Int × Told)) (ks : List Kd) (cs : List Cl) (u : Unit), vs = [v, .ref a] ∧ PlanV K B v es ∧ EdsOk es ∧ FleetAt K B M a kd rd ks cs ∧ FlOk ks cs ∧ Fits es cs ∧ ∀ ys B1 r vs, ys.Perm (ks.map Kd.name) → sortedS ys = true → Ex B B1 → B1 r = some (.lst vs) → Paired (LockV B1) vs (lockM (es.map (·.1)) (es.map (·.2)) ks ys) → R (.ref r) B1 M
theorem sc_lockouts : FnScope ["plan", "fleet"] ["plan", "fleet"] (defScope (top 51)) := ⟨rfl, rfl, rfl, by decide +kernel, rfl, by decide +kernel, by decide +kernel⟩
theorem ok_lockouts (T : Tx K mg) : C8.Cal P w K mg base 6 "lockouts" (Pm (S_lockouts K)) [] := by
  have nd := sc_lockouts.nd
  refine calOf (k := 5) (S := (S_lockouts K)) T.d_lockouts T.g_lockouts sc_lockouts (fun _ _ _ _ _ _ us hl => match us, hl with | [_, _], _ => rfl) (fun vs B M R ⟨_, _, _, _, _, _, _, _, e, _⟩ => by rw [e] <;> rfl) fun cdv A outer s H E hr => ?_
  have hu := hu_of hr
  refine ⟨_, (pss_cons (ps_expr (C8.pe_c (ok_check_plan T) hr (by decide) (by rfl) (pa_cons (pv 0) (pa_cons (pv 1) pa_nil))))
    (pss_one (ps_ret (C8.pe_c (ok_found_lockouts T) hr (by decide) (by rfl) (pa_cons (C8.pe_mt0 (ok_Plan_moments T) hr (by decide) (pv 0)) (pa_cons (C8.pe_c (ok_contents_list T) hr (by decide) (by rfl) (pa_cons (pv 0) pa_nil)) (pa_cons (pv 1) pa_nil))))))), ?_⟩
  rintro vs B M R ⟨v, a, kd, rd, es, ks, cs, _, rfl, pv, eo, fl, fo, ft, k⟩
  obtain ⟨b, bx, tp, us, rfl, h2, h3, h4⟩ := id pv
  have hm := eo.most
  have hf := eo.few
  repeat trivial
  refine ⟨_, a, kd, rd, es, ks, cs, (), rfl, pv, hf, fl, ft, fun B1 e1 => ?_⟩
  repeat trivial
  refine ⟨b, bx, _, rfl, e1 _ _ h2, (lk_past (by decide +kernel)).trans rfl, ?_⟩
  repeat trivial
  refine ⟨_, es, rfl, pv.ex e1, by omega, fun B2 p e2 hp => ?_⟩
  have e12 := e1.trans e2
  repeat trivial
  refine ⟨_, es, (), rfl, pv.ex e12, by omega, fun B3 q cv e3 hq hcv => ?_⟩
  have e := e12.trans e3
  repeat trivial
  refine ⟨p, q, a, kd, rd, cv, es.map (fun e : Int × Told => e.1), es.map (fun e : Int × Told => e.2), ks, cs, rfl, by rw [e3 _ _ hp, List.map_map] <;> rfl, by rw [List.length_map]; exact hm, by rw [List.length_map, List.length_map], hq, hcv, fun t ht => ?_, fl.ex e, fo, fun ys B4 r vs py sy e4 hr2 hvs => k ys B4 r vs py sy (e.trans e4) hr2 hvs⟩
  obtain ⟨x, hx, rfl⟩ := List.mem_map.mp ht
  exact eo.told x hx
structure MsOk (ms : List Int) : Prop where
  most : ms.length ≤ 7
  mom : ∀ i, i < ms.length → 0 ≤ ms.getD i 0 ∧ ms.getD i 0 ≤ 10 ^ 40
  inc : ∀ i, i + 1 < ms.length → ms.getD i 0 < ms.getD (i + 1) 0
theorem EdsOk.ms {es : List (Int × Told)} (h : EdsOk es) : MsOk (es.map fun e : Int × Told => e.1) := by
  have g : ∀ i, i < es.length → ∃ e, es[i]? = some e ∧ (es.map fun e : Int × Told => e.1).getD i 0 = e.1 := fun i hi => ⟨es[i]'hi, by simp, by simp [hi]⟩
  refine ⟨by rw [List.length_map]; exact h.most, fun i hi => ?_, fun i hi => ?_⟩
  · rw [List.length_map] at hi
    obtain ⟨e, he, e1⟩ := g i hi
    rw [e1]
    exact h.mom e (List.mem_of_getElem? he)
  · rw [List.length_map] at hi
    obtain ⟨e, he, e1⟩ := g i (by omega)
    obtain ⟨f, hf, f1⟩ := g (i + 1) hi
    rw [e1, f1]
    exact h.inc i e f he hf
theorem lastH_lim {ms : List Int} (h : MsOk ms) {L : Int} (l1 : 1 ≤ L) (l2 : L ≤ 1 + 12 * 10 ^ 30) {n : Nat} (hn : n < ms.length) : ∀ y, lastH ms L n = some y → 0 ≤ y ∧ y ≤ 10 ^ 41 := by
  intro y hy
  unfold lastH at hy
  split at hy
  · cases hy
  · have := h.mom (n + 1) (by omega)
    have := h.mom n hn
    have := h.inc n (by omega)
    rw [← Option.some.inj hy]
    omega
theorem lim_of {y : Int} (h : 0 ≤ y) (h2 : y ≤ 10 ^ 42) : Lim y := by
  unfold Lim
  omega
theorem heldR_some {ms : List Int} (h : MsOk ms) {L : Int} (l1 : 1 ≤ L) {n : Nat} (hn : n < ms.length) : heldR ms L n = some (ms.getD n 0, lastH ms L n) := by
  unfold heldR lastH
  by_cases e : n + 1 = ms.length
  · rw [if_pos e]
    rfl
  · rw [if_neg e]
    have h2 := h.inc n (by omega)
    have h3 : ¬ (ms.getD (n + 1) 0 + L - 2 < ms.getD n 0) := by omega
    exact if_neg h3
theorem clientR_some {ms : List Int} (h : MsOk ms) {ks : List Kd} {c : Cl} (l1 : 1 ≤ late ks c.client) (l0 : 0 ≤ c.life) {n : Nat} (hn : n < ms.length) : clientR ms ks c n = some (ms.getD n 0, (lastH ms (late ks c.client) n).map (· + c.life)) := by
  unfold clientR lastH
  by_cases e : n + 1 = ms.length
  · rw [if_pos e]
    rfl
  · rw [if_neg e]
    have h2 := h.inc n (by omega)
    have h3 : ¬ (ms.getD (n + 1) 0 + late ks c.client - 2 + c.life < ms.getD n 0) := by omega
    exact if_neg h3
def S_client_range (K : PySem.W.Frag) : Spc := fun vs B M R => ∃ (p a kd rd : Addr) (ms : List Int) (ks : List Kd) (cs : List Cl) (m n : Nat), vs = [.ref p, .ref a, .int m, .int n] ∧ B p = some (.lst (ms.map V.int)) ∧ MsOk ms ∧ FleetAt K B M a kd rd ks cs ∧ FlOk ks cs ∧ n < ms.length ∧ ∃ c, cs[m]? = some c ∧ ∀ B1 v, Ex B B1 → RangeV K B1 v (clientR ms ks c n) → R v B1 M
theorem sc_client_range : FnScope ["moments", "fleet", "call", "number", "role", "client", "server", "life", "last"] ["moments", "fleet", "call", "number"] (defScope (top 53)) := ⟨rfl, rfl, rfl, by decide +kernel, rfl, by decide +kernel, by decide +kernel⟩
theorem ok_client_range (T : Tx K mg) : C8.Cal P w K mg base 5 "client_range" (Pm (S_client_range K)) [] := by
  have nd := sc_client_range.nd
  refine calOf (k := 4) (S := (S_client_range K)) T.d_client_range T.g_client_range sc_client_range (fun _ _ _ _ _ _ us hl => match us, hl with | [_, _, _, _], _ => rfl) (fun vs B M R ⟨_, _, _, _, _, _, _, _, _, e, _⟩ => by rw [e] <;> rfl) fun cdv A outer s H E hr => ?_
  have hu := hu_of hr
  refine ⟨_, (pss_cons (ps_asg (pe_ix ix_list (C8.pe_mt0 (ok_Fleet_calls T) hr (by decide) (pv 1)) (pv 2) (fun _ _ => rfl)) (pg_tup rfl (pgs_cons (pg_name (i := 4) nd rfl (Or.inl rfl)) (pgs_cons (pg_name (i := 5) nd rfl (Or.inl rfl)) (pgs_cons (pg_name (i := 6) nd rfl (Or.inl rfl)) (pgs_cons (pg_name (i := 7) nd rfl (Or.inl rfl)) pgs_nil))))))
    (pss_cons (ps_set (i := 8) nd rfl (Or.inl rfl) (C8.pe_c (ok_last_held T) hr (by decide) (by rfl) (pa_cons (pv 0) (pa_cons (C8.pe_mt (ok_Fleet_lateness T) hr (by decide) (pv 1) (pa_cons (pv 5) pa_nil)) (pa_cons (pv 3) pa_nil)))))
    (pss_one (ps_ret (C8.pe_mk (ok_Range___init__ T) hr (by decide) (by rfl) (pa_cons (pe_ix ix_list (pv 0) (pv 3) (fun _ _ => rfl)) (pa_cons (pe_ifExp (pt_cmpR op_isN (pv 8) pe_non (nomark _)) pe_non (pe_op op_add (pv 8) (pv 7))) pa_nil))))))), ?_⟩
  rintro vs B M R ⟨p, a, kd, rd, ms, ks, cs, m, n, rfl, hp, mo, fl, fo, hn, c, hc, k⟩
  obtain ⟨⟨dx, h1⟩, _⟩ := id fl
  have cm := List.mem_of_getElem? hc
  have zm := fo.c1 c cm
  have lb := fo.late_b zm
  have l3 := fo.c3 c cm
  repeat trivial
  refine ⟨a, dx, _, rfl, h1, fNo .., ?_⟩
  repeat trivial
  refine ⟨a, kd, rd, ks, cs, (), rfl, fl, fun B1 q rs e1 hq hrs => ?_⟩
  repeat trivial
  obtain ⟨x, hx, t, rfl, ht⟩ := f2_at hrs hc
  refine wr_ixL (.of hq) (atN hx) ?_
  refine g_tup (.of ht) rfl ?_
  repeat trivial
  refine ⟨a, dx, _, rfl, e1 _ _ h1, fNo .., ?_⟩
  repeat trivial
  refine ⟨a, kd, rd, ks, cs, c.client, _, rfl, fl.ex e1, fo.wd zm, fo.nd, by have := fo.few; omega, (fo.chn zm).1, (fo.chn zm).2, fun B2 e2 => ?_⟩
  have e := e1.trans e2
  repeat trivial
  refine ⟨p, ms, late ks c.client, n, rfl, e _ _ hp, hn, ?_⟩
  repeat trivial
  refine wr_ixL (.of (e _ _ hp)) (mAt hn) ?_
  repeat trivial
  have hl := lastH_lim mo lb.1 lb.2 hn
  have mm := mo.mom n hn
  have fin : ∀ (x dx2 : Addr), B2 x = none → M x = none → S_Range___init__ K [.ref x, .int (ms.getD n 0), oI ((lastH ms (late ks c.client) n).map (· + c.life))] B2 (updM M x (is (.ins (He.ga K "Range") dx2 []))) fun v B3 M3 => v = .non ∧ R (.ref x) B3 M3 :=
    fun x dx2 nB nM => ⟨x, dx2, M, ms.getD n 0, _, rfl, rfl, nM, lim_of mm.1 (by omega), fun y hy => by
      obtain ⟨z, hz, ez⟩ := Option.map_eq_some_iff.mp hy
      have := hl z hz
      exact lim_of (by omega) (by omega), fun B3 e3 hk => ⟨rfl, k B3 _ (e.trans e3) hk⟩⟩
  cases hlast : lastH ms (late ks c.client) n with
  | none =>
    rw [hlast] at fin
    rw [show oI none = V.non from rfl]
    repeat trivial
  | some y =>
    rw [hlast] at fin
    rw [show oI (some y) = V.int y from rfl]
    repeat trivial
def S_server_range (K : PySem.W.Frag) : Spc := fun vs B M R => ∃ (p a kd rd : Addr) (ms : List Int) (ks : List Kd) (cs : List Cl) (m n : Nat), vs = [.ref p, .ref a, .int m, .int n] ∧ B p = some (.lst (ms.map V.int)) ∧ MsOk ms ∧ FleetAt K B M a kd rd ks cs ∧ FlOk ks cs ∧ n < ms.length ∧ ∃ c, cs[m]? = some c ∧ ∀ B1 v, Ex B B1 → RangeV K B1 v (serverR ms ks c n) → R v B1 M
theorem sc_server_range : FnScope ["moments", "fleet", "call", "number"] ["moments", "fleet", "call", "number"] (defScope (top 54)) := ⟨rfl, rfl, rfl, by decide +kernel, rfl, by decide +kernel, by decide +kernel⟩
theorem ok_server_range (T : Tx K mg) : C8.Cal P w K mg base 6 "server_range" (Pm (S_server_range K)) [] := by
  have nd := sc_server_range.nd
  refine calOf (k := 5) (S := (S_server_range K)) T.d_server_range T.g_server_range sc_server_range (fun _ _ _ _ _ _ us hl => match us, hl with | [_, _, _, _], _ => rfl) (fun vs B M R ⟨_, _, _, _, _, _, _, _, _, e, _⟩ => by rw [e] <;> rfl) fun cdv A outer s H E hr => ?_
  have hu := hu_of hr
  refine ⟨_, (pss_one (ps_ret (C8.pe_c (ok_range_of T) hr (by decide) (by rfl) (pa_cons (pv 0) (pa_cons (C8.pe_mt (ok_Fleet_lateness T) hr (by decide) (pv 1) (pa_cons (pe_ix ix_tup (pe_ix ix_list (C8.pe_mt0 (ok_Fleet_calls T) hr (by decide) (pv 1)) (pv 2) (fun _ _ => rfl)) pe_int (fun _ _ => rfl)) pa_nil)) (pa_cons (pv 3) pa_nil)))))), ?_⟩
  rintro vs B M R ⟨p, a, kd, rd, ms, ks, cs, m, n, rfl, hp, mo, fl, fo, hn, c, hc, k⟩
  obtain ⟨⟨dx, h1⟩, _⟩ := id fl
  have cm := List.mem_of_getElem? hc
  have zm := fo.c2 c cm
  have lb := fo.late_b zm
  repeat trivial
  refine ⟨a, dx, _, rfl, h1, fNo .., ?_⟩
  repeat trivial
  refine ⟨a, dx, _, rfl, h1, fNo .., ?_⟩
  repeat trivial
  refine ⟨a, kd, rd, ks, cs, (), rfl, fl, fun B1 q rs e1 hq hrs => ?_⟩
  repeat trivial
  obtain ⟨x, hx, t, rfl, ht⟩ := f2_at hrs hc
  refine wr_ixL (.of hq) (atN hx) ?_
  repeat trivial
  refine wr_ixT (.of ht) (v := .str c.server) (by rfl) ?_
  repeat trivial
  refine ⟨a, kd, rd, ks, cs, c.server, _, rfl, fl.ex e1, fo.wd zm, fo.nd, by have := fo.few; omega, (fo.chn zm).1, (fo.chn zm).2, fun B2 e2 => ?_⟩
  have e := e1.trans e2
  repeat trivial
  have hl := lastH_lim mo lb.1 lb.2 hn
  have mm := mo.mom n hn
  exact ⟨p, ms, late ks c.server, n, (), rfl, e _ _ hp, hn, lim_of mm.1 (by omega), fun y hy => by
    have := hl y hy
    exact lim_of (by omega) (by omega), fun B3 v e3 hv => k B3 v (e.trans e3) hv⟩
end
end Ab
/-! ## D20 -/
set_option Elab.async false
set_option linter.all false
set_option maxRecDepth 100000
set_option maxHeartbeats 4000000
namespace Ab
open PySem L2 PyProof.Rows
open Evl (Ex)
local macro_rules | `(tactic| trivial) => `(tactic| first
  | ((with_reducible apply w_var); exact rfl)
  | with_reducible refine w_c ?_ | with_reducible refine w_cons ?_ | with_reducible refine w_nil ?_ | with_reducible refine w_op ?_ | with_reducible refine w_cb ?_ | with_reducible refine w_call ?_ | with_reducible refine w_test ?_ | with_reducible refine w_B ?_
  | with_reducible refine bX ?_ | with_reducible refine bT ?_ | with_reducible refine bF ?_ | with_reducible refine zN ?_ | with_reducible refine zI ?_ | with_reducible refine zS ?_ | with_reducible refine zR ?_ | with_reducible refine zN' ?_ | with_reducible refine zI' ?_ | with_reducible refine zS' ?_ | with_reducible refine zR' ?_ | with_reducible refine bnT ?_ | with_reducible refine bnF ?_ | with_reducible refine w_and ?_ | with_reducible refine w_or ?_ | with_reducible refine w_not ?_ | with_reducible refine w_andV ?_ | with_reducible refine w_orV ?_
  | with_reducible refine w_notV ?_ | with_reducible refine w_if ?_ | with_reducible refine w_chain ?_ | with_reducible refine w_un ?_ | with_reducible refine wr_I0 ?_ | with_reducible refine wu_I ?_ | with_reducible refine wr_isN ?_ | with_reducible refine wr_notN ?_
  | with_reducible refine wr_eq rfl ?_ | with_reducible refine wr_ne rfl ?_ | with_reducible refine w_yes ?_ | with_reducible refine w_tup ?_ | with_reducible refine w_lst ?_ | with_reducible refine s_ret ?_ | with_reducible refine s_retN ?_
  | with_reducible refine s_seq ?_ | with_reducible refine s_if ?_ | with_reducible refine s_set ?_ | with_reducible refine s_dput ?_ | with_reducible refine s_app ?_ | with_reducible refine s_drop ?_ | with_reducible refine s_next ?_ | with_reducible refine s_par ?_ | with_reducible refine s_par3 ?_ | with_reducible refine s_asg ?_
  | with_reducible refine g_name ?_ | with_reducible refine gs_nil ?_ | with_reducible refine gs_cons ?_ | with_reducible refine wi_int_int ?_ | with_reducible refine wi_int_bool ?_ | with_reducible refine wi_str_str ?_ | with_reducible refine w_fld ?_ | with_reducible refine w_meth ?_ | with_reducible refine w_prop ?_ | with_reducible refine w_make ?_ | with_reducible refine w_makeK ?_ | with_reducible refine w_methN ?_ | with_reducible refine w_callN ?_ | with_reducible refine w_dget ?_ | with_reducible refine w_din ?_ | with_reducible refine w_dnin ?_ | with_reducible refine s_fld ?_ | with_reducible refine w_sl ?_ | with_reducible refine w_part ?_
  | with_reducible refine w_noPart ?_ | with_reducible refine iX ?_)

section
variable {P : Program} {w : World} {K : PySem.W.Frag} {mg : Str → Option Value} {base : Heap}
def S_do_meet (K : PySem.W.Frag) : Spc := fun vs B M R => ∃ (p a kd rd : Addr) (ms : List Int) (ks : List Kd) (cs : List Cl) (m i : Nat), ∃ j : Nat, vs = [.ref p, .ref a, .int m, .int i, .int j] ∧ B p = some (.lst (ms.map V.int)) ∧ MsOk ms ∧ FleetAt K B M a kd rd ks cs ∧ FlOk ks cs ∧ i < ms.length ∧ j < ms.length ∧ ∃ c, cs[m]? = some c ∧ ∀ B1, Ex B B1 → R (.bl (meetB ms ks c i j)) B1 M
theorem sc_do_meet : FnScope ["moments", "fleet", "call", "early", "late"] ["moments", "fleet", "call", "early", "late"] (defScope (top 55)) := ⟨rfl, rfl, rfl, by decide +kernel, rfl, by decide +kernel, by decide +kernel⟩
theorem ok_do_meet (T : Tx K mg) : C8.Cal P w K mg base 7 "do_meet" (Pm (S_do_meet K)) [] := by
  have nd := sc_do_meet.nd
  refine calOf (k := 6) (S := (S_do_meet K)) T.d_do_meet T.g_do_meet sc_do_meet (fun _ _ _ _ _ _ us hl => match us, hl with | [_, _, _, _, _], _ => rfl) (fun vs B M R ⟨_, _, _, _, _, _, _, _, _, _, e, _⟩ => by rw [e] <;> rfl) fun cdv A outer s H E hr => ?_
  have hu := hu_of hr
  refine ⟨_, (pss_one (ps_ret (pe_callTy (call_ownBool (ok_Range___bool__ T) hr (by decide)) (by rfl) T.f_bool (by decide +kernel) (pa_cons (pe_op (op_ownAnd (ok_Range___and__ T) (T.ex 7 (by rfl)) hr (by decide)) (C8.pe_c (ok_client_range T) hr (by decide) (by rfl) (pa_cons (pv 0) (pa_cons (pv 1) (pa_cons (pv 2) (pa_cons (pv 3) pa_nil))))) (C8.pe_c (ok_server_range T) hr (by decide) (by rfl) (pa_cons (pv 0) (pa_cons (pv 1) (pa_cons (pv 2) (pa_cons (pv 4) pa_nil)))))) pa_nil)))), ?_⟩
  rintro vs B M R ⟨p, a, kd, rd, ms, ks, cs, m, i, j, rfl, hp, mo, fl, fo, hi, hj, c, hc, k⟩
  have cm := List.mem_of_getElem? hc
  have l1 := fo.late_b (fo.c1 c cm)
  have l2 := fo.late_b (fo.c2 c cm)
  have l3 := fo.c3 c cm
  repeat trivial
  refine ⟨p, a, kd, rd, ms, ks, cs, m, i, rfl, hp, mo, fl, fo, hi, c, hc, fun B1 v e1 hv => ?_⟩
  repeat trivial
  refine ⟨p, a, kd, rd, ms, ks, cs, m, j, rfl, e1 _ _ hp, mo, fl.ex e1, fo, hj, c, hc, fun B2 u e2 hu => ?_⟩
  obtain ⟨a1, d1, p1, rfl, f1, g1⟩ := id hv
  obtain ⟨a2, d2, p2, rfl, f2, g2⟩ := id hu
  refine wr_ownAnd (e2 _ _ f1) f2 ?_
  have hv2 := hv.ex e2
  have ec := clientR_some mo l1.1 l3.1 hi
  have es : serverR ms ks c j = _ := heldR_some mo l2.1 hj
  have m1 := mo.mom i hi
  have m2 := mo.mom j hj
  have h1 := lastH_lim mo l1.1 l1.2 hi
  have h2 := lastH_lim mo l2.1 l2.2 hj
  refine ⟨_, _, _, _, _, _, rfl, ec ▸ hv2, es ▸ hu, lim_of m1.1 (by omega), lim_of m2.1 (by omega), fun y hy => ?_, fun y hy => ?_, fun B3 w e3 hw => ?_⟩
  · obtain ⟨z, hz, ez⟩ := Option.map_eq_some_iff.mp hy
    have := h1 z hz
    exact lim_of (by omega) (by omega)
  · have := h2 y hy
    exact lim_of (by omega) (by omega)
  have eand : andR (clientR ms ks c i) (serverR ms ks c j) = mkR (maxI (ms.getD i 0) (ms.getD j 0)) (minO ((lastH ms (late ks c.client) i).map (· + c.life)) (lastH ms (late ks c.server) j)) := by
    rw [ec, es]
    rfl
  rw [← eand] at hw
  obtain ⟨a3, d3, p3, rfl, f3, g3⟩ := id hw
  refine ⟨⟨_, rfl⟩, ?_⟩
  repeat trivial
  exact wc_ownBool f3 ⟨_, _, rfl, hw, _, rfl, k _ ((e1.trans e2).trans e3)⟩
def allTo (n i : Nat) : List (Nat × Nat) := (List.range i).flatMap fun i => (List.range n).map fun j => (i, j)
theorem allTo_succ (n i : Nat) : allTo n (i + 1) = allTo n i ++ (List.range n).map fun j => (i, j) := by
  unfold allTo
  rw [List.range_succ, List.flatMap_append]
  simp
theorem allTo_len (n i : Nat) : (allTo n i).length = n * i := by
  induction i with
  | zero => simp [allTo]
  | succ i ih =>
    rw [allTo_succ, List.length_append, List.length_map, List.length_range, ih, Nat.mul_succ]
theorem mem_pairsAll {n : Nat} {p : Nat × Nat} (h : p ∈ pairsAll n) : p.1 < n ∧ p.2 < n := by
  unfold pairsAll at h
  obtain ⟨i, hi, h2⟩ := List.mem_flatMap.mp h
  obtain ⟨j, hj, rfl⟩ := List.mem_map.mp h2
  rw [List.mem_range] at hi hj
  exact ⟨hi, hj⟩
def S_pairs_of (K : PySem.W.Frag) : Spc := fun vs B M R => ∃ (p : Addr) (xs : List V) (u : Unit), vs = [.ref p] ∧ B p = some (.lst xs) ∧ xs.length ≤ 7 ∧ ∀ B1 q vs, Ex B B1 → B1 q = some (.lst vs) → Paired (PairV B1) vs (pairsAll xs.length) → R (.ref q) B1 M
theorem sc_pairs_of : FnScope ["some", "early", "late"] ["some"] (defScope (top 56)) := ⟨rfl, rfl, rfl, by decide +kernel, rfl, by decide +kernel, by decide +kernel⟩
theorem ok_pairs_of (T : Tx K mg) : C8.Cal P w K mg base 1 "pairs_of" (Pm (S_pairs_of K)) [] := by
  have nd := sc_pairs_of.nd
  refine calOf (k := 0) (S := (S_pairs_of K)) T.d_pairs_of T.g_pairs_of sc_pairs_of (fun _ _ _ _ _ _ us hl => match us, hl with | [_], _ => rfl) (fun vs B M R ⟨_, _, _, e, _⟩ => by rw [e] <;> rfl) fun cdv A outer s H E hr => ?_
  have hu := hu_of hr
  refine ⟨_, (pss_one (ps_ret (pe_lc2 (own := [("early", 1), ("late", 2)]) (vs1 := [2]) (g := gName 1) (g1 := gName 2) rfl nd (pi_range1 (by rfl) T.f_range (pa_cons (pe_callB call_len_seq (by rfl) T.f_len (by decide +kernel) (pa_cons (pv 0) pa_nil)) pa_nil)) (blkOk_by (own := [("early", 1), ("late", 2)]) (N := ["some", "early", "late"]) (sc := defScope (top 56)) (by decide +kernel)) (by decide) (fun _ _ _ _ _ => (pg_name (i := 1) nd rfl (Or.inl rfl))) (fun _ _ _ _ _ => pts_nil) (fun _ _ _ _ _ => (pi_range1 (by rfl) T.f_range (pa_cons (pe_callB (call_len_seqK (K := K) rfl) (by rfl) T.f_len (by decide +kernel) (pa_cons (pv 0) pa_nil)) pa_nil))) (fun _ _ _ _ _ => (pg_name (i := 2) nd rfl (Or.inl rfl))) (fun _ _ _ _ _ => pts_nil) (fun _ _ _ _ _ => (pe_tup (pa_cons (pv 1) (pa_cons (pv 2) pa_nil))))))), ?_⟩
  rintro vs B M R ⟨p, xs, _, rfl, hp, hn, k⟩
  have bnd : ∀ i, i ≤ xs.length → xs.length * i ≤ 49 := fun i hi => Nat.le_trans (Nat.mul_le_mul hn (Nat.le_trans hi hn)) (by omega)
  refine s_ret (w_lc2 (i_rng1 ?_))
  repeat trivial
  refine wc_lenL (.of hp) ?_
  repeat trivial
  refine ⟨_, rfl, by omega, by omega, _, _, _, wb_range, fun i acc B' => Paired (PairV B') acc (allTo xs.length i), .nil, fun D hD hM => ⟨fun _ => True.intro, ?_, ?_⟩⟩
  · rintro i x acc B' B2 hi e1 hacc e2 rfl
    repeat trivial
    refine i_rng1 ?_
    repeat trivial
    refine wc_lenL (.of ((e1.trans e2) _ _ hp)) ?_
    repeat trivial
    refine ⟨_, rfl, by omega, by omega, rfl, Ex.refl _, _, _, _, wb_range, fun _ => True.intro, fun j acc' B' => Paired (PairV B') acc' (allTo xs.length i ++ (List.range j).map fun j => (i, j)) ∧ j ≤ xs.length, ⟨?_, Nat.zero_le _⟩, ?_, ?_, ?_⟩
    · rw [List.range_zero, List.map_nil, List.append_nil]
      exact f2_mono (fun _ _ => PairV.ex e2) hacc
    · intro j acc' B6 ⟨h6, h7⟩
      have := f2_len h6
      have h8 := allTo_len xs.length i
      have h9 := bnd i (by omega)
      rw [List.length_append, List.length_map, List.length_range] at this
      omega
    · rintro j y acc' B6 B7 hj e6 ⟨h6, h7⟩ e7 rfl
      repeat trivial
      refine ⟨len2, fun t ht mt => ?_⟩
      refine ⟨rfl, exNew ht, ?_, by omega⟩
      show Paired _ _ (_ ++ List.map _ (List.range (j + 1)))
      rw [List.range_succ, List.map_append, ← List.append_assoc]
      refine Paired.snoc (f2_mono (fun _ _ => PairV.ex (e7.trans (exNew ht))) h6) ⟨t, rfl, ?_⟩
      rw [upd_same, show (0 : Int) + (i : Nat) = (i : Nat) by omega, show (0 : Int) + (j : Nat) = (j : Nat) by omega]
    · rintro acc' B6 e6 ⟨h6, h7⟩
      rw [allTo_succ]
      exact h6
  rintro acc B1 e1 nD hacc
  exact k _ _ _ (e1.trans (exNew nD)) upd_same (f2_mono (fun _ _ => PairV.ex (exNew nD)) hacc)
theorem rowOf_mem {t : Told} (nd : (t.rows.map Row.role).Nodup) {z : Str} (h : z ∈ t.rows.map Row.role) : rowOf t z ∈ t.rows ∧ (rowOf t z).role = z := by
  obtain ⟨r, hr, rfl⟩ := List.mem_map.mp h
  unfold rowOf
  cases e : t.rows.find? fun q => decide (q.role = r.role) with
  | none =>
    have := List.find?_eq_none.mp e r hr
    simp at this
  | some q =>
    have h2 := List.find?_some e
    exact ⟨List.mem_of_find?_eq_some e, of_decide_eq_true h2⟩
def S_is_refused (K : PySem.W.Frag) : Spc := fun vs B M R => ∃ (v u : V) (t o : Told) (z : Str), vs = [v, u, .str z] ∧ ContV K B v t ∧ ContV K B u o ∧ ToldOk t ∧ ToldOk o ∧ Wd z ∧ z ∈ t.rows.map Row.role ∧ z ∈ o.rows.map Row.role ∧ ∀ B1, Ex B B1 → R (.bl (refB t o z)) B1 M
theorem sc_is_refused : FnScope ["first", "second", "role"] ["first", "second", "role"] (defScope (top 57)) := ⟨rfl, rfl, rfl, by decide +kernel, rfl, by decide +kernel, by decide +kernel⟩
theorem ok_is_refused (T : Tx K mg) : C8.Cal P w K mg base 4 "is_refused" (Pm (S_is_refused K)) [] := by
  have nd := sc_is_refused.nd
  refine calOf (k := 3) (S := (S_is_refused K)) T.d_is_refused T.g_is_refused sc_is_refused (fun _ _ _ _ _ _ us hl => match us, hl with | [_, _, _], _ => rfl) (fun vs B M R ⟨_, _, _, _, _, e, _⟩ => by rw [e] <;> rfl) fun cdv A outer s H E hr => ?_
  have hu := hu_of hr
  refine ⟨_, (pss_one (ps_ret (pe_cmpR op_notIn_seq (C8.pe_mt (ok_Contents_used T) hr (by decide) (pv 0) (pa_cons (pv 2) pa_nil)) (C8.pe_mt (ok_Contents_accepted T) hr (by decide) (pv 1) (pa_cons (pv 2) pa_nil)) (by with_unfolding_all rfl)))), ?_⟩
  rintro vs B M R ⟨v, u, t, o, z, rfl, hv, hu2, tok, ook, hw, hz1, hz2, k⟩
  obtain ⟨m1, m2⟩ := rowOf_mem tok.nd hz1
  obtain ⟨m3, m4⟩ := rowOf_mem ook.nd hz2
  have nl : ∀ {v : V} {t : Told} {B : Hp} {s : Str}, ContV K B v t → (s == ("own_roles" : Str)) = false → (s == ("own_vouchers" : Str)) = false → (s == ("own_needed" : Str)) = false → (s == ("own_signers" : Str)) = false → ∃ a dx fs, v = .ref a ∧ B a = some (.ins (He.ga K "Contents") dx fs) ∧ fs.lookup s = none := by
    rintro v t B s ⟨a, dx, d, vt, st, kvs, ys, vs, ss, e1, g2, _⟩ q1 q2 q3 q4
    exact ⟨a, dx, _, e1, g2, cNo _ _ _ _ q1 q2 q3 q4⟩
  repeat trivial
  obtain ⟨a1, d1, f1, rfl, g1, n1⟩ := nl (s := "used") hv (by decide +kernel) (by decide +kernel) (by decide +kernel) (by decide +kernel)
  refine ⟨a1, d1, f1, rfl, g1, n1, ?_⟩
  repeat trivial
  refine ⟨_, z, t, rowOf t z, rfl, hv, m1, tok.nd, m2, hw, fun B1 e1 => ?_⟩
  repeat trivial
  have hu3 := hu2.ex e1
  obtain ⟨a2, d2, f2, rfl, g2, n2⟩ := nl (s := "accepted") hu3 (by decide +kernel) (by decide +kernel) (by decide +kernel) (by decide +kernel)
  refine ⟨a2, d2, f2, rfl, g2, n2, ?_⟩
  repeat trivial
  refine ⟨_, z, o, rowOf o z, rfl, hu3, m3, ook.nd, m4, hw, fun B2 p us e2 hp hus => ?_⟩
  refine wr_ninL (.of hp) rfl flat_str ?_
  rw [inV_str]
  have e : (!decide ((rowOf t z).own ∈ us)) = refB t o z := by
    unfold refB
    rw [decide_eq_decide.mpr hus.mem_iff]
  rw [e]
  exact k B2 (e1.trans e2)
end
end Ab
/-! ## E5 -/
set_option Elab.async false
set_option linter.all false
set_option maxRecDepth 100000
set_option maxHeartbeats 2000000
/-! E5: what the draws need -/
namespace Ab
open PySem L2 PyProof.Rows
open Evl (Ex)
section
variable {σ : L2.St} {B : Hp} {M : Mu} {R : V → Hp → Mu → Prop} {K : PySem.W.Frag} {a p : Addr} {nx : L2.St → Hp → Mu → Prop} {rt : V → Hp → Mu → Prop}
theorem updM_id {P : HO → Prop} (h : M a = some P) : updM M a P = M := by
  funext b
  by_cases hb : b = a
  · rw [hb, updM_same, h]
  · rw [updM_ne hb]
theorem Ok.isAt {H : Hp} {o : HO} {P : HO → Prop} (k : Ok B M H) (h : M a = some P) (e : H a = some o) : Ok B (updM M a (is o)) H := by
  refine ⟨k.has, fun b R z => ?_⟩
  by_cases hb : b = a
  · subst hb
    rw [updM_same] at z
    cases z
    exact ⟨(k.mtb b P h).1, o, e, rfl⟩
  · rw [updM_ne hb] at z
    exact k.mtb b R z
/-- what is known of a changing object: looked at -/
theorem wS.open {t : TS} {P : HO → Prop} (h : M a = some P) (k : ∀ o, P o → wS t σ B (updM M a (is o)) nx rt) : wS t σ B M nx rt := fun H D ok n r => by
  obtain ⟨nb, o, e, q⟩ := ok.mtb a P h
  exact k o q H D (ok.isAt h e) n r
/-- .. and closed again -/
theorem Ok.close {H : Hp} {o : HO} {P : HO → Prop} (h : M a = some P) (q : P o) (k : Ok B (updM M a (is o)) H) : Ok B M H := by
  have z := k.weak (Q := P) updM_same (fun u e => by
    have e2 : u = o := e
    rw [e2]
    exact q)
  rw [updM_updM, updM_id h] at z
  exact z
theorem g_setL {to ti : TE} {v : V} (h : wE to σ B M fun o B1 M1 => wE ti σ B1 M1 fun i B2 M2 => ∃ p xs k j, o = .ref p ∧ i = .int k ∧ M2 p = some (is (.lst xs)) ∧ ixN xs.length k = some j ∧ nx σ B2 (updM M2 p (is (.lst (xs.set j v))))) : wG (gSub to ti rSetL) v σ B M nx := fun H Q ok q =>
  h H _ ok fun o B1 M1 H1 ok1 h1 => h1 H1 _ ok1 fun i B2 M2 H2 ok2 ⟨p, xs, k, j, e, e2, hb, hi, z⟩ => ⟨p, xs, k, j, e, e2, ok2.mutAt hb, hi, q _ _ _ _ (ok2.put hb isr) z⟩
/-- what a law draws from -/
def isSt : HO → Prop := fun o => ∃ x y : Int, o = .lst [.int x, .int y] ∧ 0 ≤ x ∧ 0 ≤ y ∧ y < 2147483647
/-- a list's or a text's parts -/
def rIxA (K : PySem.W.Frag) : R2 := fun x y H Q => rIxL K x y H Q ∨ rIxS x y H Q
theorem ix_any {X : Cx} : IxR X (rIxA X.K) := by
  intro e1 e2 pins s σ H x y v u Q I rx ry h p
  rcases h with h | h
  · exact ix_list e1 e2 pins s σ H x y v u Q I rx ry h p
  · exact ix_str e1 e2 pins s σ H x y v u Q I rx ry h p
def rLenA (K : PySem.W.Frag) : List V → Hp → VK → Prop := fun xs H Q => rLenQ K xs H Q ∨ rLenZ xs H Q
theorem call_len_any {X : Cx} : CallR X (.builtin "len") (rLenA X.K) := by
  intro pins s σ H xs us Q I r h
  rcases h with h | h
  · exact call_len_seq pins s σ H xs us Q I r h
  · exact call_len_str pins s σ H xs us Q I r h
/-- v: a list or a text of n parts, each of them in P -/
def Some_ (K : PySem.W.Frag) (B : Hp) (v : V) (P : V → Prop) : Prop := (∃ a xs, v = .ref a ∧ B a = some (.lst xs) ∧ 0 < xs.length ∧ xs.length ≤ 100000 ∧ ∀ x ∈ xs, P x) ∨ (∃ z : Str, v = .str z ∧ 0 < z.length ∧ z.length ≤ 100000 ∧ ∀ c ∈ z.cps.toList, P (.str ⟨#[c]⟩))
theorem wc_lenA1 {xs : List V} (h : SqL K B a xs) (k : R (.int (xs.length : Nat)) B M) : wC (rLenA K) [.ref a] B M R := fun H Q ok q => .inl (wc_lenL h k H Q ok q)
theorem wc_lenA2 {z : Str} (h : z.length ≤ 100000) (k : R (.int (z.length : Nat)) B M) : wC (rLenA K) [.str z] B M R := fun H Q ok q => .inr (wc_lenS h k H Q ok q)
theorem wr_ixA1 {xs : List V} {i : Int} {v : V} (h : SqL K B a xs) (hi : atI xs i = some v) (k : R v B M) : wR (rIxA K) (.ref a) (.int i) B M R := fun H Q ok q => .inl (wr_ixL h hi k H Q ok q)
theorem wr_ixA2 {z : Str} {i : Int} {c : Nat} (hz : z.length ≤ 100000) (hi : atI z.cps.toList i = some c) (k : R (.str ⟨#[c]⟩) B M) : wR (rIxA K) (.str z) (.int i) B M R := fun H Q ok q => .inr (wr_ixS hz hi k H Q ok q)
end
end Ab
/-! ## D21 -/
set_option Elab.async false
set_option linter.all false
set_option maxRecDepth 100000
set_option maxHeartbeats 4000000
namespace Ab
open PySem L2 PyProof.Rows
open Evl (Ex)
local macro_rules | `(tactic| trivial) => `(tactic| first
  | ((with_reducible apply w_var); exact rfl)
  | with_reducible refine w_c ?_ | with_reducible refine w_cons ?_ | with_reducible refine w_nil ?_ | with_reducible refine w_op ?_ | with_reducible refine w_cb ?_ | with_reducible refine w_call ?_ | with_reducible refine w_test ?_ | with_reducible refine w_B ?_
  | with_reducible refine bX ?_ | with_reducible refine bT ?_ | with_reducible refine bF ?_ | with_reducible refine zN ?_ | with_reducible refine zI ?_ | with_reducible refine zS ?_ | with_reducible refine zR ?_ | with_reducible refine zN' ?_ | with_reducible refine zI' ?_ | with_reducible refine zS' ?_ | with_reducible refine zR' ?_ | with_reducible refine bnT ?_ | with_reducible refine bnF ?_ | with_reducible refine w_and ?_ | with_reducible refine w_or ?_ | with_reducible refine w_not ?_ | with_reducible refine w_andV ?_ | with_reducible refine w_orV ?_
  | with_reducible refine w_notV ?_ | with_reducible refine w_if ?_ | with_reducible refine w_chain ?_ | with_reducible refine w_un ?_ | with_reducible refine wr_I0 ?_ | with_reducible refine wu_I ?_ | with_reducible refine wr_isN ?_ | with_reducible refine wr_notN ?_
  | with_reducible refine wr_eq rfl ?_ | with_reducible refine wr_ne rfl ?_ | with_reducible refine w_yes ?_ | with_reducible refine w_tup ?_ | with_reducible refine w_lst ?_ | with_reducible refine s_ret ?_ | with_reducible refine s_retN ?_
  | with_reducible refine s_seq ?_ | with_reducible refine s_if ?_ | with_reducible refine s_set ?_ | with_reducible refine s_dput ?_ | with_reducible refine s_app ?_ | with_reducible refine s_drop ?_ | with_reducible refine s_next ?_ | with_reducible refine s_par ?_ | with_reducible refine s_par3 ?_ | with_reducible refine s_asg ?_
  | with_reducible refine g_name ?_ | with_reducible refine gs_nil ?_ | with_reducible refine gs_cons ?_ | with_reducible refine wi_int_int ?_ | with_reducible refine wi_int_bool ?_ | with_reducible refine wi_str_str ?_ | with_reducible refine w_fld ?_ | with_reducible refine w_meth ?_ | with_reducible refine w_prop ?_ | with_reducible refine w_make ?_ | with_reducible refine w_makeK ?_ | with_reducible refine w_methN ?_ | with_reducible refine w_callN ?_ | with_reducible refine w_dget ?_ | with_reducible refine w_din ?_ | with_reducible refine w_dnin ?_ | with_reducible refine s_fld ?_ | with_reducible refine w_sl ?_ | with_reducible refine w_part ?_
  | with_reducible refine w_noPart ?_ | with_reducible refine iX ?_)

section
variable {P : Program} {w : World} {K : PySem.W.Frag} {mg : Str → Option Value} {base : Heap}
def S__law_draw : Spc := fun vs B M R => ∃ (st : Addr) (n : Int), vs = [.ref st, .int n] ∧ M st = some isSt ∧ 0 < n ∧ n ≤ 10 ^ 60 ∧ ∀ r : Int, 0 ≤ r → r < n → R (.int r) B M
theorem sc__law_draw : FnScope ["_law_stream_here", "_law_count", "_law_result"] ["_law_stream_here", "_law_count"] (defScope (top 71)) := ⟨rfl, rfl, rfl, by decide +kernel, rfl, by decide +kernel, by decide +kernel⟩
theorem ok__law_draw (T : Tx K mg) : C8.Cal P w K mg base 1 "_law_draw" (Pm (S__law_draw)) [] := by
  have nd := sc__law_draw.nd
  refine calOf (k := 0) (S := (S__law_draw)) T.d__law_draw T.g__law_draw sc__law_draw (fun _ _ _ _ _ _ us hl => match us, hl with | [_, _], _ => rfl) (fun vs B M R ⟨_, _, e, _⟩ => by rw [e] <;> rfl) fun cdv A outer s H E hr => ?_
  have hu := hu_of hr
  refine ⟨_, (pss_cons (ps_if (pt_cmpR op_gt (pe_ix ix_list (pv 0) pe_int (fun _ _ => rfl)) pe_int (nomark _))
      (pss_cons (ps_set (i := 2) nd rfl (Or.inl rfl) (pe_op op_mod (pe_ix ix_list (pv 0) pe_int (fun _ _ => rfl)) (pv 1)))
      (pss_cons (ps_asg (pe_op op_fdivW (pe_ix ix_list (pv 0) pe_int (fun _ _ => rfl)) (pv 1)) (pg_sub (pv 0) pe_int set_list))
      (pss_one (ps_ret (pv 2)))))
      pss_nil)
    (pss_cons (ps_asg (pe_op op_mod (pe_op op_add (pe_op op_mul (pe_ix ix_list (pv 0) pe_int (fun _ _ => rfl)) pe_int) pe_int) pe_int) (pg_sub (pv 0) pe_int set_list))
    (pss_one (ps_ret (pe_op op_mod (pe_op op_fdivW (pe_op op_mod (pe_op op_mul (pe_ix ix_list (pv 0) pe_int (fun _ _ => rfl)) (pe_ix ix_list (pv 0) pe_int (fun _ _ => rfl))) pe_int) pe_int) (pv 1)))))), ?_⟩
  rintro vs B M R ⟨st, n, rfl, hM, hn, hn2, k⟩
  refine wS.open hM fun o ho => ?_
  obtain ⟨x, y, rfl, hx, hy, hy2⟩ := ho
  refine wS.post ?_
  repeat trivial
  refine wr_ixM updM_same (v := .int x) (by rfl) ?_
  repeat trivial
  refine bD (fun c => ?_) fun c => ?_
  · repeat trivial
    refine wr_ixM updM_same (v := .int x) (by rfl) ?_
    repeat trivial
    refine wr_I hn ?_
    repeat trivial
    refine wr_ixM updM_same (v := .int x) (by rfl) ?_
    repeat trivial
    refine wr_I (wide_div (b := 300) hn (by omega) (by omega) (by omega)) ?_
    refine g_setL ?_
    repeat trivial
    refine ⟨st, [.int x, .int y], 0, 0, rfl, rfl, updM_same, rfl, ?_⟩
    rw [updM_updM]
    repeat trivial
    exact ⟨B, M, fun H kk => kk.close hM ⟨x / n, y, rfl, Int.ediv_nonneg hx (by omega), hy, hy2⟩, k _ (Int.emod_nonneg _ (by omega)) (Int.emod_lt_of_pos _ hn)⟩
  · repeat trivial
    refine wr_ixM updM_same (v := .int y) (by rfl) ?_
    repeat trivial
    refine wr_I (.inr ⟨by omega, by omega⟩) ?_
    repeat trivial
    refine wr_I (by omega) ?_
    refine g_setL ?_
    repeat trivial
    refine ⟨st, [.int x, .int y], 1, 1, rfl, rfl, updM_same, rfl, ?_⟩
    rw [updM_updM]
    have q1 := Int.emod_nonneg (y * 39373 + 7) (show (2147483647 : Int) ≠ 0 by omega)
    have q2 := Int.emod_lt_of_pos (y * 39373 + 7) (show (0 : Int) < 2147483647 by omega)
    repeat trivial
    refine wr_ixM updM_same (v := .int ((y * 39373 + 7) % 2147483647)) (by rfl) ?_
    repeat trivial
    refine wr_ixM updM_same (v := .int ((y * 39373 + 7) % 2147483647)) (by rfl) ?_
    refine wr_I (.inr ⟨by omega, by omega⟩) ?_
    repeat trivial
    refine wr_I (by omega) ?_
    repeat trivial
    refine wr_I (wide_div (b := 10) (by omega) (by omega) (by omega) (by omega)) ?_
    repeat trivial
    refine wr_I hn ?_
    exact ⟨B, M, fun H kk => kk.close hM ⟨x, _, rfl, hx, q1, q2⟩, k _ (Int.emod_nonneg _ (by omega)) (Int.emod_lt_of_pos _ hn)⟩
def S__law_choose (K : PySem.W.Frag) : Spc := fun vs B M R => ∃ (st : Addr) (v : V) (Pr : V → Prop), vs = [.ref st, v] ∧ M st = some isSt ∧ Some_ K B v Pr ∧ ∀ x, Pr x → R x B M
theorem sc__law_choose : FnScope ["_law_stream_here", "_law_items"] ["_law_stream_here", "_law_items"] (defScope (top 72)) := ⟨rfl, rfl, rfl, by decide +kernel, rfl, by decide +kernel, by decide +kernel⟩
theorem ok__law_choose (T : Tx K mg) : C8.Cal P w K mg base 2 "_law_choose" (Pm (S__law_choose K)) [] := by
  have nd := sc__law_choose.nd
  refine calOf (k := 1) (S := (S__law_choose K)) T.d__law_choose T.g__law_choose sc__law_choose (fun _ _ _ _ _ _ us hl => match us, hl with | [_, _], _ => rfl) (fun vs B M R ⟨_, _, _, e, _⟩ => by rw [e] <;> rfl) fun cdv A outer s H E hr => ?_
  have hu := hu_of hr
  refine ⟨_, (pss_one (ps_ret (pe_ix ix_any (pv 1) (C8.pe_c (ok__law_draw T) hr (by decide) (by rfl) (pa_cons (pv 0) (pa_cons (pe_callB call_len_any (by rfl) T.f_len (by decide +kernel) (pa_cons (pv 1) pa_nil)) pa_nil))) (fun _ _ => rfl)))), ?_⟩
  rintro vs B M R ⟨st, v, Pr, rfl, hM, hv, k⟩
  rcases hv with ⟨a, xs, rfl, ha, h0, hl, hP⟩ | ⟨z, rfl, h0, hl, hP⟩
  · repeat trivial
    refine wc_lenA1 (.of ha) ?_
    repeat trivial
    refine ⟨st, _, rfl, hM, by omega, by omega, fun r r0 r1 => ?_⟩
    obtain ⟨n, rfl⟩ := Int.eq_ofNat_of_zero_le r0
    have hn : n < xs.length := by omega
    exact wr_ixA1 (.of ha) (atN (List.getElem?_eq_getElem hn)) (k _ (hP _ (List.getElem_mem _)))
  · repeat trivial
    refine wc_lenA2 hl ?_
    repeat trivial
    refine ⟨st, _, rfl, hM, by omega, by omega, fun r r0 r1 => ?_⟩
    obtain ⟨n, rfl⟩ := Int.eq_ofNat_of_zero_le r0
    have hn : n < z.cps.toList.length := by
      have : z.length = z.cps.toList.length := by simp [Str.length]
      omega
    exact wr_ixA2 hl (atN (List.getElem?_eq_getElem hn)) (k _ (hP _ (List.getElem_mem _)))
end
end Ab
/-! ## D22 -/
set_option Elab.async false
set_option linter.all false
set_option maxRecDepth 100000
set_option maxHeartbeats 4000000
namespace Ab
open PySem L2 PyProof.Rows
open Evl (Ex)
local macro_rules | `(tactic| trivial) => `(tactic| first
  | ((with_reducible apply w_var); exact rfl)
  | with_reducible refine w_c ?_ | with_reducible refine w_cons ?_ | with_reducible refine w_nil ?_ | with_reducible refine w_op ?_ | with_reducible refine w_cb ?_ | with_reducible refine w_call ?_ | with_reducible refine w_test ?_ | with_reducible refine w_B ?_
  | with_reducible refine bX ?_ | with_reducible refine bT ?_ | with_reducible refine bF ?_ | with_reducible refine zN ?_ | with_reducible refine zI ?_ | with_reducible refine zS ?_ | with_reducible refine zR ?_ | with_reducible refine zN' ?_ | with_reducible refine zI' ?_ | with_reducible refine zS' ?_ | with_reducible refine zR' ?_ | with_reducible refine bnT ?_ | with_reducible refine bnF ?_ | with_reducible refine w_and ?_ | with_reducible refine w_or ?_ | with_reducible refine w_not ?_ | with_reducible refine w_andV ?_ | with_reducible refine w_orV ?_
  | with_reducible refine w_notV ?_ | with_reducible refine w_if ?_ | with_reducible refine w_chain ?_ | with_reducible refine w_un ?_ | with_reducible refine wr_I0 ?_ | with_reducible refine wu_I ?_ | with_reducible refine wr_isN ?_ | with_reducible refine wr_notN ?_
  | with_reducible refine wr_eq rfl ?_ | with_reducible refine wr_ne rfl ?_ | with_reducible refine w_yes ?_ | with_reducible refine w_tup ?_ | with_reducible refine w_lst ?_ | with_reducible refine s_ret ?_ | with_reducible refine s_retN ?_
  | with_reducible refine s_seq ?_ | with_reducible refine s_if ?_ | with_reducible refine s_set ?_ | with_reducible refine s_dput ?_ | with_reducible refine s_app ?_ | with_reducible refine s_drop ?_ | with_reducible refine s_next ?_ | with_reducible refine s_par ?_ | with_reducible refine s_par3 ?_ | with_reducible refine s_asg ?_
  | with_reducible refine g_name ?_ | with_reducible refine gs_nil ?_ | with_reducible refine gs_cons ?_ | with_reducible refine wi_int_int ?_ | with_reducible refine wi_int_bool ?_ | with_reducible refine wi_str_str ?_ | with_reducible refine w_fld ?_ | with_reducible refine w_meth ?_ | with_reducible refine w_prop ?_ | with_reducible refine w_make ?_ | with_reducible refine w_makeK ?_ | with_reducible refine w_methN ?_ | with_reducible refine w_callN ?_ | with_reducible refine w_dget ?_ | with_reducible refine w_din ?_ | with_reducible refine w_dnin ?_ | with_reducible refine s_fld ?_ | with_reducible refine w_sl ?_ | with_reducible refine w_part ?_
  | with_reducible refine w_noPart ?_ | with_reducible refine iX ?_)

section
variable {P : Program} {w : World} {K : PySem.W.Frag} {mg : Str → Option Value} {base : Heap}
def S__law_some (K : PySem.W.Frag) : Spc := fun vs B M R => ∃ (st a : Addr) (xs : List V), vs = [.ref st, .ref a] ∧ M st = some isSt ∧ B a = some (.lst xs) ∧ xs.length ≤ 1000 ∧ ∀ B1 p ys, Ex B B1 → B1 p = some (.lst ys) → ys.Sublist xs → R (.ref p) B1 M
theorem sc__law_some : FnScope ["_law_stream_here", "_law_items", "_law_item"] ["_law_stream_here", "_law_items"] (defScope (top 73)) := ⟨rfl, rfl, rfl, by decide +kernel, rfl, by decide +kernel, by decide +kernel⟩
theorem ok__law_some (T : Tx K mg) : C8.Cal P w K mg base 2 "_law_some" (Pm (S__law_some K)) [] := by
  have nd := sc__law_some.nd
  refine calOf (k := 1) (S := (S__law_some K)) T.d__law_some T.g__law_some sc__law_some (fun _ _ _ _ _ _ us hl => match us, hl with | [_, _], _ => rfl) (fun vs B M R ⟨_, _, _, e, _⟩ => by rw [e] <;> rfl) fun cdv A outer s H E hr => ?_
  have hu := hu_of hr
  refine ⟨_, (pss_one (ps_ret (pe_lc (own := [("_law_item", 2)]) (g := gName 2) rfl nd (pi_list (pv 1)) (blkOk_by (own := [("_law_item", 2)]) (N := ["_law_stream_here", "_law_items", "_law_item"]) (sc := defScope (top 73)) (by decide +kernel)) (fun _ _ _ _ _ => (pg_name (i := 2) nd rfl (Or.inl rfl))) (fun _ _ _ _ _ => (pts_one (pt_cmpR op_eq (C8.pe_c (ok__law_draw T) hr (by decide) (by rfl) (pa_cons (pv 0) (pa_cons pe_int pa_nil))) pe_int (nomark _)))) (fun _ _ _ _ _ => (pv 2))))), ?_⟩
  rintro vs B M R ⟨st, a, xs, rfl, hM, ha, hz, k⟩
  repeat trivial
  refine w_lc (i_list ?_)
  repeat trivial
  refine ⟨a, xs, rfl, .of ha, _, _, _, wb_list (.of ha), by omega, fun i acc _ => acc.Sublist (xs.take i), List.Sublist.slnil, fun D hD hM2 => ⟨fun _ => True.intro, ?_, ?_⟩⟩
  · rintro i x acc B' B2 hi hl2 e1 hs e2 hx
    have sD : st ≠ D := fun z => by rw [← z, hM] at hM2; cases hM2
    have hs1 : acc.Sublist (xs.take (i + 1)) := hs.trans (List.take_sublist_take_left (by omega))
    have hs2 : (acc ++ [x]).Sublist (xs.take (i + 1)) := by
      rw [List.take_add_one, hx]
      exact hs.append (List.Sublist.refl _)
    repeat trivial
    refine ⟨st, 2, rfl, by rw [updM_ne sD]; exact hM, by omega, by omega, fun r r0 r1 => ?_⟩
    repeat trivial
    refine bD (fun _ => ?_) fun _ => ?_
    · repeat trivial
      exact ⟨rfl, Ex.refl _, hs2⟩
    · exact ⟨rfl, Ex.refl _, hs1⟩
  · rintro acc B' e1 nD hl2 hs
    rw [List.take_length] at hs
    exact k _ _ _ (e1.trans (exNew nD)) upd_same hs
end
end Ab
/-! ## D23 -/
set_option Elab.async false
set_option linter.all false
set_option maxRecDepth 100000
set_option maxHeartbeats 4000000
namespace Ab
open PySem L2 PyProof.Rows
open Evl (Ex)
local macro_rules | `(tactic| trivial) => `(tactic| first
  | ((with_reducible apply w_var); exact rfl)
  | with_reducible refine w_c ?_ | with_reducible refine w_cons ?_ | with_reducible refine w_nil ?_ | with_reducible refine w_op ?_ | with_reducible refine w_cb ?_ | with_reducible refine w_call ?_ | with_reducible refine w_test ?_ | with_reducible refine w_B ?_
  | with_reducible refine bX ?_ | with_reducible refine bT ?_ | with_reducible refine bF ?_ | with_reducible refine zN ?_ | with_reducible refine zI ?_ | with_reducible refine zS ?_ | with_reducible refine zR ?_ | with_reducible refine zN' ?_ | with_reducible refine zI' ?_ | with_reducible refine zS' ?_ | with_reducible refine zR' ?_ | with_reducible refine bnT ?_ | with_reducible refine bnF ?_ | with_reducible refine w_and ?_ | with_reducible refine w_or ?_ | with_reducible refine w_not ?_ | with_reducible refine w_andV ?_ | with_reducible refine w_orV ?_
  | with_reducible refine w_notV ?_ | with_reducible refine w_if ?_ | with_reducible refine w_chain ?_ | with_reducible refine w_un ?_ | with_reducible refine wr_I0 ?_ | with_reducible refine wu_I ?_ | with_reducible refine wr_isN ?_ | with_reducible refine wr_notN ?_
  | with_reducible refine wr_eq rfl ?_ | with_reducible refine wr_ne rfl ?_ | with_reducible refine w_yes ?_ | with_reducible refine w_tup ?_ | with_reducible refine w_lst ?_ | with_reducible refine s_ret ?_ | with_reducible refine s_retN ?_
  | with_reducible refine s_seq ?_ | with_reducible refine s_if ?_ | with_reducible refine s_set ?_ | with_reducible refine s_dput ?_ | with_reducible refine s_app ?_ | with_reducible refine s_drop ?_ | with_reducible refine s_next ?_ | with_reducible refine s_par ?_ | with_reducible refine s_par3 ?_ | with_reducible refine s_asg ?_
  | with_reducible refine g_name ?_ | with_reducible refine gs_nil ?_ | with_reducible refine gs_cons ?_ | with_reducible refine wi_int_int ?_ | with_reducible refine wi_int_bool ?_ | with_reducible refine wi_str_str ?_ | with_reducible refine w_fld ?_ | with_reducible refine w_meth ?_ | with_reducible refine w_prop ?_ | with_reducible refine w_make ?_ | with_reducible refine w_makeK ?_ | with_reducible refine w_methN ?_ | with_reducible refine w_callN ?_ | with_reducible refine w_dget ?_ | with_reducible refine w_din ?_ | with_reducible refine w_dnin ?_ | with_reducible refine s_fld ?_ | with_reducible refine w_sl ?_ | with_reducible refine w_part ?_
  | with_reducible refine w_noPart ?_ | with_reducible refine iX ?_)

section
variable {P : Program} {w : World} {K : PySem.W.Frag} {mg : Str → Option Value} {base : Heap}
theorem w_join {σ : L2.St} {B : Hp} {M : Mu} {R : V → Hp → Mu → Prop} {to te : TE} (h : wE to σ B M fun x B1 M1 => ∃ a, x = .str a ∧ wE te σ B1 M1 fun y B2 M2 => ∃ p, ∃ ys : List Str, y = .ref p ∧ SqL K B2 p (ys.map V.str) ∧ (ys.map (·.length)).sum + ys.length * a.length ≤ 16777216 ∧ R (.str (Txt.join a ys)) B2 M2) : wE (tM1 (rJoin K) to te) σ B M R := fun H Q ok q =>
  h H _ ok fun x B1 M1 H1 ok1 ⟨a, e, h1⟩ => ⟨⟨a, e⟩, h1 H1 _ ok1 fun y B2 M2 H2 ok2 ⟨p, ys, e2, hp, hz, r⟩ => ⟨a, p, ys, e, by rw [e2], .inl (ok2.sqL hp), hz, q _ _ _ _ ok2 r⟩⟩
abbrev TS (l : List Nat) : Str := ⟨l.toArray⟩
theorem ts_len (a : List Nat) : (TS a).length = a.length := by simp [TS, Str.length]
theorem joinL_one : ∀ cs : List Nat, TL.joinL [] (cs.map fun c => [c]) = cs
  | [] => rfl
  | [c] => rfl
  | c :: d :: r => by
    have := joinL_one (d :: r)
    show [c] ++ ([] ++ TL.joinL [] ((d :: r).map fun c => [c])) = _
    rw [this]
    rfl
theorem join_one (cs : List Nat) : Txt.join (TS []) (cs.map fun c => TS [c]) = TS cs := by
  have := SX.join_S [] (cs.map fun c => [c])
  rw [List.map_map, joinL_one] at this
  exact this
theorem sum_one : ∀ cs : List Nat, ((cs.map fun c => TS [c]).map (·.length)).sum = cs.length
  | [] => rfl
  | c :: cs => by
    rw [List.map_cons, List.map_cons, List.sum_cons, sum_one cs, ts_len]
    simp
    omega
def steps : List Int := [1, 3, 5, 7, 9, 11, 15, 17, 19, 21, 23, 25]
theorem lt_at : ∀ k, k < 26 → letters[k]? = some (97 + k) := by decide +kernel
theorem step_inj {f s i j : Int} (hs : s ∈ steps) (h1 : 0 ≤ i) (h2 : i < 26) (h3 : 0 ≤ j) (h4 : j < 26) (h : (f + s * i) % 26 = (f + s * j) % 26) : i = j := by
  unfold steps at hs
  simp only [List.mem_cons, List.not_mem_nil, or_false] at hs
  rcases hs with rfl | rfl | rfl | rfl | rfl | rfl | rfl | rfl | rfl | rfl | rfl | rfl <;> omega
def wrd (a b : List Nat) (f s : Int) (i : Nat) : Str := TS ((a ++ [97 + ((f + s * i) % 26).toNat]) ++ b)
theorem wrd_wd {a b : List Nat} {f s : Int} {i : Nat} (ha : a.length ≤ 3) (hb : b.length ≤ 3) (pa : ∀ c ∈ a, c ∈ letters) (pb : ∀ c ∈ b, c ∈ letters) : Wd (wrd a b f s i) := by
  refine ⟨?_, ?_, ?_⟩
  · unfold wrd
    rw [ts_len]
    simp
    omega
  · unfold wrd
    rw [ts_len]
    simp
    omega
  · intro c hc
    have hc2 : c ∈ (a ++ [97 + ((f + s * i) % 26).toNat]) ++ b := hc
    rcases List.mem_append.mp hc2 with h | h
    · rcases List.mem_append.mp h with h | h
      · exact pa c h
      · rw [List.mem_singleton.mp h]
        have h1 := Int.emod_nonneg (f + s * i) (show (26 : Int) ≠ 0 by omega)
        have h2 := Int.emod_lt_of_pos (f + s * i) (show (0 : Int) < 26 by omega)
        exact List.mem_of_getElem? (lt_at _ (by omega))
    · exact pb c h
theorem wrd_inj {a b : List Nat} {f s : Int} (hs : s ∈ steps) {i j : Nat} (hi : i < 26) (hj : j < 26) (h : wrd a b f s i = wrd a b f s j) : i = j := by
  unfold wrd at h
  have h2 := SX.S_inj h
  have h3 := List.append_cancel_right h2
  have h4 := List.append_cancel_left h3
  have h5 := List.head_eq_of_cons_eq h4
  have h1 := Int.emod_nonneg (f + s * i) (show (26 : Int) ≠ 0 by omega)
  have h6 := Int.emod_nonneg (f + s * j) (show (26 : Int) ≠ 0 by omega)
  have := step_inj (f := f) hs (i := i) (j := j) (by omega) (by omega) (by omega) (by omega) (by omega)
  omega
def wrds (a b : List Nat) (f s : Int) (n : Nat) : List Str := (List.range n).map (wrd a b f s)
theorem wrds_nodup {a b : List Nat} {f s : Int} (hs : s ∈ steps) : ∀ n, n ≤ 26 → (wrds a b f s n).Nodup
  | 0, _ => by simp [wrds]
  | n + 1, hn => by
    have ih := wrds_nodup (a := a) (b := b) (f := f) hs n (by omega)
    unfold wrds at ih ⊢
    rw [List.range_succ, List.map_append]
    refine List.nodup_append.mpr ⟨ih, by simp, fun x hx y hy => ?_⟩
    obtain ⟨i, hi, rfl⟩ := List.mem_map.mp hx
    rw [List.map_cons, List.map_nil, List.mem_singleton] at hy
    rw [hy]
    intro e
    rw [List.mem_range] at hi
    have := wrd_inj hs (by omega) (by omega) e
    omega
theorem piece_ok {st : Addr} {u1 u3 u4 u5 u6 u7 u8 : Option V} {B : Hp} {M : Mu} {R : V → Hp → Mu → Prop} (hM : M st = some isSt) (k : ∀ B1 cs, Ex B B1 → cs.length ≤ 3 → (∀ c ∈ cs, c ∈ letters) → R (.str (TS cs)) B1 M) :
    wE (tM1 (rJoin K) (tC (.str "")) (tLc (iRng1 (tCons (tCall (Pm S__law_draw) [] C8.E0 (tCons (tVar 0) (tCons (tC (.int 4)) tNil))) tNil)) (gName 7) tYes (tCall (Pm (S__law_choose K)) [] C8.E0 (tCons (tVar 0) (tCons (tVar 2) tNil))) [7]))
      [some (.ref st), u1, some (.str "abcdefghijklmnopqrstuvwxyz"), u3, u4, u5, u6, u7, u8] B M R := by
  refine w_join ?_
  repeat trivial
  refine ⟨_, rfl, ?_⟩
  refine w_lc (i_rng1 ?_)
  repeat trivial
  refine ⟨st, 4, rfl, hM, by omega, by omega, fun n n0 n1 => ?_⟩
  repeat trivial
  refine ⟨n, rfl, by omega, by omega, _, _, _, wb_range, by omega, fun i acc _ => ∃ cs : List Nat, acc = (cs.map fun c => TS [c]).map V.str ∧ cs.length = i ∧ ∀ c ∈ cs, c ∈ letters, ⟨[], rfl, rfl, fun _ h => by cases h⟩, fun D hD hM2 => ⟨fun _ => True.intro, ?_, ?_⟩⟩
  · rintro i x acc B' B2 hi hl2 e1 ⟨cs, rfl, hcl, hcm⟩ e2 rfl
    have sD : st ≠ D := fun z => by rw [← z, hM] at hM2; cases hM2
    repeat trivial
    refine ⟨st, _, fun x => ∃ c, c ∈ letters ∧ x = .str ⟨#[c]⟩, rfl, by rw [updM_ne sD]; exact hM, .inr ⟨_, rfl, by decide +kernel, by decide +kernel, fun c hc => ⟨c, hc, rfl⟩⟩, ?_⟩
    rintro x ⟨c, hc, rfl⟩
    refine ⟨rfl, Ex.refl _, cs ++ [c], by rw [List.map_append, List.map_append] <;> rfl, by rw [List.length_append, hcl] <;> rfl, fun d hd => ?_⟩
    rcases List.mem_append.mp hd with h | h
    · exact hcm d h
    · rw [List.mem_singleton.mp h]
      exact hc
  · rintro acc B' e1 nD hl2 ⟨cs, rfl, hcl, hcm⟩
    refine ⟨D, cs.map fun c => TS [c], rfl, .of upd_same, ?_, ?_⟩
    · rw [sum_one, List.length_map, show (Str.length (_ : Str)) = 0 from rfl]
      omega
    · have e : Txt.join ("" : Str) (cs.map fun c => TS [c]) = TS cs := join_one cs
      rw [e]
      exact k _ cs (e1.trans (exNew nD)) (by omega) hcm
def S__law_words (K : PySem.W.Frag) : Spc := fun vs B M R => ∃ (st : Addr) (n : Nat), vs = [.ref st, .int n] ∧ M st = some isSt ∧ n ≤ 26 ∧ ∀ (B1 : Hp) (p : Addr) (ws : List Str), Ex B B1 → B1 p = some (.lst (ws.map V.str)) → ws.length = n → (∀ z ∈ ws, Wd z) → ws.Nodup → R (.ref p) B1 M
theorem sc__law_words : FnScope ["_law_stream_here", "_law_count", "_law_letters", "_law_first", "_law_step", "_law_head", "_law_tail", "_law_turn", "_law_at"] ["_law_stream_here", "_law_count"] (defScope (top 74)) := ⟨rfl, rfl, rfl, by decide +kernel, rfl, by decide +kernel, by decide +kernel⟩
theorem ok__law_words (T : Tx K mg) : C8.Cal P w K mg base 3 "_law_words" (Pm (S__law_words K)) [] := by
  have nd := sc__law_words.nd
  refine calOf (k := 2) (S := (S__law_words K)) T.d__law_words T.g__law_words sc__law_words (fun _ _ _ _ _ _ us hl => match us, hl with | [_, _], _ => rfl) (fun vs B M R ⟨_, _, e, _⟩ => by rw [e] <;> rfl) fun cdv A outer s H E hr => ?_
  have hu := hu_of hr
  refine ⟨_, (pss_cons (ps_set (i := 2) nd rfl (Or.inr rfl) pe_str)
    (pss_cons (ps_asg (pe_tup (pa_cons (C8.pe_c (ok__law_draw T) hr (by decide) (by rfl) (pa_cons (pv 0) (pa_cons pe_int pa_nil))) (pa_cons (C8.pe_c (ok__law_choose T) hr (by decide) (by rfl) (pa_cons (pv 0) (pa_cons (pe_lst (pa_cons pe_int (pa_cons pe_int (pa_cons pe_int (pa_cons pe_int (pa_cons pe_int (pa_cons pe_int (pa_cons pe_int (pa_cons pe_int (pa_cons pe_int (pa_cons pe_int (pa_cons pe_int (pa_cons pe_int pa_nil))))))))))))) pa_nil))) pa_nil))) (pg_tup rfl (pgs_cons (pg_name (i := 3) nd rfl (Or.inr rfl)) (pgs_cons (pg_name (i := 4) nd rfl (Or.inr rfl)) pgs_nil))))
    (pss_cons (ps_set (i := 5) nd rfl (Or.inr rfl) (pe_join pe_str (pe_lc (own := [("_law_turn", 7)]) (g := gName 7) rfl nd (pi_range1 (by rfl) T.f_range (pa_cons (C8.pe_c (ok__law_draw T) hr (by decide) (by rfl) (pa_cons (pv 0) (pa_cons pe_int pa_nil))) pa_nil)) (blkOk_by (own := [("_law_turn", 7)]) (N := ["_law_stream_here", "_law_count", "_law_letters", "_law_first", "_law_step", "_law_head", "_law_tail", "_law_turn", "_law_at"]) (sc := defScope (top 74)) (by decide +kernel)) (fun _ _ _ _ _ => (pg_name (i := 7) nd rfl (Or.inl rfl))) (fun _ _ _ _ _ => pts_nil) (fun _ _ _ _ _ => (C8.pe_c (ok__law_choose T) hr (by decide) (by rfl) (pa_cons (pv 0) (pa_cons (pv 2) pa_nil)))))))
    (pss_cons (ps_set (i := 6) nd rfl (Or.inr rfl) (pe_join pe_str (pe_lc (own := [("_law_turn", 7)]) (g := gName 7) rfl nd (pi_range1 (by rfl) T.f_range (pa_cons (C8.pe_c (ok__law_draw T) hr (by decide) (by rfl) (pa_cons (pv 0) (pa_cons pe_int pa_nil))) pa_nil)) (blkOk_by (own := [("_law_turn", 7)]) (N := ["_law_stream_here", "_law_count", "_law_letters", "_law_first", "_law_step", "_law_head", "_law_tail", "_law_turn", "_law_at"]) (sc := defScope (top 74)) (by decide +kernel)) (fun _ _ _ _ _ => (pg_name (i := 7) nd rfl (Or.inl rfl))) (fun _ _ _ _ _ => pts_nil) (fun _ _ _ _ _ => (C8.pe_c (ok__law_choose T) hr (by decide) (by rfl) (pa_cons (pv 0) (pa_cons (pv 2) pa_nil)))))))
    (pss_one (ps_ret (pe_lc (own := [("_law_at", 8)]) (g := gName 8) rfl nd (pi_range1 (by rfl) T.f_range (pa_cons (pv 1) pa_nil)) (blkOk_by (own := [("_law_at", 8)]) (N := ["_law_stream_here", "_law_count", "_law_letters", "_law_first", "_law_step", "_law_head", "_law_tail", "_law_turn", "_law_at"]) (sc := defScope (top 74)) (by decide +kernel)) (fun _ _ _ _ _ => (pg_name (i := 8) nd rfl (Or.inl rfl))) (fun _ _ _ _ _ => pts_nil) (fun _ _ _ _ _ => (pe_op op_add_str (pe_op op_add_str (pv 5) (pe_ix ix_str (pv 2) (pe_op op_mod (pe_op op_add (pv 3) (pe_op op_mul (pv 4) (pv 8))) pe_int) (fun _ _ => rfl))) (pv 6)))))))))), ?_⟩
  rintro vs B M R ⟨st, n, rfl, hM, hn, k⟩
  repeat trivial
  refine ⟨st, 26, rfl, hM, by omega, by omega, fun f f0 f1 => ?_⟩
  repeat trivial
  refine ⟨by show 12 ≤ 100000; decide, fun p pB pM => ?_⟩
  have e0 := exNew (o := .lst [V.int 1, V.int 3, V.int 5, V.int 7, V.int 9, V.int 11, V.int 15, V.int 17, V.int 19, V.int 21, V.int 23, V.int 25]) pB
  repeat trivial
  refine ⟨st, _, fun x => ∃ s, s ∈ steps ∧ x = .int s, rfl, hM, .inl ⟨p, _, rfl, upd_same, by show 0 < 12; decide, by show 12 ≤ 100000; decide, fun x hx => ?_⟩, ?_⟩
  · obtain ⟨s, hs, rfl⟩ := List.mem_map.mp (show x ∈ steps.map V.int from hx)
    exact ⟨s, hs, rfl⟩
  rintro x ⟨s, hs, rfl⟩
  repeat trivial
  refine ⟨len2, fun t tB tM => ?_⟩
  have e01 := e0.trans (exNew (o := .tup [V.int f, V.int s]) tB)
  refine g_tup (.of upd_same) rfl ?_
  repeat trivial
  refine piece_ok hM fun B1 cs e1 l1 m1 => ?_
  repeat trivial
  refine piece_ok hM fun B2 ds e2 l2 m2 => ?_
  repeat trivial
  refine w_lc (i_rng1 ?_)
  repeat trivial
  have e3 := (e01.trans e1).trans e2
  refine ⟨n, rfl, by omega, by omega, _, _, _, wb_range, by omega, fun i acc _ => acc = (wrds cs ds f s i).map V.str, rfl, fun D hD hM2 => ⟨fun _ => True.intro, ?_, ?_⟩⟩
  · rintro i x acc B' B4 hi hl2 e4 rfl e5 rfl
    have hi2 : i < 26 := by omega
    repeat trivial
    have sb : 1 ≤ s ∧ s ≤ 25 := by
      unfold steps at hs
      simp only [List.mem_cons, List.not_mem_nil, or_false] at hs
      omega
    refine wr_I (.inr ⟨by omega, by omega⟩) ?_
    repeat trivial
    refine wr_I (by omega) ?_
    rw [show (0 : Int) + (i : Nat) = (i : Nat) by omega]
    have q1 := Int.emod_nonneg (f + s * i) (show (26 : Int) ≠ 0 by omega)
    have q2 := Int.emod_lt_of_pos (f + s * i) (show (0 : Int) < 26 by omega)
    have at2 : atI (("abcdefghijklmnopqrstuvwxyz" : Str).cps.toList) ((f + s * i) % 26) = some (97 + ((f + s * i) % 26).toNat) := by
      have := atN (xs := letters) (lt_at ((f + s * i) % 26).toNat (by omega))
      rw [Int.toNat_of_nonneg q1] at this
      exact this
    refine wr_ixS (by decide +kernel) at2 ?_
    refine wr_addS (by rw [ts_len]; show _ + 1 ≤ _; omega) ?_
    repeat trivial
    refine wr_addS ?_ ?_
    · rw [show TS cs ++ (⟨#[97 + ((f + s * i) % 26).toNat]⟩ : Str) = TS (cs ++ [97 + ((f + s * i) % 26).toNat]) from SX.S_cat _ _, ts_len, ts_len, List.length_append]
      simp
      omega
    refine ⟨rfl, Ex.refl _, ?_⟩
    show _ = List.map V.str (List.map _ (List.range (i + 1)))
    rw [List.range_succ, List.map_append, List.map_append]
    refine congrArg _ (congrArg (fun z => [V.str z]) ?_)
    show (TS cs ++ TS [_]) ++ TS ds = TS _
    rw [SX.S_cat, SX.S_cat]
  · rintro acc B' e4 nD hl2 rfl
    refine k _ _ (wrds cs ds f s n) (e3.trans (e4.trans (exNew nD))) ?_ (by simp [wrds]) ?_ (wrds_nodup hs n (by omega))
    · rw [show ((n : Nat) : Int).toNat = n by omega]
      exact upd_same
    · intro z hz
      obtain ⟨i, _, rfl⟩ := List.mem_map.mp hz
      exact wrd_wd l1 l2 m1 m2
end
end Ab
/-! ## D24 -/
set_option Elab.async false
set_option linter.all false
set_option maxRecDepth 100000
set_option maxHeartbeats 4000000
namespace Ab
open PySem L2 PyProof.Rows
open Evl (Ex)
local macro_rules | `(tactic| trivial) => `(tactic| first
  | ((with_reducible apply w_var); exact rfl)
  | with_reducible refine w_c ?_ | with_reducible refine w_cons ?_ | with_reducible refine w_nil ?_ | with_reducible refine w_op ?_ | with_reducible refine w_cb ?_ | with_reducible refine w_call ?_ | with_reducible refine w_test ?_ | with_reducible refine w_B ?_
  | with_reducible refine bX ?_ | with_reducible refine bT ?_ | with_reducible refine bF ?_ | with_reducible refine zN ?_ | with_reducible refine zI ?_ | with_reducible refine zS ?_ | with_reducible refine zR ?_ | with_reducible refine zN' ?_ | with_reducible refine zI' ?_ | with_reducible refine zS' ?_ | with_reducible refine zR' ?_ | with_reducible refine bnT ?_ | with_reducible refine bnF ?_ | with_reducible refine w_and ?_ | with_reducible refine w_or ?_ | with_reducible refine w_not ?_ | with_reducible refine w_andV ?_ | with_reducible refine w_orV ?_
  | with_reducible refine w_notV ?_ | with_reducible refine w_if ?_ | with_reducible refine w_chain ?_ | with_reducible refine w_un ?_ | with_reducible refine wr_I0 ?_ | with_reducible refine wu_I ?_ | with_reducible refine wr_isN ?_ | with_reducible refine wr_notN ?_
  | with_reducible refine wr_eq rfl ?_ | with_reducible refine wr_ne rfl ?_ | with_reducible refine w_yes ?_ | with_reducible refine w_tup ?_ | with_reducible refine w_lst ?_ | with_reducible refine s_ret ?_ | with_reducible refine s_retN ?_
  | with_reducible refine s_seq ?_ | with_reducible refine s_if ?_ | with_reducible refine s_set ?_ | with_reducible refine s_dput ?_ | with_reducible refine s_app ?_ | with_reducible refine s_drop ?_ | with_reducible refine s_next ?_ | with_reducible refine s_par ?_ | with_reducible refine s_par3 ?_ | with_reducible refine s_asg ?_
  | with_reducible refine g_name ?_ | with_reducible refine gs_nil ?_ | with_reducible refine gs_cons ?_ | with_reducible refine wi_int_int ?_ | with_reducible refine wi_int_bool ?_ | with_reducible refine wi_str_str ?_ | with_reducible refine w_fld ?_ | with_reducible refine w_meth ?_ | with_reducible refine w_prop ?_ | with_reducible refine w_make ?_ | with_reducible refine w_makeK ?_ | with_reducible refine w_methN ?_ | with_reducible refine w_callN ?_ | with_reducible refine w_dget ?_ | with_reducible refine w_din ?_ | with_reducible refine w_dnin ?_ | with_reducible refine s_fld ?_ | with_reducible refine w_sl ?_ | with_reducible refine w_part ?_
  | with_reducible refine w_noPart ?_ | with_reducible refine iX ?_)

section
variable {P : Program} {w : World} {K : PySem.W.Frag} {mg : Str → Option Value} {base : Heap}
def KdT (B : Hp) (v : V) (k : Kd) : Prop := ∃ t, v = .ref t ∧ B t = some (.tup [.str k.name, .int k.gap, oI k.age, oS k.src])
theorem KdT.ex {B B' : Hp} {v : V} {k : Kd} (x : Ex B B') (h : KdT B v k) : KdT B' v k := by
  obtain ⟨t, h1, h2⟩ := h
  exact ⟨t, h1, x _ _ h2⟩
structure KsOk (ks : List Kd) : Prop where
  nd : (ks.map Kd.name).Nodup
  ok : ∀ k ∈ ks, KdOk k
  few : ks.length ≤ 4
  src : ∀ (i : Nat) (k : Kd), ks[i]? = some k → ∀ z, k.src = some z → z ∈ (ks.take i).map Kd.name
theorem cut_upto {xs : List V} {i : Int} {n : Nat} (e : i = n) (h : n ≤ xs.length) : cutV xs none (some i) = xs.take n := by
  rw [e]
  exact cut_to h
def S__law_kinds (K : PySem.W.Frag) : Spc := fun vs B M R => ∃ (st : Addr) (n : Nat) (sp ag : Int), vs = [.ref st, .int n, .int sp, .int ag] ∧ M st = some isSt ∧ n ≤ 4 ∧ 0 < sp ∧ sp ≤ 10 ^ 30 ∧ 0 < ag ∧ ag ≤ 10 ^ 30 ∧ ∀ (B1 : Hp) (p : Addr) (vs : List V) (ks : List Kd), Ex B B1 → B1 p = some (.lst vs) → Paired (KdT B1) vs ks → KsOk ks → ks.length = n → R (.ref p) B1 M
theorem sc__law_kinds : FnScope ["_law_stream_here", "_law_count", "_law_spans", "_law_ages", "_law_names", "_law_found", "_law_at", "_law_span", "_law_aged"] ["_law_stream_here", "_law_count", "_law_spans", "_law_ages"] (defScope (top 75)) := ⟨rfl, rfl, rfl, by decide +kernel, rfl, by decide +kernel, by decide +kernel⟩
theorem ok__law_kinds (T : Tx K mg) : C8.Cal P w K mg base 4 "_law_kinds" (Pm (S__law_kinds K)) [] := by
  have nd := sc__law_kinds.nd
  refine calOf (k := 3) (S := (S__law_kinds K)) T.d__law_kinds T.g__law_kinds sc__law_kinds (fun _ _ _ _ _ _ us hl => match us, hl with | [_, _, _, _], _ => rfl) (fun vs B M R ⟨_, _, _, _, e, _⟩ => by rw [e] <;> rfl) fun cdv A outer s H E hr => ?_
  have hu := hu_of hr
  refine ⟨_, (pss_cons (ps_par (i := 4) (j := 5) rfl nd rfl rfl (by decide) rfl rfl (pa_cons (C8.pe_c (ok__law_words T) hr (by decide) (by rfl) (pa_cons (pv 0) (pa_cons pe_int pa_nil))) (pa_cons (pe_lst pa_nil) pa_nil)) rfl)
    (pss_cons (ps_for PassesOwn.never rfl (pi_range1 (by rfl) T.f_range (pa_cons (pv 1) pa_nil)) (pg_name (i := 6) nd rfl (Or.inl rfl))
      (pss_cons (ps_par (i := 7) (j := 8) rfl nd rfl rfl (by decide) rfl rfl (pa_cons (pe_op op_add pe_int (C8.pe_c (ok__law_draw T) hr (by decide) (by rfl) (pa_cons (pv 0) (pa_cons (pv 2) pa_nil)))) (pa_cons pe_non pa_nil)) rfl)
      (pss_cons (ps_if (pt_cmpR op_eq (C8.pe_c (ok__law_draw T) hr (by decide) (by rfl) (pa_cons (pv 0) (pa_cons pe_int pa_nil))) pe_int (nomark _))
        (pss_one (ps_set (i := 8) nd rfl (Or.inl rfl) (C8.pe_c (ok__law_draw T) hr (by decide) (by rfl) (pa_cons (pv 0) (pa_cons (pv 3) pa_nil)))))
        pss_nil)
      (pss_one (ps_expr (pe_bm PySem.F.plainAttrs_list PySem.F.slot_list_append PySem.F.type_list_append mt_append (pv 5) (pa_cons (pe_tup (pa_cons (pe_ix ix_list (pv 4) (pv 6) (fun _ _ => rfl)) (pa_cons (pv 7) (pa_cons (pv 8) (pa_cons (C8.pe_c (ok__law_choose T) hr (by decide) (by rfl) (pa_cons (pv 0) (pa_cons (pe_op op_cat (pe_lst (pa_cons pe_non pa_nil)) (pe_slice sl_list (pv 4) po_none (po_some (pv 6)))) pa_nil))) pa_nil))))) pa_nil)))))))
    (pss_one (ps_ret (pv 5))))), ?_⟩
  rintro vs B M R ⟨st, n, sp, ag, rfl, hM, hn, s1, s2, a1, a2, k⟩
  refine wS.postO ?_
  repeat trivial
  refine ⟨st, 5, rfl, hM, by omega, fun B1 q ws e1 hq hws hwd hwn => ?_⟩
  refine w_cons (w_lstM (is (.lst [])) (w_nil ⟨by decide, isr, fun f fB fM => ?_⟩))
  have sf : st ≠ f := fun z => by rw [← z, hM] at fM; cases fM
  have hM2 : ∀ P, updM M f P st = some isSt := fun P => by rw [updM_ne sf]; exact hM
  repeat trivial
  refine ⟨_, _, rfl, ?_⟩
  refine s_seq (s_for (i_rng1 ?_))
  repeat trivial
  refine ⟨n, rfl, by omega, by omega, _, _, _, wb_range, fun i σ' B' M' => (∃ u1 u2 u3, σ' = [some (.ref st), some (.int n), some (.int sp), some (.int ag), some (.ref q), some (.ref f), u1, u2, u3]) ∧ Ex B1 B' ∧ ∃ vs ks, M' = updM M f (is (.lst vs)) ∧ Paired (KdT B') vs ks ∧ ks.length = i ∧ ks.map Kd.name = ws.take i ∧ (∀ k ∈ ks, KdOk k) ∧ (∀ (i : Nat) (k : Kd), ks[i]? = some k → ∀ z, k.src = some z → z ∈ (ks.take i).map Kd.name), ⟨⟨_, _, _, rfl⟩, Ex.refl _, [], [], rfl, .nil, rfl, rfl, (fun _ h => nomatch h), (fun i k h => by simp at h)⟩, fun i σ' B' M' _ h => ⟨h.2.1, True.intro⟩, ?_, ?_⟩
  · rintro i x σ' B' M' B2 hi ⟨⟨u1, u2, u3, rfl⟩, e2, vs, ks, rfl, hvs, hkl, hkn, hko, hks⟩ e3 rfl
    have e4 := e2.trans e3
    have hi4 : i < 4 := by omega
    rw [show (0 : Int) + (i : Nat) = (i : Nat) by omega]
    have hvl := f2_len hvs
    have rest : ∀ (g : Int) (o : Option Int), 0 ≤ g → g < sp → (∀ y, o = some y → 0 ≤ y ∧ y < ag) → True := fun _ _ _ _ _ => True.intro
    repeat trivial
    refine ⟨st, sp, rfl, hM2 _, s1, by omega, fun g g0 g1 => ?_⟩
    repeat trivial
    refine ⟨_, _, rfl, ?_⟩
    repeat trivial
    refine ⟨st, 2, rfl, hM2 _, by omega, by omega, fun r r0 r1 => ?_⟩
    repeat trivial
    obtain ⟨w0, hw0⟩ : ∃ w0, ws[i]? = some w0 := ⟨ws[i]'(by omega), by simp⟩
    refine bD (fun _ => ?_) fun _ => ?_
    · repeat trivial
      refine ⟨st, ag, rfl, hM2 _, a1, by omega, fun r r0 r1 => ?_⟩
      repeat trivial
      refine ⟨f, rfl, ⟨_, updM_same⟩, ?_⟩
      repeat trivial
      refine wr_ixL (.of (e4 _ _ hq)) (atN (v := .str w0) (by rw [List.getElem?_map, hw0] <;> rfl)) ?_
      repeat trivial
      refine ⟨by show 1 ≤ 100000; decide, fun l1 l1B l1M => ?_⟩
      repeat trivial
      have x1 := exNew (o := .lst [V.non]) l1B
      refine wl_L (.of (x1 _ _ (e4 _ _ hq))) fun l2 l2B l2M => ?_
      have x2 := exNew (o := .lst (cutV (ws.map V.str) none (some (i : Nat)))) l2B
      refine wr_cat (x2 _ _ upd_same) upd_same (by rw [cut_upto rfl (by rw [List.length_map]; omega), List.length_take, List.length_map]; show 1 + _ ≤ _; omega) fun l3 l3B l3M => ?_
      have x3 := exNew (o := .lst ([V.non] ++ cutV (ws.map V.str) none (some (i : Nat)))) l3B
      repeat trivial
      refine ⟨st, _, fun x => ∃ oo : Option Str, x = oS oo ∧ ∀ z, oo = some z → z ∈ ws.take i, rfl, hM2 _, .inl ⟨l3, _, rfl, upd_same, by rw [List.length_append]; show 0 < 1 + _; omega, by rw [cut_upto rfl (by rw [List.length_map]; omega), List.length_append, List.length_take, List.length_map]; show 1 + _ ≤ _; omega, fun x hx => ?_⟩, ?_⟩
      · rw [cut_upto rfl (by rw [List.length_map]; omega)] at hx
        rcases List.mem_append.mp hx with h | h
        · rw [List.mem_singleton.mp h]
          exact ⟨none, rfl, fun _ z => nomatch z⟩
        · rw [← List.map_take] at h
          obtain ⟨y, hy, rfl⟩ := List.mem_map.mp h
          exact ⟨some y, rfl, fun z hz => by rw [← Option.some.inj hz]; exact hy⟩
      rintro x ⟨oo, rfl, hoo⟩
      repeat trivial
      refine ⟨len4, fun t tB tM => ⟨vs, updM_same, by omega, ?_⟩⟩
      rw [updM_updM]
      have x4 := exNew (o := .tup [V.str w0, V.int (1 + g), V.int r, oS oo]) tB
      have xx := ((x1.trans x2).trans x3).trans x4
      refine ⟨⟨_, _, _, rfl⟩, e4.trans xx, _, ks ++ [⟨w0, 1 + g, some r, oo⟩], rfl, Paired.snoc (f2_mono (fun _ _ => KdT.ex (e3.trans xx)) hvs) ⟨t, rfl, upd_same⟩, by rw [List.length_append, hkl] <;> rfl, ?_, ?_, ?_⟩
      · rw [List.map_append, hkn, List.take_add_one, hw0]
        rfl
      · intro k hk
        rcases List.mem_append.mp hk with h | h
        · exact hko k h
        · rw [List.mem_singleton.mp h]
          exact ⟨by show 1 ≤ 1 + g; omega, by show 1 + g ≤ _; omega, fun y hy => by rw [← Option.some.inj hy]; exact ⟨by omega, by omega⟩, fun z hz => hwd z (List.mem_of_mem_take (hoo z hz)), hwd _ (List.mem_of_getElem? hw0)⟩
      · intro j k hj z hz
        rcases Nat.lt_or_ge j ks.length with c | c
        · rw [List.getElem?_append_left c] at hj
          rw [List.take_append_of_le_length (by omega)]
          exact hks j k hj z hz
        · have hj2 : j = ks.length := by
            have := (List.getElem?_eq_some_iff.mp hj).1
            simp at this
            omega
          subst hj2
          rw [List.getElem?_append_right (Nat.le_refl _), Nat.sub_self] at hj
          have hj3 := Option.some.inj hj
          rw [← hj3] at hz
          rw [List.take_append_of_le_length (Nat.le_refl _), List.take_length, hkn]
          exact hoo z hz
    · repeat trivial
      refine ⟨f, rfl, ⟨_, updM_same⟩, ?_⟩
      repeat trivial
      refine wr_ixL (.of (e4 _ _ hq)) (atN (v := .str w0) (by rw [List.getElem?_map, hw0] <;> rfl)) ?_
      repeat trivial
      refine ⟨by show 1 ≤ 100000; decide, fun l1 l1B l1M => ?_⟩
      repeat trivial
      have x1 := exNew (o := .lst [V.non]) l1B
      refine wl_L (.of (x1 _ _ (e4 _ _ hq))) fun l2 l2B l2M => ?_
      have x2 := exNew (o := .lst (cutV (ws.map V.str) none (some (i : Nat)))) l2B
      refine wr_cat (x2 _ _ upd_same) upd_same (by rw [cut_upto rfl (by rw [List.length_map]; omega), List.length_take, List.length_map]; show 1 + _ ≤ _; omega) fun l3 l3B l3M => ?_
      have x3 := exNew (o := .lst ([V.non] ++ cutV (ws.map V.str) none (some (i : Nat)))) l3B
      repeat trivial
      refine ⟨st, _, fun x => ∃ oo : Option Str, x = oS oo ∧ ∀ z, oo = some z → z ∈ ws.take i, rfl, hM2 _, .inl ⟨l3, _, rfl, upd_same, by rw [List.length_append]; show 0 < 1 + _; omega, by rw [cut_upto rfl (by rw [List.length_map]; omega), List.length_append, List.length_take, List.length_map]; show 1 + _ ≤ _; omega, fun x hx => ?_⟩, ?_⟩
      · rw [cut_upto rfl (by rw [List.length_map]; omega)] at hx
        rcases List.mem_append.mp hx with h | h
        · rw [List.mem_singleton.mp h]
          exact ⟨none, rfl, fun _ z => nomatch z⟩
        · rw [← List.map_take] at h
          obtain ⟨y, hy, rfl⟩ := List.mem_map.mp h
          exact ⟨some y, rfl, fun z hz => by rw [← Option.some.inj hz]; exact hy⟩
      rintro x ⟨oo, rfl, hoo⟩
      repeat trivial
      refine ⟨len4, fun t tB tM => ⟨vs, updM_same, by omega, ?_⟩⟩
      rw [updM_updM]
      have x4 := exNew (o := .tup [V.str w0, V.int (1 + g), V.non, oS oo]) tB
      have xx := ((x1.trans x2).trans x3).trans x4
      refine ⟨⟨_, _, _, rfl⟩, e4.trans xx, _, ks ++ [⟨w0, 1 + g, none, oo⟩], rfl, Paired.snoc (f2_mono (fun _ _ => KdT.ex (e3.trans xx)) hvs) ⟨t, rfl, upd_same⟩, by rw [List.length_append, hkl] <;> rfl, ?_, ?_, ?_⟩
      · rw [List.map_append, hkn, List.take_add_one, hw0]
        rfl
      · intro k hk
        rcases List.mem_append.mp hk with h | h
        · exact hko k h
        · rw [List.mem_singleton.mp h]
          exact ⟨by show 1 ≤ 1 + g; omega, by show 1 + g ≤ _; omega, (fun y hy => nomatch hy), fun z hz => hwd z (List.mem_of_mem_take (hoo z hz)), hwd _ (List.mem_of_getElem? hw0)⟩
      · intro j k hj z hz
        rcases Nat.lt_or_ge j ks.length with c | c
        · rw [List.getElem?_append_left c] at hj
          rw [List.take_append_of_le_length (by omega)]
          exact hks j k hj z hz
        · have hj2 : j = ks.length := by
            have := (List.getElem?_eq_some_iff.mp hj).1
            simp at this
            omega
          subst hj2
          rw [List.getElem?_append_right (Nat.le_refl _), Nat.sub_self] at hj
          have hj3 := Option.some.inj hj
          rw [← hj3] at hz
          rw [List.take_append_of_le_length (Nat.le_refl _), List.take_length, hkn]
          exact hoo z hz
  · rintro σ' B' M' ⟨⟨u1, u2, u3, rfl⟩, e2, vs, ks, rfl, hvs, hkl, hkn, hko, hks⟩
    repeat trivial
    intro ok0
    have n1 := Ok.out ok0 updM_same
    refine ⟨_, M, fun H kk => kk.freeze' fM, k _ f vs ks ((e1.trans e2).trans (exNew n1)) upd_same (f2_mono (fun _ _ => KdT.ex (exNew n1)) hvs) ⟨?_, hko, by omega, hks⟩ (by omega)⟩
    rw [hkn]
    exact hwn.sublist (List.take_sublist _ _)
end
end Ab
/-! ## D25 -/
set_option Elab.async false
set_option linter.all false
set_option maxRecDepth 100000
set_option maxHeartbeats 4000000
namespace Ab
open PySem L2 PyProof.Rows
open Evl (Ex)
local macro_rules | `(tactic| trivial) => `(tactic| first
  | ((with_reducible apply w_var); exact rfl)
  | with_reducible refine w_c ?_ | with_reducible refine w_cons ?_ | with_reducible refine w_nil ?_ | with_reducible refine w_op ?_ | with_reducible refine w_cb ?_ | with_reducible refine w_call ?_ | with_reducible refine w_test ?_ | with_reducible refine w_B ?_
  | with_reducible refine bX ?_ | with_reducible refine bT ?_ | with_reducible refine bF ?_ | with_reducible refine zN ?_ | with_reducible refine zI ?_ | with_reducible refine zS ?_ | with_reducible refine zR ?_ | with_reducible refine zN' ?_ | with_reducible refine zI' ?_ | with_reducible refine zS' ?_ | with_reducible refine zR' ?_ | with_reducible refine bnT ?_ | with_reducible refine bnF ?_ | with_reducible refine w_and ?_ | with_reducible refine w_or ?_ | with_reducible refine w_not ?_ | with_reducible refine w_andV ?_ | with_reducible refine w_orV ?_
  | with_reducible refine w_notV ?_ | with_reducible refine w_if ?_ | with_reducible refine w_chain ?_ | with_reducible refine w_un ?_ | with_reducible refine wr_I0 ?_ | with_reducible refine wu_I ?_ | with_reducible refine wr_isN ?_ | with_reducible refine wr_notN ?_
  | with_reducible refine wr_eq rfl ?_ | with_reducible refine wr_ne rfl ?_ | with_reducible refine w_yes ?_ | with_reducible refine w_tup ?_ | with_reducible refine w_lst ?_ | with_reducible refine s_ret ?_ | with_reducible refine s_retN ?_
  | with_reducible refine s_seq ?_ | with_reducible refine s_if ?_ | with_reducible refine s_set ?_ | with_reducible refine s_dput ?_ | with_reducible refine s_app ?_ | with_reducible refine s_drop ?_ | with_reducible refine s_next ?_ | with_reducible refine s_par ?_ | with_reducible refine s_par3 ?_ | with_reducible refine s_asg ?_
  | with_reducible refine g_name ?_ | with_reducible refine gs_nil ?_ | with_reducible refine gs_cons ?_ | with_reducible refine wi_int_int ?_ | with_reducible refine wi_int_bool ?_ | with_reducible refine wi_str_str ?_ | with_reducible refine w_fld ?_ | with_reducible refine w_meth ?_ | with_reducible refine w_prop ?_ | with_reducible refine w_make ?_ | with_reducible refine w_makeK ?_ | with_reducible refine w_methN ?_ | with_reducible refine w_callN ?_ | with_reducible refine w_dget ?_ | with_reducible refine w_din ?_ | with_reducible refine w_dnin ?_ | with_reducible refine s_fld ?_ | with_reducible refine w_sl ?_ | with_reducible refine w_part ?_
  | with_reducible refine w_noPart ?_ | with_reducible refine iX ?_)

section
variable {P : Program} {w : World} {K : PySem.W.Frag} {mg : Str → Option Value} {base : Heap}
structure MoOk (ms : List Int) : Prop where
  mom : ∀ i, i < ms.length → 0 ≤ ms.getD i 0 ∧ ms.getD i 0 ≤ 10 ^ 32
  inc : ∀ i, i + 1 < ms.length → ms.getD i 0 < ms.getD (i + 1) 0
theorem MoOk.snoc {ms : List Int} {x : Int} (h : MoOk ms) (hx : 0 ≤ x) (hx2 : x ≤ 10 ^ 32) (hi : ∀ i, i + 1 = ms.length → ms.getD i 0 < x) : MoOk (ms ++ [x]) := by
  have g1 : ∀ i, i < ms.length → (ms ++ [x]).getD i 0 = ms.getD i 0 := fun i hi => by simp [List.getD_eq_getElem?_getD, List.getElem?_append_left hi]
  have g2 : (ms ++ [x]).getD ms.length 0 = x := by simp [List.getD_eq_getElem?_getD]
  refine ⟨fun i hl => ?_, fun i hl => ?_⟩
  · rw [List.length_append] at hl
    by_cases c : i < ms.length
    · rw [g1 i c]
      exact h.mom i c
    · have e : i = ms.length := by simp at hl; omega
      rw [e, g2]
      exact ⟨hx, hx2⟩
  · rw [List.length_append] at hl
    by_cases c : i + 1 < ms.length
    · rw [g1 i (by omega), g1 (i + 1) c]
      exact h.inc i c
    · have e : i + 1 = ms.length := by simp at hl; omega
      rw [g1 i (by omega), e, g2]
      exact hi i e
def S__law_moments (K : PySem.W.Frag) : Spc := fun vs B M R => ∃ (st : Addr) (n : Nat) (sp : Int), vs = [.ref st, .int n, .int sp] ∧ M st = some isSt ∧ 1 ≤ n ∧ n ≤ 7 ∧ 0 < sp ∧ sp ≤ 3 * 10 ^ 30 ∧ ∀ (B1 : Hp) (p : Addr) (ms : List Int), Ex B B1 → B1 p = some (.lst (ms.map V.int)) → MoOk ms → ms.length = n → R (.ref p) B1 M
theorem sc__law_moments : FnScope ["_law_stream_here", "_law_count", "_law_steps", "_law_found", "_law_turn"] ["_law_stream_here", "_law_count", "_law_steps"] (defScope (top 81)) := ⟨rfl, rfl, rfl, by decide +kernel, rfl, by decide +kernel, by decide +kernel⟩
theorem ok__law_moments (T : Tx K mg) : C8.Cal P w K mg base 2 "_law_moments" (Pm (S__law_moments K)) [] := by
  have nd := sc__law_moments.nd
  refine calOf (k := 1) (S := (S__law_moments K)) T.d__law_moments T.g__law_moments sc__law_moments (fun _ _ _ _ _ _ us hl => match us, hl with | [_, _, _], _ => rfl) (fun vs B M R ⟨_, _, _, e, _⟩ => by rw [e] <;> rfl) fun cdv A outer s H E hr => ?_
  have hu := hu_of hr
  refine ⟨_, (pss_cons (ps_set (i := 3) nd rfl (Or.inl rfl) (pe_lst (pa_cons (C8.pe_c (ok__law_draw T) hr (by decide) (by rfl) (pa_cons (pv 0) (pa_cons pe_int pa_nil))) pa_nil)))
    (pss_cons (ps_for PassesOwn.never rfl (pi_range1 (by rfl) T.f_range (pa_cons (pe_op op_sub (pv 1) pe_int) pa_nil)) (pg_name (i := 4) nd rfl (Or.inl rfl))
      (pss_one (ps_expr (pe_bm PySem.F.plainAttrs_list PySem.F.slot_list_append PySem.F.type_list_append mt_append (pv 3) (pa_cons (pe_op op_add (pe_op op_add (pe_ix ix_list (pv 3) (pe_un un_neg pe_int) (fun _ _ => rfl)) pe_int) (C8.pe_c (ok__law_draw T) hr (by decide) (by rfl) (pa_cons (pv 0) (pa_cons (pv 2) pa_nil)))) pa_nil)))))
    (pss_one (ps_ret (pv 3))))), ?_⟩
  rintro vs B M R ⟨st, n, sp, rfl, hM, h1, hn, s1, s2, k⟩
  refine wS.postO ?_
  refine s_seq (s_set ?_)
  refine w_lstM (fun o => ∃ x : Int, o = .lst [.int x] ∧ 0 ≤ x ∧ x ≤ 4) ?_
  repeat trivial
  refine ⟨st, 5, rfl, hM, by omega, by omega, fun x x0 x1 => ?_⟩
  repeat trivial
  refine ⟨by show 1 ≤ 100000; decide, ⟨x, rfl, x0, by omega⟩, fun f fB fM => ?_⟩
  have sf : st ≠ f := fun z => by rw [← z, hM] at fM; cases fM
  refine wS.open updM_same fun o ho => ?_
  rw [updM_updM]
  obtain ⟨x, rfl, x0, x1⟩ := ho
  have hM2 : ∀ P, updM M f P st = some isSt := fun P => by rw [updM_ne sf]; exact hM
  refine s_seq (s_for (i_rng1 ?_))
  repeat trivial
  refine ⟨_, rfl, by omega, by omega, _, _, _, wb_range, fun i σ' B' M' => (∃ u1, σ' = [some (.ref st), some (.int n), some (.int sp), some (.ref f), u1]) ∧ Ex B B' ∧ ∃ (ms : List Int) (y : Int), M' = updM M f (is (.lst ((ms ++ [y]).map V.int))) ∧ ms.length = i ∧ MoOk (ms ++ [y]) ∧ y ≤ 4 + i * sp, ⟨⟨_, rfl⟩, Ex.refl _, [], x, rfl, rfl, ?_, by omega⟩, fun i σ' B' M' _ h => ⟨h.2.1, True.intro⟩, ?_, ?_⟩
  · refine MoOk.snoc ⟨fun i hi => absurd hi (Nat.not_lt_zero _), fun i hi => absurd hi (Nat.not_lt_zero _)⟩ x0 (by omega) fun i hi => ?_
    cases hi
  · rintro i x σ' B' M' B2 hi ⟨⟨u1, rfl⟩, e2, ms, y, rfl, hl, mo, hy⟩ e3 rfl
    have hi7 : i < 6 := by omega
    have yl : 0 ≤ y := by
      have := mo.mom ms.length (by simp)
      simp [List.getD_eq_getElem?_getD] at this
      exact this.1
    have bnd : (i : Int) * sp ≤ 6 * sp := Int.mul_le_mul_of_nonneg_right (by omega) (by omega)
    have bnd2 : ((i + 1 : Nat) : Int) * sp = i * sp + sp := by
      rw [Int.natCast_add, Int.add_mul]
      simp
    repeat trivial
    refine ⟨f, rfl, ⟨_, updM_same⟩, ?_⟩
    repeat trivial
    refine wr_ixM updM_same (v := .int y) (by rw [List.map_append]; exact atLast) ?_
    repeat trivial
    refine ⟨st, sp, rfl, hM2 _, s1, by omega, fun r r0 r1 => ?_⟩
    repeat trivial
    refine ⟨_, updM_same, by simp; omega, ?_⟩
    rw [updM_updM]
    refine ⟨⟨_, rfl⟩, e2.trans e3, ms ++ [y], y + 1 + r, by rw [List.map_append (l₁ := ms ++ [y])] <;> rfl, by simp [hl], ?_, by omega⟩
    refine mo.snoc (by omega) (by omega) fun j hj => ?_
    have e : j = ms.length := by simp at hj; omega
    rw [e]
    simp [List.getD_eq_getElem?_getD]
    omega
  · rintro σ' B' M' ⟨⟨u1, rfl⟩, e2, ms, y, rfl, hl, mo, hy⟩
    repeat trivial
    intro ok0
    have n1 := Ok.out ok0 updM_same
    exact ⟨_, M, fun H kk => kk.freeze' fM, k _ f (ms ++ [y]) (e2.trans (exNew n1)) upd_same mo (by rw [List.length_append, hl]; show ((n : Int) - 1).toNat + 1 = n; omega)⟩
end
end Ab
/-! ## D26 -/
set_option Elab.async false
set_option linter.all false
set_option maxRecDepth 100000
set_option maxHeartbeats 4000000
namespace Ab
open PySem L2 PyProof.Rows
open Evl (Ex)
local macro_rules | `(tactic| trivial) => `(tactic| first
  | ((with_reducible apply w_var); exact rfl)
  | with_reducible refine w_c ?_ | with_reducible refine w_cons ?_ | with_reducible refine w_nil ?_ | with_reducible refine w_op ?_ | with_reducible refine w_cb ?_ | with_reducible refine w_call ?_ | with_reducible refine w_test ?_ | with_reducible refine w_B ?_
  | with_reducible refine bX ?_ | with_reducible refine bT ?_ | with_reducible refine bF ?_ | with_reducible refine zN ?_ | with_reducible refine zI ?_ | with_reducible refine zS ?_ | with_reducible refine zR ?_ | with_reducible refine zN' ?_ | with_reducible refine zI' ?_ | with_reducible refine zS' ?_ | with_reducible refine zR' ?_ | with_reducible refine bnT ?_ | with_reducible refine bnF ?_ | with_reducible refine w_and ?_ | with_reducible refine w_or ?_ | with_reducible refine w_not ?_ | with_reducible refine w_andV ?_ | with_reducible refine w_orV ?_
  | with_reducible refine w_notV ?_ | with_reducible refine w_if ?_ | with_reducible refine w_chain ?_ | with_reducible refine w_un ?_ | with_reducible refine wr_I0 ?_ | with_reducible refine wu_I ?_ | with_reducible refine wr_isN ?_ | with_reducible refine wr_notN ?_
  | with_reducible refine wr_eq rfl ?_ | with_reducible refine wr_ne rfl ?_ | with_reducible refine w_yes ?_ | with_reducible refine w_tup ?_ | with_reducible refine w_lst ?_ | with_reducible refine s_ret ?_ | with_reducible refine s_retN ?_
  | with_reducible refine s_seq ?_ | with_reducible refine s_if ?_ | with_reducible refine s_set ?_ | with_reducible refine s_dput ?_ | with_reducible refine s_app ?_ | with_reducible refine s_drop ?_ | with_reducible refine s_next ?_ | with_reducible refine s_par ?_ | with_reducible refine s_par3 ?_ | with_reducible refine s_asg ?_
  | with_reducible refine g_name ?_ | with_reducible refine gs_nil ?_ | with_reducible refine gs_cons ?_ | with_reducible refine wi_int_int ?_ | with_reducible refine wi_int_bool ?_ | with_reducible refine wi_str_str ?_ | with_reducible refine w_fld ?_ | with_reducible refine w_meth ?_ | with_reducible refine w_prop ?_ | with_reducible refine w_make ?_ | with_reducible refine w_makeK ?_ | with_reducible refine w_methN ?_ | with_reducible refine w_callN ?_ | with_reducible refine w_dget ?_ | with_reducible refine w_din ?_ | with_reducible refine w_dnin ?_ | with_reducible refine s_fld ?_ | with_reducible refine w_sl ?_ | with_reducible refine w_part ?_
  | with_reducible refine w_noPart ?_ | with_reducible refine iX ?_)

section
variable {P : Program} {w : World} {K : PySem.W.Frag} {mg : Str → Option Value} {base : Heap}
def S__law_calls (K : PySem.W.Frag) : Spc := fun vs B M R => ∃ (st a b : Addr) (n : Nat) (kp : Int) (ws : List Str) (kv : List V) (ks : List Kd) (u u2 : Unit), vs = [.ref st, .int n, .ref a, .ref b, .int kp] ∧ M st = some isSt ∧ n ≤ 6 ∧ B a = some (.lst (ws.map V.str)) ∧ 0 < ws.length ∧ ws.length ≤ 1000 ∧ B b = some (.lst kv) ∧ Paired (KdT B) kv ks ∧ 0 < ks.length ∧ ks.length ≤ 1000 ∧ 0 < kp ∧ kp ≤ 10 ^ 30 ∧
  ∀ (B1 : Hp) (p : Addr) (vs : List V) (cs : List Cl), Ex B B1 → B1 p = some (.lst vs) → Paired (CallV B1) vs cs → cs.length = n → (∀ c ∈ cs, c.role ∈ ws ∧ c.client ∈ ks.map Kd.name ∧ c.server ∈ ks.map Kd.name ∧ 0 ≤ c.life ∧ c.life ≤ 10 ^ 30) → R (.ref p) B1 M
theorem sc__law_calls : FnScope ["_law_stream_here", "_law_count", "_law_parts", "_law_kinds_here", "_law_keeps", "_law_found", "_law_turn", "_law_one", "_law_other"] ["_law_stream_here", "_law_count", "_law_parts", "_law_kinds_here", "_law_keeps"] (defScope (top 76)) := ⟨rfl, rfl, rfl, by decide +kernel, rfl, by decide +kernel, by decide +kernel⟩
theorem ok__law_calls (T : Tx K mg) : C8.Cal P w K mg base 3 "_law_calls" (Pm (S__law_calls K)) [] := by
  have nd := sc__law_calls.nd
  refine calOf (k := 2) (S := (S__law_calls K)) T.d__law_calls T.g__law_calls sc__law_calls (fun _ _ _ _ _ _ us hl => match us, hl with | [_, _, _, _, _], _ => rfl) (fun vs B M R ⟨_, _, _, _, _, _, _, _, _, _, e, _⟩ => by rw [e] <;> rfl) fun cdv A outer s H E hr => ?_
  have hu := hu_of hr
  refine ⟨_, (pss_cons (ps_set (i := 5) nd rfl (Or.inl rfl) (pe_lst pa_nil))
    (pss_cons (ps_for PassesOwn.never rfl (pi_range1 (by rfl) T.f_range (pa_cons (pv 1) pa_nil)) (pg_name (i := 6) nd rfl (Or.inl rfl))
      (pss_cons (ps_par (i := 7) (j := 8) rfl nd rfl rfl (by decide) rfl rfl (pa_cons (pe_ix ix_tup (C8.pe_c (ok__law_choose T) hr (by decide) (by rfl) (pa_cons (pv 0) (pa_cons (pv 3) pa_nil))) pe_int (fun _ _ => rfl)) (pa_cons (pe_ix ix_tup (C8.pe_c (ok__law_choose T) hr (by decide) (by rfl) (pa_cons (pv 0) (pa_cons (pv 3) pa_nil))) pe_int (fun _ _ => rfl)) pa_nil)) rfl)
      (pss_one (ps_expr (pe_bm PySem.F.plainAttrs_list PySem.F.slot_list_append PySem.F.type_list_append mt_append (pv 5) (pa_cons (pe_tup (pa_cons (C8.pe_c (ok__law_choose T) hr (by decide) (by rfl) (pa_cons (pv 0) (pa_cons (pv 2) pa_nil))) (pa_cons (pv 7) (pa_cons (pv 8) (pa_cons (C8.pe_c (ok__law_draw T) hr (by decide) (by rfl) (pa_cons (pv 0) (pa_cons (pv 4) pa_nil))) pa_nil))))) pa_nil))))))
    (pss_one (ps_ret (pv 5))))), ?_⟩
  rintro vs B M R ⟨st, a, b, n, kp, ws, kv, ks, _, _, rfl, hM, hn, ha, hw1, hw2, hb, hkv, hk1, hk2, p1, p2, k⟩
  refine wS.postO ?_
  have hkl := f2_len hkv
  refine s_seq (s_set (w_lstM (is (.lst [])) (w_nil ⟨by decide, isr, fun f fB fM => ?_⟩)))
  have sf : st ≠ f := fun z => by rw [← z, hM] at fM; cases fM
  have hM2 : ∀ P, updM M f P st = some isSt := fun P => by rw [updM_ne sf]; exact hM
  have pick : ∀ B2, Ex B B2 → Some_ K B2 (.ref b) fun x => ∃ k, k ∈ ks ∧ KdT B2 x k := fun B2 e => .inl ⟨b, kv, rfl, e _ _ hb, by omega, by omega, fun x hx => by
    obtain ⟨i, hi, rfl⟩ := List.getElem_of_mem hx
    obtain ⟨y, hy, ky⟩ := f2_get hkv (List.getElem?_eq_getElem hi)
    exact ⟨y, List.mem_of_getElem? hy, ky.ex e⟩⟩
  refine s_seq (s_for (i_rng1 ?_))
  repeat trivial
  refine ⟨n, rfl, by omega, by omega, _, _, _, wb_range, fun i σ' B' M' => (∃ u1 u2 u3, σ' = [some (.ref st), some (.int n), some (.ref a), some (.ref b), some (.int kp), some (.ref f), u1, u2, u3]) ∧ Ex B B' ∧ ∃ vs cs, M' = updM M f (is (.lst vs)) ∧ Paired (CallV B') vs cs ∧ cs.length = i ∧ (∀ c ∈ cs, c.role ∈ ws ∧ c.client ∈ ks.map Kd.name ∧ c.server ∈ ks.map Kd.name ∧ 0 ≤ c.life ∧ c.life ≤ 10 ^ 30), ⟨⟨_, _, _, rfl⟩, Ex.refl _, [], [], rfl, .nil, rfl, fun c hc => nomatch hc⟩, fun i σ' B' M' _ h => ⟨h.2.1, True.intro⟩, ?_, ?_⟩
  · rintro i x σ' B' M' B2 hi ⟨⟨u1, u2, u3, rfl⟩, e2, vs, cs, rfl, hvs, hcl, hcs⟩ e3 rfl
    have hi6 : i < 6 := by omega
    have e4 := e2.trans e3
    have hvl := f2_len hvs
    repeat trivial
    refine ⟨st, _, _, rfl, hM2 _, pick _ e4, ?_⟩
    rintro x ⟨k1, hk1m, t1, rfl, ht1⟩
    repeat trivial
    refine wr_ixT (.of ht1) (v := .str k1.name) (by rfl) ?_
    repeat trivial
    refine ⟨st, _, _, rfl, hM2 _, pick _ e4, ?_⟩
    rintro x ⟨k2, hk2m, t2, rfl, ht2⟩
    repeat trivial
    refine wr_ixT (.of ht2) (v := .str k2.name) (by rfl) ?_
    repeat trivial
    refine ⟨_, _, rfl, ?_⟩
    repeat trivial
    refine ⟨f, rfl, ⟨_, updM_same⟩, ?_⟩
    repeat trivial
    refine ⟨st, _, fun x => ∃ z, z ∈ ws ∧ x = .str z, rfl, hM2 _, .inl ⟨a, _, rfl, e4 _ _ ha, by rw [List.length_map]; exact hw1, by rw [List.length_map]; omega, fun x hx => ?_⟩, ?_⟩
    · obtain ⟨z, hz, rfl⟩ := List.mem_map.mp hx
      exact ⟨z, hz, rfl⟩
    rintro x ⟨z, hz, rfl⟩
    repeat trivial
    refine ⟨st, kp, rfl, hM2 _, p1, by omega, fun r r0 r1 => ?_⟩
    repeat trivial
    refine ⟨len4, fun t tB tM => ⟨vs, updM_same, by omega, ?_⟩⟩
    rw [updM_updM]
    refine ⟨⟨_, _, _, rfl⟩, e4.trans (exNew tB), _, cs ++ [⟨z, k1.name, k2.name, r⟩], rfl, Paired.snoc (f2_mono (fun _ _ => CallV.ex (e3.trans (exNew tB))) hvs) ⟨t, rfl, upd_same⟩, by rw [List.length_append, hcl] <;> rfl, fun c hc => ?_⟩
    rcases List.mem_append.mp hc with h | h
    · exact hcs c h
    · rw [List.mem_singleton.mp h]
      exact ⟨hz, List.mem_map_of_mem hk1m, List.mem_map_of_mem hk2m, r0, by show r ≤ _; omega⟩
  · rintro σ' B' M' ⟨⟨u1, u2, u3, rfl⟩, e2, vs, cs, rfl, hvs, hcl, hcs⟩
    repeat trivial
    intro ok0
    have n1 := Ok.out ok0 updM_same
    exact ⟨_, M, fun H kk => kk.freeze' fM, k _ f vs cs (e2.trans (exNew n1)) upd_same (f2_mono (fun _ _ => CallV.ex (exNew n1)) hvs) (by omega) hcs⟩
end
end Ab
/-! ## D27 -/
set_option Elab.async false
set_option linter.all false
set_option maxRecDepth 100000
set_option maxHeartbeats 4000000
namespace Ab
open PySem L2 PyProof.Rows
open Evl (Ex)
local macro_rules | `(tactic| trivial) => `(tactic| first
  | ((with_reducible apply w_var); exact rfl)
  | with_reducible refine w_c ?_ | with_reducible refine w_cons ?_ | with_reducible refine w_nil ?_ | with_reducible refine w_op ?_ | with_reducible refine w_cb ?_ | with_reducible refine w_call ?_ | with_reducible refine w_test ?_ | with_reducible refine w_B ?_
  | with_reducible refine bX ?_ | with_reducible refine bT ?_ | with_reducible refine bF ?_ | with_reducible refine zN ?_ | with_reducible refine zI ?_ | with_reducible refine zS ?_ | with_reducible refine zR ?_ | with_reducible refine zN' ?_ | with_reducible refine zI' ?_ | with_reducible refine zS' ?_ | with_reducible refine zR' ?_ | with_reducible refine bnT ?_ | with_reducible refine bnF ?_ | with_reducible refine w_and ?_ | with_reducible refine w_or ?_ | with_reducible refine w_not ?_ | with_reducible refine w_andV ?_ | with_reducible refine w_orV ?_
  | with_reducible refine w_notV ?_ | with_reducible refine w_if ?_ | with_reducible refine w_chain ?_ | with_reducible refine w_un ?_ | with_reducible refine wr_I0 ?_ | with_reducible refine wu_I ?_ | with_reducible refine wr_isN ?_ | with_reducible refine wr_notN ?_
  | with_reducible refine wr_eq rfl ?_ | with_reducible refine wr_ne rfl ?_ | with_reducible refine w_yes ?_ | with_reducible refine w_tup ?_ | with_reducible refine w_lst ?_ | with_reducible refine s_ret ?_ | with_reducible refine s_retN ?_
  | with_reducible refine s_seq ?_ | with_reducible refine s_if ?_ | with_reducible refine s_set ?_ | with_reducible refine s_dput ?_ | with_reducible refine s_app ?_ | with_reducible refine s_drop ?_ | with_reducible refine s_next ?_ | with_reducible refine s_par ?_ | with_reducible refine s_par3 ?_ | with_reducible refine s_asg ?_
  | with_reducible refine g_name ?_ | with_reducible refine gs_nil ?_ | with_reducible refine gs_cons ?_ | with_reducible refine wi_int_int ?_ | with_reducible refine wi_int_bool ?_ | with_reducible refine wi_str_str ?_ | with_reducible refine w_fld ?_ | with_reducible refine w_meth ?_ | with_reducible refine w_prop ?_ | with_reducible refine w_make ?_ | with_reducible refine w_makeK ?_ | with_reducible refine w_methN ?_ | with_reducible refine w_callN ?_ | with_reducible refine w_dget ?_ | with_reducible refine w_din ?_ | with_reducible refine w_dnin ?_ | with_reducible refine s_fld ?_ | with_reducible refine w_sl ?_ | with_reducible refine w_part ?_
  | with_reducible refine w_noPart ?_ | with_reducible refine iX ?_)

section
variable {P : Program} {w : World} {K : PySem.W.Frag} {mg : Str → Option Value} {base : Heap}
/-- a statement, told by what holds behind it -/
theorem s_mid {t u : L2.TS} {σ : L2.St} {B : Hp} {M : Mu} {nx : L2.St → Hp → Mu → Prop} {rt : V → Hp → Mu → Prop} (mid : L2.St → Hp → Mu → Prop) (h : wS t σ B M mid rt) (k : ∀ σ' B' M', mid σ' B' M' → wS u σ' B' M' nx rt) : wS (tSeq t u) σ B M nx rt := s_seq (h.mono k fun _ _ _ z => z)
theorem w_mid {te : TE} {σ : L2.St} {B : Hp} {M : Mu} {R : V → Hp → Mu → Prop} (mid : V → Hp → Mu → Prop) (h : wE te σ B M mid) (k : ∀ v B' M', mid v B' M' → R v B' M') : wE te σ B M R := h.mono k
/-- a told row, a told edition as the law's tuples -/
def RowT (B : Hp) (v : V) (r : Row) : Prop := ∃ t a, v = .ref t ∧ B t = some (.tup [.str r.role, .ref a, .str r.own]) ∧ B a = some (.lst (r.likes.map V.str))
theorem RowT.ex {B B' : Hp} {v : V} {r : Row} (x : Ex B B') (h : RowT B v r) : RowT B' v r := by
  obtain ⟨t, a, h1, h2, h3⟩ := h
  exact ⟨t, a, h1, x _ _ h2, x _ _ h3⟩
def ToldT (B : Hp) (v : V) (t : Told) : Prop := ∃ a b c sv rs, v = .ref a ∧ B a = some (.tup [.ref b, .ref c, .int (t.least : Nat), sv]) ∧ B b = some (.lst rs) ∧ Paired (RowT B) rs t.rows ∧ B c = some (.lst (t.vouch.map V.str)) ∧ sgV B sv t.sign
theorem ToldT.ex {B B' : Hp} {v : V} {t : Told} (x : Ex B B') (h : ToldT B v t) : ToldT B' v t := by
  obtain ⟨a, b, c, sv, rs, h1, h2, h3, h4, h5, h6⟩ := h
  exact ⟨a, b, c, sv, rs, h1, x _ _ h2, x _ _ h3, f2_mono (fun _ _ => RowT.ex x) h4, x _ _ h5, h6.ex x⟩
def Sub (ws ks : List Str) : Prop := ws.Nodup ∧ ∀ z ∈ ws, z ∈ ks
structure RwOk (ks : List Str) (r : Row) : Prop where
  likes : Sub r.likes ks
  own : r.own ∈ ks
structure TdOk (ps ks hs : List Str) (t : Told) : Prop where
  roles : t.rows.map Row.role = ps
  rows : ∀ r ∈ t.rows, RwOk ks r
  vouch : Sub t.vouch hs
  least : t.least ≤ 2
  sign : ∀ ws, t.sign = some ws → Sub ws hs
theorem sub_of {ys : List V} {ks : List Str} (h : ys.Sublist (ks.map V.str)) (hk : ks.Nodup) : ∃ ws, ys = ws.map V.str ∧ Sub ws ks := by
  obtain ⟨l, hl, e⟩ := List.sublist_map_iff.mp h
  exact ⟨l, e, hk.sublist hl, fun z hz => hl.subset hz⟩
theorem Sub.len {ws ks : List Str} (h : Sub ws ks) : ws.length ≤ ks.length := List.Nodup.length_le_of_subset h.1 fun z hz => h.2 z hz
def S__law_told (K : PySem.W.Frag) : Spc := fun vs B M R => ∃ (st a b c : Addr) (ps ks hs : List Str) (u u2 u3 : Unit), vs = [.ref st, .ref a, .ref b, .ref c] ∧ M st = some isSt ∧ B a = some (.lst (ps.map V.str)) ∧ B b = some (.lst (ks.map V.str)) ∧ B c = some (.lst (hs.map V.str)) ∧ ps.length ≤ 1000 ∧ 0 < ks.length ∧ ks.length ≤ 1000 ∧ hs.length ≤ 1000 ∧ ks.Nodup ∧ hs.Nodup ∧
  ∀ (B1 : Hp) (v : V) (t : Told), Ex B B1 → ToldT B1 v t → TdOk ps ks hs t → R v B1 M
theorem sc__law_told : FnScope ["_law_stream_here", "_law_parts", "_law_keys", "_law_hands", "_law_rows", "_law_part", "_law_likes", "_law_own", "_law_vouch", "_law_least", "_law_signing"] ["_law_stream_here", "_law_parts", "_law_keys", "_law_hands"] (defScope (top 77)) := ⟨rfl, rfl, rfl, by decide +kernel, rfl, by decide +kernel, by decide +kernel⟩
theorem ok__law_told (T : Tx K mg) : C8.Cal P w K mg base 3 "_law_told" (Pm (S__law_told K)) [] := by
  have nd := sc__law_told.nd
  refine calOf (k := 2) (S := (S__law_told K)) T.d__law_told T.g__law_told sc__law_told (fun _ _ _ _ _ _ us hl => match us, hl with | [_, _, _, _], _ => rfl) (fun vs B M R ⟨_, _, _, _, _, _, _, _, _, _, e, _⟩ => by rw [e] <;> rfl) fun cdv A outer s H E hr => ?_
  have hu := hu_of hr
  refine ⟨_, (pss_cons (ps_set (i := 4) nd rfl (Or.inl rfl) (pe_lst pa_nil))
    (pss_cons (ps_for PassesOwn.never rfl (pi_list (pv 1)) (pg_name (i := 5) nd rfl (Or.inl rfl))
      (pss_cons (ps_par (i := 6) (j := 7) rfl nd rfl rfl (by decide) rfl rfl (pa_cons (C8.pe_c (ok__law_some T) hr (by decide) (by rfl) (pa_cons (pv 0) (pa_cons (pv 2) pa_nil))) (pa_cons (C8.pe_c (ok__law_choose T) hr (by decide) (by rfl) (pa_cons (pv 0) (pa_cons (pv 2) pa_nil))) pa_nil)) rfl)
      (pss_cons (ps_if ((pw_and (pt_cmpR op_notIn_seq (pv 7) (pv 6) (by with_unfolding_all rfl)) (pw_and1 (pt_cmpR op_gt (C8.pe_c (ok__law_draw T) hr (by decide) (by rfl) (pa_cons (pv 0) (pa_cons pe_int pa_nil))) pe_int (nomark _))))).pt
        (pss_one (ps_set (i := 6) nd rfl (Or.inl rfl) (pe_op op_cat (pv 6) (pe_lst (pa_cons (pv 7) pa_nil)))))
        pss_nil)
      (pss_one (ps_expr (pe_bm PySem.F.plainAttrs_list PySem.F.slot_list_append PySem.F.type_list_append mt_append (pv 4) (pa_cons (pe_tup (pa_cons (pv 5) (pa_cons (pv 6) (pa_cons (pv 7) pa_nil)))) pa_nil)))))))
    (pss_cons (ps_par (i := 8) (j := 9) rfl nd rfl rfl (by decide) rfl rfl (pa_cons (C8.pe_c (ok__law_some T) hr (by decide) (by rfl) (pa_cons (pv 0) (pa_cons (pv 3) pa_nil))) (pa_cons (C8.pe_c (ok__law_draw T) hr (by decide) (by rfl) (pa_cons (pv 0) (pa_cons pe_int pa_nil))) pa_nil)) rfl)
    (pss_cons (ps_set (i := 10) nd rfl (Or.inl rfl) (pe_ifExp (pt_cmpR op_gt (C8.pe_c (ok__law_draw T) hr (by decide) (by rfl) (pa_cons (pv 0) (pa_cons pe_int pa_nil))) pe_int (nomark _)) pe_non (C8.pe_c (ok__law_some T) hr (by decide) (by rfl) (pa_cons (pv 0) (pa_cons (pv 3) pa_nil)))))
    (pss_one (ps_ret (pe_tup (pa_cons (pv 4) (pa_cons (pv 8) (pa_cons (pv 9) (pa_cons (pv 10) pa_nil))))))))))), ?_⟩
  rintro vs B M R ⟨st, a, b, c, ps, ks, hs, _, _, _, rfl, hM, ha, hb, hc, p1, k1, k2, h2, knd, hnd, k⟩
  refine wS.postO ?_
  refine s_seq (s_set (w_lstM (is (.lst [])) (w_nil ⟨by decide, isr, fun f fB fM => ?_⟩)))
  have sf : st ≠ f := fun z => by rw [← z, hM] at fM; cases fM
  have hM2 : ∀ P, updM M f P st = some isSt := fun P => by rw [updM_ne sf]; exact hM
  refine s_seq (s_for (i_list ?_))
  repeat trivial
  refine ⟨a, _, rfl, .of ha, _, _, _, wb_list (.of ha), fun i σ' B' M' => (∃ u1 u2 u3 u4 u5 u6, σ' = [some (.ref st), some (.ref a), some (.ref b), some (.ref c), some (.ref f), u1, u2, u3, u4, u5, u6]) ∧ Ex B B' ∧ ∃ vs rs, M' = updM M f (is (.lst vs)) ∧ Paired (RowT B') vs rs ∧ rs.map Row.role = ps.take i ∧ ∀ r ∈ rs, RwOk ks r, ⟨⟨_, _, _, _, _, _, rfl⟩, Ex.refl _, [], [], rfl, .nil, rfl, fun c hc => nomatch hc⟩, fun i σ' B' M' _ h => ⟨h.2.1, True.intro⟩, ?_, ?_⟩
  · rintro i x σ' B' M' B2 hi ⟨⟨u1, u2, u3, u4, u5, u6, rfl⟩, e2, vs, rs, rfl, hvs, hrn, hrs⟩ e3 hx
    rw [List.length_map] at hi
    have e4 := e2.trans e3
    have hvl := f2_len hvs
    have hrl : rs.length = i := by
      have z := congrArg List.length hrn
      rw [List.length_map, List.length_take] at z
      omega
    obtain ⟨p0, hp0⟩ : ∃ p0, ps[i]? = some p0 := ⟨ps[i]'hi, by simp⟩
    have hxx : x = .str p0 := by
      rw [List.getElem?_map, hp0] at hx
      exact (Option.some.inj hx).symm
    subst hxx
    repeat trivial
    refine ⟨st, b, _, rfl, hM2 _, e4 _ _ hb, by rw [List.length_map]; omega, fun B3 l ys e5 hl hsub => ?_⟩
    obtain ⟨lk, rfl, hlk⟩ := sub_of hsub knd
    repeat trivial
    have e6 := e4.trans e5
    refine ⟨st, _, fun x => ∃ z, z ∈ ks ∧ x = .str z, rfl, hM2 _, .inl ⟨b, _, rfl, e6 _ _ hb, by rw [List.length_map]; exact k1, by rw [List.length_map]; omega, fun x hx => ?_⟩, ?_⟩
    · obtain ⟨z, hz, rfl⟩ := List.mem_map.mp hx
      exact ⟨z, hz, rfl⟩
    rintro x ⟨own, ho, rfl⟩
    repeat trivial
    refine ⟨_, _, rfl, ?_⟩
    have lkl := hlk.len
    refine s_mid (fun σ' B5 M5 => ∃ (l : Addr) (ws : List Str), σ' = [some (.ref st), some (.ref a), some (.ref b), some (.ref c), some (.ref f), some (.str p0), some (.ref l), some (.str own), u4, u5, u6] ∧ Ex B3 B5 ∧ M5 = updM M f (is (.lst vs)) ∧ B5 l = some (.lst (ws.map V.str)) ∧ Sub ws ks) ?_ ?_
    · repeat trivial
      refine wr_ninL (.of hl) rfl flat_str ?_
      rw [inV_str]
      repeat trivial
      refine bN (fun hin => ?_) fun hni => ?_
      · repeat trivial
        exact ⟨l, lk, rfl, Ex.refl _, rfl, hl, hlk⟩
      · repeat trivial
        refine ⟨st, 6, rfl, hM2 _, by omega, by omega, fun r r0 r1 => ?_⟩
        repeat trivial
        refine bD (fun _ => ?_) fun _ => ?_
        · repeat trivial
          refine ⟨by show 1 ≤ 100000; decide, fun l1 l1B l1M => ?_⟩
          have x1 := exNew (o := .lst [V.str own]) l1B
          refine wr_cat (x1 _ _ hl) upd_same (by rw [List.length_map]; show _ + 1 ≤ _; omega) fun l3 l3B l3M => ?_
          refine ⟨l3, lk ++ [own], rfl, x1.trans (exNew l3B), rfl, by rw [upd_same, List.map_append] <;> rfl, ?_, ?_⟩
          · exact List.nodup_append.mpr ⟨hlk.1, (by simp), fun y hy z hz e => hni (by rw [List.mem_singleton.mp hz] at e; rw [← e]; exact hy)⟩
          · intro z hz
            rcases List.mem_append.mp hz with h | h
            · exact hlk.2 z h
            · rw [List.mem_singleton.mp h]
              exact ho
        · repeat trivial
          exact ⟨l, lk, rfl, Ex.refl _, rfl, hl, hlk⟩
    · rintro σ' B5 M5 ⟨l, ws, rfl, e7, rfl, hl2, hws⟩
      repeat trivial
      refine ⟨f, rfl, ⟨_, updM_same⟩, ?_⟩
      repeat trivial
      refine ⟨len3, fun t tB tM => ⟨vs, updM_same, by omega, ?_⟩⟩
      rw [updM_updM]
      have x4 := exNew (o := .tup [V.str p0, V.ref l, V.str own]) tB
      refine ⟨⟨_, _, _, _, _, _, rfl⟩, (e6.trans e7).trans x4, _, rs ++ [⟨p0, ws, own⟩], rfl, Paired.snoc (f2_mono (fun _ _ => RowT.ex (((e3.trans e5).trans e7).trans x4)) hvs) ⟨t, l, rfl, upd_same, x4 _ _ hl2⟩, ?_, fun r hr => ?_⟩
      · rw [List.map_append, hrn, List.take_add_one, hp0]
        rfl
      · rcases List.mem_append.mp hr with h | h
        · exact hrs r h
        · rw [List.mem_singleton.mp h]
          exact ⟨hws, ho⟩
  · rintro σ' B' M' ⟨⟨u1, u2, u3, u4, u5, u6, rfl⟩, e2, vs, rs, rfl, hvs, hrn, hrs⟩
    rw [List.length_map, List.take_length] at hrn
    repeat trivial
    refine ⟨st, c, _, rfl, hM2 _, e2 _ _ hc, by rw [List.length_map]; omega, fun B3 vc ys e5 hl hsub => ?_⟩
    obtain ⟨vo, rfl, hvo⟩ := sub_of hsub hnd
    repeat trivial
    refine ⟨st, 3, rfl, hM2 _, by omega, by omega, fun r r0 r1 => ?_⟩
    repeat trivial
    refine ⟨_, _, rfl, ?_⟩
    have e6 := e2.trans e5
    refine s_mid (fun σ' B5 M5 => ∃ (sv : V) (sg : Option (List Str)), σ' = [some (.ref st), some (.ref a), some (.ref b), some (.ref c), some (.ref f), u1, u2, u3, some (.ref vc), some (.int r), some sv] ∧ Ex B3 B5 ∧ M5 = updM M f (is (.lst vs)) ∧ sgV B5 sv sg ∧ ∀ ws, sg = some ws → Sub ws hs) ?_ ?_
    · repeat trivial
      refine ⟨st, 3, rfl, hM2 _, by omega, by omega, fun q q0 q1 => ?_⟩
      repeat trivial
      refine bD (fun _ => ?_) fun _ => ?_
      · repeat trivial
        exact ⟨.non, none, rfl, Ex.refl _, rfl, rfl, fun _ z => nomatch z⟩
      · repeat trivial
        refine ⟨st, c, _, rfl, hM2 _, e6 _ _ hc, by rw [List.length_map]; omega, fun B4 sc ys e7 hl2 hsub => ?_⟩
        obtain ⟨so, rfl, hso⟩ := sub_of hsub hnd
        exact ⟨.ref sc, some so, rfl, e7, rfl, ⟨sc, rfl, hl2⟩, fun ws z => by rw [← Option.some.inj z]; exact hso⟩
    · rintro σ' B5 M5 ⟨sv, sg, rfl, e7, rfl, hsg, hsub⟩
      repeat trivial
      refine ⟨len4, fun t tB tM => ?_⟩
      intro ok0
      have x4 := exNew (o := .tup [V.ref f, V.ref vc, V.int r, sv]) tB
      have n1 := Ok.out ok0 updM_same
      have x5 := exNew (o := .lst vs) n1
      have hr : ((r.toNat : Nat) : Int) = r := by omega
      refine ⟨_, M, fun H kk => kk.freeze' fM, k _ _ ⟨rs, vo, r.toNat, sg⟩ (((e6.trans e7).trans x4).trans x5) ⟨t, f, vc, sv, vs, rfl, ?_, upd_same, f2_mono (fun _ _ => RowT.ex (((e5.trans e7).trans x4).trans x5)) hvs, ((e7.trans x4).trans x5) _ _ hl, hsg.ex (x4.trans x5)⟩ ⟨hrn, hrs, hvo, by show r.toNat ≤ 2; omega, hsub⟩⟩
      show upd _ f _ t = some (.tup [.ref f, .ref vc, .int ((r.toNat : Nat) : Int), sv])
      rw [hr]
      exact x5 _ _ upd_same
end
end Ab
/-! ## D28 -/
set_option Elab.async false
set_option linter.all false
set_option maxRecDepth 100000
set_option maxHeartbeats 4000000
namespace Ab
open PySem L2 PyProof.Rows
open Evl (Ex)
local macro_rules | `(tactic| trivial) => `(tactic| first
  | ((with_reducible apply w_var); exact rfl)
  | with_reducible refine w_c ?_ | with_reducible refine w_cons ?_ | with_reducible refine w_nil ?_ | with_reducible refine w_op ?_ | with_reducible refine w_cb ?_ | with_reducible refine w_call ?_ | with_reducible refine w_test ?_ | with_reducible refine w_B ?_
  | with_reducible refine bX ?_ | with_reducible refine bT ?_ | with_reducible refine bF ?_ | with_reducible refine zN ?_ | with_reducible refine zI ?_ | with_reducible refine zS ?_ | with_reducible refine zR ?_ | with_reducible refine zN' ?_ | with_reducible refine zI' ?_ | with_reducible refine zS' ?_ | with_reducible refine zR' ?_ | with_reducible refine bnT ?_ | with_reducible refine bnF ?_ | with_reducible refine w_and ?_ | with_reducible refine w_or ?_ | with_reducible refine w_not ?_ | with_reducible refine w_andV ?_ | with_reducible refine w_orV ?_
  | with_reducible refine w_notV ?_ | with_reducible refine w_if ?_ | with_reducible refine w_chain ?_ | with_reducible refine w_un ?_ | with_reducible refine wr_I0 ?_ | with_reducible refine wu_I ?_ | with_reducible refine wr_isN ?_ | with_reducible refine wr_notN ?_
  | with_reducible refine wr_eq rfl ?_ | with_reducible refine wr_ne rfl ?_ | with_reducible refine w_yes ?_ | with_reducible refine w_tup ?_ | with_reducible refine w_lst ?_ | with_reducible refine s_ret ?_ | with_reducible refine s_retN ?_
  | with_reducible refine s_seq ?_ | with_reducible refine s_if ?_ | with_reducible refine s_set ?_ | with_reducible refine s_dput ?_ | with_reducible refine s_app ?_ | with_reducible refine s_drop ?_ | with_reducible refine s_next ?_ | with_reducible refine s_par ?_ | with_reducible refine s_par3 ?_ | with_reducible refine s_asg ?_
  | with_reducible refine g_name ?_ | with_reducible refine gs_nil ?_ | with_reducible refine gs_cons ?_ | with_reducible refine wi_int_int ?_ | with_reducible refine wi_int_bool ?_ | with_reducible refine wi_str_str ?_ | with_reducible refine w_fld ?_ | with_reducible refine w_meth ?_ | with_reducible refine w_prop ?_ | with_reducible refine w_make ?_ | with_reducible refine w_makeK ?_ | with_reducible refine w_methN ?_ | with_reducible refine w_callN ?_ | with_reducible refine w_dget ?_ | with_reducible refine w_din ?_ | with_reducible refine w_dnin ?_ | with_reducible refine s_fld ?_ | with_reducible refine w_sl ?_ | with_reducible refine w_part ?_
  | with_reducible refine w_noPart ?_ | with_reducible refine iX ?_)

section
variable {P : Program} {w : World} {K : PySem.W.Frag} {mg : Str → Option Value} {base : Heap}
theorem cut_nn {xs : List V} {i : Int} (h : 0 ≤ i) : cutV xs none (some i) = xs.take i.toNat := by
  unfold cutV HT.sIx
  simp only [show ¬ (i < 0) by omega, if_false, Nat.sub_zero, List.drop_zero]
  rcases Nat.le_total i.toNat xs.length with c | c
  · rw [Nat.min_eq_left c]
  · rw [Nat.min_eq_right c, List.take_length, List.take_of_length_le c]
theorem cut_from {xs : List V} {i : Int} {n : Nat} (e : i = n) : cutV xs (some i) none = xs.drop n := by
  subst e
  unfold cutV HT.sIx
  simp only [show ¬ ((n : Int) < 0) by omega, if_false, Int.toNat_natCast]
  rcases Nat.le_total n xs.length with c | c
  · rw [Nat.min_eq_left c]
    exact List.take_of_length_le (by rw [List.length_drop] <;> exact Nat.le_refl _)
  · rw [Nat.min_eq_right c, List.drop_length, List.drop_eq_nil_of_le c, List.take_nil]
theorem f2_drop {α β : Type} {p : α → β → Prop} : ∀ {l : List α} {m : List β} (n : Nat), Paired p l m → Paired p (l.drop n) (m.drop n)
  | _, _, 0, h => h
  | _, _, _ + 1, .nil => .nil
  | _, _, n + 1, .cons _ t => f2_drop n t
theorem f2_app {α β : Type} {p : α → β → Prop} : ∀ {l l' : List α} {m m' : List β}, Paired p l m → Paired p l' m' → Paired p (l ++ l') (m ++ m')
  | _, _, _, _, .nil, h => h
  | _, _, _, _, .cons r t, h => .cons r (f2_app t h)
theorem f2_last {α β : Type} {p : α → β → Prop} {l : List α} {m : List β} (h : Paired p l m) {n : Nat} (hl : m.length = n + 1) : ∃ l0 x y, l = l0 ++ [x] ∧ y ∈ m ∧ p x y := by
  obtain ⟨y, hy⟩ : ∃ y, m[n]? = some y := ⟨m[n]'(by omega), by simp⟩
  obtain ⟨x, hx, q⟩ := f2_at h hy
  have hll := f2_len h
  refine ⟨l.take n, x, y, ?_, List.mem_of_getElem? hy, q⟩
  have e : l.take (n + 1) = l := List.take_of_length_le (by omega)
  rw [List.take_add_one, hx] at e
  exact e.symm
theorem w_lstI {ta : TA} {σ : L2.St} {B : Hp} {M : Mu} {R : V → Hp → Mu → Prop} (h : wA ta σ B M fun xs B1 M1 => xs.length ≤ 100000 ∧ ∀ p, B1 p = none → M1 p = none → R (.ref p) B1 (updM M1 p (is (.lst xs)))) : wE (tLst ta) σ B M R := fun H Q ok q =>
  h H _ ok fun xs B1 M1 H1 ok1 ⟨z, k⟩ => ⟨Evl.sz_of z, fun p hp => q _ _ _ _ (ok1.newM hp isr) (k p (ok1.freeB hp) (ok1.freeM hp))⟩
theorem Sub.snoc {ws ks : List Str} {z : Str} (h : Sub ws ks) (n : z ∉ ws) (hz : z ∈ ks) : Sub (ws ++ [z]) ks :=
  ⟨List.nodup_append.mpr ⟨h.1, (by simp), fun y hy x hx e => n (by rw [List.mem_singleton.mp hx] at e; rw [← e]; exact hy)⟩, fun y hy => by
    rcases List.mem_append.mp hy with c | c
    · exact h.2 y c
    · rw [List.mem_singleton.mp c]
      exact hz⟩
theorem TdOk.set {ps ks hs : List Str} {t : Told} (h : TdOk ps ks hs t) {i : Nat} {r : Row} (hr : t.rows[i]? = some r) {lk : List Str} {own : Str} {vo : List Str} {le : Nat} {sg : Option (List Str)} (h1 : Sub lk ks) (h2 : own ∈ ks) (h3 : Sub vo hs) (h4 : le ≤ 2) (h5 : ∀ ws, sg = some ws → Sub ws hs) : TdOk ps ks hs ⟨t.rows.take i ++ [⟨r.role, lk, own⟩] ++ t.rows.drop (i + 1), vo, le, sg⟩ := by
  refine ⟨?_, fun q hq => ?_, h3, h4, h5⟩
  · rw [← h.roles]
    have hi := (List.getElem?_eq_some_iff.mp hr).1
    have hg := (List.getElem?_eq_some_iff.mp hr).2
    have e : t.rows.map Row.role = (t.rows.take i ++ t.rows[i] :: t.rows.drop (i + 1)).map Row.role := by rw [← List.drop_eq_getElem_cons hi, List.take_append_drop]
    rw [e, hg]
    simp
  · rcases List.mem_append.mp hq with c | c
    · rcases List.mem_append.mp c with c | c
      · exact h.rows q (List.mem_of_mem_take c)
      · rw [List.mem_singleton.mp c]
        exact ⟨h1, h2⟩
    · exact h.rows q (List.mem_of_mem_drop c)
def S__law_turned : Spc := fun vs B M R => ∃ (a : Addr) (z : Str) (ws ks : List Str) (u u2 : Unit), vs = [.ref a, .str z] ∧ B a = some (.lst (ws.map V.str)) ∧ ws.length ≤ 1000 ∧ Sub ws ks ∧ z ∈ ks ∧ ∀ (B1 : Hp) (p : Addr) (us : List Str), Ex B B1 → B1 p = some (.lst (us.map V.str)) → Sub us ks → R (.ref p) B1 M
theorem sc__law_turned : FnScope ["_law_items", "_law_item", "_law_one"] ["_law_items", "_law_item"] (defScope (top 78)) := ⟨rfl, rfl, rfl, by decide +kernel, rfl, by decide +kernel, by decide +kernel⟩
theorem ok__law_turned (T : Tx K mg) : C8.Cal P w K mg base 1 "_law_turned" (Pm (S__law_turned)) [] := by
  have nd := sc__law_turned.nd
  refine calOf (k := 0) (S := (S__law_turned)) T.d__law_turned T.g__law_turned sc__law_turned (fun _ _ _ _ _ _ us hl => match us, hl with | [_, _], _ => rfl) (fun vs B M R ⟨_, _, _, _, _, _, e, _⟩ => by rw [e] <;> rfl) fun cdv A outer s H E hr => ?_
  have hu := hu_of hr
  refine ⟨_, (pss_one (ps_ret (pe_ifExp (pt_cmpR op_in_seq (pv 1) (pv 0) (by with_unfolding_all rfl)) (pe_lc (own := [("_law_one", 2)]) (g := gName 2) rfl nd (pi_list (pv 0)) (blkOk_by (own := [("_law_one", 2)]) (N := ["_law_items", "_law_item", "_law_one"]) (sc := defScope (top 78)) (by decide +kernel)) (fun _ _ _ _ _ => (pg_name (i := 2) nd rfl (Or.inl rfl))) (fun _ _ _ _ _ => (pts_one (pt_cmpR op_ne (pv 2) (pv 1) (nomark _)))) (fun _ _ _ _ _ => (pv 2))) (pe_op op_cat (pv 0) (pe_lst (pa_cons (pv 1) pa_nil)))))), ?_⟩
  rintro vs B M R ⟨a, z, ws, ks, _, _, rfl, ha, hl, hw, hz, k⟩
  repeat trivial
  refine wr_inL (.of ha) rfl flat_str ?_
  rw [inV_str]
  repeat trivial
  refine bD (fun hin => ?_) fun hni => ?_
  · refine w_lc (i_list ?_)
    repeat trivial
    refine ⟨a, _, rfl, .of ha, _, _, _, wb_list (.of ha), by rw [List.length_map]; omega, fun i acc _ => acc.Sublist ((ws.map V.str).take i), List.Sublist.slnil, fun D hD hM2 => ⟨fun _ => True.intro, ?_, ?_⟩⟩
    · rintro i x acc B' B2 hi hl2 e1 hs e2 hx
      have hs1 : acc.Sublist ((ws.map V.str).take (i + 1)) := hs.trans (List.take_sublist_take_left (by omega))
      have hs2 : (acc ++ [x]).Sublist ((ws.map V.str).take (i + 1)) := by
        rw [List.take_add_one, hx]
        exact hs.append (List.Sublist.refl _)
      obtain ⟨y, rfl⟩ : ∃ y : Str, x = .str y := by
        obtain ⟨y, _, e⟩ := List.mem_map.mp (List.mem_of_getElem? hx)
        exact ⟨y, e.symm⟩
      repeat trivial
      refine bN (fun _ => ?_) fun _ => ?_
      · exact ⟨rfl, Ex.refl _, hs1⟩
      · repeat trivial
        exact ⟨rfl, Ex.refl _, hs2⟩
    · rintro acc B' e1 nD hl2 hs
      rw [List.take_length] at hs
      obtain ⟨us, rfl, hus⟩ := sub_of hs hw.1
      exact k _ _ us (e1.trans (exNew nD)) upd_same ⟨hus.1, fun y hy => hw.2 y (hus.2 y hy)⟩
  · repeat trivial
    refine ⟨by show 1 ≤ 100000; decide, fun l1 l1B l1M => ?_⟩
    have x1 := exNew (o := .lst [V.str z]) l1B
    refine wr_cat (x1 _ _ ha) upd_same (by rw [List.length_map]; show _ + 1 ≤ _; omega) fun l3 l3B l3M => ?_
    exact k _ l3 (ws ++ [z]) (x1.trans (exNew l3B)) (by rw [upd_same, List.map_append] <;> rfl) (hw.snoc hni hz)
def S__law_next (K : PySem.W.Frag) : Spc := fun vs B M R => ∃ (st b c : Addr) (v : V) (t : Told) (ps ks hs : List Str) (u u2 u3 : Unit), vs = [.ref st, v, .ref b, .ref c] ∧ M st = some isSt ∧ ToldT B v t ∧ TdOk ps ks hs t ∧ B b = some (.lst (ks.map V.str)) ∧ B c = some (.lst (hs.map V.str)) ∧ 0 < ps.length ∧ ps.length ≤ 1000 ∧ 0 < ks.length ∧ ks.length ≤ 1000 ∧ 0 < hs.length ∧ hs.length ≤ 1000 ∧ ks.Nodup ∧ hs.Nodup ∧
  ∀ (B1 : Hp) (v : V) (t : Told), Ex B B1 → ToldT B1 v t → TdOk ps ks hs t → R v B1 M
theorem sc__law_next : FnScope ["_law_stream_here", "_law_told_here", "_law_keys", "_law_hands", "_law_rows", "_law_vouch", "_law_least", "_law_signing", "_law_at", "_law_way", "_law_part", "_law_likes", "_law_own"] ["_law_stream_here", "_law_told_here", "_law_keys", "_law_hands"] (defScope (top 79)) := ⟨rfl, rfl, rfl, by decide +kernel, rfl, by decide +kernel, by decide +kernel⟩
theorem ok__law_next (T : Tx K mg) : C8.Cal P w K mg base 3 "_law_next" (Pm (S__law_next K)) [] := by
  have nd := sc__law_next.nd
  refine calOf (k := 2) (S := (S__law_next K)) T.d__law_next T.g__law_next sc__law_next (fun _ _ _ _ _ _ us hl => match us, hl with | [_, _, _, _], _ => rfl) (fun vs B M R ⟨_, _, _, _, _, _, _, _, _, _, _, e, _⟩ => by rw [e] <;> rfl) fun cdv A outer s H E hr => ?_
  have hu := hu_of hr
  refine ⟨_, (pss_cons (ps_asg (pv 1) (pg_tup rfl (pgs_cons (pg_name (i := 4) nd rfl (Or.inl rfl)) (pgs_cons (pg_name (i := 5) nd rfl (Or.inl rfl)) (pgs_cons (pg_name (i := 6) nd rfl (Or.inl rfl)) (pgs_cons (pg_name (i := 7) nd rfl (Or.inl rfl)) pgs_nil))))))
    (pss_cons (ps_par (i := 8) (j := 9) rfl nd rfl rfl (by decide) rfl rfl (pa_cons (C8.pe_c (ok__law_draw T) hr (by decide) (by rfl) (pa_cons (pv 0) (pa_cons (pe_callB call_len_seq (by rfl) T.f_len (by decide +kernel) (pa_cons (pv 4) pa_nil)) pa_nil))) (pa_cons (C8.pe_c (ok__law_draw T) hr (by decide) (by rfl) (pa_cons (pv 0) (pa_cons pe_int pa_nil))) pa_nil)) rfl)
    (pss_cons (ps_asg (pe_ix ix_list (pv 4) (pv 8) (fun _ _ => rfl)) (pg_tup rfl (pgs_cons (pg_name (i := 10) nd rfl (Or.inl rfl)) (pgs_cons (pg_name (i := 11) nd rfl (Or.inl rfl)) (pgs_cons (pg_name (i := 12) nd rfl (Or.inl rfl)) pgs_nil)))))
    (pss_cons (ps_if (pt_cmpR op_lt (pv 9) pe_int (nomark _))
      (pss_one (ps_set (i := 11) nd rfl (Or.inl rfl) (C8.pe_c (ok__law_turned T) hr (by decide) (by rfl) (pa_cons (pv 11) (pa_cons (C8.pe_c (ok__law_choose T) hr (by decide) (by rfl) (pa_cons (pv 0) (pa_cons (pv 2) pa_nil))) pa_nil)))))
      (pss_one (ps_if (pt_cmpR op_lt (pv 9) pe_int (nomark _))
        (pss_one (ps_set (i := 12) nd rfl (Or.inl rfl) (C8.pe_c (ok__law_choose T) hr (by decide) (by rfl) (pa_cons (pv 0) (pa_cons (pe_slice sl_list (pe_op op_cat (pv 11) (pv 2)) po_none (po_some (pe_callB (call_max2 rfl) (by rfl) T.f_max (by decide +kernel) (pa_cons pe_int (pa_cons (pe_callB call_len_seq (by rfl) T.f_len (by decide +kernel) (pa_cons (pv 11) pa_nil)) pa_nil))))) pa_nil)))))
        (pss_one (ps_if (pt_cmpR op_eq (pv 9) pe_int (nomark _))
          (pss_one (ps_set (i := 5) nd rfl (Or.inl rfl) (C8.pe_c (ok__law_turned T) hr (by decide) (by rfl) (pa_cons (pv 5) (pa_cons (C8.pe_c (ok__law_choose T) hr (by decide) (by rfl) (pa_cons (pv 0) (pa_cons (pv 3) pa_nil))) pa_nil)))))
          (pss_one (ps_if (pt_cmpR op_eq (pv 9) pe_int (nomark _))
            (pss_one (ps_set (i := 7) nd rfl (Or.inl rfl) (C8.pe_c (ok__law_some T) hr (by decide) (by rfl) (pa_cons (pv 0) (pa_cons (pv 3) pa_nil)))))
            (pss_one (ps_set (i := 6) nd rfl (Or.inl rfl) (C8.pe_c (ok__law_draw T) hr (by decide) (by rfl) (pa_cons (pv 0) (pa_cons pe_int pa_nil))))))))))))
    (pss_one (ps_ret (pe_tup (pa_cons (pe_op op_cat (pe_op op_cat (pe_slice sl_list (pv 4) po_none (po_some (pv 8))) (pe_lst (pa_cons (pe_tup (pa_cons (pv 10) (pa_cons (pv 11) (pa_cons (pv 12) pa_nil)))) pa_nil))) (pe_slice sl_list (pv 4) (po_some (pe_op op_add (pv 8) pe_int)) po_none)) (pa_cons (pv 5) (pa_cons (pv 6) (pa_cons (pv 7) pa_nil))))))))))), ?_⟩
  rintro vs B M R ⟨st, b, c, v, t, ps, ks, hs, _, _, _, rfl, hM, ⟨a, ra, va, sv, rs, rfl, ht1, ht2, ht3, ht4, ht5⟩, td, hb, hc, p0, p1, k1, k2, h1, h2, knd, hnd, k⟩
  have hrl := f2_len ht3
  have hpl : t.rows.length = ps.length := by rw [← td.roles, List.length_map]
  repeat trivial
  refine g_tup (.of ht1) rfl ?_
  repeat trivial
  refine wc_lenL (.of ht2) ?_
  repeat trivial
  refine ⟨st, _, rfl, hM, by omega, by omega, fun at_ at0 at1 => ?_⟩
  repeat trivial
  refine ⟨st, 8, rfl, hM, by omega, by omega, fun wy wy0 wy1 => ?_⟩
  repeat trivial
  refine ⟨_, _, rfl, ?_⟩
  obtain ⟨n, rfl⟩ : ∃ n : Nat, at_ = n := ⟨at_.toNat, by omega⟩
  obtain ⟨r, hr⟩ : ∃ r, t.rows[n]? = some r := ⟨t.rows[n]'(by omega), by simp⟩
  obtain ⟨rv, hrv, q, la, rfl, hq1, hq2⟩ := f2_at ht3 hr
  have ro := td.rows r (List.mem_of_getElem? hr)
  repeat trivial
  refine wr_ixL (.of ht2) (atN hrv) ?_
  repeat trivial
  refine g_tup (.of hq1) rfl (gs_cons (g_name (gs_cons (g_name (gs_cons (g_name (gs_nil ?_)))))))
  refine s_mid (fun σ' B5 M5 => ∃ (va2 : Addr) (vo : List Str) (le : Nat) (sv2 : V) (sg : Option (List Str)) (l : Addr) (lk : List Str) (own : Str), σ' = [some (.ref st), some (.ref a), some (.ref b), some (.ref c), some (.ref ra), some (.ref va2), some (.int le), some sv2, some (.int n), some (.int wy), some (.str r.role), some (.ref l), some (.str own)] ∧ Ex B B5 ∧ M5 = M ∧
    B5 va2 = some (.lst (vo.map V.str)) ∧ Sub vo hs ∧ le ≤ 2 ∧ sgV B5 sv2 sg ∧ (∀ ws, sg = some ws → Sub ws hs) ∧ B5 l = some (.lst (lk.map V.str)) ∧ Sub lk ks ∧ own ∈ ks) ?_ ?_
  · repeat trivial
    refine bD (fun _ => ?_) fun _ => ?_
    · repeat trivial
      refine ⟨st, _, fun x => ∃ z, z ∈ ks ∧ x = .str z, rfl, hM, .inl ⟨b, _, rfl, hb, by rw [List.length_map]; exact k1, by rw [List.length_map]; omega, fun x hx => ?_⟩, ?_⟩
      · obtain ⟨z, hz, rfl⟩ := List.mem_map.mp hx
        exact ⟨z, hz, rfl⟩
      rintro x ⟨z, hz, rfl⟩
      repeat trivial
      have lkl := ro.likes.len
      refine ⟨la, z, r.likes, ks, ⟨⟩, ⟨⟩, rfl, hq2, by omega, ro.likes, hz, fun B1 p us e hp hus => ?_⟩
      exact ⟨va, t.vouch, t.least, sv, t.sign, p, us, r.own, rfl, e, rfl, e _ _ ht4, td.vouch, td.least, ht5.ex e, td.sign, hp, hus, ro.own⟩
    repeat trivial
    refine bD (fun _ => ?_) fun _ => ?_
    · repeat trivial
      have lkl := ro.likes.len
      refine wr_cat hq2 hb (by rw [List.length_map, List.length_map]; omega) fun l1 l1B l1M => ?_
      have x1 := exNew (o := .lst (r.likes.map V.str ++ ks.map V.str)) l1B
      repeat trivial
      refine wc_lenL (.of (x1 _ _ hq2)) ?_
      rw [List.length_map]
      repeat trivial
      refine wc_max2 ?_
      repeat trivial
      refine wl_L (.of upd_same) fun l2 l2B l2M => ?_
      rw [cut_nn (by split <;> omega)]
      have x2 := exNew (o := .lst ((r.likes.map V.str ++ ks.map V.str).take (if (r.likes.length : Int) > 1 then (r.likes.length : Int) else 1).toNat)) l2B
      repeat trivial
      refine ⟨st, _, fun x => ∃ z, z ∈ ks ∧ x = .str z, rfl, hM, .inl ⟨l2, _, rfl, upd_same, ?_, ?_, fun x hx => ?_⟩, ?_⟩
      · rw [List.length_take, List.length_append, List.length_map, List.length_map]
        split <;> omega
      · rw [List.length_take, List.length_append, List.length_map, List.length_map]
        omega
      · rcases List.mem_append.mp (List.mem_of_mem_take hx) with h | h
        · obtain ⟨z, hz, rfl⟩ := List.mem_map.mp h
          exact ⟨z, ro.likes.2 z hz, rfl⟩
        · obtain ⟨z, hz, rfl⟩ := List.mem_map.mp h
          exact ⟨z, hz, rfl⟩
      rintro x ⟨z, hz, rfl⟩
      have e := x1.trans x2
      exact ⟨va, t.vouch, t.least, sv, t.sign, la, r.likes, z, rfl, e, rfl, e _ _ ht4, td.vouch, td.least, ht5.ex e, td.sign, e _ _ hq2, ro.likes, hz⟩
    repeat trivial
    refine bD (fun _ => ?_) fun _ => ?_
    · repeat trivial
      refine ⟨st, _, fun x => ∃ z, z ∈ hs ∧ x = .str z, rfl, hM, .inl ⟨c, _, rfl, hc, by rw [List.length_map]; exact h1, by rw [List.length_map]; omega, fun x hx => ?_⟩, ?_⟩
      · obtain ⟨z, hz, rfl⟩ := List.mem_map.mp hx
        exact ⟨z, hz, rfl⟩
      rintro x ⟨z, hz, rfl⟩
      repeat trivial
      have vol := td.vouch.len
      refine ⟨va, z, t.vouch, hs, ⟨⟩, ⟨⟩, rfl, ht4, by omega, td.vouch, hz, fun B1 p us e hp hus => ?_⟩
      exact ⟨p, us, t.least, sv, t.sign, la, r.likes, r.own, rfl, e, rfl, hp, hus, td.least, ht5.ex e, td.sign, e _ _ hq2, ro.likes, ro.own⟩
    repeat trivial
    refine bD (fun _ => ?_) fun _ => ?_
    · repeat trivial
      refine ⟨st, c, _, rfl, hM, hc, by rw [List.length_map]; omega, fun B1 p ys e hp hsub => ?_⟩
      obtain ⟨so, rfl, hso⟩ := sub_of hsub hnd
      exact ⟨va, t.vouch, t.least, .ref p, some so, la, r.likes, r.own, rfl, e, rfl, e _ _ ht4, td.vouch, td.least, ⟨p, rfl, hp⟩, fun ws z => by rw [← Option.some.inj z]; exact hso, e _ _ hq2, ro.likes, ro.own⟩
    · repeat trivial
      refine ⟨st, 3, rfl, hM, by omega, by omega, fun le le0 le1 => ?_⟩
      have hle : le = (le.toNat : Nat) := by omega
      rw [hle]
      exact ⟨va, t.vouch, le.toNat, sv, t.sign, la, r.likes, r.own, rfl, Ex.refl _, rfl, ht4, td.vouch, by omega, ht5, td.sign, hq2, ro.likes, ro.own⟩
  · rintro σ' B5 M5 ⟨va2, vo, le, sv2, sg, l, lk, own, rfl, e5, rfl, hva, hvo, hle, hsg, hsub, hl, hlk, ho⟩
    have hvl : rs.length = ps.length := by omega
    have hn : n < rs.length := by omega
    repeat trivial
    refine wl_L (.of (e5 _ _ ht2)) fun l1 l1B l1M => ?_
    rw [cut_to (by omega)]
    have x1 := exNew (o := .lst (rs.take n)) l1B
    repeat trivial
    refine ⟨len3, fun t1 t1B t1M => ?_⟩
    have x2 := exNew (o := .tup [V.str r.role, V.ref l, V.str own]) t1B
    repeat trivial
    refine ⟨by show 1 ≤ 100000; decide, fun l2 l2B l2M => ?_⟩
    have x3 := exNew (o := .lst [V.ref t1]) l2B
    repeat trivial
    refine wr_cat ((x2.trans x3) _ _ upd_same) upd_same (by rw [List.length_take]; show _ + 1 ≤ _; omega) fun l3 l3B l3M => ?_
    have x4 := exNew (o := .lst (rs.take n ++ [V.ref t1])) l3B
    have e6 := (((e5.trans x1).trans x2).trans x3).trans x4
    repeat trivial
    refine wl_L (.of (e6 _ _ ht2)) fun l4 l4B l4M => ?_
    rw [cut_from (n := n + 1) (by omega)]
    have x5 := exNew (o := .lst (rs.drop (n + 1))) l4B
    refine wr_cat (x5 _ _ upd_same) upd_same (by rw [List.length_append, List.length_take, List.length_drop]; show _ + 1 + _ ≤ _; omega) fun l5 l5B l5M => ?_
    have x6 := exNew (o := .lst (rs.take n ++ [V.ref t1] ++ rs.drop (n + 1))) l5B
    have e8 := (e6.trans x5).trans x6
    repeat trivial
    refine ⟨len4, fun t2 t2B t2M => ?_⟩
    have x7 := exNew (o := .tup [V.ref l5, V.ref va2, V.int le, sv2]) t2B
    have y := (((((x1.trans x2).trans x3).trans x4).trans x5).trans x6).trans x7
    refine k _ _ ⟨t.rows.take n ++ [⟨r.role, lk, own⟩] ++ t.rows.drop (n + 1), vo, le, sg⟩ (e8.trans x7) ⟨t2, l5, va2, sv2, _, rfl, upd_same, x7 _ _ upd_same, ?_, y _ _ hva, hsg.ex y⟩ (td.set hr hlk ho hvo hle hsub)
    have f0 := f2_mono (fun _ _ => RowT.ex (e8.trans x7)) ht3
    exact f2_app (f2_app (f2_take n f0) (.cons ⟨t1, l, rfl, ((((x3.trans x4).trans x5).trans x6).trans x7) _ _ upd_same, y _ _ hl⟩ .nil)) (f2_drop (n + 1) f0)
def S__law_tolds (K : PySem.W.Frag) : Spc := fun vs B M R => ∃ (st a b c : Addr) (n : Nat) (ps ks hs : List Str) (u u2 : Unit), vs = [.ref st, .int n, .ref a, .ref b, .ref c] ∧ M st = some isSt ∧ 1 ≤ n ∧ n ≤ 7 ∧ B a = some (.lst (ps.map V.str)) ∧ B b = some (.lst (ks.map V.str)) ∧ B c = some (.lst (hs.map V.str)) ∧ 0 < ps.length ∧ ps.length ≤ 1000 ∧ 0 < ks.length ∧ ks.length ≤ 1000 ∧ 0 < hs.length ∧ hs.length ≤ 1000 ∧ ks.Nodup ∧ hs.Nodup ∧
  ∀ (B1 : Hp) (p : Addr) (vs : List V) (ts : List Told), Ex B B1 → B1 p = some (.lst vs) → Paired (ToldT B1) vs ts → ts.length = n → (∀ t ∈ ts, TdOk ps ks hs t) → R (.ref p) B1 M
theorem sc__law_tolds : FnScope ["_law_stream_here", "_law_count", "_law_parts", "_law_keys", "_law_hands", "_law_found", "_law_turn", "_law_later"] ["_law_stream_here", "_law_count", "_law_parts", "_law_keys", "_law_hands"] (defScope (top 80)) := ⟨rfl, rfl, rfl, by decide +kernel, rfl, by decide +kernel, by decide +kernel⟩
theorem ok__law_tolds (T : Tx K mg) : C8.Cal P w K mg base 4 "_law_tolds" (Pm (S__law_tolds K)) [] := by
  have nd := sc__law_tolds.nd
  refine calOf (k := 3) (S := (S__law_tolds K)) T.d__law_tolds T.g__law_tolds sc__law_tolds (fun _ _ _ _ _ _ us hl => match us, hl with | [_, _, _, _, _], _ => rfl) (fun vs B M R ⟨_, _, _, _, _, _, _, _, _, _, e, _⟩ => by rw [e] <;> rfl) fun cdv A outer s H E hr => ?_
  have hu := hu_of hr
  refine ⟨_, (pss_cons (ps_set (i := 5) nd rfl (Or.inl rfl) (pe_lst (pa_cons (C8.pe_c (ok__law_told T) hr (by decide) (by rfl) (pa_cons (pv 0) (pa_cons (pv 2) (pa_cons (pv 3) (pa_cons (pv 4) pa_nil))))) pa_nil)))
    (pss_cons (ps_for PassesOwn.never rfl (pi_range1 (by rfl) T.f_range (pa_cons (pe_op op_sub (pv 1) pe_int) pa_nil)) (pg_name (i := 6) nd rfl (Or.inl rfl))
      (pss_cons (ps_set (i := 7) nd rfl (Or.inl rfl) (C8.pe_c (ok__law_next T) hr (by decide) (by rfl) (pa_cons (pv 0) (pa_cons (pe_ix ix_list (pv 5) (pe_un un_neg pe_int) (fun _ _ => rfl)) (pa_cons (pv 3) (pa_cons (pv 4) pa_nil))))))
      (pss_one (ps_expr (pe_bm PySem.F.plainAttrs_list PySem.F.slot_list_append PySem.F.type_list_append mt_append (pv 5) (pa_cons (pe_ifExp (pt_cmpR op_gt (C8.pe_c (ok__law_draw T) hr (by decide) (by rfl) (pa_cons (pv 0) (pa_cons pe_int pa_nil))) pe_int (nomark _)) (pv 7) (C8.pe_c (ok__law_next T) hr (by decide) (by rfl) (pa_cons (pv 0) (pa_cons (pv 7) (pa_cons (pv 3) (pa_cons (pv 4) pa_nil)))))) pa_nil))))))
    (pss_one (ps_ret (pv 5))))), ?_⟩
  rintro vs B M R ⟨st, a, b, c, n, ps, ks, hs, _, _, rfl, hM, n1, n7, ha, hb, hc, p0, p1, k1, k2, h1, h2, knd, hnd, k⟩
  refine wS.postO ?_
  refine s_seq (s_set (w_lstI ?_))
  repeat trivial
  refine ⟨st, a, b, c, ps, ks, hs, ⟨⟩, ⟨⟩, ⟨⟩, rfl, hM, ha, hb, hc, p1, k1, k2, h2, knd, hnd, fun B1 v t e1 hv htd => ?_⟩
  repeat trivial
  refine ⟨by show 1 ≤ 100000; decide, fun f fB fM => ?_⟩
  have sf : st ≠ f := fun z => by rw [← z, hM] at fM; cases fM
  have hM2 : ∀ P, updM M f P st = some isSt := fun P => by rw [updM_ne sf]; exact hM
  refine s_seq (s_for (i_rng1 ?_))
  repeat trivial
  refine ⟨_, rfl, by omega, by omega, _, _, _, wb_range, fun i σ' B' M' => (∃ u1 u2, σ' = [some (.ref st), some (.int n), some (.ref a), some (.ref b), some (.ref c), some (.ref f), u1, u2]) ∧ Ex B1 B' ∧ ∃ vs ts, M' = updM M f (is (.lst vs)) ∧ Paired (ToldT B') vs ts ∧ ts.length = i + 1 ∧ ∀ t ∈ ts, TdOk ps ks hs t, ⟨⟨_, _, rfl⟩, Ex.refl _, [v], [t], rfl, .cons hv .nil, rfl, fun q hq => by rw [List.mem_singleton.mp hq]; exact htd⟩, fun i σ' B' M' _ h => ⟨h.2.1, True.intro⟩, ?_, ?_⟩
  · rintro i x σ' B' M' B2 hi ⟨⟨u1, u2, rfl⟩, e2, vs, ts, rfl, hvs, hl, hts⟩ e3 rfl
    have hi7 : i < 6 := by omega
    have e4 := e2.trans e3
    have e5 := e1.trans e4
    have hvl := f2_len hvs
    obtain ⟨l0, x0, y0, rfl, hy0, hx0⟩ := f2_last hvs hl
    repeat trivial
    refine wr_ixM updM_same atLast ?_
    repeat trivial
    refine ⟨st, b, c, x0, y0, ps, ks, hs, ⟨⟩, ⟨⟩, ⟨⟩, rfl, hM2 _, hx0.ex e3, hts y0 hy0, e5 _ _ hb, e5 _ _ hc, p0, p1, k1, k2, h1, h2, knd, hnd, fun B3 lv lt e6 hlv hlt => ?_⟩
    repeat trivial
    refine ⟨f, rfl, ⟨_, updM_same⟩, ?_⟩
    repeat trivial
    refine ⟨st, 3, rfl, hM2 _, by omega, by omega, fun r r0 r1 => ?_⟩
    repeat trivial
    refine bD (fun _ => ?_) fun _ => ?_
    · repeat trivial
      refine ⟨_, updM_same, by omega, ?_⟩
      rw [updM_updM]
      refine ⟨⟨_, _, rfl⟩, e4.trans e6, _, ts ++ [lt], rfl, Paired.snoc (f2_mono (fun _ _ => ToldT.ex (e3.trans e6)) hvs) hlv, by rw [List.length_append, hl] <;> rfl, fun q hq => ?_⟩
      rcases List.mem_append.mp hq with h | h
      · exact hts q h
      · rw [List.mem_singleton.mp h]
        exact hlt
    · repeat trivial
      refine ⟨st, b, c, lv, lt, ps, ks, hs, ⟨⟩, ⟨⟩, ⟨⟩, rfl, hM2 _, hlv, hlt, (e5.trans e6) _ _ hb, (e5.trans e6) _ _ hc, p0, p1, k1, k2, h1, h2, knd, hnd, fun B4 lv2 lt2 e7 hlv2 hlt2 => ?_⟩
      refine ⟨_, updM_same, by omega, ?_⟩
      rw [updM_updM]
      refine ⟨⟨_, _, rfl⟩, (e4.trans e6).trans e7, _, ts ++ [lt2], rfl, Paired.snoc (f2_mono (fun _ _ => ToldT.ex ((e3.trans e6).trans e7)) hvs) hlv2, by rw [List.length_append, hl] <;> rfl, fun q hq => ?_⟩
      rcases List.mem_append.mp hq with h | h
      · exact hts q h
      · rw [List.mem_singleton.mp h]
        exact hlt2
  · rintro σ' B' M' ⟨⟨u1, u2, rfl⟩, e2, vs, ts, rfl, hvs, hl, hts⟩
    repeat trivial
    intro ok0
    have n1 := Ok.out ok0 updM_same
    exact ⟨_, M, fun H kk => kk.freeze' fM, k _ f vs ts ((e1.trans e2).trans (exNew n1)) upd_same (f2_mono (fun _ _ => ToldT.ex (exNew n1)) hvs) (by rw [hl]; omega) hts⟩
end
end Ab
/-! ## D29 -/
set_option Elab.async false
set_option linter.all false
set_option maxRecDepth 100000
set_option maxHeartbeats 4000000
namespace Ab
open PySem L2 PyProof.Rows
open Evl (Ex)
local macro_rules | `(tactic| trivial) => `(tactic| first
  | ((with_reducible apply w_var); exact rfl)
  | with_reducible refine w_c ?_ | with_reducible refine w_cons ?_ | with_reducible refine w_nil ?_ | with_reducible refine w_op ?_ | with_reducible refine w_cb ?_ | with_reducible refine w_call ?_ | with_reducible refine w_test ?_ | with_reducible refine w_B ?_
  | with_reducible refine bX ?_ | with_reducible refine bT ?_ | with_reducible refine bF ?_ | with_reducible refine zN ?_ | with_reducible refine zI ?_ | with_reducible refine zS ?_ | with_reducible refine zR ?_ | with_reducible refine zN' ?_ | with_reducible refine zI' ?_ | with_reducible refine zS' ?_ | with_reducible refine zR' ?_ | with_reducible refine bnT ?_ | with_reducible refine bnF ?_ | with_reducible refine w_and ?_ | with_reducible refine w_or ?_ | with_reducible refine w_not ?_ | with_reducible refine w_andV ?_ | with_reducible refine w_orV ?_
  | with_reducible refine w_notV ?_ | with_reducible refine w_if ?_ | with_reducible refine w_chain ?_ | with_reducible refine w_un ?_ | with_reducible refine wr_I0 ?_ | with_reducible refine wu_I ?_ | with_reducible refine wr_isN ?_ | with_reducible refine wr_notN ?_
  | with_reducible refine wr_eq rfl ?_ | with_reducible refine wr_ne rfl ?_ | with_reducible refine w_yes ?_ | with_reducible refine w_tup ?_ | with_reducible refine w_lst ?_ | with_reducible refine s_ret ?_ | with_reducible refine s_retN ?_
  | with_reducible refine s_seq ?_ | with_reducible refine s_if ?_ | with_reducible refine s_set ?_ | with_reducible refine s_dput ?_ | with_reducible refine s_app ?_ | with_reducible refine s_drop ?_ | with_reducible refine s_next ?_ | with_reducible refine s_par ?_ | with_reducible refine s_par3 ?_ | with_reducible refine s_asg ?_
  | with_reducible refine g_name ?_ | with_reducible refine gs_nil ?_ | with_reducible refine gs_cons ?_ | with_reducible refine wi_int_int ?_ | with_reducible refine wi_int_bool ?_ | with_reducible refine wi_str_str ?_ | with_reducible refine w_fld ?_ | with_reducible refine w_meth ?_ | with_reducible refine w_prop ?_ | with_reducible refine w_make ?_ | with_reducible refine w_makeK ?_ | with_reducible refine w_methN ?_ | with_reducible refine w_callN ?_ | with_reducible refine w_dget ?_ | with_reducible refine w_din ?_ | with_reducible refine w_dnin ?_ | with_reducible refine s_fld ?_ | with_reducible refine w_sl ?_ | with_reducible refine w_part ?_
  | with_reducible refine w_noPart ?_ | with_reducible refine iX ?_)

section
variable {P : Program} {w : World} {K : PySem.W.Frag} {mg : Str → Option Value} {base : Heap}
theorem mk_Contents (T : Tx K mg) : MakK P w K mg base 5 "Contents" (He.ga K "Contents") 2 ["needed", "signers"] (fun vs zs => vs ++ zs) (S_Contents___init__ K) := by
  obtain ⟨fd, F, G⟩ := ok_Contents___init__ (P := P) (w := w) (base := base) T
  obtain ⟨mv, kb⟩ := F.kbinds0 (ps := ["self", "roles", "vouchers", "needed", "signers"]) 3 ["needed", "signers"] [] (fun us mv ws => us ++ ws) (by simp) (fun q hq => by cases hq) (fun r1 _ r3 => r1.append r3) (fun D doc pm an cdv ct us mv ws l1 l2 l3 => by
    match us, ws, l1, l3 with
    | [_, _, _], [_, _], _, _ => rfl)
  exact ⟨_, fd, _, _, T.k_Contents, G, T.g_Contents, kb⟩
theorem str_nodup {ws : List Str} (h : ws.Nodup) : (ws.map (Sum.inr : Str → Key)).Nodup := List.Pairwise.map _ (fun a b n q => n (Sum.inr.inj q)) h
theorem kv_nodup {B : Hp} {kvs : List (Key × V)} {rows : List Row} (h : Paired (KvRow B) kvs rows) (n : (rows.map Row.role).Nodup) : (kvs.map (·.1)).Nodup := by
  rw [f2_keysR h]
  exact str_nodup n
def S__law_contents (K : PySem.W.Frag) : Spc := fun vs B M R => ∃ (v : V) (t : Told), vs = [v] ∧ ToldT B v t ∧ ToldOk t ∧ ∀ (B1 : Hp) (u : V), Ex B B1 → ContV K B1 u t → R u B1 M
theorem sc__law_contents : FnScope ["_law_told_here", "_law_rows", "_law_vouch", "_law_least", "_law_signing", "_law_part", "_law_likes", "_law_own"] ["_law_told_here"] (defScope (top 82)) := ⟨rfl, rfl, rfl, by decide +kernel, rfl, by decide +kernel, by decide +kernel⟩
theorem ok__law_contents (T : Tx K mg) : C8.Cal P w K mg base 8 "_law_contents" (Pm (S__law_contents K)) [] := by
  have nd := sc__law_contents.nd
  refine calOf (k := 7) (S := (S__law_contents K)) T.d__law_contents T.g__law_contents sc__law_contents (fun _ _ _ _ _ _ us hl => match us, hl with | [_], _ => rfl) (fun vs B M R ⟨_, _, e, _⟩ => by rw [e] <;> rfl) fun cdv A outer s H E hr => ?_
  have hu := hu_of hr
  refine ⟨_, (pss_cons (ps_asg (pv 0) (pg_tup rfl (pgs_cons (pg_name (i := 1) nd rfl (Or.inl rfl)) (pgs_cons (pg_name (i := 2) nd rfl (Or.inl rfl)) (pgs_cons (pg_name (i := 3) nd rfl (Or.inl rfl)) (pgs_cons (pg_name (i := 4) nd rfl (Or.inl rfl)) pgs_nil))))))
    (pss_one (ps_ret (pe_mkK (mk_Contents T) hr (by decide) (by rfl) (pa_cons (pe_callTy (call_dictP rfl) (by rfl) T.f_dict (by decide +kernel) (pa_cons (pe_lc (own := [("_law_part", 5), ("_law_likes", 6), ("_law_own", 7)]) (g := gTup K 3 (gCons (gName 5) (gCons (gName 6) (gCons (gName 7) gNil)))) rfl nd (pi_list (pv 1)) (blkOk_by (own := [("_law_part", 5), ("_law_likes", 6), ("_law_own", 7)]) (N := ["_law_told_here", "_law_rows", "_law_vouch", "_law_least", "_law_signing", "_law_part", "_law_likes", "_law_own"]) (sc := defScope (top 82)) (by decide +kernel)) (fun _ _ _ _ _ => (pg_tupK (K := K) rfl rfl (pgs_cons (pg_name (i := 5) nd rfl (Or.inl rfl)) (pgs_cons (pg_name (i := 6) nd rfl (Or.inl rfl)) (pgs_cons (pg_name (i := 7) nd rfl (Or.inl rfl)) pgs_nil))))) (fun _ _ _ _ _ => pts_nil) (fun _ _ _ _ _ => (pe_tup (pa_cons (pv 5) (pa_cons (pe_tup (pa_cons (pv 6) (pa_cons (pv 7) pa_nil))) pa_nil))))) pa_nil)) (pa_cons (pv 2) pa_nil)) (pk_cons (pv 3) (pk_cons (pv 4) pk_nil)))))), ?_⟩
  rintro vs B M R ⟨v, t, rfl, ⟨a, ra, va, sv, rs, rfl, ht1, ht2, ht3, ht4, ht5⟩, tok, k⟩
  have hrl := f2_len ht3
  have hm := tok.most
  refine wS.postO ?_
  repeat trivial
  refine g_tup (.of ht1) rfl ?_
  repeat trivial
  refine w_lc (i_list ?_)
  repeat trivial
  refine ⟨ra, _, rfl, .of ht2, _, _, _, wb_list (.of ht2), by omega, fun i acc B' => ∃ (pts : List Addr) (kvs : List (Key × V)), acc = pts.map V.ref ∧ Paired (fun p kv => SqT K B' p [kV kv.1, kv.2]) pts kvs ∧ Paired (KvRow B') kvs (t.rows.take i), ⟨[], [], rfl, .nil, .nil⟩, fun D hD hM2 => ⟨fun _ => True.intro, ?_, ?_⟩⟩
  · rintro i x acc B' B2 hi hl2 e1 ⟨pts, kvs, rfl, h1, h2⟩ e2 hx
    obtain ⟨r, hr, t1, la, rfl, hq1, hq2⟩ := f2_get ht3 hx
    have e3 := e1.trans e2
    refine g_tup (.of (e3 _ _ hq1)) rfl ?_
    repeat trivial
    refine ⟨len2, fun t2 t2B t2M => ?_⟩
    have x1 := exNew (o := .tup [V.ref la, V.str r.own]) t2B
    repeat trivial
    refine ⟨len2, fun t3 t3B t3M => ⟨rfl, ?_, ?_⟩⟩
    · exact x1.trans (exNew t3B)
    have x2 := exNew (o := .tup [V.str r.role, V.ref t2]) t3B
    have x3 := (e2.trans x1).trans x2
    refine ⟨pts ++ [t3], kvs ++ [(.inr r.role, .ref t2)], by rw [List.map_append] <;> rfl, Paired.snoc (f2_mono (fun _ _ z => Evl.ex_t x3 z) h1) (.of upd_same), ?_⟩
    rw [List.take_add_one, hr]
    exact Paired.snoc (f2_mono (fun _ _ z => z.ex x3) h2) ⟨rfl, t2, la, rfl, x2 _ _ upd_same, ((e3.trans x1).trans x2) _ _ hq2⟩
  · rintro acc B' e1 nD hl2 ⟨pts, kvs, rfl, h1, h2⟩
    rw [hrl, List.take_length] at h2
    have x1 := exNew (o := .lst (pts.map V.ref)) nD
    have h3 := f2_mono (fun _ _ z => KvRow.ex x1 z) h2
    repeat trivial
    refine wc_dictP (.of upd_same) (pairedM (fun _ _ z => Evl.ex_t x1 z) h1) fun d dB dM => ?_
    rw [merge_nil (kv_nodup h3 tok.nd)]
    have e2 := e1.trans x1
    repeat trivial
    refine ⟨rfl, rfl, fun x dx xB xM => ?_⟩
    refine ⟨x, d, va, sv, _, dx, kvs, t, rfl, rfl, xB, xM, updM_same, h3, e2 _ _ ht4, ht5.ex e2, tok, fun B3 e3 hc => ⟨rfl, ?_⟩⟩
    intro ok0
    exact ⟨B3, M, fun H kk => kk.dropM dM, k _ _ (e2.trans e3) hc⟩
def S__law_plan (K : PySem.W.Frag) : Spc := fun vs B M R => ∃ (a b : Addr) (ms : List Int) (tv : List V) (ts : List Told) (u : Unit), vs = [.ref a, .ref b] ∧ B a = some (.lst (ms.map V.int)) ∧ B b = some (.lst tv) ∧ Paired (ToldT B) tv ts ∧ ms.length = ts.length ∧ EdsOk (ms.zip ts) ∧ ∀ (B1 : Hp) (u : V), Ex B B1 → PlanV K B1 u (ms.zip ts) → R u B1 M
theorem sc__law_plan : FnScope ["_law_moments_here", "_law_tolds_here", "_law_moment", "_law_told_here"] ["_law_moments_here", "_law_tolds_here"] (defScope (top 83)) := ⟨rfl, rfl, rfl, by decide +kernel, rfl, by decide +kernel, by decide +kernel⟩
theorem ok__law_plan (T : Tx K mg) : C8.Cal P w K mg base 9 "_law_plan" (Pm (S__law_plan K)) [] := by
  have nd := sc__law_plan.nd
  refine calOf (k := 8) (S := (S__law_plan K)) T.d__law_plan T.g__law_plan sc__law_plan (fun _ _ _ _ _ _ us hl => match us, hl with | [_, _], _ => rfl) (fun vs B M R ⟨_, _, _, _, _, _, e, _⟩ => by rw [e] <;> rfl) fun cdv A outer s H E hr => ?_
  have hu := hu_of hr
  refine ⟨_, (pss_one (ps_ret (C8.pe_mk (ok_Plan___init__ T) hr (by decide) (by rfl) (pa_cons (pe_lc (own := [("_law_moment", 2), ("_law_told_here", 3)]) (g := gTup K 2 (gCons (gName 2) (gCons (gName 3) gNil))) rfl nd (pi_zip (by rfl) T.f_zip (pa_cons (pv 0) (pa_cons (pv 1) pa_nil))) (blkOk_by (own := [("_law_moment", 2), ("_law_told_here", 3)]) (N := ["_law_moments_here", "_law_tolds_here", "_law_moment", "_law_told_here"]) (sc := defScope (top 83)) (by decide +kernel)) (fun _ _ _ _ _ => (pg_tupK (K := K) rfl rfl (pgs_cons (pg_name (i := 2) nd rfl (Or.inl rfl)) (pgs_cons (pg_name (i := 3) nd rfl (Or.inl rfl)) pgs_nil)))) (fun _ _ _ _ _ => pts_nil) (fun _ _ _ _ _ => (pe_tup (pa_cons (pv 2) (pa_cons (C8.pe_c (ok__law_contents T) hr (by decide) (by rfl) (pa_cons (pv 3) pa_nil)) pa_nil))))) pa_nil)))), ?_⟩
  rintro vs B M R ⟨a, b, ms, tv, ts, _, rfl, ha, hb, htv, hl, eo, k⟩
  have htl := f2_len htv
  have hm := eo.most
  rw [List.length_zip] at hm
  repeat trivial
  refine w_lc (i_zip ?_)
  repeat trivial
  refine ⟨a, b, _, _, rfl, .of ha, .of hb, _, _, _, wb_zip (n := ms.length) (by rw [List.length_map]; omega) (.of ha) (.of hb), by omega, fun i acc B' => Paired (EdV K B') acc ((ms.zip ts).take i), .nil, fun D hD hM2 => ⟨fun _ => True.intro, ?_, ?_⟩⟩
  · rintro i x acc B' B2 hi hl2 e1 h1 e2 ⟨t0, y, z, rfl, hy, hz, ht0⟩
    rw [List.getElem?_map] at hy
    obtain ⟨m, hm2, rfl⟩ := Option.map_eq_some_iff.mp hy
    obtain ⟨t, ht, hzt⟩ := f2_get htv hz
    have hzip : (ms.zip ts)[i]? = some (m, t) := List.getElem?_zip_eq_some.mpr ⟨hm2, ht⟩
    refine g_tup (.of ht0) rfl ?_
    repeat trivial
    refine ⟨z, t, rfl, hzt.ex (e1.trans e2), eo.told _ (List.mem_of_getElem? hzip), fun B3 u e3 hu => ?_⟩
    repeat trivial
    refine ⟨len2, fun t1 t1B t1M => ⟨rfl, e3.trans (exNew t1B), ?_⟩⟩
    show Paired _ _ (List.take (i + 1) (ms.zip ts))
    rw [List.take_add_one, hzip]
    exact Paired.snoc (f2_mono (fun _ _ w => w.ex ((e2.trans e3).trans (exNew t1B))) h1) ⟨t1, u, rfl, upd_same, hu.ex (exNew t1B)⟩
  · rintro acc B' e1 nD hl2 h1
    rw [show ms.length = (ms.zip ts).length by rw [List.length_zip]; omega, List.take_length] at h1
    have x1 := exNew (o := .lst acc) nD
    repeat trivial
    intro x dx xB xM
    exact ⟨x, D, dx, _, _, _, rfl, rfl, xM, upd_same, f2_mono (fun _ _ w => w.ex x1) h1, eo, fun B3 e3 hp => ⟨rfl, k B3 _ ((e1.trans x1).trans e3) hp⟩⟩
theorem src_more {ks more : List Kd} {z : Str} {s : Option Str} (h : srcOf ks z = some s) : srcOf (ks ++ more) z = some s := by
  unfold srcOf at h ⊢
  rw [List.find?_append]
  cases e : ks.find? fun k => decide (k.name = z) with
  | none => rw [e] at h; cases h
  | some k =>
    rw [e] at h
    exact h
theorem Chn.more {ks more : List Kd} {z : Str} {l : List Str} (h : Chn ks z l) : Chn (ks ++ more) z l := by
  induction h with
  | root e => exact .root (src_more e)
  | step e _ ih => exact .step (src_more e) ih
theorem src_new {ks : List Kd} {k : Kd} (h : k.name ∉ ks.map Kd.name) : srcOf (ks ++ [k]) k.name = some k.src := by
  unfold srcOf
  rw [List.find?_append]
  have e : (ks.find? fun q => decide (q.name = k.name)) = none := by
    rw [List.find?_eq_none]
    intro q hq c
    exact h (by rw [← of_decide_eq_true c]; exact List.mem_map_of_mem hq)
  rw [e]
  simp
theorem KsOk.chn {ks : List Kd} (h : KsOk ks) : ∀ i, i ≤ ks.length → ∀ z ∈ (ks.take i).map Kd.name, ∃ l, Chn (ks.take i) z l ∧ l.length ≤ i
  | 0, _, z, hz => by simp at hz
  | i + 1, hi, z, hz => by
    obtain ⟨k, hk⟩ : ∃ k, ks[i]? = some k := ⟨ks[i]'(by omega), by simp⟩
    have et : ks.take (i + 1) = ks.take i ++ [k] := by rw [List.take_add_one, hk] <;> rfl
    rw [et] at hz ⊢
    rw [List.map_append] at hz
    rcases List.mem_append.mp hz with c | c
    · obtain ⟨l, h1, h2⟩ := h.chn i (by omega) z c
      exact ⟨l, h1.more, by omega⟩
    · rw [List.mem_singleton.mp c]
      have nn : k.name ∉ (ks.take i).map Kd.name := by
        have nd := h.nd.sublist (List.Sublist.map Kd.name (List.take_sublist (i + 1) ks))
        rw [et, List.map_append] at nd
        exact fun q => (List.nodup_append.mp nd).2.2 _ q _ (List.mem_singleton.mpr rfl) rfl
      cases es : k.src with
      | none => exact ⟨[k.name], .root (by rw [src_new nn, es]), by show 1 ≤ i + 1; omega⟩
      | some y =>
        obtain ⟨l, h1, h2⟩ := h.chn i (by omega) y (h.src i k hk y es)
        exact ⟨k.name :: l, .step (by rw [src_new nn, es]) h1.more, by show l.length + 1 ≤ i + 1; omega⟩
/-- calls over kinds -/
structure ClOk (ks : List Kd) (cs : List Cl) : Prop where
  few : cs.length ≤ 6
  c1 : ∀ c ∈ cs, c.client ∈ ks.map Kd.name
  c2 : ∀ c ∈ cs, c.server ∈ ks.map Kd.name
  c3 : ∀ c ∈ cs, 0 ≤ c.life ∧ c.life ≤ 10 ^ 30
  c4 : ∀ c ∈ cs, Wd c.role
theorem flOk {ks : List Kd} {cs : List Cl} (h : KsOk ks) (c : ClOk ks cs) : FlOk ks cs := by
  refine ⟨h.nd, by have := h.few; omega, h.ok, fun z hz => ?_, c.few, c.c1, c.c2, c.c3, c.c4⟩
  obtain ⟨l, h1, h2⟩ := h.chn ks.length (Nat.le_refl _) z (by rw [List.take_length]; exact hz)
  rw [List.take_length] at h1
  exact ⟨l, h1, by have := h.few; omega⟩
def MX (M M1 : Mu) : Prop := ∀ b P, M b = some P → M1 b = some P
theorem FleetAt.mx {B B1 : Hp} {M M1 : Mu} {a kd rd : Addr} {ks : List Kd} {cs : List Cl} (h : FleetAt K B M a kd rd ks cs) (e : Ex B B1) (m : MX M M1) : FleetAt K B1 M1 a kd rd ks cs := by
  obtain ⟨⟨dx, h1⟩, ⟨kvs, h2, h3⟩, ⟨rs, h4, h5⟩⟩ := h
  exact ⟨⟨dx, e _ _ h1⟩, ⟨kvs, m _ _ h2, f2_mono (fun _ _ z => z.ex e) h3⟩, ⟨rs, m _ _ h4, f2_mono (fun _ _ z => z.ex e) h5⟩⟩
def S__law_fleet (K : PySem.W.Frag) : Spc := fun vs B M R => ∃ (p q : Addr) (kv cv : List V) (ks : List Kd) (cs : List Cl) (u : Unit), vs = [.ref p, .ref q] ∧ B p = some (.lst kv) ∧ Paired (KdT B) kv ks ∧ B q = some (.lst cv) ∧ Paired (CallV B) cv cs ∧ KsOk ks ∧ ClOk ks cs ∧ ∀ (B1 : Hp) (M1 : Mu) (a kd rd : Addr), Ex B B1 → MX M M1 → FleetAt K B1 M1 a kd rd ks cs → R (.ref a) B1 M1
theorem sc__law_fleet : FnScope ["_law_kinds_here", "_law_calls_here", "_law_fleet_here", "_law_name", "_law_span", "_law_aged", "_law_feeder", "_law_part", "_law_one", "_law_other", "_law_keep"] ["_law_kinds_here", "_law_calls_here"] (defScope (top 84)) := ⟨rfl, rfl, rfl, by decide +kernel, rfl, by decide +kernel, by decide +kernel⟩
theorem ok__law_fleet (T : Tx K mg) : C8.Cal P w K mg base 9 "_law_fleet" (Pm (S__law_fleet K)) [] := by
  have nd := sc__law_fleet.nd
  refine calOf (k := 8) (S := (S__law_fleet K)) T.d__law_fleet T.g__law_fleet sc__law_fleet (fun _ _ _ _ _ _ us hl => match us, hl with | [_, _], _ => rfl) (fun vs B M R ⟨_, _, _, _, _, _, _, e, _⟩ => by rw [e] <;> rfl) fun cdv A outer s H E hr => ?_
  have hu := hu_of hr
  refine ⟨_, (pss_cons (ps_set (i := 2) nd rfl (Or.inl rfl) (pe_mk0 (ok_Fleet___init__ T) hr (by decide) (by rfl)))
    (pss_cons (ps_for PassesOwn.never rfl (pi_list (pv 0)) (pg_tup rfl (pgs_cons (pg_name (i := 3) nd rfl (Or.inl rfl)) (pgs_cons (pg_name (i := 4) nd rfl (Or.inl rfl)) (pgs_cons (pg_name (i := 5) nd rfl (Or.inl rfl)) (pgs_cons (pg_name (i := 6) nd rfl (Or.inl rfl)) pgs_nil)))))
      (pss_one (ps_asg (pe_mkK0 (mk_Kind T) hr (by decide) (by rfl) (pk_cons (pv 4) (pk_cons (pv 5) (pk_cons (pv 6) pk_nil)))) (pg_sub (pv 2) (pv 3) (set_own (ok_Fleet___setitem__ T) (T.ex 12 (by rfl)) hr (by decide))))))
    (pss_cons (ps_for PassesOwn.never rfl (pi_list (pv 1)) (pg_tup rfl (pgs_cons (pg_name (i := 7) nd rfl (Or.inl rfl)) (pgs_cons (pg_name (i := 8) nd rfl (Or.inl rfl)) (pgs_cons (pg_name (i := 9) nd rfl (Or.inl rfl)) (pgs_cons (pg_name (i := 10) nd rfl (Or.inl rfl)) pgs_nil)))))
      (pss_one (ps_expr (pe_methN (mt_Fleet_add_call T) hr (by decide) (pv 2) (pa_cons (pv 7) (pa_cons (pv 8) (pa_cons (pv 9) pa_nil))) (pk_cons (pv 10) pk_nil)))))
    (pss_one (ps_ret (pv 2)))))), ?_⟩
  rintro vs B M R ⟨p, q, kv, cv, ks, cs, _, rfl, hp, hkv, hq, hcv, ko, co, k⟩
  have hkl := f2_len hkv
  have hcl := f2_len hcv
  have hk4 := ko.few
  have hc6 := co.few
  repeat trivial
  intro x dx xB xM
  refine ⟨x, dx, M, rfl, rfl, xM, fun B1 kd rd e1 nkr kM rM fl => ⟨rfl, ?_⟩⟩
  refine s_seq (s_for (i_list ?_))
  repeat trivial
  refine ⟨p, _, rfl, .of (e1 _ _ hp), _, _, _, wb_list (.of (e1 _ _ hp)), fun i σ' B' M' => (∃ u1 u2 u3 u4 u5 u6 u7 u8, σ' = [some (.ref p), some (.ref q), some (.ref x), u1, u2, u3, u4, u5, u6, u7, u8]) ∧ Ex B1 B' ∧ (∀ b, b ≠ kd → b ≠ rd → M' b = M b) ∧ FleetAt K B' M' x kd rd (ks.take i) [], ⟨⟨_, _, _, _, _, _, _, _, rfl⟩, Ex.refl _, fun b n1 n2 => by rw [updM_ne n2, updM_ne n1], fl⟩, fun i σ' B' M' _ h => ⟨h.2.1, True.intro⟩, ?_, ?_⟩
  · rintro i y σ' B' M' B2 hi ⟨⟨u1, u2, u3, u4, u5, u6, u7, u8, rfl⟩, e2, mx, fl2⟩ e3 hy
    obtain ⟨kx, hkx, t0, rfl, ht0⟩ := f2_get hkv hy
    have e4 := (e1.trans e2).trans e3
    have hkm := List.mem_of_getElem? hkx
    have kok := ko.ok kx hkm
    have hik : i < ks.length := by omega
    refine g_tup (.of (e4 _ _ ht0)) rfl ?_
    repeat trivial
    refine ⟨rfl, rfl, fun z dz zB zM => ?_⟩
    refine ⟨z, dz, _, kx, rfl, rfl, zM, kok, fun B3 e5 hkv3 => ⟨rfl, ?_⟩⟩
    have fl3 := fl2.mx (e3.trans e5) (fun _ _ h => h)
    obtain ⟨dxx, hx1⟩ := fl3.at_
    have et : ks.take (i + 1) = ks.take i ++ [kx] := by rw [List.take_add_one, hkx] <;> rfl
    have nd1 : ((ks.take (i + 1)).map Kd.name).Nodup := ko.nd.sublist (List.Sublist.map Kd.name (List.take_sublist (i + 1) ks))
    refine g_ownSet ?_
    repeat trivial
    refine ⟨x, _, _, rfl, hx1, ?_⟩
    refine ⟨x, kd, rd, ks.take i, [], _, kx, rfl, fl3, hkv3, kok, ko.nd.sublist (List.Sublist.map Kd.name (List.take_sublist i ks)), ?_, by rw [List.length_take]; omega, fun w hw => ko.src i kx hkx w hw, ?_, fun B4 kvs e6 fl4 => ?_⟩
    · rw [et, List.map_append] at nd1
      exact fun w => (List.nodup_append.mp nd1).2.2 _ w _ (List.mem_singleton.mpr rfl) rfl
    · rw [← et]
      intro w hw
      obtain ⟨l, h1, h2⟩ := ko.chn (i + 1) (by omega) w hw
      exact ⟨l, h1, by omega⟩
    · rw [← et] at fl4
      refine ⟨⟨_, _, _, _, _, _, _, _, rfl⟩, ((e2.trans e3).trans e5).trans e6, fun b n1 n2 => by rw [updM_ne n1]; exact mx b n1 n2, fl4⟩
  · rintro σ' B' M' ⟨⟨u1, u2, u3, u4, u5, u6, u7, u8, rfl⟩, e2, mx, fl2⟩
    rw [hkl, List.take_length] at fl2
    have e3 := e1.trans e2
    refine s_seq (s_for (i_list ?_))
    repeat trivial
    refine ⟨q, _, rfl, .of (e3 _ _ hq), _, _, _, wb_list (.of (e3 _ _ hq)), fun i σ' B2 M' => (∃ u1 u2 u3 u4 u5 u6 u7 u8, σ' = [some (.ref p), some (.ref q), some (.ref x), u1, u2, u3, u4, u5, u6, u7, u8]) ∧ Ex B' B2 ∧ (∀ b, b ≠ kd → b ≠ rd → M' b = M b) ∧ FleetAt K B2 M' x kd rd ks (cs.take i), ⟨⟨_, _, _, _, _, _, _, _, rfl⟩, Ex.refl _, mx, fl2⟩, fun i σ' B' M' _ h => ⟨h.2.1, True.intro⟩, ?_, ?_⟩
    · rintro i y σ' B2 M' B3 hi ⟨⟨u1, u2, u3, u4, u5, u6, u7, u8, rfl⟩, e4, mx2, fl3⟩ e5 hy
      obtain ⟨cx, hcx, t0, rfl, ht0⟩ := f2_get hcv hy
      have e6 := (e3.trans e4).trans e5
      have hcm := List.mem_of_getElem? hcx
      have hic : i < cs.length := by omega
      refine g_tup (.of (e6 _ _ ht0)) rfl ?_
      have fl4 := fl3.mx e5 (fun _ _ h => h)
      obtain ⟨dxx, hx1⟩ := fl4.at_
      repeat trivial
      refine ⟨x, _, _, rfl, hx1, (lk_past (by decide +kernel)).trans ((lk_past (by decide +kernel)).trans rfl), ?_⟩
      repeat trivial
      refine ⟨rfl, rfl, ?_⟩
      have wn : ∀ z, z ∈ ks.map Kd.name → Wd z := fun z hz => by
        obtain ⟨w, hw, rfl⟩ := List.mem_map.mp hz
        exact (ko.ok w hw).n
      refine ⟨x, kd, rd, ks, cs.take i, cx.role, cx.client, cx.server, cx.life, rfl, fl4, co.c4 cx hcm, wn _ (co.c1 cx hcm), wn _ (co.c2 cx hcm), co.c1 cx hcm, co.c2 cx hcm, (co.c3 cx hcm).1, (co.c3 cx hcm).2, by rw [List.length_take]; omega, fun B4 rs v e7 fl5 => ?_⟩
      refine ⟨⟨_, _, _, _, _, _, _, _, rfl⟩, (e4.trans e5).trans e7, fun b n1 n2 => by rw [updM_ne n2]; exact mx2 b n1 n2, ?_⟩
      have et : cs.take (i + 1) = cs.take i ++ [cx] := by rw [List.take_add_one, hcx] <;> rfl
      rw [et]
      exact fl5
    · rintro σ' B2 M' ⟨⟨u1, u2, u3, u4, u5, u6, u7, u8, rfl⟩, e4, mx2, fl3⟩
      rw [hcl, List.take_length] at fl3
      repeat trivial
      refine k B2 M' x kd rd (e3.trans e4) (fun b P hb => ?_) fl3
      rw [mx2 b (fun z => by rw [z, kM] at hb; cases hb) (fun z => by rw [z, rM] at hb; cases hb)]
      exact hb
def ren (f : Str → Str) (t : Told) : Told := ⟨t.rows.map fun r => ⟨f r.role, r.likes, r.own⟩, t.vouch, t.least, t.sign⟩
def S__law_led_told (K : PySem.W.Frag) : Spc := fun vs B M R => ∃ (d : Addr) (v : V) (kvs : List (Key × V)) (t : Told) (f : Str → Str) (u : Unit), vs = [.ref d, v] ∧ B d = some (.dK kvs) ∧ ToldT B v t ∧ t.rows.length ≤ 100 ∧ (∀ r ∈ t.rows, valV kvs (.inr r.role) = some (.str (f r.role))) ∧ ∀ (B1 : Hp) (u : V), Ex B B1 → ToldT B1 u (ren f t) → R u B1 M
theorem sc__law_led_told : FnScope ["_law_names", "_law_told_here", "_law_rows", "_law_part", "_law_likes", "_law_own"] ["_law_names", "_law_told_here"] (defScope (top 88)) := ⟨rfl, rfl, rfl, by decide +kernel, rfl, by decide +kernel, by decide +kernel⟩
theorem ok__law_led_told (T : Tx K mg) : C8.Cal P w K mg base 2 "_law_led_told" (Pm (S__law_led_told K)) [] := by
  have nd := sc__law_led_told.nd
  refine calOf (k := 1) (S := (S__law_led_told K)) T.d__law_led_told T.g__law_led_told sc__law_led_told (fun _ _ _ _ _ _ us hl => match us, hl with | [_, _], _ => rfl) (fun vs B M R ⟨_, _, _, _, _, _, e, _⟩ => by rw [e] <;> rfl) fun cdv A outer s H E hr => ?_
  have hu := hu_of hr
  refine ⟨_, (pss_cons (ps_setLc (i := 2) (own := [("_law_part", 3), ("_law_likes", 4), ("_law_own", 5)]) (g := gTup K 3 (gCons (gName 3) (gCons (gName 4) (gCons (gName 5) gNil)))) rfl nd rfl rfl (sw_true rfl rfl rfl (by decide +kernel)) (pi_list (pe_ix ix_tup (pv 1) pe_int (fun _ _ => rfl))) (blkOk_by (own := [("_law_part", 3), ("_law_likes", 4), ("_law_own", 5)]) (N := ["_law_names", "_law_told_here", "_law_rows", "_law_part", "_law_likes", "_law_own"]) (sc := defScope (top 88)) (by decide +kernel)) (fun _ _ _ _ _ => (pg_tupK (K := K) rfl rfl (pgs_cons (pg_name (i := 3) nd rfl (Or.inl rfl)) (pgs_cons (pg_name (i := 4) nd rfl (Or.inl rfl)) (pgs_cons (pg_name (i := 5) nd rfl (Or.inl rfl)) pgs_nil))))) (fun _ _ _ _ _ => pts_nil) (fun _ _ _ _ _ => (pe_tup (pa_cons (pe_dget hu (pv 0) (pv 3) (fun _ _ => rfl)) (pa_cons (pv 4) (pa_cons (pv 5) pa_nil))))))
    (pss_one (ps_ret (pe_tup (pa_cons (pv 2) (pa_cons (pe_ix ix_tup (pv 1) pe_int (fun _ _ => rfl)) (pa_cons (pe_ix ix_tup (pv 1) pe_int (fun _ _ => rfl)) (pa_cons (pe_ix ix_tup (pv 1) pe_int (fun _ _ => rfl)) pa_nil)))))))), ?_⟩
  rintro vs B M R ⟨d, v, kvs, t, f, _, rfl, hd, ⟨a, ra, va, sv, rs, rfl, ht1, ht2, ht3, ht4, ht5⟩, hr, hf, k⟩
  have hrl := f2_len ht3
  refine s_seq (s_set (w_lc (i_list ?_)))
  repeat trivial
  refine wr_ixT (.of ht1) (v := .ref ra) (by rfl) ?_
  refine ⟨ra, _, rfl, .of ht2, _, _, _, wb_list (.of ht2), by omega, fun i acc B' => Paired (RowT B') acc ((ren f t).rows.take i), .nil, fun D hD hM2 => ⟨fun _ => True.intro, ?_, ?_⟩⟩
  · rintro i x acc B' B2 hi hl2 e1 h1 e2 hx
    obtain ⟨r, hr, t1, la, rfl, hq1, hq2⟩ := f2_get ht3 hx
    have e3 := e1.trans e2
    refine g_tup (.of (e3 _ _ hq1)) rfl ?_
    repeat trivial
    refine ⟨d, kvs, .inr r.role, _, rfl, rfl, .inl (e3 _ _ hd), hf r (List.mem_of_getElem? hr), ?_⟩
    repeat trivial
    refine ⟨len3, fun t3 t3B t3M => ⟨rfl, exNew t3B, ?_⟩⟩
    have x2 := exNew (o := .tup [V.str (f r.role), V.ref la, V.str r.own]) t3B
    have hr2 : (ren f t).rows[i]? = some ⟨f r.role, r.likes, r.own⟩ := by
      show (t.rows.map _)[i]? = _
      rw [List.getElem?_map, hr]
      rfl
    show Paired _ _ (List.take (i + 1) (ren f t).rows)
    rw [List.take_add_one, hr2]
    exact Paired.snoc (f2_mono (fun _ _ z => z.ex (e2.trans x2)) h1) ⟨t3, la, rfl, upd_same, (e3.trans x2) _ _ hq2⟩
  · rintro acc B' e1 nD hl2 h1
    rw [show rs.length = (ren f t).rows.length by rw [hrl]; exact (List.length_map ..).symm, List.take_length] at h1
    have x1 := exNew (o := .lst acc) nD
    have e2 := e1.trans x1
    repeat trivial
    refine wr_ixT (.of (e2 _ _ ht1)) (v := .ref va) (by rfl) ?_
    repeat trivial
    refine wr_ixT (.of (e2 _ _ ht1)) (v := .int (t.least : Nat)) (by rfl) ?_
    repeat trivial
    refine wr_ixT (.of (e2 _ _ ht1)) (v := sv) (by rfl) ?_
    repeat trivial
    refine ⟨len4, fun t2 t2B t2M => ?_⟩
    have x2 := exNew (o := .tup [V.ref D, V.ref va, V.int (t.least : Nat), sv]) t2B
    exact k _ _ (e2.trans x2) ⟨t2, D, va, sv, acc, rfl, upd_same, x2 _ _ upd_same, f2_mono (fun _ _ z => z.ex (x1.trans x2)) h1, (e2.trans x2) _ _ ht4, ht5.ex (e2.trans x2)⟩
end
end Ab
/-! ## D30 -/
set_option Elab.async false
set_option linter.all false
set_option maxRecDepth 100000
set_option maxHeartbeats 4000000
namespace Ab
open PySem L2 PyProof.Rows
open Evl (Ex)
local macro_rules | `(tactic| trivial) => `(tactic| first
  | ((with_reducible apply w_var); exact rfl)
  | with_reducible refine w_c ?_ | with_reducible refine w_cons ?_ | with_reducible refine w_nil ?_ | with_reducible refine w_op ?_ | with_reducible refine w_cb ?_ | with_reducible refine w_call ?_ | with_reducible refine w_test ?_ | with_reducible refine w_B ?_
  | with_reducible refine bX ?_ | with_reducible refine bT ?_ | with_reducible refine bF ?_ | with_reducible refine zN ?_ | with_reducible refine zI ?_ | with_reducible refine zS ?_ | with_reducible refine zR ?_ | with_reducible refine zN' ?_ | with_reducible refine zI' ?_ | with_reducible refine zS' ?_ | with_reducible refine zR' ?_ | with_reducible refine bnT ?_ | with_reducible refine bnF ?_ | with_reducible refine w_and ?_ | with_reducible refine w_or ?_ | with_reducible refine w_not ?_ | with_reducible refine w_andV ?_ | with_reducible refine w_orV ?_
  | with_reducible refine w_notV ?_ | with_reducible refine w_if ?_ | with_reducible refine w_chain ?_ | with_reducible refine w_un ?_ | with_reducible refine wr_I0 ?_ | with_reducible refine wu_I ?_ | with_reducible refine wr_isN ?_ | with_reducible refine wr_notN ?_
  | with_reducible refine wr_eq rfl ?_ | with_reducible refine wr_ne rfl ?_ | with_reducible refine w_yes ?_ | with_reducible refine w_tup ?_ | with_reducible refine w_lst ?_ | with_reducible refine s_ret ?_ | with_reducible refine s_retN ?_
  | with_reducible refine s_seq ?_ | with_reducible refine s_if ?_ | with_reducible refine s_set ?_ | with_reducible refine s_dput ?_ | with_reducible refine s_app ?_ | with_reducible refine s_drop ?_ | with_reducible refine s_next ?_ | with_reducible refine s_par ?_ | with_reducible refine s_par3 ?_ | with_reducible refine s_asg ?_
  | with_reducible refine g_name ?_ | with_reducible refine gs_nil ?_ | with_reducible refine gs_cons ?_ | with_reducible refine wi_int_int ?_ | with_reducible refine wi_int_bool ?_ | with_reducible refine wi_str_str ?_ | with_reducible refine w_fld ?_ | with_reducible refine w_meth ?_ | with_reducible refine w_prop ?_ | with_reducible refine w_make ?_ | with_reducible refine w_makeK ?_ | with_reducible refine w_methN ?_ | with_reducible refine w_callN ?_ | with_reducible refine w_dget ?_ | with_reducible refine w_din ?_ | with_reducible refine w_dnin ?_ | with_reducible refine s_fld ?_ | with_reducible refine w_sl ?_ | with_reducible refine w_part ?_
  | with_reducible refine w_noPart ?_ | with_reducible refine iX ?_)

section
variable {P : Program} {w : World} {K : PySem.W.Frag} {mg : Str → Option Value} {base : Heap}
def S__law_stream (K : PySem.W.Frag) : Spc := fun vs B M R => ∃ (a : Addr) (n : Nat) (xs : List Int), vs = [.ref a, .int n] ∧ SqL K B a (xs.map V.int) ∧ n ≤ 100 ∧ ∀ p, B p = none → M p = none → R (.ref p) B (updM M p isSt)
theorem sc__law_stream : FnScope ["_law_script", "_law_k", "_law_cell", "_law_size", "_law_mixed"] ["_law_script", "_law_k"] (defScope (top 70)) := ⟨rfl, rfl, rfl, by decide +kernel, rfl, by decide +kernel, by decide +kernel⟩
theorem ok__law_stream (T : Tx K mg) : C8.Cal P w K mg base 1 "_law_stream" (Pm (S__law_stream K)) [] := by
  have nd := sc__law_stream.nd
  refine calOf (k := 0) (S := (S__law_stream K)) T.d__law_stream T.g__law_stream sc__law_stream (fun _ _ _ _ _ _ us hl => match us, hl with | [_, _], _ => rfl) (fun vs B M R ⟨_, _, _, e, _⟩ => by rw [e] <;> rfl) fun cdv A outer s H E hr => ?_
  have hu := hu_of hr
  refine ⟨_, (pss_cons (ps_set (i := 2) nd rfl (Or.inl rfl) pe_int)
    (pss_cons (ps_if (pt_cmpR op_lt (pv 1) (pe_callB call_len_seq (by rfl) T.f_len (by decide +kernel) (pa_cons (pv 0) pa_nil)) (nomark _))
      (pss_one (ps_set (i := 2) nd rfl (Or.inl rfl) (pe_ix ix_list (pv 0) (pv 1) (fun _ _ => rfl))))
      pss_nil)
    (pss_cons (ps_set (i := 3) nd rfl (Or.inl rfl) (pe_callB (call_max2 rfl) (by rfl) T.f_max (by decide +kernel) (pa_cons (pv 2) (pa_cons (pe_op op_sub (pe_un un_neg pe_int) (pv 2)) pa_nil))))
    (pss_cons (ps_set (i := 4) nd rfl (Or.inl rfl) (pe_op op_mod (pe_op op_mul (pe_op op_add (pe_op op_add (pe_op op_add (pe_op op_mod (pv 3) pe_int) (pe_op op_mul (pe_op op_mul pe_int (pv 1)) (pv 1))) (pe_op op_mul pe_int (pv 1))) pe_int) pe_int) pe_int))
    (pss_one (ps_ret (pe_lst (pa_cons (pe_op op_mul (pv 3) (pe_callTy call_int1 (by rfl) T.f_int (by decide +kernel) (pa_cons (pe_cmpR op_ge (pv 3) (pe_op op_pow pe_int pe_int) (nomark _)) pa_nil))) (pa_cons (pv 4) pa_nil))))))))), ?_⟩
  rintro vs B M R ⟨a, n, xs, rfl, ha, hn, k⟩
  refine s_seq (s_set (w_c ?_))
  refine s_mid (fun σ' B5 M5 => ∃ c : Int, σ' = [some (.ref a), some (.int n), some (.int c), none, none] ∧ B5 = B ∧ M5 = M) ?_ ?_
  · repeat trivial
    refine wc_lenL ha ?_
    rw [List.length_map]
    repeat trivial
    refine bD (fun c => ?_) fun c => ?_
    · have hl : n < xs.length := by omega
      repeat trivial
      refine wr_ixL ha (atN (v := .int (xs[n]'hl)) (by rw [List.getElem?_map, List.getElem?_eq_getElem hl] <;> rfl)) ?_
      exact ⟨_, rfl, rfl, rfl⟩
    · repeat trivial
      exact ⟨0, rfl, rfl, rfl⟩
  · rintro σ' B5 M5 ⟨c, rfl, rfl, rfl⟩
    repeat trivial
    refine wc_max2 ?_
    repeat trivial
    generalize hz : (if (-1 - c) > c then (-1 - c) else c : Int) = z
    have z0 : 0 ≤ z := by
      rw [← hz]
      split <;> omega
    refine wr_I (by omega) ?_
    repeat trivial
    refine wr_I (.inl ⟨by omega, by omega⟩) ?_
    repeat trivial
    refine wr_I (.inr ⟨by omega, by omega⟩) ?_
    repeat trivial
    refine wr_I (.inl ⟨by omega, by omega⟩) ?_
    repeat trivial
    refine wr_I (.inr ⟨by omega, by omega⟩) ?_
    repeat trivial
    refine wr_I (by omega) ?_
    generalize hm : ((z % 2147483629 + 7919 * (n : Int) * n + 31 * n + 17) * 48271 : Int) = m
    have m0 := Int.emod_nonneg m (show (2147483647 : Int) ≠ 0 by omega)
    have m1 := Int.emod_lt_of_pos m (show (0 : Int) < 2147483647 by omega)
    refine s_ret (w_lstM isSt ?_)
    repeat trivial
    refine wr_I ⟨by omega, by omega, by decide +kernel⟩ ?_
    repeat trivial
    refine wc_intB ?_
    refine wr_I (.inr ⟨by split <;> omega, by split <;> omega⟩) ?_
    repeat trivial
    refine ⟨by show 2 ≤ 100000; decide, ⟨_, _, rfl, ?_, m0, m1⟩, fun p pB pM => k p pB pM⟩
    split
    · rw [Int.mul_one]
      exact z0
    · rw [Int.mul_zero]
      omega
/-- what a draw of a whole plan gives -/
structure LargeOk (ks : List Kd) (cs : List Cl) (ms : List Int) (ts : List Told) (ps : List Str) : Prop where
  ko : KsOk ks
  k1 : 1 ≤ ks.length
  co : ClOk ks cs
  mo : MoOk ms
  len : ms.length = ts.length
  few : 1 ≤ ms.length
  most : ms.length ≤ 7
  td : ∀ t ∈ ts, ToldOk t
  roles : ∀ t ∈ ts, t.rows.map Row.role = ps
  cr : ∀ c ∈ cs, c.role ∈ ps
  pn : ps.Nodup
  p3 : ps.length ≤ 3
  pw : ∀ z ∈ ps, Wd z
def LargeV (B : Hp) (p kp cp mp tp : Addr) (kv cv tv : List V) (ks : List Kd) (cs : List Cl) (ms : List Int) (ts : List Told) : Prop :=
  B p = some (.lst [.ref kp, .ref cp, .ref mp, .ref tp]) ∧ B kp = some (.lst kv) ∧ Paired (KdT B) kv ks ∧ B cp = some (.lst cv) ∧ Paired (CallV B) cv cs ∧ B mp = some (.lst (ms.map V.int)) ∧ B tp = some (.lst tv) ∧ Paired (ToldT B) tv ts
theorem toldOk {ps ks hs : List Str} {t : Told} (h : TdOk ps ks hs t) (p1 : 1 ≤ ps.length) (p3 : ps.length ≤ 3) (pn : ps.Nodup) (pw : ∀ z ∈ ps, Wd z) (k4 : ks.length ≤ 4) (kw : ∀ z ∈ ks, Wd z) (h3 : hs.length ≤ 3) (hw : ∀ z ∈ hs, Wd z) : ToldOk t := by
  have hl : t.rows.length = ps.length := by rw [← h.roles, List.length_map]
  refine ⟨by omega, by omega, fun r hr => ?_, by rw [h.roles]; exact pn, fun z hz => hw z (h.vouch.2 z hz), h.vouch.1, by have := h.vouch.len; omega, by have := h.least; omega, fun ws hs => ⟨fun z hz => hw z ((h.sign ws hs).2 z hz), (h.sign ws hs).1, by have := (h.sign ws hs).len; omega⟩⟩
  have ro := h.rows r hr
  have hm : r.role ∈ ps := by rw [← h.roles]; exact List.mem_map_of_mem hr
  have ll := ro.likes.len
  exact ⟨pw _ hm, fun z hz => kw z (ro.likes.2 z hz), ro.likes.1, by omega, kw _ ro.own⟩
def S__law_large (K : PySem.W.Frag) : Spc := fun vs B M R => ∃ (st : Addr) (u : Unit), vs = [.ref st, .int 7] ∧ M st = some isSt ∧ ∀ (B1 : Hp) (p kp cp mp tp : Addr) (kv cv tv : List V) (ks : List Kd) (cs : List Cl) (ms : List Int) (ts : List Told) (ps : List Str), Ex B B1 → LargeV B1 p kp cp mp tp kv cv tv ks cs ms ts → LargeOk ks cs ms ts ps → R (.ref p) B1 M
theorem sc__law_large : FnScope ["_law_stream_here", "_law_many", "_law_parts", "_law_keys", "_law_hands", "_law_far", "_law_kinds_here", "_law_calls_here", "_law_moments_here"] ["_law_stream_here", "_law_many"] (defScope (top 85)) := ⟨rfl, rfl, rfl, by decide +kernel, rfl, by decide +kernel, by decide +kernel⟩
theorem ok__law_large (T : Tx K mg) : C8.Cal P w K mg base 6 "_law_large" (Pm (S__law_large K)) [] := by
  have nd := sc__law_large.nd
  refine calOf (k := 5) (S := (S__law_large K)) T.d__law_large T.g__law_large sc__law_large (fun _ _ _ _ _ _ us hl => match us, hl with | [_, _], _ => rfl) (fun vs B M R ⟨_, _, e, _⟩ => by rw [e] <;> rfl) fun cdv A outer s H E hr => ?_
  have hu := hu_of hr
  refine ⟨_, (pss_cons (ps_par3 (i := 2) (j := 3) (l := 4) rfl nd rfl rfl rfl (by decide) (by decide) (by decide) rfl rfl rfl (pa_cons (C8.pe_c (ok__law_words T) hr (by decide) (by rfl) (pa_cons (pv 0) (pa_cons (pe_op op_add pe_int (C8.pe_c (ok__law_draw T) hr (by decide) (by rfl) (pa_cons (pv 0) (pa_cons pe_int pa_nil)))) pa_nil))) (pa_cons (C8.pe_c (ok__law_words T) hr (by decide) (by rfl) (pa_cons (pv 0) (pa_cons pe_int pa_nil))) (pa_cons (C8.pe_c (ok__law_words T) hr (by decide) (by rfl) (pa_cons (pv 0) (pa_cons pe_int pa_nil))) pa_nil))) rfl)
    (pss_cons (ps_set (i := 5) nd rfl (Or.inl rfl) (C8.pe_c (ok__law_choose T) hr (by decide) (by rfl) (pa_cons (pv 0) (pa_cons (pe_lst (pa_cons pe_int (pa_cons pe_int (pa_cons pe_int (pa_cons (pe_op op_pow pe_int pe_int) pa_nil))))) pa_nil))))
    (pss_cons (ps_set (i := 6) nd rfl (Or.inl rfl) (C8.pe_c (ok__law_kinds T) hr (by decide) (by rfl) (pa_cons (pv 0) (pa_cons (pe_op op_add pe_int (C8.pe_c (ok__law_draw T) hr (by decide) (by rfl) (pa_cons (pv 0) (pa_cons pe_int pa_nil)))) (pa_cons (pv 5) (pa_cons (pv 5) pa_nil))))))
    (pss_cons (ps_set (i := 7) nd rfl (Or.inl rfl) (C8.pe_c (ok__law_calls T) hr (by decide) (by rfl) (pa_cons (pv 0) (pa_cons (pe_op op_add pe_int (C8.pe_c (ok__law_draw T) hr (by decide) (by rfl) (pa_cons (pv 0) (pa_cons pe_int pa_nil)))) (pa_cons (pv 2) (pa_cons (pv 6) (pa_cons (pv 5) pa_nil)))))))
    (pss_cons (ps_set (i := 8) nd rfl (Or.inl rfl) (C8.pe_c (ok__law_moments T) hr (by decide) (by rfl) (pa_cons (pv 0) (pa_cons (pe_op op_add pe_int (C8.pe_c (ok__law_draw T) hr (by decide) (by rfl) (pa_cons (pv 0) (pa_cons (pv 1) pa_nil)))) (pa_cons (C8.pe_c (ok__law_choose T) hr (by decide) (by rfl) (pa_cons (pv 0) (pa_cons (pe_lst (pa_cons (pv 5) (pa_cons (pe_op op_mul pe_int (pv 5)) (pa_cons pe_int pa_nil)))) pa_nil))) pa_nil)))))
    (pss_one (ps_ret (pe_lst (pa_cons (pv 6) (pa_cons (pv 7) (pa_cons (pv 8) (pa_cons (C8.pe_c (ok__law_tolds T) hr (by decide) (by rfl) (pa_cons (pv 0) (pa_cons (pe_callB call_len_seq (by rfl) T.f_len (by decide +kernel) (pa_cons (pv 8) pa_nil)) (pa_cons (pv 2) (pa_cons (pv 3) (pa_cons (pv 4) pa_nil)))))) pa_nil)))))))))))), ?_⟩
  rintro vs B M R ⟨st, _, rfl, hM, k⟩
  repeat trivial
  refine ⟨st, 3, rfl, hM, by omega, by omega, fun r r0 r1 => ?_⟩
  repeat trivial
  refine ⟨st, (1 + r).toNat, by rw [show (((1 + r).toNat : Nat) : Int) = 1 + r by omega] <;> rfl, hM, by omega, fun B1 pa ps e1 hpa hpl hpw hpn => ?_⟩
  repeat trivial
  refine ⟨st, 4, rfl, hM, by omega, fun B2 ka keys e2 hka hkl hkw hkn => ?_⟩
  repeat trivial
  refine ⟨st, 3, rfl, hM, by omega, fun B3 ha hands e3 hha hhl hhw hhn => ?_⟩
  repeat trivial
  refine ⟨_, _, _, rfl, ?_⟩
  have e13 := (e1.trans e2).trans e3
  repeat trivial
  refine wr_I ⟨by omega, by omega, by decide +kernel⟩ ?_
  repeat trivial
  refine ⟨by show 4 ≤ 100000; decide, fun l1 l1B l1M => ?_⟩
  have x1 := exNew (o := .lst [V.int 4, V.int 4, V.int 30, V.int (10 ^ (30 : Int).toNat)]) l1B
  repeat trivial
  refine ⟨st, _, fun x => ∃ i : Int, x = .int i ∧ 4 ≤ i ∧ i ≤ 10 ^ 30, rfl, hM, .inl ⟨l1, _, rfl, upd_same, by show 0 < 4; decide, by show 4 ≤ 100000; decide, fun x hx => ?_⟩, ?_⟩
  · rcases List.mem_cons.mp hx with h | hx
    · exact ⟨4, h, by omega, by omega⟩
    rcases List.mem_cons.mp hx with h | hx
    · exact ⟨4, h, by omega, by omega⟩
    rcases List.mem_cons.mp hx with h | hx
    · exact ⟨30, h, by omega, by omega⟩
    · exact ⟨10 ^ 30, List.mem_singleton.mp hx, by decide +kernel, Int.le_refl _⟩
  rintro x ⟨far, rfl, f1, f2⟩
  repeat trivial
  refine ⟨st, 4, rfl, hM, by omega, by omega, fun r2 r20 r21 => ?_⟩
  repeat trivial
  refine ⟨st, (1 + r2).toNat, far, far, by rw [show (((1 + r2).toNat : Nat) : Int) = 1 + r2 by omega] <;> rfl, hM, by omega, by omega, f2, by omega, f2, fun B4 kp kv ks e4 hkp hkv ko kl => ?_⟩
  repeat trivial
  refine ⟨st, 4, rfl, hM, by omega, by omega, fun r3 r30 r31 => ?_⟩
  repeat trivial
  have e5 := (e2.trans e3).trans (x1.trans e4)
  refine ⟨st, pa, kp, (1 + r3).toNat, far, ps, kv, ks, ⟨⟩, ⟨⟩, by rw [show (((1 + r3).toNat : Nat) : Int) = 1 + r3 by omega] <;> rfl, hM, by omega, e5 _ _ hpa, by omega, by omega, hkp, hkv, by omega, by omega, by omega, f2, fun B5 cp cv cs e6 hcp hcv cl hcs => ?_⟩
  repeat trivial
  refine ⟨st, 7, rfl, hM, by omega, by omega, fun r4 r40 r41 => ?_⟩
  repeat trivial
  refine wr_I (.inl ⟨by omega, by omega⟩) ?_
  repeat trivial
  refine ⟨by show 3 ≤ 100000; decide, fun l2 l2B l2M => ?_⟩
  have x2 := exNew (o := .lst [V.int far, V.int (3 * far), V.int 3]) l2B
  repeat trivial
  refine ⟨st, _, fun x => ∃ i : Int, x = .int i ∧ 0 < i ∧ i ≤ 3 * 10 ^ 30, rfl, hM, .inl ⟨l2, _, rfl, upd_same, by show 0 < 3; decide, by show 3 ≤ 100000; decide, fun x hx => ?_⟩, ?_⟩
  · rcases List.mem_cons.mp hx with h | hx
    · exact ⟨far, h, by omega, by omega⟩
    rcases List.mem_cons.mp hx with h | hx
    · exact ⟨3 * far, h, by omega, by omega⟩
    · exact ⟨3, List.mem_singleton.mp hx, by omega, by omega⟩
  rintro x ⟨sp, rfl, s1, s2⟩
  repeat trivial
  refine ⟨st, (1 + r4).toNat, sp, by rw [show (((1 + r4).toNat : Nat) : Int) = 1 + r4 by omega] <;> rfl, hM, by omega, by omega, s1, s2, fun B6 mp ms e7 hmp mo ml => ?_⟩
  repeat trivial
  refine wc_lenL (.of hmp) ?_
  rw [List.length_map]
  repeat trivial
  have e8 := x2.trans e7
  have e9 := (e5.trans e6).trans e8
  have e10 := (((e3.trans (x1.trans e4)).trans e6)).trans e8
  have e11 := (((x1.trans e4)).trans e6).trans e8
  refine ⟨st, pa, ka, ha, ms.length, ps, keys, hands, ⟨⟩, ⟨⟩, rfl, hM, by omega, by omega, e9 _ _ hpa, e10 _ _ hka, e11 _ _ hha, by omega, by omega, by omega, by omega, by omega, by omega, hkn, hhn, fun B7 tp tv ts e12 htp htv tl hts => ?_⟩
  repeat trivial
  refine ⟨by show 4 ≤ 100000; decide, fun l3 l3B l3M => ?_⟩
  have x3 := exNew (o := .lst [V.ref kp, V.ref cp, V.ref mp, V.ref tp]) l3B
  have y := (e8.trans e12).trans x3
  have z := e12.trans x3
  refine k _ l3 kp cp mp tp kv cv tv ks cs ms ts ps (((e1.trans (e9)).trans e12).trans x3) ⟨upd_same, (e6.trans y) _ _ hkp, f2_mono (fun _ _ w => w.ex (e6.trans y)) hkv, y _ _ hcp, f2_mono (fun _ _ w => w.ex y) hcv, z _ _ hmp, x3 _ _ htp, f2_mono (fun _ _ w => w.ex x3) htv⟩ ?_
  refine ⟨ko, by omega, ⟨by omega, fun c hc => (hcs c hc).2.1, fun c hc => (hcs c hc).2.2.1, fun c hc => (hcs c hc).2.2.2, fun c hc => hpw _ (hcs c hc).1⟩, mo, by omega, by omega, by omega, fun t ht => toldOk (hts t ht) (by omega) (by omega) hpn hpw (by omega) hkw (by omega) hhw, fun t ht => (hts t ht).roles, fun c hc => (hcs c hc).1, hpn, by omega, hpw⟩
end
end Ab
/-! ## G0 -/
set_option Elab.async false
set_option linter.all false
set_option maxRecDepth 100000
set_option maxHeartbeats 4000000
/-! G0: the machine's steps with guarded yields of proto.yield_from over a generator: Go, and that the scheduler follows. -/
namespace Gap
open PySem

/-- a yield under guard that shows nothing when it is closed: «yield from» over a generator -/
def GuardOk (s : Shared) (t : Thread) : Prop :=
  ∃ v g l k a rest kw frames b rs o, t.cur = .yield v g l k ∧ t.code = .builtin "proto.yield_from" ⟨.ref a :: rest, kw⟩ ∧ splitAtGen t.stack = some (frames, b, rs) ∧
    frames.any Frame.guarded = false ∧ s.heap.get? a = some o ∧ o.genNumber?.isSome = true
def Gentle (s : Shared) (t : Thread) : Prop := t.calm = true ∨ GuardOk s t

section
variable (den : Code → Sem PySem.Fin) (prog : Program) (w : World)

theorem moves_yield {pr : Profile} {s : Shared} {v g l k c p st} : (Config.single s ⟨.yield v g l k, c, p, st⟩).moves pr = [.run 0] := by
  simp [Config.moves, Config.single, movesFrom, Thread.moves, Thread.atomic, Thread.rests, Thread.tells]

theorem lifeStep_guard (others : List Value) {s : Shared} {t : Thread} (hg : GuardOk s t) (hz : s.asleep) : lifeStep den prog w others s t = step den prog w s t := by
  obtain ⟨cur, code, pos, stack⟩ := t
  obtain ⟨v, g, l, k, a, rest, kw, frames, b, rs, o, h1, h2, h3, h4, h5, h6⟩ := hg
  obtain ⟨hr, hc⟩ := hz
  simp only at h1 h2 h3
  subst h1 h2
  obtain ⟨n, hn⟩ := Option.isSome_iff_exists.mp h6
  have hd : delegateShows s (.ref a) = false := by
    unfold delegateShows
    simp only [h5, hn, hr, List.contains_nil]
  have hsh : closingShows s frames (.builtin "proto.yield_from" ⟨.ref a :: rest, kw⟩) g = false := by
    unfold closingShows
    simp only [h4, hd, Bool.and_false, Bool.or_false]
  unfold lifeStep
  cases hs : Thread.special ⟨.yield v g l k, .builtin "proto.yield_from" ⟨.ref a :: rest, kw⟩, pos, stack⟩ with
  | false => simp [stepCounting, hc]
  | true =>
    simp only [if_true, collectorTurn?, h3, hsh, Bool.false_and, Thread.atItsEnd]
    simp [stepCounting, hc]

theorem sstep_guard {s : Shared} {t : Thread} (hg : GuardOk s t) (hz : s.asleep) : sstep den prog w (.single s t) = (step den prog w s t).lift := by
  have hl := fun others => lifeStep_guard den prog w others hg hz
  obtain ⟨cur, code, pos, stack⟩ := t
  obtain ⟨v, g, l, k, a, rest, kw, frames, b, rs, o, h1, h2, h3, h4, h5, h6⟩ := hg
  simp only at h1 h2 h3
  subst h1 h2
  have hp : (Config.single s ⟨.yield v g l k, .builtin "proto.yield_from" ⟨.ref a :: rest, kw⟩, pos, stack⟩).pick w = .ok (.run 0, .single s ⟨.yield v g l k, .builtin "proto.yield_from" ⟨.ref a :: rest, kw⟩, pos, stack⟩) := by
    have e1 : (Config.single s ⟨.yield v g l k, .builtin "proto.yield_from" ⟨.ref a :: rest, kw⟩, pos, stack⟩).collect? w.params = none := by
      simp [Config.collect?, Config.single, (nothing_to_collect _ _ _ s _ hz.1).1]
    have e2 : (Config.single s ⟨.yield v g l k, .builtin "proto.yield_from" ⟨.ref a :: rest, kw⟩, pos, stack⟩).collectable = [] := by
      simp [Config.collectable, Config.single, (nothing_to_collect w.params _ _ s _ hz.1).2]
    simp only [Config.pick, e1, e2, Config.pickThread, moves_yield]
    cases w.params.lifetimes <;> simp
  have hrun : (Config.single s ⟨.yield v g l k, .builtin "proto.yield_from" ⟨.ref a :: rest, kw⟩, pos, stack⟩).run den prog w 0 = (step den prog w s ⟨.yield v g l k, .builtin "proto.yield_from" ⟨.ref a :: rest, kw⟩, pos, stack⟩).lift := by
    have ho : (if Thread.special ⟨.yield v g l k, .builtin "proto.yield_from" ⟨.ref a :: rest, kw⟩, pos, stack⟩ = true then Config.others ⟨s, #[.live ⟨.yield v g l k, .builtin "proto.yield_from" ⟨.ref a :: rest, kw⟩, pos, stack⟩], 0⟩ 0 else some []) = some [] := by
      rw [others_single]; split <;> rfl
    simp only [Config.run, Config.single]
    simp [hl, frozenBadly, ThreadState.insideWrite, Thread.finalizes]
    simp only [ho]
    split <;> simp_all [Step.lift, Config.single]
  simp only [sstep, hp, Config.move, hrun]

theorem sstep_gentle {s s' : Shared} {t t' : Thread} (hg : Gentle s t) (hz : s.asleep) (h : step den prog w s t = .go s' t') : sstep den prog w (.single s t) = .go (.single s' t') := by
  rcases hg with hc | hg
  · rcases sstep_single den prog w s t hc hz with e | e
    · rw [e, h]; rfl
    · rw [h] at e; cases e
  · rw [sstep_guard den prog w hg hz, h]; rfl

/-- the machine goes -/
inductive Go : Shared → Thread → Shared → Thread → Prop
  | refl {s t} : Go s t s t
  | step {s t s₁ t₁ s' t'} : Gentle s t → stepK den prog w s t = .go s₁ t₁ → Go s₁ t₁ s' t' → Go s t s' t'

theorem Go.trans {s t s₁ t₁ s' t'} (a : Go den prog w s t s₁ t₁) (b : Go den prog w s₁ t₁ s' t') : Go den prog w s t s' t' := by
  induction a with
  | refl => exact b
  | step hg hs _ ih => exact .step hg hs (ih b)
end

theorem gentle_forget {s sr : Shared} {t tr : Thread} (hs : sr.forget = s.forget) (ht : tr.forget = t.forget) (h : Gentle s t) : Gentle sr tr := by
  rcases h with h | h
  · left
    rw [← Thread.calm_forget, ht, Thread.calm_forget]; exact h
  · right
    obtain ⟨cur, code, pos, stack⟩ := t
    obtain ⟨cur', code', pos', stack'⟩ := tr
    obtain ⟨v, g, l, k, a, rest, kw, frames, b, rs, o, h1, h2, h3, h4, h5, h6⟩ := h
    simp only at h1 h2 h3
    simp only [Thread.forget, Thread.mk.injEq] at ht
    obtain ⟨e1, e2, e3, e4⟩ := ht
    have e5 := congrArg splitAtGen e4
    rw [splitAtGen_forgetAll, splitAtGen_forgetAll, h3] at e5
    cases q : splitAtGen stack' with
    | none => rw [q] at e5; cases e5
    | some x =>
      obtain ⟨fr, b', rs'⟩ := x
      rw [q] at e5
      simp only [Option.map_some, Option.some.injEq, Prod.mk.injEq] at e5
      refine ⟨v, g, l, k, a, rest, kw, fr, b', rs', o, e1.trans h1, e2.trans h2, q, ?_, ?_, h6⟩
      · rw [← any_guarded_forgetAll, e5.1, any_guarded_forgetAll]; exact h4
      · rw [(Shared.forget_eq hs).1]; exact h5

section
variable (den : Code → Sem PySem.Fin) (prog : Program) (w : World)
theorem Go.sched {s t s' t'} (h : Go den prog w s t s' t') : ∀ (sr : Shared) (tr : Thread), sr.asleep → sr.forget = s.forget → tr.forget = t.forget →
    ∃ n sr' tr', schedN den prog w n (.single sr tr) = .running (.single sr' tr') ∧ sr'.forget = s'.forget ∧ tr'.forget = t'.forget ∧ sr'.heap.life = sr.heap.life := by
  induction h with
  | refl => exact fun sr tr _ e1 e2 => ⟨0, sr, tr, rfl, e1, e2, rfl⟩
  | @step s t s₁ t₁ s' t' hg hs _ ih =>
    intro sr tr hz e1 e2
    have hgr : Gentle sr tr := gentle_forget e1 e2 hg
    have q : (PySem.step den prog w sr tr).forget = (Step.go s₁ t₁).forget := by
      rw [step_same den prog w e1 e2, ← stepK_forget, hs]
    cases hr : PySem.step den prog w sr tr with
    | halt o s2 => rw [hr] at q; cases q
    | go s2 t2 =>
      rw [hr] at q
      simp only [Step.forget, Step.go.injEq] at q
      have hl := step_life den prog w sr s2 tr t2 hr
      obtain ⟨n, sr', tr', hn, f1, f2, f3⟩ := ih s2 t2 (Shared.asleep_of_life hl hz) q.1 q.2
      refine ⟨n + 1, sr', tr', ?_, f1, f2, f3.trans hl⟩
      simp only [schedN, sstep_gentle den prog w hgr hz hr]
      exact hn

/-- the machine ends -/
theorem Go.ends {s t s' r c p} (h : Go den prog w s t s' ⟨leafOf r, c, p, []⟩) (hz : s.asleep) (hb : leftWithCleanup s'.gens = false) :
    ∃ n s'', schedN den prog w n (.single s t) = .halted (outcomeOf r) s'' ∧ s''.forget = s'.forget ∧ s''.heap.life = s.heap.life := by
  obtain ⟨n, sr, tr, hn, f1, f2, f3⟩ := h.sched den prog w s t hz rfl rfl
  obtain ⟨cur, code, pos, stack⟩ := tr
  simp only [Thread.forget, Thread.mk.injEq] at f2
  obtain ⟨e1, e2, e3, e4⟩ := f2
  subst e1
  subst e2
  subst e3
  have e5 : stack = [] := by
    cases stack with
    | nil => rfl
    | cons f fs =>
      have := congrArg List.length e4
      simp at this
  subst e5
  have hz' : sr.asleep := Shared.asleep_of_life f3 hz
  have hb' : leftWithCleanup sr.gens = false := by rw [leftWithCleanup_of_forget_eq f1]; exact hb
  have hc : Thread.calm ⟨leafOf r, code, pos, []⟩ = true := by cases r <;> rfl
  have hs : PySem.step den prog w sr ⟨leafOf r, code, pos, []⟩ = .halt (outcomeOf r) sr := by
    cases r <;> simp [leafOf, outcomeOf, PySem.step, finish, hb']
  have hss : sstep den prog w (.single sr ⟨leafOf r, code, pos, []⟩) = .halt (outcomeOf r) sr := by
    rcases sstep_single den prog w sr _ hc hz' with e | e
    · rw [e, hs]; rfl
    · rw [hs] at e
      injection e with e1 _
      cases r <;> cases e1
  refine ⟨n + 1, sr, ?_, f1, f3⟩
  have add : ∀ (m : Nat) (c0 c1 : Config), schedN den prog w m c0 = .running c1 → schedN den prog w (m + 1) c0 = schedN den prog w 1 c1 := by
    intro m
    induction m with
    | zero => intro c0 c1 h; simp only [schedN, SRun.running.injEq] at h; subst h; rfl
    | succ m ih =>
      intro c0 c1 h
      simp only [schedN] at h
      cases q : sstep den prog w c0 with
      | halt o s => rw [q] at h; cases h
      | go c2 =>
        rw [q] at h
        have := ih c2 c1 h
        show (match sstep den prog w c0 with | .go c' => schedN den prog w (m + 1) c' | .halt o s => .halted o s) = _
        rw [q]; exact this
  rw [add n _ _ hn]
  simp only [schedN, hss]
end
end Gap
/-! ## G1 -/
set_option Elab.async false
set_option linter.all false
set_option maxRecDepth 100000
set_option maxHeartbeats 4000000
/-! G1: computations over Go: wpG, codeG; what the library's wp gives; bind, catch, call. -/
namespace Gap
open PySem
open Sem (wp)

abbrev GoM (prog : Program) (w : World) := Go (denote table) prog w

section
variable {prog : Program} {w : World}

theorem go_of_step {s s₁ : Shared} {t t₁ : Thread} (h : (model prog w).step s t = .go s₁ t₁) : Gentle s t ∧ stepK (denote table) prog w s t = .go s₁ t₁ := by
  cases hl : t.loud with
  | true => rw [Model.step_loud (model prog w) hl] at h; cases h
  | false =>
    rw [Model.step_quiet (model prog w) hl] at h
    refine ⟨.inl ?_, h⟩
    rw [Thread.calm_eq, hl]
    cases hr : t.refused with
    | false => rfl
    | true =>
      obtain ⟨what, e⟩ := stepK_refused (denote table) prog w (s := s) hr
      rw [show stepK (model prog w).den (model prog w).prog (model prog w).w s t = _ from e] at h
      cases h
theorem Go.of {s s₁ : Shared} {t t₁ : Thread} {s' t'} (h : (model prog w).step s t = .go s₁ t₁) (g : GoM prog w s₁ t₁ s' t') : GoM prog w s t s' t' :=
  .step (go_of_step h).1 (go_of_step h).2 g
theorem go_of_comes {s t s' t'} (h : Comes (model prog w) s t s' t') : GoM prog w s t s' t' := by
  obtain ⟨n, hn⟩ := h
  induction n generalizing s t with
  | zero =>
    have e : Run.running s t = .running s' t' := hn
    injection e with e1 e2
    subst e1 e2
    exact .refl
  | succ n ih =>
    rw [runN_succ] at hn
    cases hs : (model prog w).step s t with
    | go s₂ t₂ => rw [hs] at hn; exact .of hs (ih hn)
    | halt o s₂ => rw [hs] at hn; cases hn
theorem go_of_reach {base : List Frame} {s t c p pre s' e} (h : Reach (model prog w) base s t c p pre s' e) :
    ∃ t' c' p' pre', GoM prog w s ⟨t, c, p, pre ++ base⟩ s' ⟨t', c', p', pre' ++ base⟩ ∧ Exits e t' c' p' pre' := by
  obtain ⟨t', c', p', pre', h1, h2⟩ := h.comes
  exact ⟨t', c', p', pre', go_of_comes h1, h2⟩

/-- from a tree to one of its two ends -/
def ToG {α : Type} (prog : Program) (w : World) (c : Code) (st : List Frame) (t : Sem PySem.Fin) (p : Pos) (s : Shared) (K : α → Sem PySem.Fin) (H : Value → Sem PySem.Fin) (Q : α → Pos → Shared → Prop) (E : Value → Pos → Shared → Prop) : Prop :=
  (∃ a p' s', GoM prog w s ⟨t, c, p, st⟩ s' ⟨K a, c, p', st⟩ ∧ Q a p' s') ∨ ∃ e p' s', GoM prog w s ⟨t, c, p, st⟩ s' ⟨H e, c, p', st⟩ ∧ E e p' s'
theorem ToG.pre {α : Type} {c : Code} {st : List Frame} {t t₁ : Sem PySem.Fin} {p p₁ : Pos} {s s₁ : Shared} {K : α → Sem PySem.Fin} {H : Value → Sem PySem.Fin} {Q : α → Pos → Shared → Prop} {E : Value → Pos → Shared → Prop}
    (g : GoM prog w s ⟨t, c, p, st⟩ s₁ ⟨t₁, c, p₁, st⟩) (h : ToG prog w c st t₁ p₁ s₁ K H Q E) : ToG prog w c st t p s K H Q E := by
  rcases h with ⟨a, p', s', h, q⟩ | ⟨e, p', s', h, q⟩
  · exact .inl ⟨a, p', s', g.trans _ _ _ h, q⟩
  · exact .inr ⟨e, p', s', g.trans _ _ _ h, q⟩
theorem ToG.one {α : Type} {c : Code} {st : List Frame} {t t₁ : Sem PySem.Fin} {p p₁ : Pos} {s s₁ : Shared} {K : α → Sem PySem.Fin} {H : Value → Sem PySem.Fin} {Q : α → Pos → Shared → Prop} {E : Value → Pos → Shared → Prop}
    (g : (model prog w).step s ⟨t, c, p, st⟩ = .go s₁ ⟨t₁, c, p₁, st⟩) (h : ToG prog w c st t₁ p₁ s₁ K H Q E) : ToG prog w c st t p s K H Q E := h.pre (.of g .refl)

/-- the library's wp, as a run in every frame around -/
theorem toG_of_wp {α : Type} {c : Code} {st : List Frame} (K : α → Sem PySem.Fin) (H : Value → Sem PySem.Fin) (gd : Bool → Bool) (lv : List Value → List Value) (t : Sem α) :
    ∀ (Q : α → Pos → Shared → Prop) (E : Value → Pos → Shared → Prop) (p : Pos) (s : Shared), wp (model prog w) (Ctx.of c st) t Q E p s → ToG prog w c st (t.wrap K H gd lv) p s K H Q E := by
  have hf := Ctx.fits_of c st
  induction t with
  | pure a => intro Q E p s h; exact .inl ⟨a, p, s, .refl, h⟩
  | raise e => intro Q E p s h; exact .inr ⟨e, p, s, .refl, h⟩
  | unsupported _ => intro Q E p s h; exact h.elim
  | finish _ => intro Q E p s h; exact h.elim
  | rule tag k ih => intro Q E p s h; exact (ih () Q E p s h).one (step_rule ..)
  | «at» p₀ k ih => intro Q E p s h; exact (ih () Q E p₀ s h).one (step_at ..)
  | load a part k ih =>
    intro Q E p s h
    obtain ⟨o, ho, h⟩ := h
    exact (ih o Q E p s h).one (step_load _ _ _ _ _ _ _ ho)
  | update a part f k ih =>
    intro Q E p s h
    obtain ⟨ha, h⟩ := h
    exact (ih () Q E p _ h).one (step_update _ _ _ _ _ _ _ _ ha)
  | loadIfAlive a k ih => intro Q E p s h; exact (ih _ Q E p s h).one (step_loadIfAlive ..)
  | point l k ih => intro Q E p s h; exact (ih () Q E p s h).one (step_point ..)
  | register a k _ => intro Q E p s h; exact h.elim
  | alloc o k ih => intro Q E p s h; exact (ih _ Q E p _ h).one (step_alloc ..)
  | fresh k ih => intro Q E p s h; exact (ih _ Q E p _ h).one (step_fresh ..)
  | ask k ih => intro Q E p s h; exact (ih _ Q E p s h).one (step_ask ..)
  | choose src n k ih =>
    intro Q E p s h
    obtain ⟨hn, h⟩ := h
    exact (ih _ Q E p _ h).one (step_choose _ _ _ _ _ _ _ hn)
  | os q l k ih => intro Q E p s h; exact (ih _ Q E p _ h).one (step_os ..)
  | call c' h₀ g l k ih =>
    intro Q E p s h
    obtain ⟨r, s₁, hr, h⟩ := h
    obtain ⟨t', c₁, p₁, pre', g₁, hx⟩ := go_of_reach (runs_reach hr _ (hf.enter c' (fun r => (k r).wrap K H gd lv) h₀ (gd g) (lv l) p []))
    obtain ⟨rfl, rfl⟩ := hx
    exact (ih r Q E p s₁ h).pre (.of (step_call ..) (g₁.trans _ _ _ (.of (step_leaf_ret ..) .refl)))
  | handled own k ih =>
    intro Q E p s h
    refine (ih _ Q E p s h).one ?_
    show (model prog w).step s ⟨.handled own _, c, p, st⟩ = _
    rw [step_handled]
    cases own <;> rfl
  | genState g k ih =>
    intro Q E p s h
    obtain ⟨x, hg, h⟩ := h
    exact (ih _ Q E p s h).one (step_genState _ _ _ _ _ _ hg)
  | newGen c' k ih => intro Q E p s h; exact (ih _ Q E p _ h).one (step_newGen ..)
  | resume g r l k ih =>
    intro Q E p s h
    obtain ⟨res, s₁, hw, h⟩ := h
    exact (ih res Q E p s₁ h).pre (go_of_comes (wakes_comes hf (lv l) (fun x => (k x).wrap K H gd lv) hw))
  | yield v g l k _ => intro Q E p s h; exact h.elim
  | stack k ih => intro Q E p s h; exact (ih _ Q E p s h).one (by show (model prog w).step s ⟨.stack _, c, p, st⟩ = _; rw [step_stack]; rfl)
  | fork c' k _ => intro Q E p s h; exact h.elim
  | thread k ih => intro Q E p s h; exact (ih _ Q E p s h).one (step_thread ..)
  | await a f d l k _ => intro Q E p s h; exact h.elim

/-- a computation over Go, in every frame that fits -/
def wpG {α : Type} (prog : Program) (w : World) (A : Around) (t : Sem α) (Q : α → Shared → Prop) (E : Value → Shared → Prop) (s : Shared) : Prop :=
  ∀ (c : Code) (st : List Frame) (p : Pos), (Ctx.of c st).In A → ∀ (K : α → Sem PySem.Fin) (H : Value → Sem PySem.Fin) (gd : Bool → Bool) (lv : List Value → List Value), ToG prog w c st (t.wrap K H gd lv) p s K H (fun a _ s' => Q a s') (fun e _ s' => E e s')
/-- a code over Go -/
def codeG (prog : Program) (w : World) (A : Around) (c : Code) (R : Result → Shared → Prop) (s : Shared) : Prop :=
  ∀ (st : List Frame) (p : Pos), (Ctx.of c st).Below A → ∃ r c' p' s', GoM prog w s ⟨denote table c, c, p, st⟩ s' ⟨leafOf r, c', p', st⟩ ∧ R r s'

section
variable {α β : Type} {A : Around} {E : Value → Shared → Prop} {s : Shared}
theorem wpG_up {t : Sem α} {Q : α → Shared → Prop} (h : wpAny (model prog w) A t Q E s) : wpG prog w A t Q E s :=
  fun c st p hA K H gd lv => toG_of_wp K H gd lv t _ _ p s (h _ p hA)
theorem wpG_mono {t : Sem α} {Q Q' : α → Shared → Prop} {E' : Value → Shared → Prop} (h : wpG prog w A t Q E s) (hQ : ∀ a s, Q a s → Q' a s) (hE : ∀ e s, E e s → E' e s) : wpG prog w A t Q' E' s :=
  fun c st p hA K H gd lv => (h c st p hA K H gd lv).imp (fun ⟨a, p', s', g, q⟩ => ⟨a, p', s', g, hQ _ _ q⟩) fun ⟨a, p', s', g, q⟩ => ⟨a, p', s', g, hE _ _ q⟩
/-- catching: what follows each end -/
theorem wpG_wrap {m : Sem α} {K₀ : α → Sem β} {H₀ : Value → Sem β} {gd₀ : Bool → Bool} {lv₀ : List Value → List Value} {Q : β → Shared → Prop} {E' : Value → Shared → Prop}
    (h : wpG prog w A m (fun a s' => wpG prog w A (K₀ a) Q E' s') (fun e s' => wpG prog w A (H₀ e) Q E' s') s) : wpG prog w A (m.wrap K₀ H₀ gd₀ lv₀) Q E' s := by
  intro c st p hA K H gd lv
  rw [Sem.wrap_wrap]
  rcases h c st p hA _ _ _ _ with ⟨a, p', s', g, q⟩ | ⟨e, p', s', g, q⟩
  · exact (q c st p' hA K H gd lv).pre g
  · exact (q c st p' hA K H gd lv).pre g
theorem wpG_pure {a : α} {Q : α → Shared → Prop} (h : Q a s) : wpG prog w A (pure a) Q E s := wpG_up (wpAny_pure h)
theorem wpG_throw {e : Value} {Q : α → Shared → Prop} (h : E e s) : wpG prog w A (throw e : Sem α) Q E s := wpG_up (wpAny_throw h)
theorem wpG_bind {m : Sem α} {f : α → Sem β} {Q : β → Shared → Prop} (h : wpG prog w A m (fun a s' => wpG prog w A (f a) Q E s') E s) : wpG prog w A (m >>= f) Q E s := by
  rw [Sem.bind_eq_wrap']
  exact wpG_wrap (wpG_mono h (fun _ _ q => q) fun _ _ q => wpG_throw q)
theorem wpG_tryCatch {m : Sem α} {k : Value → Sem α} {Q : α → Shared → Prop} (h : wpG prog w A m Q (fun e s' => wpG prog w A (k e) Q E s') s) : wpG prog w A (tryCatch m k) Q E s := by
  show wpG prog w A (m.tryCatch k) Q E s
  rw [Sem.tryCatch_eq_wrap]
  exact wpG_wrap (wpG_mono h (fun _ _ q => wpG_pure q) fun _ _ q => q)
theorem wpG_attempt {m : Sem α} {Q : Except Value α → Shared → Prop} (h : wpG prog w A m (fun a => Q (.ok a)) (fun e => Q (.error e)) s) : wpG prog w A m.attempt Q E s := by
  unfold Sem.attempt
  refine wpG_tryCatch ?_
  show wpG prog w A (m.bind _) _ _ _
  rw [Sem.bind_eq_wrap]
  exact wpG_wrap (wpG_mono h (fun _ _ q => wpG_pure q) fun _ _ q => wpG_throw (wpG_pure q))
theorem wpG_onRaise {m : Sem α} {k : Value → Sem Unit} {Q : α → Shared → Prop} (h : wpG prog w A m Q (fun e s' => wpG prog w A (k e) (fun _ s'' => E e s'') E s') s) : wpG prog w A (m.onRaise k) Q E s := by
  rw [Sem.onRaise_eq_wrap]
  refine wpG_wrap (wpG_mono h (fun _ _ q => wpG_pure q) fun e s' q => ?_)
  show wpG prog w A ((k e).bind _) _ _ _
  rw [Sem.bind_eq_wrap]
  exact wpG_wrap (wpG_mono q (fun _ _ q => wpG_throw q) fun _ _ q => wpG_throw q)
theorem wpG_holding {vs : List Value} {m : Sem α} {Q : α → Shared → Prop} (h : wpG prog w A m Q E s) : wpG prog w A (holding vs m) Q E s := by
  unfold holding
  split
  · exact h
  · rw [Sem.keep_eq_wrap]
    exact wpG_wrap (wpG_mono h (fun _ _ q => wpG_pure q) fun _ _ q => wpG_throw q)
theorem codeG_up {c : Code} {R : Result → Shared → Prop} (h : codeAny (model prog w) A c R s) : codeG prog w A c R s := by
  intro st p hB
  obtain ⟨r, s', hr, q⟩ := h (Ctx.of c st) p rfl hB
  obtain ⟨t', c₁, p₁, pre', g₁, hx⟩ := go_of_reach (runs_reach hr st (Ctx.fits_of c st))
  obtain ⟨rfl, rfl⟩ := hx
  exact ⟨r, c₁, p₁, s', g₁, q⟩
theorem codeG_mono {c : Code} {R R' : Result → Shared → Prop} (h : codeG prog w A c R s) (hR : ∀ r s, R r s → R' r s) : codeG prog w A c R' s := fun st p hB =>
  let ⟨r, c', p', s', g, q⟩ := h st p hB
  ⟨r, c', p', s', g, hR _ _ q⟩
/-- a code by its tree -/
theorem codeG_of_tree {c : Code} {R : Result → Shared → Prop}
    (h : wpG prog w (A.under c) (denote table c) (fun fin s' => match fin with | .done f => R (.ok f) s' | .again c' => c'.quiet = true ∧ codeG prog w A c' R s') (fun e s' => R (.error e) s') s) : codeG prog w A c R s := by
  intro st p hB
  have hI : (Ctx.of c st).In (A.under c) := hB.in
  have e : denote table c = (denote table c).wrap (fun f => .pure f) (fun e => .raise e) id id := by
    have := Sem.bind_eq_wrap (denote table c) (fun f => .pure f)
    rw [← this]
    exact (bind_pure (m := Sem) (denote table c)).symm
  rw [e]
  rcases h c st p hI (fun f => .pure f) (fun e => .raise e) id id with ⟨f, p', s', g, q⟩ | ⟨x, p', s', g, q⟩
  · cases f with
    | done f => exact ⟨.ok f, c, p', s', g, q⟩
    | again c' =>
      obtain ⟨hq, q⟩ := q
      obtain ⟨r, c₂, p₂, s₂, g₂, q₂⟩ := q st p' (show (Ctx.of c' st).Below A from hB)
      exact ⟨r, c₂, p₂, s₂, g.trans _ _ _ (.of (step_again _ _ _ _ _ _ hq) g₂), q₂⟩
  · exact ⟨.error x, c, p', s', g, q⟩
/-- a call of a code -/
theorem wpG_run {c : Code} {h : Option Value} {Q : Flow → Shared → Prop} (hc : codeG prog w (A.mark h) c (fun r s' => match r with | .ok f => Q f s' | .error e => E e s') s) (hnb : h ≠ some byPass := by intro x; cases x) :
    wpG prog w A (run c h) Q E s := by
  intro c₀ st p hA K H gd lv
  have hB : (Ctx.of c (.ret (fun r => (match r with | .ok f => (.pure f : Sem Flow) | .error e => .raise e).wrap K H gd lv) h (gd false) (lv []) c₀ p [] :: st)).Below (A.mark h) := by
    have e := hA.enter c h p hnb
    have f := (Ctx.fits_of c₀ st).enter c (fun r => (match r with | .ok f => (.pure f : Sem Flow) | .error e => .raise e).wrap K H gd lv) h (gd false) (lv []) p []
    refine ⟨?_, e.2.1, e.2.2.1, e.2.2.2.1, e.2.2.2.2⟩
    rw [← e.1, f.handled]; rfl
  obtain ⟨r, c', p', s', g, q⟩ := hc _ p hB
  have g' : GoM prog w s ⟨(run c h).wrap K H gd lv, c₀, p, st⟩ s' ⟨(match r with | .ok f => (.pure f : Sem Flow) | .error e => .raise e).wrap K H gd lv, c₀, p, st⟩ :=
    .of (step_call ..) (g.trans _ _ _ (.of (step_leaf_ret ..) .refl))
  cases r with
  | ok f => exact .inl ⟨f, p, s', g', q⟩
  | error e => exact .inr ⟨e, p, s', g', q⟩
theorem wpG_runValue {c : Code} {Q : Value → Shared → Prop} (hc : codeG prog w A c (fun r s' => match r with | .ok (.ret v) => Q v s' | .ok _ => False | .error e => E e s') s) : wpG prog w A (runValue c) Q E s := by
  unfold runValue
  refine wpG_bind (wpG_run (h := none) (codeG_mono (show codeG prog w (A.mark none) c _ s from hc) fun r s' q => ?_))
  cases r with
  | error e => exact q
  | ok f =>
    cases f with
    | ret v => exact wpG_pure q
    | next => exact q.elim
    | brk => exact q.elim
    | cont => exact q.elim
theorem wpG_call {f : Value} {pos : List Value} {kw : List (Str × Value)} {Q : Value → Shared → Prop} (hc : codeG prog w A (.call f ⟨pos, kw⟩) (fun r s' => match r with | .ok (.ret v) => Q v s' | .ok _ => False | .error e => E e s') s) :
    wpG prog w A (call f pos kw) Q E s := wpG_runValue hc
end
end
end Gap
/-! ## G2 -/
set_option Elab.async false
set_option linter.all false
set_option maxRecDepth 100000
set_option maxHeartbeats 4000000
/-! G2: a generator's segments over Go; its waking. -/
namespace Gap
open PySem
open Sem (wp)

section
variable (prog : Program) (w : World)
/-- a run of frames fs over base to an end -/
def RunG (base : List Frame) (s : Shared) (t : Sem PySem.Fin) (c : Code) (p : Pos) (fs : List Frame) (s' : Shared) (e : End) : Prop :=
  ∃ t' c' p' pre', GoM prog w s ⟨t, c, p, fs ++ base⟩ s' ⟨t', c', p', pre' ++ base⟩ ∧ Exits e t' c' p' pre'
/-- a yield that the machine goes on with -/
def Goes (e : End) (s : Shared) : Prop := match e with
  | .ret _ => True
  | .susp v g l k c p fs => (End.susp v g l k c p fs).quiet = true ∨ ∃ a rest kw o, c = .builtin "proto.yield_from" ⟨.ref a :: rest, kw⟩ ∧ fs.any Frame.guarded = false ∧ s.heap.get? a = some o ∧ o.genNumber?.isSome = true
def SegEndG (R : GenEnd) (Y : Protocol) (n : Nat) (go : Code → Sem PySem.Fin → List Frame → Shared → Prop) (s₀ : Shared) (e : End) (s' : Shared) : Prop :=
  match e with
  | .ret r => R n s₀ r s'
  | .susp v g l k c p fs => Y (n - 1) s₀ v s' fun r s'' => go c (k r) fs s''
def SegG (A : Around) (R : GenEnd) (Y : Protocol) : Nat → Shared → Code → Sem PySem.Fin → List Frame → Shared → Prop
  | 0 => fun s₀ c t fs s => ∀ base p, (Ctx.of c base).Woken A → ∃ e s', RunG prog w base s t c p fs s' e ∧ Goes e s' ∧ SegEndG R Y 0 (fun _ _ _ _ => False) s₀ e s'
  | n + 1 => fun s₀ c t fs s => ∀ base p, (Ctx.of c base).Woken A → ∃ e s', RunG prog w base s t c p fs s' e ∧ Goes e s' ∧
      SegEndG R Y (n + 1) (fun c' t' fs' s'' => SegG A R Y n s'' c' t' fs' s'') s₀ e s'
def SegG.next (A : Around) (R : GenEnd) (Y : Protocol) : Nat → Code → Sem PySem.Fin → List Frame → Shared → Prop
  | 0 => fun _ _ _ _ => False
  | n + 1 => fun c t fs s'' => SegG prog w A R Y n s'' c t fs s''
end
section
variable {prog : Program} {w : World} {A : Around} {R : GenEnd} {Y : Protocol} {n : Nat} {s₀ : Shared} {c : Code} {fs : List Frame} {s : Shared}
theorem segG_iff {t : Sem PySem.Fin} : SegG prog w A R Y n s₀ c t fs s ↔ ∀ base p, (Ctx.of c base).Woken A → ∃ e s', RunG prog w base s t c p fs s' e ∧ Goes e s' ∧ SegEndG R Y n (SegG.next prog w A R Y n) s₀ e s' := by
  cases n <;> rfl
theorem woken_over {base : List Frame} (h : (Ctx.of c base).Woken A) (fs : List Frame) : (Ctx.of c (fs ++ base)).In (A.over c fs) := by
  rw [Ctx.of_append]
  exact h.over fs
theorem RunG.pre {base : List Frame} {s s₁ s' : Shared} {t t₁ : Sem PySem.Fin} {c c₁ : Code} {p p₁ : Pos} {fs fs₁ : List Frame} {e : End}
    (g : GoM prog w s ⟨t, c, p, fs ++ base⟩ s₁ ⟨t₁, c₁, p₁, fs₁ ++ base⟩) (h : RunG prog w base s₁ t₁ c₁ p₁ fs₁ s' e) : RunG prog w base s t c p fs s' e := by
  obtain ⟨t', c', p', pre', h1, h2⟩ := h
  exact ⟨t', c', p', pre', g.trans _ _ _ h1, h2⟩
theorem segG_wrap {α : Type} {m : Sem α} {K : α → Sem PySem.Fin} {H : Value → Sem PySem.Fin} {gd lv}
    (h : wpG prog w (A.over c fs) m (fun a s' => SegG prog w A R Y n s₀ c (K a) fs s') (fun x s' => SegG prog w A R Y n s₀ c (H x) fs s') s) :
    SegG prog w A R Y n s₀ c (m.wrap K H gd lv) fs s := by
  rw [segG_iff]
  intro base p hW
  rcases h c (fs ++ base) p (woken_over hW fs) K H gd lv with ⟨a, p', s', g, q⟩ | ⟨x, p', s', g, q⟩
  · obtain ⟨e, s2, h1, h2⟩ := segG_iff.mp q base p' hW
    exact ⟨e, s2, h1.pre g, h2⟩
  · obtain ⟨e, s2, h1, h2⟩ := segG_iff.mp q base p' hW
    exact ⟨e, s2, h1.pre g, h2⟩
theorem segG_bind {α : Type} {m : Sem α} {K : α → Sem PySem.Fin}
    (h : wpG prog w (A.over c fs) m (fun a s' => SegG prog w A R Y n s₀ c (K a) fs s') (fun x s' => SegG prog w A R Y n s₀ c (.raise x) fs s') s) :
    SegG prog w A R Y n s₀ c (m >>= K) fs s := by
  rw [Sem.bind_eq_wrap']; exact segG_wrap h
theorem segG_bind_wrap {α β : Type} {m : Sem α} {f : α → Sem β} {K : β → Sem PySem.Fin} {H : Value → Sem PySem.Fin} {gd lv}
    (h : wpG prog w (A.over c fs) m (fun a s' => SegG prog w A R Y n s₀ c ((f a).wrap K H gd lv) fs s') (fun x s' => SegG prog w A R Y n s₀ c (H x) fs s') s) :
    SegG prog w A R Y n s₀ c ((m >>= f).wrap K H gd lv) fs s := by
  rw [Sem.bind_eq_wrap', Sem.wrap_wrap]
  exact segG_wrap h
theorem segG_one {t t₁ : Sem PySem.Fin} {s₁ : Shared} {c₁ : Code} {fs₁ : List Frame} (hst : ∀ base p, ∃ p₁, GoM prog w s ⟨t, c, p, fs ++ base⟩ s₁ ⟨t₁, c₁, p₁, fs₁ ++ base⟩)
    (h : SegG prog w A R Y n s₀ c₁ t₁ fs₁ s₁) : SegG prog w A R Y n s₀ c t fs s := by
  rw [segG_iff]
  intro base p hW
  obtain ⟨p₁, g⟩ := hst base p
  obtain ⟨e, s2, h1, h2⟩ := segG_iff.mp h base p₁ (show (Ctx.of c₁ base).Woken A from ⟨hW.1.goto c₁, hW.2⟩)
  exact ⟨e, s2, h1.pre g, h2⟩
theorem segG_at {p' : Pos} {k : Unit → Sem PySem.Fin} (h : SegG prog w A R Y n s₀ c (k ()) fs s) : SegG prog w A R Y n s₀ c (.at p' k) fs s :=
  segG_one (fun _ _ => ⟨p', .of (step_at ..) .refl⟩) h
theorem segG_point {l : List Value} {k : Unit → Sem PySem.Fin} (h : SegG prog w A R Y n s₀ c (k ()) fs s) : SegG prog w A R Y n s₀ c (.point l k) fs s :=
  segG_one (fun _ p => ⟨p, .of (step_point ..) .refl⟩) h
theorem segG_call {c' : Code} {h g l} {k : Result → Sem PySem.Fin} (hc : ∀ p, SegG prog w A R Y n s₀ c' (denote table c') (.ret k h g l c p [] :: fs) s) :
    SegG prog w A R Y n s₀ c (.call c' h g l k) fs s := by
  rw [segG_iff]
  intro base p hW
  obtain ⟨e, s2, h1, h2⟩ := segG_iff.mp (hc p) base p (show (Ctx.of c' base).Woken A from ⟨hW.1.goto c', hW.2⟩)
  exact ⟨e, s2, h1.pre (.of (step_call ..) .refl), h2⟩
theorem segG_leaf {k h g l c₁ p₁ kp} (r : Result) (hk : SegG prog w A R Y n s₀ c₁ (k r) fs s) : SegG prog w A R Y n s₀ c (leafOf r) (.ret k h g l c₁ p₁ kp :: fs) s :=
  segG_one (fun _ p => ⟨p₁, .of (step_leaf_ret ..) .refl⟩) hk
theorem segG_again {c' : Code} (hq : c'.quiet = true) (hc : SegG prog w A R Y n s₀ c' (denote table c') fs s) : SegG prog w A R Y n s₀ c (.pure (.again c')) fs s :=
  segG_one (fun _ p => ⟨p, .of (step_again _ _ _ _ _ _ hq) .refl⟩) hc
theorem segG_end (r : Result) (h : R n s₀ r s) : SegG prog w A R Y n s₀ c (leafOf r) [] s := by
  rw [segG_iff]
  intro base p _
  exact ⟨.ret r, s, ⟨leafOf r, c, p, [], .refl, rfl, rfl⟩, trivial, h⟩
/-- the guarded yield of «yield from» over a generator -/
theorem segG_yield {v l a rest kw o} {g : Bool} {k : Resume → Sem PySem.Fin} (hc : c = .builtin "proto.yield_from" ⟨.ref a :: rest, kw⟩) (hfs : splitAtGen fs = none) (hfg : fs.any Frame.guarded = false) (ho : s.heap.get? a = some o) (hn : o.genNumber?.isSome = true)
    (h : Y n s₀ v s fun r s'' => SegG prog w A R Y n s'' c (k r) fs s'') : SegG prog w A R Y (n + 1) s₀ c (.yield v g l k) fs s := by
  intro base p _
  exact ⟨.susp v g l k c p fs, s, ⟨_, c, p, fs, .refl, rfl, rfl, rfl, rfl, hfs⟩, .inr ⟨a, rest, kw, o, hc, hfg, ho, hn⟩, h⟩
end

def GoesG (prog : Program) (w : World) (A : Around) (R : GenEnd) (Y : Protocol) (n : Nat) (gs : GenState) (r : Resume) (s : Shared) : Prop :=
  match gs with
  | .fresh c => r = .send .none ∧ SegG prog w A R Y n s c (denote table c) [] s
  | .suspended k _ c _ fs _ => SegG prog w A R Y n s c (k r) fs s
  | _ => False

section
variable {prog : Program} {w : World}
/-- the step out of a segment to its consumer -/
theorem go_exit {e : End} {s : Shared} {t c p pre} {g k l c₁ p₁ st} (hx : Exits e t c p pre) (hg : Goes e s) :
    GoM prog w s ⟨t, c, p, pre ++ .gen g k l c₁ p₁ :: st⟩ (s.setGen g e.genState) ⟨k e.result, c₁, p₁, st⟩ := by
  cases e with
  | ret r =>
    obtain ⟨rfl, rfl⟩ := hx
    exact .of (step_leaf_gen ..) .refl
  | susp v g₀ l₀ k₀ c₀ p₀ fs =>
    obtain ⟨rfl, rfl, rfl, rfl, hfs⟩ := hx
    have hsp : splitAtGen (pre ++ .gen g k l c₁ p₁ :: st) = some (pre, (g, k, c₁, p₁), st) := by rw [splitAtGen_append_none _ hfs, splitAtGen_gen]; simp
    rcases hg with hq | ⟨a, rest, kw, o, rfl, hfg, ho, hn⟩
    · exact .of (step_yield _ _ _ _ _ _ _ _ _ hsp hq) .refl
    · refine .step (.inr ⟨v, g₀, l₀, k₀, a, rest, kw, pre, _, _, o, rfl, rfl, hsp, hfg, ho, hn⟩) ?_ .refl
      simp only [PySem.stepK, PySem.step, hsp]
      rfl
theorem woken_gen {A : Around} {c₀ : Code} {st : List Frame} (hA : (Ctx.of c₀ st).In A) (c : Code) (g k l p) : (Ctx.of c (.gen g k l c₀ p :: st)).Woken A := by
  have e := hA.wake c p
  have f := (Ctx.fits_of c₀ st).wake c g k l p
  have q : Ctx.of c (.gen g k l c₀ p :: st) = (Ctx.of c₀ st).wake c p := by
    simp only [Ctx.of, Ctx.wake, topHandled_gen, ownFrames_gen, List.map_cons, Frame.where_]
    rfl
  rw [q]; exact e
theorem wpG_resume {α : Type} {A : Around} {R : GenEnd} {Y : Protocol} {n : Nat} {E : Value → Shared → Prop} {s : Shared} {g : Nat} {gs : GenState}
    {r : Resume} {l : List Value} {k : GenResult → Sem α} {Q : α → Shared → Prop} (hg : s.gens[g]? = some gs) (hgo : GoesG prog w A R Y n gs r (s.setGen g .running))
    (hR : ∀ x s₁, R n (s.setGen g .running) x s₁ → wpG prog w A (k (End.ret x).result) Q E (s₁.setGen g .finished))
    (hY : ∀ v s₁ gs', Y (n - 1) (s.setGen g .running) v s₁ (fun r' s'' => match n with | 0 => False | m + 1 => GoesG prog w A R Y m gs' r' s'') → wpG prog w A (k (.yielded v)) Q E (s₁.setGen g gs')) :
    wpG prog w A (.resume g r l k) Q E s := by
  intro c st p hA K H gd lv
  have fin : ∀ (c₀ : Code) (t : Sem PySem.Fin) (fs : List Frame) (p₀ : Pos), SegG prog w A R Y n (s.setGen g .running) c₀ t fs (s.setGen g .running) →
      GoM prog w s ⟨(Sem.resume g r l k).wrap K H gd lv, c, p, st⟩ (s.setGen g .running) ⟨t, c₀, p₀, fs ++ .gen g (fun x => (k x).wrap K H gd lv) (lv l) c p :: st⟩ →
      ToG prog w c st ((Sem.resume g r l k).wrap K H gd lv) p s K H (fun a _ s' => Q a s') (fun e _ s' => E e s') := by
    intro c₀ t fs p₀ hs g₀
    obtain ⟨e, s', ⟨t', c', p', pre', g₁, hx⟩, hge, he⟩ := segG_iff.mp hs (.gen g (fun x => (k x).wrap K H gd lv) (lv l) c p :: st) p₀ (woken_gen hA c₀ g _ (lv l) p)
    have g₂ := (g₀.trans _ _ _ g₁).trans _ _ _ (go_exit hx hge)
    have fw : wpG prog w A (k e.result) Q E (s'.setGen g e.genState) := by
      cases e with
      | ret x => exact hR x s' he
      | susp v g' l' k' c₂ p₂ fs₂ =>
        refine hY v s' _ ?_
        cases n with
        | zero => exact he
        | succ m => exact he
    exact (fw c st p hA K H gd lv).pre g₂
  cases gs with
  | fresh c₀ =>
    obtain ⟨rfl, hs⟩ := hgo
    exact fin c₀ _ [] p hs (.of (step_resume_fresh _ _ _ _ _ _ _ hg) .refl)
  | suspended k₀ l₀ c₀ p₀ fs cl => exact fin c₀ _ fs p₀ hgo (.of (step_resume_suspended _ _ _ _ _ _ _ _ hg) .refl)
  | running => exact hgo.elim
  | finished => exact hgo.elim
end
end Gap
/-! ## G3 -/
set_option Elab.async false
set_option linter.all false
set_option maxRecDepth 100000
set_option maxHeartbeats 4000000
/-! G3: the body of a generator def to which another generator delegates: its own object may be marked while it sleeps. For loops and ifs in it. -/
namespace Gap
open PySem PySem.Spec PyProof.Rows GenW L2
open Sem (wp)

/-- the generator's own object: its number, its marks -/
structure GenO (g : Nat) (o : Obj) : Prop where
  cls : o.cls = .type "generator"
  data : ∃ nm qn, o.data = .fields #[.int g 0, nm, qn]
  slots : o.slots = #[] ∨ o.slots = #[some (.int 0 0)]
theorem GenO.nocell {g : Nat} {o : Obj} (h : GenO g o) : ∀ v, o.data ≠ .cell v := fun v q => by
  obtain ⟨nm, qn, e⟩ := h.data
  rw [e] at q; cases q
/-- while it sleeps: the list at S has one item more, the object at D may bear another mark -/
structure Slept2 (S D : Addr) (g : Nat) (v : Value) (s s' : Shared) : Prop where
  os : s'.os = s.os
  bare : AllBare s'.gens
  keep : ∀ b o, b ≠ S → b ≠ D → s.heap.get? b = some o → s'.heap.get? b = some o
  own : ∀ acc c, s.heap.get? S = some (lstObj acc c) → ∃ c', s'.heap.get? S = some (lstObj (acc.push v) c')
  gen : ∃ o, s'.heap.get? D = some o ∧ GenO g o
/-- running: ys is out and stands in the list at S -/
def GI2 (X : Cx) (S D : Addr) (g : Nat) (ip : List (Addr × Obj)) (ys : List V) (σ : L2.St) (H : Hp) (s : Shared) : Prop :=
  ∃ (acc : Array Value) (c : Nat) (od : Obj), Vals ys acc.toList ∧ GenO g od ∧ Inv X ((S, lstObj acc c) :: (D, od) :: ip) σ H s
/-- the two objects are nobody's of the frame -/
def Apart2 (X : Cx) (b : Addr) : Prop := (b ∈ X.ex ∨ X.s_0.heap.objs.size ≤ b) ∧ b ≠ X.env.locals ∧ ∀ x c, X.env.cells.lookup x = some c → c ≠ b
theorem GI2.at {X : Cx} {S D : Addr} {g : Nat} {ip : List (Addr × Obj)} {ys : List V} {σ : L2.St} {H : Hp} {s : Shared} (h : GI2 X S D g ip ys σ H s) :
    H S = none ∧ H D = none ∧ (∃ (acc : Array Value) (c : Nat), Vals ys acc.toList ∧ s.heap.get? S = some (lstObj acc c)) ∧ (∃ od, s.heap.get? D = some od ∧ GenO g od) ∧ S ≠ X.env.locals ∧ D ≠ X.env.locals ∧ S ∉ X.fs ∧ D ∉ X.fs := by
  obtain ⟨acc, c, od, r, hg, I⟩ := h
  obtain ⟨h1, h2, h3, h4, _⟩ := I.pin (S, lstObj acc c) (List.mem_append_right _ List.mem_cons_self)
  obtain ⟨k1, k2, k3, k4, _⟩ := I.pin (D, od) (List.mem_append_right _ (List.mem_cons_of_mem _ List.mem_cons_self))
  exact ⟨h2, k2, ⟨acc, c, r, h1⟩, ⟨od, k1, hg⟩, h3, k3, h4, k4⟩
theorem GI2.woken {X : Cx} {S D : Addr} {g : Nat} {ip : List (Addr × Obj)} {ys : List V} {x : V} {v : Value} {σ : L2.St} {H : Hp} {s s' : Shared} (hpn : ∀ p ∈ X.pn ++ ip, p.1 ≠ S ∧ p.1 ≠ D) (hS : Apart2 X S) (hD : Apart2 X D)
    (h : GI2 X S D g ip ys σ H s) (rv : RelV x v) (z : Slept2 S D g v s s') : GI2 X S D g ip (ys ++ [x]) σ H s' := by
  obtain ⟨hS0, hD0, _, _, hSL, hDL, hSf, hDf⟩ := h.at
  obtain ⟨acc, c, od, r, hgo, I⟩ := h
  have eS : s.heap.get? S = some (lstObj acc c) := (I.pin (S, lstObj acc c) (List.mem_append_right _ List.mem_cons_self)).1
  have I0 : Inv X ip σ H s := I.pins_of fun p hp => I.pin p (List.mem_append_right _ (List.mem_cons_of_mem _ (List.mem_cons_of_mem _ hp)))
  have nt : ∀ b u, H b = some u → b ≠ S ∧ b ≠ D := fun b u q => ⟨fun hb => (by rw [hb, hS0] at q; cases q), fun hb => (by rw [hb, hD0] at q; cases q)⟩
  obtain ⟨z1, z2, z3, z4, od', z5, z6⟩ := z
  obtain ⟨c', eS'⟩ := z4 acc c eS
  obtain ⟨hh, gg, d, t, o⟩ := s'
  have ho : o = s.os := z1
  subst ho
  have nc : ∀ b, b ∉ [S, D] → b ≠ S ∧ b ≠ D := fun b hb => ⟨fun e => hb (by simp [e]), fun e => hb (by simp [e])⟩
  have J : Inv X ip σ H { s with heap := hh, gens := gg, drawn := d, toks := t } := by
    refine I0.step (g' := gg) (t' := t) (d' := d) (ch := [S, D]) (fun b hb => ?_)
      (fun b ob _ _ hc q _ => z3 b ob (nc b hc).1 (nc b hc).2 q) (fun b ob _ _ hc q _ => ⟨ob.slots, z3 b ob (nc b hc).1 (nc b hc).2 q⟩) (fun _ _ _ _ n => n) (fun b ob hc q => ⟨ob, z3 b ob (nc b hc).1 (nc b hc).2 q⟩)
      (fun _ _ q => q) (fun _ _ _ q => q) (fun b ps q => ⟨#[], by rw [q]; simp⟩) (fun m hm => ?_) (fun b u q => ?_) z2
    · rcases List.mem_cons.mp hb with e | hb
      · rw [e]; exact ⟨hS.1, hS.2.1, hS.2.2, fun p hp => (hpn p hp).1⟩
      · rw [List.mem_singleton.mp hb]; exact ⟨hD.1, hD.2.1, hD.2.2, fun p hp => (hpn p hp).2⟩
    · obtain ⟨ob, es, ep, ho, r⟩ := hm
      exact ⟨ob, es, ep, z3 _ ob (Ne.symm hSL) (Ne.symm hDL) ho, r⟩
    · refine (I0.hok b u q).stay (fun c v hc y => z3 c v ?_ ?_ y) (fun _ y => y) fun _ _ y => y
      · rcases hc with y | y
        · rw [y]; exact (nt b u q).1
        · exact (nt c _ y).1
      · rcases hc with y | y
        · rw [y]; exact (nt b u q).2
        · exact (nt c _ y).2
  refine ⟨acc.push v, c', od', ?_, z6, J.pins_of fun p hp => ?_⟩
  · rw [Array.toList_push]
    exact r.append (.cons rv .nil)
  · rcases List.mem_cons.mp hp with hp | hp
    · rw [hp]
      exact ⟨eS', hS0, hSL, hSf, fun v q => by cases q⟩
    · rcases List.mem_cons.mp hp with hp | hp
      · rw [hp]
        exact ⟨z5, hD0, hDL, hDf, z6.nocell⟩
      · exact J.pin p (List.mem_append_right _ hp)

/-! ### the protocol -/
def GY2 (X : Cx) (S D : Addr) (g : Nat) : Protocol := fun n s₀ v s kap =>
  ∃ ys x ip σ H, n + 1 + ys.length = sizeLine ∧ RelV x v ∧ GI2 X S D g ip ys σ H s ∧ ∀ s', Slept2 S D g v s s' → kap (.send .none) s'
def GR2 (X : Cx) (S D : Addr) (g : Nat) (Q : List V → Hp → Prop) : GenEnd := fun n s₀ r s => match r with
  | .ok (.ret u) => u = .none ∧ ∃ ys ip σ H, n + ys.length = sizeLine ∧ GI2 X S D g ip ys σ H s ∧ Q ys H
  | _ => False
def GSP2 (X : Cx) (S D : Addr) (g : Nat) (ip : List (Addr × Obj)) (Z : GEnds) (ys : List V) (f : Flow) (s : Shared) : Prop :=
  match f with
  | .next => ∃ σ H, GI2 X S D g ip ys σ H s ∧ Z.nx ys σ H
  | .brk => ∃ σ H, GI2 X S D g ip ys σ H s ∧ Z.bk ys σ H
  | .cont => ∃ σ H, GI2 X S D g ip ys σ H s ∧ Z.ct ys σ H
  | .ret u => ∃ v σ H, GI2 X S D g ip ys σ H s ∧ RelV v u ∧ Z.rt ys v H
structure GC2 (X : Cx) (S D : Addr) (ip : List (Addr × Obj)) (A : Around) (c : Code) (fs : List Frame) (gd : Bool → Bool) : Prop where
  pn : ∀ p ∈ X.pn ++ ip, p.1 ≠ S ∧ p.1 ≠ D
  aS : Apart2 X S
  aD : Apart2 X D
  xe : ∀ e s, ¬ X.xe e s
  over : A.over c fs = X.A
  split : splitAtGen fs = none
  guard : fs.any Frame.guarded = false
  gd : gd false = false
abbrev GK2 (X : Cx) (S D : Addr) (g : Nat) (ip : List (Addr × Obj)) (A : Around) (R : GenEnd) (c : Code) (fs : List Frame) (K : Flow → Sem PySem.Fin) (Z : GEnds) : Prop :=
  ∀ (n : Nat) (ys : List V) (s₀ s : Shared) (f : Flow), n + ys.length = sizeLine → GSP2 X S D g ip Z ys f s → Seg (model X.prog X.w) A R (GY2 X S D g) n s₀ c (K f) fs s
structure GS2 (X : Cx) (st : Stmt) (t : TGn) : Prop where
  run : ∀ (A : Around) (S D : Addr) (g : Nat) (ip : List (Addr × Obj)) (R : GenEnd) (n : Nat) (ys : List V) (s₀ : Shared) (c : Code) (fs : List Frame) (K : Flow → Sem PySem.Fin) (J : Value → Sem PySem.Fin) (gd : Bool → Bool) (lv : List Value → List Value) (s : Shared) (σ : L2.St) (H : Hp) (Z : GEnds),
    GC2 X S D ip A c fs gd → n + ys.length = sizeLine → GK2 X S D g ip A R c fs K Z → GI2 X S D g ip ys σ H s → t Z ys σ H →
    Seg (model X.prog X.w) A R (GY2 X S D g) n s₀ c ((exec st X.env).wrap K J gd lv) fs s
structure GSs2 (X : Cx) (st : List Stmt) (t : TGn) : Prop where
  run : ∀ (A : Around) (S D : Addr) (g : Nat) (ip : List (Addr × Obj)) (R : GenEnd) (n : Nat) (ys : List V) (s₀ : Shared) (c : Code) (fs : List Frame) (K : Flow → Sem PySem.Fin) (J : Value → Sem PySem.Fin) (gd : Bool → Bool) (lv : List Value → List Value) (s : Shared) (σ : L2.St) (H : Hp) (Z : GEnds),
    GC2 X S D ip A c fs gd → n + ys.length = sizeLine → GK2 X S D g ip A R c fs K Z → GI2 X S D g ip ys σ H s → t Z ys σ H →
    Seg (model X.prog X.w) A R (GY2 X S D g) n s₀ c ((execs st X.env).wrap K J gd lv) fs s

section
variable {X : Cx} {st : Stmt} {rest : List Stmt}
theorem sp_gsp2 {S D : Addr} {g : Nat} {acc : Array Value} {c : Nat} {od : Obj} {ip : List (Addr × Obj)} {s : Shared} {Z : GEnds} {ys : List V} {f : Flow} (r : Vals ys acc.toList) (hg : GenO g od) (h : SP X ((S, lstObj acc c) :: (D, od) :: ip) (Z.at ys) f s) : GSP2 X S D g ip Z ys f s := by
  cases f with
  | next => obtain ⟨σ, H, I, q⟩ := h; exact ⟨σ, H, ⟨acc, c, od, r, hg, I⟩, q⟩
  | brk => obtain ⟨σ, H, I, q⟩ := h; exact ⟨σ, H, ⟨acc, c, od, r, hg, I⟩, q⟩
  | cont => obtain ⟨σ, H, I, q⟩ := h; exact ⟨σ, H, ⟨acc, c, od, r, hg, I⟩, q⟩
  | ret u => obtain ⟨v, σ, H, I, r1, q⟩ := h; exact ⟨v, σ, H, ⟨acc, c, od, r, hg, I⟩, r1, q⟩
theorem gs2_ps {t : TS} (h : PS X st t) : GS2 X st (tPlain t) := by
  refine ⟨fun A S D g ip R n ys s₀ c fs K J gd lv s σ H Z k hn hk hI ht => ?_⟩
  obtain ⟨acc, cc, od, r, hg, I⟩ := hI
  refine seg_wrap ?_
  rw [k.over]
  exact wpAny_mono (h.run _ s σ H (Z.at ys) I ht) (fun f s' hs => hk n ys s₀ s' f hn (sp_gsp2 r hg hs)) fun x s' hx => (k.xe x s' hx).elim
theorem gss2_pss {t : TS} (h : PSs X rest t) : GSs2 X rest (tPlain t) := by
  refine ⟨fun A S D g ip R n ys s₀ c fs K J gd lv s σ H Z k hn hk hI ht => ?_⟩
  obtain ⟨acc, cc, od, r, hg, I⟩ := hI
  refine seg_wrap ?_
  rw [k.over]
  exact wpAny_mono (h.run _ s σ H (Z.at ys) I ht) (fun f s' hs => hk n ys s₀ s' f hn (sp_gsp2 r hg hs)) fun x s' hx => (k.xe x s' hx).elim
theorem gss2_nil : GSs2 X [] tG0 := by
  refine ⟨fun A S D g ip R n ys s₀ c fs K J gd lv s σ H Z k hn hk hI ht => ?_⟩
  exact seg_execs_nil (hk n ys s₀ s .next hn ⟨σ, H, hI, ht⟩)
theorem gss2_cons {t u : TGn} (a : GS2 X st t) (b : GSs2 X rest u) : GSs2 X (st :: rest) (tGThen t u) := by
  refine ⟨fun A S D g ip R n ys s₀ c fs K J gd lv s σ H Z k hn hk hI ht => ?_⟩
  refine seg_execs_cons ?_
  refine a.run A S D g ip R n ys s₀ c fs _ J gd lv s σ H { Z with nx := fun ys' σ' H' => u Z ys' σ' H' } k hn (fun n' ys' s₀' s' f hn' hs => ?_) hI ht
  cases f with
  | next =>
    obtain ⟨σ', H', I', q⟩ := hs
    exact b.run A S D g ip R n' ys' s₀' c fs K J gd lv s' σ' H' Z k hn' hk I' q
  | brk => exact hk n' ys' s₀' s' .brk hn' hs
  | cont => exact hk n' ys' s₀' s' .cont hn' hs
  | ret u => exact hk n' ys' s₀' s' (.ret u) hn' hs
theorem gss2_one {t : TGn} (a : GS2 X st t) : GSs2 X [st] t := by
  refine ⟨fun A S D g ip R n ys s₀ c fs K J gd lv s σ H Z k hn hk hI ht => ?_⟩
  refine seg_execs_cons ?_
  refine a.run A S D g ip R n ys s₀ c fs _ J gd lv s σ H Z k hn (fun n' ys' s₀' s' f hn' hs => ?_) hI ht
  cases f with
  | next => exact seg_execs_nil (hk n' ys' s₀' s' .next hn' hs)
  | brk => exact hk n' ys' s₀' s' .brk hn' hs
  | cont => exact hk n' ys' s₀' s' .cont hn' hs
  | ret u => exact hk n' ys' s₀' s' (.ret u) hn' hs
theorem gs2_yield {e : Expr} {yp pos : Pos} {te : TE} (he : PE X e te) (hco : X.env.scope.isCoroutine = false := by rfl) (hi : interactive X.env = false := by rfl) : GS2 X (.Expr (.Yield (some e) yp) pos) (tGYield te) := by
  refine ⟨fun A S D g ip R n ys s₀ c fs K J gd lv s σ H Z k hn hk hI ht => ?_⟩
  obtain ⟨hlt, ht⟩ := ht
  obtain ⟨n, rfl⟩ : ∃ m, n = m + 1 := ⟨n - 1, by omega⟩
  obtain ⟨acc, cc, od, r, hg, I⟩ := hI
  refine seg_Expr_Yield k.split k.gd k.guard ?_ hco hi
  rw [k.over]
  refine wpAny_mono (he.run _ s σ H _ I ht) (fun v s' hv => ?_) fun x s' hx => (k.xe x s' hx).elim
  obtain ⟨x, H1, I1, rv, q⟩ := hv
  have G1 : GI2 X S D g ip ys σ H1 s' := ⟨acc, cc, od, r, hg, I1⟩
  intro kap hkap
  refine ⟨ys, x, ip, σ, H1, hn, rv, G1, fun s'' z => hkap .none s'' ?_⟩
  refine hk n (ys ++ [x]) s'' s'' .next ?_ ⟨σ, H1, G1.woken k.pn k.aS k.aD rv z, q⟩
  rw [List.length_append, List.length_singleton]; omega
def tGIf (c : TT) (t u : TGn) : TGn := fun Z ys σ H => c σ H fun b H1 => if b = true then t Z ys σ H1 else u Z ys σ H1
theorem gs2_if {test : Expr} {a b : List Stmt} {pos : Pos} {tc : TT} {t u : TGn} (hc : PT X test tc) (ha : GSs2 X a t) (hb : GSs2 X b u) : GS2 X (.If test a b pos) (tGIf tc t u) := by
  refine ⟨fun A S D g ip R n ys s₀ c fs K J gd lv s σ H Z k hn hk hI ht => ?_⟩
  obtain ⟨acc, cc, od, r, hg, I⟩ := hI
  rw [exec_If]
  refine seg_bind_wrap (wpAny_standAt ?_)
  refine seg_bind_wrap ?_
  rw [k.over]
  refine wpAny_mono (hc.run _ s σ H _ I ht) (fun d s' hd => ?_) fun x s' hx => (k.xe x s' hx).elim
  obtain ⟨H1, I1, q⟩ := hd
  have G1 : GI2 X S D g ip ys σ H1 s' := ⟨acc, cc, od, r, hg, I1⟩
  cases d with
  | true => exact ha.run A S D g ip R n ys s₀ c fs K J gd lv s' σ H1 Z k hn hk G1 q
  | false => exact hb.run A S D g ip R n ys s₀ c fs K J gd lv s' σ H1 Z k hn hk G1 q

/-! ### for -/
def tGFor (wi : TI) (gt : TG) (tb : TGn) : TGn := fun Z ys σ H => wi σ H fun J H1 => ∃ W : Nat → Nat → List V → L2.St → Hp → Prop, (∃ m, W 0 m ys σ H1) ∧ ∀ i m ys σ H, W i m ys σ H →
  (J.stop i H ∧ Z.nx ys σ H) ∨ (J.go i H ∧ ∃ N : List V → L2.St → Hp → Prop, (∀ ys' σ' H', N ys' σ' H' → ∃ m', m' < m ∧ W (i + 1) m' ys' σ' H') ∧ ∀ x H', J.yld i H x H' → gt x σ H' fun σ2 H2 => tb { Z with nx := N, ct := N, bk := Z.nx } ys σ2 H2)
theorem GC2.loop {S D : Addr} {ip ip' : List (Addr × Obj)} {A : Around} {c c' : Code} {fs : List Frame} {gd : Bool → Bool} {k : Result → Sem PySem.Fin} {l kp : List Value} {p : Pos} (h : GC2 X S D ip A c fs gd) (hw : c'.weight = 0) (hu : c'.cUnits = 0) (hp : ∀ q ∈ ip', q.1 ≠ S ∧ q.1 ≠ D) {gd' : Bool → Bool} (hgd' : gd' false = false) :
    GC2 X S D (ip ++ ip') A c' (.ret k none (gd false) l c p kp :: fs) gd' where
  pn := fun q hq => by
    rcases List.mem_append.mp hq with z | z
    · exact h.pn q (List.mem_append_left _ z)
    · rcases List.mem_append.mp z with z | z
      · exact h.pn q (List.mem_append_right _ z)
      · exact hp q z
  aS := h.aS
  aD := h.aD
  xe := h.xe
  over := (over_loop hw hu).trans h.over
  split := by
    show (splitAtGen fs).map _ = none
    rw [h.split]; rfl
  guard := by
    show (gd false || fs.any Frame.guarded) = false
    rw [h.gd, h.guard]; rfl
  gd := hgd'
/-- one turn of a loop's code -/
theorem seg_forTurn {P : Program} {w : World} {A : Around} {R : GenEnd} {Y : Protocol} {n : Nat} {s₀ s : Shared} {target : Expr} {it : Value} {body : List Stmt} {env : Env} {fs : List Frame}
    (h : wpAny (model P w) (A.over (.forLoop target it body [] env) fs) (pyNext it) (fun r s₁ => match r with
      | none => Seg (model P w) A R Y n s₀ (.block [] env) (.pure (.done .next)) fs s₁
      | some v => wpAny (model P w) (A.over (.forLoop target it body [] env) fs) (letOwnedTupleGo target it v) (fun _ s₂ => wpAny (model P w) (A.over (.forLoop target it body [] env) fs) (assign target env v) (fun _ s₃ =>
          ∀ (K : Flow → Sem PySem.Fin) (J : Value → Sem PySem.Fin) (lv : List Value → List Value), (∀ f, K f = match f with
            | .next | .cont => .pure (.again (.forLoop target it body [] env))
            | .brk => .pure (.done .next)
            | .ret v => .pure (.done (.ret v))) → Seg (model P w) A R Y n s₀ (.forLoop target it body [] env) ((execs body env).wrap K J (fun g => g) lv) fs s₃) (fun _ _ => False) s₂) (fun _ _ => False) s₁) (fun _ _ => False) s) :
    Seg (model P w) A R Y n s₀ (.forLoop target it body [] env) ((model P w).den (.forLoop target it body [] env)) fs s := by
  show Seg _ A R Y n s₀ _ ((forTurn target it body [] env).onRaise (fun x => do noteFrame x env; theTreesLotGoes x)) fs s
  unfold forTurn
  rw [Sem.onRaise_eq_wrap]
  refine seg_bind_wrap (wpAny_standAt ?_)
  refine seg_bind_wrap (wpAny_onRaise (wpAny_mono h (fun r s₁ h₁ => ?_) fun _ _ x => x.elim))
  cases r with
  | none =>
    refine seg_again rfl ?_
    show Seg _ A R Y n s₀ _ ((execs [] env).onRaise (fun x => do noteFrame x env; theTreesLotGoes x) >>= fun f => pure (PySem.Fin.done f)) fs s₁
    refine seg_bind (wpAny_onRaise (wpAny_execs_nil ?_))
    exact h₁
  | some v =>
    refine seg_bind_wrap (wpAny_mono h₁ (fun _ s₂ h₂ => ?_) fun _ _ x => x.elim)
    refine seg_bind_wrap (wpAny_mono h₂ (fun _ s₃ h₃ => ?_) fun _ _ x => x.elim)
    rw [Sem.bind_eq_wrap', Sem.wrap_wrap]
    exact h₃ _ _ _ fun f => by cases f <;> rfl
theorem gs2_for {tg iter : Expr} {body : List Stmt} {wi : TI} {gt : TG} {tb : TGn} {pos : Pos} (hc : X.calm = true) (hi : PI X tg iter wi) (hg : PG X tg gt) (hb : GSs2 X body tb)
    (hs : ∀ x, foldedSetIterable iter X.env x = pure x := by intro _; rfl) : GS2 X (.For tg iter body [] pos) (tGFor wi gt tb) := by
  refine ⟨fun A S D g ip R n ys s₀ c fs K J gd lv s σ H Z k hn hk hI ht => ?_⟩
  obtain ⟨acc, cc, od, rv, hgo, I⟩ := hI
  rw [exec_For]
  refine seg_bind_wrap (wpAny_standAt ?_)
  refine seg_bind_wrap ?_
  rw [k.over]
  refine wpAny_mono (hi.run _ s σ H _ I ht) (fun v s1 h1 => ?_) fun x s' hx => (k.xe x s' hx).elim
  refine seg_bind_wrap (wpAny_of_eq (hs v) ?_)
  refine seg_bind_wrap (wpAny_standAt ?_)
  refine seg_bind_wrap (wpAny_holding ?_)
  rw [k.over]
  refine wpAny_mono h1 (fun itv s2 h2 => ?_) fun x s' hx => (k.xe x s' hx).elim
  obtain ⟨it, fp, tn, Jt, H2, rfl, I2, T, st2, f2, W, ⟨m0, w0⟩, turn⟩ := h2
  refine seg_call fun p => ?_
  have hSD : ∀ b ∈ fp, b ≠ S ∧ b ≠ D := fun b hb => by
    obtain ⟨_, _, _, _, _, q⟩ := f2 b hb
    exact ⟨fun z => q (S, lstObj acc cc) (List.mem_append_right _ List.mem_cons_self) z.symm, fun z => q (D, od) (List.mem_append_right _ (List.mem_cons_of_mem _ List.mem_cons_self)) z.symm⟩
  have stat : ∀ {H' : Hp} {acc' : Array Value} {c' : Nat} {od' : Obj}, (∀ b ∈ fp, H' b = none) → ∀ b ∈ fp, FpOk X ((S, lstObj acc' c') :: (D, od') :: ip) H' b := fun hn' b hb => by
    obtain ⟨_, q1, q2, q3, q4, q5⟩ := f2 b hb
    refine ⟨hn' b hb, q1, q2, q3, q4, fun r hr => ?_⟩
    rcases List.mem_append.mp hr with z | z
    · exact q5 r (List.mem_append_left _ z)
    · rcases List.mem_cons.mp z with z | z
      · rw [z]; exact Ne.symm (hSD b hb).1
      · rcases List.mem_cons.mp z with z | z
        · rw [z]; exact Ne.symm (hSD b hb).2
        · exact q5 r (List.mem_append_right _ (List.mem_cons_of_mem _ (List.mem_cons_of_mem _ z)))
  have loop : ∀ (m i n : Nat) (ys : List V) (s₀ s : Shared) (σ : L2.St) (H : Hp), n + ys.length = sizeLine → GI2 X S D g ip ys σ H s → tn i s.heap → (∀ b ∈ fp, H b = none) → W i m ys σ H →
      Seg (model X.prog X.w) A R (GY2 X S D g) n s₀ (.forLoop tg (.ref it) body [] X.env) ((model X.prog X.w).den (.forLoop tg (.ref it) body [] X.env))
        (.ret (fun r => ((match r with | .ok f => (.pure f : Sem Flow) | .error e => .raise e).onRaise (cameBack X.env)).wrap K J gd lv) none (gd false) (lv []) c p [] :: fs) s := by
    intro m
    induction m using Nat.strongRecOn with
    | ind m ih =>
      intro i n ys s₀ s3 σ3 H3 hn hI st3 fr3 w3
      obtain ⟨acc3, c3, od3, rv3, hg3, I3⟩ := hI
      have kl := fun (ip' : List (Addr × Obj)) (hp : ∀ q ∈ ip', q.1 ≠ S ∧ q.1 ≠ D) => GC2.loop (ip' := ip') (k := fun r => ((match r with | .ok f => (.pure f : Sem Flow) | .error e => .raise e).onRaise (cameBack X.env)).wrap K J gd lv) (c' := .forLoop tg (.ref it) body [] X.env) (l := lv []) (kp := []) (p := p) k rfl rfl hp (gd' := fun g => g) rfl
      refine seg_forTurn ?_
      rw [(kl [] (fun _ h => by cases h)).over]
      rcases turn i m ys σ3 H3 w3 with ⟨stop, qn⟩ | ⟨go, N, hN, step⟩
      · refine thn (T.done X rfl rfl rfl hc i _ s3 σ3 H3 (fun _ _ => False) I3 (stat fr3) st3 stop) fun r s4 ⟨hr, I4⟩ => ?_
        subst hr
        exact seg_leaf (.ok .next) (hk n ys s₀ s4 .next hn ⟨σ3, H3, ⟨acc3, c3, od3, rv3, hg3, I4⟩, qn⟩)
      · refine thn (T.item X rfl rfl rfl hc i _ s3 σ3 H3 (fun _ _ => False) I3 (stat fr3) st3 go) fun r s4 ⟨u, hr, h4⟩ => ?_
        subst hr
        refine thn h4 fun _ s5 ⟨x, H5, I5, r5, y5, st5, fr5⟩ => ?_
        have I5' := I5.pinned (stat fr5) (T.obj _ _ st5)
        refine wpAny_mono (hg.run _ s5 σ3 H5 x u _ I5' r5 (step x H5 y5)) (fun _ s6 ⟨σ6, H6, I6, q6⟩ => ?_) fun x s' hx => k.xe x s' hx
        intro K' J' lv' hK'
        have hpins : ∀ q ∈ pinsAt fp s5.heap, q.1 ≠ S ∧ q.1 ≠ D := fun q hq => hSD q.1 (of_pinsAt hq).1
        refine hb.run A S D g (ip ++ pinsAt fp s5.heap) R n ys s₀ _ _ K' J' (fun g => g) lv' s6 σ6 H6 { Z with nx := N, ct := N, bk := Z.nx } (kl _ hpins) hn (fun n' ys' s₀' s7 f hn' hs7 => ?_) ⟨acc3, c3, od3, rv3, hg3, I6⟩ q6
        rw [hK' f]
        have again : ∀ {σ7 : L2.St} {H7 : Hp}, GI2 X S D g (ip ++ pinsAt fp s5.heap) ys' σ7 H7 s7 → N ys' σ7 H7 → Seg (model X.prog X.w) A R (GY2 X S D g) n' s₀' (.forLoop tg (.ref it) body [] X.env) (.pure (.again (.forLoop tg (.ref it) body [] X.env)))
            (.ret (fun r => ((match r with | .ok f => (.pure f : Sem Flow) | .error e => .raise e).onRaise (cameBack X.env)).wrap K J gd lv) none (gd false) (lv []) c p [] :: fs) s7 := fun {σ7 H7} ⟨acc7, c7, od7, rv7, hg7, I7⟩ n7 => by
          obtain ⟨m', hm, w7⟩ := hN ys' σ7 H7 n7
          have pin7 : ∀ b o, (b, o) ∈ pinsAt fp s5.heap → s7.heap.get? b = some o ∧ H7 b = none := fun b o hb => by
            have q := I7.pin (b, o) (List.mem_append_right _ (List.mem_cons_of_mem _ (List.mem_cons_of_mem _ (List.mem_append_right _ hb))))
            exact ⟨q.1, q.2.1⟩
          refine seg_again rfl (ih m' hm (i + 1) n' ys' s₀' s7 σ7 H7 hn' ⟨acc7, c7, od7, rv7, hg7, I7.pins_of fun q hq => I7.pin q (List.mem_append_right _ ?_)⟩ (T.keep _ _ _ st5 fun b hb o e => (pin7 b o (mem_pinsAt hb e)).1) (fun b hb => ?_) w7)
          · rcases List.mem_cons.mp hq with z | z
            · rw [z]; exact List.mem_cons_self
            · rcases List.mem_cons.mp z with z | z
              · rw [z]; exact List.mem_cons_of_mem _ List.mem_cons_self
              · exact List.mem_cons_of_mem _ (List.mem_cons_of_mem _ (List.mem_append_left _ z))
          · obtain ⟨o, e, d⟩ := T.obj _ _ st5 b hb
            exact (pin7 b o (mem_pinsAt hb e)).2
        have unp : ∀ {σ7 : L2.St} {H7 : Hp}, GI2 X S D g (ip ++ pinsAt fp s5.heap) ys' σ7 H7 s7 → GI2 X S D g ip ys' σ7 H7 s7 := fun {σ7 H7} ⟨acc7, c7, od7, rv7, hg7, I7⟩ => ⟨acc7, c7, od7, rv7, hg7, I7.pins_of fun q hq => I7.pin q (List.mem_append_right _ (by
          rcases List.mem_cons.mp hq with z | z
          · rw [z]; exact List.mem_cons_self
          · rcases List.mem_cons.mp z with z | z
            · rw [z]; exact List.mem_cons_of_mem _ List.mem_cons_self
            · exact List.mem_cons_of_mem _ (List.mem_cons_of_mem _ (List.mem_append_left _ z))))⟩
        cases f with
        | next => obtain ⟨σ7, H7, I7, n7⟩ := hs7; exact again I7 n7
        | cont => obtain ⟨σ7, H7, I7, n7⟩ := hs7; exact again I7 n7
        | brk => obtain ⟨σ7, H7, I7, q7⟩ := hs7; exact seg_leaf (.ok .next) (hk n' ys' s₀' s7 .next hn' ⟨σ7, H7, unp I7, q7⟩)
        | ret v => obtain ⟨x7, σ7, H7, I7, r7, q7⟩ := hs7; exact seg_leaf (.ok (.ret v)) (hk n' ys' s₀' s7 (.ret v) hn' ⟨x7, σ7, H7, unp I7, r7, q7⟩)
  exact loop m0 0 n ys s₀ s2 σ H2 hn ⟨acc, cc, od, rv, hgo, I2⟩ st2 (fun b hb => (f2 b hb).1) w0
end
end Gap
/-! ## G4 -/
set_option Elab.async false
set_option linter.all false
set_option maxRecDepth 100000
set_option maxHeartbeats 4000000
/-! G4: the promise of a generator def to which another generator delegates, by its body. -/
namespace Gap
open PySem PySem.Spec PyProof.Rows GenW L2
open Sem (wp)

/-- the context of its body: the consumer's list at S may change, no exception leaves -/
def bcx (P : Program) (w : World) (K : PySem.W.Frag) (mg : Str → Option Value) (base : Heap) (N : List Str) (qual : Str) (scope : Scope) (f : Addr) (cd : Value) (A : Around) (outer : List Env) (s : Shared) (H : Hp) (S : Addr) : Cx :=
  { cxOf CX0 P w K mg base N qual scope f cd A outer s H E0 with
    ex := [S]
    xe := fun _ _ => False }
/-- an item is handed out -/
def YItem2 (outer : List Env) (H : Hp) (s : Shared) (S D : Addr) (g : Nat) : Protocol := fun n s₀ v s1 kap =>
  s1.os = s.os ∧ AllBare s1.gens ∧ s1.heap.NoLimit ∧ (∃ o, s1.heap.get? D = some o ∧ GenO g o) ∧ (∃ (acc : Array Value) (c : Nat), s1.heap.get? S = some (lstObj acc c) ∧ n + 1 + acc.size = sizeLine) ∧
  (∀ b o, s.heap.get? b = some o → H b = none → b ∉ frs outer → b ≠ S → s1.heap.get? b = some o) ∧ s.heap.objs.size ≤ s1.heap.objs.size ∧ ∀ s', Slept2 S D g v s1 s' → kap (.send .none) s'
/-- the end of its run -/
def REnd2 (P : Program) (w : World) (outer : List Env) (H : Hp) (s : Shared) (S D : Addr) (g : Nat) (Q : List V → Hp → Prop) : GenEnd := fun n s₀ r s1 =>
  r = .ok (.ret .none) ∧ ∃ H' ys acc c, s1.os = s.os ∧ AllBare s1.gens ∧ Un (frs outer) [S] H H' s.heap s1.heap ∧ HOk P w H' s1.heap ∧ H' S = none ∧ H' D = none ∧ s1.heap.get? S = some (lstObj acc c) ∧ Vals ys acc.toList ∧ ys.length ≤ sizeLine ∧ Q ys H'
/-- what a call of it gives -/
def GMade2 (P : Program) (w : World) (k : Nat) (base : Heap) (outer : List Env) (H : Hp) (s : Shared) (Q : List V → Hp → Prop) (u : Value) (s' : Shared) : Prop :=
  ∃ (D : Addr) (g : Nat) (c : Code), u = .ref D ∧ s.heap.objs.size ≤ D ∧ D < s'.heap.objs.size ∧ (∃ o, s'.heap.get? D = some o ∧ GenO g o) ∧ g = s.gens.size ∧ s'.gens[g]? = some (.fresh c) ∧ (∀ (i : Nat) (x : GenState), s.gens[i]? = some x → s'.gens[i]? = some x) ∧ s'.os = s.os ∧ AllBare s'.gens ∧ s'.heap.NoLimit ∧
    (∀ b o, s.heap.get? b = some o → s'.heap.get? b = some o) ∧
    ∀ (A : Around) (S : Addr) (s2 : Shared), Room k A → A.frames = some outer → (∃ c, s.heap.get? S = some (lstObj #[] c)) → H S = none → S ∉ frs outer → base.get? S = none → s2.heap = s'.heap → s2.os = s.os → AllBare s2.gens →
      Seg (model P w) A (REnd2 P w outer H s S D g Q) (YItem2 outer H s S D g) sizeLine s2 c ((model P w).den c) [] s2
abbrev SpG2 := List V → Hp → (List V → Hp → Prop) → Prop
structure GFn2 (P : Program) (w : World) (K : PySem.W.Frag) (mg : Str → Option Value) (base : Heap) (k : Nat) (f : Addr) (fd : FuncData) (ps : List Str) (sp : SpG2) : Prop where
  len : ∀ vs H Q, sp vs H Q → vs.length = ps.length
  run : ∀ (A : Around) (outer : List Env) (s : Shared) (H : Hp) (args : Args) (us : List Value) (vs : List V) (Q : List V → Hp → Prop), Room k A → Env0 P w K mg base A outer s H → BindsTo s fd args (ps.zip us) → Vals vs us → sp vs H Q →
    codeAny (model P w) A (.call (.ref f) args) (fun r s' => match r with | .ok (.ret u) => GMade2 P w k base outer H s Q u s' | _ => False) s

theorem inv_startB {P : Program} {w : World} {K : PySem.W.Frag} {mg : Str → Option Value} {base : Heap} {N ps : List Str} {qual : Str} {scope : Scope} {f : Addr} {cd : Value} {A : Around} {outer : List Env} {s s1 : Shared} {H : Hp} {us : List Value} {vs : List V} {Sx : Addr}
    (S : GScope N ps scope) (hd : A.handled = none) (e0 : Env0 P w K mg base A outer s H) (hl : vs.length = ps.length) (r : Vals vs us) (hS1 : Sx < s.heap.objs.size) (hS3 : Sx ∉ frs outer) (hS4 : base.get? Sx = none)
    (x : InCallC s s.heap.objs.size (bindL (envOfC qual scope s.heap.objs.size f cd).kindOf (ps.zip us) fun _ => none) (cellsFrom (s.heap.objs.size + 1) scope.names []) (bindC (envOfC qual scope s.heap.objs.size f cd).kindOf (ps.zip us) fun _ => none) s1) :
    Inv (bcx P w K mg base N qual scope f cd A outer s H Sx) [] (L2.start N vs) H s1 := by
  have hpl : ps.length ≤ N.length := by have := congrArg List.length S.pre; rw [List.length_take] at this; omega
  obtain ⟨h1, tk, rfl, hk⟩ := x.done
  have noA : ∀ b : Addr, b ∈ (bcx P w K mg base N qual scope f cd A outer s H Sx).ex → b = Sx := fun b z => by
    have z : b ∈ [Sx] := z
    simpa using z
  refine ⟨⟨e0.mod, S.kind, rfl, rfl, Nat.le_refl _, fun y z c h1 h2 => ?_, fun y hy => ?_, fun y c _ h => ?_, fun _ => hd, Around.frames_deeper e0.frames, .inr ⟨rfl, rfl⟩, fun b z => ?_, e0.bs, e0.bsz, fun b o q z => ?_, fun b z => ?_, e0.funs, e0.frf⟩,
    rfl, e0.bare, Un.kept hk, ⟨_, x.toInCall.ns, fun i y v h1 h2 h3 => ?_⟩, fun y c h => ⟨_, x.cell y c h⟩, e0.hok.fresh (Nat.le_refl _), fun y c h => ?_, fun p hp => absurd (show p ∈ ([] : List (Addr × Obj)) from hp) (by simp), e0.hok.kept hk, ?_⟩
  · exact name_of_addr x.apart (PySem.mem_of_lookup h1) (PySem.mem_of_lookup h2)
  · have hy : scope.names.lookup y = some .cell ∨ scope.names.lookup y = some .free := hy
    rcases hy with hy | hy
    · exact cell_has hy
    · exact absurd rfl (S.nofree _ (PySem.mem_of_lookup hy))
  · exact Nat.le_of_lt (x.above y c (PySem.mem_of_lookup h))
  · rw [noA b z]
    refine ⟨Nat.ne_of_lt hS1, fun y c e q => ?_⟩
    have e2 := x.above y c (PySem.mem_of_lookup e)
    rw [q] at e2
    exact absurd (Nat.lt_trans e2 hS1) (Nat.lt_irrefl _)
  · have q : base.get? b = some o := q
    rw [noA b z, hS4] at q; cases q
  · rw [noA b z]; exact hS3
  · have hi : i < vs.length := by
      unfold L2.start at h2
      by_cases hi : i < vs.length
      · exact hi
      · rw [List.getElem?_append_right (by simpa using hi)] at h2
        rw [List.getElem?_replicate] at h2
        split at h2 <;> cases h2
    have ha : vs[i]? = some v := by
      unfold L2.start at h2
      rw [List.getElem?_append_left (by simpa using hi), List.getElem?_map] at h2
      cases e : vs[i]? with
      | none => rw [e] at h2; cases h2
      | some a => rw [e] at h2; cases h2; rfl
    obtain ⟨u, hu, rv⟩ := r.get ha
    have hp : ps[i]? = some y := by
      rw [← S.pre, List.getElem?_take_of_lt (by omega)]; exact h1
    have ndP : ps.Nodup := by rw [← S.pre]; exact S.nd.sublist (List.take_sublist _ _)
    refine ⟨u, rv, ?_⟩
    rcases S.par y (List.mem_of_getElem? hp) with k | k
    · exact .inl ⟨k, bindL_get ndP hp hu k⟩
    · obtain ⟨c, e⟩ := cell_has (n := s.heap.objs.size + 1) k
      refine .inr ⟨.inl k, c, e, ?_⟩
      have q := x.cell y c e
      rw [bindC_get ndP hp hu (by show scope.names.lookup y ≠ _; rw [k]; decide)] at q
      exact q
  · exact e0.hok.fresh (Nat.le_of_lt (x.above y c (PySem.mem_of_lookup h)))
  · unfold L2.start
    show _ = N.length
    rw [List.length_append, List.length_map, List.length_replicate]
    omega

theorem gfn2_of {P : Program} {w : World} {K : PySem.W.Frag} {mg : Str → Option Value} {base : Heap} {k : Nat} {f : Addr} {name qual : Str} {params : Arguments} {body : List Stmt} {scope : Scope} {dV kV doc pm cdv ct oc : Value} {an od : Option Addr}
    {osl : Array (Option Value)} {N ps : List Str} {sp : SpG2} (lk : K.lookup f = some ⟨oc, od, .func (PySem.W.fnOf name qual params body scope dV kV doc pm an cdv ct), osl⟩) (hcd : PySem.W.codeIn K cdv qual = true) (S : GScope N ps scope)
    (len : ∀ vs H Q, sp vs H Q → vs.length = ps.length)
    (hbody : ∀ (A : Around) (outer : List Env) (s : Shared) (H : Hp) (vs : List V) (Q : List V → Hp → Prop) (Sx : Addr), Room k (A.deeper (envOfC qual scope s.heap.objs.size f cdv)) → sp vs H Q →
      ∃ t, GSs2 (bcx P w K mg base N qual scope f cdv A outer s H Sx) body t ∧ t { nx := fun ys _ H' => Q ys H', rt := fun ys v H' => v = .non ∧ Q ys H' } [] (L2.start N vs) H) :
    GFn2 P w K mg base (k + 1) f (PySem.W.fnOf name qual params body scope dV kV doc pm an cdv ct) ps sp := by
  refine ⟨len, fun A outer s H args us vs Q hr e0 hb r hsp => ?_⟩
  have hl := len _ _ _ hsp
  have KX : K.In s.heap := e0.mod.kin.keeps fun b o e => (e0.bs b o e).1
  have lim : s.heap.NoLimit := e0.mod.nolimit.keeps fun b o e => (e0.bs b o e).1
  have hkind : ∀ y ∈ ps.zip us, scope.names.lookup y.1 = some .local ∨ (scope.names.lookup y.1 = some .cell ∧ ((cellsFrom (s.heap.objs.size + 1) scope.names []).lookup y.1).isSome = true) := fun ⟨n, v⟩ hy => by
    rcases S.par n (List.of_mem_zip hy).1 with q | q
    · exact .inl q
    · exact .inr ⟨q, PySem.W.cellsFrom_some _ _ _ (.inl q)⟩
  refine codeAny_call_generator hr.depth (KX _ _ lk) rfl S.co S.gen rfl (PySem.W.codeRec_of KX hcd) (hb _ _ _ _ ?_)
  refine wpAny_newFunctionEnv_cells S.kind hkind fun env he s1 x => ?_
  subst he
  have lim1 : s1.heap.NoLimit := lim.keeps x.toInCall.keep
  refine ⟨lim1, ?_⟩
  obtain ⟨h1, tk, es1, hk1⟩ := x.done
  have os1 : s1.os = s.os := by rw [es1]
  have gen1 : s1.gens = s.gens := by rw [es1]
  have lt1 : s.heap.objs.size < s1.heap.objs.size := x.toInCall.ns.lt
  have sz1 : s.heap.objs.size ≤ s1.heap.objs.size := Nat.le_of_lt lt1
  have kp1 : ∀ b o, s.heap.get? b = some o → s1.heap.get? b = some o := x.toInCall.keep
  have main : ∀ (go : Obj) (nm qn : Value) (tk2 : Nat), go.cls = .type "generator" → go.data = .fields #[.int s1.gens.size 0, nm, qn] → go.slots = #[] → (∀ h : Heap, (h.push go).get? h.objs.size = some go) →
      GMade2 P w (k + 1) base outer H s Q (.ref s1.heap.objs.size) { s1 with gens := s1.gens.push (.fresh (.func body (envOfC qual scope s.heap.objs.size f cdv))), toks := tk2, heap := s1.heap.push go } := by
    intro go nm qn tk2 hgc hgd0 hgs hgp
    have hgo : GenO s1.gens.size go := ⟨hgc, ⟨nm, qn, hgd0⟩, .inl hgs⟩
    have hpushed : (s1.heap.push go).get? s1.heap.objs.size = some go := hgp _
    refine ⟨s1.heap.objs.size, s1.gens.size, _, rfl, sz1, ?_, ⟨go, hpushed, hgo⟩, by rw [gen1], Array.getElem?_push_size .., fun i y e => ?_, os1, ?_, lim1.keeps fun b o e => Heap.get?_push_of_some _ e, fun b o e => Heap.get?_push_of_some _ (kp1 b o e), ?_⟩
    · show _ < (s1.heap.push _).objs.size
      rw [Heap.size_push]; exact Nat.lt_succ_self _
    · show (s1.gens.push _)[i]? = some y
      rw [gen1, Array.getElem?_push]
      rw [if_neg (Nat.ne_of_lt (Array.getElem?_eq_some_iff.mp e).1)]
      exact e
    · exact AllBare.push (by rw [gen1]; exact e0.bare) rfl
    intro Aw Sx s2 hrw hfr hSo hSn hSf hSb hk2 hos hba
    obtain ⟨cS, heS0⟩ := hSo
    have hSlt : Sx < s.heap.objs.size := Heap.lt_size heS0
    have e0w : Env0 P w K mg base Aw outer s H := ⟨hfr, e0.mod, e0.bs, e0.bsz, e0.funs, e0.frf, e0.hok, e0.bare⟩
    obtain ⟨t, ht, hq⟩ := hbody Aw outer s H vs Q Sx (hrw.deeper _) hsp
    have I1 : Inv (bcx P w K mg base N qual scope f cdv Aw outer s H Sx) [] (L2.start N vs) H s1 := inv_startB S hrw.hd e0w hl r hSlt hSf hSb x
    have kp2 : ∀ b o, s1.heap.get? b = some o → s2.heap.get? b = some o := fun b o e => by rw [hk2]; exact Heap.get?_push_of_some _ e
    have I2 : Inv (bcx P w K mg base N qual scope f cdv Aw outer s H Sx) [] (L2.start N vs) H s2 :=
      I1.call' (ch := []) (hos.trans os1.symm) (Un.kept kp2) (I1.hok.kept kp2) hba fun b z => by simp at z
    have heS : s2.heap.get? Sx = some (lstObj #[] cS) := kp2 _ _ (kp1 _ _ heS0)
    have heD : s2.heap.get? s1.heap.objs.size = some go := by rw [hk2]; exact hpushed
    have young : ∀ b, s1.heap.objs.size ≤ b → H b = none ∧ b ≠ s.heap.objs.size ∧ b ∉ frs outer ∧ s.heap.objs.size ≤ b ∧ ∀ y c, (cellsFrom (s.heap.objs.size + 1) scope.names []).lookup y = some c → c ≠ b := fun b hb => by
      refine ⟨I1.hok.fresh hb, Nat.ne_of_gt (Nat.lt_of_lt_of_le lt1 hb), I1.nofs hb, Nat.le_trans sz1 hb, fun y c e z => ?_⟩
      obtain ⟨v, ob, ho, _⟩ := I1.cell y c e
      have := Heap.lt_size ho
      rw [z] at this
      exact absurd (Nat.lt_of_lt_of_le this hb) (Nat.lt_irrefl _)
    obtain ⟨y1, y2, y3, y4, y5⟩ := young s1.heap.objs.size (Nat.le_refl _)
    have hSD : Sx ≠ s1.heap.objs.size := Nat.ne_of_lt (Nat.lt_trans hSlt lt1)
    have hSL : Sx ≠ s.heap.objs.size := Nat.ne_of_lt hSlt
    have hG : GI2 (bcx P w K mg base N qual scope f cdv Aw outer s H Sx) Sx s1.heap.objs.size s1.gens.size [] [] (L2.start N vs) H s2 := by
      refine ⟨#[], cS, go, .nil, hgo, I2.pins_of fun p hp => ?_⟩
      rcases List.mem_cons.mp hp with z | z
      · rw [z]
        exact ⟨heS, hSn, hSL, hSf, fun v q => by cases q⟩
      · rw [List.mem_singleton.mp z]
        exact ⟨heD, y1, y2, y3, hgo.nocell⟩
    have aS : Apart2 (bcx P w K mg base N qual scope f cdv Aw outer s H Sx) Sx := by
      refine ⟨.inl (List.mem_singleton.mpr rfl), hSL, fun y c e q => ?_⟩
      have e2 := x.above y c (PySem.mem_of_lookup e)
      rw [q] at e2
      exact absurd (Nat.lt_trans e2 hSlt) (Nat.lt_irrefl _)
    have aD : Apart2 (bcx P w K mg base N qual scope f cdv Aw outer s H Sx) s1.heap.objs.size := ⟨.inr y4, y2, y5⟩
    refine seg_func ?_
    refine seg_imp (R := GR2 (bcx P w K mg base N qual scope f cdv Aw outer s H Sx) Sx s1.heap.objs.size s1.gens.size Q)
      (Y := GY2 (bcx P w K mg base N qual scope f cdv Aw outer s H Sx) Sx s1.heap.objs.size s1.gens.size) (fun n s₀ r s1' hR => ?_) (fun n s₀ v s1' kap kap' hkk hY => ?_) sizeLine ?_
    · cases r with
      | error e => exact hR.elim
      | ok fl =>
        cases fl with
        | next => exact hR.elim
        | brk => exact hR.elim
        | cont => exact hR.elim
        | ret u =>
          obtain ⟨eu, ys, ip, σ', H', hn, hI, hQ⟩ := hR
          subst eu
          obtain ⟨a1, a2, ⟨acc, cc, ra, ea⟩, _⟩ := hI.at
          obtain ⟨_, _, _, _, _, J⟩ := hI
          exact ⟨rfl, H', ys, acc, cc, J.os, J.bare, J.base, J.hok, a1, a2, ea, ra, by omega, hQ⟩
    · obtain ⟨ys, xx, ip, σ', H', hn, h2, hI, h3⟩ := hY
      obtain ⟨_, _, ⟨acc, cc, ra, ea⟩, hd, _⟩ := hI.at
      obtain ⟨_, _, _, _, _, J⟩ := hI
      have hsz : acc.size = ys.length := by
        have e1 := ra.length
        have e2 : acc.toList.length = acc.size := by simp
        omega
      exact ⟨J.os, J.bare, J.nolimit, hd, ⟨acc, cc, ea, by rw [hsz]; exact hn⟩, fun b o e1 e2 e3 e4 => J.base.keep b o e1 e2 e3 (fun z => e4 (List.mem_singleton.mp z)), J.sz, fun s' z => hkk _ _ (h3 s' z)⟩
    · refine ht.run Aw Sx s1.heap.objs.size s1.gens.size [] _ sizeLine [] s2 _ [] _ _ id id s2 (L2.start N vs) H _ ⟨fun p hp => (by cases hp), aS, aD, fun _ _ z => z, over_func, rfl, rfl, rfl⟩ (Nat.add_zero _) (fun n ys s₀ s' fl hn hs => ?_) hG hq
      cases fl with
      | next =>
        obtain ⟨σ', H', hI, hQ⟩ := hs
        exact seg_end (.ok (.ret .none)) ⟨rfl, ys, [], σ', H', hn, hI, hQ⟩
      | brk => obtain ⟨_, _, _, q⟩ := hs; exact False.elim q
      | cont => obtain ⟨_, _, _, q⟩ := hs; exact False.elim q
      | ret u =>
        obtain ⟨v, σ', H', hI, rv, ev, hQ⟩ := hs
        subst ev
        obtain rfl : u = Value.none := rv
        exact seg_end (.ok (.ret .none)) ⟨rfl, ys, [], σ', H', hn, hI, hQ⟩
  exact main _ _ _ _ rfl rfl rfl fun h => Heap.get?_push_size _ rfl
end Gap
/-! ## G5 -/
set_option Elab.async false
set_option linter.all false
set_option maxRecDepth 100000
set_option maxHeartbeats 4000000
/-! G5: «yield from» over a generator: its turns, segment by segment. -/
namespace Gap
open PySem PySem.Spec PyProof.Rows GenW L2
open Sem (wp)

theorem genNumber_of {g : Nat} {o : Obj} (h : GenO g o) : o.genNumber?.isSome = true := by
  obtain ⟨nm, qn, e⟩ := h.data
  unfold Obj.genNumber?
  rw [h.cls, e]
  rfl
section
variable {M : Model} {A : Around} {E : Value → Shared → Prop} {s : Shared}
theorem wpAny_genNumber2 {a : Addr} {g : Nat} {o : Obj} {Q : Nat → Shared → Prop} (ho : s.heap.get? a = some o) (hg : GenO g o) (h : Q g s) : wpAny M A (Builtin.Generator.genNumber (.ref a)) Q E s := by
  obtain ⟨nm, qn, hd⟩ := hg.data
  unfold Builtin.Generator.genNumber
  refine wpAny_bind (wpAny_load ho ?_)
  rcases hg.slots with hsl | hsl
  · rw [hsl, hd]
    show wpAny M A (pure ((g : Int).toNat)) Q E s
    rw [Int.toNat_natCast]; exact wpAny_pure h
  · rw [hsl, hd]
    show wpAny M A (do
      if (0 : Int) > 0 then _ else _) Q E s
    refine wpAny_bind (wpAny_pure ?_)
    show wpAny M A (pure ((g : Int).toNat)) Q E s
    rw [Int.toNat_natCast]; exact wpAny_pure h
end
/-- .. marked: one sleeps over it -/
structure GenA (g : Nat) (o : Obj) : Prop where
  cls : o.cls = .type "generator"
  data : ∃ nm qn, o.data = .fields #[.int g 0, nm, qn]
  slots : o.slots = #[some (.int 1 0)]
section
variable {M : Model} {A : Around} {E : Value → Shared → Prop} {s : Shared}
theorem heap_upd_of {h : Heap} {a : Addr} {o : Obj} {f : Obj → Obj} (ho : h.get? a = some o) (hf : (f o).isFreed = false) : (h.update a f).get? a = some (f o) := Heap.get?_update_self f ho hf
theorem wpAny_mark {D : Addr} {g : Nat} {o : Obj} {Q : Unit → Shared → Prop} (ho : s.heap.get? D = some o) (hg : GenO g o)
    (h : ∀ h' o', h'.get? D = some o' → GenA g o' → (∀ b u, b ≠ D → s.heap.get? b = some u → h'.get? b = some u) → h'.objs.size = s.heap.objs.size → Q () { s with heap := h' }) :
    wpAny M A (Builtin.Generator.sleptOver (.ref D) true) Q E s := by
  obtain ⟨hc, ⟨nm, qn, hd⟩, hsl⟩ := hg
  unfold Builtin.Generator.sleptOver
  refine wpAny_bind (wpAny_load ho ?_)
  rw [hc, if_neg (by decide)]
  refine wpAny_bind (wpAny_pure ?_)
  refine wpAny_updatePart ho ?_
  refine h _ _ (heap_upd_of ho ?_) ?_ (fun b u hb e => ?_) ?_
  · exact Obj.isFreed_of_fields (o := { o with slots := _ }) hd
  · refine ⟨hc, ⟨nm, qn, hd⟩, ?_⟩
    rcases hsl with q | q <;> (rw [q]; rfl)
  · exact (Heap.get?_update_other _ _ (Ne.symm hb)).trans e
  · simp [Heap.update]
theorem wpAny_unmark {D : Addr} {g : Nat} {o : Obj} {Q : Unit → Shared → Prop} (ho : s.heap.get? D = some o) (hg : GenA g o)
    (h : ∀ h' o', h'.get? D = some o' → GenO g o' → (∀ b u, b ≠ D → s.heap.get? b = some u → h'.get? b = some u) → h'.objs.size = s.heap.objs.size → Q () { s with heap := h' }) :
    wpAny M A (Builtin.Generator.sleptOver (.ref D) false) Q E s := by
  obtain ⟨hc, ⟨nm, qn, hd⟩, hsl⟩ := hg
  unfold Builtin.Generator.sleptOver
  refine wpAny_bind (wpAny_load ho ?_)
  rw [hc, if_neg (by decide)]
  refine wpAny_bind (wpAny_pure ?_)
  refine wpAny_updatePart ho ?_
  refine h _ _ (heap_upd_of ho ?_) ?_ (fun b u hb e => ?_) ?_
  · exact Obj.isFreed_of_fields (o := { o with slots := _ }) hd
  · refine ⟨hc, ⟨nm, qn, hd⟩, .inr ?_⟩
    rw [hsl]; rfl
  · exact (Heap.get?_update_other _ _ (Ne.symm hb)).trans e
  · simp [Heap.update]
theorem close_gen : ∃ v, typeLookup (.type "generator") "close" = pure (some v) := by
  rw [typeLookup_type, builtinLookup_eq_fast]
  exact ⟨.builtin "generator.close", by kernel_rfl⟩
end
section
variable {P : Program} {w : World} {A : Around} {E : Value → Shared → Prop} {s : Shared}
/-- one turn of the generator at D by its __next__ -/
theorem special_next_B {D : Addr} {g n : Nat} {od : Obj} {gs : GenState} {F : Nat → Shared → Shared → Prop} {Y : Protocol} {Q : Option Value → Shared → Prop} (hh : A.handled = none) (hl : s.heap.NoLimit) (hroom : A.depth < recursionLimit)
    (ho : s.heap.get? D = some od) (hg : GenO g od) (hgs : s.gens[g]? = some gs)
    (hgo : gs.Goes (model P w) A.in1 (fun n s₀ r s₁ => r = .ok (.ret .none) ∧ F n s₀ s₁) Y n (.send .none) (s.setGen g .running))
    (hY : ∀ v s₁ gs', gs'.bare = true → Y (n - 1) (s.setGen g .running) v s₁ (fun r' s'' => match n with
        | 0 => False
        | m + 1 => gs'.Goes (model P w) A.in1 (fun n s₀ r s₁ => r = .ok (.ret .none) ∧ F n s₀ s₁) Y m r' s'') → Q (some v) (s₁.setGen g gs'))
    (hP : ∀ s₁, F n (s.setGen g .running) s₁ → ∀ e h', StopX e h' → (∀ b o, s₁.heap.get? b = some o → h'.get? b = some o) → E e { s₁.setGen g .finished with heap := h' }) :
    wpAny (model P w) A (callSpecial? (.ref D) "__next__") Q E s := by
  have hT : s.TypeIs (.ref D) "generator" := ⟨od, ho, hg.cls⟩
  refine wpAny_callSpecial?_slot (name := Str.ofString "__next__") hT slot_gen_next (wpAny_call_entry slot_gen_next hT entry_gen_next ?_ (args_gen_next _))
  show wpAny _ A.in1 (Builtin.Generator.genWake (.ref D) (.send .none)) _ _ s
  unfold Builtin.Generator.genWake
  refine wpAny_bind (wpAny_holding (wpAny_genNumber2 ho hg (wpAny_bind (wpAny_genState hgs ?_))))
  cases gs with
  | running => exact hgo.elim
  | finished => exact hgo.elim
  | _ =>
    refine wpAny_bind (wpAny_roomToWake hl hroom ?_)
    show wpAny _ A.in1 (.resume g (.send .none) [] _) _ _ s
    refine wpAny_resumeQ hgs hgo (fun x s₁ hx => ?_) (fun v s₁ gs' hb hv => ?_)
    · obtain ⟨rfl, hp⟩ := hx
      show wpAny _ A.in1 (newExc (.type "StopIteration") [] >>= _) _ _ _
      refine wpAny_bind ?_
      simp only [newExc, newTuple]
      refine wpAny_bind (wpAny_newObj_type ?_ (by size_fits))
      refine wpAny_bind (m := firstArgMember _ _) (wpAny_of_eq (a := Value.none) (by first | rfl | (simp only [firstArgMember]; rfl)) ?_)
      refine wpAny_newObj_type ?_ (by size_fits)
      simp only [raiseNew]
      refine wpAny_bind (wpAny_bind (wpAny_handled ?_))
      first | rw [show A.in1.handled = none from hh] | rw [hh]
      refine wpAny_throw ?_
      refine hP s₁ hp _ _ ⟨_, _, _, rfl, Heap.get?_push_size _ rfl, rfl, rfl, ?_⟩ fun b o hb => Heap.get?_push_of_some _ (Heap.get?_push_of_some _ hb)
      first
        | rfl
        | (rw [Array.getElem?_append_left (by decide)]; rfl)
        | kernel_rfl
    · exact wpAny_pure ⟨v, rfl, hY v s₁ gs' hb hv⟩
end
end Gap
/-! ## G6 -/
set_option Elab.async false
set_option linter.all false
set_option maxRecDepth 100000
set_option maxHeartbeats 4000000
/-! G6: a generator that delegates to a generator, turn by turn. -/
namespace Gap
open PySem PySem.Spec PyProof.Rows GenW L2
open Sem (wp)

/-- while the outer generator sleeps: the list has one item more; no other generator turns -/
structure SleptA (S : Addr) (gA : Nat) (v : Value) (s s' : Shared) : Prop where
  os : s'.os = s.os
  bare : AllBare s'.gens
  keep : ∀ b o, b ≠ S → s.heap.get? b = some o → s'.heap.get? b = some o
  own : ∀ acc c, s.heap.get? S = some (lstObj acc c) → ∃ c', s'.heap.get? S = some (lstObj (acc.push v) c')
  gens : ∀ i : Nat, i ≠ gA → s'.gens[i]? = s.gens[i]?
  size : s.gens.size ≤ s'.gens.size
def YItemA (sA : Shared) (S a : Addr) (gA : Nat) : Protocol := fun n s₀ v s1 kap =>
  s1.os = sA.os ∧ AllBare s1.gens ∧ s1.heap.NoLimit ∧ s1.heap.IsGen a gA ∧ gA < s1.gens.size ∧ (∃ (acc : Array Value) (c : Nat), s1.heap.get? S = some (lstObj acc c) ∧ n + 1 + acc.size = sizeLine) ∧ ∀ s', SleptA S gA v s1 s' → kap (.send .none) s'
/-- what holds where the inner one has ended -/
def EndB (P : Program) (w : World) (outer : List Env) (H : Hp) (sB : Shared) (S D : Addr) (Q : List V → Hp → Prop) (s1 : Shared) : Prop :=
  ∃ H' ys acc c, s1.os = sB.os ∧ AllBare s1.gens ∧ Un (frs outer) [S] H H' sB.heap s1.heap ∧ HOk P w H' s1.heap ∧ H' S = none ∧ s1.heap.get? S = some (lstObj acc c) ∧ Vals ys acc.toList ∧ ys.length ≤ sizeLine ∧ Q ys H'
theorem allBare_set {s : Shared} {g : Nat} {x : GenState} (h : AllBare s.gens) (hx : x.bare = true) : AllBare (s.setGen g x).gens := allBare_setGen h hx

theorem denote_builtin {id : String} {args : Args} {b : Builtin} (hb : entryFor table id = some b) : denote table (.builtin id args) = b args := by
  show (match entryFor table id with | some b => b args | none => unsupported ((withoutEnding? id "#data").getD id)) = _
  rw [hb]
theorem den_dg {it : Value} : denote table (.builtin "proto.yield_from" ⟨[it, .bool false, .none], []⟩) = Builtin.«proto.yield_from» ⟨[it, .bool false, .none], []⟩ := denote_builtin entry_yf
theorem segG_dg {P : Program} {w : World} {A : Around} {R : GenEnd} {fs : List Frame} {S D a : Addr} {gA gB : Nat} {outer : List Env} {H : Hp} {sA sB : Shared} {Q : List V → Hp → Prop}
    (hh : (A.over (.builtin "proto.yield_from" ⟨[.ref D, .bool false, .none], []⟩) fs).handled = none) (hroom : (A.over (.builtin "proto.yield_from" ⟨[.ref D, .bool false, .none], []⟩) fs).depth < recursionLimit)
    (hsp : splitAtGen fs = none) (hgd : fs.any Frame.guarded = false) (hSD : S ≠ D) (hos : sB.os = sA.os) (hDsz : sB.heap.objs.size ≤ D) (hAB : gA ≠ gB) (hgA : gA < sB.gens.size)
    (ha : ∃ o nm qn, sB.heap.get? a = some o ∧ o.cls = .type "generator" ∧ o.data = .fields #[.int gA 0, nm, qn] ∧ o.slots = #[]) (haH : H a = none) (haf : a ∉ frs outer) (haS : a ≠ S)
    (hend : ∀ (n : Nat) (s₀ s : Shared), EndB P w outer H sB S D Q s → SegG P w A R (YItemA sA S a gA) n s₀ (.builtin "proto.yield_from" ⟨[.ref D, .bool false, .none], []⟩) (.pure (.done (.ret .none))) fs s) :
    ∀ (n : Nat) (s₀ s : Shared), (∃ od, s.heap.get? D = some od ∧ GenO gB od) → s.heap.NoLimit → gA < s.gens.size → (∃ gs, s.gens[gB]? = some gs ∧ gs.Goes (model P w) (A.over (.builtin "proto.yield_from" ⟨[.ref D, .bool false, .none], []⟩) fs).in1 (REnd2 P w outer H sB S D gB Q) (YItem2 outer H sB S D gB) n (.send .none) (s.setGen gB .running)) →
      SegG P w A R (YItemA sA S a gA) n s₀ (.builtin "proto.yield_from" ⟨[.ref D, .bool false, .none], []⟩) (denote table (.builtin "proto.yield_from" ⟨[.ref D, .bool false, .none], []⟩)) fs s := by
  have haD : a ≠ D := by
    obtain ⟨o, _, _, ho, _⟩ := ha
    exact Nat.ne_of_lt (Nat.lt_of_lt_of_le (Heap.lt_size ho) hDsz)
  have goes : ∀ {gs : GenState} {B : Around} {n : Nat} {r : Resume} {s : Shared}, gs.Goes (model P w) B (REnd2 P w outer H sB S D gB Q) (YItem2 outer H sB S D gB) n r s →
      gs.Goes (model P w) B (fun n s₀ r s1 => r = .ok (.ret .none) ∧ (∃ H' ys acc c, s1.os = sB.os ∧ AllBare s1.gens ∧ Un (frs outer) [S] H H' sB.heap s1.heap ∧ HOk P w H' s1.heap ∧ H' S = none ∧ H' D = none ∧ s1.heap.get? S = some (lstObj acc c) ∧ Vals ys acc.toList ∧ ys.length ≤ sizeLine ∧ Q ys H')) (YItem2 outer H sB S D gB) n r s := fun h => h
  have fin : ∀ (n : Nat) (s₀ s₁ : Shared) (e : Value) (h' : Heap), (∃ H' ys acc c, s₁.os = sB.os ∧ AllBare s₁.gens ∧ Un (frs outer) [S] H H' sB.heap s₁.heap ∧ HOk P w H' s₁.heap ∧ H' S = none ∧ H' D = none ∧ s₁.heap.get? S = some (lstObj acc c) ∧ Vals ys acc.toList ∧ ys.length ≤ sizeLine ∧ Q ys H') →
      StopX e h' → (∀ b o, s₁.heap.get? b = some o → h'.get? b = some o) → SegG P w A R (YItemA sA S a gA) n s₀ (.builtin "proto.yield_from" ⟨[.ref D, .bool false, .none], []⟩) (.pure (.done (.ret .none))) fs { s₁.setGen gB .finished with heap := h' } := fun n s₀ s₁ e h' q hS hk => by
    obtain ⟨H', ys, acc, c, os1, hb1, un, hok, hSn, _, hS1, hv, hle, hQ⟩ := q
    exact hend n s₀ _ ⟨H', ys, acc, c, os1, allBare_setGen hb1 rfl, un.trans (Un.kept hk), hok.kept hk, hSn, hk _ _ hS1, hv, hle, hQ⟩
  intro n
  induction n with
  | zero =>
    intro s₀ s ⟨od, ho, hg⟩ hl hgs0 ⟨gs, hgs, hgo⟩
    rw [den_dg]
    unfold Builtin.«proto.yield_from»
    try dsimp only
    refine segG_bind (wpG_up (wpAny_pure ?_))
    try dsimp only
    refine segG_bind (wpG_up (wpAny_attempt (wpAny_holding ?_)))
    rw [if_neg Bool.false_ne_true, if_pos (show (Value.none == Value.none) = true from rfl)]
    refine wpAny_bind (wpAny_rule (wpAny_bind ?_))
    refine special_next_B hh hl hroom ho hg hgs (goes hgo) (fun v s₁ gs' hb hv => ?_) fun s₁ hp e h' hS hk => ?_
    · obtain ⟨q1, q2, q3, ⟨od1, q4, q4'⟩, ⟨acc, c, q5, _⟩, q6, q6', q7⟩ := hv
      exact False.elim (q7 { s₁ with heap := s₁.heap.update S (Obj.mapSeq (·.push v)) } ⟨rfl, q2, fun b o hbS _ e => (Heap.get?_update_other _ _ (Ne.symm hbS)).trans e, fun acc' c' e => by
        rw [q5] at e
        cases e
        exact ⟨_, Heap.get?_update_self _ q5 rfl⟩, od1, (Heap.get?_update_other _ _ hSD).trans q4, q4'⟩)
    · have hfin := fin 0 s₀ s₁ e h' hp hS hk
      obtain ⟨ae, oe, vs, rfl, hoa, hcls, hdat, h5⟩ := hS
      try dsimp only
      refine segG_bind (wpG_up (wpAny_endsTurn hoa hcls ?_))
      try dsimp only
      rw [if_pos rfl]
      first
        | refine segG_bind (wpG_up (wpAny_rule ?_))
        | (rw [if_neg Bool.false_ne_true]; refine segG_bind (wpG_up (wpAny_rule ?_)))
        | (rw [if_neg Bool.false_ne_true]; refine segG_bind (wpG_up (wpAny_pure ?_)); refine segG_bind (wpG_up (wpAny_rule ?_)))
      refine segG_bind (wpG_up (wpAny_field hoa hdat h5 ?_))
      exact hfin
  | succ n ih =>
    intro s₀ s ⟨od, ho, hg⟩ hl hgs0 ⟨gs, hgs, hgo⟩
    rw [den_dg]
    unfold Builtin.«proto.yield_from»
    try dsimp only
    refine segG_bind (wpG_up (wpAny_pure ?_))
    try dsimp only
    refine segG_bind (wpG_up (wpAny_gsz (n := s.gens.size) (Nat.le_refl _) (wpAny_attempt (wpAny_holding ?_))))
    rw [if_neg Bool.false_ne_true, if_pos (show (Value.none == Value.none) = true from rfl)]
    refine wpAny_bind (wpAny_rule (wpAny_bind ?_))
    have hgBl : gB < s.gens.size := (Array.getElem?_eq_some_iff.mp hgs).1
    refine special_next_B hh hl hroom ho hg hgs (goes hgo) (fun v s₁ gs' hb hv => ?_) fun s₁ hp e h' hS hk => ?_
    · obtain ⟨q1, q2, q3, ⟨od1, q4, q4'⟩, ⟨acc, c, q5, q5'⟩, q6, q6', q7⟩ := hv
      refine wpAny_pure fun hsz => ?_
      have hsz1 : s.gens.size ≤ s₁.gens.size := by
        have q : (s₁.setGen gB gs').gens.size = s₁.gens.size := setGen_size _ _ _
        rw [← q]; exact hsz
      try dsimp only
      refine segG_bind (wpG_up (wpAny_typeOf (T := "generator") ⟨od1, q4, q4'.cls⟩ ?_))
      try dsimp only
      obtain ⟨cv, hcl⟩ := close_gen
      first
        | (refine segG_bind (wpG_up (wpAny_of_eq hcl ?_)); refine segG_bind (wpG_up (wpAny_pure ?_)))
        | refine segG_bind (wpG_up (wpAny_bind (wpAny_of_eq hcl (wpAny_pure ?_))))
        | refine segG_bind (wpG_up (wpAny_of_eq hcl ?_))
      try dsimp only
      refine segG_bind (wpG_up (wpAny_mark (s := s₁.setGen gB gs') q4 q4' fun h2 o2 m1 m2 m3 m4 => ?_))
      have hSget : h2.get? S = some (lstObj acc c) := m3 S _ hSD q5
      show SegG _ _ _ _ _ (n + 1) s₀ _ (.yield v true [] fun woken => Builtin.Generator.sleptOver (.ref D) false >>= fun _ => _) fs _
      refine segG_yield rfl hsp hgd m1 (by
        obtain ⟨nm, qn, e⟩ := m2.data
        unfold Obj.genNumber?
        rw [m2.cls, e]
        rfl) ?_
      refine ⟨q1.trans hos, allBare_setGen q2 hb, ?_, ?_, ?_, ⟨acc, c, hSget, q5'⟩, fun s' z => ?_⟩
      · obtain ⟨mc, hns, hnn⟩ := q3
        refine ⟨mc, hns.at' fun o e => m3 _ o (fun z => ?_) e, hnn⟩
        rw [z, q4] at e
        cases e
        obtain ⟨nm, qn, hd⟩ := q4'.data
        obtain ⟨o', es, ep, ho', hd', _⟩ := hns
        rw [z, q4] at ho'
        cases ho'
        rw [hd'] at hd
        cases hd
      · obtain ⟨o, nm, qn, e1, e2, e3, e4⟩ := ha
        exact ⟨o, nm, qn, m3 a o haD (q6 a o e1 haH haf haS), e2, e3, e4⟩
      · show gA < (s₁.setGen gB gs').gens.size
        rw [setGen_size]
        omega
      · show SegG _ _ _ _ _ n s' _ (Builtin.Generator.sleptOver (.ref D) false >>= fun _ => _) fs s'
        refine segG_bind (wpG_up (wpAny_unmark (z.keep D o2 (Ne.symm hSD) m1) m2 fun h3 o3 u1 u2 u3 u4 => ?_))
        try dsimp only
        have hgen : s'.gens[gB]? = some gs' := by
          rw [z.gens gB (Ne.symm hAB)]
          exact setGen_at (by omega)
        have lim3 : ({ s' with heap := h3 } : Shared).heap.NoLimit := by
          obtain ⟨mc, hns, hnn⟩ := q3
          obtain ⟨nm, qn, hd⟩ := q4'.data
          have nD : cStatics ≠ D := fun y => by
            obtain ⟨o', es, ep, ho', hd', _⟩ := hns
            rw [y, q4] at ho'
            cases ho'
            rw [hd'] at hd
            cases hd
          have nS : cStatics ≠ S := fun y => by
            obtain ⟨o', es, ep, ho', hd', _⟩ := hns
            rw [y, q5] at ho'
            cases ho'
            cases hd'
          exact ⟨mc, hns.at' fun o e => u3 _ o nD (z.keep _ o nS (m3 _ o nD e)), hnn⟩
        refine segG_bind (wpG_up (wpAny_pure ?_))
        refine segG_again (plainId_quiet plain_yf _) (ih s' { s' with heap := h3 } ⟨o3, u1, u2⟩ lim3 ?_ ⟨gs', hgen, ?_⟩)
        · have e1 : (s₁.setGen gB gs').gens.size ≤ s'.gens.size := z.size
          rw [setGen_size] at e1
          show gA < s'.gens.size
          omega
        · refine q7 _ ⟨z.os, allBare_setGen (s := { s' with heap := h3 }) z.bare rfl, fun b o hbS hbD e => u3 b o hbD (z.keep b o hbS (m3 b o hbD e)), fun acc' c' e => ?_, o3, u1, u2⟩
          obtain ⟨c2, e2⟩ := z.own acc' c' (m3 S _ hSD e)
          exact ⟨c2, u3 S _ hSD e2⟩
    · refine fun hsz => ?_
      have hfin := fin (n + 1) s₀ s₁ e h' hp hS hk
      obtain ⟨ae, oe, vs, rfl, hoa, hcls, hdat, h5⟩ := hS
      try dsimp only
      refine segG_bind (wpG_up (wpAny_endsTurn hoa hcls ?_))
      try dsimp only
      rw [if_pos rfl]
      first
        | refine segG_bind (wpG_up (wpAny_rule ?_))
        | (rw [if_neg Bool.false_ne_true]; refine segG_bind (wpG_up (wpAny_rule ?_)))
        | (rw [if_neg Bool.false_ne_true]; refine segG_bind (wpG_up (wpAny_pure ?_)); refine segG_bind (wpG_up (wpAny_rule ?_)))
      refine segG_bind (wpG_up (wpAny_field hoa hdat h5 ?_))
      exact hfin
end Gap
/-! ## G7 -/
set_option Elab.async false
set_option linter.all false
set_option maxRecDepth 100000
set_option maxHeartbeats 4000000
/-! G7: a generator def of two statements, a plain one and «yield from g(..)», by its body. -/
namespace Gap
open PySem PySem.Spec PyProof.Rows GenW L2
open Sem (wp)

/-- an expression whose value is a generator that may be delegated to -/
structure PGen2 (X : Cx) (k : Nat) (e : Expr) (tg : TGen) : Prop where
  run : ∀ (pins : List (Addr × Obj)) (s : Shared) (σ : L2.St) (H : Hp) (cont : List V → Hp → Prop), Inv X pins σ H s → tg σ H cont → wpAny (model X.prog X.w) X.A (eval e X.env)
    (fun u s' => ∃ H1 sc, Inv X pins σ H1 sc ∧ s.gens.size ≤ sc.gens.size ∧ GMade2 X.prog X.w k X.base X.stack H1 sc cont u s') X.xe s
section
variable {X : Cx} {k : Nat} {f : Addr} {fd : FuncData} {ps : List Str} {sp : SpG2} {x : Str} {p pos' : Pos}
def tCallG2 (sp : SpG2) (t : TA) : TGen := fun σ H cont => t σ H fun vs H1 => sp vs H1 cont
theorem pgen2_call {e : Expr} {es : List Expr} {t : TA} (F : GFn2 X.prog X.w X.K X.mg X.base k f fd ps sp) (hr : Room k X.A) (hg : Gl X x) (hm : X.mg x = some (.ref f)) (hk : PySem.W.keepIn X.K (.ref f) = true) (hb : Binds X.K fd ps [])
    (ha : PA X (e :: es) t) (hdb : (x == ("__debug__" : Str)) = false := by decide) (he : starEach (e :: es) X.env = (false, eval e X.env) :: starEach es X.env := by rfl) (hpl : (backTo pos' (starEach es X.env)).any (·.1) = false := by rfl) :
    PGen2 X k (.Call (.Name x p) (e :: es) [] pos') (tCallG2 sp t) := by
  refine ⟨fun pins s σ H cont I h => ?_⟩
  refine wpAny_Call_Name_kw (ld_glob I hg hm ?_ hdb)
  refine PySem.W.callWith_K (h₀ := X.base) I.ok.mod.kin hk (wpAny_gsz (n := s.gens.size) (Nat.le_refl _) (wpAny_mono (ha.run pos' pins s σ H _ I h) (fun us s1 q hsz => ?_) fun _ _ z _ => z)) he hpl
  obtain ⟨vs, H1, I1, r, q⟩ := q
  refine ⟨I1.kIn, ?_⟩
  have hl2 : us.length = ps.length := by rw [← r.length]; exact F.len _ _ _ q
  refine wpAny_call (codeAny_mono (F.run X.A X.stack s1 H1 ⟨us, []⟩ us vs cont hr I1.env0 (by have := hb s1 us I1.kIn (by simpa using hl2); simpa using this) r q) fun r s' hq => ?_)
  cases r with
  | error e => exact False.elim hq
  | ok fl =>
    cases fl with
    | ret u => exact ⟨H1, s1, I1, hsz, hq⟩
    | next => exact False.elim hq
    | brk => exact False.elim hq
    | cont => exact False.elim hq
end

/-- the context of the outer one's body -/
def acx (P : Program) (w : World) (K : PySem.W.Frag) (mg : Str → Option Value) (base : Heap) (N : List Str) (qual : Str) (scope : Scope) (f : Addr) (cd : Value) (A : Around) (outer : List Env) (s : Shared) (H : Hp) : Cx :=
  { cxOf CX0 P w K mg base N qual scope f cd A outer s H E0 with xe := fun _ _ => False }
def REndA (P : Program) (w : World) (outer : List Env) (H : Hp) (s : Shared) (S : Addr) (Q : List V → Hp → Prop) : GenEnd := fun n s₀ r s1 =>
  r = .ok (.ret .none) ∧ ∃ H' ys acc c, s1.os = s.os ∧ AllBare s1.gens ∧ Un (frs outer) [] H H' s.heap s1.heap ∧ HOk P w H' s1.heap ∧ H' S = none ∧ s1.heap.get? S = some (lstObj acc c) ∧ Vals ys acc.toList ∧ ys.length ≤ sizeLine ∧ Q ys H'
def GMadeA (P : Program) (w : World) (k : Nat) (outer : List Env) (H : Hp) (s : Shared) (Q : List V → Hp → Prop) (u : Value) (s' : Shared) : Prop :=
  ∃ (a : Addr) (g : Nat) (c : Code), u = .ref a ∧ s.heap.objs.size ≤ a ∧ a < s'.heap.objs.size ∧ s'.heap.IsGen a g ∧ s'.gens[g]? = some (.fresh c) ∧ s'.os = s.os ∧ AllBare s'.gens ∧ s'.heap.NoLimit ∧ (∀ b o, s.heap.get? b = some o → s'.heap.get? b = some o) ∧
    ∀ (A : Around) (S : Addr) (s2 : Shared), Room k A → A.frames = some outer → s'.heap.objs.size ≤ S → (∀ b o, s'.heap.get? b = some o → s2.heap.get? b = some o) → (∃ c, s2.heap.get? S = some (lstObj #[] c)) → s2.os = s.os → AllBare s2.gens → g < s2.gens.size →
      SegG P w A (REndA P w outer H s S Q) (YItemA s S a g) sizeLine s2 c (denote table c) [] s2
structure GFnA (P : Program) (w : World) (K : PySem.W.Frag) (mg : Str → Option Value) (base : Heap) (k : Nat) (f : Addr) (fd : FuncData) (ps : List Str) (sp : SpG2) : Prop where
  len : ∀ vs H Q, sp vs H Q → vs.length = ps.length
  run : ∀ (A : Around) (outer : List Env) (s : Shared) (H : Hp) (args : Args) (us : List Value) (vs : List V) (Q : List V → Hp → Prop), Room k A → Env0 P w K mg base A outer s H → BindsTo s fd args (ps.zip us) → Vals vs us → sp vs H Q →
    codeAny (model P w) A (.call (.ref f) args) (fun r s' => match r with | .ok (.ret u) => GMadeA P w k outer H s Q u s' | _ => False) s

theorem over_builtin {A : Around} {c : Code} {id : String} {args : Args} (hp : plainId id = true) {fs : List Frame} {k : Result → Sem PySem.Fin} {g : Bool} {l kp : List Value} {p : Pos} :
    A.over (.builtin id args) (.ret k none g l c p kp :: fs) = (A.over c fs).in1 := by
  have hw := plainId_weight hp args
  have hu := plainId_units hp args
  have e2 : A.depth + frameCount ((Frame.ret k none g l c p kp :: fs).map Frame.where_) + (Code.builtin id args).weight = A.depth + frameCount (fs.map Frame.where_) + c.weight := by
    show A.depth + frameCount ((c, p) :: fs.map Frame.where_) + (Code.builtin id args).weight = _
    rw [frameCount_cons, hw]; omega
  have e3 : pushEnvs (Code.builtin id args).envs (pushEnvs (envsOf ((Frame.ret k none g l c p kp :: fs).map Frame.where_)) A.frames) = pushEnvs c.envs (pushEnvs (envsOf (fs.map Frame.where_)) A.frames) := by
    show pushEnvs (Code.builtin id args).envs (pushEnvs (envsOf ((c, p) :: fs.map Frame.where_)) A.frames) = _
    rw [Code.envs_of_weight hw, envsOf_cons]
    simp only [pushEnvs_eq]
    cases A.frames <;> simp [List.append_assoc]
  have e4 : pushGuards (Code.builtin id args).guards (pushGuards (guardsOf ((Frame.ret k none g l c p kp :: fs).map Frame.where_)) A.guards) = pushGuards c.guards (pushGuards (guardsOf (fs.map Frame.where_)) A.guards) := by
    show pushGuards (Code.builtin id args).guards (pushGuards (guardsOf ((c, p) :: fs.map Frame.where_)) A.guards) = _
    rw [Code.guards_of_weight hw, guardsOf_cons]
    simp only [pushGuards_eq]
    cases A.guards <;> simp [List.append_assoc]
  have e5 : A.units + unitsOf ((Frame.ret k none g l c p kp :: fs).map Frame.where_) + (Code.builtin id args).cUnits = A.units + unitsOf (fs.map Frame.where_) + c.cUnits + 1 := by
    show A.units + unitsOf ((c, p) :: fs.map Frame.where_) + (Code.builtin id args).cUnits = _
    rw [unitsOf_cons, hu]; omega
  show (⟨(marksOver (Frame.ret k none g l c p kp :: fs) (A.handled, A.handled)).1, A.depth + frameCount ((Frame.ret k none g l c p kp :: fs).map Frame.where_) + (Code.builtin id args).weight,
    pushEnvs (Code.builtin id args).envs (pushEnvs (envsOf ((Frame.ret k none g l c p kp :: fs).map Frame.where_)) A.frames), pushGuards (Code.builtin id args).guards (pushGuards (guardsOf ((Frame.ret k none g l c p kp :: fs).map Frame.where_)) A.guards),
    A.units + unitsOf ((Frame.ret k none g l c p kp :: fs).map Frame.where_) + (Code.builtin id args).cUnits⟩ : Around) = _
  rw [e2, e3, e4, e5]
  rfl
theorem segG_func {P : Program} {w : World} {A : Around} {R : GenEnd} {Y : Protocol} {n : Nat} {s₀ s : Shared} {fs : List Frame} {body : List Stmt} {env : Env}
    (h : SegG P w A R Y n s₀ (.func body env) ((execs body env).wrap (fun f => .pure (.done (.ret (match f with | .ret v => v | _ => .none)))) (fun e => (leaving env e).wrap (fun _ => .raise e) .raise id id) id id) fs s) :
    SegG P w A R Y n s₀ (.func body env) (denote table (.func body env)) fs s := by
  show SegG P w A R Y n s₀ _ (.point [] fun _ => ((execs body env).onRaise (leaving env)) >>= _) fs s
  refine segG_point ?_
  rw [Sem.onRaise_eq_wrap, Sem.bind_eq_wrap', Sem.wrap_wrap]
  rw [Sem.wrap_congr (execs body env) _ _ (K' := fun f => .pure (.done (.ret (match f with | .ret v => v | _ => .none))))
    (H' := fun e => (leaving env e).wrap (fun _ => .raise e) .raise id id) (fun f => by cases f <;> rfl)
    (fun e => by rw [Sem.bind_eq_wrap, Sem.wrap_wrap]; rfl)]
  exact h
theorem segG_bind2 {P : Program} {w : World} {A : Around} {R : GenEnd} {Y : Protocol} {n : Nat} {s₀ s : Shared} {c : Code} {fs : List Frame} {α β γ : Type} {m : Sem α} {f : α → Sem β} {f2 : β → Sem γ} {K : γ → Sem PySem.Fin} {J : Value → Sem PySem.Fin} {gd : Bool → Bool} {lv : List Value → List Value}
    (h : wpG P w (A.over c fs) m (fun a s' => SegG P w A R Y n s₀ c ((f a).wrap (fun b => (f2 b).wrap K J gd lv) J gd lv) fs s') (fun x s' => SegG P w A R Y n s₀ c (J x) fs s') s) :
    SegG P w A R Y n s₀ c (((m >>= f) >>= f2).wrap K J gd lv) fs s := by
  rw [Sem.bind_eq_wrap' (m >>= f) f2, Sem.wrap_wrap]
  exact segG_bind_wrap h

theorem gfnA_of {P : Program} {w : World} {K : PySem.W.Frag} {mg : Str → Option Value} {base : Heap} {k kB : Nat} {f : Addr} {name qual : Str} {params : Arguments} {st1 : Stmt} {e : Expr} {yp pos : Pos} {scope : Scope} {dV kV doc pm cdv ct oc : Value} {an od : Option Addr}
    {osl : Array (Option Value)} {N ps : List Str} {sp : SpG2} (lk : K.lookup f = some ⟨oc, od, .func (PySem.W.fnOf name qual params [st1, .Expr (.YieldFrom e yp) pos] scope dV kV doc pm an cdv ct), osl⟩) (hcd : PySem.W.codeIn K cdv qual = true) (S : GScope N ps scope)
    (hkB : kB + 3 ≤ k) (len : ∀ vs H Q, sp vs H Q → vs.length = ps.length)
    (hbody : ∀ (A : Around) (outer : List Env) (s : Shared) (H : Hp) (vs : List V) (Q : List V → Hp → Prop), Room k (A.deeper (envOfC qual scope s.heap.objs.size f cdv)) → sp vs H Q →
      ∃ (t : TS) (tg : TGen), PS (acx P w K mg base N qual scope f cdv A outer s H) st1 t ∧ PGen2 (acx P w K mg base N qual scope f cdv A outer s H) kB e tg ∧
        t { nx := fun σ' H' => tg σ' H' Q, rt := fun _ _ => False } (L2.start N vs) H) :
    GFnA P w K mg base (k + 1) f (PySem.W.fnOf name qual params [st1, .Expr (.YieldFrom e yp) pos] scope dV kV doc pm an cdv ct) ps sp := by
  refine ⟨len, fun A outer s H args us vs Q hr e0 hb r hsp => ?_⟩
  have hl := len _ _ _ hsp
  have KX : K.In s.heap := e0.mod.kin.keeps fun b o e => (e0.bs b o e).1
  have lim : s.heap.NoLimit := e0.mod.nolimit.keeps fun b o e => (e0.bs b o e).1
  have hkind : ∀ y ∈ ps.zip us, scope.names.lookup y.1 = some .local ∨ (scope.names.lookup y.1 = some .cell ∧ ((cellsFrom (s.heap.objs.size + 1) scope.names []).lookup y.1).isSome = true) := fun ⟨n, v⟩ hy => by
    rcases S.par n (List.of_mem_zip hy).1 with q | q
    · exact .inl q
    · exact .inr ⟨q, PySem.W.cellsFrom_some _ _ _ (.inl q)⟩
  refine codeAny_call_generator hr.depth (KX _ _ lk) rfl S.co S.gen rfl (PySem.W.codeRec_of KX hcd) (hb _ _ _ _ ?_)
  refine wpAny_newFunctionEnv_cells S.kind hkind fun env he s1 x => ?_
  subst he
  have lim1 : s1.heap.NoLimit := lim.keeps x.toInCall.keep
  refine ⟨lim1, ?_⟩
  obtain ⟨h1, tk, es1, hk1⟩ := x.done
  have os1 : s1.os = s.os := by rw [es1]
  have gen1 : s1.gens = s.gens := by rw [es1]
  have lt1 : s.heap.objs.size < s1.heap.objs.size := x.toInCall.ns.lt
  have sz1 : s.heap.objs.size ≤ s1.heap.objs.size := Nat.le_of_lt lt1
  have kp1 : ∀ b o, s.heap.get? b = some o → s1.heap.get? b = some o := x.toInCall.keep
  have main : ∀ (go : Obj) (nm qn : Value) (tk2 : Nat), go.cls = .type "generator" → go.data = .fields #[.int s1.gens.size 0, nm, qn] → go.slots = #[] → (∀ h : Heap, (h.push go).get? h.objs.size = some go) →
      GMadeA P w (k + 1) outer H s Q (.ref s1.heap.objs.size) { s1 with gens := s1.gens.push (.fresh (.func [st1, .Expr (.YieldFrom e yp) pos] (envOfC qual scope s.heap.objs.size f cdv))), toks := tk2, heap := s1.heap.push go } := by
    intro go nm qn tk2 hgc hgd0 hgs hgp
    have hgen : ∀ h : Heap, h.get? s1.heap.objs.size = some go → h.IsGen s1.heap.objs.size s1.gens.size := fun h e => ⟨go, nm, qn, e, hgc, hgd0, hgs⟩
    have hpushed : (s1.heap.push go).get? s1.heap.objs.size = some go := hgp _
    refine ⟨s1.heap.objs.size, s1.gens.size, _, rfl, sz1, ?_, hgen _ hpushed, Array.getElem?_push_size .., os1, ?_, lim1.keeps fun b o e => Heap.get?_push_of_some _ e, fun b o e => Heap.get?_push_of_some _ (kp1 b o e), ?_⟩
    · show _ < (s1.heap.push _).objs.size
      rw [Heap.size_push]; exact Nat.lt_succ_self _
    · exact AllBare.push (by rw [gen1]; exact e0.bare) rfl
    intro Aw Sx s2 hrw hfr hSx hk2 hSo hos hba hgsz
    have e0w : Env0 P w K mg base Aw outer s H := ⟨hfr, e0.mod, e0.bs, e0.bsz, e0.funs, e0.frf, e0.hok, e0.bare⟩
    obtain ⟨t, tg, ht, htg, hq⟩ := hbody Aw outer s H vs Q (hrw.deeper _) hsp
    have I1 : Inv (acx P w K mg base N qual scope f cdv Aw outer s H) [] (L2.start N vs) H s1 := by
      have J := inv_startG (E := E0) S hrw.hd e0w hl r x
      exact ⟨⟨J.ok.mod, J.ok.kind, J.ok.glob, J.ok.blt, J.ok.above, J.ok.inj, J.ok.has, J.ok.cab, J.ok.hd, J.ok.frames, J.ok.stk, J.ok.exf, J.ok.bs, J.ok.bsz, J.ok.noex, J.ok.exfs, J.ok.funs, J.ok.frf⟩, J.os, J.bare, J.base, J.loc, J.cell, J.free, J.freeC, J.pin, J.hok, J.len⟩
    have kp2 : ∀ b o, s1.heap.get? b = some o → s2.heap.get? b = some o := fun b o e => hk2 b o (Heap.get?_push_of_some _ e)
    have I2 : Inv (acx P w K mg base N qual scope f cdv Aw outer s H) [] (L2.start N vs) H s2 :=
      I1.call' (ch := []) (hos.trans os1.symm) (Un.kept kp2) (I1.hok.kept kp2) hba fun b z => by simp at z
    have hSz : s1.heap.objs.size < Sx := by
      have hSx' : (s1.heap.push go).objs.size ≤ Sx := hSx
      rw [Heap.size_push] at hSx'
      exact hSx'
    obtain ⟨cS, heS⟩ := hSo
    have hea : s2.heap.get? s1.heap.objs.size = some go := hk2 s1.heap.objs.size go hpushed
    have hgd : ∀ v, go.data ≠ .cell v := fun v q => by rw [hgd0] at q; cases q
    have young : ∀ b, s1.heap.objs.size ≤ b → H b = none ∧ b ≠ s.heap.objs.size ∧ b ∉ frs outer ∧ s.heap.objs.size ≤ b ∧ ∀ y c, (cellsFrom (s.heap.objs.size + 1) scope.names []).lookup y = some c → c ≠ b := fun b hb => by
      refine ⟨I1.hok.fresh hb, Nat.ne_of_gt (Nat.lt_of_lt_of_le lt1 hb), I1.nofs hb, Nat.le_trans sz1 hb, fun y c e z => ?_⟩
      obtain ⟨v, ob, ho, _⟩ := I1.cell y c e
      have := Heap.lt_size ho
      rw [z] at this
      exact absurd (Nat.lt_of_lt_of_le this hb) (Nat.lt_irrefl _)
    have hSne : s1.heap.objs.size ≠ Sx := Nat.ne_of_lt hSz
    obtain ⟨a1, a2, a3, a4, a5⟩ := young s1.heap.objs.size (Nat.le_refl _)
    obtain ⟨b1, b2, b3, b4, b5⟩ := young Sx (Nat.le_of_lt hSz)
    have I3 : Inv (acx P w K mg base N qual scope f cdv Aw outer s H) [(Sx, lstObj #[] cS), (s1.heap.objs.size, go)] (L2.start N vs) H s2 := I2.pins_of fun p hp => by
      rcases List.mem_cons.mp hp with z | z
      · rw [z]; exact ⟨heS, b1, b2, b3, fun v q => by cases q⟩
      · rw [List.mem_singleton.mp z]; exact ⟨hea, a1, a2, a3, hgd⟩
    refine segG_func ?_
    rw [execs_cons_wrap]
    refine segG_wrap (wpG_up ?_)
    rw [over_func]
    refine wpAny_gsz (n := s1.gens.size + 1) hgsz (wpAny_mono (ht.run _ s2 _ H _ I3 hq) (fun fl s3 hfl hz3 => ?_) fun _ _ z _ => z.elim)
    cases fl with
    | brk => obtain ⟨_, _, _, q⟩ := hfl; exact q.elim
    | cont => obtain ⟨_, _, _, q⟩ := hfl; exact q.elim
    | ret v => obtain ⟨_, _, _, _, _, q⟩ := hfl; exact q.elim
    | next =>
    obtain ⟨σ3, H3, I3', q3⟩ := hfl
    rw [execs_cons_wrap, exec_Expr (envOfC qual scope s.heap.objs.size f cdv) _ pos I3'.quiet rfl]
    show SegG P w Aw _ _ sizeLine s2 _ (.at pos fun _ => ((eval e (envOfC qual scope s.heap.objs.size f cdv) >>= fun v => (standAt yp >>= fun _ => yieldFrom (envOfC qual scope s.heap.objs.size f cdv) v)) >>= fun x => dropValue (.YieldFrom e yp) pos x).wrap _ _ _ _) [] s3
    refine segG_at ?_
    refine segG_bind2 (wpG_up ?_)
    rw [over_func]
    refine wpAny_mono (htg.run _ s3 σ3 H3 Q I3' q3) (fun u s4 hu => ?_) fun _ _ z => z.elim
    obtain ⟨H4, sB, I4, hz4, D, gB, cB, rfl, hD1, hD2, ⟨oD, hD3, hD4⟩, hgB, hgB2, hgk, hos4, hb4, hl4, hk4, wake⟩ := hu
    refine segG_at ?_
    show SegG P w Aw _ _ sizeLine s2 _ ((yieldFrom (envOfC qual scope s.heap.objs.size f cdv) (.ref D)).wrap (fun b => (dropValue (.YieldFrom e yp) pos b).wrap _ _ _ _) _ _ _) [] s4
    unfold yieldFrom
    have hTD : s4.TypeIs (.ref D) "generator" := ⟨oD, hD3, hD4.cls⟩
    refine segG_bind_wrap (wpG_up (wpAny_typeOf hTD ?_))
    rw [if_neg (by decide)]
    refine segG_bind_wrap (wpG_up (wpAny_holding (wpAny_pyIter_slot hTD slot_gen_iter (wpAny_call_entry slot_gen_iter hTD entry_gen_iter ?_ (args_gen_iter _)))))
    show wpAny _ _ (ret (.ref D)) _ _ s4
    refine wpAny_pure ⟨_, rfl, "generator", _, hTD, slot_gen_next.lookup, ?_⟩
    refine segG_call fun p => ?_
    have hS4 := I4.pin (Sx, lstObj #[] cS) (List.mem_append_right _ List.mem_cons_self)
    have ha4 := I4.pin (s1.heap.objs.size, go) (List.mem_append_right _ (List.mem_cons_of_mem _ List.mem_cons_self))
    have hSltB : Sx < sB.heap.objs.size := Heap.lt_size hS4.1
    have haltB : s1.heap.objs.size < sB.heap.objs.size := Heap.lt_size ha4.1
    have hov : ∀ (kk : Result → Sem PySem.Fin) (g : Bool) (l kp : List Value), Aw.over (.builtin "proto.yield_from" ⟨[.ref D, .bool false, .none], []⟩) [.ret kk none g l (.func [st1, .Expr (.YieldFrom e yp) pos] (envOfC qual scope s.heap.objs.size f cdv)) p kp] = (Aw.deeper (envOfC qual scope s.heap.objs.size f cdv)).in1 := fun kk g l kp => by
      rw [over_builtin plain_yf, over_func]
    refine segG_dg (outer := envOfC qual scope s.heap.objs.size f cdv :: outer) (H := H4) (sB := sB) (Q := Q) (D := D) (gB := gB) ?_ ?_ rfl rfl ?_ (hos4.symm.trans (hos4.trans I4.os)) hD1 ?_ ?_ ⟨go, nm, qn, ha4.1, hgc, hgd0, hgs⟩ ha4.2.1 ?_ hSne (fun n s₀ s5 hE => ?_) sizeLine s2 s4 ⟨oD, hD3, hD4⟩ hl4 ?_ ⟨_, hgB2, rfl, ?_⟩
    · rw [hov]; exact hrw.hd
    · rw [hov]
      have := (hrw.deeper (envOfC qual scope s.heap.objs.size f cdv)).dp
      show (Aw.deeper (envOfC qual scope s.heap.objs.size f cdv)).depth < recursionLimit
      omega
    · exact Nat.ne_of_lt (Nat.lt_of_lt_of_le hSltB hD1)
    · rw [hgB]; omega
    · omega
    · intro z
      rcases List.mem_cons.mp (I4.stkSub _ z) with z | z
      · exact ha4.2.2.1 z
      · exact ha4.2.2.2.1 z
    · -- the end
      obtain ⟨H5, ys, acc, c5, os5, hb5, un5, hok5, hSn5, hS5, hv5, hle5, hQ5⟩ := hE
      have I4' : Inv (acx P w K mg base N qual scope f cdv Aw outer s H) [(s1.heap.objs.size, go)] σ3 H4 sB := I4.pins_of fun q hq => I4.pin q (List.mem_append_right _ (List.mem_cons_of_mem _ hq))
      have J : Inv (acx P w K mg base N qual scope f cdv Aw outer s H) [(s1.heap.objs.size, go)] σ3 H5 s5 := I4'.call' (ch := [Sx]) os5 un5 hok5 hb5 fun b hb => by
        rw [List.mem_singleton.mp hb]
        refine ⟨.inr b4, b2, b5, fun q hq => ?_⟩
        have hq : q ∈ [(s1.heap.objs.size, go)] := hq
        rw [List.mem_singleton.mp hq]; exact hSne
      refine segG_leaf (.ok (.ret .none)) ?_
      exact segG_end (.ok (.ret .none)) ⟨rfl, H5, ys, acc, c5, J.os, J.bare, J.base, J.hok, hSn5, hS5, hv5, hle5, hQ5⟩
    · exact Nat.lt_of_lt_of_le (Nat.lt_of_lt_of_le (Nat.lt_of_lt_of_le (Nat.lt_succ_self _) hz3) hz4) (Nat.le_trans (by rw [← hgB]; exact Nat.le_refl _) (Nat.le_of_lt (Array.getElem?_eq_some_iff.mp hgB2).1))
    · refine wake _ Sx (s4.setGen gB .running) (by rw [hov]; exact (((hrw.deeper _).mono hkB).mono (by omega : kB + 1 + 1 ≤ kB + 3)).in1.in1) ?_ ⟨cS, hS4.1⟩ hS4.2.1 ?_ ?_ rfl hos4 (allBare_setGen hb4 rfl)
      · rw [hov]
        exact Around.frames_deeper hfr
      · intro z
        rcases List.mem_cons.mp (I4.stkSub _ z) with z | z
        · exact hS4.2.2.1 z
        · exact hS4.2.2.2.1 z
      · exact Heap.get?_none_of_le (Nat.le_trans e0.bsz b4)
  exact main _ _ _ _ rfl rfl rfl fun h => Heap.get?_push_size _ rfl
end Gap
/-! ## G8 -/
set_option Elab.async false
set_option linter.all false
set_option maxRecDepth 100000
set_option maxHeartbeats 4000000
/-! G8: next of a delegating generator; the list loop that drains it. -/
namespace Gap
open PySem PySem.Spec PyProof.Rows GenW L2
open Sem (wp)

section
variable {P : Program} {w : World} {A : Around} {E : Value → Shared → Prop} {s : Shared} {R : Result → Shared → Prop}
theorem codeG_builtin {id : String} {args : Args} {b : Builtin} (hq : plainId id = true) (hb : entryFor table id = some b)
    (h : wpG P w A.in1 (b args) (fun fin s' => match fin with | .done f => R (.ok f) s' | .again c' => c'.quiet = true ∧ codeG P w A c' R s') (fun e s' => R (.error e) s') s) : codeG P w A (.builtin id args) R s := by
  refine codeG_of_tree ?_
  rw [denote_builtin hb, Around.under_plainId hq args]
  exact h
theorem codeG_call_builtin {id : String} {args : Args} {b : Builtin} (hq : plainId id = true) (hb : entryFor table id = some b) (hc : wpAny (model P w) A.in1 (checkBuiltinCall id args) (fun _ s₁ => s₁ = s) (fun _ _ => False) s)
    (h : wpG P w A.in1 (b args) (fun fin s' => match fin with | .done f => R (.ok f) s' | .again c' => c'.quiet = true ∧ codeG P w A c' R s') (fun e s' => R (.error e) s') s) : codeG P w A (.call (.builtin id) args) R s := by
  refine codeG_of_tree ?_
  show wpG P w A.in1 (do checkBuiltinCall id args; again (.builtin id args)) _ _ s
  refine wpG_bind (wpG_up (wpAny_mono hc (fun _ s₁ e => ?_) fun _ _ z => z.elim))
  subst e
  exact wpG_pure ⟨plainId_quiet hq args, codeG_builtin hq hb h⟩
theorem callSpecialG {T : String} {name : Str} {id : String} {b : Builtin} {self : Value} {rest : List Value} {Q : Option Value → Shared → Prop} (h : Slot T name id) (hT : s.TypeIs self T) (hb : entryFor table id = some b)
    (hc : wpG P w A.in1 (b ⟨self :: rest, []⟩) (fun fin s' => ∃ v, fin = .done (.ret v) ∧ Q (some v) s') E s) (ha : argsOk id ⟨self :: rest, []⟩) : wpG P w A (callSpecial? self name rest) Q E s := by
  simp only [callSpecial?]
  refine wpG_bind (wpG_up (wpAny_specialOf hT h.lookup ?_))
  simp only [h.bind]
  refine wpG_holding (wpG_bind (wpG_pure (wpG_bind ?_)))
  refine wpG_call (codeG_call_builtin h.plain hb (h.check _ _ _ _ _ _ _ _ hT ha rfl) (wpG_mono hc (fun fin s' h' => ?_) fun _ _ h' => h'))
  obtain ⟨v, rfl, hv⟩ := h'
  exact wpG_pure hv
/-- next(a): one turn -/
theorem next_A {a : Addr} {g n : Nat} {gs : GenState} {F : Nat → Shared → Shared → Prop} {Y : Protocol} {Q : Option Value → Shared → Prop} (hh : A.handled = none) (hl : s.heap.NoLimit) (hroom : A.depth < recursionLimit)
    (hg : s.heap.IsGen a g) (hgs : s.gens[g]? = some gs)
    (hgo : GoesG P w A.in1 (fun n s₀ r s₁ => r = .ok (.ret .none) ∧ F n s₀ s₁) Y n gs (.send .none) (s.setGen g .running))
    (hY : ∀ v s₁ gs', Y (n - 1) (s.setGen g .running) v s₁ (fun r' s'' => match n with
        | 0 => False
        | m + 1 => GoesG P w A.in1 (fun n s₀ r s₁ => r = .ok (.ret .none) ∧ F n s₀ s₁) Y m gs' r' s'') → Q (some v) (s₁.setGen g gs'))
    (hP : ∀ s₁, F n (s.setGen g .running) s₁ → ∀ h', (∀ b o, s₁.heap.get? b = some o → h'.get? b = some o) → Q none { s₁.setGen g .finished with heap := h' }) :
    wpG P w A (pyNext (.ref a)) Q E s := by
  unfold pyNext
  refine wpG_bind (wpG_attempt (callSpecialG slot_gen_next hg.typeIs entry_gen_next ?_ (args_gen_next _)))
  show wpG P w A.in1 (Builtin.Generator.genWake (.ref a) (.send .none)) _ _ s
  unfold Builtin.Generator.genWake
  refine wpG_bind (wpG_up (wpAny_holding (wpAny_genNumber hg ?_)))
  refine wpG_bind (wpG_up (wpAny_genState hgs ?_))
  cases gs with
  | running => exact hgo.elim
  | finished => exact hgo.elim
  | _ =>
    refine wpG_bind (wpG_up (wpAny_roomToWake hl hroom ?_))
    show wpG P w A.in1 (.resume g (.send .none) [] _) _ _ s
    refine wpG_resume hgs hgo (fun x s₁ hx => ?_) (fun v s₁ gs' hv => ?_)
    · obtain ⟨rfl, hp⟩ := hx
      refine wpG_up ?_
      show wpAny _ A.in1 (newExc (.type "StopIteration") [] >>= _) _ _ _
      refine wpAny_bind ?_
      simp only [newExc, newTuple]
      refine wpAny_bind (wpAny_newObj_type ?_ (by size_fits))
      refine wpAny_bind (m := firstArgMember _ _) (wpAny_of_eq (a := Value.none) (by first | rfl | (simp only [firstArgMember]; rfl)) ?_)
      refine wpAny_newObj_type ?_ (by size_fits)
      simp only [raiseNew]
      refine wpAny_bind (wpAny_bind (wpAny_handled ?_))
      first | rw [show A.in1.handled = none from hh] | rw [hh]
      refine wpAny_throw ?_
      refine wpG_up ?_
      refine wpAny_bind (wpAny_isInstance (T := "StopIteration") (b := true) ⟨_, Heap.get?_push_size _ rfl, rfl⟩ isSubtype_stop ?_)
      exact wpAny_pure (hP s₁ hp _ fun b o hb => Heap.get?_push_of_some _ (Heap.get?_push_of_some _ hb))
    · exact wpG_pure ⟨v, rfl, wpG_pure (hY v s₁ gs' hv)⟩
end

theorem setGen_other {s : Shared} {g i : Nat} {x : GenState} (h : i ≠ g) : (s.setGen g x).gens[i]? = s.gens[i]? := by
  show (s.gens.setIfInBounds g x)[i]? = _
  rw [Array.getElem?_setIfInBounds_ne (Ne.symm h)]
/-- all states but the one at g are bare: with g running they all are -/
theorem allBare_run {s : Shared} {g : Nat} {x : GenState} (h : AllBare s.gens) : AllBare ((s.setGen g x).setGen g .running).gens := fun y hy => by
  obtain ⟨i, hi, e⟩ := Array.mem_iff_getElem.mp hy
  have e1 : ((s.setGen g x).setGen g .running).gens[i]? = some y := by rw [Array.getElem?_eq_getElem hi, e]
  by_cases z : i = g
  · subst z
    have hs : i < (s.setGen i x).gens.size := by rw [setGen_size] at hi; exact hi
    rw [setGen_at hs] at e1
    cases e1; rfl
  · rw [setGen_other z, setGen_other z] at e1
    exact h y (Array.mem_of_getElem? e1)

theorem drainA {P : Program} {w : World} {outer : List Env} {H : Hp} {sc : Shared} {Q : List V → Hp → Prop} {A : Around} {R : Result → Shared → Prop} {S a : Addr} {g : Nat} {res : Value}
    (hh : A.handled = none) (hd : A.depth < recursionLimit) (hSa : S ≠ a) (hSc : S ≠ cStatics)
    (hend : ∀ s' acc c H' ys, s'.heap.get? S = some (lstObj acc c) → Vals ys acc.toList → ys.length ≤ sizeLine → s'.os = sc.os → AllBare s'.gens → Un (frs outer) [] H H' sc.heap s'.heap → HOk P w H' s'.heap → H' S = none → Q ys H' → R (.ok (.ret res)) s') :
    ∀ (m : Nat) (s : Shared), s.heap.IsGen a g → s.heap.NoLimit →
      (∃ gs, s.gens[g]? = some gs ∧ GoesG P w A.in1.in1 (REndA P w outer H sc S Q) (YItemA sc S a g) m gs (.send .none) (s.setGen g .running)) →
      codeG P w A (.builtin "list.extend.loop" ⟨[.ref S, .ref a, res], []⟩) R s := by
  have goes : ∀ {gs : GenState} {B : Around} {n : Nat} {r : Resume} {s : Shared}, GoesG P w B (REndA P w outer H sc S Q) (YItemA sc S a g) n gs r s →
      GoesG P w B (fun n s₀ r s1 => r = .ok (.ret .none) ∧ (∃ H' ys acc c, s1.os = sc.os ∧ AllBare s1.gens ∧ Un (frs outer) [] H H' sc.heap s1.heap ∧ HOk P w H' s1.heap ∧ H' S = none ∧ s1.heap.get? S = some (lstObj acc c) ∧ Vals ys acc.toList ∧ ys.length ≤ sizeLine ∧ Q ys H')) (YItemA sc S a g) n gs r s := fun h => h
  intro m
  induction m with
  | zero =>
    intro s hg hl ⟨gs, hgs, hgo⟩
    refine codeG_builtin F.plain_extend_loop F.entry_extend_loop ?_
    show wpG P w A.in1 (pyNext (.ref a) >>= _) _ _ s
    refine wpG_bind (next_A (A := A.in1) hh hl hd hg hgs (goes hgo) (fun v s₁ gs' hv => ?_) (fun s₁ hp h' hk => ?_))
    · obtain ⟨_, hb1, _, _, hsz, ⟨acc, c, hS1, _⟩, hk⟩ := hv
      exact False.elim (hk { s₁ with heap := s₁.heap.update S (Obj.mapSeq (·.push v)) } ⟨rfl, hb1, fun b o hbS e => (Heap.get?_update_other _ _ (Ne.symm hbS)).trans e, fun acc' c' e => by
        rw [hS1] at e
        cases e
        exact ⟨_, Heap.get?_update_self _ hS1 rfl⟩, fun _ _ => rfl, Nat.le_refl _⟩)
    · obtain ⟨H', ys, acc, c, os1, hb1, un, hok, hSn, hS1, hv, hle, hQ⟩ := hp
      exact wpG_pure (hend _ acc c H' ys (hk _ _ hS1) hv hle os1 (allBare_setGen hb1 rfl) (un.trans (Un.kept hk)) (hok.kept hk) hSn hQ)
  | succ m ih =>
    intro s hg hl ⟨gs, hgs, hgo⟩
    refine codeG_builtin F.plain_extend_loop F.entry_extend_loop ?_
    show wpG P w A.in1 (pyNext (.ref a) >>= _) _ _ s
    refine wpG_bind (next_A (A := A.in1) hh hl hd hg hgs (goes hgo) (fun v s₁ gs' hv => ?_) (fun s₁ hp h' hk => ?_))
    · obtain ⟨os1, hb1, hl1, hg1, hsz1, ⟨acc, c, hS1, hasz⟩, hk⟩ := hv
      have hasz' : acc.size < sizeLine := by omega
      refine wpG_up ?_
      show wpAny _ A.in1 (updateSeq S (·.push v) >>= _) _ _ _
      refine wpAny_bind ?_
      refine wpAny_updateSeq hS1 rfl (wpAny_pure ⟨plainId_quiet F.plain_extend_loop _, ?_⟩) (Nat.le_of_lt hasz') (by show (acc.push v).size ≤ sizeLine + 1; rw [Array.size_push]; omega)
      have keep3 : ∀ b o, b ≠ S → s₁.heap.get? b = some o → (s₁.heap.update S (Obj.mapSeq (·.push v))).get? b = some o := fun b o hbS e => (Heap.get?_update_other _ _ (Ne.symm hbS)).trans e
      refine ih { s₁.setGen g gs' with heap := s₁.heap.update S (Obj.mapSeq (·.push v)) } ?_ ?_ ⟨gs', setGen_at hsz1, ?_⟩
      · obtain ⟨o, nm, qn, ho, r⟩ := hg1
        exact ⟨o, nm, qn, keep3 a o (Ne.symm hSa) ho, r⟩
      · obtain ⟨mc, hns, hnn⟩ := hl1
        exact ⟨mc, hns.at' fun o e => keep3 _ o (Ne.symm hSc) e, hnn⟩
      · refine hk _ ⟨rfl, allBare_run (s := { s₁ with heap := s₁.heap.update S (Obj.mapSeq (·.push v)) }) hb1, keep3, fun acc' c' e => ?_, fun i hi => ?_, ?_⟩
        · rw [hS1] at e
          cases e
          exact ⟨_, Heap.get?_update_self _ hS1 rfl⟩
        · show ((s₁.setGen g gs').setGen g .running).gens[i]? = _
          rw [setGen_other hi, setGen_other hi]
        · show _ ≤ ((s₁.setGen g gs').setGen g .running).gens.size
          rw [setGen_size, setGen_size]
          exact Nat.le_refl _
    · obtain ⟨H', ys, acc, c, os1, hb1, un, hok, hSn, hS1, hv, hle, hQ⟩ := hp
      exact wpG_pure (hend _ acc c H' ys (hk _ _ hS1) hv hle os1 (allBare_setGen hb1 rfl) (un.trans (Un.kept hk)) (hok.kept hk) hSn hQ)
end Gap
/-! ## G9 -/
set_option Elab.async false
set_option linter.all false
set_option maxRecDepth 100000
set_option maxHeartbeats 4000000
/-! G9: list(g) of a delegating generator. -/
namespace Gap
open PySem PySem.Spec PyProof.Rows GenW L2
open Sem (wp)

theorem list_init_A {P : Program} {w : World} {outer : List Env} {H : Hp} {sc s : Shared} {Q : List V → Hp → Prop} {A : Around} {k : Nat} {u : Value} {R : Result → Shared → Prop}
    (hr : Room (k + 3) A) (hfr : A.frames = some outer) (h : GMadeA P w k outer H sc Q u s)
    (hQ : ∀ s' acc c H' ys, s'.heap.get? s.heap.objs.size = some (lstObj acc c) → Vals ys acc.toList → ys.length ≤ sizeLine → s'.os = sc.os → AllBare s'.gens → Un (frs outer) [] H H' sc.heap s'.heap → HOk P w H' s'.heap → H' s.heap.objs.size = none → Q ys H' → R (.ok (.ret .none)) s') :
    codeG P w A.in1 (.call (.builtin "list.__init__") ⟨[.ref s.heap.objs.size, u], []⟩) R { s with heap := s.heap.push { cls := .type "list", data := .seq #[] } } := by
  obtain ⟨a, g, c, rfl, ha1, ha2, hg, hgs, hos, hb, hl, hkp, wake⟩ := h
  have hSa : s.heap.objs.size ≠ a := Nat.ne_of_gt ha2
  have hcl : cStatics < s.heap.objs.size := let ⟨_, hn, _⟩ := hl; hn.lt
  have hSc : s.heap.objs.size ≠ cStatics := Nat.ne_of_gt hcl
  have hS : (s.heap.push { cls := .type "list", data := .seq #[] }).get? s.heap.objs.size = some { cls := .type "list", data := .seq #[] } := Heap.get?_push_size _ rfl
  refine codeG_call_builtin F.called_list.init.plain F.entry_list_init (F.called_list.init.check _ _ _ _ _ _ _ _ ⟨_, hS, rfl⟩ (F.args_list_init_2 _ _) rfl) (wpG_up ?_)
  show wpAny _ A.in1.in1 (do let old ← Builtin.List.listItems (.ref s.heap.objs.size); Builtin.List.listUpdate (.ref s.heap.objs.size) (fun _ => #[]); letGo old.toList.reverse; Builtin.List.listExtendWith (.ref s.heap.objs.size) (.ref a) .none) _ _ _
  refine wpAny_bind ?_
  unfold Builtin.List.listItems
  refine wpAny_bind (wpAny_seqItems hS rfl (wpAny_pure ?_))
  show wpAny _ A.in1.in1 (updateSeq s.heap.objs.size (fun _ => #[]) >>= fun _ => letGo (#[] : Array Value).toList.reverse >>= fun _ => Builtin.List.listExtendWith (.ref s.heap.objs.size) (.ref a) .none) _ _ _
  refine wpAny_bind (wpAny_updateSeq hS rfl ?_)
  have hS2 := Heap.get?_update_self (Obj.mapSeq (fun _ => (#[] : Array Value))) hS rfl
  refine wpAny_bind (wpAny_letGo ?_)
  unfold Builtin.List.listExtendWith
  have up : ∀ (h : Heap) (f : Obj → Obj), (∀ b o, s.heap.get? b = some o → h.get? b = some o) → ∀ b o, s.heap.get? b = some o → (h.update s.heap.objs.size f).get? b = some o := fun h f q b o e =>
    (Heap.get?_update_other _ _ (Ne.symm (Nat.ne_of_lt (Heap.lt_size e)))).trans (q b o e)
  have k1 : ∀ b o, s.heap.get? b = some o → (s.heap.push { cls := .type "list", data := .seq #[] }).get? b = some o := fun b o e => Heap.get?_push_of_some _ e
  have k2 := up _ (Obj.mapSeq (fun _ => (#[] : Array Value))) k1
  have gty : ∀ {h : Heap}, (∀ b o, s.heap.get? b = some o → h.get? b = some o) → h.IsGen a g := fun {h} q => hg.keeps q
  refine wpAny_bind (wpAny_typeOf (Heap.IsGen.typeIs (s := { s with heap := _ }) (gty k2)) ?_)
  have h1 : Builtin.List.listSameRef (.ref s.heap.objs.size) (.ref a) = false := by simp [Builtin.List.listSameRef, hSa]
  have h2 : (Value.type "generator" == Value.type "list") = false := by decide
  have h3 : (Value.type "generator" == Value.type "tuple") = false := by decide
  simp only [h1, h2, h3, Bool.or_false, Bool.false_eq_true, if_false]
  refine wpAny_bind (wpAny_pyIter_gen (s := { s with heap := _ }) (gty k2) ?_)
  refine wpAny_bind (wpAny_holding ?_)
  unfold Builtin.List.listLengthHint
  refine wpAny_bind (wpAny_specialOf (Heap.IsGen.typeIs (s := { s with heap := _ }) (gty k2)) F.gen_no_len ?_)
  show wpAny _ A.in1.in1 (specialOf (Value.ref a) (Str.ofString "__length_hint__") >>= _) _ _ _
  refine wpAny_bind (wpAny_specialOf (Heap.IsGen.typeIs (s := { s with heap := _ }) (gty k2)) F.gen_no_hint ?_)
  refine wpAny_pure ?_
  show wpAny _ A.in1.in1 (rule "list.extend.makes-room" >>= fun _ => Builtin.List.listTouch (.ref s.heap.objs.size) >>= fun _ =>
    again (.builtin "list.extend.loop" ⟨[.ref s.heap.objs.size, .ref a, .none], []⟩)) _ _ _
  refine wpAny_bind (wpAny_rule ?_)
  refine wpAny_bind ?_
  show wpAny _ A.in1.in1 (updateSeq s.heap.objs.size (·.push .none) >>= fun _ => updateSeq s.heap.objs.size (·.pop)) _ _ _
  refine wpAny_bind (wpAny_updateSeq hS2 rfl ?_)
  have hS3 := Heap.get?_update_self (Obj.mapSeq (·.push Value.none)) hS2 rfl
  refine wpAny_updateSeq (hz := by seq_fits) hS3 rfl ?_
  have hS4 := Heap.get?_update_self (Obj.mapSeq (·.pop)) hS3 rfl
  have k4 := up _ (Obj.mapSeq (·.pop)) (up _ (Obj.mapSeq (·.push Value.none)) k2)
  refine wpAny_pure ⟨plainId_quiet F.plain_extend_loop _, ?_⟩
  refine drainA (P := P) (w := w) (outer := outer) (H := H) (sc := sc) (Q := Q) (A := A.in1) (g := g) hr.hd (by have := hr.dp; show A.depth < _; omega) hSa hSc
    (fun s' acc c H' ys q1 q2 q3 q4 q5 q6 q7 q8 q9 => hQ s' acc c H' ys q1 q2 q3 q4 q5 q6 q7 q8 q9)
    sizeLine _ (gty k4) (hl.keeps k4) ⟨_, hgs, rfl, ?_⟩
  have hgl : g < s.gens.size := (Array.getElem?_eq_some_iff.mp hgs).1
  refine wake _ _ _ ⟨hr.hd, ?_, ?_⟩ hfr (Nat.le_refl _) k4 ⟨_, hS4⟩ hos (allBare_setGen (s := { s with heap := _ }) hb rfl) ?_
  · have := hr.dp
    show A.depth + 3 * k + 5 < _
    omega
  · have := hr.un
    show A.units + 1 + 1 + 1 + 16 * k + 200 < _
    omega
  · rw [setGen_size]; exact hgl

theorem call_list_A {P : Program} {w : World} {outer : List Env} {H : Hp} {sc s : Shared} {Q : List V → Hp → Prop} {A : Around} {k : Nat} {u : Value} {Q' : Value → Shared → Prop} {E : Value → Shared → Prop}
    (hr : Room (k + 3) A) (hfr : A.frames = some outer) (h : GMadeA P w k outer H sc Q u s)
    (hQ : ∀ s' acc c H' ys, s'.heap.get? s.heap.objs.size = some (lstObj acc c) → Vals ys acc.toList → ys.length ≤ sizeLine → s'.os = sc.os → AllBare s'.gens → Un (frs outer) [] H H' sc.heap s'.heap → HOk P w H' s'.heap → H' s.heap.objs.size = none → Q ys H' → Q' (.ref s.heap.objs.size) s') :
    wpG P w A (call (.type "list") [u]) Q' E s := by
  obtain ⟨a, g, c, hu, ha1, ha2, hg, _⟩ := id h
  have hS : (s.heap.push { cls := .type "list", data := .seq #[] }).get? s.heap.objs.size = some { cls := .type "list", data := .seq #[] } := Heap.get?_push_size _ rfl
  obtain ⟨cm, tl, hmro⟩ := F.called_list.mro
  have hmade := F.called_list.made
  have hsub := F.called_list.sub
  have hli := F.called_list.init.lookup
  have hbi := F.called_list.init.bind (.ref s.heap.objs.size)
  refine wpG_call (codeG_of_tree ?_)
  show wpG _ _ _ (callAny (.type "list") _) _ _ _
  refine wpG_pure ⟨Code.quiet_builtin _ (by decide +kernel), codeG_of_tree ?_⟩
  rw [denote_builtin F.entry_type_call, Around.under_plain (weight_type_call_type "list" [u] []) rfl]
  have h1 := F.called_list.notType
  have h2 := F.called_list.canCreate
  unfold Builtin.«type.__call__»
  dsimp only
  simp only [h1, h2, Bool.false_eq_true, if_false]
  refine wpG_bind (wpG_up (wpAny_of_eq (F.typeCall_list_1 u) ?_))
  refine wpG_bind (wpG_up (wpAny_of_eq hmro ?_))
  simp only [List.isEmpty_cons, Bool.false_eq_true, if_false]
  refine wpG_bind (wpG_up (wpAny_of_eq hmade ?_))
  dsimp only
  refine wpG_bind (wpG_pure ?_)
  refine wpG_bind (wpG_holding (wpG_up (wpAny_call (codeAny_mono (code_list_new (prog := P) (w := w) (A := A.in1) (E := fun _ _ => False) u (Q₁ := fun o s' => o = .ref s.heap.objs.size ∧ s' = { s with heap := s.heap.push { cls := .type "list", data := .seq #[] } }) ⟨rfl, rfl⟩) fun r s₁ hr1 => ?_))))
  cases r with
  | error e => exact hr1.elim
  | ok fl =>
  cases fl with
  | next => exact hr1.elim
  | brk => exact hr1.elim
  | cont => exact hr1.elim
  | ret obj =>
  obtain ⟨rfl, rfl⟩ := hr1
  refine wpG_bind (wpG_up (wpAny_isInstance (T := "list") (b := true) ⟨_, hS, rfl⟩ hsub ?_))
  simp only [Bool.not_true, Bool.false_eq_true, if_false]
  refine wpG_bind (wpG_holding ?_)
  simp only [callSpecial?]
  refine wpG_bind (wpG_up (wpAny_specialOf (T := "list") ⟨_, hS, rfl⟩ hli ?_))
  simp only [hbi]
  refine wpG_holding (wpG_bind (wpG_pure (wpG_bind (wpG_call (codeG_mono (list_init_A (R := fun r s' => r = .ok (.ret .none) ∧ Q' (.ref s.heap.objs.size) s') hr hfr h fun s' acc c' H' ys q1 q2 q3 q4 q5 q6 q7 q8 q9 => ⟨rfl, hQ s' acc c' H' ys q1 q2 q3 q4 q5 q6 q7 q8 q9⟩) fun r s₂ hr2 => ?_)))))
  obtain ⟨rfl, hq⟩ := hr2
  refine wpG_pure ?_
  dsimp only
  rw [if_neg (by decide)]
  exact wpG_pure hq
end Gap
/-! ## Z0 -/
set_option Elab.async false
set_option linter.all false
set_option maxRecDepth 100000
set_option maxHeartbeats 4000000
/-! Z0: generators over the frozen and the mutable part -/
namespace Ab
open PySem L2 PyProof.Rows
open Evl (Ex)
open Gap
abbrev SpcG := List V → Hp → Mu → (List V → Hp → Mu → Prop) → Prop
def PmG (S : SpcG) : SpG2 := fun vs H Q => ∃ B M R, Ok B M H ∧ S vs B M R ∧ ∀ ys B' M' H', Ok B' M' H' → R ys B' M' → Q ys H'
def wZ (t : TGn) (ys : List V) (σ : L2.St) (B : Hp) (M : Mu) (nx : List V → L2.St → Hp → Mu → Prop) : Prop := ∀ H (Z : GEnds), Ok B M H → (∀ ys' σ' B' M' H', Ok B' M' H' → nx ys' σ' B' M' → Z.nx ys' σ' H') → t Z ys σ H
section
variable {σ : L2.St} {B : Hp} {M : Mu} {ys : List V} {nx : List V → L2.St → Hp → Mu → Prop}
theorem z_nil (k : nx ys σ B M) : wZ tG0 ys σ B M nx := fun H Z ok n => n _ _ _ _ H ok k
theorem z_yield {te : TE} (hl : ys.length ≤ 100000) (h : wE te σ B M fun x B1 M1 => nx (ys ++ [x]) σ B1 M1) : wZ (tGYield te) ys σ B M nx := fun H Z ok n => ⟨Nat.lt_of_le_of_lt hl (by decide), h H _ ok fun x B1 M1 H1 ok1 z => n _ _ _ _ _ ok1 z⟩
theorem z_if {c : TT} {t u : TGn} (h : wT c σ B M fun b B1 M1 => (b = true → wZ t ys σ B1 M1 nx) ∧ (b = false → wZ u ys σ B1 M1 nx)) : wZ (tGIf c t u) ys σ B M nx := fun H Z ok n => h H _ ok fun b B1 M1 H1 ok1 z => by
  cases b with
  | true =>
    rw [if_pos rfl]
    exact z.1 rfl H1 Z ok1 n
  | false =>
    rw [if_neg Bool.false_ne_true]
    exact z.2 rfl H1 Z ok1 n
def Lz (g : TG) (tb : TGn) (nx : List V → L2.St → Hp → Mu → Prop) (ys : List V) (σ : L2.St) (J : It) (B1 : Hp) (M1 : Mu) : Prop :=
  ∃ n G Y, WB J n B1 G Y ∧ ∃ Iv : Nat → List V → L2.St → Hp → Mu → Prop, Iv 0 ys σ B1 M1 ∧ (∀ i ys' σ' B' M', i ≤ n → Iv i ys' σ' B' M' → Ex B1 B' ∧ G M') ∧
    (∀ i x ys' σ' B' M' B2, i < n → Iv i ys' σ' B' M' → Ex B' B2 → Y i x B2 → wG g x σ' B2 M' fun σ2 B3 M3 => wZ tb ys' σ2 B3 M3 (Iv (i + 1))) ∧ (∀ ys' σ' B' M', Iv n ys' σ' B' M' → nx ys' σ' B' M')
theorem z_for {wi : TI} {g : TG} {tb : TGn} (h : wI wi σ B M fun J B1 M1 => Lz g tb nx ys σ J B1 M1) : wZ (tGFor wi g tb) ys σ B M nx := fun H Z ok hn => h H _ ok fun J B1 M1 H1 ok1 ⟨n, G, Y, wb, Iv, h0, hI, hs, hd⟩ => by
  refine ⟨fun i m ys' σ' H' => m = n - i ∧ i ≤ n ∧ ∃ B' M', Ok B' M' H' ∧ Iv i ys' σ' B' M', ⟨_, rfl, Nat.zero_le _, B1, M1, ok1, h0⟩, ?_⟩
  rintro i m ys' σ' H' ⟨rfl, hi, B', M', ok', iv⟩
  obtain ⟨e1, hG⟩ := hI i ys' σ' B' M' hi iv
  by_cases hlt : i < n
  · refine .inr ⟨wb.goes i B' M' H' hlt e1 hG ok', fun ys2 σ2 H2 => ∃ B2 M2, Ok B2 M2 H2 ∧ Iv (i + 1) ys2 σ2 B2 M2, fun ys2 σ2 H2 p => ⟨n - (i + 1), by omega, rfl, hlt, p⟩, fun x H2 y => ?_⟩
    obtain ⟨B2, e2, ok2, hy⟩ := wb.yields i B' M' H' x H2 hlt e1 hG ok' y
    refine hs i x ys' σ' B' M' B2 hlt iv e2 hy H2 _ ok2 fun σ3 B3 M3 H3 ok3 z => ?_
    exact z H3 _ ok3 fun ys4 σ4 B4 M4 H4 ok4 q => ⟨B4, M4, ok4, q⟩
  · have e : i = n := by omega
    subst e
    exact .inl ⟨wb.stops B' M' H' e1 hG ok', hn _ _ _ _ _ ok' (hd ys' σ' B' M' iv)⟩
end
section
variable {P : Program} {w : World} {K : PySem.W.Frag} {mg : Str → Option Value} {base : Heap}
theorem gfn2Of {x : Str} {st : Stmt} {N ps : List Str} {k : Nat} {S : SpcG} (F : ∃ fd, FunD K x x (defArgs st) (defBody st) (defScope st) [] [] (He.ga K x) fd) (sc : GScope N ps (defScope st)) (len : ∀ vs B M R, S vs B M R → vs.length = ps.length)
    (hbody : ∀ (cdv : Value) (A : Around) (outer : List Env) (s : Shared) (H : Hp) (Sx : Addr), Room k (A.deeper (envOfC x (defScope st) s.heap.objs.size (He.ga K x) cdv)) →
      ∃ t, GSs2 (bcx P w K mg base N x (defScope st) (He.ga K x) cdv A outer s H Sx) (defBody st) t ∧ ∀ vs B M R, S vs B M R → wZ t [] (start N vs) B M (fun ys _ B' M' => R ys B' M')) :
    ∃ fd, FunD K x x (defArgs st) (defBody st) (defScope st) [] [] (He.ga K x) fd ∧ GFn2 P w K mg base (k + 1) (He.ga K x) fd ps (PmG S) := by
  obtain ⟨fd, F⟩ := F
  refine ⟨fd, F, ?_⟩
  obtain ⟨oc, od, dV, kV, doc, pm, an, cdv, ct, osl, rfl, lk, hcd, _, _⟩ := F.ex
  refine gfn2_of lk hcd sc (fun vs H Q ⟨B, M, R, _, h, _⟩ => len vs B M R h) fun A outer s H vs Q Sx hr ⟨B, M, R, ok, h, q⟩ => ?_
  obtain ⟨t, ht, hw⟩ := hbody cdv A outer s H Sx hr
  exact ⟨t, ht, hw vs B M R h H _ ok fun ys σ' B' M' H' o r => q ys B' M' H' o r⟩
theorem w_callG {S : SpcG} {ta : TA} {σ : L2.St} {B : Hp} {M : Mu} {R : List V → Hp → Mu → Prop} (h : wA ta σ B M fun vs B1 M1 => S vs B1 M1 R) : ∀ H (Q : List V → Hp → Prop), Ok B M H → (∀ ys B' M' H', Ok B' M' H' → R ys B' M' → Q ys H') → tCallG2 (PmG S) ta σ H Q := fun H Q ok q =>
  h H _ ok fun vs B1 M1 H1 ok1 z => ⟨B1, M1, R, ok1, z, q⟩
theorem startA {ts : L2.TS} {ta : TA} {S : SpcG} {σ : L2.St} {B : Hp} {M : Mu} {R : List V → Hp → Mu → Prop} (hw : wS ts σ B M (fun σ' B' M' => wA ta σ' B' M' fun vs B1 M1 => S vs B1 M1 R) (fun _ _ _ => False)) (H : Hp) (Q : List V → Hp → Prop) (ok : Ok B M H) (q : ∀ ys B' M' H', Ok B' M' H' → R ys B' M' → Q ys H') :
    ts { nx := fun σ' H' => tCallG2 (PmG S) ta σ' H' Q, rt := fun _ _ => False } σ H := hw H _ ok (fun σ' B' M' H' o z => w_callG z H' Q o q) fun _ _ _ _ _ z => z.elim
end
end Ab
/-! ## D31 -/
set_option Elab.async false
set_option linter.all false
set_option maxRecDepth 100000
set_option maxHeartbeats 4000000
namespace Ab
open PySem L2 PyProof.Rows
open Evl (Ex)
local macro_rules | `(tactic| trivial) => `(tactic| first
  | ((with_reducible apply w_var); exact rfl)
  | with_reducible refine w_c ?_ | with_reducible refine w_cons ?_ | with_reducible refine w_nil ?_ | with_reducible refine w_op ?_ | with_reducible refine w_cb ?_ | with_reducible refine w_call ?_ | with_reducible refine w_test ?_ | with_reducible refine w_B ?_
  | with_reducible refine bX ?_ | with_reducible refine bT ?_ | with_reducible refine bF ?_ | with_reducible refine zN ?_ | with_reducible refine zI ?_ | with_reducible refine zS ?_ | with_reducible refine zR ?_ | with_reducible refine zN' ?_ | with_reducible refine zI' ?_ | with_reducible refine zS' ?_ | with_reducible refine zR' ?_ | with_reducible refine bnT ?_ | with_reducible refine bnF ?_ | with_reducible refine w_and ?_ | with_reducible refine w_or ?_ | with_reducible refine w_not ?_ | with_reducible refine w_andV ?_ | with_reducible refine w_orV ?_
  | with_reducible refine w_notV ?_ | with_reducible refine w_if ?_ | with_reducible refine w_chain ?_ | with_reducible refine w_un ?_ | with_reducible refine wr_I0 ?_ | with_reducible refine wu_I ?_ | with_reducible refine wr_isN ?_ | with_reducible refine wr_notN ?_
  | with_reducible refine wr_eq rfl ?_ | with_reducible refine wr_ne rfl ?_ | with_reducible refine w_yes ?_ | with_reducible refine w_tup ?_ | with_reducible refine w_lst ?_ | with_reducible refine s_ret ?_ | with_reducible refine s_retN ?_
  | with_reducible refine s_seq ?_ | with_reducible refine s_if ?_ | with_reducible refine s_set ?_ | with_reducible refine s_dput ?_ | with_reducible refine s_app ?_ | with_reducible refine s_drop ?_ | with_reducible refine s_next ?_ | with_reducible refine s_par ?_ | with_reducible refine s_par3 ?_ | with_reducible refine s_asg ?_
  | with_reducible refine g_name ?_ | with_reducible refine gs_nil ?_ | with_reducible refine gs_cons ?_ | with_reducible refine wi_int_int ?_ | with_reducible refine wi_int_bool ?_ | with_reducible refine wi_str_str ?_ | with_reducible refine w_fld ?_ | with_reducible refine w_meth ?_ | with_reducible refine w_prop ?_ | with_reducible refine w_make ?_ | with_reducible refine w_makeK ?_ | with_reducible refine w_methN ?_ | with_reducible refine w_callN ?_ | with_reducible refine w_dget ?_ | with_reducible refine w_din ?_ | with_reducible refine w_dnin ?_ | with_reducible refine s_fld ?_ | with_reducible refine w_sl ?_ | with_reducible refine w_part ?_
  | with_reducible refine w_noPart ?_ | with_reducible refine iX ?_)

section
variable {P : Program} {w : World} {K : PySem.W.Frag} {mg : Str → Option Value} {base : Heap}
open Gap
def RefV (B : Hp) (v : V) (p : Nat × Nat × Nat) : Prop := ∃ t, v = .ref t ∧ B t = some (.tup [.int (p.1 : Nat), .int (p.2.1 : Nat), .int (p.2.2 : Nat)])
theorem RefV.ex {B B' : Hp} {v : V} {p : Nat × Nat × Nat} (x : Ex B B') (h : RefV B v p) : RefV B' v p := by
  obtain ⟨t, h1, h2⟩ := h
  exact ⟨t, h1, x _ _ h2⟩
def refRow (ms : List Int) (ts : List Told) (ks : List Kd) (c : Cl × Nat) (n : Nat) : List (Nat × Nat × Nat) := (((pairsAll ms.length).take n).filter (refuseB ms ts ks c.1)).map fun p => (c.2, p)
def refTo (ms : List Int) (ts : List Told) (ks : List Kd) (cs : List Cl) (i : Nat) : List (Nat × Nat × Nat) := (cs.zipIdx.take i).flatMap fun c => refRow ms ts ks c (pairsAll ms.length).length
theorem refTo_all {ms : List Int} {ts : List Told} {ks : List Kd} {cs : List Cl} : refTo ms ts ks cs cs.length = refM ms ts ks cs := by
  unfold refTo refM refRow
  rw [show cs.length = cs.zipIdx.length by rw [List.length_zipIdx], List.take_length, List.take_length]
theorem pairsAll_mem {n : Nat} {p : Nat × Nat} (h : p ∈ pairsAll n) : p.1 < n ∧ p.2 < n := by
  unfold pairsAll at h
  obtain ⟨i, hi, h⟩ := List.mem_flatMap.mp h
  obtain ⟨j, hj, rfl⟩ := List.mem_map.mp h
  exact ⟨List.mem_range.mp hi, List.mem_range.mp hj⟩
theorem pairsAll_len {n : Nat} : (pairsAll n).length = n * n := by
  unfold pairsAll
  rw [List.length_flatMap]
  simp [List.map_const', List.sum_replicate_nat]
def S_found_refusals (K : PySem.W.Frag) : SpcG := fun vs B M R => ∃ (p q a kd rd : Addr) (cv : List V) (ms : List Int) (ts : List Told) (ks : List Kd) (cs : List Cl), vs = [.ref p, .ref q, .ref a] ∧ B p = some (.lst (ms.map V.int)) ∧ MsOk ms ∧ ts.length = ms.length ∧ B q = some (.lst cv) ∧ Paired (ContV K B) cv ts ∧ (∀ t ∈ ts, ToldOk t) ∧
  (∀ c ∈ cs, ∀ t ∈ ts, c.role ∈ t.rows.map Row.role) ∧ FleetAt K B M a kd rd ks cs ∧ FlOk ks cs ∧ ∀ B1 ys, Ex B B1 → Paired (RefV B1) ys (refM ms ts ks cs) → R ys B1 M
theorem sc_found_refusals : GScope ["moments", "contents", "fleet", "call", "role", "client", "server", "life", "early", "late"] ["moments", "contents", "fleet"] (defScope (top 58)) := ⟨rfl, rfl, rfl, by decide +kernel, rfl, by decide +kernel, by decide +kernel⟩
theorem okg_found_refusals (T : Tx K mg) : ∃ fd, FunD K "found_refusals" "found_refusals" (defArgs (top 58)) (defBody (top 58)) (defScope (top 58)) [] [] (He.ga K "found_refusals") fd ∧ GFn2 P w K mg base 9 (He.ga K "found_refusals") fd ["moments", "contents", "fleet"] (PmG (S_found_refusals K)) := by
  have nd := sc_found_refusals.nd
  refine gfn2Of (k := 8) (S := S_found_refusals K) T.d_found_refusals sc_found_refusals (fun vs B M R ⟨_, _, _, _, _, _, _, _, _, _, e, _⟩ => by rw [e] <;> rfl) fun cdv A outer s H Sx hr => ?_
  have hu := hu_of hr
  refine ⟨_, (gss2_one (gs2_for rfl (pi_enum (by rfl) T.f_enumerate (pa_cons (C8.pe_mt0 (ok_Fleet_calls T) hr (by decide) (pv 2)) pa_nil)) (pg_tup rfl (pgs_cons (pg_name (i := 3) nd rfl (Or.inl rfl)) (pgs_cons (pg_tup rfl (pgs_cons (pg_name (i := 4) nd rfl (Or.inl rfl)) (pgs_cons (pg_name (i := 5) nd rfl (Or.inl rfl)) (pgs_cons (pg_name (i := 6) nd rfl (Or.inl rfl)) (pgs_cons (pg_name (i := 7) nd rfl (Or.inl rfl)) pgs_nil))))) pgs_nil)))
    (gss2_one (gs2_for rfl (pi_list (C8.pe_c (ok_pairs_of T) hr (by decide) (by rfl) (pa_cons (pv 0) pa_nil))) (pg_tup rfl (pgs_cons (pg_name (i := 8) nd rfl (Or.inl rfl)) (pgs_cons (pg_name (i := 9) nd rfl (Or.inl rfl)) pgs_nil)))
    (gss2_one (gs2_if ((pw_and (pt_val (C8.pe_c (ok_is_refused T) hr (by decide) (by rfl) (pa_cons (pe_ix ix_list (pv 1) (pv 8) (fun _ _ => rfl)) (pa_cons (pe_ix ix_list (pv 1) (pv 9) (fun _ _ => rfl)) (pa_cons (pv 4) pa_nil))))) (pw_and1 (pt_val (C8.pe_c (ok_do_meet T) hr (by decide) (by rfl) (pa_cons (pv 0) (pa_cons (pv 2) (pa_cons (pv 3) (pa_cons (pv 8) (pa_cons (pv 9) pa_nil)))))))))).pt
    (gss2_one (gs2_yield (pe_tup (pa_cons (pv 3) (pa_cons (pv 8) (pa_cons (pv 9) pa_nil)))))) gss2_nil)))))), ?_⟩
  rintro vs B M R ⟨p, q, a, kd, rd, cv, ms, ts, ks, cs, rfl, hp, mok, hl, hq, hcv, htd, hro, fl, fo, k⟩
  have hcl := f2_len hcv
  have hm7 := mok.most
  have hc6 := fo.cl
  have hpl := @pairsAll_len ms.length
  have hp49 : ms.length * ms.length ≤ 7 * 7 := Nat.mul_le_mul hm7 hm7
  refine z_for (i_enum ?_)
  obtain ⟨dx, hat⟩ := fl.at_
  repeat trivial
  refine ⟨a, dx, _, rfl, hat, (lk_past (by decide +kernel)).trans ((lk_past (by decide +kernel)).trans rfl), ?_⟩
  repeat trivial
  refine ⟨a, kd, rd, ks, cs, ⟨⟩, rfl, fl, fun B1 r rs e1 hr1 hrs => ?_⟩
  repeat trivial
  have hrl := f2_len hrs
  refine ⟨r, rs, rfl, .of hr1, _, _, _, wb_enum (.of hr1), fun i ys σ' B' M' => (∃ u1 u2 u3 u4 u5 u6 u7, σ' = [some (.ref p), some (.ref q), some (.ref a), u1, u2, u3, u4, u5, u6, u7]) ∧ Ex B1 B' ∧ M' = M ∧ Paired (RefV B') ys (refTo ms ts ks cs i) ∧ ys.length ≤ i * 49, ⟨⟨_, _, _, _, _, _, _, rfl⟩, Ex.refl _, rfl, .nil, Nat.le_refl _⟩, fun i ys' σ' B' M' _ h => ⟨h.2.1, True.intro⟩, ?_, ?_⟩
  · rintro i x ys σ' B' M' B2 hi ⟨⟨u1, u2, u3, u4, u5, u6, u7, rfl⟩, e2, rfl, hys, hyl⟩ e3 ⟨T0, y, rfl, hy, hT0⟩
    obtain ⟨c, hcx, t, rfl, ht⟩ := f2_get hrs hy
    have e4 := (e1.trans e2).trans e3
    have hcm := List.mem_of_getElem? hcx
    refine g_tup (.of hT0) rfl (gs_cons (g_name (gs_cons (g_tup (.of ((e2.trans e3) _ _ ht)) rfl (gs_cons (g_name (gs_cons (g_name (gs_cons (g_name (gs_cons (g_name (gs_nil (gs_nil ?_)))))))))))))) 
    have hzi : cs.zipIdx[i]? = some (c, i) := by rw [List.getElem?_zipIdx, hcx]; simp
    have hrow : refTo ms ts ks cs (i + 1) = refTo ms ts ks cs i ++ refRow ms ts ks (c, i) (pairsAll ms.length).length := by
      unfold refTo
      rw [List.take_add_one, hzi, List.flatMap_append]
      simp
    refine z_for (i_list ?_)
    repeat trivial
    refine ⟨p, _, ⟨⟩, rfl, e4 _ _ hp, by rw [List.length_map]; exact hm7, fun B3 pp pv e5 hpp hpv => ?_⟩
    rw [List.length_map] at hpv
    have hpvl := f2_len hpv
    refine ⟨pp, pv, rfl, .of hpp, _, _, _, wb_list (.of hpp), fun j ys2 σ' B' M'' => (∃ u6 u7, σ' = [some (.ref p), some (.ref q), some (.ref a), some (.int (i : Nat)), some (.str c.role), some (.str c.client), some (.str c.server), some (.int c.life), u6, u7]) ∧ Ex B3 B' ∧ M'' = M' ∧ Paired (RefV B') ys2 (refTo ms ts ks cs i ++ refRow ms ts ks (c, i) j) ∧ ys2.length ≤ i * 49 + j, ⟨⟨_, _, rfl⟩, Ex.refl _, rfl, ?_, by omega⟩, fun j ys' σ' B' M' _ h => ⟨h.2.1, True.intro⟩, ?_, ?_⟩
    · have z : refRow ms ts ks (c, i) 0 = [] := rfl
      rw [z, List.append_nil]
      exact f2_mono (fun _ _ w => w.ex (e3.trans e5)) hys
    · rintro j x ys2 σ' B5 M5 B6 hj ⟨⟨u6, u7, rfl⟩, e6, rfl, hys2, hyl2⟩ e7 hx
      obtain ⟨pr, hpr, t2, rfl, ht2⟩ := f2_get hpv hx
      have e8 := e6.trans e7
      have e9 := (e4.trans e5).trans e8
      have hpm := pairsAll_mem (List.mem_of_getElem? hpr)
      have hys3 := f2_mono (fun _ _ (w : RefV _ _ _) => w.ex e7) hys2
      refine g_tup (.of (e8 _ _ ht2)) rfl (gs_cons (g_name (gs_cons (g_name (gs_nil ?_)))))
      obtain ⟨t1, ht1⟩ : ∃ t1, ts[pr.1]? = some t1 := ⟨ts[pr.1]'(by omega), by simp⟩
      obtain ⟨c1, hc1, v1⟩ := f2_at hcv ht1
      obtain ⟨t2, ht2⟩ : ∃ t1, ts[pr.2]? = some t1 := ⟨ts[pr.2]'(by omega), by simp⟩
      obtain ⟨c2, hc2, v2⟩ := f2_at hcv ht2
      have g1 : ts.getD pr.1 told0 = t1 := by rw [List.getD_eq_getElem?_getD, ht1] <;> rfl
      have g2 : ts.getD pr.2 told0 = t2 := by rw [List.getD_eq_getElem?_getD, ht2] <;> rfl
      have m1 := List.mem_of_getElem? ht1
      have m2 := List.mem_of_getElem? ht2
      have step : refRow ms ts ks (c, i) (j + 1) = refRow ms ts ks (c, i) j ++ if refuseB ms ts ks c pr then [(i, pr)] else [] := by
        unfold refRow
        rw [List.take_add_one, hpr, List.filter_append, List.map_append]
        congr 1
        by_cases z : refuseB ms ts ks c pr = true <;> simp [z]
      have skip : refuseB ms ts ks c pr = false → ∀ B7, Ex B6 B7 → Paired (RefV B7) ys2 (refTo ms ts ks cs i ++ refRow ms ts ks (c, i) (j + 1)) := fun z B7 e => by
        rw [step, z, if_neg Bool.false_ne_true, List.append_nil]
        exact f2_mono (fun _ _ w => w.ex e) hys3
      refine z_if ?_
      repeat trivial
      refine wr_ixL (.of (e9 _ _ hq)) (atN hc1) ?_
      repeat trivial
      refine wr_ixL (.of (e9 _ _ hq)) (atN hc2) ?_
      repeat trivial
      refine ⟨c1, c2, t1, t2, c.role, rfl, v1.ex e9, v2.ex e9, htd _ m1, htd _ m2, fo.c4 c hcm, hro c hcm _ m1, hro c hcm _ m2, fun B7 e10 => ?_⟩
      cases hb1 : refB t1 t2 c.role with
      | false =>
        have z : refuseB ms ts ks c pr = false := by
          unfold refuseB
          rw [g1, g2, hb1]
          rfl
        repeat trivial
        refine z_nil ⟨⟨_, _, rfl⟩, e8.trans e10, rfl, skip z _ e10, by omega⟩
      | true =>
        have fl7 := fl.mx (e9.trans e10) (fun _ _ h => h)
        repeat trivial
        refine ⟨p, a, kd, rd, ms, ks, cs, i, pr.1, pr.2, rfl, (e9.trans e10) _ _ hp, mok, fl7, fo, hpm.1, hpm.2, c, hcx, fun B8 e11 => ?_⟩
        have rb : refuseB ms ts ks c pr = meetB ms ks c pr.1 pr.2 := by
          unfold refuseB
          rw [g1, g2, hb1]
          rfl
        cases hb2 : meetB ms ks c pr.1 pr.2 with
        | false =>
          repeat trivial
          refine z_nil ⟨⟨_, _, rfl⟩, (e8.trans e10).trans e11, rfl, skip (rb.trans hb2) _ (e10.trans e11), by omega⟩
        | true =>
          repeat trivial
          refine z_yield (by omega) ?_
          repeat trivial
          refine ⟨len3, fun t tB tM => ?_⟩
          have x1 := exNew (o := .tup [V.int (i : Nat), V.int (pr.1 : Nat), V.int (pr.2 : Nat)]) tB
          refine ⟨⟨_, _, rfl⟩, ((e8.trans e10).trans e11).trans x1, rfl, ?_, by rw [List.length_append]; show _ + 1 ≤ _; omega⟩
          rw [step, rb, hb2, if_pos rfl, ← List.append_assoc]
          exact Paired.snoc (f2_mono (fun _ _ w => w.ex ((e10.trans e11).trans x1)) hys3) ⟨t, rfl, upd_same⟩
    · rintro ys2 σ' B5 M5 ⟨⟨u6, u7, rfl⟩, e6, rfl, hys2, hyl2⟩
      rw [hpvl] at hys2 hyl2
      refine ⟨⟨_, _, _, _, _, _, _, rfl⟩, ((e2.trans e3).trans e5).trans e6, rfl, ?_, by rw [hpl] at hyl2; omega⟩
      rw [hrow]
      exact hys2
  · rintro ys σ' B' M' ⟨⟨u1, u2, u3, u4, u5, u6, u7, rfl⟩, e2, rfl, hys, hyl⟩
    rw [hrl, refTo_all] at hys
    exact k B' ys (e1.trans e2) hys
def S_refusals (K : PySem.W.Frag) : SpcG := fun vs B M R => ∃ (v : V) (a kd rd : Addr) (es : List (Int × Told)) (ks : List Kd) (cs : List Cl) (u : Unit), vs = [v, .ref a] ∧ PlanV K B v es ∧ EdsOk es ∧ FleetAt K B M a kd rd ks cs ∧ FlOk ks cs ∧ Fits es cs ∧ ∀ B1 ys, Ex B B1 → Paired (RefV B1) ys (refM (es.map (·.1)) (es.map (·.2)) ks cs) → R ys B1 M
theorem sc_refusals : GScope ["plan", "fleet"] ["plan", "fleet"] (defScope (top 59)) := ⟨rfl, rfl, rfl, by decide +kernel, rfl, by decide +kernel, by decide +kernel⟩
theorem msOk_of {es : List (Int × Told)} (h : EdsOk es) : MsOk (es.map (·.1)) := by
  have g : ∀ i, i < es.length → ∃ e, es[i]? = some e ∧ (es.map (·.1)).getD i 0 = e.1 := fun i hi => ⟨es[i], by simp, by simp [List.getD_eq_getElem?_getD, hi]⟩
  refine ⟨by rw [List.length_map]; exact h.most, fun i hi => ?_, fun i hi => ?_⟩
  · rw [List.length_map] at hi
    obtain ⟨e, he, q⟩ := g i hi
    rw [q]
    exact h.mom e (List.mem_of_getElem? he)
  · rw [List.length_map] at hi
    obtain ⟨e, he, q⟩ := g i (by omega)
    obtain ⟨f, hf, q2⟩ := g (i + 1) hi
    rw [q, q2]
    exact h.inc i e f he hf
theorem okg_refusals (T : Tx K mg) : ∃ fd, FunD K "refusals" "refusals" (defArgs (top 59)) (defBody (top 59)) (defScope (top 59)) [] [] (He.ga K "refusals") fd ∧ GFnA P w K mg base 13 (He.ga K "refusals") fd ["plan", "fleet"] (PmG (S_refusals K)) := by
  have nd := sc_refusals.nd
  obtain ⟨fd, F⟩ := T.d_refusals
  refine ⟨fd, F, ?_⟩
  obtain ⟨fd2, F2, G2⟩ := okg_found_refusals (P := P) (w := w) (base := base) T
  obtain ⟨oc, od, dV, kV, doc, pm, an, cdv, ct, osl, rfl, lk, hcd, _, _⟩ := F.ex
  refine gfnA_of (k := 12) (kB := 9) (sp := PmG (S_refusals K)) (N := ["plan", "fleet"]) lk hcd sc_refusals (by decide) (fun vs H Q ⟨B, M, R, _, ⟨_, _, _, _, _, _, _, _, e, _⟩, _⟩ => by rw [e] <;> rfl) fun A outer s H vs Q hr ⟨B, M, R, ok, ⟨v, a, kd, rd, es, ks, cs, _, e, plv, eo, fl, fo, fi, k⟩, q⟩ => ?_
  subst e
  have hu := hu_of hr
  refine ⟨_, _, (ps_expr (C8.pe_c (ok_check_plan T) hr (by decide) (by rfl) (pa_cons (pv 0) (pa_cons (pv 1) pa_nil)))), pgen2_call G2 (hr.mono (by decide)) (by rfl) T.g_found_refusals F2.kp (F2.bindsN (fun _ _ _ _ _ _ us hl => match us, hl with | [_, _, _], _ => rfl)) (pa_cons (C8.pe_mt0 (ok_Plan_moments T) hr (by decide) (pv 0)) (pa_cons (C8.pe_c (ok_contents_list T) hr (by decide) (by rfl) (pa_cons (pv 0) pa_nil)) (pa_cons (pv 1) pa_nil))), ?_⟩
  refine startA ?_ H Q ok q
  refine s_drop ?_
  repeat trivial
  refine ⟨v, a, kd, rd, es, ks, cs, ⟨⟩, rfl, plv, eo.few, fl, fi, fun B1 e1 => ?_⟩
  obtain ⟨b, bx, tp, us, rfl, h2, h3, h4⟩ := id plv
  have hm := eo.most
  repeat trivial
  refine ⟨b, bx, _, rfl, e1 _ _ h2, (lk_past (by decide +kernel)).trans rfl, ?_⟩
  repeat trivial
  refine ⟨_, es, rfl, plv.ex e1, by omega, fun B2 p e2 hp => ?_⟩
  repeat trivial
  refine ⟨_, es, ⟨⟩, rfl, plv.ex (e1.trans e2), by omega, fun B3 q cv e3 hq hcv => ?_⟩
  repeat trivial
  have e4 := (e1.trans e2).trans e3
  refine ⟨p, q, a, kd, rd, cv, es.map (fun x : Int × Told => x.1), es.map (fun x : Int × Told => x.2), ks, cs, rfl, by rw [List.map_map]; exact e3 _ _ hp, msOk_of eo, by rw [List.length_map, List.length_map], hq, hcv, fun t ht => ?_, fun c hc t ht => ?_, fl.mx e4 (fun _ _ h => h), fo, fun B5 ys e5 hys => k B5 ys (e4.trans e5) hys⟩
  · obtain ⟨e, he, rfl⟩ := List.mem_map.mp ht
    exact eo.told e he
  · obtain ⟨e, he, rfl⟩ := List.mem_map.mp ht
    exact fi c hc e he
end
end Ab
/-! ## G10 -/
set_option Elab.async false
set_option linter.all false
set_option maxRecDepth 100000
set_option maxHeartbeats 4000000
/-! G10: expressions, tests and statements over Go: what a body that drains a delegating generator needs. -/
namespace Gap
open PySem PySem.Spec PyProof.Rows GenW L2
open Sem (wp)
section
variable {prog : Program} {w : World} {A : Around} {E : Value → Shared → Prop} {s : Shared} {env : Env} {pos : Pos}
theorem wpG_keep {α : Type} {vs : List Value} {m : Sem α} {Q : α → Shared → Prop} (h : wpG prog w A m Q E s) : wpG prog w A (m.keep vs) Q E s := by
  rw [Sem.keep_eq_wrap]
  exact wpG_wrap (wpG_mono h (fun _ _ q => wpG_pure q) fun _ _ q => wpG_throw q)
theorem gspl_nil {Q : List Value → Shared → Prop} (h : Q [] s) : wpG prog w A (spliced []) Q E s := by
  rw [spliced]
  exact wpG_pure h
theorem gspl_cons {x : Sem Value} {rest : List (Bool × Sem Value)} {Q : List Value → Shared → Prop} (h : wpG prog w A x (fun v s1 => wpG prog w A (spliced rest) (fun vs s2 => Q (v :: vs) s2) E s1) E s) : wpG prog w A (spliced ((false, x) :: rest)) Q E s := by
  rw [spliced]
  refine wpG_bind (wpG_mono h (fun v s1 h1 => ?_) fun _ _ x => x)
  simp only [Bool.false_eq_true, if_false]
  exact wpG_bind (wpG_pure (wpG_bind (wpG_holding (wpG_mono h1 (fun vs s2 h2 => wpG_pure h2) fun _ _ x => x))))
theorem gargs_plain {f : Value} {x : Sem Value} {rest : List (Bool × Sem Value)} {Q : Args → Shared → Prop} (h : wpG prog w A (spliced ((false, x) :: rest)) (fun vs s' => Q ⟨vs, []⟩ s') E s) : wpG prog w A (evalArgs f true ((false, x) :: rest) []) Q E s := by
  unfold evalArgs
  show wpG prog w A (spliced ((false, x) :: rest) >>= _) Q E s
  refine wpG_bind (wpG_mono h (fun vs s' h' => ?_) fun _ _ x => x)
  refine wpG_holding ?_
  exact wpG_bind (wpG_pure (wpG_bind (wpG_pure (wpG_pure h'))))
theorem gcallWith_of {P : Heap → Prop} {f : Value} {args : List (Bool × Sem Value)} {Q : Value → Shared → Prop} (hplain : args.any (·.1) = false)
    (hk : ∀ h, P h → ∃ k, (k = Keeper.frame ∨ k = Keeper.machine ∨ k = Keeper.boundFrame) ∧ PySem.W.Looks (model prog w) h (keeperOf f) k)
    (h : wpG prog w A (evalArgs f true args []) (fun a s₁ => P s₁.heap ∧ wpG prog w A (call f a.pos a.kw) Q E s₁) E s) : wpG prog w A (callWith pos f [] args []) Q E s := by
  unfold callWith
  refine wpG_bind (wpG_holding (wpG_mono h (fun a s₁ h₁ => wpG_bind (wpG_up (wpAny_standAt ?_))) fun _ _ x => x))
  obtain ⟨k, hk', L⟩ := hk _ h₁.1
  simp only [hplain, List.any_nil, Bool.or_false, List.nil_append]
  refine wpG_bind (wpG_up (L.here ?_))
  have tail : ∀ {t : Sem Value}, wpG prog w A t Q E s₁ → wpG prog w A (t >>= fun r => holding [r] point >>= fun _ => pure r) Q E s₁ :=
    fun ht => wpG_bind (wpG_mono ht (fun r s₂ hr => wpG_bind (wpG_holding (wpG_up (wpAny_point (wpG_pure hr))))) fun _ _ x => x)
  have marked (mk : Value) : wpG prog w A (callMarked mk f a.pos a.kw) Q E s₁ := by unfold callMarked; exact wpG_keep h₁.2
  rcases hk' with rfl | rfl | rfl <;> dsimp only <;> first | exact tail h₁.2 | (split <;> first | exact tail h₁.2 | exact tail (marked _))
theorem gcallWith_type {T : String} {args : List (Bool × Sem Value)} {Q : Value → Shared → Prop} (hplain : args.any (·.1) = false)
    (h : wpG prog w A (evalArgs (.type T) true args []) (fun a s₁ => wpG prog w A (call (.type T) a.pos a.kw) Q E s₁) E s) : wpG prog w A (callWith pos (.type T) [] args []) Q E s := by
  unfold callWith
  refine wpG_bind (wpG_holding (wpG_mono h (fun a s₁ h₁ => wpG_bind (wpG_up (wpAny_standAt ?_))) fun _ _ x => x))
  simp only [hplain, List.any_nil, Bool.or_false, List.nil_append]
  refine wpG_bind (wpG_pure ?_)
  exact wpG_bind (wpG_mono h₁ (fun r s₂ hr => wpG_bind (wpG_holding (wpG_up (wpAny_point (wpG_pure hr))))) fun _ _ x => x)
end

/-! ### the readings' rules -/
structure PEG (X : Cx) (e : Expr) (t : TE) : Prop where
  run : ∀ (pins : List (Addr × Obj)) (s : Shared) (σ : L2.St) (H : Hp) (Q : VK), Inv X pins σ H s → t σ H Q → wpG X.prog X.w X.A (eval e X.env) (EP X pins σ Q) X.xe s
structure PTG (X : Cx) (e : Expr) (t : TT) : Prop where
  run : ∀ (pins : List (Addr × Obj)) (s : Shared) (σ : L2.St) (H : Hp) (Q : Bool → Hp → Prop), Inv X pins σ H s → t σ H Q → wpG X.prog X.w X.A (isTrue e X.env (eval e X.env)) (TP X pins σ Q) X.xe s
structure PSG (X : Cx) (st : Stmt) (t : L2.TS) : Prop where
  run : ∀ (pins : List (Addr × Obj)) (s : Shared) (σ : L2.St) (H : Hp) (D : Ends), Inv X pins σ H s → t D σ H → wpG X.prog X.w X.A (exec st X.env) (SP X pins D) X.xe s
structure PSsG (X : Cx) (st : List Stmt) (t : L2.TS) : Prop where
  run : ∀ (pins : List (Addr × Obj)) (s : Shared) (σ : L2.St) (H : Hp) (D : Ends), Inv X pins σ H s → t D σ H → wpG X.prog X.w X.A (execs st X.env) (SP X pins D) X.xe s
section
variable {X : Cx} {e a b : Expr} {ta tb te : TE} {tA tO : TT} {st : Stmt} {rest : List Stmt} {t u : L2.TS} {pos : Pos}
theorem psG_up (h : PS X st t) : PSG X st t := ⟨fun pins s σ H D I ht => wpG_up (h.run pins s σ H D I ht)⟩
theorem pssG_up (h : PSs X rest t) : PSsG X rest t := ⟨fun pins s σ H D I ht => wpG_up (h.run pins s σ H D I ht)⟩
theorem peG_up (h : PE X e te) : PEG X e te := ⟨fun pins s σ H D I ht => wpG_up (h.run pins s σ H D I ht)⟩
theorem pssG_cons (h1 : PSG X st t) (h2 : PSsG X rest u) : PSsG X (st :: rest) (tSeq t u) := by
  refine ⟨fun pins s σ H D I h => ?_⟩
  rw [execs_cons]
  refine wpG_bind (wpG_mono (h1.run pins s σ H { D with nx := u D } I h) (fun f s1 q => ?_) fun _ _ z => z)
  cases f with
  | next =>
    obtain ⟨σ', H', I', q⟩ := q
    exact h2.run pins s1 σ' H' D I' q
  | ret v => exact wpG_pure q
  | brk => exact wpG_pure q
  | cont => exact wpG_pure q
theorem psG_if {c : Expr} {p q : List Stmt} {tc : TT} (hc : PTG X c tc) (ha : PSsG X p t) (hb : PSsG X q u) : PSG X (.If c p q pos) (tIfS tc t u) := by
  refine ⟨fun pins s σ H D I h => ?_⟩
  rw [exec_If]
  refine wpG_bind (wpG_up (wpAny_standAt (wpG_bind (wpG_mono (hc.run pins s σ H _ I h) (fun d s1 ⟨H1, I1, q1⟩ => ?_) fun _ _ z => z))))
  cases d with
  | true => exact ha.run pins s1 σ H1 D I1 q1
  | false => exact hb.run pins s1 σ H1 D I1 q1
theorem ptG_or (ha : PTG X a tA) {r : List Expr} (hb : PW X (.BoolOp .Or (b :: r) pos) tO) : PTG X (.BoolOp .Or (a :: b :: r) pos) (tOr tA tO) := by
  refine ⟨fun pins s σ H Q I h => ?_⟩
  show wpG X.prog X.w X.A (do
    match BoolOp.Or, ← isTrue a X.env (eval a X.env) with
    | .And, false => pure false
    | .Or, true => pure true
    | _, _ => allTrue .Or (b :: r) X.env) _ _ s
  refine wpG_bind (wpG_mono (ha.run pins s σ H _ I h) (fun c s1 ⟨H1, I1, q1⟩ => ?_) fun _ _ z => z)
  cases c with
  | true => exact wpG_pure ⟨H1, I1, q1⟩
  | false => exact wpG_up (hb.run (eval (.BoolOp .Or (b :: r) pos) X.env) pins s1 σ H1 Q I1 q1)
theorem ptG_not (ha : PTG X a tA) : PTG X (.UnaryOp .Not a pos) (tNot tA) := by
  refine ⟨fun pins s σ H Q I h => ?_⟩
  show wpG X.prog X.w X.A (do return !(← isTrue a X.env (eval a X.env))) _ _ s
  exact wpG_bind (wpG_mono (ha.run pins s σ H (fun c H1 => Q (!c) H1) I h) (fun c s' h' => wpG_pure h') fun _ _ x => x)
theorem ptG_val (h : PEG X e te) (he : ∀ whole, isTrue e X.env whole = (do let v ← whole; standAt e.pos; holding [v] (truthy v)) := by intro _; rfl) : PTG X e (tB te) := by
  refine ⟨fun pins s σ H Q I hw => ?_⟩
  rw [he]
  refine wpG_bind (wpG_mono (h.run pins s σ H _ I hw) (fun v s1 ⟨x, H1, I1, r1, q1⟩ => wpG_up (wpAny_bind (wpAny_standAt (wpAny_holding ?_)))) fun _ _ x => x)
  obtain ⟨d, rfl, q⟩ := q1
  cases r1
  exact wpAny_truthy_bool ⟨H1, I1, q⟩
theorem ptG_cmpR {op : CmpOp} {r : R2} (ho : OpR X (compareOp op) r) (ha : PEG X a ta) (hb : PEG X b tb) (hm : behindInMarks op b = false) : PTG X (.Compare a [op] [b] pos) (tTest (tOp r ta tb)) := by
  refine ⟨fun pins s σ H Q I h => ?_⟩
  rw [isTrue_Compare1]
  refine wpG_bind (wpG_mono (ha.run pins s σ H _ I h) (fun v s1 ⟨x, H1, I1, r1, q1⟩ => ?_) fun _ _ z => z)
  rw [markedBehindIn_of_false hm]
  refine wpG_bind (wpG_holding (wpG_mono (hb.run pins s1 σ H1 _ I1 q1) (fun u s2 ⟨y, H2, I2, r2, q2⟩ => wpG_up ?_) fun _ _ z => z))
  have hq := thn (ho pins s2 σ H2 x y v u _ I2 r1 r2 q2) fun c s3 ⟨z, H3, I3, r3, k, e, q3⟩ => (show wpAny (model X.prog X.w) X.A (truthy c) (TP X pins σ Q) X.xe s3 by
    subst e
    cases r3
    exact wpAny_truthy_bool ⟨H3, I3, q3⟩)
  intro Γ p hΓ
  simp only [Sem.wp_bind', Sem.wp_cmd_standAt, Sem.wp_operate, Sem.wp_holding]
  exact Sem.wp_mono _ Γ _ (fun c p₃ s₃ h₃ => h₃ Γ p₃ hΓ) (fun _ _ _ h' => h') _ _ (hq Γ _ hΓ)
theorem psG_asg {tg : Expr} {g : TG} (he : PEG X e te) (hg : PG X tg g) (hs : swapsWithSole [tg] e pos.line X.env = pure false := by rfl) (hw : swappedStores [tg] e X.env = pure none := by rfl)
    (h1 : (assignEach [tg] X.env).map (·.2) = [assign tg X.env] := by rfl) : PSG X (.Assign [tg] e pos) (tAsg te g) := by
  refine ⟨fun pins s σ H D I h => ?_⟩
  rw [exec_Assign_arm]
  refine wpG_bind (wpG_up (wpAny_standAt ?_))
  rw [hs]
  refine wpG_bind (wpG_pure ?_)
  rw [if_neg (by decide)]
  refine wpG_bind (wpG_mono (he.run pins s σ H _ I h) (fun v s1 ⟨x, H1, I1, r1, q1⟩ => ?_) fun _ _ x => x)
  rw [hw]
  refine wpG_up (wpAny_bind (wpAny_pure ?_))
  show wpAny (model X.prog X.w) X.A (do assignAll v ((assignEach [tg] X.env).map (·.2)); pure Flow.next) (SP X pins D) X.xe s1
  rw [h1]
  exact wpAny_bind (wpAny_mono (hg.run pins s1 σ H1 x v _ I1 r1 q1) (fun _ s2 q => wpAny_pure q) fun _ _ x => x)
/-- a pair of such values -/
theorem peG_pair {k : Nat} (ha : PEG X a ta) (hb : PEG X b tb) (hst : starEach [a, b] X.env = [(false, eval a X.env), (false, eval b X.env)] := by rfl) : PEG X (.Tuple [a, b] k pos) (tTup (tCons ta (tCons tb tNil))) := by
  refine ⟨fun pins s σ H Q I h => ?_⟩
  show wpG _ _ _ (do standAt pos; newTuple (← spliced (backTo pos (starEach [a, b] X.env)))) _ _ s
  rw [hst]
  refine wpG_bind (wpG_up (wpAny_standAt (wpG_bind ?_)))
  refine gspl_cons (wpG_mono (ha.run pins s σ H _ I h) (fun v s1 ⟨x, H1, I1, r1, q1⟩ => ?_) fun _ _ z => z)
  refine gspl_cons (wpG_mono (hb.run pins s1 σ H1 _ I1 q1) (fun u s2 ⟨y, H2, I2, r2, hz, q2⟩ => ?_) fun _ _ z => z)
  refine gspl_nil (wpG_up ?_)
  refine wpAny_newObj_type ?_ (by show 2 ≤ sizeLine; decide)
  have hf : H2 s2.heap.objs.size = none := I2.hok.fresh (Nat.le_refl _)
  refine ⟨.ref s2.heap.objs.size, upd H2 s2.heap.objs.size (.tup [x, y]), I2.laid (t' := s2.toks) (fun b u e => Heap.get?_push_of_some _ e) (Nat.le_refl _) ?_, rfl, q2 _ hf⟩
  exact ⟨by show 2 ≤ sizeLine; decide, [v, u], .cons r1 (.cons r2 .nil), ⟨_, Heap.get?_push_size _ rfl, rfl, _, rfl⟩⟩
end
end Gap
/-! ## G11 -/
set_option Elab.async false
set_option linter.all false
set_option maxRecDepth 100000
set_option maxHeartbeats 4000000
/-! G11: list(g), calls of such defs, their bodies, for loops over Go. -/
namespace Gap
open PySem PySem.Spec PyProof.Rows GenW L2
open Sem (wp)
/-- an expression whose value is a delegating generator -/
structure PGenA (X : Cx) (k : Nat) (e : Expr) (tg : TGen) : Prop where
  run : ∀ (pins : List (Addr × Obj)) (s : Shared) (σ : L2.St) (H : Hp) (cont : List V → Hp → Prop), Inv X pins σ H s → tg σ H cont → wpAny (model X.prog X.w) X.A (eval e X.env)
    (fun u s' => ∃ H1 sc, Inv X pins σ H1 sc ∧ GMadeA X.prog X.w k X.stack H1 sc cont u s') X.xe s
section
variable {X : Cx} {k : Nat} {f : Addr} {fd : FuncData} {ps : List Str} {sp : SpG2} {x : Str} {p pos : Pos}
theorem pgenA_call {e : Expr} {es : List Expr} {t : TA} (F : GFnA X.prog X.w X.K X.mg X.base k f fd ps sp) (hr : Room k X.A) (hg : Gl X x) (hm : X.mg x = some (.ref f)) (hk : PySem.W.keepIn X.K (.ref f) = true) (hb : Binds X.K fd ps [])
    (ha : PA X (e :: es) t) (hdb : (x == ("__debug__" : Str)) = false := by decide) (he : starEach (e :: es) X.env = (false, eval e X.env) :: starEach es X.env := by rfl) (hpl : (backTo pos (starEach es X.env)).any (·.1) = false := by rfl) :
    PGenA X k (.Call (.Name x p) (e :: es) [] pos) (tCallG2 sp t) := by
  refine ⟨fun pins s σ H cont I h => ?_⟩
  refine wpAny_Call_Name_kw (ld_glob I hg hm ?_ hdb)
  refine PySem.W.callWith_K (h₀ := X.base) I.ok.mod.kin hk (thn (ha.run pos pins s σ H _ I h) fun us s1 ⟨vs, H1, I1, r, q⟩ => ⟨I1.kIn, ?_⟩) he hpl
  have hl2 : us.length = ps.length := by rw [← r.length]; exact F.len _ _ _ q
  refine wpAny_call (codeAny_mono (F.run X.A X.stack s1 H1 ⟨us, []⟩ us vs cont hr I1.env0 (by have := hb s1 us I1.kIn (by simpa using hl2); simpa using this) r q) fun r s' hq => ?_)
  cases r with
  | error e => exact False.elim hq
  | ok fl =>
    cases fl with
    | ret u => exact ⟨H1, s1, I1, hq⟩
    | next => exact False.elim hq
    | brk => exact False.elim hq
    | cont => exact False.elim hq
def tListA (tg : TGen) : TE := fun σ H Q => tg σ H fun out H2 => ∀ p, H2 p = none → Q (.ref p) (upd H2 p (.lst out))
/-- list(g) -/
theorem peG_list {e : Expr} {tg : TGen} {nm : Str} (h : PGenA X k e tg) (hr : Room (k + 3) X.A) (hg : Gl X nm) (hmg : X.mg nm = none) (hv : bootBuiltins nm = some (.type "list")) (hnm : nm ≠ "__name__" := by decide) (hdb : (nm == ("__debug__" : Str)) = false := by decide)
    (he : starEach [e] X.env = [(false, eval e X.env)] := by rfl) : PEG X (.Call (.Name nm p) [e] [] pos) (tListA tg) := by
  refine ⟨fun pins s σ H Q I hq => ?_⟩
  rw [arm_eval_Call_Name']
  refine wpG_bind (wpG_up (ld_blt I hg hmg hv ?_ hnm hdb))
  show wpG _ _ _ (callWith pos (.type "list") [] (backTo pos (starEach [e] X.env)) []) _ _ s
  rw [he]
  refine gcallWith_type rfl (gargs_plain (x := eval e X.env) (rest := []) (gspl_cons ?_))
  refine wpG_up (thn (h.run pins s σ H _ I hq) fun u s1 ⟨H1, sc, I1, hG⟩ => ?_)
  refine gspl_nil ?_
  have hsz : sc.heap.objs.size ≤ s1.heap.objs.size := by
    obtain ⟨a, g, c, _, h1, h2, _⟩ := hG
    exact Nat.le_trans h1 (Nat.le_of_lt h2)
  refine call_list_A hr I1.ok.frames hG fun s' acc c H' ys q1 q2 hl q3 q4 q5 q6 q7 q8 => ?_
  exact ⟨.ref s1.heap.objs.size, upd H' s1.heap.objs.size (.lst ys), I1.drained hsz hl q1 q2 ExOk.nil q3 q4 q5 q6 q7, rfl, q8 _ q7⟩
end
/-! ### defs -/
open Ab (Spc Pm)
structure FnOkG (P : Program) (w : World) (K : PySem.W.Frag) (mg : Str → Option Value) (base : Heap) (k : Nat) (f : Addr) (fd : FuncData) (ps : List Str) (S : Spc) : Prop where
  len : ∀ vs B M R, S vs B M R → vs.length = ps.length
  run : ∀ (A : Around) (outer : List Env) (s : Shared) (H : Hp) (args : Args) (us : List Value) (vs : List V) (Q : VK), Room k A → Env0 P w K mg base A outer s H → BindsTo s fd args (ps.zip us) → Vals vs us → Pm S vs H Q C8.E0 →
    codeG P w A (.call (.ref f) args) (fun r s' => match r with | .ok (.ret u) => CE outer P w H s Q u s' | _ => False) s
structure CalG (P : Program) (w : World) (K : PySem.W.Frag) (mg : Str → Option Value) (base : Heap) (k : Nat) (x : Str) (S : Spc) : Prop where
  ex : ∃ (f : Addr) (fd : FuncData) (ps : List Str), FnOkG P w K mg base k f fd ps S ∧ mg x = some (.ref f) ∧ PySem.W.keepIn K (.ref f) = true ∧ Binds K fd ps []
section
variable {X : Cx} {k j : Nat} {x : Str} {p pos : Pos} {S : Spc}
theorem peG_call {e : Expr} {es : List Expr} {t : TA} (c : CalG X.prog X.w X.K X.mg X.base k x S) (hr : Room j X.A) (hk : k ≤ j) (hg : Gl X x)
    (ha : PA X (e :: es) t) (hdb : (x == ("__debug__" : Str)) = false := by decide) (he : starEach (e :: es) X.env = (false, eval e X.env) :: starEach es X.env := by rfl) (hpl : (backTo pos (starEach es X.env)).any (·.1) = false := by rfl) :
    PEG X (.Call (.Name x p) (e :: es) [] pos) (tCall (Pm S) [] C8.E0 t) := by
  obtain ⟨f, fd, ps, F, hm, hkp, hb⟩ := c.ex
  refine ⟨fun pins s σ H Q I h => ?_⟩
  rw [arm_eval_Call_Name']
  refine wpG_bind (wpG_up (ld_glob I hg hm ?_ hdb))
  show wpG _ _ _ (callWith pos (.ref f) [] (backTo pos (starEach (e :: es) X.env)) []) _ _ s
  have hrun := ha.run pos pins s σ H _ I h
  rw [he] at hrun ⊢
  refine gcallWith_of (by show (false || (backTo pos (starEach es X.env)).any (·.1)) = false; rw [hpl]; rfl) (PySem.W.keeps_K hkp) (gargs_plain (wpG_up (thn hrun fun us s1 ⟨vs, H1, I1, r, q⟩ => ⟨I1.kIn, ?_⟩)))
  have q : Pm S vs H1 Q C8.E0 := by
    have z : Pm S (vs ++ []) H1 Q C8.E0 := q
    rw [List.append_nil] at z
    exact z
  have hl2 : us.length = ps.length := by
    obtain ⟨B, M, R, _, q2, _⟩ := q
    rw [← r.length]
    exact F.len _ _ _ _ q2
  refine wpG_call (codeG_mono (F.run X.A X.stack s1 H1 ⟨us, []⟩ us vs Q (hr.mono hk) I1.env0 (by have := hb s1 us I1.kIn (by simpa using hl2); simpa using this) r q) fun r s' hq => ?_)
  cases r with
  | error e => exact False.elim hq
  | ok fl =>
    cases fl with
    | ret u => exact I1.after hq
    | next => exact False.elim hq
    | brk => exact False.elim hq
    | cont => exact False.elim hq
end
section
variable {P : Program} {w : World} {A : Around} {s : Shared} {R : Result → Shared → Prop}
theorem codeG_func {body : List Stmt} {env : Env} (h : wpG P w (A.deeper env) (execs body env) (fun f s' => R (.ok (.ret (match f with | .ret v => v | _ => .none))) s') (fun _ _ => False) s) : codeG P w A (.func body env) R s := by
  refine codeG_of_tree ?_
  show wpG _ _ (A.deeper env) (do point; match ← (execs body env).onRaise (leaving env) with | .ret v => ret v | _ => ret .none) _ _ s
  refine wpG_bind (wpG_up (wpAny_point (wpG_bind (wpG_onRaise (wpG_mono h (fun f s' h' => ?_) fun _ _ h' => h'.elim)))))
  cases f <;> exact wpG_pure h'
theorem codeG_call_function {a : Addr} {args : Args} {o : Obj} {fd : FuncData} {body : List Stmt} (hroom : A.depth < recursionLimit) (ho : s.heap.get? a = some o)
    (hd' : o.data = .func fd) (hco : fd.scope.isCoroutine = false) (hgen : fd.scope.isGenerator = false) (hbody : fd.body = .stmts body) (hcd : s.heap.CodeRec fd.code fd.qualname)
    (h : wpAny (model P w) A.in1 (bindArgs fd args) (fun binds s₁ =>
      wpAny (model P w) A.in1 (newFunctionEnv fd.scope fd.globals fd.closure binds (fd.qualname ++ ".<locals>.") (some a) fd.code none fd.builtins)
        (fun env s₂ => s₂.heap.NoLimit ∧ codeG P w A (.func body env) R s₂) (fun _ _ => False) s₁) (fun _ _ => False) s) : codeG P w A (.call (.ref a) args) R s := by
  refine codeG_of_tree ?_
  show wpG _ _ A.in1 (callAny (.ref a) args) _ _ s
  simp only [callAny]
  refine wpG_bind (wpG_up (wpAny_load ho ?_))
  obtain ⟨c, oc, vs, tq, hc, hoc, hdc, hq⟩ := hcd
  simp only [hd', callFunction, hco, hgen, hbody, hc]
  rw [hc] at h
  refine wpG_bind (m := field (.ref c) 1) (wpG_up (wpAny_field hoc hdc hq (wpG_bind (wpG_pure ?_))))
  exact wpG_bind (wpG_mono (wpG_up h) (fun binds s₁ h₁ => wpG_bind (wpG_mono (wpG_up h₁) (fun env s₂ h₂ => wpG_bind (wpG_up (wpAny_enterFrame h₂.1 hroom
    (wpG_pure (And.intro rfl h₂.2))))) fun _ _ h' => h'.elim)) fun _ _ h' => h'.elim)
end
section
variable {P : Program} {w : World} {K : PySem.W.Frag} {mg : Str → Option Value} {base : Heap}
open Ab (Ok Pos1 wS Mu)
theorem fnOfG {x : Str} {fd : FuncData} {st : Stmt} {N ps : List Str} {k : Nat} {S : Spc} (F : FunD K x x (defArgs st) (defBody st) (defScope st) [] [] (He.ga K x) fd) (sc : FnScope N ps (defScope st))
    (len : Pos1 ps.length S)
    (hbody : ∀ (cdv : Value) (A : Around) (outer : List Env) (s : Shared) (H : Hp), Room k (A.deeper (envOfC x (defScope st) s.heap.objs.size (He.ga K x) cdv)) →
      ∃ t, PSsG (cxOf CX0 P w K mg base N x (defScope st) (He.ga K x) cdv A outer s H C8.E0).nox (defBody st) t ∧ ∀ vs B M R, S vs B M R → wS t (start N vs) B M (fun _ B' M' => R .non B' M') R) :
    FnOkG P w K mg base (k + 1) (He.ga K x) fd ps S := by
  obtain ⟨oc, od, dV, kV, doc, pm, an, cdv, ct, osl, rfl, lk, hcd, _, _⟩ := F.ex
  refine ⟨fun vs B M R h => len vs B M R h, fun A outer s H args us vs Q hr e0 hb r hsp => ?_⟩
  obtain ⟨B, M, R, ok, hS, hq⟩ := hsp
  have hl := len _ _ _ _ hS
  have KX : K.In s.heap := e0.mod.kin.keeps fun b o e => (e0.bs b o e).1
  have lim : s.heap.NoLimit := e0.mod.nolimit.keeps fun b o e => (e0.bs b o e).1
  have hkind : ∀ y ∈ ps.zip us, (defScope st).names.lookup y.1 = some .local ∨ ((defScope st).names.lookup y.1 = some .cell ∧ ((cellsFrom (s.heap.objs.size + 1) (defScope st).names []).lookup y.1).isSome = true) := fun ⟨n, v⟩ hy => by
    rcases sc.par n (List.of_mem_zip hy).1 with q | q
    · exact .inl q
    · exact .inr ⟨q, PySem.W.cellsFrom_some _ _ _ (.inl q)⟩
  refine codeG_call_function hr.depth (KX _ _ lk) rfl sc.co sc.gen rfl (PySem.W.codeRec_of KX hcd) (hb _ _ _ _ ?_)
  refine wpAny_newFunctionEnv_cells sc.kind hkind fun env he s1 y => ?_
  subst he
  refine ⟨lim.keeps y.toInCall.keep, codeG_func ?_⟩
  obtain ⟨t, ht, hw⟩ := hbody cdv A outer s H (hr.deeper _)
  have I0 : Inv (cxOf CX0 P w K mg base N x (defScope st) (He.ga K x) cdv A outer s H C8.E0) [] (start N vs) H s1 := inv_start sc hr.hd e0 hl r y
  have I := I0.wish (fun _ _ => False)
  have hq2 := hw vs B M R hS H { nx := fun _ H' => Q .non H', rt := Q } ok (fun σ' B' M' H' o r => hq _ B' M' H' o r) (fun v B' M' H' o r => hq v B' M' H' o r)
  refine wpG_mono (ht.run [] s1 (start N vs) H _ I hq2) (fun fl s' hs => ?_) fun e s' hs => hs
  have fin : ∀ {σ' : L2.St} {H' : Hp} {v : V} {u : Value}, Inv (cxOf CX0 P w K mg base N x (defScope st) (He.ga K x) cdv A outer s H C8.E0).nox [] σ' H' s' → RelV v u → Q v H' → CE outer P w H s Q u s' :=
    fun {σ' H' v u} J rv q => ⟨v, H', J.os, J.bare, J.base, J.hok, rv, q⟩
  cases fl with
  | ret u =>
    obtain ⟨v, σ', H', J, rv, q⟩ := hs
    exact fin J rv q
  | next =>
    obtain ⟨σ', H', J, q⟩ := hs
    exact fin (v := V.non) (u := Value.none) J rfl q
  | brk =>
    obtain ⟨_, _, _, q⟩ := hs
    exact False.elim q
  | cont =>
    obtain ⟨_, _, _, q⟩ := hs
    exact False.elim q
theorem calOfG {x : Str} {st : Stmt} {N ps : List Str} {k : Nat} {S : Spc} (F : ∃ fd, FunD K x x (defArgs st) (defBody st) (defScope st) [] [] (He.ga K x) fd) (g : mg x = some (.ref (He.ga K x))) (sc : FnScope N ps (defScope st))
    (b : ∀ (kV doc pm : Value) (an : Option Addr) (cdv ct : Value) (us : List Value), us.length = ps.length → bindArgs (PySem.W.fnOf x x (defArgs st) (defBody st) (defScope st) .none kV doc pm an cdv ct) ⟨us, []⟩ = pure (ps.zip us)) (len : Pos1 ps.length S)
    (hbody : ∀ (cdv : Value) (A : Around) (outer : List Env) (s : Shared) (H : Hp), Room k (A.deeper (envOfC x (defScope st) s.heap.objs.size (He.ga K x) cdv)) →
      ∃ t, PSsG (cxOf CX0 P w K mg base N x (defScope st) (He.ga K x) cdv A outer s H C8.E0).nox (defBody st) t ∧ ∀ vs B M R, S vs B M R → wS t (start N vs) B M (fun _ B' M' => R .non B' M') R) :
    CalG P w K mg base (k + 1) x S := by
  obtain ⟨fd, F⟩ := F
  exact ⟨_, fd, ps, fnOfG F sc len hbody, g, F.kp, F.bindsN b⟩
end
/-! ### for -/
section
variable {P : Program} {w : World} {A : Around} {E : Value → Shared → Prop} {s : Shared}
theorem codeG_forLoop {R : Result → Shared → Prop} {target : Expr} {it : Value} {body orelse : List Stmt} {env : Env} (I : Nat → Shared → Prop)
    (turn : ∀ n s, I n s → wpAny (model P w) A (pyNext it) (fun r s₁ => match r with
      | none => wpAny (model P w) A (execs orelse env) (fun f s₃ => R (.ok f) s₃) (fun _ _ => False) s₁
      | some v => wpAny (model P w) A (letOwnedTupleGo target it v) (fun _ s₁' =>
          wpAny (model P w) A (assign target env v) (fun _ s₂ => wpG P w A (execs body env) (fun f s₃ => match f with
            | .next | .cont => ∃ m, m < n ∧ I m s₃
            | .brk => R (.ok .next) s₃
            | .ret v => R (.ok (.ret v)) s₃) (fun _ _ => False) s₂) (fun _ _ => False) s₁') (fun _ _ => False) s₁) (fun _ _ => False) s)
    (n : Nat) (h : I n s) : codeG P w A (.forLoop target it body orelse env) R s := by
  induction n using Nat.strongRecOn generalizing s with
  | ind n ih =>
    refine codeG_of_tree ?_
    show wpG _ _ A ((forTurn target it body orelse env).onRaise (fun x => do noteFrame x env; theTreesLotGoes x)) _ _ s
    refine wpG_onRaise (E := fun e s' => R (.error e) s') (wpG_mono (E := fun _ _ => False) ?_ (fun _ _ z => z) fun _ _ z => z.elim)
    simp only [forTurn]
    refine wpG_bind (wpG_up (wpAny_standAt (wpG_bind (wpG_onRaise (wpG_mono (wpG_up (turn n s h)) (fun r s₁ h₁ => ?_) fun _ _ h' => h'.elim)))))
    cases r with
    | none => exact wpG_pure ⟨rfl, codeG_up (codeAny_block (wpAny_mono h₁ (fun _ _ z => z) fun _ _ z => z.elim))⟩
    | some v =>
      refine wpG_bind (wpG_mono (wpG_up h₁) (fun _ s₁' h₁' => ?_) fun _ _ h' => h')
      refine wpG_bind (wpG_mono (wpG_up h₁') (fun _ s₂ h₂ => wpG_bind (wpG_mono h₂ (fun f s₃ h₃ => ?_) fun _ _ h' => h')) fun _ _ h' => h')
      cases f with
      | next =>
        obtain ⟨m, hm, hI⟩ := h₃
        exact wpG_pure ⟨rfl, ih m hm hI⟩
      | cont =>
        obtain ⟨m, hm, hI⟩ := h₃
        exact wpG_pure ⟨rfl, ih m hm hI⟩
      | brk => exact wpG_pure h₃
      | ret v => exact wpG_pure h₃
end
theorem psG_for {X : Cx} {tg iter : Expr} {body : List Stmt} {wi : TI} {g : TG} {tb : L2.TS} {pos : Pos} (hx : ∀ e s, ¬ X.xe e s) (hc : X.calm = true) (hi : PI X tg iter wi) (hg : PG X tg g) (hb : PSsG X body tb)
    (hs : ∀ x, foldedSetIterable iter X.env x = pure x := by intro _; rfl) : PSG X (.For tg iter body [] pos) (tFor wi g tb) := by
  refine ⟨fun pins s σ H D I h => ?_⟩
  have nox : ∀ {α : Type} {t : Sem α} {Q : α → Shared → Prop} {s : Shared}, wpAny (model X.prog X.w) X.A t Q X.xe s → wpAny (model X.prog X.w) X.A t Q (fun _ _ => False) s := fun h => wpAny_mono h (fun _ _ z => z) fun e s z => hx e s z
  rw [exec_For]
  refine wpG_bind (wpG_up (wpAny_standAt (wpG_bind (wpG_mono (wpG_up (hi.run pins s σ H _ I h)) (fun v s1 h1 => ?_) fun _ _ z => z))))
  rw [hs]
  refine wpG_bind (wpG_pure (wpG_bind (wpG_up (wpAny_standAt (wpG_bind (wpG_holding (wpG_mono (wpG_up h1) (fun itv s2 h2 => ?_) fun _ _ z => z)))))))
  obtain ⟨it, fp, tn, J, H2, e, I2, T, st2, f2, W, ⟨m0, w0⟩, turn⟩ := h2
  subst e
  unfold runOwn
  refine wpG_onRaise (wpG_mono (E := fun _ _ => False) (wpG_run (h := none) ?_) (fun _ _ z => z) fun _ _ z => z.elim)
  have stat : ∀ {H' : Hp}, (∀ b ∈ fp, H' b = none) → ∀ b ∈ fp, FpOk X pins H' b := fun hn b hb => ⟨hn b hb, (f2 b hb).2⟩
  refine codeG_forLoop (fun n s' => ∃ i σ' H', Inv X pins σ' H' s' ∧ tn i s'.heap ∧ (∀ b ∈ fp, H' b = none) ∧ W i n σ' H') ?_ m0 ⟨0, σ, H2, I2, st2, fun b hb => (f2 b hb).1, w0⟩
  rintro n s3 ⟨i, σ3, H3, I3, st3, fr3, w3⟩
  rcases turn i n σ3 H3 w3 with ⟨stop, qn⟩ | ⟨go, N, hN, step⟩
  · refine nox (thn (T.done X rfl rfl rfl hc i pins s3 σ3 H3 X.xe I3 (stat fr3) st3 stop) fun r s4 ⟨hr, I4⟩ => ?_)
    subst hr
    exact wpAny_execs_nil ⟨σ3, H3, I4, qn⟩
  · refine nox (thn (T.item X rfl rfl rfl hc i pins s3 σ3 H3 X.xe I3 (stat fr3) st3 go) fun r s4 ⟨u, hr, h4⟩ => ?_)
    subst hr
    refine nox (thn h4 fun _ s5 ⟨x, H5, I5, r5, y5, st5, fr5⟩ => ?_)
    have I5' := I5.pinned (stat fr5) (T.obj _ _ st5)
    refine nox (thn (hg.run _ s5 σ3 H5 x u _ I5' r5 (step x H5 y5)) fun _ s6 ⟨σ6, H6, I6, q6⟩ => ?_)
    refine wpG_mono (hb.run _ s6 σ6 H6 _ I6 q6) (fun f s7 q7 => ?_) fun e s z => hx e s z
    have again : ∀ {σ7 : L2.St} {H7 : Hp}, Inv X (pins ++ pinsAt fp s5.heap) σ7 H7 s7 → N σ7 H7 → ∃ m, m < n ∧ ∃ i σ' H', Inv X pins σ' H' s7 ∧ tn i s7.heap ∧ (∀ b ∈ fp, H' b = none) ∧ W i m σ' H' := fun {σ7 H7} I7 n7 => by
      obtain ⟨m', hm, w7⟩ := hN σ7 H7 n7
      refine ⟨m', hm, i + 1, σ7, H7, I7.unpinned, T.keep _ _ _ st5 fun b hb o e => (I7.pin (b, o) (List.mem_append_right _ (List.mem_append_right _ (mem_pinsAt hb e)))).1, fun b hb => ?_, w7⟩
      obtain ⟨o, e, d⟩ := T.obj _ _ st5 b hb
      exact (I7.pin (b, o) (List.mem_append_right _ (List.mem_append_right _ (mem_pinsAt hb e)))).2.1
    cases f with
    | next => obtain ⟨σ7, H7, I7, n7⟩ := q7; exact again I7 n7
    | cont => obtain ⟨σ7, H7, I7, n7⟩ := q7; exact again I7 n7
    | brk => obtain ⟨σ7, H7, I7, q7⟩ := q7; exact ⟨σ7, H7, I7.unpinned, q7⟩
    | ret v => obtain ⟨x7, σ7, H7, I7, r7, q7⟩ := q7; exact ⟨x7, σ7, H7, I7.unpinned, r7, q7⟩
end Gap
/-! ## G12 -/
set_option Elab.async false
set_option linter.all false
set_option maxRecDepth 100000
set_option maxHeartbeats 4000000
/-! G12: the end over Go. The law's def runs on the laid script; the claim's thread ends. -/
namespace Gap
open PySem PySem.Spec PyProof.Rows GenW L2
open Ab (Spc Pm)
section
variable {P : Program} {w : World} {K : PySem.W.Frag} {mg mb : Str → Option Value} {k : Nat} {fa a : Addr} {fd : FuncData} {x : Str} {S : Spc} {s : Shared} {vs : List Value} {ns : List Int}
/-- the heap hidden under H, H tracking at most the script: what a callee wants -/
theorem env_of (KX : K.In s.heap) (hns : s.heap.Ns mainGlobals mg) (hb : s.heap.Ns builtinsNs mb) (hbb : ∀ x : Str, x ≠ "__name__" → mb x = bootBuiltins x) (hlim : s.heap.NoLimit) (hg : s.gens = #[])
    {its : Array Value} (ha : s.heap.get? a = some { cls := .type "list", data := .seq its }) {H : Hp} (hok : HOk P w H s.heap) (hA : ∀ b, b ≠ a → H b = none) (hK : ∀ o, K.lookup a = some o → H a = none) :
    K.In (hidT s.heap H) ∧ (hidT s.heap H).Ns mainGlobals mg ∧ Env0 P w K mg (hidT s.heap H) callerA [] s H := by
  have see : ∀ {b : Addr} {o : Obj}, s.heap.get? b = some o → H b = none → (hidT s.heap H).get? b = some o := fun e n => hidT_get e n
  have free : ∀ {b : Addr}, b ≠ a → H b = none := fun n => hA _ n
  have ns' : ∀ {b : Addr} {m : Str → Option Value}, s.heap.Ns b m → (hidT s.heap H).Ns b m := by
    intro b m h
    obtain ⟨o, es, ep, e, d, r⟩ := h
    refine ⟨o, es, ep, see e (free fun z => ?_), d, r⟩
    rw [z, ha] at e
    rw [← Option.some.inj e] at d
    exact nomatch (show Data.seq its _ = Data.dict es ep from d)
  have kIn : K.In (hidT s.heap H) := fun b o e => see (KX b o e) (by
    by_cases z : b = a
    · rw [z] at e ⊢
      exact hK o e
    · exact free z)
  have lim : (hidT s.heap H).NoLimit := by
    obtain ⟨mc, h1, h2⟩ := hlim
    exact ⟨mc, ns' h1, h2⟩
  have no : ∀ b, b ∉ ([] : List Addr) := fun b z => nomatch z
  exact ⟨kIn, ns' hns, rfl, ⟨kIn, ns' hns, ⟨mb, ns' hb, hbb⟩, lim⟩, fun b o e => of_hidT e, Nat.le_of_eq (hidT_size _ _), trivial, fun b hm => absurd hm (no b), hok, .of_eq hg⟩
/-- the law's call, from the promise of its def -/
theorem law_callG (KX : K.In s.heap) (hns : s.heap.Ns mainGlobals mg) (hb : s.heap.Ns builtinsNs mb) (hbb : ∀ x : Str, x ≠ "__name__" → mb x = bootBuiltins x) (hlim : s.heap.NoLimit) (hg : s.gens = #[])
    (ha : s.heap.get? a = some { cls := .type "list", data := .seq vs.toArray }) (hi : IntsAre vs ns) (hl : ns.length ≤ sizeLine) (hr : Room k callerA)
    (F : ∀ base : Heap, K.In base → base.Ns mainGlobals mg → FnOkG P w K mg base k fa fd [x] S) (hbind : ∀ (s : Shared) (u : Value), BindsTo s fd ⟨[u], []⟩ [(x, u)])
    (hsp : ∀ H : Hp, SqL K H a (ns.map V.int) → Pm S [.ref a] H (fun v _ => v = .bl true) C8.E0) :
    codeG P w callerA (.call (.ref fa) ⟨[.ref a], []⟩) (fun r s' => r = .ok (.ret (.bool true)) ∧ OldK s.heap s'.heap ∧ s'.os = s.os ∧ AllBare s'.gens) s := by
  have rv := vals_ints hi
  have run : ∀ H : Hp, SqL K H a (ns.map V.int) → HOk P w H s.heap → (∀ b, b ≠ a → H b = none) → (∀ o, K.lookup a = some o → H a = none) → (H a = none ∨ ∃ ob xs, H a = some (.frz ob xs)) →
      codeG P w callerA (.call (.ref fa) ⟨[.ref a], []⟩) (fun r s' => r = .ok (.ret (.bool true)) ∧ OldK s.heap s'.heap ∧ s'.os = s.os ∧ AllBare s'.gens) s := by
    intro H hS hok hA hK hfz
    obtain ⟨e1, e2, e0⟩ := env_of (P := P) (w := w) KX hns hb hbb hlim hg ha hok hA hK
    refine codeG_mono ((F _ e1 e2).run callerA [] s H ⟨[.ref a], []⟩ [.ref a] [.ref a] _ hr e0 (hbind s (.ref a)) (.cons rfl .nil) (hsp H hS)) fun r s' h => ?_
    match r, h with
    | .ok (.ret u), h =>
      obtain ⟨v, H', os, bare, un, hok', r', rfl⟩ := h
      have hu : u = Value.bool true := r'
      rw [hu]
      refine ⟨rfl, OldK.of_keep fun b o e => ?_, os, bare⟩
      have plain : H b = none → s'.heap.get? b = some o := fun q => un.keep b o e q (fun z => nomatch (show b ∈ ([] : List Addr) from z)) (fun z => nomatch z)
      by_cases hba : b = a
      · rcases hfz with q | ⟨ob, xs, q⟩
        · exact plain (by rw [hba]; exact q)
        · rw [← hba] at q
          have z1 := (hok b _ q).1
          have z2 := (hok' b _ (un.frzs b ob _ q)).1
          rw [e] at z1
          rw [Option.some.inj z1]
          exact z2
      · exact plain (hA b hba)
  cases hk : K.lookup a with
  | some o =>
    have e := KX a o hk
    rw [ha] at e
    have eo := Option.some.inj e
    subst eo
    exact run (fun _ => none) (.inr ⟨_, vs.toArray, _, hk, rfl, rfl, rfl, by rw [List.size_toArray, hi.length]; exact hl, by simpa using rv⟩) (fun b u z => nomatch z) (fun _ _ => rfl) (fun _ _ => rfl) (.inl rfl)
  | none =>
    have at_ : ∀ b u, (if b = a then some (HO.frz { cls := .type "list", data := .seq vs.toArray } (.lst (ns.map V.int))) else none) = some u → b = a ∧ u = .frz { cls := .type "list", data := .seq vs.toArray } (.lst (ns.map V.int)) := fun b u z => by
      by_cases hb : b = a
      · rw [if_pos hb] at z
        exact ⟨hb, (Option.some.inj z).symm⟩
      · rw [if_neg hb] at z
        cases z
    refine run (fun b => if b = a then some (.frz { cls := .type "list", data := .seq vs.toArray } (.lst (ns.map V.int))) else none) (.inl (.inr ⟨_, if_pos rfl⟩)) (fun b u z => ?_) (fun b n => if_neg n) (fun o z => by rw [hk] at z; cases z) (.inr ⟨_, _, if_pos rfl⟩)
    obtain ⟨rfl, rfl⟩ := at_ b u z
    exact ⟨ha, by rw [List.length_map]; exact hl, vs, _, rv, ha⟩
end
end Gap
namespace Gap
open PySem PySem.W PySem.Calls PyProof.Rows
/-- a tree under the claim's caller: its thread ends -/
theorem thread_endsG {prog : Program} {w : World} {t : Sem Fin} {s : Shared} {R : Result → Shared → Prop} (hz : s.asleep)
    (h : wpG prog w callerA t (fun fin s' => ∃ f, fin = .done f ∧ (R (.ok f) s' ∧ leftWithCleanup s'.gens = false)) (fun e s' => R (.error e) s' ∧ leftWithCleanup s'.gens = false) s) :
    ∃ n r sx s', schedN (denote table) prog w n (.single s ⟨t, .builtin "claim.caller" {}, default, []⟩) = .halted (outcomeOf r) sx ∧ sx.forget = s'.forget ∧ sx.heap.life = s.heap.life ∧ R r s' := by
  have e : t = t.wrap (fun f => .pure f) (fun e => .raise e) id id := ((Sem.bind_eq_wrap t (fun f => .pure f)).symm.trans (bind_pure (m := Sem) t)).symm
  have hin : (Ctx.of (.builtin "claim.caller" {}) []).In callerA := caller_in
  have run := h _ [] default hin (fun f => .pure f) (fun e => .raise e) id id
  rw [← e] at run
  rcases run with ⟨f0, p', s', g, f, rfl, hR, hb⟩ | ⟨x, p', s', g, hR, hb⟩
  · obtain ⟨n, sx, h1, h2, h3⟩ := Go.ends (r := .ok f) _ _ _ g hz hb
    exact ⟨n, .ok f, sx, s', h1, h2, h3, hR⟩
  · obtain ⟨n, sx, h1, h2, h3⟩ := Go.ends (r := .error x) _ _ _ g hz hb
    exact ⟨n, .error x, sx, s', h1, h2, h3, hR⟩
end Gap
/-! ## G13 -/
set_option Elab.async false
set_option linter.all false
set_option maxRecDepth 100000
set_option maxHeartbeats 4000000
/-! G13: a law's row over a head by facts, its call told over Go. -/
namespace Gap
open PySem PySem.W PySem.Calls PyProof.Rows
/-- what is asked of the call -/
abbrev WalkG (q : Program) (loose : List Str) (XP : (Str → Option Value) → Heap → Prop) (YP : World → Heap → Prop) (r : RowW) (d : DefRec) (kwd : List (Str × Expr)) : Prop :=
  ∀ (w : World) (s₀ s₁ : Shared) (mg mb : Str → Option Value), Ground q loose r.records XP w s₀ mg mb s₁.heap → YP w s₁.heap → ∀ (a : Addr) (o : Obj) (pm cd doc dV kV : Value), s₁.heap.get? a = some o →
    o.data = .func { docDef d.name d.params d.body d.scope pm cd doc with defaults := dV, kwdefaults := kV } → s₁.heap.CodeRec cd d.name → Dflts mg s₁.heap d.params kwd dV kV → mg d.name = some (.ref a) → s₁.gens = #[] →
    ∀ (args : List WData) (vals : List Value) (as : List Addr), r.claim.pre args = true → WData.layableAll args = true → ReadsAllW r.records (classAt s₀.heap) s₁.heap vals args as → WellAll w.params s₁.heap vals args → (∀ a ∈ as, (a == sysModules) = false) →
      wpG r.prog w callerA (PySem.call (.ref a) vals) (fun v s' => GoodWG r.claim (classAt s₀.heap) (ExcName.means s₀.heap) args s₁ (.ok (.ret v)) s')
        (fun e s' => GoodWG r.claim (classAt s₀.heap) (ExcName.means s₀.heap) args s₁ (.error e) s') s₁
theorem callFromG {c : ClaimW} {tree : List Value → Sem Fin} {w : World} {s : Shared} {free : Addr → Prop} {gens : Prop} {kept : Heap → Prop} (hz : s.asleep) (hgens : s.gens = #[])
    (hspec : ∀ args, c.pre args = true → WData.layableAll args = true → ∀ ord : List DictEntry → List DictEntry, (∀ l, (ord l).Perm l) → ∃ vs s₁, layAllW c.records (classAt s.heap) w.params ord args s = some (vs, s₁) ∧
      wpG c.prog w callerA (tree vs) (fun fin s' => ∃ f, fin = .done f ∧ (c.Ends s args vs s₁ (.ok f) s' ∧ s'.os = s.os ∧ AllBare s'.gens ∧ kept s'.heap)) (fun e s' => c.Ends s args vs s₁ (.error e) s' ∧ s'.os = s.os ∧ AllBare s'.gens ∧ kept s'.heap) s₁) :
    c.CallFrom (fun vs => ⟨tree vs, .builtin "claim.caller" {}, default, []⟩) w free gens kept s := by
  intro args hpre hlay ord hord
  obtain ⟨vs, s₁, laid, goes⟩ := hspec args hpre hlay ord hord
  have rest := layAllW_rest _ _ _ laid
  have zz : s₁.asleep := Shared.asleep_of_life rest.2.2.2 hz
  obtain ⟨n, r, sx, s', sched, same, life, ends, hos, hkp⟩ := thread_endsG (R := fun r s' => c.Ends s args vs s₁ r s' ∧ s'.os = s.os ∧ kept s'.heap) zz
    (wpG_mono goes (fun fin s' ⟨f, e, h1, h2, h3, h4⟩ => ⟨f, e, ⟨h1, h2, h4⟩, leftWithCleanup_false_of_bare h3⟩) fun e s' ⟨h1, h2, h3, h4⟩ => ⟨⟨h1, h2, h4⟩, leftWithCleanup_false_of_bare h3⟩)
  obtain ⟨eh, _, _, eo, _⟩ := Shared.forget_eq same
  have ends := ends.congr eh
  rw [← eh] at hkp
  rw [← eo] at hos
  have lf : sx.heap.life = s.heap.life := life.trans rest.2.2.2
  have nog : ∀ (i : Nat) (x : GenState), s.gens[i]? ≠ some x := fun i x hx => by rw [hgens] at hx; simp at hx
  refine ⟨vs, s₁, laid, n, _, sx, sched, ?_, (fun _ i x hx => (nog i x hx).elim), hkp, by rw [lf], Shared.rest_eq hos⟩
  rcases ends with ⟨v, rfl, d1, d2, d3, d4, d5⟩ | ⟨e, ob, cls, rfl, d1, d2, d3, d4, d5⟩
  · exact .inl ⟨v, rfl, d1, d2, d3, fun b o y _ => d4 b o y, d5⟩
  · exact .inr ⟨e, ob, cls, rfl, d1, d2, d3, d4, fun b o y _ => d5 b o y⟩
end Gap
namespace Gap
open PySem PySem.W PySem.W.X PySem.Calls PyProof.Rows HandSHeadRun
theorem head_anyG {r : OpenRow} {q : Program} {H : Hook} {ob : SharedT → H.α} {m : Nat} {loose : List PySem.Str} {d : DefRec} {kwd : List (PySem.Str × PySem.Expr)} (ho : ∀ s : SharedT, ob s = H.obs s.abs)
    (e : opening r.prog = plainProg r.prog.main.scope.names) (f : ∀ s, fenceModules? r.prog s = some s) (run : ∀ w, RunEq r q H ob m loose w)
    (hdef : defOf q r.name = some (d, kwd)) (hp : r.prog.theDef r.name = some (d.params, d.body, d.scope)) (hk : kwWritten? d.params.kwonlyargs d.params.kw_defaults = some kwd)
    (hwr : (!r.writes || r.records.isEmpty) = true) (k1 : r.wellSaid = true) (ok : (chainsOk q && opensWell r.prog && (frees r.toRowW && r.within.isEmpty)) = true) (hb : r.prog.bare) (hw : r.toRowW.promised)
    (call : WalkG q loose (XL q []) H.says r.toRowW d kwd) : r.Holds := by
  have left : LeftO r.prog q loose (fun s => xlAt q [] s && recOk r.toRowW.records s) H.obs H.val (m + 600) true := by
    refine left_one (M := m) e (Nat.ble_eq_true_of_le (by omega)) f (Nat.ble_eq_true_of_le (by omega)) fun w os => ?_
    have z := run w os
    rw [show ob = fun s => H.obs s.abs from funext ho] at z
    simp only [endQ_eq, seenQ_eq]
    exact z
  have xl : ∀ s, (xlAt q [] s && recOk r.toRowW.records s) = true → XL q [] (s.heap.nsMap mainGlobals) s.heap := fun s z => xl_of s (Bool.and_eq_true_iff.mp z).1
  have rf : ∀ s, (xlAt q [] s && recOk r.toRowW.records s) = true → RecFacts r.toRowW.records s.heap := fun s z => recFacts_of (Bool.and_eq_true_iff.mp z).2
  obtain ⟨ok1, ok2⟩ := Bool.and_eq_true_iff.mp ok
  obtain ⟨hch, hopen⟩ := Bool.and_eq_true_iff.mp ok1
  obtain ⟨hfree, hin⟩ := Bool.and_eq_true_iff.mp ok2
  obtain ⟨hsame, hu, ha, hap, hm⟩ := frees_parts hfree
  refine ⟨k1, hw, ⟨hb, hopen, by show r.toRowW.makers.map _ = []; rw [hm]; rfl⟩, hw.witness, fun w => ⟨(left.behind (XP := XL q []) xl hch w).1, fun s' hs' => ?_⟩⟩
  obtain ⟨s₀, hf, hg0, s, hT, hz, hgens, hg, G2, y⟩ := (left.behind (XP := fun mg h => XL q [] mg h ∧ RecFacts r.toRowW.records h) (fun s hs => ⟨xl s hs, rf s hs⟩) hch w).2 s' hs'
  have RF := G2.X.2
  have G0 : Ground q loose [] (XL q []) w s (s.heap.nsMap mainGlobals) (s.heap.nsMap builtinsNs) s.heap := ⟨G2.T, G2.B, G2.D, G2.TE, G2.TD, G2.W, G2.X.1, G2.cls, G2.has, G2.apart, G2.once, G2.K⟩
  have nogens : s.gens = #[] := Array.eq_empty_of_size_eq_zero (beq_iff_eq.mp hgens)
  have hT' := hT
  refine ⟨s₀, hf, hg0, s, hT, fun n hn => ?_, RF.1, RF.2.1, ?_⟩
  · have en : n = r.name := by split at hn <;> simp_all
    rw [en]
    exact pinned_of_view hg G0 hdef hp hk
  refine callFromG (c := r.toRowW.claim) hz nogens fun args hpre hlay ord hord => ?_
  have G := RF.ground G0
  obtain ⟨⟨vs, s₁⟩, laid⟩ := Option.isSome_iff_exists.mp (layAllW_isSome (P := w.params) (ord := ord) G.has args r.args s (pre_splitW hpre).1)
  have keeps := layAllW_keeps _ _ _ laid
  have rest := layAllW_rest _ _ _ laid
  obtain ⟨as, hrd, hsee, hold⟩ := reads_layAllW hord _ _ _ laid hlay s₁.heap (fun _ _ e => e)
  have L : Laid r.toRowW.records w s s₁ args vs as := ⟨⟨ord, hord, laid⟩, hrd, hsee, hold, keeps, rest.1.trans nogens, rest.2.2.1⟩
  have G1 := G.keeps XL.keeps keeps
  obtain ⟨a, o, pm, cd, doc, dV, kV, h1, h2, h3, h4, h5⟩ := G1.fn hdef
  have hcall := call w s s₁ _ _ G1 (H.keeps _ _ _ (H.of w s y) keeps) a o pm cd doc dV kV h2 h3 h4 h5 (defOf_name hdef ▸ h1) L.gens args vs as hpre hlay L.reads L.well (L.low G.low)
  have hi := ident_freeW hu ha hap
  have hwi : r.toRowW.claim.within = [] := List.isEmpty_iff.mp hin
  have tells : ∀ {x : Result} {s' : Shared}, GoodWG r.toRowW.claim (classAt s.heap) (ExcName.means s.heap) args s₁ x s' → r.toRowW.claim.Ends s args vs s₁ x s' ∧ s'.os = s.os ∧ AllBare s'.gens ∧ (r.writes = true → namesKept r.toRowW.claim.prog r.keeps s.heap s'.heap ∧ ∀ y ∈ r.toRowW.claim.records, ∀ a, classAt s.heap y.1 = some a → recordClass s'.heap a y.1 (y.2.map (·.1)) = true) := fun {x s'} g =>
    have z := g.laid (c := r.toRowW.claim) hsame hwi hi L
    ⟨z.1, z.2.1, z.2.2, fun q => ⟨namesKept_of hT' hg _ keeps g.2.1.old, noTable hwr q⟩⟩
  refine ⟨vs, s₁, laid, wpG_bind (wpG_up (wpAny_nsGet G1.T.g ?_))⟩
  rw [h1]
  exact wpG_bind (wpG_mono hcall (fun v s' g => wpG_pure ⟨_, rfl, tells g⟩) fun e s' g => tells g)
end Gap
/-! ## G14 -/
set_option Elab.async false
set_option linter.all false
set_option maxRecDepth 100000
set_option maxHeartbeats 4000000
/-! G14: the call asked by G13, from the def's promise. -/
namespace Gap
open PySem PySem.W PySem.Calls PyProof.Rows Att PySem.Spec
theorem walkG_of {l : OpenLaw} {n k : Nat} {q : Program} {loose : List Str} {XP : (Str → Option Value) → Heap → Prop} {YP : World → Heap → Prop} {d : DefRec} {x : Str}
    (hn : l.most = some n) (hn2 : n ≤ sizeLine) (hdf : d.params.defaults = []) (hr : L2.Room k callerA)
    (F : ∀ (w : World) (mg : Str → Option Value) (fa : Addr) (h : Heap), YP w h → h.Ns mainGlobals mg → mg d.name = some (.ref fa) →
      ∃ (K : PySem.W.Frag) (fd : FuncData) (S : Ab.Spc), K.In h ∧ (∀ (s : Shared) (u : Value), BindsTo s fd ⟨[u], []⟩ [(x, u)]) ∧
        (∀ (H : L2.Hp) (a : Addr) (ns : List Int), ns.length ≤ n → L2.SqL K H a (ns.map L2.V.int) → Ab.Pm S [.ref a] H (fun v _ => v = .bl true) C8.E0) ∧
        ∀ base : Heap, K.In base → base.Ns mainGlobals mg → FnOkG l.prog w K mg base k fa fd [x] S) :
    WalkG q loose XP YP l.row.toRowW d [] := by
  intro w s₀ s₁ mg mb G Y fa o pm cd doc dV kV ho hd hcd hD hmg hg args vals as hpre hlay hrd hwl hlo
  cases Dflts.none hD hdf
  cases Dflts.noKw hD
  obtain ⟨a, vs, ns, rfl, rfl, hobj, hints, hlen⟩ := script_of hn hpre hwl
  obtain ⟨K, fd, S, KX, hb, hsp, hF⟩ := F w mg fa _ Y G.T.g hmg
  have run := law_callG KX G.T.g G.T.b G.T.builtins G.T.nolimit hg hobj hints (Nat.le_trans hlen hn2) hr hF hb fun H hS => hsp H a ns hlen hS
  refine wpG_call (codeG_mono run fun r s' hq => ?_)
  obtain ⟨rfl, h2, h3, h4⟩ := hq
  exact ⟨.inl ⟨.bool true, .bool true, [], rfl, fun _ => rfl, .bool true, post_true l _, fun _ => ⟨List.Pairwise.nil, fun _ hm => nomatch hm⟩⟩, h2, h3, h4⟩
end Gap
/-! ## E6 -/
set_option Elab.async false
set_option linter.all false
set_option maxRecDepth 100000
set_option maxHeartbeats 4000000
/-! E6: dict(zip(xs, ys)), d.get(x) where x may be None, sorted of tuples (text, number, number) -/
namespace Ab
open PySem L2 PyProof.Rows
open Evl (Ex)
/-! ### dict(zip(xs, ys)) -/
def tDictZip (K : PySem.W.Frag) (ta : TA) : TE := fun σ H Q => ta σ H fun vs H1 => ∃ (a b : Addr) (ks : List Key) (ys : List V), vs = [.ref a, .ref b] ∧ SqL K H1 a (ks.map kV) ∧ SqL K H1 b ys ∧ ∀ p, H1 p = none → Q (.ref p) (upd H1 p (.dK (mergeK [] (ks.zip ys))))
theorem kv_zip : ∀ {ks : List Key} {ys : List V} {its : List Value}, Vals ys its → KV (ks.zip ys) (ks.zip its)
  | [], _, _, _ => .nil
  | _ :: _, _, _, .nil => .nil
  | _ :: _, _, _, .cons r t => .cons ⟨rfl, r⟩ (kv_zip t)
theorem keys_at {P : Program} {w : World} : ∀ {ks : List Key} {its : List Value} {i : Nat} {u : Value}, Vals (ks.map kV) its → its[i]? = some u → ∃ k, ks[i]? = some k ∧ (mixKind P w).is k u = true
  | [], _, i, u, r, h => by
    rw [List.map_nil] at r
    cases r
    cases h
  | k :: ks, _, i, u, r, h => by
    rw [List.map_cons] at r
    cases r with
    | cons a t =>
      cases i with
      | zero =>
        cases h
        exact ⟨k, rfl, kV_is a⟩
      | succ i => exact keys_at (ks := ks) t h
section
variable {X : Cx} {e e2 : Expr} {ta : TA} {p p2 pos pos2 : Pos}
theorem pe_dictZip (hcalm : X.calm = true) (hg : Gl X "dict") (hm : X.mg "dict" = none) (hg2 : Gl X "zip") (hm2 : X.mg "zip" = none) (ha : PA X [e, e2] ta)
    (hs : starEach [e, e2] X.env = (false, eval e X.env) :: starEach [e2] X.env := by rfl) (hpl : (backTo pos2 (starEach [e2] X.env)).any (·.1) = false := by rfl)
    (hz : starEach [.Call (.Name "zip" p2) [e, e2] [] pos2] X.env = (false, eval (.Call (.Name "zip" p2) [e, e2] [] pos2) X.env) :: starEach [] X.env := by rfl) :
    PE X (.Call (.Name "dict" p) [.Call (.Name "zip" p2) [e, e2] [] pos2] [] pos) (tDictZip X.K ta) := by
  refine ⟨fun pins s σ H Q I h => ?_⟩
  refine wpAny_Call_Name_kw (ld_blt I hg hm PyProof.Rows.boot_dict ?_)
  refine PyProof.Rows.callWith_type1 ?_ hz rfl
  rw [hz]
  show wpAny _ _ (spliced ((false, eval (.Call (.Name "zip" p2) [e, e2] [] pos2) X.env) :: backTo pos (starEach [] X.env))) _ _ s
  refine Calls.spliced_cons (wpAny_Call_Name_kw (ld_blt I hg2 hm2 PyProof.Rows.boot_zip (PyProof.Rows.callWith_type1 (thn (ha.run pos2 pins s σ H _ I h) fun us s1 ⟨vs, H1, I1, r1, q1⟩ => ?_) hs hpl)))
  obtain ⟨a, b, ks, ys, rfl, hqx, hqy, q⟩ := q1
  obtain ⟨u1, u2, rfl, ru1, ru2⟩ := vals2 r1
  cases ru1
  cases ru2
  obtain ⟨its, rv, g1, z1⟩ := I1.list hqx
  obtain ⟨its2, rv2, g2, z2⟩ := I1.list hqy
  rw [List.length_map] at z1
  have la : a < s1.heap.objs.size := g1.lt
  have lb : b < s1.heap.objs.size := g2.lt
  have l1 : its.length = ks.length := by rw [← rv.length, List.length_map]
  have l2 : its2.length = ys.length := rv2.length.symm
  refine call_zip_2 g1.isList g2.isList fun h' hzz hTI hTO h1 h2 hsz hk => Calls.spliced_nil ?_
  have stay : ∀ {c : Addr} {its : Array Value}, s1.heap.IsList c its → h'.IsList c its := fun x => x.at fun o e => hk _ o e
  refine PySem.call_dict_pairs (s := { s1 with heap := h' }) (knd := mixKind X.prog X.w) (kvs := ks.zip its2) (PairArg.zip _ _ _ _ _ a b (PySem.W.ktu_apart s1.heap.objs.size a b la lb) its.toArray its2.toArray) (I.ok.hd hcalm) ⟨hzz, hTI, ⟨_, _, hTO⟩, h1, h2, stay g1.isList, stay g2.isList⟩ ⟨?_, fun i key v hr => ?_⟩ ?_ fun h3 tk hd' hk3 => ?_
  · rw [List.length_zip, List.size_toArray, List.size_toArray, l1]
  · obtain ⟨hr1, hr2⟩ := hr
    rw [List.getElem?_toArray] at hr1 hr2
    obtain ⟨k, hk1, hk2⟩ := keys_at (P := X.prog) (w := X.w) rv hr1
    exact ⟨k, List.getElem?_zip_eq_some.mpr ⟨hk1, hr2⟩, hk2⟩
  · rw [List.size_toArray, List.size_toArray]
    exact Nat.le_trans (Nat.min_le_left _ _) (by rw [l1]; exact z1)
  · have old : ∀ c o, s1.heap.get? c = some o → h3.get? c = some o := fun c o e => by
      refine hk3 c o (fun hm => ?_) (hk c o e)
      have lt := Heap.lt_size e
      have e' : c = s1.heap.objs.size + 4 ∨ c = s1.heap.objs.size + 3 ∨ c = s1.heap.objs.size ∨ c = s1.heap.objs.size + 1 := by simpa using hm
      rcases e' with z | z | z | z <;> rw [z] at lt <;> first | exact absurd lt (Nat.not_lt.mpr (Nat.le_add_right _ _)) | exact absurd lt (Nat.lt_irrefl _)
    have big := I1.big
    have hsz' : h'.objs.size = s1.heap.objs.size + 5 := hsz
    have up : s1.heap.objs.size ≤ h'.objs.size := by
      rw [hsz']
      exact Nat.le_add_right _ _
    have hm0 : (h'.objs.size == sysModules) = false := beq_eq_false_iff_ne.mpr (Nat.ne_of_gt (Nat.lt_of_lt_of_le big up))
    have hlen : (mergeK [] (ks.zip ys)).length ≤ sizeLine := by
      refine Nat.le_trans (length_mergeK _ []) ?_
      rw [List.length_nil, Nat.zero_add, List.length_zip]
      exact Nat.le_trans (Nat.min_le_left _ _) z1
    have fresh : H1 h'.objs.size = none := I1.hok.fresh up
    refine ⟨.ref h'.objs.size, upd H1 h'.objs.size (.dK (mergeK [] (ks.zip ys))), I1.laid (t' := tk) old up ?_, rfl, q _ fresh⟩
    exact (show ObjOk X.prog X.w _ _ _ (.dK (mergeK [] (ks.zip ys))) from ⟨hlen, hm0, merged [] (ks.zip its2), KV.merge (kv_zip rv2) .nil, hd'⟩)
end
section
variable {σ : L2.St} {B : Hp} {M : Mu} {R : V → Hp → Mu → Prop} {K : PySem.W.Frag}
theorem w_dictZip {ta : TA} (h : wA ta σ B M fun vs B1 M1 => ∃ (a b : Addr) (ks : List Key) (ys : List V), vs = [.ref a, .ref b] ∧ SqL K B1 a (ks.map kV) ∧ SqL K B1 b ys ∧ ∀ p, B1 p = none → M1 p = none → R (.ref p) (upd B1 p (.dK (mergeK [] (ks.zip ys)))) M1) : wE (tDictZip K ta) σ B M R := fun H Q ok q =>
  h H _ ok fun vs B1 M1 H1 ok1 ⟨a, b, ks, ys, e, h1, h2, k⟩ => ⟨a, b, ks, ys, e, ok1.sqL h1, ok1.sqL h2, fun p hp => q _ _ _ _ (ok1.new hp) (k p (ok1.freeB hp) (ok1.freeM hp))⟩
end
/-! ### d.get(y), y may be None -/
def tDGetN (td ty : TE) : TE := fun σ H Q => td σ H fun x H1 => ∃ a kvs, x = .ref a ∧ Rd H1 a (.dK kvs) ∧ ty σ H1 fun y H2 => (y = .non ∧ Rd H2 a (.dK kvs) ∧ Q .non H2) ∨ ∃ k, y = kV k ∧ Rd H2 a (.dK kvs) ∧ Q ((valV kvs k).getD .non) H2
section
variable {X : Cx} {pins : List (Addr × Obj)} {σ : L2.St} {H : Hp} {s : Shared} {a : Addr} {kvs : List (Key × V)} {A : Around} {E : Value → Shared → Prop}
theorem d_get1None {Q : Value → Shared → Prop} (I : Inv X pins σ H s) (e : Rd H a (.dK kvs)) (h : ∀ s', Inv X pins σ H s' → Q .none s') : wpAny (model X.prog X.w) A (call (.builtin "dict.get") [.ref a, .none]) Q E s := by
  obtain ⟨_, hd, vs, _, dd⟩ := dk_rd I.hok e
  obtain ⟨f, hm, hf⟩ := none_map dd
  refine call_meetsIn PySem.F.slot_dict_get dd.typeIs PySem.F.entry_dict_get (PySem.F.args_dict_get_2 _ _) (meets_dict_get (noneKind X.prog X.w) a (show (noneKind X.prog X.w).is none .none = true from rfl) hd) ⟨f, hm, ?_⟩
  rw [hf]
  exact h _ (I.tok _)
end
section
variable {X : Cx} {o e : Expr} {apos cpos : Pos} {td ty : TE}
theorem pe_dgetN (hu : X.A.units + 1 < cLine) (ho : PE X o td) (he : PE X e ty) (m : M1 X o "get" apos e cpos) : PE X (.Call (.Attribute o "get" apos) [e] [] cpos) (tDGetN td ty) := by
  refine ⟨fun pins s σ H Q I h => ?_⟩
  refine wpAny_Call_method m.base m.few m.line PySem.F.plainAttrs_dict PySem.F.slot_dict_get PySem.F.type_dict_get (thn (ho.run pins s σ H _ I h) fun u s1 ⟨x, H1, I1, rx, a, kvs, ex, d, q1⟩ => ?_)
  subst ex
  obtain rfl : u = Value.ref a := rx
  obtain ⟨t1, t2, _⟩ := isD_at I1 (.inl ⟨kvs, d⟩)
  refine ⟨t1, t2, ?_⟩
  rw [m.trees]
  refine Calls.callWith_builtin rfl (Calls.evalArgs_plain (Calls.spliced_cons (thn (he.run pins s1 σ H1 _ I1 q1) fun iv s2 ⟨y, H2, I2, ry, q2⟩ => Calls.spliced_nil ?_)))
  rcases q2 with ⟨ey, g, q2⟩ | ⟨k, ey, g, q2⟩
  · subst ey
    obtain rfl : iv = Value.none := ry
    exact d_get1None I2 g fun s3 I3 => ⟨.non, H2, I3, rfl, q2⟩
  · exact d_get1 hu I2 (y := y) (o := valV kvs k) (.inl ⟨kvs, k, g, ey, rfl⟩) ry fun w' s3 I3 rw' => ⟨_, H2, I3, rw', q2⟩
end
section
variable {σ : L2.St} {B : Hp} {M : Mu} {R : V → Hp → Mu → Prop}
theorem w_dgetN {td ty : TE} (h : wE td σ B M fun x B1 M1 => ∃ a kvs, x = .ref a ∧ B1 a = some (.dK kvs) ∧ wE ty σ B1 M1 fun y B2 M2 => B2 a = some (.dK kvs) ∧ ((y = .non ∧ R .non B2 M2) ∨ ∃ k, y = kV k ∧ R ((valV kvs k).getD .non) B2 M2)) : wE (tDGetN td ty) σ B M R := fun H Q ok q =>
  h H _ ok fun x B1 M1 H1 ok1 ⟨a, kvs, e, hb, h1⟩ => ⟨a, kvs, e, .inl (ok1.at hb), h1 H1 _ ok1 fun y B2 M2 H2 ok2 ⟨hb2, h2⟩ => h2.elim (fun ⟨e1, r⟩ => .inl ⟨e1, .inl (ok2.at hb2), q _ _ _ _ ok2 r⟩) fun ⟨k, e1, r⟩ => .inr ⟨k, e1, .inl (ok2.at hb2), q _ _ _ _ ok2 r⟩⟩
end
/-! ### sorted([(text, number, number), ..]) -/
def triShape : Nat → Bool := fun i => i == 0
def triK (p : Str × Nat × Nat) : List (Int ⊕ List Nat) := [.inr p.1.cps.toList, .inl (p.2.1 : Int), .inl (p.2.2 : Int)]
def triLe (p q : Str × Nat × Nat) : Prop := (listOrd itemOrd).kle (triK p) (triK q)
def rSortedTri (K : PySem.W.Frag) : List V → Hp → VK → Prop := fun vs H Q => ∃ (a : Addr) (xs : List V) (ts : List (Str × Nat × Nat)) (P : V → Str × Nat × Nat → Prop), vs = [V.ref a] ∧ SqL K H a xs ∧ Paired P xs ts ∧ (∀ v p, P v p → LockV H v p) ∧
  ∀ ys us p, Paired P ys us → us.Perm ts → us.Pairwise triLe → H p = none → Q (.ref p) (upd H p (.lst ys))
theorem f2_perm {α β : Type} {R : α → β → Prop} {l l' : List α} (p : l'.Perm l) : ∀ {m : List β}, Paired R l m → ∃ m', m'.Perm m ∧ Paired R l' m' := by
  induction p with
  | nil => intro m h; exact ⟨m, .refl _, h⟩
  | cons x _ ih =>
    intro m h
    cases h with
    | cons r t =>
      obtain ⟨m', h1, h2⟩ := ih t
      exact ⟨_ :: m', h1.cons _, .cons r h2⟩
  | swap x y l =>
    intro m h
    cases h with
    | cons r t =>
      cases t with
      | cons r2 t2 => exact ⟨_, .swap .., .cons r2 (.cons r t2)⟩
  | trans _ _ ih1 ih2 =>
    intro m h
    obtain ⟨m1, p1, h1⟩ := ih2 h
    obtain ⟨m2, p2, h2⟩ := ih1 h1
    exact ⟨m2, p2.trans p1, h2⟩
theorem f2_and {α β : Type} {R S : α → β → Prop} : ∀ {l : List α} {m : List β}, Paired R l m → Paired S l m → Paired (fun x y => R x y ∧ S x y) l m
  | _, _, .nil, .nil => .nil
  | _, _, .cons a b, .cons c d => .cons ⟨a, c⟩ (f2_and b d)
theorem f2_mapL {α β γ : Type} {R : β → γ → Prop} (f : α → β) : ∀ {l : List α} {m : List γ}, Paired (fun x y => R (f x) y) l m → Paired R (l.map f) m
  | _, _, .nil => .nil
  | _, _, .cons a b => .cons a (f2_mapL f b)
theorem f2_unmap {α β γ : Type} {R : β → γ → Prop} (f : α → β) : ∀ {l : List α} {m : List γ}, Paired R (l.map f) m → Paired (fun x y => R (f x) y) l m
  | [], _, .nil => .nil
  | _ :: _, _, .cons a b => .cons a (f2_unmap f b)
/-- what the heap shows of such tuples -/
theorem tups_of {P : Program} {w : World} {H : Hp} {h : Heap} (hok : HOk P w H h) : ∀ {its : List Value} {ts : List (Str × Nat × Nat)}, (∀ v ∈ its, ∃ t, v = .ref t) → Paired (fun v p => LockV H (backV v) p) its ts →
    ∃ fs, PyProof.Rows.TupsOf h triShape its fs ∧ Paired (fun v p => PyProof.Rows.G.tupKeyC h triShape v = some (triK p)) its ts
  | _, _, _, .nil => ⟨[], .nil, .nil⟩
  | v :: its, p :: ts, hr, .cons a b => by
    obtain ⟨fs, h1, h2⟩ := tups_of hok (fun v hv => hr v (List.mem_cons_of_mem _ hv)) b
    obtain ⟨t, rfl⟩ := hr v List.mem_cons_self
    obtain ⟨t', e, ht⟩ := a
    have e2 : t = t' := by
      have z : V.ref t = V.ref t' := e
      cases z
      rfl
    subst e2
    obtain ⟨_, its2, r2, o, ho, hc, n, hd⟩ := hok _ _ ht
    cases r2 with
    | cons r1 r2 =>
      cases r2 with
      | cons r2 r3 =>
        cases r3 with
        | cons r3 r4 =>
          cases r4
          obtain ⟨t1, rfl⟩ := r1
          obtain ⟨t2, rfl⟩ := r2
          obtain ⟨t3, rfl⟩ := r3
          refine ⟨_ :: fs, .cons ⟨t, o, _, n, rfl, ho, hc, hd, rfl, fun z => absurd (show true = false from z) (by decide), fun _ => ⟨p.1, t1, rfl⟩⟩ h1, .cons ?_ h2⟩
          have e1 : PyProof.Rows.G.isTupObj h (.ref t) = true := by
            unfold PyProof.Rows.G.isTupObj
            simp [ho, hc]
          unfold PyProof.Rows.G.tupKeyC
          rw [if_pos e1]
          unfold PyProof.Rows.tupKey
          simp only [ho, hd]
          rfl
theorem zip_self_map {α : Type} : ∀ l : List α, (l.zip l).map (·.2) = l
  | [] => rfl
  | x :: l => by
    rw [List.zip_cons_cons, List.map_cons, zip_self_map l]
theorem zip_self_mem {α : Type} : ∀ {l : List α} {p : α × α}, p ∈ l.zip l → p.1 = p.2
  | x :: l, p, h => by
    rw [List.zip_cons_cons] at h
    rcases List.mem_cons.mp h with c | c
    · rw [c]
    · exact zip_self_mem c
section
variable {X : Cx}
theorem cr_sortedTri : CallR X (.builtin "sorted") (rSortedTri X.K) := by
  intro pins s σ H vs us Q I r h
  obtain ⟨a, xs, ts, P, rfl, hs, hx, hP, q⟩ := h
  obtain ⟨its, rv, hl, hz⟩ := I.list hs
  obtain ⟨u, rfl, ru⟩ := vals1 r
  obtain rfl : u = Value.ref a := ru
  obtain ⟨e1, e2⟩ := refs_back rv fun x m => by
    obtain ⟨i, hi, ei⟩ := List.getElem_of_mem m
    obtain ⟨p, _, hp⟩ := f2_get hx (show xs[i]? = some x by rw [List.getElem?_eq_getElem hi, ei])
    obtain ⟨t, e, _⟩ := hP x p hp
    exact ⟨t, e⟩
  rw [e1] at hx
  have hx2 := f2_unmap backV hx
  obtain ⟨fs, hf, hk⟩ := tups_of I.hok e2 (f2_mono (fun v p h => hP _ _ h) hx2)
  have both := f2_and hx2 hk
  refine PyProof.Rows.G.sorted_tups (shape := triShape) hl.isList hf (fun v hv => ?_) (by rw [← rv.length]; exact hz) fun st' hp hso _ => ?_
  · obtain ⟨i, hi, ei⟩ := List.getElem_of_mem hv
    obtain ⟨p, _, hp⟩ := f2_get hk (show its[i]? = some v by rw [List.getElem?_eq_getElem hi, ei])
    exact ⟨_, hp⟩
  have hpl : (PyProof.Rows.arrOf st').toList.Perm (its.zip its) := by
    have z := hp.toList
    rw [PyProof.Rows.pairsOf_toList] at z
    exact z
  have outp : ((PyProof.Rows.arrOf st').map (·.2)).toList.Perm its := by
    rw [Array.toList_map]
    have z := hpl.map (·.2)
    rw [zip_self_map] at z
    exact z
  obtain ⟨us, up, hus⟩ := f2_perm outp both
  have h3 : ∀ u ∈ ((PyProof.Rows.arrOf st').map (·.2)).toList, ∃ a, u = Value.ref a := fun u hu => e2 u (outp.mem_iff.mp hu)
  obtain ⟨n, hn⟩ := PyProof.Rows.sortedAll_at s.heap its ((PyProof.Rows.arrOf st').map (·.2))
  refine ⟨.ref (s.heap.objs.size + 1), upd H (s.heap.objs.size + 1) (.lst (((PyProof.Rows.arrOf st').map (·.2)).toList.map backV)), I.laid (t' := s.toks) (fun b o e => PyProof.Rows.sortedAll_old e) (Nat.le_succ _) ⟨?_, _, n, vals_back h3, hn⟩, rfl, q _ us _ (f2_mapL backV (f2_mono (fun _ _ h => h.1) hus)) up ?_ (I.hok.fresh (Nat.le_succ _))⟩
  · rw [List.length_map, outp.length_eq, ← rv.length]
    exact hz
  · rw [List.pairwise_iff_getElem]
    intro i j hi hj hij
    have hul := f2_len hus
    have sz : (PyProof.Rows.pairsOf its).size = us.length := by
      rw [PyProof.Rows.pairsOf_size, ← hul, outp.length_eq]
    have key : ∀ i, (h : i < us.length) → PyProof.Rows.KK (PyProof.Rows.G.tupKindC s.heap triShape) (PyProof.Rows.arrOf st') i = triK us[i] := fun i h => by
      obtain ⟨v, hv, _, hkv⟩ := f2_at hus (List.getElem?_eq_getElem h)
      rw [Array.toList_map, List.getElem?_map] at hv
      obtain ⟨pr, hpr, e⟩ := Option.map_eq_some_iff.mp hv
      have same : pr.1 = pr.2 := zip_self_mem (hpl.mem_iff.mp (List.mem_of_getElem? hpr))
      rw [Array.getElem?_toList] at hpr
      unfold PyProof.Rows.KK
      rw [hpr]
      show ((PyProof.Rows.G.tupKeyC s.heap triShape pr.1).getD []) = _
      rw [same, e, hkv]
      rfl
    have z := hso i j (Nat.le_of_lt hij) (by rw [sz]; exact hj)
    rw [key i hi, key j hj] at z
    exact z
end
section
variable {B : Hp} {M : Mu} {R : V → Hp → Mu → Prop} {K : PySem.W.Frag}
theorem wc_sortedTri {a : Addr} {xs : List V} {ts : List (Str × Nat × Nat)} (h : SqL K B a xs) (hx : Paired (LockV B) xs ts) (k : ∀ ys us p, Paired (LockV B) ys us → us.Perm ts → us.Pairwise triLe → B p = none → M p = none → R (.ref p) (upd B p (.lst ys)) M) : wC (rSortedTri K) [.ref a] B M R := fun H Q ok q =>
  ⟨a, xs, ts, LockV B, rfl, ok.sqL h, hx, fun v p ⟨t, e, ht⟩ => ⟨t, e, ok.at ht⟩, fun ys us p h1 h2 h3 hp => q _ _ _ _ (ok.new hp) (k ys us p h1 h2 h3 (ok.freeB hp) (ok.freeM hp))⟩
end
end Ab
/-! ## P3 -/
set_option Elab.async false
set_option linter.all false
set_option maxRecDepth 100000
set_option maxHeartbeats 2000000
/-! P3: the plain law with other names -/
namespace Ab
open PySem L2 PyProof.Rows
def InjOn (f : Str → Str) (l : List Str) : Prop := ∀ a ∈ l, ∀ b ∈ l, f a = f b → a = b
def renK (f : Str → Str) (k : Kd) : Kd := ⟨f k.name, k.gap, k.age, k.src.map f⟩
def renC (f g : Str → Str) (c : Cl) : Cl := ⟨g c.role, f c.client, f c.server, c.life⟩
theorem find_congr {α : Type} {p q : α → Bool} : ∀ {l : List α}, (∀ x ∈ l, p x = q x) → l.find? p = l.find? q
  | [], _ => rfl
  | x :: l, h => by
    rw [List.find?_cons, List.find?_cons, h x List.mem_cons_self, find_congr fun y hy => h y (List.mem_cons_of_mem _ hy)]
theorem flat_congr {α β : Type} {f g : α → List β} : ∀ {l : List α}, (∀ x ∈ l, f x = g x) → l.flatMap f = l.flatMap g
  | [], _ => rfl
  | x :: l, h => by
    rw [List.flatMap_cons, List.flatMap_cons, h x List.mem_cons_self, flat_congr fun y hy => h y (List.mem_cons_of_mem _ hy)]
section
variable {ks : List Kd} {f g : Str → Str} {z : Str} {ms : List Int} {ts : List Told} {cs : List Cl}
theorem names_ren : (ks.map (renK f)).map Kd.name = (ks.map Kd.name).map f := by
  rw [List.map_map, List.map_map]
  rfl
theorem find_ren (inj : InjOn f (ks.map Kd.name)) (hz : z ∈ ks.map Kd.name) : ((ks.map (renK f)).find? fun k => decide (k.name = f z)) = (ks.find? fun k => decide (k.name = z)).map (renK f) := by
  rw [List.find?_map]
  congr 1
  refine find_congr fun k hk => decide_eq_decide.mpr ⟨fun e => inj _ (List.mem_map_of_mem hk) _ hz e, fun e => ?_⟩
  show f k.name = f z
  rw [e]
theorem src_ren (inj : InjOn f (ks.map Kd.name)) (hz : z ∈ ks.map Kd.name) : srcOf (ks.map (renK f)) (f z) = (srcOf ks z).map (·.map f) := by
  unfold srcOf
  rw [find_ren inj hz, Option.map_map, Option.map_map]
  rfl
theorem contrib_ren {k : Kd} : contrib (renK f k) = contrib k := rfl
theorem contribOf_ren (inj : InjOn f (ks.map Kd.name)) (hz : z ∈ ks.map Kd.name) : contribOf (ks.map (renK f)) (f z) = contribOf ks z := by
  unfold contribOf
  rw [find_ren inj hz]
  cases ks.find? fun k => decide (k.name = z) with
  | none => rfl
  | some k => rfl
/-- every source is one of the kinds -/
def Closed (ks : List Kd) : Prop := ∀ k ∈ ks, ∀ y, k.src = some y → y ∈ ks.map Kd.name
theorem src_in (h : Closed ks) {y : Str} (e : srcOf ks z = some (some y)) : y ∈ ks.map Kd.name := by
  unfold srcOf at e
  obtain ⟨k, hk, e2⟩ := Option.map_eq_some_iff.mp e
  exact h k (List.mem_of_find?_eq_some hk) y e2
theorem chain_ren (inj : InjOn f (ks.map Kd.name)) (h : Closed ks) : ∀ n z, z ∈ ks.map Kd.name → chainF (ks.map (renK f)) n (f z) = (chainF ks n z).map f ∧ ∀ y ∈ chainF ks n z, y ∈ ks.map Kd.name
  | 0, z, _ => ⟨rfl, fun y hy => nomatch hy⟩
  | n + 1, z, hz => by
    rw [chainF, chainF, src_ren inj hz]
    cases e : srcOf ks z with
    | none => exact ⟨rfl, fun y hy => by rw [List.mem_singleton.mp hy]; exact hz⟩
    | some o =>
      cases o with
      | none => exact ⟨rfl, fun y hy => by rw [List.mem_singleton.mp hy]; exact hz⟩
      | some y =>
        have hy := src_in h e
        obtain ⟨h1, h2⟩ := chain_ren inj h n y hy
        dsimp only [Option.map]
        refine ⟨by rw [h1] <;> rfl, fun x hx => ?_⟩
        rcases List.mem_cons.mp hx with c | c
        · rw [c]
          exact hz
        · exact h2 x c
theorem late_ren (inj : InjOn f (ks.map Kd.name)) (h : Closed ks) (hz : z ∈ ks.map Kd.name) : late (ks.map (renK f)) (f z) = late ks z := by
  unfold late lateL
  obtain ⟨h1, h2⟩ := chain_ren inj h 5 z hz
  rw [h1, List.map_map]
  congr 2
  exact List.map_congr_left fun y hy => contribOf_ren inj (h2 y hy)
theorem meetB_ren (inj : InjOn f (ks.map Kd.name)) (h : Closed ks) {c : Cl} (h1 : c.client ∈ ks.map Kd.name) (h2 : c.server ∈ ks.map Kd.name) {i j : Nat} : meetB ms (ks.map (renK f)) (renC f g c) i j = meetB ms ks c i j := by
  unfold meetB clientR serverR
  show (andR (mkR _ ((lastH ms (late (ks.map (renK f)) (f c.client)) i).map (· + c.life))) (heldR ms (late (ks.map (renK f)) (f c.server)) j)).isSome = _
  rw [late_ren inj h h1, late_ren inj h h2]
theorem row_ren {t : Told} (inj : InjOn g (t.rows.map Row.role)) (hz : z ∈ t.rows.map Row.role) : (rowOf (ren g t) (g z)).own = (rowOf t z).own ∧ (rowOf (ren g t) (g z)).likes = (rowOf t z).likes := by
  unfold rowOf ren
  dsimp only
  rw [List.find?_map]
  have e : (t.rows.find? ((fun r => decide (r.role = g z)) ∘ fun r : Row => (⟨g r.role, r.likes, r.own⟩ : Row))) = t.rows.find? fun r => decide (r.role = z) := find_congr fun r hr => decide_eq_decide.mpr ⟨fun e => inj _ (List.mem_map_of_mem hr) _ hz e, fun e => by show g r.role = g z; rw [e]⟩
  rw [e]
  cases q : t.rows.find? fun r => decide (r.role = z) with
  | none =>
    obtain ⟨r, hr, e⟩ := List.mem_map.mp hz
    have := List.find?_eq_none.mp q r hr
    exact absurd (decide_eq_true e) this
  | some r => exact ⟨rfl, rfl⟩
theorem ren_at {i : Nat} : (ts.map (ren g)).getD i told0 = ren g (ts.getD i told0) := by
  rw [List.getD_eq_getElem?_getD, List.getD_eq_getElem?_getD, List.getElem?_map]
  cases ts[i]? <;> rfl
theorem refM_ren (inj : InjOn f (ks.map Kd.name)) (h : Closed ks) (hl : ts.length = ms.length) (injg : ∀ t ∈ ts, InjOn g (t.rows.map Row.role)) (h1 : ∀ c ∈ cs, c.client ∈ ks.map Kd.name) (h2 : ∀ c ∈ cs, c.server ∈ ks.map Kd.name) (h3 : ∀ c ∈ cs, ∀ t ∈ ts, c.role ∈ t.rows.map Row.role) :
    refM ms (ts.map (ren g)) (ks.map (renK f)) (cs.map (renC f g)) = refM ms ts ks cs := by
  unfold refM
  rw [List.zipIdx_map, List.flatMap_map]
  refine flat_congr fun x hx => ?_
  obtain ⟨c, m⟩ := x
  have hc : c ∈ cs := by
    have z := (List.mem_zipIdx hx).2.2
    rw [z]
    exact List.getElem_mem _
  show ((pairsAll ms.length).filter (refuseB ms (ts.map (ren g)) (ks.map (renK f)) (renC f g c))).map (fun p => (m, p)) = ((pairsAll ms.length).filter (refuseB ms ts ks c)).map fun p => (m, p)
  congr 1
  refine List.filter_congr fun p hp => ?_
  have hm := mem_all.mp hp
  have at_ : ∀ i, i < ms.length → ts.getD i told0 ∈ ts := fun i hi => by
    rw [List.getD_eq_getElem?_getD, List.getElem?_eq_getElem (by omega)]
    exact List.getElem_mem _
  unfold refuseB
  rw [meetB_ren inj h (h1 c hc) (h2 c hc), ren_at, ren_at]
  congr 1
  unfold refB
  have a1 := at_ _ hm.1
  have a2 := at_ _ hm.2
  show (!decide ((rowOf (ren g (ts.getD p.1 told0)) (g c.role)).own ∈ (rowOf (ren g (ts.getD p.2 told0)) (g c.role)).likes)) = _
  rw [(row_ren (injg _ a1) (h3 c hc _ a1)).1, (row_ren (injg _ a2) (h3 c hc _ a2)).2]
/-! ### the lockouts, sorted -/
def blockJ (ms : List Int) (ts : List Told) (ks : List Kd) (z : Str) : List (Nat × Nat) := (jumpsM ms (late ks z)).filter (lockB ts)
theorem lockB_ren : lockB (ts.map (ren g)) = lockB ts := by
  funext p
  unfold lockB
  rw [ren_at, ren_at]
  rfl
theorem lock_ren {ys ys' : List Str} (inj : InjOn f (ks.map Kd.name)) (h : Closed ks) (hy : ys.Perm (ks.map Kd.name)) (hy' : ys'.Perm ((ks.map Kd.name).map f)) :
    ((lockM ms ts ks ys).map fun x => (f x.1, x.2)).Perm (lockM ms (ts.map (ren g)) (ks.map (renK f)) ys') := by
  have e1 : (lockM ms ts ks ys).map (fun x => (f x.1, x.2)) = (ys.map f).flatMap fun z => (blockJ ms (ts.map (ren g)) (ks.map (renK f)) z).map fun p => (z, p) := by
    unfold lockM
    rw [List.map_flatMap, List.flatMap_map]
    refine flat_congr fun z hz => ?_
    have hz2 := hy.mem_iff.mp hz
    unfold blockJ
    rw [late_ren inj h hz2, lockB_ren, List.map_map]
    rfl
  rw [e1]
  show List.Perm _ (ys'.flatMap fun z => (blockJ ms (ts.map (ren g)) (ks.map (renK f)) z).map fun p => (z, p))
  exact List.Perm.flatMap_right _ ((hy.map f).trans hy'.symm)
end
theorem rising_pair : ∀ {l : List Str} {p : Str}, risingS p l = true → (∀ y ∈ l, PySem.Spec.ltCps y.cps.toList p.cps.toList = false) ∧ l.Pairwise fun a b => PySem.Spec.ltCps b.cps.toList a.cps.toList = false
  | [], _, _ => ⟨fun y hy => (nomatch hy), .nil⟩
  | x :: l, p, h => by
    have h' : (!PySem.Spec.ltCps x.cps.toList p.cps.toList && risingS x l) = true := h
    rw [Bool.and_eq_true] at h'
    obtain ⟨h1, h2⟩ := h'
    have h1 : PySem.Spec.ltCps x.cps.toList p.cps.toList = false := by simpa using h1
    obtain ⟨h3, h4⟩ := rising_pair h2
    refine ⟨fun y hy => ?_, .cons h3 h4⟩
    rcases List.mem_cons.mp hy with c | c
    · rw [c]
      exact h1
    · have h5 := h3 y c
      rw [ltCps_eq] at h1 h5 ⊢
      cases q : decide (y.cps.toList < p.cps.toList) with
      | false => rfl
      | true =>
        rcases PyProof.Rows.strKind.negTrans y.cps.toList x.cps.toList p.cps.toList q with c | c
        · exact absurd (show decide (y.cps.toList < x.cps.toList) = true from c) (by rw [h5]; decide)
        · exact absurd (show decide (x.cps.toList < p.cps.toList) = true from c) (by rw [h1]; decide)
theorem sorted_pair {l : List Str} (h : sortedS l = true) : l.Pairwise fun a b => PySem.Spec.ltCps b.cps.toList a.cps.toList = false := by
  cases l with
  | nil => exact .nil
  | cons x l =>
    obtain ⟨h1, h2⟩ := rising_pair h
    exact .cons h1 h2
/-- triLe by its parts -/
theorem triLe_iff {p q : Str × Nat × Nat} : triLe p q ↔ (p.1.cps.toList < q.1.cps.toList ∨ (p.1.cps.toList = q.1.cps.toList ∧ (p.2.1 < q.2.1 ∨ (p.2.1 = q.2.1 ∧ p.2.2 ≤ q.2.2)))) := by
  unfold triLe KeyOrd.kle
  show PyProof.Rows.lexLt itemOrd (triK q) (triK p) = false ↔ _
  unfold triK
  rw [lex_cons, lex_cons, lex_cons]
  have e0 : PyProof.Rows.lexLt itemOrd [] [] = false := rfl
  rw [e0]
  show (decide (q.1.cps.toList < p.1.cps.toList) || (!decide (p.1.cps.toList < q.1.cps.toList) && (decide ((q.2.1 : Int) < p.2.1) || (!decide ((p.2.1 : Int) < q.2.1) && (decide ((q.2.2 : Int) < p.2.2) || (!decide ((p.2.2 : Int) < q.2.2) && false)))))) = false ↔ _
  rw [Bool.and_false, Bool.or_false]
  have tot := PyProof.Rows.strKind.total p.1.cps.toList q.1.cps.toList
  have irr := PyProof.Rows.strKind.irrefl p.1.cps.toList
  have trn := PyProof.Rows.strKind.trans p.1.cps.toList q.1.cps.toList p.1.cps.toList
  have tot' : ¬ p.1.cps.toList < q.1.cps.toList → ¬ q.1.cps.toList < p.1.cps.toList → p.1.cps.toList = q.1.cps.toList := fun a b => tot (decide_eq_false a) (decide_eq_false b)
  have irr' : ¬ p.1.cps.toList < p.1.cps.toList := of_decide_eq_false irr
  have trn' : p.1.cps.toList < q.1.cps.toList → ¬ q.1.cps.toList < p.1.cps.toList := fun a b => irr' (of_decide_eq_true (trn (decide_eq_true a) (decide_eq_true b)))
  by_cases c1 : p.1.cps.toList < q.1.cps.toList
  · simp [c1, trn' c1]
  · by_cases c2 : q.1.cps.toList < p.1.cps.toList
    · have n3 : ¬ p.1.cps.toList = q.1.cps.toList := fun e => irr' (by rw [e] at c2; rw [e]; exact c2)
      simp [c1, c2, n3]
    · have e := tot' c1 c2
      have i2 : ¬ q.1.cps.toList < q.1.cps.toList := by rw [← e]; exact irr'
      simp [e, i2]
      omega
theorem triLe_anti {p q : Str × Nat × Nat} (h1 : triLe p q) (h2 : triLe q p) : p = q := by
  have e := (listOrd itemOrd).total (triK p) (triK q) h2 h1
  unfold triK at e
  injection e with e1 e2
  injection e2 with e3 e4
  injection e4 with e5 _
  have a := Sum.inr.inj e1
  have b := Sum.inl.inj e3
  have c := Sum.inl.inj e5
  obtain ⟨⟨⟨x⟩⟩, m, n⟩ := p
  obtain ⟨⟨⟨y⟩⟩, m', n'⟩ := q
  have a : x = y := a
  have b : m = m' := by exact_mod_cast b
  have c : n = n' := by exact_mod_cast c
  rw [a, b, c]
theorem up_pair (n : Nat) : (pairsUp n).Pairwise fun p q => p.1 < q.1 ∨ (p.1 = q.1 ∧ p.2 < q.2) := by
  unfold pairsUp
  rw [List.pairwise_flatMap]
  refine ⟨fun a _ => ?_, ?_⟩
  · rw [List.pairwise_map]
    exact (List.pairwise_lt_range).imp fun {x y} h => .inr ⟨rfl, by show a + 1 + x < a + 1 + y; omega⟩
  · refine (List.pairwise_lt_range).imp fun {x y} h p hp q hq => ?_
    obtain ⟨_, _, rfl⟩ := List.mem_map.mp hp
    obtain ⟨_, _, rfl⟩ := List.mem_map.mp hq
    exact .inl h
theorem lock_pair {ms : List Int} {ts : List Told} {ks : List Kd} {ys : List Str} (h : sortedS ys = true) (nd : ys.Nodup) : (lockM ms ts ks ys).Pairwise triLe := by
  unfold lockM
  rw [List.pairwise_flatMap]
  refine ⟨fun z _ => ?_, ?_⟩
  · rw [List.pairwise_map]
    refine List.Pairwise.imp ?_ (((up_pair ms.length).sublist List.filter_sublist).sublist List.filter_sublist)
    intro p q hpq
    refine triLe_iff.mpr (.inr ⟨rfl, ?_⟩)
    show p.1 < q.1 ∨ (p.1 = q.1 ∧ p.2 ≤ q.2)
    omega
  · refine List.Pairwise.imp ?_ ((sorted_pair h).and nd)
    intro a b ⟨h1, h2⟩ x hx y hy
    obtain ⟨_, _, rfl⟩ := List.mem_map.mp hx
    obtain ⟨_, _, rfl⟩ := List.mem_map.mp hy
    refine triLe_iff.mpr (.inl ?_)
    show a.cps.toList < b.cps.toList
    rw [ltCps_eq] at h1
    have h3 : ¬ a.cps.toList < b.cps.toList → False := fun c => h2 (by
      have e := PyProof.Rows.strKind.total a.cps.toList b.cps.toList (decide_eq_false c) h1
      obtain ⟨⟨x⟩⟩ := a
      obtain ⟨⟨y⟩⟩ := b
      rw [show x = y from e])
    exact Classical.byContradiction h3
theorem lock_sorted {f g : Str → Str} {ks : List Kd} {ms : List Int} {ts : List Told} {ys ys' : List Str} {us : List (Str × Nat × Nat)} (inj : InjOn f (ks.map Kd.name)) (h : Closed ks) (nd : (ks.map Kd.name).Nodup) (hy : ys.Perm (ks.map Kd.name)) (hy' : ys'.Perm ((ks.map Kd.name).map f)) (hs : sortedS ys' = true)
    (hp : us.Perm ((lockM ms ts ks ys).map fun x => (f x.1, x.2))) (hu : us.Pairwise triLe) : us = lockM ms (ts.map (ren g)) (ks.map (renK f)) ys' := by
  have nd' : ys'.Nodup := by
    refine hy'.nodup_iff.mpr ?_
    exact List.Pairwise.map _ (fun _ _ h => h) (List.pairwise_iff_getElem.mpr fun i j hi hj hij e => (List.pairwise_iff_getElem.mp nd i j hi hj hij) (inj _ (List.getElem_mem hi) _ (List.getElem_mem hj) e))
  exact List.Perm.eq_of_pairwise (fun a b _ _ => triLe_anti) hu (lock_pair hs nd') (hp.trans (lock_ren inj h hy hy'))
end Ab
/-! ## Z1 -/
set_option Elab.async false
set_option linter.all false
set_option maxRecDepth 100000
set_option maxHeartbeats 4000000
/-! Z1: readings of list(g); answers as data -/
namespace Ab
open PySem L2 PyProof.Rows
open Evl (Ex)
open Gap
theorem w_listA {S : SpcG} {ta : TA} {σ : L2.St} {B : Hp} {M : Mu} {R : V → Hp → Mu → Prop} (h : wA ta σ B M fun vs B1 M1 => S vs B1 M1 fun ys B2 M2 => ∀ p, B2 p = none → M2 p = none → R (.ref p) (upd B2 p (.lst ys)) M2) : wE (tListA (tCallG2 (PmG S) ta)) σ B M R := fun H Q ok q =>
  w_callG h H _ ok fun ys B' M' H' ok' k p hp => q _ _ _ _ (ok'.new hp) (k p (ok'.freeB hp) (ok'.freeM hp))
def refD (x : Nat × Nat × Nat) : PyData := .tuple [.int x.1, .int x.2.1, .int x.2.2]
def lockD (x : Str × Nat × Nat) : PyData := .tuple [.str x.1, .int x.2.1, .int x.2.2]
def pairD (x : Nat × Nat) : PyData := .tuple [.int x.1, .int x.2]
section
variable {K : PySem.W.Frag} {B : Hp}
theorem dp_ref {v : V} {x : Nat × Nat × Nat} (h : RefV B v x) : Dp K B v (refD x) := by
  obtain ⟨t, rfl, h⟩ := h
  exact .tup (.of h) (.cons (.int _) (.cons (.int _) (.cons (.int _) .nil)))
theorem dp_lock {v : V} {x : Str × Nat × Nat} (h : LockV B v x) : Dp K B v (lockD x) := by
  obtain ⟨t, rfl, h⟩ := h
  exact .tup (.of h) (.cons (.str _) (.cons (.int _) (.cons (.int _) .nil)))
theorem dp_pair {v : V} {x : Nat × Nat} (h : PairV B v x) : Dp K B v (pairD x) := by
  obtain ⟨t, rfl, h⟩ := h
  exact .tup (.of h) (.cons (.int _) (.cons (.int _) .nil))
theorem dp_all {α : Type} {D : α → PyData} {P : V → α → Prop} (hP : ∀ v x, P v x → Dp K B v (D x)) : ∀ {vs : List V} {xs : List α}, Paired P vs xs → DpAll K B vs (xs.map D)
  | _, _, .nil => .nil
  | _, _, .cons a b => .cons (hP _ _ a) (dp_all hP b)
theorem dp_list {α : Type} {D : α → PyData} {P : V → α → Prop} (hP : ∀ v x, P v x → Dp K B v (D x)) {p : Addr} {vs : List V} {xs : List α} (h : B p = some (.lst vs)) (hx : Paired P vs xs) : Dp K B (.ref p) (.list (xs.map D)) := .lst (.of h) (dp_all hP hx)
theorem dp_refs {p : Addr} {vs : List V} {xs : List (Nat × Nat × Nat)} (h : B p = some (.lst vs)) (hx : Paired (RefV B) vs xs) : Dp K B (.ref p) (.list (xs.map refD)) := dp_list (D := refD) (P := RefV B) (fun _ _ w => dp_ref w) h hx
theorem dp_locks {p : Addr} {vs : List V} {xs : List (Str × Nat × Nat)} (h : B p = some (.lst vs)) (hx : Paired (LockV B) vs xs) : Dp K B (.ref p) (.list (xs.map lockD)) := dp_list (D := lockD) (P := LockV B) (fun _ _ w => dp_lock w) h hx
theorem dp_pairs {p : Addr} {vs : List V} {xs : List (Nat × Nat)} (h : B p = some (.lst vs)) (hx : Paired (PairV B) vs xs) : Dp K B (.ref p) (.list (xs.map pairD)) := dp_list (D := pairD) (P := PairV B) (fun _ _ w => dp_pair w) h hx
/-- data that may be compared -/
def Fit1 (d : PyData) : Prop := d.canLay0 = true ∧ d.depth ≤ 1
theorem fit_all : ∀ {ds : List PyData}, (∀ d ∈ ds, Fit1 d) → PyData.canLayAll0 ds = true ∧ PyData.depthAll ds ≤ 1
  | [], _ => ⟨rfl, Nat.zero_le _⟩
  | d :: ds, h => by
    obtain ⟨h1, h2⟩ := h d List.mem_cons_self
    obtain ⟨h3, h4⟩ := fit_all fun x hx => h x (List.mem_cons_of_mem _ hx)
    refine ⟨by rw [PyData.canLayAll0, h1, h3] <;> rfl, ?_⟩
    rw [PyData.depthAll]
    omega
theorem fit_list {ds : List PyData} (h : ∀ d ∈ ds, Fit1 d) : SeqAt.shaped (.list ds) = true := by
  obtain ⟨h1, h2⟩ := fit_all h
  unfold SeqAt.shaped
  rw [PyData.canLay0, h1, PyData.depth, Bool.true_and]
  exact decide_eq_true (by omega)
theorem fit_one {d : PyData} (h : Fit1 d) : SeqAt.shaped d = true := by
  unfold SeqAt.shaped
  rw [h.1, Bool.true_and]
  exact decide_eq_true (by have := h.2; omega)
theorem fit_ref {x : Nat × Nat × Nat} : Fit1 (refD x) := by
  refine ⟨rfl, ?_⟩
  unfold refD
  simp [PyData.depth, PyData.depthAll]
theorem fit_pair {x : Nat × Nat} : Fit1 (pairD x) := by
  refine ⟨rfl, ?_⟩
  unfold pairD
  simp [PyData.depth, PyData.depthAll]
theorem fit_lock {x : Str × Nat × Nat} (h : Wd x.1) : Fit1 (lockD x) := by
  refine ⟨?_, ?_⟩
  · unfold lockD
    rw [PyData.canLay0, PyData.canLayAll0, PyData.canLay0, strOk_wd h]
    rfl
  · unfold lockD
    simp [PyData.depth, PyData.depthAll]
theorem fit_map {α : Type} {D : α → PyData} {xs : List α} (h : ∀ x ∈ xs, Fit1 (D x)) : SeqAt.shaped (.list (xs.map D)) = true := fit_list fun d hd => by
  obtain ⟨x, hx, rfl⟩ := List.mem_map.mp hd
  exact h x hx
theorem eqv_same {d : PyData} (h : SeqAt.shaped d = true) : PyData.eqv d d = true := SeqAt.eqv_refl _ (SeqAt.canLay_of_shaped h)
variable {M : Mu} {R : V → Hp → Mu → Prop}
theorem wr_neSame {x y : V} {d : PyData} (h : Dp K B x d) (h' : Dp K B y d) (s : SeqAt.shaped d = true) (k : R (.bl false) B M) : wR (rNeD K) x y B M R := wr_neD h h' s s (by rw [eqv_same s]; exact k)
theorem wr_eqSame {x y : V} {d : PyData} (h : Dp K B x d) (h' : Dp K B y d) (s : SeqAt.shaped d = true) (k : R (.bl true) B M) : wR (rEqD K) x y B M R := wr_eqD h h' s s (by rw [eqv_same s]; exact k)
end
theorem lock_names {ms : List Int} {ts : List Told} {ks : List Kd} {ys : List Str} {x : Str × Nat × Nat} (h : x ∈ lockM ms ts ks ys) : x.1 ∈ ys := by
  unfold lockM at h
  obtain ⟨z, hz, h⟩ := List.mem_flatMap.mp h
  obtain ⟨p, _, rfl⟩ := List.mem_map.mp h
  exact hz
/-- a plan moved -/
def mvE (d : Int) (es : List (Int × Told)) : List (Int × Told) := es.map fun e => (e.1 + d, e.2)
theorem mvE_ms {d : Int} {es : List (Int × Told)} : (mvE d es).map (·.1) = mv d (es.map (·.1)) := by
  unfold mvE mv
  rw [List.map_map, List.map_map]
  rfl
theorem mvE_ts {d : Int} {es : List (Int × Told)} : (mvE d es).map (·.2) = es.map (·.2) := by
  unfold mvE
  rw [List.map_map]
  rfl
theorem mvE_len {d : Int} {es : List (Int × Told)} : (mvE d es).length = es.length := List.length_map ..
/-- a held range is not empty -/
theorem held_some {es : List (Int × Told)} (h : EdsOk es) {L : Int} (hL : 1 ≤ L) {n : Nat} (hn : n < es.length) : heldR (es.map (·.1)) L n = some ((es.map (·.1)).getD n 0, lastH (es.map (·.1)) L n) := by
  unfold heldR lastH
  rw [List.length_map]
  by_cases c : n + 1 = es.length
  · rw [if_pos c]
    rfl
  · rw [if_neg c]
    have inc := h.inc n (es[n]'hn) (es[n + 1]'(by omega)) (List.getElem?_eq_getElem hn) (List.getElem?_eq_getElem (by omega))
    have g1 : (es.map (·.1)).getD n 0 = (es[n]'hn).1 := by simp [List.getD_eq_getElem?_getD, hn]
    have g2 : (es.map (·.1)).getD (n + 1) 0 = (es[n + 1]'(by omega)).1 := by simp [List.getD_eq_getElem?_getD, show n + 1 < es.length by omega]
    unfold mkR
    dsimp only
    rw [g1, g2, if_neg (by omega)]
theorem held_lim {es : List (Int × Told)} (h : EdsOk es) {L : Int} (hL : 1 ≤ L) (hL2 : L ≤ 1 + 12 * 10 ^ 30) {n : Nat} (hn : n < es.length) {d : Int} (d0 : 0 ≤ d) (d1 : d ≤ 10 ^ 40) : Lim d ∧ Lim ((es.map (·.1)).getD n 0 + d) ∧ ∀ y, lastH (es.map (·.1)) L n = some y → Lim (y + d) := by
  have g : ∀ i, (hi : i < es.length) → 0 ≤ (es.map (·.1)).getD i 0 ∧ (es.map (·.1)).getD i 0 ≤ 10 ^ 40 := fun i hi => by
    have e : (es.map (·.1)).getD i 0 = (es[i]'hi).1 := by simp [List.getD_eq_getElem?_getD, hi]
    rw [e]
    exact h.mom _ (List.getElem_mem hi)
  have a := g n hn
  refine ⟨⟨by omega, by omega⟩, ⟨by omega, by omega⟩, fun y hy => ?_⟩
  unfold lastH at hy
  rw [List.length_map] at hy
  by_cases c : n + 1 = es.length
  · rw [if_pos c] at hy
    cases hy
  · rw [if_neg c] at hy
    have b := g (n + 1) (by omega)
    rw [← Option.some.inj hy]
    exact ⟨by omega, by omega⟩
end Ab
/-! ## D32 -/
set_option Elab.async false
set_option linter.all false
set_option maxRecDepth 100000
set_option maxHeartbeats 4000000
namespace Ab
open PySem L2 PyProof.Rows
open Evl (Ex)
local macro_rules | `(tactic| trivial) => `(tactic| first
  | ((with_reducible apply w_var); exact rfl)
  | with_reducible refine w_c ?_ | with_reducible refine w_cons ?_ | with_reducible refine w_nil ?_ | with_reducible refine w_op ?_ | with_reducible refine w_cb ?_ | with_reducible refine w_call ?_ | with_reducible refine w_test ?_ | with_reducible refine w_B ?_
  | with_reducible refine bX ?_ | with_reducible refine bT ?_ | with_reducible refine bF ?_ | with_reducible refine zN ?_ | with_reducible refine zI ?_ | with_reducible refine zS ?_ | with_reducible refine zR ?_ | with_reducible refine zN' ?_ | with_reducible refine zI' ?_ | with_reducible refine zS' ?_ | with_reducible refine zR' ?_ | with_reducible refine bnT ?_ | with_reducible refine bnF ?_ | with_reducible refine w_and ?_ | with_reducible refine w_or ?_ | with_reducible refine w_not ?_ | with_reducible refine w_andV ?_ | with_reducible refine w_orV ?_
  | with_reducible refine w_notV ?_ | with_reducible refine w_if ?_ | with_reducible refine w_chain ?_ | with_reducible refine w_un ?_ | with_reducible refine wr_I0 ?_ | with_reducible refine wu_I ?_ | with_reducible refine wr_isN ?_ | with_reducible refine wr_notN ?_
  | with_reducible refine wr_eq rfl ?_ | with_reducible refine wr_ne rfl ?_ | with_reducible refine w_yes ?_ | with_reducible refine w_tup ?_ | with_reducible refine w_lst ?_ | with_reducible refine s_ret ?_ | with_reducible refine s_retN ?_
  | with_reducible refine s_seq ?_ | with_reducible refine s_if ?_ | with_reducible refine s_set ?_ | with_reducible refine s_dput ?_ | with_reducible refine s_app ?_ | with_reducible refine s_drop ?_ | with_reducible refine s_next ?_ | with_reducible refine s_par ?_ | with_reducible refine s_par3 ?_ | with_reducible refine s_asg ?_
  | with_reducible refine g_name ?_ | with_reducible refine gs_nil ?_ | with_reducible refine gs_cons ?_ | with_reducible refine wi_int_int ?_ | with_reducible refine wi_int_bool ?_ | with_reducible refine wi_str_str ?_ | with_reducible refine w_fld ?_ | with_reducible refine w_meth ?_ | with_reducible refine w_prop ?_ | with_reducible refine w_make ?_ | with_reducible refine w_makeK ?_ | with_reducible refine w_methN ?_ | with_reducible refine w_callN ?_ | with_reducible refine w_dget ?_ | with_reducible refine w_din ?_ | with_reducible refine w_dnin ?_ | with_reducible refine s_fld ?_ | with_reducible refine w_sl ?_ | with_reducible refine w_part ?_
  | with_reducible refine w_noPart ?_ | with_reducible refine iX ?_)

section
variable {P : Program} {w : World} {K : PySem.W.Frag} {mg : Str → Option Value} {base : Heap}
open Gap
theorem mk_held {es : List (Int × Told)} (h : EdsOk es) {L : Int} (hL : 1 ≤ L) {n : Nat} (hn : n < es.length) : mkR ((es.map (·.1)).getD n 0) (lastH (es.map (·.1)) L n) = some ((es.map (·.1)).getD n 0, lastH (es.map (·.1)) L n) := held_some h hL hn
def S__law_moved_right (K : PySem.W.Frag) : Spc := fun vs B M R => ∃ (v u : V) (a kd rd nl : Addr) (es : List (Int × Told)) (ks : List Kd) (cs : List Cl) (zs : List Str) (d : Int) (u1 u2 : Unit), vs = [v, .ref a, u, .ref nl, .int d] ∧ PlanV K B v es ∧ EdsOk es ∧ PlanV K B u (mvE d es) ∧ EdsOk (mvE d es) ∧ FleetAt K B M a kd rd ks cs ∧ FlOk ks cs ∧ Fits es cs ∧ Fits (mvE d es) cs ∧
  B nl = some (.lst (zs.map V.str)) ∧ (∀ z ∈ zs, z ∈ ks.map Kd.name) ∧ 0 ≤ d ∧ d ≤ 10 ^ 40 ∧ ∀ B1, Ex B B1 → R (.bl true) B1 M
theorem sc__law_moved_right : FnScope ["_law_plan_here", "_law_fleet_here", "_law_other", "_law_names", "_law_distance", "_law_name", "_law_number"] ["_law_plan_here", "_law_fleet_here", "_law_other", "_law_names", "_law_distance"] (defScope (top 86)) := ⟨rfl, rfl, rfl, by decide +kernel, rfl, by decide +kernel, by decide +kernel⟩
theorem okg__law_moved_right (T : Tx K mg) : CalG P w K mg base 20 "_law_moved_right" (S__law_moved_right K) := by
  have nd := sc__law_moved_right.nd
  obtain ⟨fdR, FR, GR⟩ := okg_refusals (P := P) (w := w) (base := base) T
  refine calOfG (k := 19) (S := S__law_moved_right K) T.d__law_moved_right T.g__law_moved_right sc__law_moved_right (fun _ _ _ _ _ _ us hl => match us, hl with | [_, _, _, _, _], _ => rfl) (fun vs B M R ⟨_, _, _, _, _, _, _, _, _, _, _, _, _, e, _⟩ => by rw [e] <;> rfl) fun cdv A outer s H hr => ?_
  have hu := hu_of hr
  refine ⟨_, (pssG_cons (psG_if (ptG_or (ptG_cmpR (op_neD hr.units) (peG_list (pgenA_call GR (hr.mono (by decide)) (by rfl) T.g_refusals FR.kp (FR.bindsN (fun _ _ _ _ _ _ us hl => match us, hl with | [_, _], _ => rfl)) (pa_cons (pv 0) (pa_cons (pv 1) pa_nil))) (hr.mono (by decide)) (by rfl) T.f_list (by decide +kernel)) (peG_list (pgenA_call GR (hr.mono (by decide)) (by rfl) T.g_refusals FR.kp (FR.bindsN (fun _ _ _ _ _ _ us hl => match us, hl with | [_, _], _ => rfl)) (pa_cons (pv 2) (pa_cons (pv 1) pa_nil))) (hr.mono (by decide)) (by rfl) T.f_list (by decide +kernel)) (nomark _)) (pw_or1 (pt_cmpR (op_neD hr.units) (C8.pe_c (ok_lockouts T) hr (by decide) (by rfl) (pa_cons (pv 0) (pa_cons (pv 1) pa_nil))) (C8.pe_c (ok_lockouts T) hr (by decide) (by rfl) (pa_cons (pv 2) (pa_cons (pv 1) pa_nil))) (nomark _))))
    (pssG_up (pss_one (ps_ret pe_bl)))
    (pssG_up pss_nil))
    (pssG_up (pss_cons (ps_for PassesOwn.never rfl (pi_list (pv 3)) (pg_name (i := 5) nd rfl (Or.inl rfl))
      (pss_cons (ps_if (pt_cmpR (op_neD hr.units) (C8.pe_c (ok_jumps T) hr (by decide) (by rfl) (pa_cons (pv 0) (pa_cons (pv 1) (pa_cons (pv 5) pa_nil)))) (C8.pe_c (ok_jumps T) hr (by decide) (by rfl) (pa_cons (pv 2) (pa_cons (pv 1) (pa_cons (pv 5) pa_nil)))) (nomark _))
        (pss_one (ps_ret pe_bl))
        pss_nil)
      (pss_one (ps_for PassesOwn.never rfl (pi_range1 (by rfl) T.f_range (pa_cons (pe_callB (call_ownLen (ok_Plan___len__ T) hr (by decide)) (by rfl) T.f_len (by decide +kernel) (pa_cons (pv 0) pa_nil)) pa_nil)) (pg_name (i := 6) nd rfl (Or.inl rfl))
        (pss_one (ps_if (pt_cmpR (op_ownNe (ok_Range___eq__ T) T.s_Range.hm (He.eqO_ok (T.ex 6 (by rfl))) hr (by decide)) (C8.pe_c (ok_held_range T) hr (by decide) (by rfl) (pa_cons (pv 2) (pa_cons (pv 1) (pa_cons (pv 5) (pa_cons (pv 6) pa_nil))))) (pe_op (op_ownAddI (ok_Range___add__ T) (T.ex 7 (by rfl)) (He.eqO_ok (T.ex 8 (by rfl))) (T.ex 9 (by rfl)) (T.ex 10 (by rfl)) (of_decide_eq_true (T.ex 11 (by rfl))) hr (by decide)) (C8.pe_c (ok_held_range T) hr (by decide) (by rfl) (pa_cons (pv 0) (pa_cons (pv 1) (pa_cons (pv 5) (pa_cons (pv 6) pa_nil))))) (pv 4)) (nomark _))
          (pss_one (ps_ret pe_bl))
          pss_nil))))))
    (pss_one (ps_ret pe_bl))))), ?_⟩
  rintro vs B M R ⟨v, u, a, kd, rd, nl, es, ks, cs, zs, d, _, _, rfl, p1, eo, p2, eo2, fl, fo, fi, fi2, hnl, hzs, d0, d1, k⟩
  have hm := eo.most
  have hf := eo.few
  repeat trivial
  refine w_listA ?_
  repeat trivial
  refine ⟨v, a, kd, rd, es, ks, cs, ⟨⟩, rfl, p1, eo, fl, fo, fi, fun B1 ys1 e1 hys1 q1 q1B q1M => ?_⟩
  have x1 := exNew (o := .lst ys1) q1B
  have e2 := e1.trans x1
  repeat trivial
  refine w_listA ?_
  repeat trivial
  refine ⟨u, a, kd, rd, mvE d es, ks, cs, ⟨⟩, rfl, p2.ex e2, eo2, fl.mx e2 (fun _ _ h => h), fo, fi2, fun B2 ys2 e3 hys2 q2 q2B q2M => ?_⟩
  rw [mvE_ms, mvE_ts, refM_mv] at hys2
  have x2 := exNew (o := .lst ys2) q2B
  have e4 := (e2.trans e3).trans x2
  refine wr_neSame (dp_refs ((e3.trans x2) _ _ upd_same) (f2_mono (fun _ _ w => w.ex ((x1.trans e3).trans x2)) hys1)) (dp_refs upd_same (f2_mono (fun _ _ w => w.ex x2) hys2)) (fit_map fun _ _ => fit_ref) ?_
  repeat trivial
  refine ⟨v, a, kd, rd, es, ks, cs, ⟨⟩, rfl, p1.ex e4, eo, fl.mx e4 (fun _ _ h => h), fo, fi, fun n1 B3 r1 w1 hn1 sn1 e5 hr1 hw1 => ?_⟩
  have e6 := e4.trans e5
  repeat trivial
  refine ⟨u, a, kd, rd, mvE d es, ks, cs, ⟨⟩, rfl, p2.ex e6, eo2, fl.mx e6 (fun _ _ h => h), fo, fi2, fun n2 B4 r2 w2 hn2 sn2 e7 hr2 hw2 => ?_⟩
  rw [mvE_ms, mvE_ts, lockM_mv, ← sorted_uniq sn1 sn2 (hn1.trans hn2.symm)] at hw2
  refine wr_neSame (dp_locks (e7 _ _ hr1) (f2_mono (fun _ _ w => w.ex e7) hw1)) (dp_locks hr2 hw2) (fit_map fun x hx => fit_lock (fo.wd (hn1.mem_iff.mp (lock_names hx)))) ?_
  have e8 := e6.trans e7
  repeat trivial
  refine s_for (i_list ?_)
  repeat trivial
  refine ⟨nl, _, rfl, .of (e8 _ _ hnl), _, _, _, wb_list (.of (e8 _ _ hnl)), fun i σ' B' M' => (∃ u1 u2, σ' = [some v, some (.ref a), some u, some (.ref nl), some (.int d), u1, u2]) ∧ Ex B4 B' ∧ M' = M, ⟨⟨_, _, rfl⟩, Ex.refl _, rfl⟩, fun i σ' B' M' _ h => ⟨h.2.1, True.intro⟩, ?_, ?_⟩
  · rintro i x σ' B' M' B5 hi ⟨⟨u1, u2, rfl⟩, e9, rfl⟩ e10 hx
    rw [List.getElem?_map] at hx
    obtain ⟨z, hz, rfl⟩ := Option.map_eq_some_iff.mp hx
    have hzn := hzs z (List.mem_of_getElem? hz)
    have e11 := (e8.trans e9).trans e10
    repeat trivial
    refine ⟨v, a, kd, rd, es, ks, cs, z, rfl, p1.ex e11, eo, fl.mx e11 (fun _ _ h => h), fo, fi, hzn, fun B6 j1 jv1 e12 hj1 hjv1 => ?_⟩
    have e13 := e11.trans e12
    repeat trivial
    refine ⟨u, a, kd, rd, mvE d es, ks, cs, z, rfl, p2.ex e13, eo2, fl.mx e13 (fun _ _ h => h), fo, fi2, hzn, fun B7 j2 jv2 e14 hj2 hjv2 => ?_⟩
    rw [mvE_ms, jumpsM_mv] at hjv2
    refine wr_neSame (dp_pairs (e14 _ _ hj1) (f2_mono (fun _ _ w => w.ex e14) hjv1)) (dp_pairs hj2 hjv2) (fit_map fun _ _ => fit_pair) ?_
    have e15 := e13.trans e14
    obtain ⟨pb, pbx, ptp, pus, rfl, hp2, hp3, hp4⟩ := id p1
    repeat trivial
    refine s_for (i_rng1 ?_)
    repeat trivial
    refine wc_ownLen (e15 _ _ hp2) ⟨_, es, rfl, p1.ex e15, _, rfl, by omega, by omega, ?_⟩
    repeat trivial
    refine ⟨_, rfl, by omega, by omega, _, _, _, wb_range, fun i σ' B' M'' => (∃ u2, σ' = [some (.ref pb), some (.ref a), some u, some (.ref nl), some (.int d), some (.str z), u2]) ∧ Ex B7 B' ∧ M'' = M', ⟨⟨_, rfl⟩, Ex.refl _, rfl⟩, fun i σ' B' M' _ h => ⟨h.2.1, True.intro⟩, ?_, ?_⟩
    · rintro j x σ' B8 M8 B9 hj ⟨⟨u2, rfl⟩, e16, rfl⟩ e17 rfl
      have e18 := (e15.trans e16).trans e17
      have hjn : j < es.length := by omega
      have lb := fo.late_b hzn
      obtain ⟨l1, l2, l3⟩ := held_lim eo lb.1 lb.2 hjn d0 d1
      repeat trivial
      refine ⟨u, a, kd, rd, mvE d es, ks, cs, z, j, by rw [Int.zero_add] <;> rfl, p2.ex e18, eo2, fl.mx e18 (fun _ _ h => h), fo, fi2, hzn, by rw [mvE_len]; exact hjn, fun B10 hv1 e19 hhv1 => ?_⟩
      rw [mvE_ms, heldR_mv (by rw [List.length_map]; exact hjn)] at hhv1
      have e20 := e18.trans e19
      repeat trivial
      refine ⟨_, a, kd, rd, es, ks, cs, z, j, by rw [Int.zero_add] <;> rfl, p1.ex e20, eo, fl.mx e20 (fun _ _ h => h), fo, fi, hzn, hjn, fun B11 hv2 e21 hhv2 => ?_⟩
      rw [held_some eo lb.1 hjn] at hhv2 hhv1
      obtain ⟨ra, rdx, rp, rfl, hra, hrp⟩ := id hhv2
      repeat trivial
      refine wr_ownAddI hra ⟨_, d, _, _, ⟨⟩, rfl, hhv2, l1, l2, l3, fun B12 hv3 e22 hhv3 => ?_⟩
      obtain ⟨rc, rcx, rcp, rfl, hrc, hrcp⟩ := id hhv3
      obtain ⟨re, rex, rep, rfl, hre, hrep⟩ := id (hhv1.ex (e21.trans e22))
      refine ⟨⟨_, rfl⟩, ?_⟩
      refine wr_ownNe hre hrc ⟨_, _, _, rfl, hhv1.ex (e21.trans e22), ?_, true, rfl, ?_⟩
      · rw [mkR_mv, mk_held eo lb.1 hjn] at hhv3
        exact hhv3
      · repeat trivial
        refine ⟨⟨_, rfl⟩, ((e16.trans e17).trans (e19.trans e21)).trans e22, rfl⟩
    · rintro σ' B8 M8 ⟨⟨u2, rfl⟩, e16, rfl⟩
      exact ⟨⟨_, _, rfl⟩, (((e9.trans e10).trans e12).trans e14).trans e16, rfl⟩
  · rintro σ' B' M' ⟨⟨u1, u2, rfl⟩, e9, rfl⟩
    repeat trivial
    exact k _ (e8.trans e9)
end
end Ab
/-! ## D33 -/
set_option Elab.async false
set_option linter.all false
set_option maxRecDepth 100000
set_option maxHeartbeats 4000000
namespace Ab
open PySem L2 PyProof.Rows
open Evl (Ex)
local macro_rules | `(tactic| trivial) => `(tactic| first
  | ((with_reducible apply w_var); exact rfl)
  | with_reducible refine w_c ?_ | with_reducible refine w_cons ?_ | with_reducible refine w_nil ?_ | with_reducible refine w_op ?_ | with_reducible refine w_cb ?_ | with_reducible refine w_call ?_ | with_reducible refine w_test ?_ | with_reducible refine w_B ?_
  | with_reducible refine bX ?_ | with_reducible refine bT ?_ | with_reducible refine bF ?_ | with_reducible refine zN ?_ | with_reducible refine zI ?_ | with_reducible refine zS ?_ | with_reducible refine zR ?_ | with_reducible refine zN' ?_ | with_reducible refine zI' ?_ | with_reducible refine zS' ?_ | with_reducible refine zR' ?_ | with_reducible refine bnT ?_ | with_reducible refine bnF ?_ | with_reducible refine w_and ?_ | with_reducible refine w_or ?_ | with_reducible refine w_not ?_ | with_reducible refine w_andV ?_ | with_reducible refine w_orV ?_
  | with_reducible refine w_notV ?_ | with_reducible refine w_if ?_ | with_reducible refine w_chain ?_ | with_reducible refine w_un ?_ | with_reducible refine wr_I0 ?_ | with_reducible refine wu_I ?_ | with_reducible refine wr_isN ?_ | with_reducible refine wr_notN ?_
  | with_reducible refine wr_eq rfl ?_ | with_reducible refine wr_ne rfl ?_ | with_reducible refine w_yes ?_ | with_reducible refine w_tup ?_ | with_reducible refine w_lst ?_ | with_reducible refine s_ret ?_ | with_reducible refine s_retN ?_
  | with_reducible refine s_seq ?_ | with_reducible refine s_if ?_ | with_reducible refine s_set ?_ | with_reducible refine s_dput ?_ | with_reducible refine s_app ?_ | with_reducible refine s_drop ?_ | with_reducible refine s_next ?_ | with_reducible refine s_par ?_ | with_reducible refine s_par3 ?_ | with_reducible refine s_asg ?_
  | with_reducible refine g_name ?_ | with_reducible refine gs_nil ?_ | with_reducible refine gs_cons ?_ | with_reducible refine wi_int_int ?_ | with_reducible refine wi_int_bool ?_ | with_reducible refine wi_str_str ?_ | with_reducible refine w_fld ?_ | with_reducible refine w_meth ?_ | with_reducible refine w_prop ?_ | with_reducible refine w_make ?_ | with_reducible refine w_makeK ?_ | with_reducible refine w_methN ?_ | with_reducible refine w_callN ?_ | with_reducible refine w_dget ?_ | with_reducible refine w_din ?_ | with_reducible refine w_dnin ?_ | with_reducible refine s_fld ?_ | with_reducible refine w_sl ?_ | with_reducible refine w_part ?_
  | with_reducible refine w_noPart ?_ | with_reducible refine iX ?_)

section
variable {P : Program} {w : World} {K : PySem.W.Frag} {mg : Str → Option Value} {base : Heap}
open Gap
theorem flat_len {α β : Type} {f : α → List β} {b : Nat} : ∀ {l : List α}, (∀ x ∈ l, (f x).length ≤ b) → (l.flatMap f).length ≤ l.length * b
  | [], _ => Nat.zero_le _
  | x :: l, h => by
    have h1 := h x List.mem_cons_self
    have h2 := flat_len (l := l) fun y hy => h y (List.mem_cons_of_mem _ hy)
    rw [List.flatMap_cons, List.length_append, List.length_cons, Nat.add_mul]
    omega
theorem refM_len {ms : List Int} {ts : List Told} {ks : List Kd} {cs : List Cl} : (refM ms ts ks cs).length ≤ cs.length * (ms.length * ms.length) := by
  have z : (refM ms ts ks cs).length ≤ cs.zipIdx.length * (ms.length * ms.length) := flat_len fun x _ => by
    rw [List.length_map, ← pairsAll_len]
    exact List.length_filter_le ..
  rwa [List.length_zipIdx] at z
theorem pairsUp_len {n : Nat} : (pairsUp n).length ≤ n * n := by
  have z : (pairsUp n).length ≤ (List.range n).length * n := flat_len fun x _ => by
    rw [List.length_map, List.length_range]
    omega
  rwa [List.length_range] at z
theorem lockM_len {ms : List Int} {ts : List Told} {ks : List Kd} {ys : List Str} : (lockM ms ts ks ys).length ≤ ys.length * (ms.length * ms.length) := flat_len fun x _ => by
  rw [List.length_map]
  refine Nat.le_trans (List.length_filter_le ..) ?_
  unfold jumpsM
  exact Nat.le_trans (List.length_filter_le ..) pairsUp_len
theorem hu65_of {k : Nat} {A : Around} (hr : Room k A) : A.units + 65 < cLine := by
  have := hr.un
  omega
theorem any_mem {d : PyData} {xs : List PyData} (h : d ∈ xs) (s : SeqAt.shaped d = true) : (xs.any fun z => PyData.eqv z d) = true := List.any_eq_true.mpr ⟨d, h, eqv_same s⟩
theorem cut_ms {es : List (Int × Told)} {n : Nat} : (es.take n).map (·.1) = (es.map (·.1)).take n := List.map_take
theorem cut_ts {es : List (Int × Told)} {n : Nat} : (es.take n).map (·.2) = (es.map (·.2)).take n := List.map_take
def S__law_cut_right (K : PySem.W.Frag) : Spc := fun vs B M R => ∃ (v : V) (a kd rd : Addr) (es : List (Int × Told)) (ks : List Kd) (cs : List Cl) (n : Nat) (u1 : Unit), vs = [v, .ref a, .int n] ∧ PlanV K B v es ∧ EdsOk es ∧ FleetAt K B M a kd rd ks cs ∧ FlOk ks cs ∧ Fits es cs ∧ n < es.length ∧ ∀ B1, Ex B B1 → R (.bl true) B1 M
theorem sc__law_cut_right : FnScope ["_law_plan_here", "_law_fleet_here", "_law_number", "_law_few", "_law_every", "_law_one"] ["_law_plan_here", "_law_fleet_here", "_law_number"] (defScope (top 87)) := ⟨rfl, rfl, rfl, by decide +kernel, rfl, by decide +kernel, by decide +kernel⟩
theorem okg__law_cut_right (T : Tx K mg) : CalG P w K mg base 20 "_law_cut_right" (S__law_cut_right K) := by
  have nd := sc__law_cut_right.nd
  obtain ⟨fdR, FR, GR⟩ := okg_refusals (P := P) (w := w) (base := base) T
  refine calOfG (k := 19) (S := S__law_cut_right K) T.d__law_cut_right T.g__law_cut_right sc__law_cut_right (fun _ _ _ _ _ _ us hl => match us, hl with | [_, _, _], _ => rfl) (fun vs B M R ⟨_, _, _, _, _, _, _, _, _, e, _⟩ => by rw [e] <;> rfl) fun cdv A outer s H hr => ?_
  have hu := hu_of hr
  have hu65 := hu65_of hr
  refine ⟨_, (pssG_cons (psG_asg (peG_pair (peG_list (pgenA_call GR (hr.mono (by decide)) (by rfl) T.g_refusals FR.kp (FR.bindsN (fun _ _ _ _ _ _ us hl => match us, hl with | [_, _], _ => rfl)) (pa_cons (C8.pe_mt (ok_Plan_cut T) hr (by decide) (pv 0) (pa_cons (pv 2) pa_nil)) (pa_cons (pv 1) pa_nil))) (hr.mono (by decide)) (by rfl) T.f_list (by decide +kernel)) (peG_list (pgenA_call GR (hr.mono (by decide)) (by rfl) T.g_refusals FR.kp (FR.bindsN (fun _ _ _ _ _ _ us hl => match us, hl with | [_, _], _ => rfl)) (pa_cons (pv 0) (pa_cons (pv 1) pa_nil))) (hr.mono (by decide)) (by rfl) T.f_list (by decide +kernel))) (pg_tup rfl (pgs_cons (pg_name (i := 3) nd rfl (Or.inr rfl)) (pgs_cons (pg_name (i := 4) nd rfl (Or.inr rfl)) pgs_nil))))
    (pssG_up (pss_cons (ps_if (pt_cmpR (op_neD hr.units) (pe_lc (own := [("_law_one", 5)]) (g := gName 5) rfl nd (pi_list (pv 4)) (blkOk_by (own := [("_law_one", 5)]) (N := ["_law_plan_here", "_law_fleet_here", "_law_number", "_law_few", "_law_every", "_law_one"]) (sc := defScope (top 87)) (by decide +kernel)) (fun _ _ _ _ _ => (pg_name (i := 5) nd rfl (Or.inl rfl))) (fun _ _ _ _ _ => (pts_one ((pw_and (pt_cmpR op_lt (pe_callB (call_max2 rfl) (by rfl) T.f_max (by decide +kernel) (pa_cons (pe_ix (ix_tupK (K := K) rfl) (pv 5) pe_int (fun _ _ => rfl)) (pa_cons (pe_ix (ix_tupK (K := K) rfl) (pv 5) pe_int (fun _ _ => rfl)) pa_nil))) (pv 2) (nomark _)) (pw_and1 (pt_cmpR (op_notInDK (K := K) rfl hu65) (pv 5) (pv 3) (by with_unfolding_all rfl))))).pt)) (fun _ _ _ _ _ => (pv 5))) (pe_lst pa_nil) (nomark _))
      (pss_one (ps_ret pe_bl))
      pss_nil)
    (pss_cons (ps_if (pt_cmpR (op_neD hr.units) (pe_lc (own := [("_law_one", 5)]) (g := gName 5) rfl nd (pi_list (pv 3)) (blkOk_by (own := [("_law_one", 5)]) (N := ["_law_plan_here", "_law_fleet_here", "_law_number", "_law_few", "_law_every", "_law_one"]) (sc := defScope (top 87)) (by decide +kernel)) (fun _ _ _ _ _ => (pg_name (i := 5) nd rfl (Or.inl rfl))) (fun _ _ _ _ _ => (pts_one ((pw_and (pt_cmpR op_lt (pe_callB (call_max2 rfl) (by rfl) T.f_max (by decide +kernel) (pa_cons (pe_ix (ix_tupK (K := K) rfl) (pv 5) pe_int (fun _ _ => rfl)) (pa_cons (pe_ix (ix_tupK (K := K) rfl) (pv 5) pe_int (fun _ _ => rfl)) pa_nil))) (pv 2) (nomark _)) (pw_and1 (pt_cmpR (op_notInDK (K := K) rfl hu65) (pv 5) (pv 4) (by with_unfolding_all rfl))))).pt)) (fun _ _ _ _ _ => (pv 5))) (pe_lst pa_nil) (nomark _))
      (pss_one (ps_ret pe_bl))
      pss_nil)
    (pss_one (ps_ret (pe_cmpR (op_eqD hr.units) (pe_lc (own := [("_law_one", 5)]) (g := gName 5) rfl nd (pi_list (C8.pe_c (ok_lockouts T) hr (by decide) (by rfl) (pa_cons (pv 0) (pa_cons (pv 1) pa_nil)))) (blkOk_by (own := [("_law_one", 5)]) (N := ["_law_plan_here", "_law_fleet_here", "_law_number", "_law_few", "_law_every", "_law_one"]) (sc := defScope (top 87)) (by decide +kernel)) (fun _ _ _ _ _ => (pg_name (i := 5) nd rfl (Or.inl rfl))) (fun _ _ _ _ _ => (pts_one (pt_cmpR op_le (pe_ix (ix_tupK (K := K) rfl) (pv 5) pe_int (fun _ _ => rfl)) (pv 2) (nomark _)))) (fun _ _ _ _ _ => (pv 5))) (C8.pe_c (ok_lockouts T) hr (by decide) (by rfl) (pa_cons (C8.pe_mt (ok_Plan_cut T) hr (by decide) (pv 0) (pa_cons (pv 2) pa_nil)) (pa_cons (pv 1) pa_nil))) (nomark _)))))))), ?_⟩
  rintro vs B M R ⟨v, a, kd, rd, es, ks, cs, n, _, rfl, plv, eo, fl, fo, fi, hn, k⟩
  have hm := eo.most
  have hf := eo.few
  have eo2 := eo.take (n := n + 1) (by omega)
  have fi2 : Fits (es.take (n + 1)) cs := fun c hc e he => fi c hc e (List.mem_of_mem_take he)
  obtain ⟨pb, pbx, ptp, pus, rfl, hp2, hp3, hp4⟩ := id plv
  repeat trivial
  refine w_listA ?_
  repeat trivial
  refine ⟨pb, pbx, _, rfl, hp2, (lk_past (by decide +kernel)).trans rfl, ?_⟩
  repeat trivial
  refine ⟨_, es, n, rfl, plv, eo, hn, fun B1 u e1 hu1 => ?_⟩
  repeat trivial
  refine ⟨u, a, kd, rd, es.take (n + 1), ks, cs, ⟨⟩, rfl, hu1, eo2, fl.mx e1 (fun _ _ h => h), fo, fi2, fun B2 ys1 e2 hys1 q1 q1B q1M => ?_⟩
  have x1 := exNew (o := .lst ys1) q1B
  have e3 := (e1.trans e2).trans x1
  repeat trivial
  refine w_listA ?_
  repeat trivial
  refine ⟨_, a, kd, rd, es, ks, cs, ⟨⟩, rfl, plv.ex e3, eo, fl.mx e3 (fun _ _ h => h), fo, fi, fun B3 ys2 e4 hys2 q2 q2B q2M => ?_⟩
  have x2 := exNew (o := .lst ys2) q2B
  repeat trivial
  refine ⟨len2, fun t tB tM => ?_⟩
  have x3 := exNew (o := .tup [V.ref q1, V.ref q2]) tB
  refine g_tup (.of upd_same) rfl (gs_cons (g_name (gs_cons (g_name (gs_nil ?_)))))
  have e5 := (e4.trans x2).trans x3
  have e6 := e3.trans e5
  have f1 : upd (upd B3 q2 (.lst ys2)) t (.tup [V.ref q1, V.ref q2]) q1 = some (.lst ys1) := e5 _ _ upd_same
  have f2 : upd (upd B3 q2 (.lst ys2)) t (.tup [V.ref q1, V.ref q2]) q2 = some (.lst ys2) := x3 _ _ upd_same
  have g1 := f2_mono (fun _ _ w => RefV.ex (x1.trans e5) w) hys1
  have g2 := f2_mono (fun _ _ w => RefV.ex (x2.trans x3) w) hys2
  rw [cut_ms, cut_ts] at g1
  generalize upd (upd B3 q2 (.lst ys2)) t (.tup [V.ref q1, V.ref q2]) = B4 at *
  have hml : n < (es.map (·.1)).length := by rw [List.length_map]; exact hn
  have hc6 := fo.cl
  have hk5 := fo.few
  have y1l := f2_len g1
  have y2l := f2_len g2
  have r1l := refM_len (ms := (es.map (·.1)).take (n + 1)) (ts := (es.map (·.2)).take (n + 1)) (ks := ks) (cs := cs)
  have r2l := refM_len (ms := es.map (·.1)) (ts := es.map (·.2)) (ks := ks) (cs := cs)
  rw [List.length_take, List.length_map] at r1l
  rw [List.length_map] at r2l
  have b49 : es.length * es.length ≤ 7 * 7 := Nat.mul_le_mul hm hm
  have b49' : min (n + 1) es.length * min (n + 1) es.length ≤ 7 * 7 := Nat.mul_le_mul (by omega) (by omega)
  have b294 : cs.length * (es.length * es.length) ≤ 6 * 49 := Nat.mul_le_mul hc6 b49
  have b294' : cs.length * (min (n + 1) es.length * min (n + 1) es.length) ≤ 6 * 49 := Nat.mul_le_mul hc6 b49'
  repeat trivial
  refine w_lc (i_list ?_)
  repeat trivial
  refine ⟨q2, _, rfl, .of f2, _, _, _, wb_list (.of f2), by omega, fun i acc _ => acc = [], rfl, fun D hD hM2 => ⟨fun _ => True.intro, ?_, ?_⟩⟩
  · rintro i x acc B' B5 hi hl2 e7 rfl e8 hx
    obtain ⟨y, hy, t1, rfl, ht1⟩ := f2_get g2 hx
    have e9 := e7.trans e8
    have ht2 := e9 _ _ ht1
    repeat trivial
    refine wr_ixT (.of ht2) (v := .int (y.2.1 : Nat)) (by rfl) ?_
    repeat trivial
    refine wr_ixT (.of ht2) (v := .int (y.2.2 : Nat)) (by rfl) ?_
    repeat trivial
    refine wc_max2 ?_
    repeat trivial
    refine bD (fun c => ?_) fun c => ?_
    · have c1 : y.2.1 < n ∧ y.2.2 < n := by split at c <;> omega
      have mem0 := List.mem_of_getElem? hy
      have mem := (mem_cut (x := y) (n := n) (ms := List.map (fun x : Int × Told => x.1) es) (ts := List.map (fun x : Int × Told => x.2) es) (ks := ks) (cs := cs) hml c1.1 c1.2).mpr mem0
      repeat trivial
      refine wr_ninD (dp_ref ⟨t1, rfl, ht2⟩) (dp_refs (e9 _ _ f1) (f2_mono (fun _ _ w => RefV.ex e9 w) g1)) (fit_one fit_ref) (fit_map fun _ _ => fit_ref) ?_
      rw [any_mem (List.mem_map_of_mem mem) (fit_one fit_ref)]
      exact ⟨_, rfl, fun z => (nomatch z), fun _ => ⟨rfl, Ex.refl _, rfl⟩⟩
    · repeat trivial
      exact ⟨rfl, Ex.refl _, rfl⟩
  rintro acc B5 e7 D1n _ rfl
  have x4 := exNew (o := .lst []) D1n
  repeat trivial
  refine ⟨by show 0 ≤ 100000; decide, fun l lB lM => ?_⟩
  have x5 := exNew (o := .lst []) lB
  refine wr_neSame (d := .list []) (.lst (.of (x5 _ _ upd_same)) .nil) (.lst (.of upd_same) .nil) rfl ?_
  have e8 := (e7.trans x4).trans x5
  repeat trivial
  refine w_lc (i_list ?_)
  repeat trivial
  refine ⟨q1, _, rfl, .of (e8 _ _ f1), _, _, _, wb_list (.of (e8 _ _ f1)), by omega, fun i acc _ => acc = [], rfl, fun D hD hM2 => ⟨fun _ => True.intro, ?_, ?_⟩⟩
  · rintro i x acc B' B6 hi hl2 e9 rfl e10 hx
    obtain ⟨y, hy, t1, rfl, ht1⟩ := f2_get g1 hx
    have e11 := (e8.trans e9).trans e10
    have ht2 := e11 _ _ ht1
    repeat trivial
    refine wr_ixT (.of ht2) (v := .int (y.2.1 : Nat)) (by rfl) ?_
    repeat trivial
    refine wr_ixT (.of ht2) (v := .int (y.2.2 : Nat)) (by rfl) ?_
    repeat trivial
    refine wc_max2 ?_
    repeat trivial
    refine bD (fun c => ?_) fun c => ?_
    · have c1 : y.2.1 < n ∧ y.2.2 < n := by split at c <;> omega
      have mem0 := List.mem_of_getElem? hy
      have mem := (mem_cut (x := y) (n := n) (ms := List.map (fun x : Int × Told => x.1) es) (ts := List.map (fun x : Int × Told => x.2) es) (ks := ks) (cs := cs) hml c1.1 c1.2).mp mem0
      repeat trivial
      refine wr_ninD (dp_ref ⟨t1, rfl, ht2⟩) (dp_refs (e11 _ _ f2) (f2_mono (fun _ _ w => RefV.ex e11 w) g2)) (fit_one fit_ref) (fit_map fun _ _ => fit_ref) ?_
      rw [any_mem (List.mem_map_of_mem mem) (fit_one fit_ref)]
      exact ⟨_, rfl, fun z => (nomatch z), fun _ => ⟨rfl, Ex.refl _, rfl⟩⟩
    · repeat trivial
      exact ⟨rfl, Ex.refl _, rfl⟩
  rintro acc B6 e9 D2n _ rfl
  have x6 := exNew (o := .lst []) D2n
  repeat trivial
  refine ⟨by show 0 ≤ 100000; decide, fun l2 l2B l2M => ?_⟩
  have x7 := exNew (o := .lst []) l2B
  refine wr_neSame (d := .list []) (.lst (.of (x7 _ _ upd_same)) .nil) (.lst (.of upd_same) .nil) rfl ?_
  have e10 := ((e8.trans e9).trans x6).trans x7
  have e11 := e6.trans e10
  repeat trivial
  refine w_lc (i_list ?_)
  repeat trivial
  refine ⟨_, a, kd, rd, es, ks, cs, ⟨⟩, rfl, plv.ex e11, eo, fl.mx e11 (fun _ _ h => h), fo, fi, fun n1 B7 r1 w1 hn1 sn1 e12 hr1 hw1 => ?_⟩
  have w1l := f2_len hw1
  have lml := lockM_len (ms := es.map (·.1)) (ts := es.map (·.2)) (ks := ks) (ys := n1)
  rw [List.length_map, hn1.length_eq, List.length_map] at lml
  have b245 : ks.length * (es.length * es.length) ≤ 5 * 49 := Nat.mul_le_mul hk5 b49
  refine ⟨r1, w1, rfl, .of hr1, _, _, _, wb_list (.of hr1), by omega, fun i acc B' => Paired (LockV B') acc (((lockM (es.map (·.1)) (es.map (·.2)) ks n1).take i).filter fun x => decide (x.2.2 ≤ n)), .nil, fun D hD hM2 => ⟨fun _ => True.intro, ?_, ?_⟩⟩
  · rintro i x acc B' B8 hi hl2 e13 hacc e14 hx
    obtain ⟨y, hy, t1, rfl, ht1⟩ := f2_get hw1 hx
    have ht2 := (e13.trans e14) _ _ ht1
    have hacc2 := f2_mono (fun _ _ w => LockV.ex e14 w) hacc
    repeat trivial
    refine wr_ixT (.of ht2) (v := .int (y.2.2 : Nat)) (by rfl) ?_
    repeat trivial
    refine bD (fun c => ?_) fun c => ?_
    · repeat trivial
      exact ⟨rfl, Ex.refl _, f2_keep hy hacc2 ⟨t1, rfl, ht2⟩ (decide_eq_true (by omega))⟩
    · exact ⟨rfl, Ex.refl _, f2_skip hy hacc2 (decide_eq_false (by omega))⟩
  rintro acc B8 e13 D3n _ hacc
  rw [w1l, List.take_length, lock_cut hml] at hacc
  have x8 := exNew (o := .lst acc) D3n
  have e14 := ((e11.trans e12).trans e13).trans x8
  repeat trivial
  refine ⟨pb, pbx, _, rfl, e14 _ _ hp2, (lk_past (by decide +kernel)).trans rfl, ?_⟩
  repeat trivial
  refine ⟨_, es, n, rfl, plv.ex e14, eo, hn, fun B9 u2 e15 hu2 => ?_⟩
  have e16 := e14.trans e15
  repeat trivial
  refine ⟨u2, a, kd, rd, es.take (n + 1), ks, cs, ⟨⟩, rfl, hu2, eo2, fl.mx e16 (fun _ _ h => h), fo, fi2, fun n2 B10 r2 w2 hn2 sn2 e17 hr2 hw2 => ?_⟩
  rw [cut_ms, cut_ts, ← sorted_uniq sn1 sn2 (hn1.trans hn2.symm)] at hw2
  refine wr_eqSame (dp_locks ((e15.trans e17) _ _ upd_same) (f2_mono (fun _ _ w => LockV.ex ((x8.trans e15).trans e17) w) hacc)) (dp_locks hr2 hw2) (fit_map fun x hx => fit_lock (fo.wd (hn1.mem_iff.mp (lock_names hx)))) ?_
  exact k _ (e16.trans e17)
end
end Ab
/-! ## P4 -/
set_option Elab.async false
set_option linter.all false
set_option maxRecDepth 100000
set_option maxHeartbeats 2000000
/-! P4: what the draws give is fit; the names given anew -/
namespace Ab
open PySem L2 PyProof.Rows
/-- the i-th of ws for the i-th of l -/
def zf (l ws : List Str) (z : Str) : Str := match (l.zip ws).find? fun p => decide (p.1 = z) with
  | some p => p.2
  | none => z
section
variable {l ws : List Str} {z : Str}
theorem zf_at : ∀ {l ws : List Str}, l.Nodup → l.length ≤ ws.length → ∀ i, i < l.length → ∃ z, l[i]? = some z ∧ ws[i]? = some (zf l ws z)
  | [], _, _, _, i, hi => absurd hi (Nat.not_lt_zero _)
  | a :: l, [], _, h, _, _ => absurd h (by simp)
  | a :: l, b :: ws, nd, h, 0, _ => ⟨a, rfl, by
    unfold zf
    rw [List.zip_cons_cons, List.find?_cons_of_pos (by simp)]
    rfl⟩
  | a :: l, b :: ws, nd, h, i + 1, hi => by
    obtain ⟨n1, n2⟩ := List.nodup_cons.mp nd
    obtain ⟨z, h1, h2⟩ := zf_at n2 (Nat.le_of_succ_le_succ h) i (Nat.lt_of_succ_lt_succ hi)
    refine ⟨z, h1, ?_⟩
    have ne : ¬ a = z := fun e => n1 (by rw [e]; exact List.mem_of_getElem? h1)
    have e : zf (a :: l) (b :: ws) z = zf l ws z := by
      unfold zf
      rw [List.zip_cons_cons, List.find?_cons_of_neg (by simpa using ne)]
    rw [e]
    exact h2
theorem zf_mem (nd : l.Nodup) (h : l.length ≤ ws.length) (hz : z ∈ l) : ∃ i : Nat, l[i]? = some z ∧ ws[i]? = some (zf l ws z) := by
  obtain ⟨i, hi, e⟩ := List.getElem_of_mem hz
  obtain ⟨y, h1, h2⟩ := zf_at nd h i hi
  rw [List.getElem?_eq_getElem hi, e] at h1
  rw [← Option.some.inj h1] at h2
  exact ⟨i, by rw [List.getElem?_eq_getElem hi, e], h2⟩
theorem zf_in (nd : l.Nodup) (h : l.length ≤ ws.length) (hz : z ∈ l) : zf l ws z ∈ ws := by
  obtain ⟨i, _, h2⟩ := zf_mem nd h hz
  exact List.mem_of_getElem? h2
theorem nodup_at {ws : List Str} (nd : ws.Nodup) {i j : Nat} {z : Str} (hi : ws[i]? = some z) (hj : ws[j]? = some z) : i = j := by
  obtain ⟨h1, e1⟩ := List.getElem?_eq_some_iff.mp hi
  obtain ⟨h2, e2⟩ := List.getElem?_eq_some_iff.mp hj
  have p := List.pairwise_iff_getElem.mp nd
  rcases Nat.lt_trichotomy i j with c | c | c
  · exact absurd (e1.trans e2.symm) (p i j h1 h2 c)
  · exact c
  · exact absurd (e2.trans e1.symm) (p j i h2 h1 c)
theorem zf_inj (nd : l.Nodup) (nw : ws.Nodup) (h : l.length ≤ ws.length) : InjOn (zf l ws) l := by
  intro a ha b hb e
  obtain ⟨i, h1, h2⟩ := zf_mem nd h ha
  obtain ⟨j, h3, h4⟩ := zf_mem nd h hb
  rw [← e] at h4
  have q := nodup_at nw h2 h4
  rw [q, h3] at h1
  exact (Option.some.inj h1).symm
theorem zf_val (nd : l.Nodup) (h : l.length ≤ ws.length) (hz : z ∈ l) : valV ((l.map (Sum.inr : Str → Key)).zip (ws.map V.str)) (.inr z) = some (.str (zf l ws z)) := by
  induction l generalizing ws with
  | nil => exact nomatch hz
  | cons a l ih =>
    cases ws with
    | nil => exact absurd h (by simp)
    | cons b ws =>
      obtain ⟨n1, n2⟩ := List.nodup_cons.mp nd
      by_cases c : a = z
      · have e : zf (a :: l) (b :: ws) z = b := by
          unfold zf
          rw [List.zip_cons_cons, List.find?_cons_of_pos (by simpa using c)]
        rw [e, List.map_cons, List.map_cons, List.zip_cons_cons]
        exact valV_pos (by rw [c])
      · have hz2 : z ∈ l := (List.mem_cons.mp hz).resolve_left fun e => c e.symm
        have e : zf (a :: l) (b :: ws) z = zf l ws z := by
          unfold zf
          rw [List.zip_cons_cons, List.find?_cons_of_neg (by simpa using c)]
        rw [e, ← ih n2 (Nat.le_of_succ_le_succ h) hz2, List.map_cons, List.map_cons, List.zip_cons_cons]
        exact valV_neg fun e => c (Sum.inr.inj e)
end
theorem map_nodup {f : Str → Str} {l : List Str} (inj : InjOn f l) (nd : l.Nodup) : (l.map f).Nodup :=
  List.Pairwise.map _ (fun _ _ h => h) (List.pairwise_iff_getElem.mpr fun i j hi hj hij e => (List.pairwise_iff_getElem.mp nd i j hi hj hij) (inj _ (List.getElem_mem hi) _ (List.getElem_mem hj) e))
section
variable {ks : List Kd} {cs : List Cl} {ms : List Int} {ts : List Told} {ps : List Str} {f g : Str → Str} {d : Int}
theorem closed_of (h : KsOk ks) : Closed ks := fun k hk y e => by
  obtain ⟨i, hi, q⟩ := List.getElem_of_mem hk
  have z := h.src i k (by rw [List.getElem?_eq_getElem hi, q]) y e
  exact (List.Sublist.map Kd.name (List.take_sublist i ks)).subset z
theorem ksOk_ren (h : KsOk ks) (inj : InjOn f (ks.map Kd.name)) (wd : ∀ z ∈ ks.map Kd.name, Wd (f z)) : KsOk (ks.map (renK f)) := by
  refine ⟨?_, fun k hk => ?_, by rw [List.length_map]; exact h.few, fun i k hk z hz => ?_⟩
  · rw [names_ren]
    exact map_nodup inj h.nd
  · obtain ⟨k0, hk0, rfl⟩ := List.mem_map.mp hk
    have o := h.ok k0 hk0
    refine ⟨o.g1, o.g2, o.a, fun z hz => ?_, wd _ (List.mem_map_of_mem hk0)⟩
    obtain ⟨y, hy, rfl⟩ := Option.map_eq_some_iff.mp hz
    exact wd _ (closed_of h k0 hk0 y hy)
  · rw [List.getElem?_map] at hk
    obtain ⟨k0, hk0, rfl⟩ := Option.map_eq_some_iff.mp hk
    obtain ⟨y, hy, rfl⟩ := Option.map_eq_some_iff.mp hz
    rw [← List.map_take, names_ren]
    exact List.mem_map_of_mem (h.src i k0 hk0 y hy)
theorem clOk_ren (h : ClOk ks cs) (wd : ∀ c ∈ cs, Wd (g c.role)) : ClOk (ks.map (renK f)) (cs.map (renC f g)) := by
  have al : ∀ {P : Cl → Prop}, (∀ c ∈ cs, P (renC f g c)) → ∀ c ∈ cs.map (renC f g), P c := fun h c hc => by
    obtain ⟨c0, hc0, rfl⟩ := List.mem_map.mp hc
    exact h c0 hc0
  refine ⟨by rw [List.length_map]; exact h.few, al fun c hc => ?_, al fun c hc => ?_, al fun c hc => h.c3 c hc, al fun c hc => wd c hc⟩
  · rw [names_ren]
    exact List.mem_map_of_mem (h.c1 c hc)
  · rw [names_ren]
    exact List.mem_map_of_mem (h.c2 c hc)
theorem roles_ren {t : Told} : (ren g t).rows.map Row.role = (t.rows.map Row.role).map g := by
  unfold ren
  dsimp only
  rw [List.map_map, List.map_map]
  rfl
theorem toldOk_ren {t : Told} (h : ToldOk t) (inj : InjOn g (t.rows.map Row.role)) (wd : ∀ z ∈ t.rows.map Row.role, Wd (g z)) : ToldOk (ren g t) := by
  have hl : (ren g t).rows.length = t.rows.length := List.length_map ..
  refine ⟨by rw [hl]; exact h.few, by rw [hl]; exact h.most, fun r hr => ?_, ?_, h.vw, h.vn, h.vl, h.least, h.sw⟩
  · obtain ⟨r0, hr0, rfl⟩ := List.mem_map.mp hr
    have o := h.rows r0 hr0
    exact ⟨wd _ (List.mem_map_of_mem hr0), o.likes, o.nd, o.few, o.own⟩
  · rw [roles_ren]
    exact map_nodup inj h.nd
theorem zip_ms (hl : ms.length = ts.length) : (ms.zip ts).map (·.1) = ms := List.map_fst_zip (by omega)
theorem zip_ts (hl : ms.length = ts.length) : (ms.zip ts).map (·.2) = ts := List.map_snd_zip (by omega)
theorem edsOk_zip (hl : ms.length = ts.length) (h1 : 1 ≤ ms.length) (h7 : ms.length ≤ 7) (mom : ∀ i, i < ms.length → 0 ≤ ms.getD i 0 ∧ ms.getD i 0 ≤ 10 ^ 40) (inc : ∀ i, i + 1 < ms.length → ms.getD i 0 < ms.getD (i + 1) 0) (td : ∀ t ∈ ts, ToldOk t) (roles : ∀ t ∈ ts, t.rows.map Row.role = ps) : EdsOk (ms.zip ts) := by
  have hz : (ms.zip ts).length = ms.length := by rw [List.length_zip]; omega
  have at_ : ∀ i e, (ms.zip ts)[i]? = some e → i < ms.length ∧ ms.getD i 0 = e.1 := fun i e h => by
    obtain ⟨q1, q2⟩ := List.getElem?_zip_eq_some.mp h
    exact ⟨(List.getElem?_eq_some_iff.mp q1).1, by rw [List.getD_eq_getElem?_getD, q1] <;> rfl⟩
  have mem : ∀ e ∈ ms.zip ts, e.2 ∈ ts := fun e he => (List.of_mem_zip he).2
  refine ⟨by omega, by omega, fun e he => ?_, fun i e f he hf => ?_, fun e he f hf => by rw [roles _ (mem e he), roles _ (mem f hf)], fun e he => td _ (mem e he)⟩
  · obtain ⟨i, hi, q⟩ := List.getElem_of_mem he
    obtain ⟨a, b⟩ := at_ i e (by rw [List.getElem?_eq_getElem hi, q])
    rw [← b]
    exact mom i a
  · obtain ⟨a, b⟩ := at_ i e he
    obtain ⟨a', b'⟩ := at_ (i + 1) f hf
    rw [← b, ← b']
    exact inc i a'
theorem fits_zip (cr : ∀ c ∈ cs, c.role ∈ ps) (roles : ∀ t ∈ ts, t.rows.map Row.role = ps) : Fits (ms.zip ts) cs := fun c hc e he => by
  rw [roles _ (List.of_mem_zip he).2]
  exact cr c hc
theorem mvE_zip : mvE d (ms.zip ts) = (mv d ms).zip ts := by
  unfold mvE mv
  rw [List.zip_map_left]
  rfl
theorem LargeOk.eds (h : LargeOk ks cs ms ts ps) : EdsOk (ms.zip ts) := edsOk_zip h.len h.few h.most (fun i hi => by have := h.mo.mom i hi; omega) h.mo.inc h.td h.roles
theorem LargeOk.edsMv (h : LargeOk ks cs ms ts ps) (d0 : 0 ≤ d) (d1 : d ≤ 1 + 10 ^ 39) : EdsOk (mvE d (ms.zip ts)) := by
  rw [mvE_zip]
  refine edsOk_zip (by rw [mv_len]; exact h.len) (by rw [mv_len]; exact h.few) (by rw [mv_len]; exact h.most) (fun i hi => ?_) (fun i hi => ?_) h.td h.roles
  · rw [mv_len] at hi
    have := h.mo.mom i hi
    rw [mv_at hi]
    omega
  · rw [mv_len] at hi
    have := h.mo.inc i hi
    rw [mv_at hi, mv_at (by omega)]
    omega
theorem LargeOk.fits (h : LargeOk ks cs ms ts ps) : Fits (ms.zip ts) cs := fits_zip h.cr h.roles
theorem LargeOk.fitsMv (h : LargeOk ks cs ms ts ps) : Fits (mvE d (ms.zip ts)) cs := by
  rw [mvE_zip]
  exact fits_zip h.cr h.roles
end
/-- the second plan and fleet -/
structure RenOk (ks : List Kd) (cs : List Cl) (ms : List Int) (ts : List Told) (f g : Str → Str) : Prop where
  inj : InjOn f (ks.map Kd.name)
  injg : ∀ t ∈ ts, InjOn g (t.rows.map Row.role)
  ko : KsOk (ks.map (renK f))
  co : ClOk (ks.map (renK f)) (cs.map (renC f g))
  eds : EdsOk (ms.zip (ts.map (ren g)))
  fits : Fits (ms.zip (ts.map (ren g))) (cs.map (renC f g))
theorem renOk {ks : List Kd} {cs : List Cl} {ms : List Int} {ts : List Told} {ps ws : List Str} (h : LargeOk ks cs ms ts ps) (hl : ws.length = 8) (nw : ws.Nodup) (wd : ∀ z ∈ ws, Wd z) : RenOk ks cs ms ts (zf (ks.map Kd.name) ws) (zf ps ws.reverse) := by
  have k4 := h.ko.few
  have p3 := h.p3
  have l1 : (ks.map Kd.name).length ≤ ws.length := by rw [List.length_map]; omega
  have l2 : ps.length ≤ ws.reverse.length := by rw [List.length_reverse]; omega
  have nr : ws.reverse.Nodup := List.pairwise_reverse.mpr (nw.imp fun h e => h e.symm)
  have wr : ∀ z ∈ ps, Wd (zf ps ws.reverse z) := fun z hz => wd _ (List.mem_reverse.mp (zf_in h.pn l2 hz))
  have inj := zf_inj h.ko.nd nw l1
  have injp := zf_inj h.pn nr l2
  have injg : ∀ t ∈ ts, InjOn (zf ps ws.reverse) (t.rows.map Row.role) := fun t ht => by rw [h.roles t ht]; exact injp
  have roles : ∀ t ∈ ts.map (ren (zf ps ws.reverse)), t.rows.map Row.role = ps.map (zf ps ws.reverse) := fun t ht => by
    obtain ⟨t0, ht0, rfl⟩ := List.mem_map.mp ht
    rw [roles_ren, h.roles t0 ht0]
  refine ⟨inj, injg, ksOk_ren h.ko inj fun z hz => wd _ (zf_in h.ko.nd l1 hz), clOk_ren h.co fun c hc => wr _ (h.cr c hc), edsOk_zip (by rw [List.length_map]; exact h.len) h.few h.most (fun i hi => by have := h.mo.mom i hi; omega) h.mo.inc (fun t ht => ?_) roles, fits_zip (fun c hc => ?_) roles⟩
  · obtain ⟨t0, ht0, rfl⟩ := List.mem_map.mp ht
    exact toldOk_ren (h.td t0 ht0) (injg t0 ht0) fun z hz => wr z (by rw [← h.roles t0 ht0]; exact hz)
  · obtain ⟨c0, hc0, rfl⟩ := List.mem_map.mp hc
    exact List.mem_map_of_mem (h.cr c0 hc0)
theorem ref_same {ks : List Kd} {cs : List Cl} {ms : List Int} {ts : List Told} {ps : List Str} {f g : Str → Str} (h : LargeOk ks cs ms ts ps) (r : RenOk ks cs ms ts f g) : refM ms (ts.map (ren g)) (ks.map (renK f)) (cs.map (renC f g)) = refM ms ts ks cs :=
  refM_ren r.inj (closed_of h.ko) h.len.symm r.injg h.co.c1 h.co.c2 fun c hc t ht => by
    rw [h.roles t ht]
    exact h.cr c hc
end Ab
/-! ## D34 -/
set_option Elab.async false
set_option linter.all false
set_option maxRecDepth 100000
set_option maxHeartbeats 4000000
namespace Ab
open PySem L2 PyProof.Rows
open Evl (Ex)
local macro_rules | `(tactic| trivial) => `(tactic| first
  | ((with_reducible apply w_var); exact rfl)
  | with_reducible refine w_c ?_ | with_reducible refine w_cons ?_ | with_reducible refine w_nil ?_ | with_reducible refine w_op ?_ | with_reducible refine w_cb ?_ | with_reducible refine w_call ?_ | with_reducible refine w_test ?_ | with_reducible refine w_B ?_
  | with_reducible refine bX ?_ | with_reducible refine bT ?_ | with_reducible refine bF ?_ | with_reducible refine zN ?_ | with_reducible refine zI ?_ | with_reducible refine zS ?_ | with_reducible refine zR ?_ | with_reducible refine zN' ?_ | with_reducible refine zI' ?_ | with_reducible refine zS' ?_ | with_reducible refine zR' ?_ | with_reducible refine bnT ?_ | with_reducible refine bnF ?_ | with_reducible refine w_and ?_ | with_reducible refine w_or ?_ | with_reducible refine w_not ?_ | with_reducible refine w_andV ?_ | with_reducible refine w_orV ?_
  | with_reducible refine w_notV ?_ | with_reducible refine w_if ?_ | with_reducible refine w_chain ?_ | with_reducible refine w_un ?_ | with_reducible refine wr_I0 ?_ | with_reducible refine wu_I ?_ | with_reducible refine wr_isN ?_ | with_reducible refine wr_notN ?_
  | with_reducible refine wr_eq rfl ?_ | with_reducible refine wr_ne rfl ?_ | with_reducible refine w_yes ?_ | with_reducible refine w_tup ?_ | with_reducible refine w_lst ?_ | with_reducible refine s_ret ?_ | with_reducible refine s_retN ?_
  | with_reducible refine s_seq ?_ | with_reducible refine s_if ?_ | with_reducible refine s_set ?_ | with_reducible refine s_dput ?_ | with_reducible refine s_app ?_ | with_reducible refine s_drop ?_ | with_reducible refine s_next ?_ | with_reducible refine s_par ?_ | with_reducible refine s_par3 ?_ | with_reducible refine s_asg ?_
  | with_reducible refine g_name ?_ | with_reducible refine gs_nil ?_ | with_reducible refine gs_cons ?_ | with_reducible refine wi_int_int ?_ | with_reducible refine wi_int_bool ?_ | with_reducible refine wi_str_str ?_ | with_reducible refine w_fld ?_ | with_reducible refine w_meth ?_ | with_reducible refine w_prop ?_ | with_reducible refine w_make ?_ | with_reducible refine w_makeK ?_ | with_reducible refine w_methN ?_ | with_reducible refine w_callN ?_ | with_reducible refine w_dget ?_ | with_reducible refine w_din ?_ | with_reducible refine w_dnin ?_ | with_reducible refine s_fld ?_ | with_reducible refine w_sl ?_ | with_reducible refine w_part ?_
  | with_reducible refine w_noPart ?_ | with_reducible refine iX ?_)

section
variable {P : Program} {w : World} {K : PySem.W.Frag} {mg : Str → Option Value} {base : Heap}
open Gap
def S__law_led_right (K : PySem.W.Frag) : Spc := fun vs B M R => ∃ (st kp cp mp tp : Addr) (kv cv tv : List V) (ks : List Kd) (cs : List Cl) (ms : List Int) (ts : List Told) (ps : List Str) (u1 : Unit), vs = [.ref st, .ref kp, .ref cp, .ref mp, .ref tp] ∧ M st = some isSt ∧ B kp = some (.lst kv) ∧ Paired (KdT B) kv ks ∧ B cp = some (.lst cv) ∧ Paired (CallV B) cv cs ∧ B mp = some (.lst (ms.map V.int)) ∧ B tp = some (.lst tv) ∧ Paired (ToldT B) tv ts ∧
  LargeOk ks cs ms ts ps ∧ ∀ B1 M1, Ex B B1 → MX M M1 → R (.bl true) B1 M1
theorem sc__law_led_right : FnScope ["_law_stream_here", "_law_kinds_here", "_law_calls_here", "_law_moments_here", "_law_tolds_here", "_law_parts", "_law_fresh", "_law_names", "_law_roles", "_law_others", "_law_led", "_law_plan_here", "_law_fleet_here", "_law_far", "_law_there", "_law_shut", "_law_row", "_law_one", "_law_name", "_law_span", "_law_aged", "_law_feeder", "_law_part", "_law_other", "_law_keep", "_law_told_here", "_law_early", "_law_later"] ["_law_stream_here", "_law_kinds_here", "_law_calls_here", "_law_moments_here", "_law_tolds_here"] (defScope (top 89)) := ⟨rfl, rfl, rfl, by decide +kernel, rfl, by decide +kernel, by decide +kernel⟩
theorem okg__law_led_right (T : Tx K mg) : CalG P w K mg base 24 "_law_led_right" (S__law_led_right K) := by
  have nd := sc__law_led_right.nd
  obtain ⟨fdR, FR, GR⟩ := okg_refusals (P := P) (w := w) (base := base) T
  refine calOfG (k := 23) (S := S__law_led_right K) T.d__law_led_right T.g__law_led_right sc__law_led_right (fun _ _ _ _ _ _ us hl => match us, hl with | [_, _, _, _, _], _ => rfl) (fun vs B M R ⟨_, _, _, _, _, _, _, _, _, _, _, _, _, _, e, _⟩ => by rw [e] <;> rfl) fun cdv A outer s H hr => ?_
  have hu := hu_of hr
  refine ⟨_, (pssG_cons (psG_up (ps_setLc (i := 5) (own := [("_law_row", 16)]) (g := gName 16) rfl nd rfl rfl (sw_true rfl rfl rfl (by decide +kernel)) (pi_list (pe_ix ix_tup (pe_ix ix_list (pv 4) pe_int (fun _ _ => rfl)) pe_int (fun _ _ => rfl))) (blkOk_by (own := [("_law_row", 16)]) (N := ["_law_stream_here", "_law_kinds_here", "_law_calls_here", "_law_moments_here", "_law_tolds_here", "_law_parts", "_law_fresh", "_law_names", "_law_roles", "_law_others", "_law_led", "_law_plan_here", "_law_fleet_here", "_law_far", "_law_there", "_law_shut", "_law_row", "_law_one", "_law_name", "_law_span", "_law_aged", "_law_feeder", "_law_part", "_law_other", "_law_keep", "_law_told_here", "_law_early", "_law_later"]) (sc := defScope (top 89)) (by decide +kernel)) (fun _ _ _ _ _ => (pg_name (i := 16) nd rfl (Or.inl rfl))) (fun _ _ _ _ _ => pts_nil) (fun _ _ _ _ _ => (pe_ix (ix_tupK (K := K) rfl) (pv 16) pe_int (fun _ _ => rfl)))))
    (pssG_cons (psG_up (ps_set (i := 6) nd rfl (Or.inl rfl) (C8.pe_c (ok__law_words T) hr (by decide) (by rfl) (pa_cons (pv 0) (pa_cons pe_int pa_nil)))))
    (pssG_cons (psG_up (ps_set (i := 7) nd rfl (Or.inr rfl) (pe_dictZip rfl (by rfl) T.f_dict (by rfl) T.f_zip (pa_cons (pe_lc (own := [("_law_one", 17)]) (g := gName 17) rfl nd (pi_list (pv 1)) (blkOk_by (own := [("_law_one", 17)]) (N := ["_law_stream_here", "_law_kinds_here", "_law_calls_here", "_law_moments_here", "_law_tolds_here", "_law_parts", "_law_fresh", "_law_names", "_law_roles", "_law_others", "_law_led", "_law_plan_here", "_law_fleet_here", "_law_far", "_law_there", "_law_shut", "_law_row", "_law_one", "_law_name", "_law_span", "_law_aged", "_law_feeder", "_law_part", "_law_other", "_law_keep", "_law_told_here", "_law_early", "_law_later"]) (sc := defScope (top 89)) (by decide +kernel)) (fun _ _ _ _ _ => (pg_name (i := 17) nd rfl (Or.inl rfl))) (fun _ _ _ _ _ => pts_nil) (fun _ _ _ _ _ => (pe_ix (ix_tupK (K := K) rfl) (pv 17) pe_int (fun _ _ => rfl)))) (pa_cons (pv 6) pa_nil)))))
    (pssG_cons (psG_up (ps_set (i := 8) nd rfl (Or.inr rfl) (pe_dictZip rfl (by rfl) T.f_dict (by rfl) T.f_zip (pa_cons (pv 5) (pa_cons (pe_revL (pv 6)) pa_nil)))))
    (pssG_cons (psG_up (ps_setLc (i := 9) (own := [("_law_name", 18), ("_law_span", 19), ("_law_aged", 20), ("_law_feeder", 21)]) (g := gTup K 4 (gCons (gName 18) (gCons (gName 19) (gCons (gName 20) (gCons (gName 21) gNil))))) rfl nd rfl rfl (sw_true rfl rfl rfl (by decide +kernel)) (pi_list (pv 1)) (blkOk_by (own := [("_law_name", 18), ("_law_span", 19), ("_law_aged", 20), ("_law_feeder", 21)]) (N := ["_law_stream_here", "_law_kinds_here", "_law_calls_here", "_law_moments_here", "_law_tolds_here", "_law_parts", "_law_fresh", "_law_names", "_law_roles", "_law_others", "_law_led", "_law_plan_here", "_law_fleet_here", "_law_far", "_law_there", "_law_shut", "_law_row", "_law_one", "_law_name", "_law_span", "_law_aged", "_law_feeder", "_law_part", "_law_other", "_law_keep", "_law_told_here", "_law_early", "_law_later"]) (sc := defScope (top 89)) (by decide +kernel)) (fun _ _ _ _ _ => (pg_tupK (K := K) rfl rfl (pgs_cons (pg_name (i := 18) nd rfl (Or.inl rfl)) (pgs_cons (pg_name (i := 19) nd rfl (Or.inl rfl)) (pgs_cons (pg_name (i := 20) nd rfl (Or.inl rfl)) (pgs_cons (pg_name (i := 21) nd rfl (Or.inl rfl)) pgs_nil)))))) (fun _ _ _ _ _ => pts_nil) (fun _ _ _ _ _ => (pe_tup (pa_cons (pe_dget hu (pv 7) (pv 18) (fun _ _ => rfl)) (pa_cons (pv 19) (pa_cons (pv 20) (pa_cons (pe_dgetN hu (pv 7) (pv 21) ⟨rfl, rfl, rfl, rfl⟩) pa_nil))))))))
    (pssG_cons (psG_up (ps_setLc (i := 10) (own := [("_law_part", 22), ("_law_one", 17), ("_law_other", 23), ("_law_keep", 24)]) (g := gTup K 4 (gCons (gName 22) (gCons (gName 17) (gCons (gName 23) (gCons (gName 24) gNil))))) rfl nd rfl rfl (sw_true rfl rfl rfl (by decide +kernel)) (pi_list (pv 2)) (blkOk_by (own := [("_law_part", 22), ("_law_one", 17), ("_law_other", 23), ("_law_keep", 24)]) (N := ["_law_stream_here", "_law_kinds_here", "_law_calls_here", "_law_moments_here", "_law_tolds_here", "_law_parts", "_law_fresh", "_law_names", "_law_roles", "_law_others", "_law_led", "_law_plan_here", "_law_fleet_here", "_law_far", "_law_there", "_law_shut", "_law_row", "_law_one", "_law_name", "_law_span", "_law_aged", "_law_feeder", "_law_part", "_law_other", "_law_keep", "_law_told_here", "_law_early", "_law_later"]) (sc := defScope (top 89)) (by decide +kernel)) (fun _ _ _ _ _ => (pg_tupK (K := K) rfl rfl (pgs_cons (pg_name (i := 22) nd rfl (Or.inl rfl)) (pgs_cons (pg_name (i := 17) nd rfl (Or.inl rfl)) (pgs_cons (pg_name (i := 23) nd rfl (Or.inl rfl)) (pgs_cons (pg_name (i := 24) nd rfl (Or.inl rfl)) pgs_nil)))))) (fun _ _ _ _ _ => pts_nil) (fun _ _ _ _ _ => (pe_tup (pa_cons (pe_dget hu (pv 8) (pv 22) (fun _ _ => rfl)) (pa_cons (pe_dget hu (pv 7) (pv 17) (fun _ _ => rfl)) (pa_cons (pe_dget hu (pv 7) (pv 23) (fun _ _ => rfl)) (pa_cons (pv 24) pa_nil))))))))
    (pssG_cons (psG_up (ps_par (i := 11) (j := 12) rfl nd rfl rfl (by decide) rfl rfl (pa_cons (C8.pe_c (ok__law_plan T) hr (by decide) (by rfl) (pa_cons (pv 3) (pa_cons (pv 4) pa_nil))) (pa_cons (C8.pe_c (ok__law_fleet T) hr (by decide) (by rfl) (pa_cons (pv 1) (pa_cons (pv 2) pa_nil))) pa_nil)) rfl))
    (pssG_cons (psG_up (ps_par (i := 13) (j := 14) rfl nd rfl rfl (by decide) rfl rfl (pa_cons (C8.pe_c (ok__law_plan T) hr (by decide) (by rfl) (pa_cons (pv 3) (pa_cons (pe_lc (own := [("_law_told_here", 25)]) (g := gName 25) rfl nd (pi_list (pv 4)) (blkOk_by (own := [("_law_told_here", 25)]) (N := ["_law_stream_here", "_law_kinds_here", "_law_calls_here", "_law_moments_here", "_law_tolds_here", "_law_parts", "_law_fresh", "_law_names", "_law_roles", "_law_others", "_law_led", "_law_plan_here", "_law_fleet_here", "_law_far", "_law_there", "_law_shut", "_law_row", "_law_one", "_law_name", "_law_span", "_law_aged", "_law_feeder", "_law_part", "_law_other", "_law_keep", "_law_told_here", "_law_early", "_law_later"]) (sc := defScope (top 89)) (by decide +kernel)) (fun _ _ _ _ _ => (pg_name (i := 25) nd rfl (Or.inl rfl))) (fun _ _ _ _ _ => pts_nil) (fun _ _ _ _ _ => (C8.pe_c (ok__law_led_told T) hr (by decide) (by rfl) (pa_cons (pv 8) (pa_cons (pv 25) pa_nil))))) pa_nil))) (pa_cons (C8.pe_c (ok__law_fleet T) hr (by decide) (by rfl) (pa_cons (pv 9) (pa_cons (pv 10) pa_nil))) pa_nil)) rfl))
    (pssG_cons (psG_if (ptG_cmpR (op_neD hr.units) (peG_list (pgenA_call GR (hr.mono (by decide)) (by rfl) T.g_refusals FR.kp (FR.bindsN (fun _ _ _ _ _ _ us hl => match us, hl with | [_, _], _ => rfl)) (pa_cons (pv 11) (pa_cons (pv 12) pa_nil))) (hr.mono (by decide)) (by rfl) T.f_list (by decide +kernel)) (peG_list (pgenA_call GR (hr.mono (by decide)) (by rfl) T.g_refusals FR.kp (FR.bindsN (fun _ _ _ _ _ _ us hl => match us, hl with | [_, _], _ => rfl)) (pa_cons (pv 13) (pa_cons (pv 14) pa_nil))) (hr.mono (by decide)) (by rfl) T.f_list (by decide +kernel)) (nomark _))
    (pssG_up (pss_one (ps_ret pe_bl)))
    (pssG_up pss_nil))
    (pssG_up (pss_cons (ps_set (i := 15) nd rfl (Or.inl rfl) (pe_callB cr_sortedTri (by rfl) T.f_sorted (by decide +kernel) (pa_cons (pe_lc (own := [("_law_name", 18), ("_law_early", 26), ("_law_later", 27)]) (g := gTup K 3 (gCons (gName 18) (gCons (gName 26) (gCons (gName 27) gNil)))) rfl nd (pi_list (C8.pe_c (ok_lockouts T) hr (by decide) (by rfl) (pa_cons (pv 11) (pa_cons (pv 12) pa_nil)))) (blkOk_by (own := [("_law_name", 18), ("_law_early", 26), ("_law_later", 27)]) (N := ["_law_stream_here", "_law_kinds_here", "_law_calls_here", "_law_moments_here", "_law_tolds_here", "_law_parts", "_law_fresh", "_law_names", "_law_roles", "_law_others", "_law_led", "_law_plan_here", "_law_fleet_here", "_law_far", "_law_there", "_law_shut", "_law_row", "_law_one", "_law_name", "_law_span", "_law_aged", "_law_feeder", "_law_part", "_law_other", "_law_keep", "_law_told_here", "_law_early", "_law_later"]) (sc := defScope (top 89)) (by decide +kernel)) (fun _ _ _ _ _ => (pg_tupK (K := K) rfl rfl (pgs_cons (pg_name (i := 18) nd rfl (Or.inl rfl)) (pgs_cons (pg_name (i := 26) nd rfl (Or.inl rfl)) (pgs_cons (pg_name (i := 27) nd rfl (Or.inl rfl)) pgs_nil))))) (fun _ _ _ _ _ => pts_nil) (fun _ _ _ _ _ => (pe_tup (pa_cons (pe_dget hu (pv 7) (pv 18) (fun _ _ => rfl)) (pa_cons (pv 26) (pa_cons (pv 27) pa_nil)))))) pa_nil)))
    (pss_one (ps_ret (pe_cmpR (op_eqD hr.units) (pv 15) (C8.pe_c (ok_lockouts T) hr (by decide) (by rfl) (pa_cons (pv 13) (pa_cons (pv 14) pa_nil))) (nomark _))))))))))))))), ?_⟩
  rintro vs B M R ⟨st, kp, cp, mp, tp, kv, cv, tv, ks, cs, ms, ts, ps, _, rfl, hM, hkp, hkv, hcp, hcv, hmp, htp, htv, lo, k⟩
  have hkl := f2_len hkv
  have hcl := f2_len hcv
  have htl := f2_len htv
  have k4 := lo.ko.few
  have c6 := lo.co.few
  have m7 := lo.most
  have m1 := lo.few
  have ml := lo.len
  have p3 := lo.p3
  obtain ⟨t0, ht0⟩ : ∃ t0, ts[0]? = some t0 := ⟨ts[0]'(by omega), by simp⟩
  obtain ⟨v0, hv0, a0, b0, c0, sv0, rs0, rfl, hq1, hq2, hq3, hq4, hq5⟩ := f2_at htv ht0
  have hro := lo.roles t0 (List.mem_of_getElem? ht0)
  have r0l := f2_len hq3
  have r0p : t0.rows.length = ps.length := by rw [← hro, List.length_map]
  refine s_seq (s_set (w_lc (i_list ?_)))
  repeat trivial
  refine wr_ixL (.of htp) (atN (i := 0) hv0) ?_
  repeat trivial
  refine wr_ixT (.of hq1) (v := .ref b0) (by rfl) ?_
  refine ⟨b0, _, rfl, .of hq2, _, _, _, wb_list (.of hq2), by omega, fun i acc _ => acc = (ps.take i).map V.str, rfl, fun pa hD hM2 => ⟨fun _ => True.intro, ?_, ?_⟩⟩
  · rintro i x acc B' B2 hi hl2 e1 rfl e2 hx
    obtain ⟨r, hr, t1, la, rfl, h1, h2⟩ := f2_get hq3 hx
    have hpi : ps[i]? = some r.role := by rw [← hro, List.getElem?_map, hr] <;> rfl
    repeat trivial
    refine wr_ixT (.of ((e1.trans e2) _ _ h1)) (v := .str r.role) (by rfl) ?_
    refine ⟨rfl, Ex.refl _, ?_⟩
    show _ = (ps.take (i + 1)).map V.str
    rw [List.take_add_one, hpi, List.map_append]
    rfl
  rintro acc B1 e1 pn _ rfl
  rw [show rs0.length = ps.length by omega, List.take_length]
  have x1 := exNew (o := .lst (ps.map V.str)) pn
  have e2 := e1.trans x1
  have hpa : upd B1 pa (.lst (ps.map V.str)) pa = some (.lst (ps.map V.str)) := upd_same
  generalize upd B1 pa (.lst (ps.map V.str)) = B2 at *
  repeat trivial
  refine ⟨st, 8, rfl, hM, by omega, fun B3 fr ws e3 hfr wl wd wn => ?_⟩
  have e4 := e2.trans e3
  have hpa3 := e3 _ _ hpa
  refine s_seq (s_set (w_dictZip ?_))
  repeat trivial
  refine w_lc (i_list ?_)
  repeat trivial
  refine ⟨kp, _, rfl, .of (e4 _ _ hkp), _, _, _, wb_list (.of (e4 _ _ hkp)), by omega, fun i acc _ => acc = ((ks.map Kd.name).take i).map V.str, rfl, fun na hD hM2 => ⟨fun _ => True.intro, ?_, ?_⟩⟩
  · rintro i x acc B' B4 hi hl2 e5 rfl e6 hx
    obtain ⟨kx, hkx, t1, rfl, h1⟩ := f2_get hkv hx
    repeat trivial
    refine wr_ixT (.of (((e4.trans e5).trans e6) _ _ h1)) (v := .str kx.name) (by rfl) ?_
    refine ⟨rfl, Ex.refl _, ?_⟩
    show _ = ((ks.map Kd.name).take (i + 1)).map V.str
    rw [List.take_add_one, List.getElem?_map, hkx, List.map_append]
    rfl
  rintro acc B4 e5 nn _ rfl
  rw [show kv.length = (ks.map Kd.name).length by rw [List.length_map]; exact hkl, List.take_length]
  have x2 := exNew (o := .lst ((ks.map Kd.name).map V.str)) nn
  have l1 : (ks.map Kd.name).length ≤ ws.length := by rw [List.length_map]; omega
  have l2 : ps.length ≤ ws.reverse.length := by rw [List.length_reverse]; omega
  repeat trivial
  refine ⟨na, fr, (ks.map Kd.name).map Sum.inr, ws.map V.str, rfl, .of (by rw [List.map_map (f := Sum.inr)]; exact upd_same), .of ((e5.trans x2) _ _ hfr), fun dn dnB dnM => ?_⟩
  rw [merge_nil (by rw [List.map_fst_zip (by simpa using l1)]; exact str_nodup lo.ko.nd)]
  have x3 := exNew (o := .dK (((ks.map Kd.name).map (Sum.inr : Str → Key)).zip (ws.map V.str))) dnB
  have e6 := (e5.trans x2).trans x3
  have hdn : upd (upd B4 na (.lst ((ks.map Kd.name).map V.str))) dn (.dK (((ks.map Kd.name).map (Sum.inr : Str → Key)).zip (ws.map V.str))) dn = some (.dK (((ks.map Kd.name).map (Sum.inr : Str → Key)).zip (ws.map V.str))) := upd_same
  generalize upd (upd B4 na (.lst ((ks.map Kd.name).map V.str))) dn (.dK (((ks.map Kd.name).map (Sum.inr : Str → Key)).zip (ws.map V.str))) = B5 at *
  have e7 := e4.trans e6
  have hfr5 := e6 _ _ hfr
  have hpa5 := e6 _ _ hpa3
  refine s_seq (s_set (w_dictZip ?_))
  repeat trivial
  refine w_revL ?_
  repeat trivial
  refine ⟨fr, _, rfl, .of hfr5, fun rv rvB rvM => ?_⟩
  have x4 := exNew (o := .lst (ws.map V.str).reverse) rvB
  repeat trivial
  refine ⟨pa, rv, ps.map Sum.inr, ws.reverse.map V.str, rfl, .of (by rw [List.map_map]; exact x4 _ _ hpa5), .of (by rw [List.map_reverse]; exact upd_same), fun dr drB drM => ?_⟩
  rw [merge_nil (by rw [List.map_fst_zip (by simpa using l2)]; exact str_nodup lo.pn)]
  have x5 := exNew (o := .dK ((ps.map (Sum.inr : Str → Key)).zip (ws.reverse.map V.str))) drB
  have hdr : upd (upd B5 rv (.lst (ws.map V.str).reverse)) dr (.dK ((ps.map (Sum.inr : Str → Key)).zip (ws.reverse.map V.str))) dr = some (.dK ((ps.map (Sum.inr : Str → Key)).zip (ws.reverse.map V.str))) := upd_same
  have hdn6 := (x4.trans x5) _ _ hdn
  have e8 := (e7.trans x4).trans x5
  generalize upd (upd B5 rv (.lst (ws.map V.str).reverse)) dr (.dK ((ps.map (Sum.inr : Str → Key)).zip (ws.reverse.map V.str))) = B6 at *
  clear x5 x4 x3 x2 x1
  have nv : ∀ z, z ∈ ks.map Kd.name → valV (((ks.map Kd.name).map (Sum.inr : Str → Key)).zip (ws.map V.str)) (.inr z) = some (.str (zf (ks.map Kd.name) ws z)) := fun z hz => zf_val lo.ko.nd l1 hz
  have rv' : ∀ z, z ∈ ps → valV ((ps.map (Sum.inr : Str → Key)).zip (ws.reverse.map V.str)) (.inr z) = some (.str (zf ps ws.reverse z)) := fun z hz => zf_val lo.pn l2 hz
  have RO := renOk lo wl wn wd
  generalize ((ks.map Kd.name).map (Sum.inr : Str → Key)).zip (ws.map V.str) = nkv at *
  generalize (ps.map (Sum.inr : Str → Key)).zip (ws.reverse.map V.str) = rkv at *
  generalize zf (ks.map Kd.name) ws = f at *
  generalize zf ps ws.reverse = g at *
  show wS _ [some (.ref st), some (.ref kp), some (.ref cp), some (.ref mp), some (.ref tp), some (.ref pa), some (.ref fr), some (.ref dn), some (.ref dr), none, none, none, none, none, none, none, none, none, none, none, none, none, none, none, none, none, none, none] _ _ _ _
  refine s_seq (s_set (w_lc (i_list ?_)))
  repeat trivial
  refine ⟨kp, _, rfl, .of (e8 _ _ hkp), _, _, _, wb_list (.of (e8 _ _ hkp)), by omega, fun i acc B' => Paired (KdT B') acc ((ks.map (renK f)).take i), .nil, fun oa hD hM2 => ⟨fun _ => True.intro, ?_, ?_⟩⟩
  · rintro i x acc B' B7 hi hl2 e9 hacc e10 hx
    obtain ⟨kx, hkx, t1, rfl, h1⟩ := f2_get hkv hx
    have hkm := List.mem_of_getElem? hkx
    have e11 := e9.trans e10
    refine g_tup (.of ((e8.trans e11) _ _ h1)) rfl ?_
    repeat trivial
    refine ⟨dn, nkv, .inr kx.name, _, rfl, rfl, .inl (e11 _ _ hdn6), nv _ (List.mem_map_of_mem hkm), ?_⟩
    repeat trivial
    refine w_dgetN ?_
    repeat trivial
    refine ⟨dn, nkv, rfl, e11 _ _ hdn6, ?_⟩
    repeat trivial
    refine ⟨e11 _ _ hdn6, ?_⟩
    have step : ∀ t2, B7 t2 = none → Paired (KdT (upd B7 t2 (.tup [.str (f kx.name), .int kx.gap, oI kx.age, oS (kx.src.map f)]))) (acc ++ [.ref t2]) ((ks.map (renK f)).take (i + 1)) := fun t2 n2 => by
      rw [List.take_add_one, List.getElem?_map, hkx]
      exact Paired.snoc (f2_mono (fun _ _ w => KdT.ex (e10.trans (exNew n2)) w) hacc) ⟨t2, rfl, upd_same⟩
    cases hs : kx.src with
    | none =>
      refine .inl ⟨rfl, ?_⟩
      repeat trivial
      refine ⟨len4, fun t2 t2B t2M => ⟨rfl, exNew t2B, ?_⟩⟩
      have z := step t2 t2B
      rw [hs] at z
      exact z
    | some y =>
      have hy := closed_of lo.ko kx hkm y hs
      refine .inr ⟨.inr y, rfl, ?_⟩
      rw [nv y hy]
      repeat trivial
      refine ⟨len4, fun t2 t2B t2M => ⟨rfl, exNew t2B, ?_⟩⟩
      have z := step t2 t2B
      rw [hs] at z
      exact z
  rintro acc B7 e9 on _ hoth
  rw [show kv.length = (ks.map (renK f)).length by rw [List.length_map]; exact hkl, List.take_length] at hoth
  have x6 := exNew (o := .lst acc) on
  have hoa : upd B7 oa (.lst acc) oa = some (.lst acc) := upd_same
  have hoth := f2_mono (fun _ _ w => KdT.ex x6 w) hoth
  have e10 := e9.trans x6
  generalize upd B7 oa (.lst acc) = B8 at *
  have e11 := e8.trans e10
  have hdn8 := e10 _ _ hdn6
  have hdr8 := e10 _ _ hdr
  show wS _ [some (.ref st), some (.ref kp), some (.ref cp), some (.ref mp), some (.ref tp), some (.ref pa), some (.ref fr), some (.ref dn), some (.ref dr), some (.ref oa), none, none, none, none, none, none, none, none, none, none, none, none, none, none, none, none, none, none] _ _ _ _
  refine s_seq (s_set (w_lc (i_list ?_)))
  repeat trivial
  refine ⟨cp, _, rfl, .of (e11 _ _ hcp), _, _, _, wb_list (.of (e11 _ _ hcp)), by omega, fun i acc B' => Paired (CallV B') acc ((cs.map (renC f g)).take i), .nil, fun la hD hM2 => ⟨fun _ => True.intro, ?_, ?_⟩⟩
  · rintro i x acc B' B9 hi hl2 e12 hacc e13 hx
    obtain ⟨cx, hcx, t1, rfl, h1⟩ := f2_get hcv hx
    have hcm := List.mem_of_getElem? hcx
    have e14 := e12.trans e13
    refine g_tup (.of ((e11.trans e14) _ _ h1)) rfl ?_
    repeat trivial
    refine ⟨dr, rkv, .inr cx.role, _, rfl, rfl, .inl (e14 _ _ hdr8), rv' _ (lo.cr cx hcm), ?_⟩
    repeat trivial
    refine ⟨dn, nkv, .inr cx.client, _, rfl, rfl, .inl (e14 _ _ hdn8), nv _ (lo.co.c1 cx hcm), ?_⟩
    repeat trivial
    refine ⟨dn, nkv, .inr cx.server, _, rfl, rfl, .inl (e14 _ _ hdn8), nv _ (lo.co.c2 cx hcm), ?_⟩
    repeat trivial
    refine ⟨len4, fun t2 t2B t2M => ⟨rfl, exNew t2B, ?_⟩⟩
    show Paired _ _ (List.take (i + 1) (cs.map (renC f g)))
    rw [List.take_add_one, List.getElem?_map, hcx]
    exact Paired.snoc (f2_mono (fun _ _ w => CallV.ex (e13.trans (exNew t2B)) w) hacc) ⟨t2, rfl, upd_same⟩
  rintro acc2 B9 e12 ln _ hled
  rw [show cv.length = (cs.map (renC f g)).length by rw [List.length_map]; exact hcl, List.take_length] at hled
  have x7 := exNew (o := .lst acc2) ln
  have hla : upd B9 la (.lst acc2) la = some (.lst acc2) := upd_same
  have hled := f2_mono (fun _ _ w => CallV.ex x7 w) hled
  have e13 := e12.trans x7
  generalize upd B9 la (.lst acc2) = B10 at *
  have e14 := e11.trans e13
  have hdr10 := e13 _ _ hdr8
  have hdn10 := e13 _ _ hdn8
  have hoa10 := e13 _ _ hoa
  have hoth10 := f2_mono (fun _ _ w => KdT.ex e13 w) hoth
  show wS _ [some (.ref st), some (.ref kp), some (.ref cp), some (.ref mp), some (.ref tp), some (.ref pa), some (.ref fr), some (.ref dn), some (.ref dr), some (.ref oa), some (.ref la), none, none, none, none, none, none, none, none, none, none, none, none, none, none, none, none, none] _ _ _ _
  repeat trivial
  refine ⟨mp, tp, ms, tv, ts, ⟨⟩, rfl, e14 _ _ hmp, e14 _ _ htp, f2_mono (fun _ _ w => ToldT.ex e14 w) htv, ml, lo.eds, fun B11 pl1 e15 hpl1 => ?_⟩
  have e16 := e14.trans e15
  repeat trivial
  refine ⟨kp, cp, kv, cv, ks, cs, ⟨⟩, rfl, e16 _ _ hkp, f2_mono (fun _ _ w => KdT.ex e16 w) hkv, e16 _ _ hcp, f2_mono (fun _ _ w => CallV.ex e16 w) hcv, lo.ko, lo.co, fun B12 M1 fa fkd frd e17 mx1 fl1 => ?_⟩
  repeat trivial
  refine ⟨_, _, rfl, ?_⟩
  show wS _ [some (.ref st), some (.ref kp), some (.ref cp), some (.ref mp), some (.ref tp), some (.ref pa), some (.ref fr), some (.ref dn), some (.ref dr), some (.ref oa), some (.ref la), some pl1, some (.ref fa), none, none, none, none, none, none, none, none, none, none, none, none, none, none, none] _ _ _ _
  have e18 := e16.trans e17
  have e19 := e15.trans e17
  repeat trivial
  refine w_lc (i_list ?_)
  repeat trivial
  refine ⟨tp, _, rfl, .of (e18 _ _ htp), _, _, _, wb_list (.of (e18 _ _ htp)), by omega, fun i acc B' => Paired (ToldT B') acc ((ts.map (ren g)).take i), .nil, fun t2a hD hM2 => ⟨fun _ => True.intro, ?_, ?_⟩⟩
  · rintro i x acc B' B13 hi hl2 e20 hacc e21 hx
    obtain ⟨tx, htx, hT⟩ := f2_get htv hx
    have htm := List.mem_of_getElem? htx
    have e22 := e20.trans e21
    have td := lo.td tx htm
    have tm := td.most
    repeat trivial
    refine ⟨dr, x, rkv, tx, g, ⟨⟩, rfl, (e19.trans e22) _ _ hdr10, hT.ex (e18.trans e22), by omega, fun r hr => rv' _ (by rw [← lo.roles tx htm]; exact List.mem_map_of_mem hr), fun B14 u e23 hu => ?_⟩
    refine ⟨rfl, e23, ?_⟩
    show Paired _ _ (List.take (i + 1) (ts.map (ren g)))
    rw [List.take_add_one, List.getElem?_map, htx]
    exact Paired.snoc (f2_mono (fun _ _ w => ToldT.ex (e21.trans e23) w) hacc) hu
  rintro acc3 B13 e20 tn _ htv2
  rw [show tv.length = (ts.map (ren g)).length by rw [List.length_map]; exact htl, List.take_length] at htv2
  have x8 := exNew (o := .lst acc3) tn
  have e21 := e20.trans x8
  have e22 := e18.trans e21
  repeat trivial
  refine ⟨mp, t2a, ms, acc3, ts.map (ren g), ⟨⟩, rfl, e22 _ _ hmp, upd_same, f2_mono (fun _ _ w => ToldT.ex x8 w) htv2, by rw [List.length_map]; exact ml, RO.eds, fun B14 pl2 e23 hpl2 => ?_⟩
  have e24 := e22.trans e23
  have e25 := (e19.trans e21).trans e23
  repeat trivial
  refine ⟨oa, la, acc, acc2, ks.map (renK f), cs.map (renC f g), ⟨⟩, rfl, e25 _ _ hoa10, f2_mono (fun _ _ w => KdT.ex e25 w) hoth10, e25 _ _ hla, f2_mono (fun _ _ w => CallV.ex e25 w) hled, RO.ko, RO.co, fun B15 M2 ga gkd grd e26 mx2 fl2 => ?_⟩
  repeat trivial
  refine ⟨_, _, rfl, ?_⟩
  show wS _ [some (.ref st), some (.ref kp), some (.ref cp), some (.ref mp), some (.ref tp), some (.ref pa), some (.ref fr), some (.ref dn), some (.ref dr), some (.ref oa), some (.ref la), some pl1, some (.ref fa), some pl2, some (.ref ga), none, none, none, none, none, none, none, none, none, none, none, none, none] _ _ _ _
  have e27 := (e21.trans e23).trans e26
  have hp1 := hpl1.ex (e17.trans e27)
  have hp2 := hpl2.ex e26
  have f1 := fl1.mx e27 mx2
  have fo1 := flOk lo.ko lo.co
  have fo2 := flOk RO.ko RO.co
  have e28 := e24.trans e26
  have mx3 : MX M M2 := fun b P h => mx2 b P (mx1 b P h)
  have zm := zip_ms ml
  have zt := zip_ts ml
  have zm2 : (ms.zip (ts.map (ren g))).map (·.1) = ms := zip_ms (by rw [List.length_map]; exact ml)
  have zt2 : (ms.zip (ts.map (ren g))).map (·.2) = ts.map (ren g) := zip_ts (by rw [List.length_map]; exact ml)
  repeat trivial
  refine w_listA ?_
  repeat trivial
  refine ⟨pl1, fa, fkd, frd, ms.zip ts, ks, cs, ⟨⟩, rfl, hp1, lo.eds, f1, fo1, lo.fits, fun B16 ys1 e29 hys1 q1 q1B q1M => ?_⟩
  have x9 := exNew (o := .lst ys1) q1B
  have e30 := e29.trans x9
  repeat trivial
  refine w_listA ?_
  repeat trivial
  refine ⟨pl2, ga, gkd, grd, ms.zip (ts.map (ren g)), ks.map (renK f), cs.map (renC f g), ⟨⟩, rfl, hp2.ex e30, RO.eds, fl2.mx e30 (fun _ _ h => h), fo2, RO.fits, fun B17 ys2 e31 hys2 q2 q2B q2M => ?_⟩
  rw [zm, zt] at hys1
  rw [zm2, zt2, ref_same lo RO] at hys2
  have x10 := exNew (o := .lst ys2) q2B
  have e32 := (e30.trans e31).trans x10
  refine wr_neSame (dp_refs ((e31.trans x10) _ _ upd_same) (f2_mono (fun _ _ w => RefV.ex ((x9.trans e31).trans x10) w) hys1)) (dp_refs upd_same (f2_mono (fun _ _ w => RefV.ex x10 w) hys2)) (fit_map fun _ _ => fit_ref) ?_
  repeat trivial
  refine w_lc (i_list ?_)
  repeat trivial
  refine ⟨pl1, fa, fkd, frd, ms.zip ts, ks, cs, ⟨⟩, rfl, hp1.ex e32, lo.eds, f1.mx e32 (fun _ _ h => h), fo1, lo.fits, fun n1 B18 r1 w1 hn1 sn1 e33 hr1 hw1 => ?_⟩
  rw [zm, zt] at hw1
  have w1l := f2_len hw1
  have lml := lockM_len (ms := ms) (ts := ts) (ks := ks) (ys := n1)
  rw [hn1.length_eq, List.length_map] at lml
  have b49 : ms.length * ms.length ≤ 7 * 7 := Nat.mul_le_mul m7 m7
  have b196 : ks.length * (ms.length * ms.length) ≤ 4 * 49 := Nat.mul_le_mul k4 b49
  have e34 := (((e25.trans e26).trans e32)).trans e33
  refine ⟨r1, w1, rfl, .of hr1, _, _, _, wb_list (.of hr1), by omega, fun i acc B' => Paired (LockV B') acc (((lockM ms ts ks n1).map fun x => (f x.1, x.2)).take i), .nil, fun D hD hM2 => ⟨fun _ => True.intro, ?_, ?_⟩⟩
  · rintro i x acc B' B19 hi hl2 e35 hacc e36 hx
    obtain ⟨y, hy, t1, rfl, ht1⟩ := f2_get hw1 hx
    have e37 := e35.trans e36
    refine g_tup (.of (e37 _ _ ht1)) rfl ?_
    repeat trivial
    refine ⟨dn, nkv, .inr y.1, _, rfl, rfl, .inl ((e34.trans e37) _ _ hdn10), nv _ (hn1.mem_iff.mp (lock_names (List.mem_of_getElem? hy))), ?_⟩
    repeat trivial
    refine ⟨len3, fun t2 t2B t2M => ⟨rfl, exNew t2B, ?_⟩⟩
    show Paired _ _ (List.take (i + 1) ((lockM ms ts ks n1).map fun x => (f x.1, x.2)))
    rw [List.take_add_one, List.getElem?_map, hy]
    exact Paired.snoc (f2_mono (fun _ _ w => LockV.ex (e36.trans (exNew t2B)) w) hacc) ⟨t2, rfl, upd_same⟩
  rintro acc4 B19 e35 sn _ hsh
  rw [show w1.length = ((lockM ms ts ks n1).map fun x => (f x.1, x.2)).length by rw [List.length_map]; exact w1l, List.take_length] at hsh
  have x11 := exNew (o := .lst acc4) sn
  repeat trivial
  refine wc_sortedTri (.of upd_same) (f2_mono (fun _ _ w => LockV.ex x11 w) hsh) fun ys us sh hys hus hle shB shM => ?_
  have x12 := exNew (o := .lst ys) shB
  have e36 := (e33.trans e35).trans (x11.trans x12)
  have e37 := e32.trans e36
  repeat trivial
  refine ⟨pl2, ga, gkd, grd, ms.zip (ts.map (ren g)), ks.map (renK f), cs.map (renC f g), ⟨⟩, rfl, hp2.ex e37, RO.eds, fl2.mx e37 (fun _ _ h => h), fo2, RO.fits, fun n2 B20 r2 w2 hn2 sn2 e38 hr2 hw2 => ?_⟩
  rw [zm2, zt2] at hw2
  rw [names_ren] at hn2
  have eq := lock_sorted (g := g) RO.inj (closed_of lo.ko) lo.ko.nd hn1 hn2 sn2 hus hle
  rw [eq] at hys
  refine wr_eqSame (dp_locks (e38 _ _ upd_same) (f2_mono (fun _ _ w => LockV.ex (x12.trans e38) w) hys)) (dp_locks hr2 hw2) (fit_map fun x hx => fit_lock (fo2.wd (by rw [names_ren]; exact hn2.mem_iff.mp (lock_names hx)))) ?_
  exact k _ _ ((e28.trans e37).trans e38) mx3
end
end Ab
/-! ## D35 -/
set_option Elab.async false
set_option linter.all false
set_option maxRecDepth 100000
set_option maxHeartbeats 4000000
namespace Ab
open PySem L2 PyProof.Rows
open Evl (Ex)
local macro_rules | `(tactic| trivial) => `(tactic| first
  | ((with_reducible apply w_var); exact rfl)
  | with_reducible refine w_c ?_ | with_reducible refine w_cons ?_ | with_reducible refine w_nil ?_ | with_reducible refine w_op ?_ | with_reducible refine w_cb ?_ | with_reducible refine w_call ?_ | with_reducible refine w_test ?_ | with_reducible refine w_B ?_
  | with_reducible refine bX ?_ | with_reducible refine bT ?_ | with_reducible refine bF ?_ | with_reducible refine zN ?_ | with_reducible refine zI ?_ | with_reducible refine zS ?_ | with_reducible refine zR ?_ | with_reducible refine zN' ?_ | with_reducible refine zI' ?_ | with_reducible refine zS' ?_ | with_reducible refine zR' ?_ | with_reducible refine bnT ?_ | with_reducible refine bnF ?_ | with_reducible refine w_and ?_ | with_reducible refine w_or ?_ | with_reducible refine w_not ?_ | with_reducible refine w_andV ?_ | with_reducible refine w_orV ?_
  | with_reducible refine w_notV ?_ | with_reducible refine w_if ?_ | with_reducible refine w_chain ?_ | with_reducible refine w_un ?_ | with_reducible refine wr_I0 ?_ | with_reducible refine wu_I ?_ | with_reducible refine wr_isN ?_ | with_reducible refine wr_notN ?_
  | with_reducible refine wr_eq rfl ?_ | with_reducible refine wr_ne rfl ?_ | with_reducible refine w_yes ?_ | with_reducible refine w_tup ?_ | with_reducible refine w_lst ?_ | with_reducible refine s_ret ?_ | with_reducible refine s_retN ?_
  | with_reducible refine s_seq ?_ | with_reducible refine s_if ?_ | with_reducible refine s_set ?_ | with_reducible refine s_dput ?_ | with_reducible refine s_app ?_ | with_reducible refine s_drop ?_ | with_reducible refine s_next ?_ | with_reducible refine s_par ?_ | with_reducible refine s_par3 ?_ | with_reducible refine s_asg ?_
  | with_reducible refine g_name ?_ | with_reducible refine gs_nil ?_ | with_reducible refine gs_cons ?_ | with_reducible refine wi_int_int ?_ | with_reducible refine wi_int_bool ?_ | with_reducible refine wi_str_str ?_ | with_reducible refine w_fld ?_ | with_reducible refine w_meth ?_ | with_reducible refine w_prop ?_ | with_reducible refine w_make ?_ | with_reducible refine w_makeK ?_ | with_reducible refine w_methN ?_ | with_reducible refine w_callN ?_ | with_reducible refine w_dget ?_ | with_reducible refine w_din ?_ | with_reducible refine w_dnin ?_ | with_reducible refine s_fld ?_ | with_reducible refine w_sl ?_ | with_reducible refine w_part ?_
  | with_reducible refine w_noPart ?_ | with_reducible refine iX ?_)

section
variable {P : Program} {w : World} {K : PySem.W.Frag} {mg : Str → Option Value} {base : Heap}
open Gap
theorem g_unl {K : PySem.W.Frag} {σ : L2.St} {B : Hp} {M : Mu} {nx : L2.St → Hp → Mu → Prop} {n : Nat} {t : TGs} {a : Addr} {xs : List V} (h : SqL K B a xs) (hl : xs.length = n) (k : wGs t xs σ B M nx) : wG (gUnl K n t) (.ref a) σ B M nx := fun H Q ok q => ⟨a, xs, rfl, ok.sqL h, hl, k H Q ok q⟩
def S_law (K : PySem.W.Frag) : Spc := fun vs B M R => ∃ (a : Addr) (xs : List Int), vs = [.ref a] ∧ SqL K B a (xs.map V.int) ∧ xs.length ≤ 100000 ∧ ∀ B1 M1, R (.bl true) B1 M1
theorem sc_law : FnScope ["_law_script", "_law_k", "_law_stream_here", "_law_kinds_here", "_law_calls_here", "_law_moments_here", "_law_tolds_here", "_law_plan_here", "_law_fleet_here", "_law_distance", "_law_other", "_law_moment", "_law_one"] ["_law_script"] (defScope (top 90)) := ⟨rfl, rfl, rfl, by decide +kernel, rfl, by decide +kernel, by decide +kernel⟩
theorem okf_law (T : Tx K mg) {fd : FuncData} (F : FunD K "law" "law" (defArgs (top 90)) (defBody (top 90)) (defScope (top 90)) [] [] (He.ga K "law") fd) : FnOkG P w K mg base 26 (He.ga K "law") fd ["_law_script"] (S_law K) := by
  have nd := sc_law.nd
  obtain ⟨fdR, FR, GR⟩ := okg_refusals (P := P) (w := w) (base := base) T
  refine fnOfG (k := 25) (S := S_law K) F sc_law (fun vs B M R ⟨_, _, e, _⟩ => by rw [e] <;> rfl) fun cdv A outer s H hr => ?_
  have hu := hu_of hr
  refine ⟨_, (pssG_cons (psG_for (fun _ _ z => z) rfl (pi_range1 (by rfl) T.f_range (pa_cons (pe_callB (call_max2 rfl) (by rfl) T.f_max (by decide +kernel) (pa_cons pe_int (pa_cons (pe_callB (call_min2 rfl) (by rfl) T.f_min (by decide +kernel) (pa_cons pe_int (pa_cons (pe_callB call_len_seq (by rfl) T.f_len (by decide +kernel) (pa_cons (pv 0) pa_nil)) pa_nil))) pa_nil))) pa_nil)) (pg_name (i := 1) nd rfl (Or.inl rfl))
    (pssG_cons (psG_up (ps_set (i := 2) nd rfl (Or.inl rfl) (C8.pe_c (ok__law_stream T) hr (by decide) (by rfl) (pa_cons (pv 0) (pa_cons (pv 1) pa_nil)))))
      (pssG_cons (psG_up (ps_asg (C8.pe_c (ok__law_large T) hr (by decide) (by rfl) (pa_cons (pv 2) (pa_cons pe_int pa_nil))) (pg_unl rfl (pgs_cons (pg_name (i := 3) nd rfl (Or.inl rfl)) (pgs_cons (pg_name (i := 4) nd rfl (Or.inl rfl)) (pgs_cons (pg_name (i := 5) nd rfl (Or.inl rfl)) (pgs_cons (pg_name (i := 6) nd rfl (Or.inl rfl)) pgs_nil)))))))
      (pssG_cons (psG_up (ps_par (i := 7) (j := 8) rfl nd rfl rfl (by decide) rfl rfl (pa_cons (C8.pe_c (ok__law_plan T) hr (by decide) (by rfl) (pa_cons (pv 5) (pa_cons (pv 6) pa_nil))) (pa_cons (C8.pe_c (ok__law_fleet T) hr (by decide) (by rfl) (pa_cons (pv 3) (pa_cons (pv 4) pa_nil))) pa_nil)) rfl))
      (pssG_cons (psG_up (ps_set (i := 9) nd rfl (Or.inr rfl) (pe_op op_add pe_int (C8.pe_c (ok__law_draw T) hr (by decide) (by rfl) (pa_cons (pv 2) (pa_cons (pe_op op_pow pe_int pe_int) pa_nil))))))
      (pssG_cons (psG_up (ps_set (i := 10) nd rfl (Or.inl rfl) (C8.pe_c (ok__law_plan T) hr (by decide) (by rfl) (pa_cons (pe_lc (own := [("_law_moment", 11)]) (g := gName 11) rfl nd (pi_list (pv 5)) (blkOk_by (own := [("_law_moment", 11)]) (N := ["_law_script", "_law_k", "_law_stream_here", "_law_kinds_here", "_law_calls_here", "_law_moments_here", "_law_tolds_here", "_law_plan_here", "_law_fleet_here", "_law_distance", "_law_other", "_law_moment", "_law_one"]) (sc := defScope (top 90)) (by decide +kernel)) (fun _ _ _ _ _ => (pg_name (i := 11) nd rfl (Or.inl rfl))) (fun _ _ _ _ _ => pts_nil) (fun _ _ _ _ _ => (pe_op op_add (pv 11) (pv 9)))) (pa_cons (pv 6) pa_nil)))))
      (pssG_cons (psG_if (ptG_not (ptG_val (peG_call (okg__law_moved_right T) hr (by decide) (by rfl) (pa_cons (pv 7) (pa_cons (pv 8) (pa_cons (pv 10) (pa_cons (pe_lc (own := [("_law_one", 12)]) (g := gName 12) rfl nd (pi_list (pv 3)) (blkOk_by (own := [("_law_one", 12)]) (N := ["_law_script", "_law_k", "_law_stream_here", "_law_kinds_here", "_law_calls_here", "_law_moments_here", "_law_tolds_here", "_law_plan_here", "_law_fleet_here", "_law_distance", "_law_other", "_law_moment", "_law_one"]) (sc := defScope (top 90)) (by decide +kernel)) (fun _ _ _ _ _ => (pg_name (i := 12) nd rfl (Or.inl rfl))) (fun _ _ _ _ _ => pts_nil) (fun _ _ _ _ _ => (pe_ix (ix_tupK (K := K) rfl) (pv 12) pe_int (fun _ _ => rfl)))) (pa_cons (pv 9) pa_nil))))))))
      (pssG_up (pss_one (ps_ret pe_bl)))
      (pssG_up pss_nil))
      (pssG_cons (psG_if (ptG_not (ptG_val (peG_call (okg__law_cut_right T) hr (by decide) (by rfl) (pa_cons (pv 7) (pa_cons (pv 8) (pa_cons (C8.pe_c (ok__law_draw T) hr (by decide) (by rfl) (pa_cons (pv 2) (pa_cons (pe_callB call_len_seq (by rfl) T.f_len (by decide +kernel) (pa_cons (pv 5) pa_nil)) pa_nil))) pa_nil))))))
      (pssG_up (pss_one (ps_ret pe_bl)))
      (pssG_up pss_nil))
      (pssG_cons (psG_if (ptG_not (ptG_val (peG_call (okg__law_led_right T) hr (by decide) (by rfl) (pa_cons (pv 2) (pa_cons (pv 3) (pa_cons (pv 4) (pa_cons (pv 5) (pa_cons (pv 6) pa_nil))))))))
      (pssG_up (pss_one (ps_ret pe_bl)))
      (pssG_up pss_nil))
      (pssG_up pss_nil))))))))))
    (pssG_up (pss_one (ps_ret pe_bl)))), ?_⟩
  rintro vs B M R ⟨a, xs, rfl, ha, hl, k⟩
  refine s_seq (s_for (i_rng1 ?_))
  repeat trivial
  refine wc_lenL ha ?_
  rw [List.length_map]
  repeat trivial
  refine wc_min2 ?_
  repeat trivial
  refine wc_max2 ?_
  generalize hm : (if (if ((xs.length : Nat) : Int) < 6 then ((xs.length : Nat) : Int) else 6) > 1 then (if ((xs.length : Nat) : Int) < 6 then ((xs.length : Nat) : Int) else 6) else 1) = m
  have m0 : 1 ≤ m := by rw [← hm]; split <;> omega
  have m6 : m ≤ 6 := by rw [← hm]; split <;> (try split) <;> omega
  repeat trivial
  refine ⟨m, rfl, by omega, by omega, _, _, _, wb_range, fun i σ' B' M' => (∃ u1 u2 u3 u4 u5 u6 u7 u8 u9 u10 u11 u12, σ' = [some (.ref a), u1, u2, u3, u4, u5, u6, u7, u8, u9, u10, u11, u12]) ∧ Ex B B', ⟨⟨_, _, _, _, _, _, _, _, _, _, _, _, rfl⟩, Ex.refl _⟩, fun i σ' B' M' _ h => ⟨h.2, True.intro⟩, ?_, ?_⟩
  · rintro i x σ' B' M' B2 hi ⟨⟨u1, u2, u3, u4, u5, u6, u7, u8, u9, u10, u11, u12, rfl⟩, e1⟩ e2 rfl
    have hi6 : i < 6 := by omega
    have e3 := e1.trans e2
    repeat trivial
    refine ⟨a, i, xs, by rw [Int.zero_add] <;> rfl, Evl.ex_l e3 ha, by omega, fun p pB pM => ?_⟩
    repeat trivial
    refine ⟨p, ⟨⟩, rfl, updM_same, fun B3 lp kp cp mp tp kv cv tv ks cs ms ts ps e4 hL lo => ?_⟩
    obtain ⟨hL1, hL2, hL3, hL4, hL5, hL6, hL7, hL8⟩ := hL
    refine g_unl (.of hL1) rfl (gs_cons (g_name (gs_cons (g_name (gs_cons (g_name (gs_cons (g_name (gs_nil ?_)))))))))
    have ml := lo.len
    have m7 := lo.most
    have m1 := lo.few
    have k4 := lo.ko.few
    have hkl := f2_len hL3
    repeat trivial
    refine ⟨mp, tp, ms, tv, ts, ⟨⟩, rfl, hL6, hL7, hL8, ml, lo.eds, fun B4 pl1 e5 hp1 => ?_⟩
    repeat trivial
    refine ⟨kp, cp, kv, cv, ks, cs, ⟨⟩, rfl, e5 _ _ hL2, f2_mono (fun _ _ w => KdT.ex e5 w) hL3, e5 _ _ hL4, f2_mono (fun _ _ w => CallV.ex e5 w) hL5, lo.ko, lo.co, fun B5 M1 fa kd rd e6 mx1 fl1 => ?_⟩
    have hM1 : M1 p = some isSt := mx1 _ _ updM_same
    have e7 := e5.trans e6
    have fo := flOk lo.ko lo.co
    repeat trivial
    refine ⟨_, _, rfl, ?_⟩
    repeat trivial
    refine wr_I ⟨by omega, by omega, by decide +kernel⟩ ?_
    repeat trivial
    refine ⟨p, _, rfl, hM1, by decide +kernel, by decide +kernel, fun r r0 r1 => ?_⟩
    have r1' : r < 10 ^ 39 := r1
    obtain ⟨d, hd⟩ : ∃ d, d = 1 + r := ⟨_, rfl⟩
    repeat trivial
    rw [← hd]
    refine w_lc (i_list ?_)
    repeat trivial
    refine ⟨mp, _, rfl, .of (e7 _ _ hL6), _, _, _, wb_list (.of (e7 _ _ hL6)), by rw [List.length_map]; omega, fun i acc _ => acc = ((mv d ms).take i).map V.int, rfl, fun mq hD hM2 => ⟨fun _ => True.intro, ?_, ?_⟩⟩
    · rintro j x acc B' B6 hj hl2 e8 rfl e9 hx
      rw [List.getElem?_map] at hx
      obtain ⟨y, hy, rfl⟩ := Option.map_eq_some_iff.mp hx
      repeat trivial
      refine ⟨rfl, Ex.refl _, ?_⟩
      show _ = ((mv d ms).take (j + 1)).map V.int
      unfold mv
      rw [List.take_add_one, List.getElem?_map, hy, List.map_append]
      rfl
    rintro acc B6 e8 mn _ rfl
    rw [show (ms.map V.int).length = (mv d ms).length by rw [List.length_map, mv_len], List.take_length]
    have x1 := exNew (o := .lst ((mv d ms).map V.int)) mn
    have e9 := e8.trans x1
    have e10 := e7.trans e9
    repeat trivial
    refine ⟨mq, tp, mv d ms, tv, ts, ⟨⟩, rfl, upd_same, e10 _ _ hL7, f2_mono (fun _ _ w => ToldT.ex e10 w) hL8, by rw [mv_len]; exact ml, by rw [← mvE_zip]; exact lo.edsMv (by omega) (by omega), fun B7 pl2 e11 hp2 => ?_⟩
    rw [← mvE_zip] at hp2
    have e12 := e10.trans e11
    have e13 := (e6.trans e9).trans e11
    repeat trivial
    refine w_lc (i_list ?_)
    repeat trivial
    refine ⟨kp, _, rfl, .of (e12 _ _ hL2), _, _, _, wb_list (.of (e12 _ _ hL2)), by omega, fun i acc _ => acc = ((ks.map Kd.name).take i).map V.str, rfl, fun nl hD hM2 => ⟨fun _ => True.intro, ?_, ?_⟩⟩
    · rintro j x acc B' B8 hj hl2 e14 rfl e15 hx
      obtain ⟨kx, hkx, t1, rfl, h1⟩ := f2_get hL3 hx
      repeat trivial
      refine wr_ixT (.of (((e12.trans e14).trans e15) _ _ h1)) (v := .str kx.name) (by rfl) ?_
      refine ⟨rfl, Ex.refl _, ?_⟩
      show _ = ((ks.map Kd.name).take (j + 1)).map V.str
      rw [List.take_add_one, List.getElem?_map, hkx, List.map_append]
      rfl
    rintro acc B8 e14 nn _ rfl
    rw [show kv.length = (ks.map Kd.name).length by rw [List.length_map]; exact hkl, List.take_length]
    have x2 := exNew (o := .lst ((ks.map Kd.name).map V.str)) nn
    have e15 := e14.trans x2
    have e16 := e13.trans e15
    have e17 := e12.trans e15
    have flx := fl1.mx ((e9.trans e11).trans e15) (fun _ _ h => h)
    repeat trivial
    refine ⟨pl1, pl2, fa, kd, rd, nl, ms.zip ts, ks, cs, ks.map Kd.name, d, ⟨⟩, ⟨⟩, rfl, hp1.ex e16, lo.eds, hp2.ex e15, lo.edsMv (by omega) (by omega), flx, fo, lo.fits, lo.fitsMv, upd_same, fun z hz => hz, by omega, by omega, fun B9 e18 => ?_⟩
    have e19 := e17.trans e18
    repeat trivial
    refine wc_lenL (.of (e19 _ _ hL6)) ?_
    rw [List.length_map]
    repeat trivial
    refine ⟨p, _, rfl, hM1, by omega, by omega, fun q q0 q1 => ?_⟩
    obtain ⟨n, rfl⟩ : ∃ n : Nat, q = n := ⟨q.toNat, by omega⟩
    repeat trivial
    refine ⟨pl1, fa, kd, rd, ms.zip ts, ks, cs, n, ⟨⟩, rfl, hp1.ex (e16.trans e18), lo.eds, flx.mx e18 (fun _ _ h => h), fo, lo.fits, by rw [List.length_zip]; omega, fun B10 e20 => ?_⟩
    have e21 := e19.trans e20
    repeat trivial
    refine ⟨p, kp, cp, mp, tp, kv, cv, tv, ks, cs, ms, ts, ps, ⟨⟩, rfl, hM1, e21 _ _ hL2, f2_mono (fun _ _ w => KdT.ex e21 w) hL3, e21 _ _ hL4, f2_mono (fun _ _ w => CallV.ex e21 w) hL5, e21 _ _ hL6, e21 _ _ hL7, f2_mono (fun _ _ w => ToldT.ex e21 w) hL8, lo, fun B11 M2 e22 mx2 => ?_⟩
    repeat trivial
    exact ⟨⟨_, _, _, _, _, _, _, _, _, _, _, _, rfl⟩, ((e3.trans e4).trans e21).trans e22⟩
  · rintro σ' B' M' ⟨⟨u1, u2, u3, u4, u5, u6, u7, u8, u9, u10, u11, u12, rfl⟩, e1⟩
    repeat trivial
    exact k _ _
end
end Ab
/-! ## D36 -/
set_option Elab.async false
set_option linter.all false
set_option maxRecDepth 100000
set_option maxHeartbeats 0
/-! D36: the claim -/
namespace Ab
open PySem PySem.Spec PyProof.Rows L2 Gap
theorem facts {P : Program} {w : World} {K : PySem.W.Frag} {h : Heap} {mg : Str → Option Value} {f : Addr} (X : K.In h) (G : h.Ns mainGlobals mg) (hfa : mg ("law" : Str) = some (.ref f)) (c : Says K) :
    ∃ fd : FuncData, (∀ (s : Shared) (v : Value), BindsTo s fd ⟨[v], []⟩ [("_law_script", v)]) ∧ ∀ base : Heap, K.In base → base.Ns mainGlobals mg → FnOkG P w K mg base 26 f fd ["_law_script"] (S_law K) := by
  have T : Tx K mg := ⟨⟨h, X, G⟩, c⟩
  obtain ⟨fd, F⟩ := T.d_law
  have e := hfa.symm.trans T.g_law
  cases e
  have b := FunD.bindsA (ps := ["_law_script"]) F fun _ _ _ _ _ _ us hl => match us, hl with | [_], _ => rfl
  exact ⟨fd, fun s v => b s [v] rfl, fun base kb gb => okf_law ⟨⟨base, kb, gb⟩, c⟩ F⟩
theorem law_pm {K : PySem.W.Frag} {H : Hp} {a : Addr} {ns : List Int} (hl : ns.length ≤ 63) (hS : SqL K H a (ns.map V.int)) : Pm (S_law K) [.ref a] H (fun v _ => v = .bl true) C8.E0 :=
  ⟨H, fun _ => none, fun v _ _ => v = .bl true, ⟨fun _ _ e => e, fun _ _ e => nomatch e⟩, ⟨a, ns, rfl, hS, by omega, fun _ _ => rfl⟩, fun _ _ _ _ _ e => e⟩
end Ab
open PySem PySem.W PySem.Calls PyProof.Rows
theorem PySem.Challenge.cw_gaplesskeys_k32_whole_two_plans_behind_o_holds : PySem.Challenge.rw_gaplesskeys_k32_whole_two_plans_behind_o.Holds := by
  w_on; o_law
  refine Gap.head_anyG (r := OpenLaw.row PySem.Challenge.rw_gaplesskeys_k32_whole_two_plans_behind_o) (q := view (OpenLaw.row PySem.Challenge.rw_gaplesskeys_k32_whole_two_plans_behind_o).prog [90]) (H := Ab.hk) (ob := Ab.ob) (m := 12000) (loose := Ab.loose) (d := HandSHeadRun.topDef (OpenLaw.row PySem.Challenge.rw_gaplesskeys_k32_whole_two_plans_behind_o).prog 90) (kwd := []) Ab.ob_eq
    (by kernel_rfl) (fun s => by kernel_rfl) Ab.run (by kernel_rfl) (by kernel_rfl) (by kernel_rfl) (by rfl) (by first | assumption | decide +kernel) (by decide +kernel) ⟨rfl, rfl, rfl, rfl, rfl, by decide +kernel⟩ ?hw ?hc
  case hw => w_witness2
  case hc =>
    refine Gap.walkG_of (l := PySem.Challenge.rw_gaplesskeys_k32_whole_two_plans_behind_o) (n := 63) (k := 26) (x := "_law_script") rfl (by decide) (by kernel_rfl) ⟨rfl, by decide, by decide⟩ ?F
    intro w mg fa h Y G hmg0
    obtain ⟨K, KX, c⟩ := Y
    have hmg : mg ("law" : PySem.Str) = some (.ref fa) := by
      have e : (HandSHeadRun.topDef (OpenLaw.row PySem.Challenge.rw_gaplesskeys_k32_whole_two_plans_behind_o).prog 90).name = ("law" : PySem.Str) := by kernel_rfl
      rw [← e]
      exact hmg0
    obtain ⟨fd, hb, hF⟩ := Ab.facts (P := (PySem.Challenge.rw_gaplesskeys_k32_whole_two_plans_behind_o).prog) (w := w) KX G hmg c
    exact ⟨K, fd, Ab.S_law K, KX, hb, fun H a ns hl hS => Ab.law_pm hl hS, hF⟩
