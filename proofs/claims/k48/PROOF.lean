import PyProof.Rows.All
import Wide.All
import OpenK.AllK
import Wide.FinOn
import HandS.ForMost
import HandS.Defaults
import HandS.Head0
import HandS.Head1
import HandS.Head2
import HandS.HeadEnd
import HandS.HeadHook1
import HandS.HeadHook2
import HandS.IsInst
import HandS.Conv
import HandS.TupAny
import HandS.TupLe
import HandS.Deep
import HandS.Style
import HandS.Strs
import HandS.SetFor
import HandS.Walk
import HandS.Flow
import HandS.TupSets
import HandS.DictTup
import HandS.Wide
import KE.SortData
import KE.KDictKeyed
import KE.KDictCopyH
import KE.GoesMore
import PySem.Challenge.RW_countdoors_k48_whole_plans_of_keepers
set_option Elab.async false
set_option linter.all false
set_option maxRecDepth 100000
set_option maxHeartbeats 0
set_option autoImplicit false
/-! ### the text by places, facts by names (printed by gen_head.py) -/
namespace Kd
open PySem PySem.Spec PyProof.Rows L2
def top (i : Nat) : Stmt := PySem.Challenge.pw_countdoors_k48_whole_plans_of_keepers.main.body.getD i (.Pass ⟨0, 0, 0, 0⟩)
abbrev FnP (K : PySem.W.Frag) (x : Str) (st : Stmt) (f : Addr) (fd : FuncData) : Prop := FunD K x x (defArgs st) (defBody st) (defScope st) [] [] f fd
abbrev s_is_in : Stmt := top 7
def d_is_in : He.DefD := ⟨("is_in", none), "is_in", "is_in", defArgs s_is_in, defBody s_is_in, defScope s_is_in, [], []⟩
abbrev s_need_nest : Stmt := top 11
def d_need_nest : He.DefD := ⟨("need_nest", none), "need_nest", "need_nest", defArgs s_need_nest, defBody s_need_nest, defScope s_need_nest, [], []⟩
abbrev s_is_set : Stmt := top 12
def d_is_set : He.DefD := ⟨("is_set", none), "is_set", "is_set", defArgs s_is_set, defBody s_is_set, defScope s_is_set, [], []⟩
abbrev s_need_numbers : Stmt := top 13
def d_need_numbers : He.DefD := ⟨("need_numbers", none), "need_numbers", "need_numbers", defArgs s_need_numbers, defBody s_need_numbers, defScope s_need_numbers, [], []⟩
abbrev s_around_in : Stmt := top 14
def d_around_in : He.DefD := ⟨("around_in", none), "around_in", "around_in", defArgs s_around_in, defBody s_around_in, defScope s_around_in, [], []⟩
abbrev s_inside_in : Stmt := top 15
def d_inside_in : He.DefD := ⟨("inside_in", none), "inside_in", "inside_in", defArgs s_inside_in, defBody s_inside_in, defScope s_inside_in, [], []⟩
abbrev s_need_state : Stmt := top 17
def d_need_state : He.DefD := ⟨("need_state", none), "need_state", "need_state", defArgs s_need_state, defBody s_need_state, defScope s_need_state, [], []⟩
abbrev s_need_both : Stmt := top 18
def d_need_both : He.DefD := ⟨("need_both", none), "need_both", "need_both", defArgs s_need_both, defBody s_need_both, defScope s_need_both, [], []⟩
abbrev s_count_in : Stmt := top 19
def d_count_in : He.DefD := ⟨("count_in", none), "count_in", "count_in", defArgs s_count_in, defBody s_count_in, defScope s_count_in, [], []⟩
abbrev s_ready_in : Stmt := top 20
def d_ready_in : He.DefD := ⟨("ready_in", none), "ready_in", "ready_in", defArgs s_ready_in, defBody s_ready_in, defScope s_ready_in, [], []⟩
abbrev s_further : Stmt := top 22
def d_further : He.DefD := ⟨("further", none), "further", "further", defArgs s_further, defBody s_further, defScope s_further, [], []⟩
abbrev s_need_flag : Stmt := top 24
def d_need_flag : He.DefD := ⟨("need_flag", none), "need_flag", "need_flag", defArgs s_need_flag, defBody s_need_flag, defScope s_need_flag, [], []⟩
abbrev s_value_in : Stmt := top 25
def d_value_in : He.DefD := ⟨("value_in", none), "value_in", "value_in", defArgs s_value_in, defBody s_value_in, defScope s_value_in, [], []⟩
abbrev s_kept_open : Stmt := top 26
def d_kept_open : He.DefD := ⟨("kept_open", none), "kept_open", "kept_open", defArgs s_kept_open, defBody s_kept_open, defScope s_kept_open, [], []⟩
abbrev s_need_play : Stmt := top 27
def d_need_play : He.DefD := ⟨("need_play", none), "need_play", "need_play", defArgs s_need_play, defBody s_need_play, defScope s_need_play, [], []⟩
abbrev s_keeper_plan : Stmt := top 28
def d_keeper_plan : He.DefD := ⟨("keeper_plan", none), "keeper_plan", "keeper_plan", defArgs s_keeper_plan, defBody s_keeper_plan, defScope s_keeper_plan, [], []⟩
abbrev s_is_table : Stmt := top 29
def d_is_table : He.DefD := ⟨("is_table", none), "is_table", "is_table", defArgs s_is_table, defBody s_is_table, defScope s_is_table, [], []⟩
abbrev s_shows_plan : Stmt := top 30
def d_shows_plan : He.DefD := ⟨("shows_plan", none), "shows_plan", "shows_plan", defArgs s_shows_plan, defBody s_shows_plan, defScope s_shows_plan, [], []⟩
abbrev s_law_taken : Stmt := top 32
def d_law_taken : He.DefD := ⟨("_law_taken", none), "_law_taken", "_law_taken", defArgs s_law_taken, defBody s_law_taken, defScope s_law_taken, [], []⟩
abbrev s_law_pick : Stmt := top 33
def d_law_pick : He.DefD := ⟨("_law_pick", none), "_law_pick", "_law_pick", defArgs s_law_pick, defBody s_law_pick, defScope s_law_pick, [], []⟩
abbrev s_law_nest : Stmt := top 34
def d_law_nest : He.DefD := ⟨("_law_nest", none), "_law_nest", "_law_nest", defArgs s_law_nest, defBody s_law_nest, defScope s_law_nest, [], []⟩
abbrev s_law_insides : Stmt := top 35
def d_law_insides : He.DefD := ⟨("_law_insides", none), "_law_insides", "_law_insides", defArgs s_law_insides, defBody s_law_insides, defScope s_law_insides, [], []⟩
abbrev s_law_numbers : Stmt := top 36
def d_law_numbers : He.DefD := ⟨("_law_numbers", none), "_law_numbers", "_law_numbers", defArgs s_law_numbers, defBody s_law_numbers, defScope s_law_numbers, [], []⟩
abbrev s_law_thin : Stmt := top 37
def d_law_thin : He.DefD := ⟨("_law_thin", none), "_law_thin", "_law_thin", defArgs s_law_thin, defBody s_law_thin, defScope s_law_thin, [], []⟩
abbrev s_law_opened : Stmt := top 38
def d_law_opened : He.DefD := ⟨("_law_opened", none), "_law_opened", "_law_opened", defArgs s_law_opened, defBody s_law_opened, defScope s_law_opened, [], []⟩
abbrev s_law_ready : Stmt := top 39
def d_law_ready : He.DefD := ⟨("_law_ready", none), "_law_ready", "_law_ready", defArgs s_law_ready, defBody s_law_ready, defScope s_law_ready, [], []⟩
abbrev s_law_further : Stmt := top 40
def d_law_further : He.DefD := ⟨("_law_further", none), "_law_further", "_law_further", defArgs s_law_further, defBody s_law_further, defScope s_law_further, [], []⟩
abbrev s_law_end : Stmt := top 41
def d_law_end : He.DefD := ⟨("_law_end", none), "_law_end", "_law_end", defArgs s_law_end, defBody s_law_end, defScope s_law_end, [], []⟩
abbrev s_law_follows : Stmt := top 42
def d_law_follows : He.DefD := ⟨("_law_follows", none), "_law_follows", "_law_follows", defArgs s_law_follows, defBody s_law_follows, defScope s_law_follows, [], []⟩
abbrev s_law : Stmt := top 43
def d_law : He.DefD := ⟨("law", none), "law", "law", defArgs s_law, defBody s_law, defScope s_law, [], []⟩
def fn : List He.DefD := [d_is_in, d_need_nest, d_is_set, d_need_numbers, d_around_in, d_inside_in, d_need_state, d_need_both, d_count_in, d_ready_in, d_further, d_need_flag, d_value_in, d_kept_open, d_need_play, d_keeper_plan, d_is_table, d_shows_plan, d_law_taken, d_law_pick, d_law_nest, d_law_insides, d_law_numbers, d_law_thin, d_law_opened, d_law_ready, d_law_further, d_law_end, d_law_follows, d_law]
def fa : List He.Fa := [.glo "is_in", .glo "need_nest", .glo "is_set", .glo "need_numbers", .glo "around_in", .glo "inside_in", .glo "need_state", .glo "need_both", .glo "count_in", .glo "ready_in", .glo "further", .glo "need_flag", .glo "value_in", .glo "kept_open", .glo "need_play", .glo "keeper_plan", .glo "is_table", .glo "shows_plan", .glo "_law_taken", .glo "_law_pick", .glo "_law_nest", .glo "_law_insides", .glo "_law_numbers", .glo "_law_thin", .glo "_law_opened", .glo "_law_ready", .glo "_law_further", .glo "_law_end", .glo "_law_follows", .glo "law", .free "isinstance", .free "int", .free "bool", .free "tuple", .free "len", .free "range", .free "enumerate", .free "list", .free "sorted", .free "set", .free "max", .free "min", .free "dict", .int "MOST_DOORS" 9, .int "MOST_NUMBER" 8]
/-- what the top has left: the facts by names -/
structure Txt (K : PySem.W.Frag) (mg : Str → Option Value) : Prop where
  ex : ∃ h : Heap, K.In h ∧ h.Ns mainGlobals mg ∧ He.SaysD fa fn K
section
variable {K : PySem.W.Frag} {mg : Str → Option Value} (T : Txt K mg)
include T
theorem Txt.m_is_in : mg "is_in" = some (.ref (He.ga K "is_in")) := let ⟨_, X, G, c⟩ := T.ex; He.glo_ok X G (c.fact 0 (f := .glo "is_in") rfl)
theorem Txt.f_is_in : ∃ fd, FnP K "is_in" s_is_in (He.ga K "is_in") fd := let ⟨_, _, _, c⟩ := T.ex; c.def_ 0 (d := d_is_in) rfl
theorem Txt.m_need_nest : mg "need_nest" = some (.ref (He.ga K "need_nest")) := let ⟨_, X, G, c⟩ := T.ex; He.glo_ok X G (c.fact 1 (f := .glo "need_nest") rfl)
theorem Txt.f_need_nest : ∃ fd, FnP K "need_nest" s_need_nest (He.ga K "need_nest") fd := let ⟨_, _, _, c⟩ := T.ex; c.def_ 1 (d := d_need_nest) rfl
theorem Txt.m_is_set : mg "is_set" = some (.ref (He.ga K "is_set")) := let ⟨_, X, G, c⟩ := T.ex; He.glo_ok X G (c.fact 2 (f := .glo "is_set") rfl)
theorem Txt.f_is_set : ∃ fd, FnP K "is_set" s_is_set (He.ga K "is_set") fd := let ⟨_, _, _, c⟩ := T.ex; c.def_ 2 (d := d_is_set) rfl
theorem Txt.m_need_numbers : mg "need_numbers" = some (.ref (He.ga K "need_numbers")) := let ⟨_, X, G, c⟩ := T.ex; He.glo_ok X G (c.fact 3 (f := .glo "need_numbers") rfl)
theorem Txt.f_need_numbers : ∃ fd, FnP K "need_numbers" s_need_numbers (He.ga K "need_numbers") fd := let ⟨_, _, _, c⟩ := T.ex; c.def_ 3 (d := d_need_numbers) rfl
theorem Txt.m_around_in : mg "around_in" = some (.ref (He.ga K "around_in")) := let ⟨_, X, G, c⟩ := T.ex; He.glo_ok X G (c.fact 4 (f := .glo "around_in") rfl)
theorem Txt.f_around_in : ∃ fd, FnP K "around_in" s_around_in (He.ga K "around_in") fd := let ⟨_, _, _, c⟩ := T.ex; c.def_ 4 (d := d_around_in) rfl
theorem Txt.m_inside_in : mg "inside_in" = some (.ref (He.ga K "inside_in")) := let ⟨_, X, G, c⟩ := T.ex; He.glo_ok X G (c.fact 5 (f := .glo "inside_in") rfl)
theorem Txt.f_inside_in : ∃ fd, FnP K "inside_in" s_inside_in (He.ga K "inside_in") fd := let ⟨_, _, _, c⟩ := T.ex; c.def_ 5 (d := d_inside_in) rfl
theorem Txt.m_need_state : mg "need_state" = some (.ref (He.ga K "need_state")) := let ⟨_, X, G, c⟩ := T.ex; He.glo_ok X G (c.fact 6 (f := .glo "need_state") rfl)
theorem Txt.f_need_state : ∃ fd, FnP K "need_state" s_need_state (He.ga K "need_state") fd := let ⟨_, _, _, c⟩ := T.ex; c.def_ 6 (d := d_need_state) rfl
theorem Txt.m_need_both : mg "need_both" = some (.ref (He.ga K "need_both")) := let ⟨_, X, G, c⟩ := T.ex; He.glo_ok X G (c.fact 7 (f := .glo "need_both") rfl)
theorem Txt.f_need_both : ∃ fd, FnP K "need_both" s_need_both (He.ga K "need_both") fd := let ⟨_, _, _, c⟩ := T.ex; c.def_ 7 (d := d_need_both) rfl
theorem Txt.m_count_in : mg "count_in" = some (.ref (He.ga K "count_in")) := let ⟨_, X, G, c⟩ := T.ex; He.glo_ok X G (c.fact 8 (f := .glo "count_in") rfl)
theorem Txt.f_count_in : ∃ fd, FnP K "count_in" s_count_in (He.ga K "count_in") fd := let ⟨_, _, _, c⟩ := T.ex; c.def_ 8 (d := d_count_in) rfl
theorem Txt.m_ready_in : mg "ready_in" = some (.ref (He.ga K "ready_in")) := let ⟨_, X, G, c⟩ := T.ex; He.glo_ok X G (c.fact 9 (f := .glo "ready_in") rfl)
theorem Txt.f_ready_in : ∃ fd, FnP K "ready_in" s_ready_in (He.ga K "ready_in") fd := let ⟨_, _, _, c⟩ := T.ex; c.def_ 9 (d := d_ready_in) rfl
theorem Txt.m_further : mg "further" = some (.ref (He.ga K "further")) := let ⟨_, X, G, c⟩ := T.ex; He.glo_ok X G (c.fact 10 (f := .glo "further") rfl)
theorem Txt.f_further : ∃ fd, FnP K "further" s_further (He.ga K "further") fd := let ⟨_, _, _, c⟩ := T.ex; c.def_ 10 (d := d_further) rfl
theorem Txt.m_need_flag : mg "need_flag" = some (.ref (He.ga K "need_flag")) := let ⟨_, X, G, c⟩ := T.ex; He.glo_ok X G (c.fact 11 (f := .glo "need_flag") rfl)
theorem Txt.f_need_flag : ∃ fd, FnP K "need_flag" s_need_flag (He.ga K "need_flag") fd := let ⟨_, _, _, c⟩ := T.ex; c.def_ 11 (d := d_need_flag) rfl
theorem Txt.m_value_in : mg "value_in" = some (.ref (He.ga K "value_in")) := let ⟨_, X, G, c⟩ := T.ex; He.glo_ok X G (c.fact 12 (f := .glo "value_in") rfl)
theorem Txt.f_value_in : ∃ fd, FnP K "value_in" s_value_in (He.ga K "value_in") fd := let ⟨_, _, _, c⟩ := T.ex; c.def_ 12 (d := d_value_in) rfl
theorem Txt.m_kept_open : mg "kept_open" = some (.ref (He.ga K "kept_open")) := let ⟨_, X, G, c⟩ := T.ex; He.glo_ok X G (c.fact 13 (f := .glo "kept_open") rfl)
theorem Txt.f_kept_open : ∃ fd, FnP K "kept_open" s_kept_open (He.ga K "kept_open") fd := let ⟨_, _, _, c⟩ := T.ex; c.def_ 13 (d := d_kept_open) rfl
theorem Txt.m_need_play : mg "need_play" = some (.ref (He.ga K "need_play")) := let ⟨_, X, G, c⟩ := T.ex; He.glo_ok X G (c.fact 14 (f := .glo "need_play") rfl)
theorem Txt.f_need_play : ∃ fd, FnP K "need_play" s_need_play (He.ga K "need_play") fd := let ⟨_, _, _, c⟩ := T.ex; c.def_ 14 (d := d_need_play) rfl
theorem Txt.m_keeper_plan : mg "keeper_plan" = some (.ref (He.ga K "keeper_plan")) := let ⟨_, X, G, c⟩ := T.ex; He.glo_ok X G (c.fact 15 (f := .glo "keeper_plan") rfl)
theorem Txt.f_keeper_plan : ∃ fd, FnP K "keeper_plan" s_keeper_plan (He.ga K "keeper_plan") fd := let ⟨_, _, _, c⟩ := T.ex; c.def_ 15 (d := d_keeper_plan) rfl
theorem Txt.m_is_table : mg "is_table" = some (.ref (He.ga K "is_table")) := let ⟨_, X, G, c⟩ := T.ex; He.glo_ok X G (c.fact 16 (f := .glo "is_table") rfl)
theorem Txt.f_is_table : ∃ fd, FnP K "is_table" s_is_table (He.ga K "is_table") fd := let ⟨_, _, _, c⟩ := T.ex; c.def_ 16 (d := d_is_table) rfl
theorem Txt.m_shows_plan : mg "shows_plan" = some (.ref (He.ga K "shows_plan")) := let ⟨_, X, G, c⟩ := T.ex; He.glo_ok X G (c.fact 17 (f := .glo "shows_plan") rfl)
theorem Txt.f_shows_plan : ∃ fd, FnP K "shows_plan" s_shows_plan (He.ga K "shows_plan") fd := let ⟨_, _, _, c⟩ := T.ex; c.def_ 17 (d := d_shows_plan) rfl
theorem Txt.m_law_taken : mg "_law_taken" = some (.ref (He.ga K "_law_taken")) := let ⟨_, X, G, c⟩ := T.ex; He.glo_ok X G (c.fact 18 (f := .glo "_law_taken") rfl)
theorem Txt.f_law_taken : ∃ fd, FnP K "_law_taken" s_law_taken (He.ga K "_law_taken") fd := let ⟨_, _, _, c⟩ := T.ex; c.def_ 18 (d := d_law_taken) rfl
theorem Txt.m_law_pick : mg "_law_pick" = some (.ref (He.ga K "_law_pick")) := let ⟨_, X, G, c⟩ := T.ex; He.glo_ok X G (c.fact 19 (f := .glo "_law_pick") rfl)
theorem Txt.f_law_pick : ∃ fd, FnP K "_law_pick" s_law_pick (He.ga K "_law_pick") fd := let ⟨_, _, _, c⟩ := T.ex; c.def_ 19 (d := d_law_pick) rfl
theorem Txt.m_law_nest : mg "_law_nest" = some (.ref (He.ga K "_law_nest")) := let ⟨_, X, G, c⟩ := T.ex; He.glo_ok X G (c.fact 20 (f := .glo "_law_nest") rfl)
theorem Txt.f_law_nest : ∃ fd, FnP K "_law_nest" s_law_nest (He.ga K "_law_nest") fd := let ⟨_, _, _, c⟩ := T.ex; c.def_ 20 (d := d_law_nest) rfl
theorem Txt.m_law_insides : mg "_law_insides" = some (.ref (He.ga K "_law_insides")) := let ⟨_, X, G, c⟩ := T.ex; He.glo_ok X G (c.fact 21 (f := .glo "_law_insides") rfl)
theorem Txt.f_law_insides : ∃ fd, FnP K "_law_insides" s_law_insides (He.ga K "_law_insides") fd := let ⟨_, _, _, c⟩ := T.ex; c.def_ 21 (d := d_law_insides) rfl
theorem Txt.m_law_numbers : mg "_law_numbers" = some (.ref (He.ga K "_law_numbers")) := let ⟨_, X, G, c⟩ := T.ex; He.glo_ok X G (c.fact 22 (f := .glo "_law_numbers") rfl)
theorem Txt.f_law_numbers : ∃ fd, FnP K "_law_numbers" s_law_numbers (He.ga K "_law_numbers") fd := let ⟨_, _, _, c⟩ := T.ex; c.def_ 22 (d := d_law_numbers) rfl
theorem Txt.m_law_thin : mg "_law_thin" = some (.ref (He.ga K "_law_thin")) := let ⟨_, X, G, c⟩ := T.ex; He.glo_ok X G (c.fact 23 (f := .glo "_law_thin") rfl)
theorem Txt.f_law_thin : ∃ fd, FnP K "_law_thin" s_law_thin (He.ga K "_law_thin") fd := let ⟨_, _, _, c⟩ := T.ex; c.def_ 23 (d := d_law_thin) rfl
theorem Txt.m_law_opened : mg "_law_opened" = some (.ref (He.ga K "_law_opened")) := let ⟨_, X, G, c⟩ := T.ex; He.glo_ok X G (c.fact 24 (f := .glo "_law_opened") rfl)
theorem Txt.f_law_opened : ∃ fd, FnP K "_law_opened" s_law_opened (He.ga K "_law_opened") fd := let ⟨_, _, _, c⟩ := T.ex; c.def_ 24 (d := d_law_opened) rfl
theorem Txt.m_law_ready : mg "_law_ready" = some (.ref (He.ga K "_law_ready")) := let ⟨_, X, G, c⟩ := T.ex; He.glo_ok X G (c.fact 25 (f := .glo "_law_ready") rfl)
theorem Txt.f_law_ready : ∃ fd, FnP K "_law_ready" s_law_ready (He.ga K "_law_ready") fd := let ⟨_, _, _, c⟩ := T.ex; c.def_ 25 (d := d_law_ready) rfl
theorem Txt.m_law_further : mg "_law_further" = some (.ref (He.ga K "_law_further")) := let ⟨_, X, G, c⟩ := T.ex; He.glo_ok X G (c.fact 26 (f := .glo "_law_further") rfl)
theorem Txt.f_law_further : ∃ fd, FnP K "_law_further" s_law_further (He.ga K "_law_further") fd := let ⟨_, _, _, c⟩ := T.ex; c.def_ 26 (d := d_law_further) rfl
theorem Txt.m_law_end : mg "_law_end" = some (.ref (He.ga K "_law_end")) := let ⟨_, X, G, c⟩ := T.ex; He.glo_ok X G (c.fact 27 (f := .glo "_law_end") rfl)
theorem Txt.f_law_end : ∃ fd, FnP K "_law_end" s_law_end (He.ga K "_law_end") fd := let ⟨_, _, _, c⟩ := T.ex; c.def_ 27 (d := d_law_end) rfl
theorem Txt.m_law_follows : mg "_law_follows" = some (.ref (He.ga K "_law_follows")) := let ⟨_, X, G, c⟩ := T.ex; He.glo_ok X G (c.fact 28 (f := .glo "_law_follows") rfl)
theorem Txt.f_law_follows : ∃ fd, FnP K "_law_follows" s_law_follows (He.ga K "_law_follows") fd := let ⟨_, _, _, c⟩ := T.ex; c.def_ 28 (d := d_law_follows) rfl
theorem Txt.m_law : mg "law" = some (.ref (He.ga K "law")) := let ⟨_, X, G, c⟩ := T.ex; He.glo_ok X G (c.fact 29 (f := .glo "law") rfl)
theorem Txt.f_law : ∃ fd, FnP K "law" s_law (He.ga K "law") fd := let ⟨_, _, _, c⟩ := T.ex; c.def_ 29 (d := d_law) rfl
theorem Txt.z_isinstance : mg "isinstance" = none := let ⟨_, X, G, c⟩ := T.ex; He.free_ok X G (c.fact 30 (f := .free "isinstance") rfl)
theorem Txt.z_int : mg "int" = none := let ⟨_, X, G, c⟩ := T.ex; He.free_ok X G (c.fact 31 (f := .free "int") rfl)
theorem Txt.z_bool : mg "bool" = none := let ⟨_, X, G, c⟩ := T.ex; He.free_ok X G (c.fact 32 (f := .free "bool") rfl)
theorem Txt.z_tuple : mg "tuple" = none := let ⟨_, X, G, c⟩ := T.ex; He.free_ok X G (c.fact 33 (f := .free "tuple") rfl)
theorem Txt.z_len : mg "len" = none := let ⟨_, X, G, c⟩ := T.ex; He.free_ok X G (c.fact 34 (f := .free "len") rfl)
theorem Txt.z_range : mg "range" = none := let ⟨_, X, G, c⟩ := T.ex; He.free_ok X G (c.fact 35 (f := .free "range") rfl)
theorem Txt.z_enumerate : mg "enumerate" = none := let ⟨_, X, G, c⟩ := T.ex; He.free_ok X G (c.fact 36 (f := .free "enumerate") rfl)
theorem Txt.z_list : mg "list" = none := let ⟨_, X, G, c⟩ := T.ex; He.free_ok X G (c.fact 37 (f := .free "list") rfl)
theorem Txt.z_sorted : mg "sorted" = none := let ⟨_, X, G, c⟩ := T.ex; He.free_ok X G (c.fact 38 (f := .free "sorted") rfl)
theorem Txt.z_set : mg "set" = none := let ⟨_, X, G, c⟩ := T.ex; He.free_ok X G (c.fact 39 (f := .free "set") rfl)
theorem Txt.z_max : mg "max" = none := let ⟨_, X, G, c⟩ := T.ex; He.free_ok X G (c.fact 40 (f := .free "max") rfl)
theorem Txt.z_min : mg "min" = none := let ⟨_, X, G, c⟩ := T.ex; He.free_ok X G (c.fact 41 (f := .free "min") rfl)
theorem Txt.z_dict : mg "dict" = none := let ⟨_, X, G, c⟩ := T.ex; He.free_ok X G (c.fact 42 (f := .free "dict") rfl)
theorem Txt.i_MOST_DOORS : ∃ t, mg "MOST_DOORS" = some (.int 9 t) := let ⟨_, X, G, c⟩ := T.ex; He.int_ok X G (c.fact 43 (f := .int "MOST_DOORS" 9) rfl)
theorem Txt.i_MOST_NUMBER : ∃ t, mg "MOST_NUMBER" = some (.int 8 t) := let ⟨_, X, G, c⟩ := T.ex; He.int_ok X G (c.fact 44 (f := .int "MOST_NUMBER" 8) rfl)
end
end Kd

/-! The plain law: nests, counts, ready doors, the game's value, plans. No program in sight. -/
namespace G

/-! ### ints in a row, sorting -/
def rng (n : Nat) : List Int := (List.range n).map fun i : Nat => (i : Int)
theorem rng_length (n : Nat) : (rng n).length = n := by simp [rng]
theorem rng_get {n i : Nat} (h : i < n) : (rng n)[i]? = some (i : Int) := by simp [rng, h]
theorem mem_rng {n : Nat} {k : Int} : k ∈ rng n ↔ 0 ≤ k ∧ k < n := by
  unfold rng
  rw [List.mem_map]
  constructor
  · rintro ⟨i, hi, rfl⟩
    rw [List.mem_range] at hi
    omega
  · rintro ⟨h0, h1⟩
    exact ⟨k.toNat, by rw [List.mem_range]; omega, by omega⟩
theorem rng_lt (n : Nat) : (rng n).Pairwise (· < ·) := by
  unfold rng
  rw [List.pairwise_map]
  refine List.Pairwise.imp ?_ List.pairwise_lt_range
  intro a b h
  omega

def ins1 (x : Int) : List Int → List Int
  | [] => [x]
  | y :: ys => if x ≤ y then x :: y :: ys else y :: ins1 x ys
def srt : List Int → List Int
  | [] => []
  | x :: xs => ins1 x (srt xs)
theorem ins1_perm (x : Int) : ∀ l : List Int, (ins1 x l).Perm (x :: l)
  | [] => List.Perm.refl _
  | y :: ys => by
    unfold ins1
    split
    · exact List.Perm.refl _
    · exact ((ins1_perm x ys).cons y).trans (List.Perm.swap x y ys)
theorem srt_perm : ∀ l : List Int, (srt l).Perm l
  | [] => List.Perm.refl _
  | x :: xs => (ins1_perm x _).trans ((srt_perm xs).cons x)
theorem ins1_sorted (x : Int) : ∀ l : List Int, l.Pairwise (· ≤ ·) → (ins1 x l).Pairwise (· ≤ ·)
  | [], _ => by simp [ins1]
  | y :: ys, h => by
    unfold ins1
    rw [List.pairwise_cons] at h
    split
    · rename_i hxy
      refine List.pairwise_cons.mpr ⟨fun z hz => ?_, List.pairwise_cons.mpr h⟩
      rcases List.mem_cons.mp hz with rfl | hz
      · exact hxy
      · exact Int.le_trans hxy (h.1 z hz)
    · rename_i hxy
      refine List.pairwise_cons.mpr ⟨fun z hz => ?_, ins1_sorted x ys h.2⟩
      have hz' := (ins1_perm x ys).mem_iff.mp hz
      rcases List.mem_cons.mp hz' with rfl | hz'
      · omega
      · exact h.1 z hz'
theorem srt_sorted : ∀ l : List Int, (srt l).Pairwise (· ≤ ·)
  | [] => List.Pairwise.nil
  | x :: xs => ins1_sorted x _ (srt_sorted xs)
theorem sorted_unique : ∀ {l m : List Int}, l.Perm m → l.Pairwise (· ≤ ·) → m.Pairwise (· ≤ ·) → l = m
  | [], m, hp, _, _ => by rw [List.nil_perm.mp hp]
  | x :: xs, [], hp, _, _ => by
    have := hp.length_eq
    simp at this
  | x :: xs, y :: ys, hp, h1, h2 => by
    have hxy : x = y := by
      rw [List.pairwise_cons] at h1 h2
      have hx : x ∈ y :: ys := hp.mem_iff.mp (List.mem_cons_self ..)
      have hy : y ∈ x :: xs := hp.mem_iff.mpr (List.mem_cons_self ..)
      rcases List.mem_cons.mp hx with e | hx
      · exact e
      · rcases List.mem_cons.mp hy with e | hy
        · exact e.symm
        · have a := h2.1 x hx
          have b := h1.1 y hy
          omega
    subst hxy
    rw [List.pairwise_cons] at h1 h2
    rw [sorted_unique (List.Perm.cons_inv hp) h1.2 h2.2]
theorem srt_of {l m : List Int} (hp : m.Perm l) (h : m.Pairwise (· ≤ ·)) : m = srt l :=
  sorted_unique (hp.trans (srt_perm l).symm) h (srt_sorted l)
theorem le_of_lt_pair {l : List Int} (h : l.Pairwise (· < ·)) : l.Pairwise (· ≤ ·) := h.imp fun q => by omega
theorem nodup_of_lt {l : List Int} (h : l.Pairwise (· < ·)) : l.Nodup := h.imp fun q => by omega
theorem lt_of_le_nodup : ∀ {l : List Int}, l.Pairwise (· ≤ ·) → l.Nodup → l.Pairwise (· < ·)
  | [], _, _ => List.Pairwise.nil
  | x :: xs, h1, h2 => by
    rw [List.pairwise_cons] at h1
    rw [List.nodup_cons] at h2
    refine List.pairwise_cons.mpr ⟨fun z hz => ?_, lt_of_le_nodup h1.2 h2.2⟩
    have a := h1.1 z hz
    have b : x ≠ z := fun e => h2.1 (e ▸ hz)
    omega
theorem perm_of_nodup : ∀ {l m : List Int}, l.Nodup → m.Nodup → (∀ x, x ∈ l ↔ x ∈ m) → l.Perm m := fun h1 h2 h => (List.perm_ext_iff_of_nodup h1 h2).mpr h
/-- two strictly ascending lists with the same members -/
theorem asc_unique {l m : List Int} (h1 : l.Pairwise (· < ·)) (h2 : m.Pairwise (· < ·)) (h : ∀ x, x ∈ l ↔ x ∈ m) : l = m :=
  sorted_unique (perm_of_nodup (nodup_of_lt h1) (nodup_of_lt h2) h) (le_of_lt_pair h1) (le_of_lt_pair h2)

/-! ### states -/
structure Ok (n : Nat) (s : List Int) : Prop where
  asc : s.Pairwise (· < ·)
  bnd : ∀ x ∈ s, 0 ≤ x ∧ x < n
theorem Ok.nil (n : Nat) : Ok n [] := ⟨List.Pairwise.nil, fun _ h => nomatch h⟩
theorem Ok.le {n : Nat} {s : List Int} (h : Ok n s) : s.length ≤ n := by
  have := (nodup_of_lt h.asc).length_le_of_subset (l₂ := rng n) fun x hx => mem_rng.mpr (h.bnd x hx)
  rwa [rng_length] at this
def nxt (s : List Int) (k : Int) : List Int := srt (s ++ [k])
theorem nxt_length (s : List Int) (k : Int) : (nxt s k).length = s.length + 1 := by
  unfold nxt
  rw [(srt_perm _).length_eq, List.length_append, List.length_singleton]
theorem mem_nxt {s : List Int} {k x : Int} : x ∈ nxt s k ↔ x ∈ s ∨ x = k := by
  unfold nxt
  rw [(srt_perm _).mem_iff, List.mem_append, List.mem_singleton]
theorem Ok.nxt {n : Nat} {s : List Int} {k : Int} (h : Ok n s) (h0 : 0 ≤ k) (h1 : k < n) (hk : k ∉ s) : Ok n (nxt s k) := by
  refine ⟨lt_of_le_nodup (srt_sorted _) ?_, fun x hx => ?_⟩
  · refine ((srt_perm (s ++ [k])).nodup_iff).mpr ?_
    rw [List.nodup_append]
    refine ⟨nodup_of_lt h.asc, by simp, fun a ha b hb => ?_⟩
    rw [List.mem_singleton] at hb
    subst hb
    exact fun e => hk (e ▸ ha)
  · rcases mem_nxt.mp hx with hx | rfl
    · exact h.bnd x hx
    · exact ⟨h0, h1⟩
theorem nxt_inj {n : Nat} {s : List Int} {k j : Int} (_h : Ok n s) (hk : k ∉ s) (e : G.nxt s k = G.nxt s j) : k = j := by
  have : k ∈ G.nxt s j := by rw [← e]; exact mem_nxt.mpr (.inr rfl)
  rcases mem_nxt.mp this with q | q
  · exact absurd q hk
  · exact q

/-! ### the value of the play -/
def maxL : List Int → Int
  | [] => 0
  | [x] => x
  | x :: y :: r => max x (maxL (y :: r))
def minL : List Int → Int
  | [] => 0
  | [x] => x
  | x :: y :: r => min x (minL (y :: r))
theorem maxL_mem : ∀ l : List Int, l ≠ [] → maxL l ∈ l
  | [], h => absurd rfl h
  | [x], _ => by simp [maxL]
  | x :: y :: r, _ => by
    have ih := maxL_mem (y :: r) (by simp)
    show max x (maxL (y :: r)) ∈ _
    by_cases h : x ≤ maxL (y :: r)
    · rw [Int.max_eq_right h]; exact List.mem_cons_of_mem _ ih
    · rw [Int.max_eq_left (by omega)]; exact List.mem_cons_self ..
theorem maxL_le : ∀ (l : List Int) (z : Int), z ∈ l → z ≤ maxL l
  | [x], z, h => by
    rw [List.mem_singleton] at h
    subst h
    exact Int.le_refl _
  | x :: y :: r, z, h => by
    show z ≤ max x (maxL (y :: r))
    rcases List.mem_cons.mp h with rfl | h
    · omega
    · have := maxL_le (y :: r) z h
      omega
theorem minL_mem : ∀ l : List Int, l ≠ [] → minL l ∈ l
  | [], h => absurd rfl h
  | [x], _ => by simp [minL]
  | x :: y :: r, _ => by
    have ih := minL_mem (y :: r) (by simp)
    show min x (minL (y :: r)) ∈ _
    by_cases h : x ≤ minL (y :: r)
    · rw [Int.min_eq_left h]; exact List.mem_cons_self ..
    · rw [Int.min_eq_right (by omega)]; exact List.mem_cons_of_mem _ ih
theorem minL_le : ∀ (l : List Int) (z : Int), z ∈ l → minL l ≤ z
  | [x], z, h => by
    rw [List.mem_singleton] at h
    subst h
    exact Int.le_refl _
  | x :: y :: r, z, h => by
    show min x (minL (y :: r)) ≤ z
    rcases List.mem_cons.mp h with rfl | h
    · omega
    · have := minL_le (y :: r) z h
      omega
theorem maxL_of {l : List Int} {m : Int} (h : m ∈ l) (hl : ∀ y, y ∈ l → y ≤ m) : m = maxL l := by
  have h1 := maxL_le l m h
  have h2 := hl _ (maxL_mem l (List.ne_nil_of_mem h))
  omega
theorem minL_of {l : List Int} {m : Int} (h : m ∈ l) (hl : ∀ y, y ∈ l → m ≤ y) : m = minL l := by
  have h1 := minL_le l m h
  have h2 := hl _ (minL_mem l (List.ne_nil_of_mem h))
  omega

section
variable (rdy : List Int → List Int)
def val : Nat → List Int → Bool → Int
  | 0, s, _ => s.length
  | m + 1, s, b => if rdy s = [] then s.length else if b = true then maxL ((rdy s).map fun k => val m (nxt s k) (!b)) else minL ((rdy s).map fun k => val m (nxt s k) (!b))
def gv (n : Nat) (s : List Int) (b : Bool) : Int := val rdy (n - s.length) s b
end

/-- what is asked of the ready doors -/
structure Gm (n : Nat) (rdy : List Int → List Int) : Prop where
  ok : ∀ s k, k ∈ rdy s → 0 ≤ k ∧ k < n ∧ k ∉ s
  nd : ∀ s, (rdy s).Nodup
section
variable {n : Nat} {rdy : List Int → List Int} (gm : Gm n rdy)
include gm
theorem Gm.next {s : List Int} {k : Int} (h : Ok n s) (hk : k ∈ rdy s) : Ok n (nxt s k) := h.nxt (gm.ok s k hk).1 (gm.ok s k hk).2.1 (gm.ok s k hk).2.2
theorem Gm.few (s : List Int) : (rdy s).length ≤ n := by
  have := (gm.nd s).length_le_of_subset (l₂ := rng n) fun x hx => mem_rng.mpr ⟨(gm.ok s x hx).1, (gm.ok s x hx).2.1⟩
  rwa [rng_length] at this
theorem Gm.short {s : List Int} (h : Ok n s) (hr : rdy s ≠ []) : s.length < n := by
  obtain ⟨k, hk⟩ := List.exists_mem_of_ne_nil _ hr
  have := (gm.next h hk).le
  rw [nxt_length] at this
  omega
/-- one turn of the play -/
theorem Gm.gv_eq {s : List Int} (h : Ok n s) (b : Bool) : gv rdy n s b = if rdy s = [] then (s.length : Int) else if b = true then maxL ((rdy s).map fun k => gv rdy n (nxt s k) (!b)) else minL ((rdy s).map fun k => gv rdy n (nxt s k) (!b)) := by
  by_cases hr : rdy s = []
  · rw [if_pos hr]
    unfold gv
    cases n - s.length with
    | zero => rfl
    | succ m => unfold val; rw [if_pos hr]
  · rw [if_neg hr]
    have hs := gm.short h hr
    have e : n - s.length = (n - (s.length + 1)) + 1 := by omega
    have e2 : ((rdy s).map fun k => gv rdy n (nxt s k) (!b)) = (rdy s).map fun k => val rdy (n - (s.length + 1)) (nxt s k) (!b) := by
      refine List.map_congr_left fun k _ => ?_
      unfold gv
      rw [nxt_length]
    rw [e2]
    unfold gv
    rw [e, val, if_neg hr]
theorem Gm.gv_len {s : List Int} (h : Ok n s) (b : Bool) (hr : rdy s = []) : gv rdy n s b = s.length := by
  rw [gm.gv_eq h, if_pos hr]
theorem Gm.gv_le (m : Nat) : ∀ {s : List Int}, n - s.length = m → Ok n s → ∀ b, gv rdy n s b ≤ n := by
    induction m using Nat.strongRecOn with
    | ind m ih =>
    intro s hm h b
    rw [gm.gv_eq h]
    by_cases hr : rdy s = []
    · rw [if_pos hr]
      have := h.le
      omega
    · rw [if_neg hr]
      have hs := gm.short h hr
      have hall : ∀ z ∈ (rdy s).map fun k => gv rdy n (nxt s k) (!b), z ≤ n := by
        intro z hz
        obtain ⟨k, hk, rfl⟩ := List.mem_map.mp hz
        exact ih (n - (nxt s k).length) (by rw [nxt_length]; omega) rfl (gm.next h hk) _
      have hne : ((rdy s).map fun k => gv rdy n (nxt s k) (!b)) ≠ [] := by simpa using hr
      split
      · exact hall _ (maxL_mem _ hne)
      · exact hall _ (minL_mem _ hne)
theorem Gm.le' {s : List Int} (h : Ok n s) (b : Bool) : gv rdy n s b ≤ n := gm.gv_le _ rfl h b
/-- the keeper's good doors -/
theorem Gm.good {s : List Int} (h : Ok n s) (hr : rdy s ≠ []) (hv : gv rdy n s true = n) : ∃ k, k ∈ rdy s ∧ gv rdy n (nxt s k) false = n := by
  rw [gm.gv_eq h, if_neg hr, if_pos rfl] at hv
  have hm := maxL_mem ((rdy s).map fun k => gv rdy n (nxt s k) (!true)) (by simpa using hr)
  rw [hv] at hm
  obtain ⟨k, hk, e⟩ := List.mem_map.mp hm
  exact ⟨k, hk, e⟩
theorem Gm.his {s : List Int} (h : Ok n s) (hv : gv rdy n s false = n) {k : Int} (hk : k ∈ rdy s) : gv rdy n (nxt s k) true = n := by
  rw [gm.gv_eq h, if_neg (List.ne_nil_of_mem hk), if_neg (by simp)] at hv
  have h1 := minL_le ((rdy s).map fun k => gv rdy n (nxt s k) (!false)) (gv rdy n (nxt s k) true) (List.mem_map.mpr ⟨k, hk, rfl⟩)
  have h2 := gm.le' (gm.next h hk) true
  rw [hv] at h1
  omega
end
end G

/-! The plain law, 2: nests, doors around and inside, counts, ready doors. -/
namespace G
abbrev Nest := List (Option Int)
structure NestOk (N : Nest) : Prop where
  few : N.length ≤ 6
  some_ : 1 ≤ N.length
  up : ∀ (i : Nat) (j : Int), N[i]? = some (some j) → (i : Int) < j ∧ j < N.length
def par (N : Nest) (k : Int) : Option Int := (N[k.toNat]?).getD none
theorem par_get {N : Nest} {k : Int} (h0 : 0 ≤ k) (h1 : k < N.length) : N[k.toNat]? = some (par N k) := by
  have h : k.toNat < N.length := by omega
  unfold par
  rw [List.getElem?_eq_getElem h]
  rfl
theorem par_up {N : Nest} (ok : NestOk N) {k j : Int} (h0 : 0 ≤ k) (h1 : k < N.length) (h : par N k = some j) : k < j ∧ j < N.length := by
  have e := par_get h0 h1
  rw [h] at e
  have := ok.up k.toNat j e
  omega
/-- the doors around, from here on, at most f of them -/
def arf (N : Nest) : Nat → Option Int → List Int
  | _, none => []
  | 0, some _ => []
  | f + 1, some h => h :: arf N f (par N h)
theorem arf_none (N : Nest) (f : Nat) : arf N f none = [] := by cases f <;> rfl
def around (N : Nest) (k : Int) : List Int := arf N N.length (par N k)
/-- what is still to be walked -/
def left (N : Nest) : Option Int → Nat
  | none => 0
  | some h => N.length - h.toNat
/-- the loop's invariant -/
def ArInv (N : Nest) (k : Int) (found : List Int) (here : Option Int) : Prop :=
  ∃ f, found ++ arf N f here = around N k ∧ left N here ≤ f ∧ ∀ h, here = some h → 0 ≤ h ∧ h < N.length
theorem ArInv.start {N : Nest} (ok : NestOk N) {k : Int} (h0 : 0 ≤ k) (h1 : k < N.length) : ArInv N k [] (par N k) := by
  refine ⟨N.length, rfl, ?_, fun h e => ?_⟩
  · cases par N k with
    | none => exact Nat.zero_le _
    | some h => exact Nat.sub_le _ _
  · have := par_up ok h0 h1 e
    omega
theorem ArInv.step {N : Nest} (ok : NestOk N) {k h : Int} {found : List Int} (I : ArInv N k found (some h)) : ArInv N k (found ++ [h]) (par N h) ∧ left N (par N h) < left N (some h) ∧ 0 ≤ h ∧ h < N.length := by
  obtain ⟨f, e, hf, hh⟩ := I
  obtain ⟨h0, h1⟩ := hh h rfl
  have hl : left N (par N h) < left N (some h) := by
    cases e2 : par N h with
    | none => show 0 < N.length - h.toNat; omega
    | some j =>
      have := par_up ok h0 h1 e2
      show N.length - j.toNat < N.length - h.toNat
      omega
  refine ⟨?_, hl, h0, h1⟩
  cases f with
  | zero => omega
  | succ f =>
    refine ⟨f, ?_, by omega, fun j e2 => ?_⟩
    · rw [List.append_assoc]
      exact e
    · have := par_up ok h0 h1 e2
      omega
theorem ArInv.done {N : Nest} {k : Int} {found : List Int} (I : ArInv N k found none) : found = around N k := by
  obtain ⟨f, e, _, _⟩ := I
  rw [arf_none, List.append_nil] at e
  exact e
theorem arf_len (N : Nest) : ∀ (f : Nat) (o : Option Int), (arf N f o).length ≤ f
  | f, none => by rw [arf_none]; exact Nat.zero_le _
  | 0, some _ => Nat.le_refl _
  | f + 1, some h => Nat.succ_le_succ (arf_len N f _)
theorem around_len {N : Nest} {k : Int} : (around N k).length ≤ N.length := arf_len N _ _
theorem ArInv.len {N : Nest} {k : Int} {found : List Int} {here : Option Int} (I : ArInv N k found here) : found.length ≤ N.length := by
  obtain ⟨f, e, _, _⟩ := I
  have := around_len (N := N) (k := k)
  rw [← e, List.length_append] at this
  omega
/-- the doors inside -/
def insP (N : Nest) (d k : Int) : Bool := decide (d ∈ around N k)
def ins (N : Nest) (d : Int) : List Int := (rng d.toNat).filter (insP N d)
def cntP (s : List Int) (x : Int) : Bool := decide (x ∈ s)
def count (N : Nest) (s : List Int) (d : Int) : Int := (((ins N d).filter (cntP s)).length : Nat)
def numOf (nums : List (List Int)) (k : Int) : List Int := (nums[k.toNat]?).getD []
def rdyP (N : Nest) (nums : List (List Int)) (s : List Int) (k : Int) : Bool := decide (k ∉ s) && decide (count N s k ∈ numOf nums k)
def rdy (N : Nest) (nums : List (List Int)) (s : List Int) : List Int := (rng N.length).filter (rdyP N nums s)
theorem rdy_gm (N : Nest) (nums : List (List Int)) : Gm N.length (rdy N nums) where
  ok := fun s k hk => by
    unfold rdy at hk
    rw [List.mem_filter] at hk
    obtain ⟨h1, h2⟩ := hk
    rw [mem_rng] at h1
    unfold rdyP at h2
    rw [Bool.and_eq_true] at h2
    exact ⟨h1.1, h1.2, of_decide_eq_true h2.1⟩
  nd := fun s => (nodup_of_lt (rng_lt _)).filter _
theorem ins_lt (N : Nest) (d : Int) : (ins N d).Pairwise (· < ·) := (rng_lt _).filter _
theorem ins_len (N : Nest) (d : Int) : (ins N d).length ≤ d.toNat := by
  have := List.length_filter_le (insP N d) (rng d.toNat)
  rw [rng_length] at this
  exact this
theorem mem_ins {N : Nest} {d k : Int} : k ∈ ins N d ↔ (0 ≤ k ∧ k < d) ∧ d ∈ around N k := by
  unfold ins insP
  rw [List.mem_filter, mem_rng, decide_eq_true_iff]
  constructor
  · rintro ⟨⟨a, b⟩, c⟩
    exact ⟨⟨a, by omega⟩, c⟩
  · rintro ⟨⟨a, b⟩, c⟩
    exact ⟨⟨a, by omega⟩, c⟩
structure NumsOk (n : Nat) (nums : List (List Int)) : Prop where
  len : nums.length = n
  asc : ∀ ns ∈ nums, ns.Pairwise (· < ·) ∧ ∀ x ∈ ns, 0 ≤ x ∧ x ≤ 8
theorem numOf_get {n : Nat} {nums : List (List Int)} (ok : nums.length = n) {k : Int} (h0 : 0 ≤ k) (h1 : k < n) : nums[k.toNat]? = some (numOf nums k) := by
  have h : k.toNat < nums.length := by omega
  unfold numOf
  rw [List.getElem?_eq_getElem h]
  rfl
end G
namespace G
/-- the ready doors and the states behind them -/
def ext (N : Nest) (nums : List (List Int)) (s : List Int) : List (Int × List Int) := (rdy N nums s).map fun k => (k, nxt s k)
theorem ext_nil {N : Nest} {nums : List (List Int)} {s : List Int} : ext N nums s = [] ↔ rdy N nums s = [] := by
  unfold ext
  exact List.map_eq_nil_iff
theorem ext_len {N : Nest} {nums : List (List Int)} {s : List Int} : (ext N nums s).length ≤ N.length := by
  unfold ext
  rw [List.length_map]
  exact (rdy_gm N nums).few s
theorem ext_mem {N : Nest} {nums : List (List Int)} {s : List Int} {x : Int × List Int} : x ∈ ext N nums s ↔ x.1 ∈ rdy N nums s ∧ x.2 = nxt s x.1 := by
  unfold ext
  rw [List.mem_map]
  constructor
  · rintro ⟨k, hk, rfl⟩
    exact ⟨hk, rfl⟩
  · rintro ⟨h1, h2⟩
    exact ⟨x.1, h1, by rw [← h2]⟩
end G
namespace G
/-- all ascending choices of some ints -/
def subs : List Int → List (List Int)
  | [] => [[]]
  | x :: xs => (subs xs).map (x :: ·) ++ subs xs
theorem subs_len : ∀ l : List Int, (subs l).length = 2 ^ l.length
  | [] => rfl
  | x :: xs => by
    show ((subs xs).map (x :: ·) ++ subs xs).length = _
    rw [List.length_append, List.length_map, subs_len xs, List.length_cons, Nat.pow_succ]
    omega
theorem mem_subs : ∀ {l s : List Int}, l.Pairwise (· < ·) → s.Pairwise (· < ·) → (∀ x ∈ s, x ∈ l) → s ∈ subs l
  | [], s, _, _, h => by
    cases s with
    | nil => exact List.mem_singleton.mpr rfl
    | cons x s => exact absurd (h x (List.mem_cons_self ..)) (by simp)
  | x :: xs, [], hl, _, _ => List.mem_append.mpr (.inr (mem_subs (List.pairwise_cons.mp hl).2 List.Pairwise.nil (fun _ h => nomatch h)))
  | x :: xs, y :: s, hl, hs, h => by
    rw [List.pairwise_cons] at hl hs
    by_cases e : y = x
    · subst e
      refine List.mem_append.mpr (.inl (List.mem_map.mpr ⟨s, mem_subs hl.2 hs.2 fun z hz => ?_, rfl⟩))
      rcases List.mem_cons.mp (h z (List.mem_cons_of_mem _ hz)) with rfl | hz'
      · exact absurd (hs.1 z hz) (by omega)
      · exact hz'
    · have hy : y ∈ xs := by
        rcases List.mem_cons.mp (h y (List.mem_cons_self ..)) with e' | e'
        · exact absurd e' e
        · exact e'
      have hxy := hl.1 y hy
      refine List.mem_append.mpr (.inr (mem_subs hl.2 (List.pairwise_cons.mpr hs) fun z hz => ?_))
      rcases List.mem_cons.mp hz with rfl | hz
      · exact hy
      · rcases List.mem_cons.mp (h z (List.mem_cons_of_mem _ hz)) with rfl | hz'
        · exact absurd (hs.1 z hz) (by omega)
        · exact hz'
theorem Ok.mem_subs {n : Nat} {s : List Int} (h : Ok n s) : s ∈ subs (rng n) := G.mem_subs (rng_lt n) h.asc fun x hx => mem_rng.mpr (h.bnd x hx)
theorem subs_few {n : Nat} (h : n ≤ 6) : (subs (rng n)).length ≤ 64 := by
  rw [subs_len, rng_length]
  match n, h with
  | 0, _ | 1, _ | 2, _ | 3, _ | 4, _ | 5, _ | 6, _ => decide
/-- unlike states are few -/
theorem states_few {n : Nat} (h : n ≤ 6) {l : List (List Int)} (nd : l.Nodup) (ok : ∀ s ∈ l, Ok n s) : l.length ≤ 64 :=
  Nat.le_trans (nd.length_le_of_subset fun s hs => (ok s hs).mem_subs) (subs_few h)
end G

/-! The plain law, 3: plans, how they are made, checked and followed. -/
namespace G
abbrev Mv := List (List Int × Int)
abbrev Row := List Int × Bool
def mvOf (M : Mv) (s : List Int) : Option Int := (M.find? fun p => decide (p.1 = s)).map (·.2)
theorem mvOf_mem {M : Mv} {s : List Int} {d : Int} (h : mvOf M s = some d) : (s, d) ∈ M := by
  unfold mvOf at h
  obtain ⟨p, hp, rfl⟩ := Option.map_eq_some_iff.mp h
  have h1 := List.mem_of_find?_eq_some hp
  have h3 := List.find?_some hp
  have h2 : p.1 = s := of_decide_eq_true h3
  rw [← h2]
  exact h1
theorem mvOf_some {M : Mv} {s : List Int} (h : s ∈ M.map (·.1)) : ∃ d, mvOf M s = some d := by
  obtain ⟨p, hp, rfl⟩ := List.mem_map.mp h
  unfold mvOf
  cases e : M.find? fun q => decide (q.1 = p.1) with
  | none =>
    have := List.find?_eq_none.mp e p hp
    simp at this
  | some q => exact ⟨q.2, rfl⟩
theorem mvOf_keys {M : Mv} {s : List Int} {d : Int} (h : mvOf M s = some d) : s ∈ M.map (·.1) := List.mem_map.mpr ⟨_, mvOf_mem h, rfl⟩
theorem mvOf_none {M : Mv} {s : List Int} (h : s ∉ M.map (·.1)) : mvOf M s = none := by
  cases e : mvOf M s with
  | none => rfl
  | some d => exact absurd (mvOf_keys e) h
theorem mvOf_of_mem {M : Mv} (nd : (M.map (·.1)).Nodup) {s : List Int} {d : Int} (h : (s, d) ∈ M) : mvOf M s = some d := by
  obtain ⟨d', e⟩ := mvOf_some (List.mem_map.mpr ⟨_, h, rfl⟩ : s ∈ M.map (·.1))
  have h' := mvOf_mem e
  have : d' = d := by
    clear e
    induction M with
    | nil => exact nomatch h
    | cons p M ih =>
      rw [List.map_cons, List.nodup_cons] at nd
      rcases List.mem_cons.mp h with rfl | h1
      · rcases List.mem_cons.mp h' with e | h2
        · exact (Prod.mk.inj e).2
        · exact absurd (List.mem_map.mpr ⟨_, h2, rfl⟩) nd.1
      · rcases List.mem_cons.mp h' with rfl | h2
        · exact absurd (List.mem_map.mpr ⟨_, h1, rfl⟩) nd.1
        · exact ih nd.2 h1 h2
  rw [e, this]
theorem mvOf_snoc {M : Mv} {s t : List Int} {d e : Int} (_hn : s ∉ M.map (·.1)) (h : mvOf M t = some e) : mvOf (M ++ [(s, d)]) t = some e := by
  unfold mvOf at h ⊢
  rw [List.find?_append]
  obtain ⟨p, hp, rfl⟩ := Option.map_eq_some_iff.mp h
  rw [hp]
  rfl

inductive Reach (rdy : List Int → List Int) (mv : List Int → Option Int) (first : Bool) : List Int → Bool → Prop
  | root : Reach rdy mv first [] first
  | mine {s : List Int} {d : Int} : Reach rdy mv first s true → mv s = some d → d ∈ rdy s → Reach rdy mv first (nxt s d) false
  | his {s : List Int} {k : Int} : Reach rdy mv first s false → k ∈ rdy s → Reach rdy mv first (nxt s k) true
section
variable {n : Nat} {rdy : List Int → List Int} {mv mv' : List Int → Option Int} {first : Bool}
theorem Reach.ok (gm : Gm n rdy) {s : List Int} {b : Bool} (h : Reach rdy mv first s b) : Ok n s := by
  induction h with
  | root => exact Ok.nil n
  | mine _ _ hd ih => exact gm.next ih hd
  | his _ hk ih => exact gm.next ih hk
theorem Reach.mono (hm : ∀ s d, mv s = some d → mv' s = some d) {s : List Int} {b : Bool} (h : Reach rdy mv first s b) : Reach rdy mv' first s b := by
  induction h with
  | root => exact .root
  | mine _ e hd ih => exact .mine ih (hm _ _ e) hd
  | his _ hk ih => exact .his ih hk
theorem Reach.congr (hm : ∀ s, mv s = mv' s) {s : List Int} {b : Bool} (h : Reach rdy mv first s b) : Reach rdy mv' first s b := h.mono fun s d e => by rw [← hm]; exact e

/-- what a row asks is still to be done, or done -/
def Cov (rdy : List Int → List Int) (ks : List (List Int)) (rows : List Row) (s : List Int) (b : Bool) : Prop :=
  (s, b) ∈ rows ∨ (b = true ∧ (s ∈ ks ∨ rdy s = [])) ∨ (b = false ∧ ∀ k ∈ rdy s, (nxt s k, true) ∈ rows ∨ nxt s k ∈ ks ∨ rdy (nxt s k) = [])
/-- the popped row is taken care of -/
def Done (rdy : List Int → List Int) (ks : List (List Int)) (rows : List Row) (s : List Int) (b : Bool) : Prop :=
  (b = true ∧ (s ∈ ks ∨ rdy s = [])) ∨ (b = false ∧ ∀ k ∈ rdy s, (nxt s k, true) ∈ rows ∨ nxt s k ∈ ks ∨ rdy (nxt s k) = [])
theorem Cov.step {ks ks' : List (List Int)} {rows rows' : List Row} {s : List Int} {b : Bool} (hr : ∀ y ∈ rows, y ∈ rows') (hk : ∀ y ∈ ks, y ∈ ks') (hd : Done rdy ks' rows' s b) {x : List Int} {c : Bool} (h : Cov rdy ks (rows ++ [(s, b)]) x c) : Cov rdy ks' rows' x c := by
  rcases h with h | ⟨hc, h⟩ | ⟨hc, h⟩
  · rcases List.mem_append.mp h with h | h
    · exact .inl (hr _ h)
    · rw [List.mem_singleton] at h
      injection h with h1 h2
      subst h1 h2
      exact .inr hd
  · refine .inr (.inl ⟨hc, ?_⟩)
    rcases h with h | h
    · exact .inl (hk _ h)
    · exact .inr h
  · refine .inr (.inr ⟨hc, fun k hk' => ?_⟩)
    rcases h k hk' with h | h | h
    · rcases List.mem_append.mp h with h | h
      · exact .inl (hr _ h)
      · rw [List.mem_singleton] at h
        injection h with h1 h2
        subst h1 h2
        rcases hd with ⟨_, hd⟩ | ⟨hb, _⟩
        · exact .inr hd
        · exact nomatch hb
    · exact .inr (.inl (hk _ h))
    · exact .inr (.inr h)

/-! ### the making of a plan -/
structure KI (n : Nat) (rdy : List Int → List Int) (first : Bool) (M : Mv) (rows : List Row) : Prop where
  nd : (M.map (·.1)).Nodup
  mem : ∀ s d, (s, d) ∈ M → Ok n s ∧ d ∈ rdy s ∧ gv rdy n (nxt s d) false = n
  rok : ∀ s b, (s, b) ∈ rows → Ok n s ∧ gv rdy n s b = n
  reM : ∀ s d, (s, d) ∈ M → Reach rdy (mvOf M) first s true
  reR : ∀ s b, (s, b) ∈ rows → Reach rdy (mvOf M) first s b
  root : Cov rdy (M.map (·.1)) rows [] first
  clo : ∀ s d, (s, d) ∈ M → Cov rdy (M.map (·.1)) rows (nxt s d) false
  hv : gv rdy n [] first = n
theorem KI.start (hv : gv rdy n [] first = n) : KI n rdy first [] [([], first)] where
  nd := List.nodup_nil
  mem := fun _ _ h => nomatch h
  rok := fun s b h => by
    rw [List.mem_singleton] at h
    injection h with h1 h2
    subst h1 h2
    exact ⟨Ok.nil n, hv⟩
  reM := fun _ _ h => nomatch h
  reR := fun s b h => by
    rw [List.mem_singleton] at h
    injection h with h1 h2
    subst h1 h2
    exact .root
  root := .inl (List.mem_singleton.mpr rfl)
  clo := fun _ _ h => nomatch h
  hv := hv
variable {M : Mv} {rows : List Row} {s : List Int}
/-- a keeper's row that needs nothing -/
theorem KI.skip (I : KI n rdy first M (rows ++ [(s, true)])) (h : s ∈ M.map (·.1) ∨ rdy s = []) : KI n rdy first M rows where
  nd := I.nd
  mem := I.mem
  rok := fun t b ht => I.rok t b (List.mem_append.mpr (.inl ht))
  reM := I.reM
  reR := fun t b ht => I.reR t b (List.mem_append.mpr (.inl ht))
  root := I.root.step (fun _ h => h) (fun _ h => h) (.inl ⟨rfl, h⟩)
  clo := fun t d ht => (I.clo t d ht).step (fun _ h => h) (fun _ h => h) (.inl ⟨rfl, h⟩)
  hv := I.hv
/-- a keeper's row: a door is chosen -/
theorem KI.choose (gm : Gm n rdy) (I : KI n rdy first M (rows ++ [(s, true)])) (hn : s ∉ M.map (·.1)) {d : Int} (hd : d ∈ rdy s) (hg : gv rdy n (nxt s d) false = n) : KI n rdy first (M ++ [(s, d)]) (rows ++ [(nxt s d, false)]) := by
  have hs := I.rok s true (List.mem_append.mpr (.inr (List.mem_singleton.mpr rfl)))
  have hre := I.reR s true (List.mem_append.mpr (.inr (List.mem_singleton.mpr rfl)))
  have hm : ∀ t e, mvOf M t = some e → mvOf (M ++ [(s, d)]) t = some e := fun t e h => mvOf_snoc hn h
  have nd' : ((M ++ [(s, d)]).map (·.1)).Nodup := by
    rw [List.map_append, List.nodup_append]
    refine ⟨I.nd, by simp, fun a ha b hb => ?_⟩
    have e : b = s := by simpa using hb
    subst e
    exact fun e => hn (e ▸ ha)
  have hself : mvOf (M ++ [(s, d)]) s = some d := mvOf_of_mem nd' (List.mem_append.mpr (.inr (List.mem_singleton.mpr rfl)))
  have hks : ∀ y ∈ M.map (·.1), y ∈ (M ++ [(s, d)]).map (·.1) := fun y hy => by rw [List.map_append]; exact List.mem_append.mpr (.inl hy)
  have hsk : s ∈ (M ++ [(s, d)]).map (·.1) := by rw [List.map_append]; exact List.mem_append.mpr (.inr (by simp))
  have hrs : ∀ y ∈ rows, y ∈ rows ++ [(nxt s d, false)] := fun y hy => List.mem_append.mpr (.inl hy)
  have hdone : Done rdy ((M ++ [(s, d)]).map (·.1)) (rows ++ [(nxt s d, false)]) s true := .inl ⟨rfl, .inl hsk⟩
  refine ⟨nd', fun t e ht => ?_, fun t b ht => ?_, fun t e ht => ?_, fun t b ht => ?_, I.root.step hrs hks hdone, fun t e ht => ?_, I.hv⟩
  · rcases List.mem_append.mp ht with ht | ht
    · exact I.mem t e ht
    · rw [List.mem_singleton] at ht
      injection ht with h1 h2
      subst h1 h2
      exact ⟨hs.1, hd, hg⟩
  · rcases List.mem_append.mp ht with ht | ht
    · exact I.rok t b (List.mem_append.mpr (.inl ht))
    · rw [List.mem_singleton] at ht
      injection ht with h1 h2
      subst h1 h2
      exact ⟨gm.next hs.1 hd, hg⟩
  · rcases List.mem_append.mp ht with ht | ht
    · exact (I.reM t e ht).mono hm
    · rw [List.mem_singleton] at ht
      injection ht with h1 h2
      subst h1 h2
      exact hre.mono hm
  · rcases List.mem_append.mp ht with ht | ht
    · exact (I.reR t b (List.mem_append.mpr (.inl ht))).mono hm
    · rw [List.mem_singleton] at ht
      injection ht with h1 h2
      subst h1 h2
      exact .mine (hre.mono hm) hself hd
  · rcases List.mem_append.mp ht with ht | ht
    · exact (I.clo t e ht).step hrs hks hdone
    · rw [List.mem_singleton] at ht
      injection ht with h1 h2
      subst h1 h2
      exact .inl (List.mem_append.mpr (.inr (List.mem_singleton.mpr rfl)))
/-- a thief's row: all its doors -/
theorem KI.spread (gm : Gm n rdy) (I : KI n rdy first M (rows ++ [(s, false)])) (p : List Int → Bool) (hp : ∀ t, p t = false → t ∈ M.map (·.1)) :
    KI n rdy first M (rows ++ (((rdy s).map fun k => nxt s k).filter p).map fun t => (t, true)) := by
  have hs := I.rok s false (List.mem_append.mpr (.inr (List.mem_singleton.mpr rfl)))
  have hre := I.reR s false (List.mem_append.mpr (.inr (List.mem_singleton.mpr rfl)))
  have hrs : ∀ y ∈ rows, y ∈ rows ++ (((rdy s).map fun k => nxt s k).filter p).map fun t => (t, true) := fun y hy => List.mem_append.mpr (.inl hy)
  have hnew : ∀ t b, (t, b) ∈ (((rdy s).map fun k => nxt s k).filter p).map (fun t => (t, true)) → b = true ∧ ∃ k ∈ rdy s, t = nxt s k := fun t b h => by
    obtain ⟨t', ht', e⟩ := List.mem_map.mp h
    injection e with e1 e2
    subst e1 e2
    obtain ⟨k, hk, rfl⟩ := List.mem_map.mp (List.mem_filter.mp ht').1
    exact ⟨rfl, k, hk, rfl⟩
  have hdone : Done rdy (M.map (·.1)) (rows ++ (((rdy s).map fun k => nxt s k).filter p).map fun t => (t, true)) s false := .inr ⟨rfl, fun k hk => by
    cases e : p (nxt s k) with
    | true => exact .inl (List.mem_append.mpr (.inr (List.mem_map.mpr ⟨nxt s k, List.mem_filter.mpr ⟨List.mem_map.mpr ⟨k, hk, rfl⟩, e⟩, rfl⟩)))
    | false => exact .inr (.inl (hp _ e))⟩
  refine ⟨I.nd, I.mem, fun t b ht => ?_, I.reM, fun t b ht => ?_, I.root.step hrs (fun _ h => h) hdone, fun t e ht => (I.clo t e ht).step hrs (fun _ h => h) hdone, I.hv⟩
  · rcases List.mem_append.mp ht with ht | ht
    · exact I.rok t b (List.mem_append.mpr (.inl ht))
    · obtain ⟨rfl, k, hk, rfl⟩ := hnew t b ht
      exact ⟨gm.next hs.1 hk, gm.his hs.1 hs.2 hk⟩
  · rcases List.mem_append.mp ht with ht | ht
    · exact I.reR t b (List.mem_append.mpr (.inl ht))
    · obtain ⟨rfl, k, hk, rfl⟩ := hnew t b ht
      exact .his hre hk
/-- how much is still to be done -/
def wt (n : Nat) (x : Row) : Nat := (n + 2) ^ (n - x.1.length)
def mu (n : Nat) (rows : List Row) : Nat := (rows.map (wt n)).sum
theorem wt_pos (n : Nat) (x : Row) : 0 < wt n x := Nat.pow_pos (by omega)
theorem mu_append (n : Nat) (a b : List Row) : mu n (a ++ b) = mu n a + mu n b := by
  unfold mu
  rw [List.map_append, List.sum_append]
theorem mu_one (n : Nat) (x : Row) : mu n [x] = wt n x := by
  unfold mu
  simp
theorem mu_len (n : Nat) : ∀ rows : List Row, rows.length ≤ mu n rows
  | [] => Nat.zero_le _
  | x :: r => by
    have h := mu_len n r
    have h2 := wt_pos n x
    show r.length + 1 ≤ ((x :: r).map (wt n)).sum
    rw [List.map_cons, List.sum_cons]
    unfold mu at h
    omega
theorem mu_le (n : Nat) {w : Nat} : ∀ {rows : List Row}, (∀ x ∈ rows, wt n x ≤ w) → mu n rows ≤ rows.length * w
  | [], _ => by simp [mu]
  | x :: r, h => by
    have h1 := h x (List.mem_cons_self ..)
    have h2 := mu_le n (rows := r) fun y hy => h y (List.mem_cons_of_mem _ hy)
    unfold mu at h2 ⊢
    rw [List.map_cons, List.sum_cons, List.length_cons, Nat.add_mul, Nat.one_mul]
    omega
/-- new rows one door further weigh less -/
theorem mu_new (gm : Gm n rdy) (ok : Ok n s) {b : Bool} {new : List Row} (hlen : new.length ≤ n) (hx : ∀ x ∈ new, ∃ k ∈ rdy s, x.1 = nxt s k) : mu n new < wt n (s, b) := by
  cases new with
  | nil => exact wt_pos _ _
  | cons x r =>
    obtain ⟨k0, hk0, _⟩ := hx x (List.mem_cons_self ..)
    have hs := gm.short ok (List.ne_nil_of_mem hk0)
    have h1 : ∀ y ∈ x :: r, wt n y ≤ (n + 2) ^ (n - (s.length + 1)) := fun y hy => by
      obtain ⟨k, _, e⟩ := hx y hy
      unfold wt
      rw [e, nxt_length]
      exact Nat.le_refl _
    have h2 := mu_le n h1
    have h3 : (x :: r).length * (n + 2) ^ (n - (s.length + 1)) ≤ n * (n + 2) ^ (n - (s.length + 1)) := Nat.mul_le_mul_right _ hlen
    have e : n - s.length = (n - (s.length + 1)) + 1 := by omega
    have h4 : wt n (s, b) = (n + 2) ^ (n - (s.length + 1)) * (n + 2) := by
      unfold wt
      show (n + 2) ^ (n - s.length) = _
      rw [e, Nat.pow_succ]
    have h5 : 0 < (n + 2) ^ (n - (s.length + 1)) := Nat.pow_pos (by omega)
    rw [h4, Nat.mul_comm]
    have h6 : n * (n + 2) ^ (n - (s.length + 1)) < (n + 2) * (n + 2) ^ (n - (s.length + 1)) := Nat.mul_lt_mul_of_pos_right (by omega) h5
    omega
theorem mu_start (h : n ≤ 6) (b : Bool) : mu n [([], b)] ≤ 300000 := by
  rw [mu_one]
  show (n + 2) ^ n ≤ _
  match n, h with
  | 0, _ | 1, _ | 2, _ | 3, _ | 4, _ | 5, _ | 6, _ => decide

/-! ### plans -/
structure Plan (n : Nat) (rdy : List Int → List Int) (first : Bool) (P : Mv) : Prop where
  asc : (P.map (·.1)).Pairwise (· < ·)
  door : ∀ s d, (s, d) ∈ P → d ∈ rdy s ∧ Ok n s
  just : ∀ s d, (s, d) ∈ P → Reach rdy (mvOf P) first s true
  all : ∀ s, Reach rdy (mvOf P) first s true → rdy s ≠ [] → s ∈ P.map (·.1)
  win : ∀ s b, Reach rdy (mvOf P) first s b → rdy s = [] → s.length = n
theorem lt_of_le_ne {a b : List Int} (h : a ≤ b) (hne : a ≠ b) : a < b := Decidable.byContradiction fun q => hne (List.le_antisymm h (List.not_lt.mp q))
theorem asc_of {l : List (List Int)} (h : l.Pairwise (· ≤ ·)) (nd : l.Nodup) : l.Pairwise (· < ·) := by
  induction l with
  | nil => exact List.Pairwise.nil
  | cons x l ih =>
    rw [List.pairwise_cons] at h
    rw [List.nodup_cons] at nd
    exact List.pairwise_cons.mpr ⟨fun y hy => lt_of_le_ne (h.1 y hy) fun e => nd.1 (e ▸ hy), ih h.2 nd.2⟩
theorem lt_irr (a : List Int) : ¬ a < a := List.lt_irrefl a
theorem nodup_asc {l : List (List Int)} (h : l.Pairwise (· < ·)) : l.Nodup := h.imp fun {a b} (q : a < b) => (fun e => lt_irr b (by rw [e] at q; exact q) : a ≠ b)
theorem le_asc {l : List (List Int)} (h : l.Pairwise (· < ·)) : l.Pairwise (· ≤ ·) := h.imp fun {a b} q => Decidable.byContradiction fun z => lt_irr a (by
  have h2 := List.not_le.mp z
  exact List.lt_trans q h2)
theorem sortedL_unique : ∀ {l m : List (List Int)}, l.Perm m → l.Pairwise (· ≤ ·) → m.Pairwise (· ≤ ·) → l = m
  | [], m, hp, _, _ => by rw [List.nil_perm.mp hp]
  | x :: xs, [], hp, _, _ => by
    have := hp.length_eq
    simp at this
  | x :: xs, y :: ys, hp, h1, h2 => by
    have hxy : x = y := by
      rw [List.pairwise_cons] at h1 h2
      have hx : x ∈ y :: ys := hp.mem_iff.mp (List.mem_cons_self ..)
      have hy : y ∈ x :: xs := hp.mem_iff.mpr (List.mem_cons_self ..)
      rcases List.mem_cons.mp hx with e | hx
      · exact e
      · rcases List.mem_cons.mp hy with e | hy
        · exact e.symm
        · exact List.le_antisymm (h1.1 y hy) (h2.1 x hx)
    subst hxy
    rw [List.pairwise_cons] at h1 h2
    rw [sortedL_unique (List.Perm.cons_inv hp) h1.2 h2.2]
theorem KI.all_done (gm : Gm n rdy) (I : KI n rdy first M []) {s : List Int} {b : Bool} (h : Reach rdy (mvOf M) first s b) : gv rdy n s b = n ∧ Cov rdy (M.map (·.1)) [] s b := by
  induction h with
  | root => exact ⟨I.hv, I.root⟩
  | mine hr e hd ih =>
    have hm := mvOf_mem e
    exact ⟨(I.mem _ _ hm).2.2, I.clo _ _ hm⟩
  | @his s k hr hk ih =>
    refine ⟨gm.his (hr.ok gm) ih.1 hk, ?_⟩
    rcases ih.2 with h | ⟨h, _⟩ | ⟨_, h⟩
    · exact nomatch h
    · exact nomatch h
    · rcases h k hk with h | h
      · exact nomatch h
      · exact .inr (.inl ⟨rfl, h⟩)
/-- what the making gives, sorted, is a plan -/
theorem KI.plan (gm : Gm n rdy) (I : KI n rdy first M []) {ks : List (List Int)} (hp : ks.Perm (M.map (·.1))) (hs : ks.Pairwise (· ≤ ·)) : Plan n rdy first (ks.map fun s => (s, (mvOf M s).getD 0)) := by
  have hkeys : (ks.map fun s => (s, (mvOf M s).getD 0)).map (·.1) = ks := by
    rw [List.map_map]
    exact List.map_id' ks
  have nd : ks.Nodup := hp.nodup_iff.mpr I.nd
  have hmv : ∀ s, mvOf (ks.map fun s => (s, (mvOf M s).getD 0)) s = mvOf M s := fun s => by
    by_cases h : s ∈ ks
    · have h1 : (s, (mvOf M s).getD 0) ∈ ks.map fun s => (s, (mvOf M s).getD 0) := List.mem_map.mpr ⟨s, h, rfl⟩
      rw [mvOf_of_mem (by rw [hkeys]; exact nd) h1]
      obtain ⟨d, e⟩ := mvOf_some (hp.mem_iff.mp h)
      rw [e]
      rfl
    · rw [mvOf_none (by rw [hkeys]; exact h), mvOf_none fun h2 => h (hp.mem_iff.mpr h2)]
  have hmem : ∀ s d, (s, d) ∈ ks.map (fun s => (s, (mvOf M s).getD 0)) → (s, d) ∈ M := fun s d h => by
    have e := mvOf_of_mem (by rw [hkeys]; exact nd) h
    rw [hmv] at e
    exact mvOf_mem e
  refine ⟨by rw [hkeys]; exact asc_of hs nd, fun s d h => ?_, fun s d h => ?_, fun s h hr => ?_, fun s b h hr => ?_⟩
  · have := I.mem s d (hmem s d h)
    exact ⟨this.2.1, this.1⟩
  · exact (I.reM s d (hmem s d h)).congr fun s => (hmv s).symm
  · rw [hkeys]
    have h2 := (I.all_done gm (h.congr hmv)).2
    rcases h2 with h2 | ⟨_, h2⟩ | ⟨h2, _⟩
    · exact nomatch h2
    · rcases h2 with h2 | h2
      · exact hp.mem_iff.mpr h2
      · exact absurd h2 hr
    · exact nomatch h2
  · have h1 := h.congr hmv
    have h2 := (I.all_done gm h1).1
    rw [gm.gv_len (h1.ok gm) b hr] at h2
    omega

/-! ### the checking of a plan -/
variable {P : Mv} {T : List (List Int)}
structure SI (n : Nat) (rdy : List Int → List Int) (first : Bool) (P : Mv) (T : List (List Int)) (rows : List Row) : Prop where
  nd : T.Nodup
  reT : ∀ s ∈ T, Reach rdy (mvOf P) first s true ∧ rdy s ≠ []
  reR : ∀ s b, (s, b) ∈ rows → Reach rdy (mvOf P) first s b
  root : Cov rdy T rows [] first
  clo : ∀ s ∈ T, ∀ d, mvOf P s = some d → Cov rdy T rows (nxt s d) false
theorem SI.start : SI n rdy first P [] [([], first)] where
  nd := List.nodup_nil
  reT := fun _ h => nomatch h
  reR := fun s b h => by
    rw [List.mem_singleton] at h
    injection h with h1 h2
    subst h1 h2
    exact .root
  root := .inl (List.mem_singleton.mpr rfl)
  clo := fun _ h => nomatch h
theorem SI.skip (I : SI n rdy first P T (rows ++ [(s, true)])) (h : s ∈ T ∨ rdy s = []) : SI n rdy first P T rows where
  nd := I.nd
  reT := I.reT
  reR := fun t b ht => I.reR t b (List.mem_append.mpr (.inl ht))
  root := I.root.step (fun _ h => h) (fun _ h => h) (.inl ⟨rfl, h⟩)
  clo := fun t ht d e => (I.clo t ht d e).step (fun _ h => h) (fun _ h => h) (.inl ⟨rfl, h⟩)
theorem SI.choose (I : SI n rdy first P T (rows ++ [(s, true)])) (hn : s ∉ T) (hr : rdy s ≠ []) {d : Int} (e : mvOf P s = some d) (hd : d ∈ rdy s) : SI n rdy first P (T ++ [s]) (rows ++ [(nxt s d, false)]) := by
  have hre := I.reR s true (List.mem_append.mpr (.inr (List.mem_singleton.mpr rfl)))
  have hks : ∀ y ∈ T, y ∈ T ++ [s] := fun y hy => List.mem_append.mpr (.inl hy)
  have hsk : s ∈ T ++ [s] := List.mem_append.mpr (.inr (List.mem_singleton.mpr rfl))
  have hrs : ∀ y ∈ rows, y ∈ rows ++ [(nxt s d, false)] := fun y hy => List.mem_append.mpr (.inl hy)
  have hdone : Done rdy (T ++ [s]) (rows ++ [(nxt s d, false)]) s true := .inl ⟨rfl, .inl hsk⟩
  refine ⟨?_, fun t ht => ?_, fun t b ht => ?_, I.root.step hrs hks hdone, fun t ht d' e' => ?_⟩
  · rw [List.nodup_append]
    refine ⟨I.nd, by simp, fun a ha b hb => ?_⟩
    rw [List.mem_singleton] at hb
    subst hb
    exact fun e => hn (e ▸ ha)
  · rcases List.mem_append.mp ht with ht | ht
    · exact I.reT t ht
    · rw [List.mem_singleton] at ht
      subst ht
      exact ⟨hre, hr⟩
  · rcases List.mem_append.mp ht with ht | ht
    · exact I.reR t b (List.mem_append.mpr (.inl ht))
    · rw [List.mem_singleton] at ht
      injection ht with h1 h2
      subst h1 h2
      exact .mine hre e hd
  · rcases List.mem_append.mp ht with ht | ht
    · exact (I.clo t ht d' e').step hrs hks hdone
    · rw [List.mem_singleton] at ht
      subst ht
      rw [e] at e'
      cases e'
      exact .inl (List.mem_append.mpr (.inr (List.mem_singleton.mpr rfl)))
theorem SI.spread (I : SI n rdy first P T (rows ++ [(s, false)])) : SI n rdy first P T (rows ++ ((rdy s).map fun k => nxt s k).map fun t => (t, true)) := by
  have hre := I.reR s false (List.mem_append.mpr (.inr (List.mem_singleton.mpr rfl)))
  have hrs : ∀ y ∈ rows, y ∈ rows ++ ((rdy s).map fun k => nxt s k).map fun t => (t, true) := fun y hy => List.mem_append.mpr (.inl hy)
  have hdone : Done rdy T (rows ++ ((rdy s).map fun k => nxt s k).map fun t => (t, true)) s false := .inr ⟨rfl, fun k hk =>
    .inl (List.mem_append.mpr (.inr (List.mem_map.mpr ⟨nxt s k, List.mem_map.mpr ⟨k, hk, rfl⟩, rfl⟩)))⟩
  refine ⟨I.nd, I.reT, fun t b ht => ?_, I.root.step hrs (fun _ h => h) hdone, fun t ht d e => (I.clo t ht d e).step hrs (fun _ h => h) hdone⟩
  rcases List.mem_append.mp ht with ht | ht
  · exact I.reR t b (List.mem_append.mpr (.inl ht))
  · obtain ⟨t', ht', e⟩ := List.mem_map.mp ht
    injection e with e1 e2
    subst e1 e2
    obtain ⟨k, hk, rfl⟩ := List.mem_map.mp ht'
    exact .his hre hk
/-- all of the plan's states are met -/
theorem SI.fin (pl : Plan n rdy first P) (I : SI n rdy first P T []) : T.Perm (P.map (·.1)) := by
  have cov : ∀ {s : List Int} {b : Bool}, Reach rdy (mvOf P) first s b → Cov rdy T [] s b := by
    intro s b h
    induction h with
    | root => exact I.root
    | @mine s d hr e hd ih =>
      rcases ih with h | ⟨_, h⟩ | ⟨h, _⟩
      · exact nomatch h
      · rcases h with h | h
        · exact I.clo s h d e
        · rw [h] at hd
          exact nomatch hd
      · exact nomatch h
    | @his s k hr hk ih =>
      rcases ih with h | ⟨h, _⟩ | ⟨_, h⟩
      · exact nomatch h
      · exact nomatch h
      · rcases h k hk with h | h
        · exact nomatch h
        · exact .inr (.inl ⟨rfl, h⟩)
  refine (List.perm_ext_iff_of_nodup I.nd (nodup_asc pl.asc)).mpr fun s => ⟨fun h => pl.all s (I.reT s h).1 (I.reT s h).2, fun h => ?_⟩
  obtain ⟨p, hp, rfl⟩ := List.mem_map.mp h
  have h1 := cov (pl.just p.1 p.2 hp)
  have h2 := (pl.door p.1 p.2 hp).1
  rcases h1 with h1 | ⟨_, h1⟩ | ⟨h1, _⟩
  · exact nomatch h1
  · rcases h1 with h1 | h1
    · exact h1
    · rw [h1] at h2
      exact nomatch h2
  · exact nomatch h1
end
end G

/-! The plain law, 5: the search by levels that follows a plan. -/
namespace G
section
variable {n : Nat} {rdy : List Int → List Int} {first : Bool} {P : Mv}
def ch (b : Bool) (o : Option Int) (k : Int) : Bool := !b || decide (o = some k)
def kids (rdy : List Int → List Int) (P : Mv) (x : Row) : List Row := ((rdy x.1).filter (ch x.2 (mvOf P x.1))).map fun k => (nxt x.1 k, !x.2)
def newOf (more : List Row) (ks : List Row) : List Row := ks.filter fun y => !decide (y ∈ more)
def metOf (rdy : List Int → List Int) (T : List (List Int)) (x : Row) : List (List Int) := if x.2 = true ∧ rdy x.1 ≠ [] ∧ x.1 ∉ T then [x.1] else []
theorem mem_kids {x y : Row} : y ∈ kids rdy P x ↔ ∃ k ∈ rdy x.1, (x.2 = true → mvOf P x.1 = some k) ∧ y = (nxt x.1 k, !x.2) := by
  unfold kids ch
  rw [List.mem_map]
  constructor
  · rintro ⟨k, hk, rfl⟩
    obtain ⟨h1, h2⟩ := List.mem_filter.mp hk
    refine ⟨k, h1, fun e => ?_, rfl⟩
    rw [e] at h2
    simpa using h2
  · rintro ⟨k, h1, h2, rfl⟩
    refine ⟨k, List.mem_filter.mpr ⟨h1, ?_⟩, rfl⟩
    cases e : x.2 with
    | false => rfl
    | true => simpa using h2 e
theorem kids_reach {s : List Int} {b : Bool} (h : Reach rdy (mvOf P) first s b) {y : Row} (hy : y ∈ kids rdy P (s, b)) : Reach rdy (mvOf P) first y.1 y.2 ∧ y.1.length = s.length + 1 := by
  obtain ⟨k, hk, hm, rfl⟩ := mem_kids.mp hy
  refine ⟨?_, nxt_length _ _⟩
  cases b with
  | false => exact .his h hk
  | true => exact .mine h (hm rfl) hk
/-- a way ends in a child of a shorter way -/
theorem Reach.back {s : List Int} {b : Bool} (h : Reach rdy (mvOf P) first s b) : (s = [] ∧ b = first) ∨ ∃ x : Row, Reach rdy (mvOf P) first x.1 x.2 ∧ (s, b) ∈ kids rdy P x ∧ s.length = x.1.length + 1 := by
  cases h with
  | root => exact .inl ⟨rfl, rfl⟩
  | @mine s d hr e hd => exact .inr ⟨(s, true), hr, mem_kids.mpr ⟨d, hd, fun _ => e, rfl⟩, nxt_length _ _⟩
  | @his s k hr hk => exact .inr ⟨(s, false), hr, mem_kids.mpr ⟨k, hk, (fun e => nomatch e), rfl⟩, nxt_length _ _⟩
structure BO (rdy : List Int → List Int) (first : Bool) (P : Mv) (t : Nat) (rows : List Row) (T : List (List Int)) : Prop where
  nd : rows.Nodup
  re : ∀ x ∈ rows, Reach rdy (mvOf P) first x.1 x.2 ∧ x.1.length = t
  all : ∀ s b, Reach rdy (mvOf P) first s b → s.length = t → (s, b) ∈ rows
  tn : T.Nodup
  tr : ∀ s ∈ T, Reach rdy (mvOf P) first s true ∧ rdy s ≠ []
  ta : ∀ s, Reach rdy (mvOf P) first s true → rdy s ≠ [] → s.length < t → s ∈ T
theorem BO.start : BO rdy first P 0 [([], first)] [] where
  nd := by simp
  re := fun x hx => by
    rw [List.mem_singleton] at hx
    subst hx
    exact ⟨.root, rfl⟩
  all := fun s b h hl => by
    rcases h.back with ⟨rfl, rfl⟩ | ⟨x, _, _, e⟩
    · exact List.mem_singleton.mpr rfl
    · omega
  tn := List.nodup_nil
  tr := fun _ h => nomatch h
  ta := fun s _ _ h => by omega
structure BJ (rdy : List Int → List Int) (first : Bool) (P : Mv) (t : Nat) (done : List Row) (more : List Row) (T : List (List Int)) : Prop where
  nd : more.Nodup
  re : ∀ x ∈ more, Reach rdy (mvOf P) first x.1 x.2 ∧ x.1.length = t + 1
  all : ∀ x ∈ done, ∀ y ∈ kids rdy P x, y ∈ more
  tn : T.Nodup
  tr : ∀ s ∈ T, Reach rdy (mvOf P) first s true ∧ rdy s ≠ []
  ta : ∀ s, Reach rdy (mvOf P) first s true → rdy s ≠ [] → (s.length < t ∨ (s, true) ∈ done) → s ∈ T
theorem BJ.start {t : Nat} {rows : List Row} {T : List (List Int)} (h : BO rdy first P t rows T) : BJ rdy first P t [] [] T where
  nd := List.nodup_nil
  re := fun _ h => nomatch h
  all := fun _ h => nomatch h
  tn := h.tn
  tr := h.tr
  ta := fun s h1 h2 h3 => h.ta s h1 h2 (h3.resolve_right fun z => nomatch z)
theorem kids_nodup (gm : Gm n rdy) {x : Row} (ok : Ok n x.1) : (kids rdy P x).Nodup := by
  unfold kids
  have nd : ((rdy x.1).filter (ch x.2 (mvOf P x.1))).Nodup := (gm.nd x.1).filter _
  refine List.pairwise_map.mpr (nd.imp_of_mem fun {a b} ha hb hab e => hab ?_)
  exact nxt_inj ok (gm.ok x.1 a (List.mem_filter.mp ha).1).2.2 (Prod.mk.inj e).1
theorem BJ.step (gm : Gm n rdy) {t : Nat} {done more : List Row} {T : List (List Int)} {x : Row} (h : BJ rdy first P t done more T) (hx : Reach rdy (mvOf P) first x.1 x.2) (hl : x.1.length = t) :
    BJ rdy first P t (done ++ [x]) (more ++ newOf more (kids rdy P x)) (T ++ metOf rdy T x) where
  nd := by
    rw [List.nodup_append]
    refine ⟨h.nd, (kids_nodup gm (hx.ok gm)).filter _, fun a ha b hb e => ?_⟩
    subst e
    have := (List.mem_filter.mp hb).2
    simp [ha] at this
  re := fun y hy => by
    rcases List.mem_append.mp hy with hy | hy
    · exact h.re y hy
    · have := kids_reach hx (List.mem_filter.mp hy).1
      exact ⟨this.1, by rw [this.2, hl]⟩
  all := fun y hy z hz => by
    rcases List.mem_append.mp hy with hy | hy
    · exact List.mem_append.mpr (.inl (h.all y hy z hz))
    · rw [List.mem_singleton] at hy
      subst hy
      by_cases hm : z ∈ more
      · exact List.mem_append.mpr (.inl hm)
      · exact List.mem_append.mpr (.inr (List.mem_filter.mpr ⟨hz, by simp [hm]⟩))
  tn := by
    rw [List.nodup_append]
    unfold metOf
    split
    · rename_i c
      refine ⟨h.tn, by simp, fun a ha b hb e => ?_⟩
      rw [List.mem_singleton] at hb
      subst hb e
      exact c.2.2 ha
    · exact ⟨h.tn, List.nodup_nil, fun a _ b hb => nomatch hb⟩
  tr := fun s hs => by
    rcases List.mem_append.mp hs with hs | hs
    · exact h.tr s hs
    · unfold metOf at hs
      split at hs
      · rename_i c
        rw [List.mem_singleton] at hs
        subst hs
        rw [c.1] at hx
        exact ⟨hx, c.2.1⟩
      · exact nomatch hs
  ta := fun s hr hn hd => by
    by_cases hT : s ∈ T
    · exact List.mem_append.mpr (.inl hT)
    · refine List.mem_append.mpr (.inr ?_)
      rcases hd with hd | hd
      · exact absurd (h.ta s hr hn (.inl hd)) hT
      · rcases List.mem_append.mp hd with hd | hd
        · exact absurd (h.ta s hr hn (.inr hd)) hT
        · rw [List.mem_singleton] at hd
          subst hd
          unfold metOf
          rw [if_pos ⟨rfl, hn, hT⟩]
          exact List.mem_singleton.mpr rfl
theorem BJ.fin {t : Nat} {rows more : List Row} {T T0 : List (List Int)} (o : BO rdy first P t rows T0) (h : BJ rdy first P t rows more T) : BO rdy first P (t + 1) more T where
  nd := h.nd
  re := h.re
  all := fun s b hr hl => by
    rcases hr.back with ⟨rfl, _⟩ | ⟨x, hx, hk, e⟩
    · simp at hl
    · exact h.all x (o.all x.1 x.2 hx (by omega)) _ hk
  tn := h.tn
  tr := h.tr
  ta := fun s hr hn hl => by
    rcases Nat.lt_or_ge s.length t with hlt | hge
    · exact h.ta s hr hn (.inl hlt)
    · exact h.ta s hr hn (.inr (o.all s true hr (by omega)))
theorem BO.fin (gm : Gm n rdy) (pl : Plan n rdy first P) {t : Nat} {rows : List Row} {T : List (List Int)} (h : BO rdy first P t rows T) (ht : n < t) : T.Perm (P.map (·.1)) := by
  refine (List.perm_ext_iff_of_nodup h.tn (nodup_asc pl.asc)).mpr fun s => ⟨fun hs => pl.all s (h.tr s hs).1 (h.tr s hs).2, fun hs => ?_⟩
  obtain ⟨p, hp, rfl⟩ := List.mem_map.mp hs
  have h1 := pl.just p.1 p.2 hp
  have h2 := (pl.door p.1 p.2 hp).1
  refine h.ta p.1 h1 (List.ne_nil_of_mem h2) ?_
  have := (h1.ok gm).le
  omega
theorem rows_few (hn : n ≤ 6) {l : List Row} (nd : l.Nodup) (ok : ∀ x ∈ l, Ok n x.1) : l.length ≤ 128 := by
  have hsub : ∀ x ∈ l, x ∈ ((subs (rng n)).map fun s => (s, true)) ++ (subs (rng n)).map fun s => (s, false) := fun x hx => by
    have := (ok x hx).mem_subs
    obtain ⟨s, b⟩ := x
    cases b with
    | true => exact List.mem_append.mpr (.inl (List.mem_map.mpr ⟨s, this, rfl⟩))
    | false => exact List.mem_append.mpr (.inr (List.mem_map.mpr ⟨s, this, rfl⟩))
  have h1 := nd.length_le_of_subset hsub
  have h2 := subs_few hn
  rw [List.length_append, List.length_map, List.length_map] at h1
  omega
end
end G

/-! The plain law, 4: the doors inside, found by widening. -/
namespace G
theorem arf_fuel {N : Nest} (ok : NestOk N) : ∀ (f g : Nat) (o : Option Int), (∀ h, o = some h → 0 ≤ h ∧ h < N.length) → left N o ≤ f → left N o ≤ g → arf N f o = arf N g o
  | f, g, none, _, _, _ => by rw [arf_none, arf_none]
  | 0, g, some h, hb, hf, _ => by
    have := hb h rfl
    have e : left N (some h) = N.length - h.toNat := rfl
    omega
  | f + 1, 0, some h, hb, _, hg => by
    have := hb h rfl
    have e : left N (some h) = N.length - h.toNat := rfl
    omega
  | f + 1, g + 1, some h, hb, hf, hg => by
    have b := hb h rfl
    have e : left N (some h) = N.length - h.toNat := rfl
    have hb2 : ∀ j, par N h = some j → 0 ≤ j ∧ j < N.length := fun j ej => by
      have := par_up ok b.1 b.2 ej
      omega
    have hl : left N (par N h) < left N (some h) := by
      cases e2 : par N h with
      | none => show 0 < N.length - h.toNat; omega
      | some j =>
        have := par_up ok b.1 b.2 e2
        show N.length - j.toNat < N.length - h.toNat
        omega
    show h :: arf N f (par N h) = h :: arf N g (par N h)
    rw [arf_fuel ok f g (par N h) hb2 (by omega) (by omega)]
theorem around_none {N : Nest} {k : Int} (h : par N k = none) : around N k = [] := by
  unfold around
  rw [h, arf_none]
theorem around_cons {N : Nest} (ok : NestOk N) {k j : Int} (h0 : 0 ≤ k) (h1 : k < N.length) (h : par N k = some j) : around N k = j :: around N j := by
  have b := par_up ok h0 h1 h
  unfold around
  rw [h]
  have e : N.length = (N.length - 1) + 1 := by omega
  have e2 : arf N N.length (some j) = j :: arf N (N.length - 1) (par N j) := by
    rw [e]
    rfl
  rw [e2]
  congr 1
  refine arf_fuel ok _ _ _ (fun h e => ?_) ?_ ?_
  · have := par_up ok (by omega) b.2 e
    omega
  · cases e2 : par N j with
    | none => exact Nat.zero_le _
    | some i =>
      have := par_up ok (by omega) b.2 e2
      show N.length - i.toNat ≤ _
      omega
  · cases e2 : par N j with
    | none => exact Nat.zero_le _
    | some i => exact Nat.sub_le _ _
theorem around_up {N : Nest} (ok : NestOk N) : ∀ (f : Nat) {k x : Int}, N.length - k.toNat ≤ f → 0 ≤ k → k < N.length → x ∈ around N k → k < x ∧ x < N.length
  | 0, k, x, hf, h0, h1, _ => by omega
  | f + 1, k, x, hf, h0, h1, hx => by
    cases e : par N k with
    | none =>
      rw [around_none e] at hx
      exact nomatch hx
    | some j =>
      have b := par_up ok h0 h1 e
      rw [around_cons ok h0 h1 e] at hx
      rcases List.mem_cons.mp hx with rfl | hx
      · exact b
      · have := around_up ok f (by omega) (by omega) b.2 hx
        omega
def parIn (N : Nest) (S : List Int) (k : Int) : Bool := match par N k with
  | none => false
  | some j => decide (j ∈ S)
def cloP (N : Nest) (S : List Int) (k : Int) : Bool := parIn N S k && !decide (k ∈ S)
def clo (N : Nest) (S : List Int) : List Int := S ++ (rng N.length).filter (cloP N S)
structure CI (N : Nest) (d : Int) (t : Nat) (S : List Int) : Prop where
  nd : S.Nodup
  mem : ∀ k ∈ S, (0 ≤ k ∧ k < N.length) ∧ (k = d ∨ d ∈ around N k)
  all : ∀ k : Int, 0 ≤ k → k < N.length → d ∈ (around N k).take t → k ∈ S
  root : d ∈ S
theorem CI.start {N : Nest} {d : Int} (h0 : 0 ≤ d) (h1 : d < N.length) : CI N d 0 [d] := by
  refine ⟨by simp, fun k hk => ?_, fun k _ _ h => by simp at h, by simp⟩
  rw [List.mem_singleton] at hk
  subst hk
  exact ⟨⟨h0, h1⟩, .inl rfl⟩
theorem CI.len {N : Nest} {d : Int} {t : Nat} {S : List Int} (h : CI N d t S) : S.length ≤ N.length := by
  have := h.nd.length_le_of_subset (l₂ := rng N.length) fun x hx => mem_rng.mpr (h.mem x hx).1
  rwa [rng_length] at this
theorem CI.step {N : Nest} (ok : NestOk N) {d : Int} {t : Nat} {S : List Int} (h : CI N d t S) : CI N d (t + 1) (clo N S) := by
  unfold clo
  refine ⟨?_, fun k hk => ?_, fun k h0 h1 hk => ?_, List.mem_append.mpr (.inl h.root)⟩
  · rw [List.nodup_append]
    refine ⟨h.nd, (nodup_of_lt (rng_lt _)).filter _, fun a ha b hb e => ?_⟩
    subst e
    have := (List.mem_filter.mp hb).2
    unfold cloP at this
    rw [Bool.and_eq_true, Bool.not_eq_true', decide_eq_false_iff_not] at this
    exact this.2 ha
  · rcases List.mem_append.mp hk with hk | hk
    · exact h.mem k hk
    · obtain ⟨k1, k2⟩ := List.mem_filter.mp hk
      rw [mem_rng] at k1
      refine ⟨k1, .inr ?_⟩
      unfold cloP parIn at k2
      rw [Bool.and_eq_true] at k2
      cases e : par N k with
      | none => rw [e] at k2; exact nomatch k2.1
      | some j =>
        rw [e] at k2
        have hj : j ∈ S := of_decide_eq_true k2.1
        rw [around_cons ok k1.1 k1.2 e]
        rcases (h.mem j hj).2 with rfl | hd
        · exact List.mem_cons_self ..
        · exact List.mem_cons_of_mem _ hd
  · by_cases hS : k ∈ S
    · exact List.mem_append.mpr (.inl hS)
    · refine List.mem_append.mpr (.inr (List.mem_filter.mpr ⟨mem_rng.mpr ⟨h0, h1⟩, ?_⟩))
      unfold cloP parIn
      cases e : par N k with
      | none =>
        rw [around_none e] at hk
        simp at hk
      | some j =>
        have b := par_up ok h0 h1 e
        rw [around_cons ok h0 h1 e, List.take_succ_cons] at hk
        have hj : j ∈ S := by
          rcases List.mem_cons.mp hk with rfl | hk
          · exact h.root
          · exact h.all j (by omega) b.2 hk
        simp [hj, hS]
theorem CI.fin {N : Nest} (ok : NestOk N) {d : Int} {S : List Int} (h : CI N d N.length S) {l : List Int} (hp : l.Perm (S.filter fun k => !decide (k = d))) (hs : l.Pairwise (· ≤ ·)) : l = ins N d := by
  have nd : l.Nodup := hp.nodup_iff.mpr (h.nd.filter _)
  refine asc_unique (lt_of_le_nodup hs nd) (ins_lt N d) fun x => ?_
  rw [hp.mem_iff, List.mem_filter, mem_ins]
  constructor
  · rintro ⟨hx, hne⟩
    have hne' : x ≠ d := by simpa using hne
    obtain ⟨b, e | e⟩ := h.mem x hx
    · exact absurd e hne'
    · have := around_up ok _ (Nat.le_refl _) b.1 b.2 e
      exact ⟨⟨b.1, this.1⟩, e⟩
  · rintro ⟨⟨h0, h1⟩, hd⟩
    have hdb := (h.mem d h.root).1
    refine ⟨h.all x h0 (by omega) ?_, by simp; omega⟩
    rw [List.take_of_length_le around_len]
    exact hd
end G

/-! ### the layer's short words for this claim -/
namespace Kd
open PySem PySem.Spec PyProof.Rows L2
/-- a def of the top, kept -/
structure Def (P : Program) (w : World) (K : PySem.W.Frag) (mg : Str → Option Value) (base : Heap) (k : Nat) (x : Str) (ps : List Str) (sp : Sp) : Prop where
  ex : ∃ f fd, FnOk P w K mg base CX0 k f fd ps sp ∧ mg x = some (.ref f) ∧ PySem.W.keepIn K (.ref f) = true ∧ Binds K fd ps []
section
variable {P : Program} {w : World} {K : PySem.W.Frag} {mg : Str → Option Value} {base : Heap} {k : Nat} {x : Str} {ps : List Str} {sp : Sp}
theorem mkDef {st : Stmt} {f : Addr} {fd : FuncData} (F : FnP K x st f fd) (m : mg x = some (.ref f))
    (hb : ∀ (kV doc pm : Value) (an : Option Addr) (cdv ct : Value) (us : List Value), us.length = ps.length → bindArgs (PySem.W.fnOf x x (defArgs st) (defBody st) (defScope st) .none kV doc pm an cdv ct) ⟨us, []⟩ = pure (ps.zip us))
    (G : FnOk P w K mg base CX0 k f fd ps sp) : Def P w K mg base k x ps sp := ⟨f, fd, G, m, F.kp, F.bindsN hb⟩
theorem Def.mono {j : Nat} (D : Def P w K mg base j x ps sp) (h : j ≤ k) : Def P w K mg base k x ps sp := let ⟨f, fd, G, r⟩ := D.ex; ⟨f, fd, G.mono h, r⟩
end
section
variable {X : Cx} {k : Nat} {x : Str} {ps : List Str} {sp : Sp} {p pos : Pos} {e : Expr} {es : List Expr} {t : TA}
theorem pe_c (D : Def X.prog X.w X.K X.mg X.base k x ps sp) (hr : Room k X.A) (hg : Gl X x) (ha : PA X (e :: es) t) (hdb : (x == ("__debug__" : Str)) = false := by decide)
    (he : starEach (e :: es) X.env = (false, eval e X.env) :: starEach es X.env := by rfl) (hpl : (backTo pos (starEach es X.env)).any (·.1) = false := by rfl) : PE X (.Call (.Name x p) (e :: es) [] pos) (tCall sp [] E0 t) := by
  obtain ⟨f, fd, G, m, kp, b⟩ := D.ex
  exact pe_call G hr hg m kp b .nil pass0 ha hdb he hpl
end
/-! ### rules with the written part named (within a comprehension's block) -/
section
variable {X : Cx} {K : PySem.W.Frag}
def rLn (K : PySem.W.Frag) : List V → Hp → VK → Prop := fun xs H Q => ∃ p ys, xs = [.ref p] ∧ (SqL K H p ys ∨ SqT K H p ys) ∧ Q (.int ys.length) H
def rLst (K : PySem.W.Frag) : List V → Hp → VK → Prop := fun xs H Q => ∃ p ys, xs = [.ref p] ∧ (SqL K H p ys ∨ SqT K H p ys) ∧ ∀ l, H l = none → Q (.ref l) (upd H l (.lst ys))
def rTupl (K : PySem.W.Frag) : List V → Hp → VK → Prop := fun xs H Q => ∃ p ys, xs = [.ref p] ∧ ((SqL K H p ys ∧ ∀ l, H l = none → Q (.ref l) (upd H l (.tup ys))) ∨ (SqT K H p ys ∧ Q (.ref p) H))
def rInP (K : PySem.W.Frag) : R2 := fun x y H Q => ∃ p xs, y = .ref p ∧ (SqL K H p xs ∨ SqT K H p xs) ∧ flatV x = true ∧ xs.all flatV = true ∧ Q (.bl (inV x xs)) H
def rNotInP (K : PySem.W.Frag) : R2 := fun x y H Q => ∃ p xs, y = .ref p ∧ (SqL K H p xs ∨ SqT K H p xs) ∧ flatV x = true ∧ xs.all flatV = true ∧ Q (.bl (!inV x xs)) H
theorem in_K (h : X.K = K := by rfl) : OpR X (compareOp .In) (rInP K) := by subst h; exact op_in_seq
theorem notIn_K (h : X.K = K := by rfl) : OpR X (compareOp .NotIn) (rNotInP K) := by subst h; exact op_notIn_seq
theorem ixT_K (h : X.K = K := by rfl) : IxR X (rIxT K) := by subst h; exact ix_tup
theorem ixL_K (h : X.K = K := by rfl) : IxR X (rIxL K) := by subst h; exact ix_list
theorem len_K (h : X.K = K := by rfl) : CallR X (.builtin "len") (rLn K) := by subst h; exact call_len_seq
theorem list_K (h : X.K = K := by rfl) : CallR X (.type "list") (rLst K) := by subst h; exact call_list_of
theorem tuple_K (h : X.K = K := by rfl) : CallR X (.type "tuple") (rTupl K) := by subst h; exact call_tuple_of
theorem isi_K (h : X.K = K := by rfl) : CallR X (.builtin "isinstance") (rIsi K) := by subst h; exact call_isi
theorem catA_K (h : X.K = K := by rfl) : OpR X (binaryOp .Add) (rCatA K) := by subst h; exact op_catA
theorem eqD_K (hu : X.A.units + 64 < cLine) (h : X.K = K := by rfl) : OpR X (compareOp .Eq) (rEqD K) := by subst h; exact op_eqD hu
theorem neD_K (hu : X.A.units + 64 < cLine) (h : X.K = K := by rfl) : OpR X (compareOp .NotEq) (rNeD K) := by subst h; exact op_neD hu
theorem inD_K (hu : X.A.units + 65 < cLine) (h : X.K = K := by rfl) : OpR X (compareOp .In) (rInD K) := by subst h; exact op_inD hu
theorem notInD_K (hu : X.A.units + 65 < cLine) (h : X.K = K := by rfl) : OpR X (compareOp .NotIn) (rNotInD K) := by subst h; exact op_notInD hu
theorem leT_K (hu : X.A.units < cLine) (h : X.K = K := by rfl) : OpR X (compareOp .LtE) (rLeT K) := by subst h; exact op_leT hu
theorem max_K (hc : X.calm = true) (h : X.K = K := by rfl) : CallR X (.builtin "max") (rMax K) := by subst h; exact cr_max hc
theorem min_K (hc : X.calm = true) (h : X.K = K := by rfl) : CallR X (.builtin "min") (rMin K) := by subst h; exact cr_min hc
theorem sorted_K (h : X.K = K := by rfl) : CallR X (.builtin "sorted") (rSorted K) := by subst h; exact cr_sorted
theorem hu64 {A : Around} {k : Nat} (hr : Room k A) : A.units + 64 < cLine := by have := hr.un; omega
theorem hu65 {A : Around} {k : Nat} (hr : Room k A) : A.units + 65 < cLine := by have := hr.un; omega
theorem hu0 {A : Around} {k : Nat} (hr : Room k A) : A.units < cLine := by have := hr.un; omega
end
/-- THE RULE for a def that lets nothing out -/
theorem fok {P : Program} {w : World} {K : PySem.W.Frag} {mg : Str → Option Value} {base : Heap} {x : Str} {st : Stmt} {f : Addr} {fd : FuncData} {N ps : List Str} {k : Nat} {sp : Sp} (F : FnP K x st f fd) (S : FnScope N ps (defScope st)) (len : ∀ vs H Q E, sp vs H Q E → vs.length = ps.length)
    (hbody : ∀ (cdv : Value) (A : Around) (outer : List Env) (s : Shared) (H : Hp) (vs : List V) (Q : VK) (E : XK), Room k (A.deeper (envOfC x (defScope st) s.heap.objs.size f cdv)) → sp vs H Q E →
      ∃ t, PSs (cxOf CX0 P w K mg base N x (defScope st) f cdv A outer s H E).nox (defBody st) t ∧ t { nx := fun _ H' => Q .non H', rt := Q } (start N vs) H) : FnOk P w K mg base CX0 (k + 1) f fd ps sp :=
  F.ok S len fun cdv A outer s H vs Q E hr hsp => let ⟨t, h, q⟩ := hbody cdv A outer s H vs Q E hr hsp; ⟨t, h.nox, q⟩
/-! ### heaps -/
theorem same_upd {H : Hp} {p : Addr} {o : HO} (h : H p = none) : Same H (upd H p o) := fun b x e => by
  rw [upd_ne (ne_of_none e h)]
  exact e
/-- all but d stays -/
def But (d : Addr) (H H' : Hp) : Prop := ∀ b o, b ≠ d → H b = some o → H' b = some o
theorem But.refl (d : Addr) (H : Hp) : But d H H := fun _ _ _ e => e
theorem But.trans {d : Addr} {H H1 H2 : Hp} (a : But d H H1) (b : But d H1 H2) : But d H H2 := fun c o n e => b c o n (a c o n e)
theorem Same.but {d : Addr} {H H' : Hp} (a : Same H H') : But d H H' := fun c o _ e => a c o e
theorem but_upd {H : Hp} {d : Addr} {o : HO} : But d H (upd H d o) := fun b x n e => by
  rw [upd_ne n]
  exact e
/-- tuples stay -/
def Tups (H H' : Hp) : Prop := ∀ b xs, H b = some (.tup xs) → H' b = some (.tup xs)
theorem Same.tups {H H' : Hp} (a : Same H H') : Tups H H' := fun b xs e => a b _ e
theorem Tups.refl (H : Hp) : Tups H H := fun _ _ e => e
theorem Tups.trans {H H1 H2 : Hp} (a : Tups H H1) (b : Tups H1 H2) : Tups H H2 := fun c xs e => b c xs (a c xs e)
theorem But.tups {d : Addr} {H H' : Hp} (a : But d H H') (h : ∀ xs, H d ≠ some (.tup xs)) : Tups H H' := fun b xs e => a b _ (fun z => h xs (by rw [← z]; exact e)) e
theorem tups_upd {H : Hp} {d : Addr} {o : HO} (h : ∀ xs, H d ≠ some (.tup xs)) : Tups H (upd H d o) := fun b xs e => by
  rw [upd_ne (fun z => h xs (by rw [← z]; exact e))]
  exact e
theorem free_ne {H : Hp} {b d : Addr} {o : HO} (e : H b = some o) (h : H d = none) : b ≠ d := ne_of_none e h
theorem nt_lst {H : Hp} {d : Addr} {l : List V} (h : H d = some (.lst l)) : ∀ xs, H d ≠ some (.tup xs) := fun xs e => by
  rw [h] at e
  cases e
/-! ### the data in the heap -/
def oV : Option Int → V
  | none => .non
  | some j => .int j
def NestAt (H : Hp) (a : Addr) (N : List (Option Int)) : Prop := H a = some (.tup (N.map oV))
/-- a tuple (at p) of tuples of ints -/
def RowsAt (H : Hp) (b : Addr) (nums : List (List Int)) : Prop := ∃ l : List (Addr × List Int), H b = some (.tup (l.map fun p => V.ref p.1)) ∧ l.map (·.2) = nums ∧ ∀ p ∈ l, H p.1 = some (.tup (p.2.map V.int))
def StAt (H : Hp) (c : Addr) (s : List Int) : Prop := H c = some (.tup (s.map V.int))
theorem NestAt.tups {H H' : Hp} {a : Addr} {N : List (Option Int)} (h : NestAt H a N) (t : Tups H H') : NestAt H' a N := t _ _ h
theorem StAt.tups {H H' : Hp} {a : Addr} {s : List Int} (h : StAt H a s) (t : Tups H H') : StAt H' a s := t _ _ h
theorem RowsAt.tups {H H' : Hp} {b : Addr} {nums : List (List Int)} (h : RowsAt H b nums) (t : Tups H H') : RowsAt H' b nums := by
  obtain ⟨l, h1, h2, h3⟩ := h
  exact ⟨l, t _ _ h1, h2, fun p hp => t _ _ (h3 p hp)⟩
/-! ### lists and turns -/
theorem take_snoc {α : Type} {l : List α} {i : Nat} {x : α} (h : l[i]? = some x) : l.take (i + 1) = l.take i ++ [x] := by
  rw [List.take_add_one, h]
  rfl
theorem filter_snoc {α : Type} {l : List α} {i : Nat} {x : α} (p : α → Bool) (h : l[i]? = some x) : (l.take (i + 1)).filter p = (l.take i).filter p ++ (if p x = true then [x] else []) := by
  rw [take_snoc h, List.filter_append]
  congr 1
  by_cases hp : p x = true
  · rw [if_pos hp, List.filter_cons_of_pos hp, List.filter_nil]
  · rw [if_neg hp, List.filter_cons_of_neg hp, List.filter_nil]
theorem map_get {α : Type} {l : List α} {i : Nat} {f : α → V} {v : V} (h : (l.map f)[i]? = some v) : ∃ x, l[i]? = some x ∧ v = f x := by
  rw [List.getElem?_map] at h
  cases e : l[i]? with
  | none =>
    rw [e] at h
    cases h
  | some x =>
    rw [e] at h
    exact ⟨x, rfl, (Option.some.inj h).symm⟩
theorem inV_ints (k : Int) : ∀ ns : List Int, inV (.int k) (ns.map V.int) = decide (k ∈ ns)
  | [] => rfl
  | n :: ns => by
    show (eqV (.int n) (.int k) || inV (.int k) (ns.map V.int)) = _
    rw [inV_ints k ns]
    show ((n == k) || decide (k ∈ ns)) = _
    by_cases h : n = k
    · subst h
      simp
    · have h2 : ¬ k = n := fun e => h e.symm
      simp [h, h2]
theorem inV_none : ∀ ns : List Int, inV .non (ns.map V.int) = false
  | [] => rfl
  | n :: ns => by
    show (eqV (.int n) .non || inV .non (ns.map V.int)) = _
    rw [inV_none ns]
    rfl
theorem flat_ints : ∀ ns : List Int, (ns.map V.int).all flatV = true
  | [] => rfl
  | n :: ns => by
    show (flatV (.int n) && (ns.map V.int).all flatV) = true
    rw [flat_ints ns]
    rfl
theorem line_le' {n : Nat} (h : n ≤ 1000000) : n ≤ sizeLine := by rw [sizeLine_eq]; omega
/-- a list of ints that grows at D, all else as it was -/
structure FI (H : Hp) (D : Addr) (l : List Int) (H' : Hp) : Prop where
  same : Same H H'
  at_ : H' D = some (.lst (l.map V.int))
theorem FI.start {H : Hp} {D : Addr} (h : H D = none) : FI H D [] (upd H D (.lst [])) := ⟨same_upd h, upd_same⟩
theorem FI.add {H H1 H2 : Hp} {D : Addr} {l : List Int} {x : Int} (hD : H D = none) (h : FI H D l H1) (s : Same H1 H2) (hl : l.length < sizeLine) : ∃ acc, H2 D = some (.lst acc) ∧ acc.length < sizeLine ∧ FI H D (l ++ [x]) (upd H2 D (.lst (acc ++ [.int x]))) := by
  refine ⟨_, s _ _ h.at_, by rw [List.length_map]; exact hl, fun b o e => ?_, ?_⟩
  · rw [upd_ne (ne_of_none e hD)]
    exact s _ _ (h.same _ _ e)
  · rw [upd_same, List.map_append]
    rfl
theorem FI.go {H H1 H2 : Hp} {D : Addr} {l : List Int} (h : FI H D l H1) (s : Same H1 H2) : FI H D l H2 := ⟨Same.trans h.same s, s _ _ h.at_⟩
theorem line1 {x : V} : [x].length ≤ sizeLine := line_le'  (n := 1) (by decide)
theorem line2 {x y : V} : [x, y].length ≤ sizeLine := line_le' (n := 2) (by decide)
theorem line_le {n : Nat} (h : n ≤ 1000000) : n ≤ sizeLine := by rw [sizeLine_eq]; omega
theorem line_lt {n : Nat} (h : n ≤ 1000000) : n < sizeLine := by rw [sizeLine_eq]; omega
end Kd

/-! ### own rules: sorted of a tuple, set of a tuple -/
namespace Kd
open PySem PySem.Spec PyProof.Rows L2
section
variable {X : Cx} {K : PySem.W.Frag}
/-- sorted(x) up to the sort of what was collected -/
theorem sorted_col {A : Around} {E : Value → Shared → Prop} {prog : Program} {w : World} {s : Shared} {r : Value} {vs : List Value} {Q : Value → Shared → Prop} (hL : vs.length ≤ sizeLine)
    (hcol : ∀ R : List Value → Shared → Prop, (∀ (h' : Heap) (tk : Nat), (∀ b o, s.heap.get? b = some o → h'.get? b = some o) → R vs { s with heap := h', toks := tk }) → wpAny (model prog w) A.in1 (collect r) R E s)
    (h : ∀ (h' : Heap) (tk : Nat), (∀ b o, s.heap.get? b = some o → h'.get? b = some o) →
      wpAny (model prog w) A.in1 (call (.builtin "list.sort") [.ref h'.objs.size]) (fun _ s' => Q (.ref h'.objs.size) s') E { s with heap := h'.push { cls := .type "list", data := .seq vs.toArray }, toks := tk }) :
    wpAny (model prog w) A (call (.builtin "sorted") [r]) Q E s := by
  refine PySem.Calls.call_function_entry kind_sorted plain_sorted entry_sorted (args_sorted1 _) ?_
  unfold Builtin.«sorted»
  refine wpAny_bind (m := checkCount "sorted" 1 1 _) (wpAny_pure (wpAny_bind (hcol _ fun h' tk hk => ?_)))
  have sort := h h' tk hk
  refine wpAny_bind (wpAny_newList (wpAny_bind (wpAny_holding (wpAny_mono sort ?_ ?_))) hL)
  · exact fun _ s' x => wpAny_pure ⟨_, rfl, x⟩
  · exact fun _ _ x => x
def rSortTI (K : PySem.W.Frag) : List V → Hp → VK → Prop := fun vs H Q => ∃ (a : Addr) (ns : List Int), vs = [V.ref a] ∧ SqT K H a (ns.map V.int) ∧ ns.length < 64 ∧
  ∀ (out : List Int) (p : Addr), out.Perm ns → out.Pairwise (· ≤ ·) → H p = none → Q (.ref p) (upd H p (.lst (out.map V.int)))
theorem cr_sortedTI (hX : X.K = K := by rfl) : CallR X (.builtin "sorted") (rSortTI K) := by
  subst hX
  intro pins s σ H vs us Q I r h
  obtain ⟨a, ns, rfl, src, h64, q⟩ := h
  obtain ⟨its, rv, ⟨o, ho, hc, n, hd⟩, hz⟩ := I.tuple src
  rw [Vals.ref1 r]
  have hi := rv.ints
  have hlen0 : its.length = ns.length := hi.length
  have hL : its.length ≤ sizeLine := by rw [hlen0]; exact small64 h64
  refine sorted_col (vs := its) hL (fun R hR => wpAny_collect_seq (hsz := by simpa using hL) a (.inr rfl) ho hc hd fun h' hk => hR h' s.toks hk) fun h' tk hk => ?_
  have hob : (h'.push { cls := .type "list", data := .seq its.toArray }).get? h'.objs.size = some (seqObj "list" its.toArray 0) := Heap.get?_push_size _ rfl
  have I' : Inv X pins σ H { s with heap := h', toks := tk } := I.kept (h' := h') (t' := tk) hk
  have kc : ∀ b o, h'.get? b = some o → (h'.push { cls := .type "list", data := .seq its.toArray }).get? b = some o := fun b o e => Heap.get?_push_of_some _ e
  generalize hh2 : h'.push { cls := .type "list", data := .seq its.toArray } = h2 at hob kc ⊢
  refine wpAny_call_entry PyProof.Rows.slot_list_sort ⟨_, hob, rfl⟩ PyProof.Rows.entry_list_sort (PyProof.Rows.list_sort_tree (s := { s with heap := h2, toks := tk }) hob hi (by rw [hi.length]; exact h64) fun out ns' h1 h2' h3 => ⟨.none, rfl, ?_⟩) (PyProof.Rows.args_list_sort _)
  have ⟨ep, he'⟩ := PyProof.Rows.sortedHeap_at (out := out) (vs := its) hob
  have hlen : (ns'.map V.int).length ≤ sizeLine := by rw [List.length_map, h2'.length_eq]; exact small64 h64
  exact ⟨.ref h'.objs.size, upd H h'.objs.size (.lst (ns'.map V.int)), I'.laid (t' := tk) (h' := sortedHeap h2 h'.objs.size its out) (fun b u hu => (PyProof.Rows.sortedHeap_old (Nat.ne_of_lt (Heap.lt_size hu)) (Heap.lt_size (kc b u hu))).trans (kc b u hu)) (Nat.le_refl _) ⟨hlen, out.toList, ep, vals_of_ints h1, he'⟩, rfl, q ns' _ h2' h3 (I'.hok.fresh (Nat.le_refl _))⟩
/-- set(t), t a tuple of ints -/
def rSetTI (K : PySem.W.Frag) (w : World) : List V → Hp → VK → Prop := fun vs H Q => ∃ (p : Addr) (ns : List Int), vs = [V.ref p] ∧ SqT K H p (ns.map V.int) ∧ ns.length ≤ 60 ∧
  ∀ (a : Addr) (n : Nat), H a = none → n ≤ ns.length → Q (.ref a) (upd H a (SetO w a (fun k => decide (k ∈ ns)) n))
theorem cr_setTI {w : World} (hc : X.calm = true) (hX : X.K = K := by rfl) (hw : X.w = w := by rfl) : CallR X (.type "set") (rSetTI K w) := by
  subst hX hw
  intro pins s σ H vs us Q I r h
  obtain ⟨p, ns, rfl, hs, h60, q⟩ := h
  obtain ⟨its, rv, pt, hz⟩ := I.tuple hs
  rw [Vals.ref1 r]
  refine call_set_tupI ns (I.ok.hd hc) (show s.heap.IsTuple p its.toArray from pt) (ints_of_vals rv) (by unfold scanBound; omega) fun h' tk c R1 hcn k => ?_
  exact ⟨.ref s.heap.objs.size, upd H s.heap.objs.size (SetO X.w s.heap.objs.size (fun j => decide (j ∈ ns)) c), I.laid (t' := tk) k (Nat.le_refl _) (setO_new R1), rfl, q _ c (I.hok.fresh (Nat.le_refl _)) hcn⟩
/-- sorted(set) with the world named -/
theorem sortedSet_w {w : World} (hc : X.calm = true) (hw : X.w = w := by rfl) : CallR X (.builtin "sorted") (rSortedSet w) := by subst hw; exact cr_sortedSet hc
end
end Kd

/-! ### own rules: sorting tuples of ints of any lengths, the empty one too -/
namespace Kd
open PySem PySem.Calls PySem.W PySem.SeqAt PyProof.Rows
/-- a tuple of ints as data -/
def tD (ns : List Int) : PyData := .tuple (ns.map .int)
theorem call_tuple_lt {A : Around} {s : Shared} {prog : Program} {w : World} {E : Value → Shared → Prop} {Q : Value → Shared → Prop} {l b : Addr} {items items2 : Array Value} {e r : Nat → Bool} (hl : s.heap.IsTuple l items) (hb : s.heap.IsTuple b items2)
    (he : ∀ j (a1 : j < items.size) (a2 : j < items2.size), EqAt A.in1 s items[j] items2[j] (e j))
    (hr : ∀ j (a1 : j < items.size) (a2 : j < items2.size), e j = false → RcLt A.in1 s items[j] items2[j] (r j))
    (h : Q (.bool (firstLt e r (decide (items.size < items2.size)) (List.range (min items.size items2.size)))) s) : wpAny (model prog w) A (call (.builtin "tuple.__lt__") [.ref l, .ref b]) Q E s := by
  obtain ⟨⟨cls, dd, data, sl⟩, ho, hc, n, hd⟩ := id hl
  obtain ⟨⟨cls2, dd2, data2, sl2⟩, ho2, hc2, n2, hd2⟩ := id hb
  simp only at hc hd hc2 hd2
  subst hc hd hc2 hd2
  exact call_meets F.slot_tuple_lt ⟨_, ho, rfl⟩ F.entry_tuple_lt (F.args_tuple_lt_2 _ _) (tuple_ltAt l b items items2 n n2 dd dd2 sl sl2 e r) ⟨ho, ho2, he, hr, h⟩
theorem alike_tD (ns ms : List Int) : alike (tD ns) (tD ms) = true := by
  show alike (.tuple (ns.map .int)) (.tuple (ms.map .int)) = true
  rw [alike]
  exact alike_ints ns ms
theorem depth_tD (ns : List Int) : (tD ns).depth = 1 := by
  show PyData.depth (.tuple (ns.map .int)) = 1
  rw [PyData.depth, depth_ints]
section
variable {prog : Program} {w : World} {A : Around} {E : Value → Shared → Prop} {s : Shared}
/-- one tuple of ints against another, as sorting asks -/
theorem oneLt_tup {f : Bool} {ns ms : List Int} {a b : Value} {as bs : List Addr} {Q : Bool → Shared → Prop} (ra : Reads s.heap a (tD ns) as) (rb : Reads s.heap b (tD ms) bs) (hu : A.units + 1 < cLine) (hq : Q (dataLt (tD ns) (tD ms)) s) :
    wpAny (model prog w) A (oneLt' f a b) Q E s := by
  cases f with
  | false => exact oneLt_alike (fun h => nomatch h) ra rb (alike_tD ns ms) (fun h => nomatch h) (by rw [depth_tD, depth_tD]; exact hu) hq
  | true =>
    have hal : alikeAll (ns.map .int) (ms.map .int) = true := alike_ints ns ms
    have hu' : A.units + min (PyData.depthAll (ns.map PyData.int) + 1) (PyData.depthAll (ms.map PyData.int) + 1) < cLine := by rw [depth_ints, depth_ints]; exact hu
    cases ra with
    | @tuple l o vs n _ as₁ h1 h2 h3 h4 =>
      cases rb with
      | @tuple l' o' vs' n' _ bs₁ k1 k2 k3 k4 =>
        have n1 : vs.size = (ns.map PyData.int).length := by simpa using ReadsAll.length _ _ _ h4
        have n2 : vs'.size = (ms.map PyData.int).length := by simpa using ReadsAll.length _ _ _ k4
        unfold tD at hq
        rw [dataLt_tuple, ← firstLt_toks _ _ hal, ← n1, ← n2] at hq
        rw [oneLt'_eq]
        simp only [if_true]
        refine wpAny_bind (wpAny_cRoomFor (by omega) ?_)
        refine wpAny_bind (wpAny_callSpecialIfBound?_slot (T := "tuple") ⟨_, h1, h2⟩ F.slot_tuple_lt (call_tuple_lt (e := pairEq (ns.map .int) (ms.map .int)) (r := fun j => dataLt ((ns.map PyData.int).getD j .none) ((ms.map PyData.int).getD j .none)) ⟨_, h1, h2, _, h3⟩ ⟨_, k1, k2, _, k3⟩ (fun j j1 j2 => ?_) (fun j j1 j2 hj => ?_) ?_))
        · have := eqAt_alikeAll _ _ A.in1 s vs.toList vs'.toList _ _ h4 k4 hal (room_in hu') j (by simpa using j1) (by simpa using j2)
          simpa using this
        · have := rcLt_alikeAll _ _ A.in1 s vs.toList vs'.toList _ _ h4 k4 hal (room_in hu') j (by simpa using j1) (by simpa using j2) hj
          simpa using this
        · exact wpAny_truthy_bool hq
/-- the first items, if any -/
theorem firsts_any : ∀ (vs : List Value) (nss : List (List Int)) {Q : List (Option Value) → Shared → Prop}, EachIs (fun v ns => ∃ as, Reads s.heap v (tD ns) as) vs nss →
    (∀ fs : List (Option Value), (∀ (j : Nat) (ns : List Int), nss[j]? = some ns → ∃ f, fs[j]? = some f ∧ f.isSome = !ns.isEmpty) → fs.length = nss.length → Q fs s) → wpAny (model prog w) A (vs.mapM firstOfTuple') Q E s
  | [], _, Q, e, h => by
    cases e
    rw [List.mapM_nil]
    exact wpAny_pure (h [] (fun j ns hj => by simp at hj) rfl)
  | v :: vs, nss, Q, e, h => by
    cases e with
    | @cons _ ns _ nss hr t =>
      obtain ⟨as, r⟩ := hr
      cases r with
      | @tuple a o xs n _ _ ho hc hd hr =>
        rw [List.mapM_cons]
        refine wpAny_bind ?_
        rw [kas_first_eq]
        refine wpAny_bind (Looks.here (show Looks (model prog w) s.heap (typeOf (.ref a)) o.cls from (Looks.ld ho).andThen .now) ?_)
        have notNt : ¬ (Value.type "tuple" != Value.type "tuple") = true := by simp
        rw [hc, if_neg (by first | exact notNt | decide | simp)]
        refine wpAny_bind (listItems_at ho hd ?_)
        refine wpAny_pure ?_
        refine wpAny_bind (firsts_any vs nss t fun fs hfs hl => wpAny_pure (h _ (fun j ms hj => ?_) (by rw [List.length_cons, List.length_cons, hl])))
        cases j with
        | succ j =>
          rw [List.getElem?_cons_succ] at hj ⊢
          exact hfs j ms hj
        | zero =>
          rw [List.getElem?_cons_zero] at hj ⊢
          cases hj
          refine ⟨_, rfl, ?_⟩
          have n1 : xs.size = ns.length := by
            have := ReadsAll.length _ _ _ hr
            rw [List.length_map] at this
            simpa using this
          cases ns with
          | nil =>
            have h0 : xs.size = 0 := n1
            have : xs[0]? = none := by
              rw [Array.getElem?_eq_none_iff]
              omega
            rw [this]
            rfl
          | cons n1' r =>
            have h0 : 0 < xs.size := by rw [n1]; exact Nat.succ_pos _
            rw [Array.getElem?_eq_getElem h0]
            rfl
theorem types_tup {vs : List Value} {nss : List (List Int)} (e : EachIs (fun v ns => ∃ as, Reads s.heap v (tD ns) as) vs nss) : ∀ v ∈ vs, Looks (model prog w) s.heap (typeOf v) (.type "tuple") := fun v hv => by
  obtain ⟨ns, hns, as, r⟩ := e.left v hv
  have := looks_reads (M := model prog w) r
  exact this
/-- such tuples can be sorted -/
theorem SortsAt.rows {vs : List Value} {nss : List (List Int)} (e : EachIs (fun v ns => ∃ as, Reads s.heap v (tD ns) as) vs nss) (hu : A.units + 1 < cLine) : SortsAt prog w A s (dataKind s.heap (nss.map tD)) vs := by
  have hal : AllAlike (nss.map tD) := AllAlike.of fun a b => alike_tD a b
  have ed : EachIs (fun v d => ∃ as, Reads s.heap v d as) vs (nss.map tD) := each_map (R := fun v d => ∃ as, Reads s.heap v d as) tD e
  by_cases hn : ∀ ns ∈ nss, ns ≠ []
  · refine SortsAt.data ed hal (.inl fun d hd => ?_) (fun d hd => ?_)
    · obtain ⟨ns, hns, rfl⟩ := List.mem_map.mp hd
      cases ns with
      | nil => exact absurd rfl (hn _ hns)
      | cons n r => exact ⟨.int n, r.map .int, rfl⟩
    · obtain ⟨ns, hns, rfl⟩ := List.mem_map.mp hd
      rw [depth_tD]
      exact hu
  · refine ⟨fun v hv => ?_, ?_⟩
    · obtain ⟨d, at_, as, reads⟩ := ed.left v hv
      exact ⟨_, dataKind_some hal at_ reads⟩
    · have lt : ∀ f : Bool, ∀ (E : Value → Shared → Prop) (x y : Value) (a b) (Q : Bool → Shared → Prop), (dataKind s.heap (nss.map tD)).keyOf x = some a → (dataKind s.heap (nss.map tD)).keyOf y = some b → Q ((dataKind s.heap (nss.map tD)).blt a b) s → wpAny (model prog w) A (oneLt' f x y) Q E s := by
        intro f E x y a b Q ha hb hq
        obtain ⟨_, _, m1, ra, rfl⟩ := dataKind_inv ha
        obtain ⟨_, _, m2, rb, rfl⟩ := dataKind_inv hb
        obtain ⟨ns, _, rfl⟩ := List.mem_map.mp m1
        obtain ⟨ms, _, rfl⟩ := List.mem_map.mp m2
        exact oneLt_tup ra rb hu hq
      cases nss with
      | nil => exact absurd (fun ns h => nomatch h) hn
      | cons ns₀ rest =>
        have hnot : ∀ fs : List (Option Value), (∀ (j : Nat) (ns : List Int), (ns₀ :: rest)[j]? = some ns → ∃ f, fs[j]? = some f ∧ f.isSome = !ns.isEmpty) → (fs.toArray.all fun x => x.isSome) = false := by
          intro fs hfs
          refine Bool.eq_false_iff.mpr fun hall => hn fun ns hns => ?_
          obtain ⟨j, hj⟩ := List.mem_iff_getElem?.mp hns
          obtain ⟨f, hf, hs⟩ := hfs j ns hj
          have : f.isSome = true := by
            simp only [List.all_toArray, List.all_eq_true] at hall
            exact hall f (List.mem_of_getElem? hf)
          rintro rfl
          rw [this] at hs
          simp at hs
        cases hs0 : ns₀.isEmpty with
        | false =>
          refine ⟨general', fun {E} x y a b Q => lt false E x y a b Q, fun h2 E Q hq => ?_⟩
          rw [kat_kind_eq]
          rw [List.mapM_toArray, map_eq_pure_bind]
          refine wpAny_bind (wpAny_bind (firsts_any vs _ e fun fs hfs hl => wpAny_pure ?_))
          rw [if_neg (by rw [hnot fs hfs]; exact Bool.false_ne_true)]
          obtain ⟨f, hf, hs⟩ := hfs 0 ns₀ rfl
          rw [hs0] at hs
          have h0 : (fs.toArray[0]?.bind id).isSome = true := by
            have : fs.toArray[0]? = some f := by simpa using hf
            rw [this]
            exact hs
          rw [if_pos h0]
          exact wpAny_pure hq
        | true =>
          refine ⟨oneType', fun {E} x y a b Q => lt true E x y a b Q, fun h2 E Q hq => ?_⟩
          rw [kat_kind_eq]
          rw [List.mapM_toArray, map_eq_pure_bind]
          refine wpAny_bind (wpAny_bind (firsts_any vs _ e fun fs hfs hl => wpAny_pure ?_))
          rw [if_neg (by rw [hnot fs hfs]; exact Bool.false_ne_true)]
          obtain ⟨f, hf, hs⟩ := hfs 0 ns₀ rfl
          rw [hs0] at hs
          have h0 : ¬ (fs.toArray[0]?.bind id).isSome = true := by
            have : fs.toArray[0]? = some f := by simpa using hf
            rw [this]
            show ¬ f.isSome = true
            rw [hs]
            simp
          rw [if_neg h0]
          rw [oneTypeOnly'_eq]
          rw [List.mapM_toArray, map_eq_pure_bind]
          refine wpAny_bind (wpAny_bind (wpAny_bind (kas_mapM (r := Value.type "tuple") _ (fun v hv Q' hq' => (types_tup e v hv).here hq') (wpAny_pure ?_))))
          have hall2 : ((List.map (fun _ => Value.type "tuple") vs).toArray.all fun x => x == Value.type "tuple") = true := by
            simp only [List.all_toArray, List.all_map, List.all_eq_true]
            intro _ _
            rfl
          have h0' : (List.map (fun _ => Value.type "tuple") vs).toArray[0]? = some (Value.type "tuple") := by
            match vs, h2 with
            | v :: vs, _ => simp
          rw [h0']
          simp only [hall2, if_true]
          exact wpAny_pure (wpAny_pure hq)
end
end Kd

/-! ### own rules: sorted of a list of tuples of ints -/
namespace Kd
open PySem PySem.Spec PyProof.Rows L2
theorem dataLe_tups (x : Addr × List Int → List Int) : PySem.W.dataLe false (fun b => tD (x b)) = fun p q => decide (x p ≤ x q) := by
  funext p q
  show (!PySem.W.dataLt (.tuple ((x q).map .int)) (.tuple ((x p).map .int))) = _
  rw [PySem.W.dataLt_tuple]
  show (!PySem.W.rowLt ((x q).map .int) ((x p).map .int)) = _
  rw [PySem.W.dataLt_ints]
  by_cases h : x q < x p
  · simp [h, show ¬ x p ≤ x q from fun r => List.not_lt.mpr r h]
  · simp [h, show x p ≤ x q from List.not_lt.mp h]
section
variable {X : Cx} {pins : List (Addr × Obj)} {σ : L2.St} {H : Hp} {s : Shared} {K : PySem.W.Frag}
theorem dpAll_ints : ∀ ns : List Int, DpAll K H (ns.map V.int) (ns.map .int)
  | [] => .nil
  | n :: ns => .cons (.int n) (dpAll_ints ns)
theorem dp_tup {a : Addr} {ns : List Int} (h : H a = some (.tup (ns.map V.int))) : Dp K H (.ref a) (tD ns) := .tup (SqT.of h) (dpAll_ints ns)
theorem each_reads (I : Inv X pins σ H s) : ∀ l : List (Addr × List Int), (∀ p ∈ l, H p.1 = some (.tup (p.2.map V.int))) → PySem.W.EachIs (fun v ns => ∃ as, Reads s.heap v (tD ns) as) (l.map fun p => Value.ref p.1) (l.map (·.2))
  | [], _ => .nil
  | p :: l, h => .cons (Dp.reads I _ _ _ (dp_tup (K := X.K) (h p (List.mem_cons_self ..))) rfl) (each_reads I l fun q hq => h q (List.mem_cons_of_mem _ hq))
theorem each_self : ∀ l : List (Addr × List Int), PySem.W.EachIs (fun v (p : Addr × List Int) => v = Value.ref p.1) (l.map fun p => Value.ref p.1) l
  | [] => .nil
  | _ :: l => .cons rfl (each_self l)
theorem each_eq : ∀ {vs : List Value} {l : List (Addr × List Int)}, PySem.W.EachIs (fun v (p : Addr × List Int) => v = Value.ref p.1) vs l → vs = l.map fun p => Value.ref p.1
  | _, _, .nil => rfl
  | _, _, .cons h t => by rw [h, each_eq t]; rfl
theorem each_comp {α β : Type} {R : Value → β → Prop} (f : α → β) : ∀ {vs : List Value} {l : List α}, PySem.W.EachIs R vs (l.map f) → PySem.W.EachIs (fun v a => R v (f a)) vs l
  | _, [], h => by
    cases h
    exact .nil
  | _, a :: l, h => by
    cases h with
    | cons h1 t => exact .cons h1 (each_comp f t)
/-- the sort of what was collected: references to tuples of ints -/
theorem sortRows_end {h' : Heap} {tk : Nat} {Q : VK} (I' : Inv X pins σ H { s with heap := h', toks := tk }) (l : List (Addr × List Int)) (ht : ∀ p ∈ l, H p.1 = some (.tup (p.2.map V.int))) (hL : l.length ≤ sizeLine) (hu : X.A.units + 3 < cLine)
    (q : ∀ (l' : List (Addr × List Int)) (p : Addr), l'.Perm l → (l'.map (·.2)).Pairwise (· ≤ ·) → H p = none → Q (.ref p) (upd H p (.lst (l'.map fun p => V.ref p.1)))) :
    wpAny (model X.prog X.w) X.A.in1 (call (.builtin "list.sort") [.ref h'.objs.size]) (fun _ s' => EP X pins σ Q (.ref h'.objs.size) s') X.xe { s with heap := h'.push { cls := .type "list", data := .seq (l.map fun p => Value.ref p.1).toArray }, toks := tk } := by
  have hob : (h'.push { cls := .type "list", data := .seq (l.map fun p => Value.ref p.1).toArray }).get? h'.objs.size = some (seqObj "list" (l.map fun p => Value.ref p.1).toArray 0) := Heap.get?_push_size _ rfl
  have kc : ∀ b o, h'.get? b = some o → (h'.push { cls := .type "list", data := .seq (l.map fun p => Value.ref p.1).toArray }).get? b = some o := fun b o e => Heap.get?_push_of_some _ e
  generalize hh2 : h'.push { cls := .type "list", data := .seq (l.map fun p => Value.ref p.1).toArray } = h2 at hob kc ⊢
  have ks : ∀ b o, h'.get? b = some o → (PySem.W.sortingHeap h2 h'.objs.size (l.map fun p => Value.ref p.1)).get? b = some o := fun b o e => PySem.W.sortingHeap_old (Nat.ne_of_lt (Heap.lt_size e)) (kc b o e)
  have er0 := each_reads I' l ht
  have er : PySem.W.EachIs (fun v ns => ∃ as, Reads (PySem.W.sortingHeap h2 h'.objs.size (l.map fun p => Value.ref p.1)) v (tD ns) as) (l.map fun p => Value.ref p.1) (l.map (·.2)) := er0.mono fun _ _ ⟨as, r⟩ => ⟨as, PyProof.Rows.Reads.keeps ks r⟩
  have hal : PySem.W.AllAlike (l.map fun p => tD p.2) := PySem.W.AllAlike.of fun a b => alike_tD a.2 b.2
  have hmm : (l.map (·.2)).map tD = l.map fun p => tD p.2 := by rw [List.map_map]; rfl
  have S := SortsAt.rows (prog := X.prog) (w := X.w) (A := X.A.in1.in1) (s := { s with heap := PySem.W.sortingHeap h2 h'.objs.size (l.map fun p => Value.ref p.1), toks := tk }) er (by show X.A.units + 1 + 1 + 1 < cLine; omega)
  rw [hmm] at S
  have hlen0 : (l.map fun p => Value.ref p.1).length ≤ sizeLine := by rw [List.length_map]; exact hL
  refine wpAny_call_entry PyProof.Rows.slot_list_sort ⟨_, hob, rfl⟩ PyProof.Rows.entry_list_sort (PySem.W.list_sort_vals (s := { s with heap := h2, toks := tk }) hob S hlen0 ⟨.none, rfl, ?_⟩) (PyProof.Rows.args_list_sort _)
  have hsv := PySem.W.sortVals_data (h' := PySem.W.sortingHeap h2 h'.objs.size (l.map fun p => Value.ref p.1)) (enc := fun p : Addr × List Int => tD p.2) false (each_self l) (each_comp (fun p : Addr × List Int => p.2) er) hal
  rw [dataLe_tups] at hsv
  have hout := each_eq hsv
  generalize hl' : l.mergeSort (fun p q => decide (p.2 ≤ q.2)) = l' at hout
  have hperm : l'.Perm l := by rw [← hl']; exact List.mergeSort_perm _ _
  have hsort : (l'.map (·.2)).Pairwise (· ≤ ·) := by
    rw [← hl', List.pairwise_map]
    refine (List.pairwise_mergeSort (le := fun p q : Addr × List Int => decide (p.2 ≤ q.2)) (fun a b c h1 h2 => ?_) (fun a b => ?_) l).imp fun h => of_decide_eq_true h
    · exact decide_eq_true (List.le_trans (of_decide_eq_true h1) (of_decide_eq_true h2))
    · rcases List.le_total a.2 b.2 with h | h
      · simp [h]
      · simp [h]
  rw [hout]
  obtain ⟨ep, he'⟩ := PyProof.Rows.sortedHeap_at (vs := l.map fun p => Value.ref p.1) (out := (l'.map fun p => Value.ref p.1).toArray) hob
  have hlen : (l'.map fun p => V.ref p.1).length ≤ sizeLine := by rw [List.length_map, hperm.length_eq]; exact hL
  have hn := I'.hok.fresh (a := h'.objs.size) (Nat.le_refl _)
  exact ⟨.ref h'.objs.size, upd H h'.objs.size (.lst (l'.map fun p => V.ref p.1)), I'.laid (a := h'.objs.size) (o := .lst (l'.map fun p : Addr × List Int => V.ref p.1)) (t' := tk) (h' := sortedHeap h2 h'.objs.size (l.map fun p : Addr × List Int => Value.ref p.1) (l'.map fun p : Addr × List Int => Value.ref p.1).toArray) (fun b u hu => (PyProof.Rows.sortedHeap_old (Nat.ne_of_lt (Heap.lt_size hu)) (Heap.lt_size (kc b u hu))).trans (kc b u hu)) (Nat.le_refl _) ⟨hlen, l'.map (fun p => Value.ref p.1), ep, vals_of_refs l', he'⟩, rfl, q l' _ hperm hsort hn⟩
/-- sorted(xs), xs a list of tuples of ints -/
def rSortRows (K : PySem.W.Frag) : List V → Hp → VK → Prop := fun vs H Q => ∃ (a : Addr) (l : List (Addr × List Int)), vs = [V.ref a] ∧ SqL K H a (l.map fun p => V.ref p.1) ∧ (∀ p ∈ l, H p.1 = some (.tup (p.2.map V.int))) ∧ l.length ≤ 1000 ∧
  ∀ (l' : List (Addr × List Int)) (p : Addr), l'.Perm l → (l'.map (·.2)).Pairwise (· ≤ ·) → H p = none → Q (.ref p) (upd H p (.lst (l'.map fun p => V.ref p.1)))
theorem cr_sortRows (hu : X.A.units + 3 < cLine) (hX : X.K = K := by rfl) : CallR X (.builtin "sorted") (rSortRows K) := by
  subst hX
  intro pins s σ H vs us Q I r h
  obtain ⟨a, l, rfl, hs, ht, h1000, q⟩ := h
  obtain ⟨its, rv, ⟨o, n, ho, hc, _, hd⟩, hz⟩ := I.list hs
  rw [Vals.ref1 r]
  have hi := refs_of_vals rv
  subst hi
  have hL : (l.map fun p => Value.ref p.1).length ≤ sizeLine := by rw [List.length_map]; exact line_le (by omega)
  refine sorted_col (vs := l.map fun p => Value.ref p.1) hL (fun R hR => wpAny_collect_seq (hsz := by simpa using hL) a (.inl rfl) ho hc hd fun h' hk => by simpa using hR h' s.toks hk) fun h' tk hk => ?_
  exact sortRows_end (I.kept (h' := h') (t' := tk) hk) l ht (line_le (by omega)) hu q
end
end Kd

/-! ### own rules: dicts whose keys are tuples, nested ones too -/
namespace Kd
open PySem PySem.Spec PyProof.Rows L2
/-- the key that a tuple of ints is; that a pair of such a tuple and a bool is -/
def kSt (s : List Int) : NestedKey := .tup (s.map .num)
def kPr (s : List Int) (b : Bool) : NestedKey := .tup [kSt s, .num (if b = true then 1 else 0)]
theorem num_inj : ∀ {s t : List Int}, s.map NestedKey.num = t.map NestedKey.num → s = t
  | [], [], _ => rfl
  | [], _ :: _, h => by simp at h
  | _ :: _, [], h => by simp at h
  | x :: s, y :: t, h => by
    rw [List.map_cons, List.map_cons] at h
    injection h with h1 h2
    injection h1 with h1
    rw [h1, num_inj h2]
theorem kSt_inj {s t : List Int} (h : kSt s = kSt t) : s = t := by
  unfold kSt at h
  injection h with h
  exact num_inj h
theorem kPr_inj {s t : List Int} {b c : Bool} (h : kPr s b = kPr t c) : s = t ∧ b = c := by
  unfold kPr at h
  injection h with h
  injection h with h1 h2
  injection h2 with h2 _
  injection h2 with h2
  refine ⟨kSt_inj h1, ?_⟩
  cases b <;> cases c <;> simp at h2 <;> rfl
/-- at a stands, tracked, the key k -/
inductive NKA (H : Hp) : NestedKey → Addr → Prop
  | st {a : Addr} {s : List Int} : H a = some (.tup (s.map V.int)) → NKA H (kSt s) a
  | pr {a p : Addr} {s : List Int} {b : Bool} : H a = some (.tup [.ref p, .bl b]) → H p = some (.tup (s.map V.int)) → NKA H (kPr s b) a
theorem NKA.tups {H H' : Hp} {k : NestedKey} {a : Addr} (h : NKA H k a) (t : Tups H H') : NKA H' k a := by
  cases h with
  | st h1 => exact .st (t _ _ h1)
  | pr h1 h2 => exact .pr (t _ _ h1) (t _ _ h2)
section
variable {P : Program} {w : World} {H : Hp} {h : Heap}
theorem nestedAll_ints : ∀ {s : List Int} {us : List Value}, Vals (s.map V.int) us → NestedAll h (s.map NestedKey.num) us
  | [], _, r => by cases r; exact .nil
  | x :: s, _, r => by
    cases r with
    | cons r1 r2 =>
      obtain ⟨t, rfl⟩ := r1
      exact .cons (.int x t) (nestedAll_ints r2)
theorem nestedIs_st {a : Addr} {s : List Int} (ok : HOk P w H h) (e : H a = some (.tup (s.map V.int))) : NestedIs h (kSt s) (.ref a) := by
  obtain ⟨_, its, rv, o, h1, h2, n, h3⟩ := (show ObjOk P w H h a (.tup (s.map V.int)) from ok a _ e)
  exact .tup h1 h2 h3 (by simpa using nestedAll_ints rv)
theorem depth_nums : ∀ s : List Int, NestedKey.depthAll (s.map NestedKey.num) = 0
  | [] => by simp [NestedKey.depthAll]
  | x :: s => by
    rw [List.map_cons, NestedKey.depthAll, depth_nums s]
    simp [NestedKey.depth]
theorem depth_st (s : List Int) : (kSt s).depth = 1 := by
  unfold kSt
  rw [NestedKey.depth, depth_nums]
theorem NKA.is {k : NestedKey} {a : Addr} (ok : HOk P w H h) (q : NKA H k a) : (nestedKind P w).is h k a := by
  cases q with
  | @st a s e => exact ⟨nestedIs_st ok e, by rw [depth_st]; decide⟩
  | @pr a p s b e1 e2 =>
    refine ⟨?_, ?_⟩
    · obtain ⟨_, its, rv, o, h1, h2, n, h3⟩ := (show ObjOk P w H h a (.tup [.ref p, .bl b]) from ok a _ e1)
      cases rv with
      | cons r1 r2 =>
        cases r2 with
        | cons r3 r4 =>
          cases r4
          cases r1
          cases r3
          exact .tup h1 h2 h3 (.cons (nestedIs_st ok e2) (.cons (.bool rfl) .nil))
    · show NestedKey.depth (.tup [kSt s, .num _]) ≤ 8
      simp [NestedKey.depth, NestedKey.depthAll, depth_st]
end
abbrev LE := NestedKey × Addr × V
/-- the dict at d: its entries, told by the keys' own tuples -/
def DNO (P : Program) (w : World) (d : Addr) (ls : List LE) : HO := .ext fun h => ls.length ≤ sizeLine ∧ (d == sysModules) = false ∧
  ∃ xs : List (NestedKey × Addr × Value), Paired (fun (p : LE) (q : NestedKey × Addr × Value) => p.1 = q.1 ∧ p.2.1 = q.2.1 ∧ RelV p.2.2 q.2.2) ls xs ∧
    ∃ o es ep, h.get? d = some o ∧ o.ExactDict ∧ o.data = .dict es ep ∧ es.toList = xs.map (entryOfKey (nestedKind P w)) ∧ (xs.map (·.1)).Nodup
/-- .. with the keys tracked: its keys and values, in the order of insertion -/
def DD (P : Program) (w : World) (H : Hp) (d : Addr) (kvs : List (NestedKey × V)) : Prop := ∃ ls : List LE, H d = some (DNO P w d ls) ∧ (∀ p ∈ ls, NKA H p.1 p.2.1) ∧ ls.map (fun p => (p.1, p.2.2)) = kvs ∧ (kvs.map (·.1)).Nodup
theorem keys_putK (kvs : List (NestedKey × V)) (k : NestedKey) (v : V) (nd : (kvs.map (·.1)).Nodup) : ((putK kvs k v).map (·.1)).Nodup := by
  unfold putK
  by_cases h : (kvs.any fun kv => decide (kv.1 = k)) = true
  · rw [if_pos h, List.map_map]
    have e : ((fun kv : NestedKey × V => kv.1) ∘ fun kv => if kv.1 = k then (kv.1, v) else kv) = fun kv => kv.1 := by
      funext kv
      show (if kv.1 = k then (kv.1, v) else kv).1 = kv.1
      by_cases e : kv.1 = k
      · rw [if_pos e]
      · rw [if_neg e]
    rw [e]
    exact nd
  · rw [if_neg h, List.map_append, List.nodup_append]
    refine ⟨nd, by simp, fun a ha b hb => ?_⟩
    have hb' : b = k := by simpa using hb
    subst hb'
    rintro rfl
    obtain ⟨kv, hkv, e⟩ := List.mem_map.mp ha
    exact h (List.any_eq_true.mpr ⟨kv, hkv, decide_eq_true e⟩)
theorem DD.nt {P : Program} {w : World} {H : Hp} {d : Addr} {kvs : List (NestedKey × V)} (h : DD P w H d kvs) : ∀ xs, H d ≠ some (.tup xs) := fun xs e => by
  obtain ⟨ls, h1, _⟩ := h
  rw [h1] at e
  cases e
theorem DD.keep {P : Program} {w : World} {H H' : Hp} {d : Addr} {kvs : List (NestedKey × V)} (h : DD P w H d kvs) (e : ∀ o, H d = some o → H' d = some o) (t : Tups H H') : DD P w H' d kvs := by
  obtain ⟨ls, h1, h2, h3⟩ := h
  exact ⟨ls, e _ h1, (fun p hp => (h2 p hp).tups t), h3⟩
theorem DD.same {P : Program} {w : World} {H H' : Hp} {d : Addr} {kvs : List (NestedKey × V)} (h : DD P w H d kvs) (s : Same H H') : DD P w H' d kvs := h.keep (fun o e => s _ _ e) (Same.tups s)
theorem DD.ne {P : Program} {w : World} {H : Hp} {d b : Addr} {kvs : List (NestedKey × V)} {o : HO} (h : DD P w H d kvs) (e : H b = some o) (hx : ∀ φ, o ≠ .ext φ) : b ≠ d := fun z => by
  obtain ⟨ls, h1, _⟩ := h
  rw [z, h1] at e
  exact hx _ (Option.some.inj e).symm
def storeL (ls : List LE) (k : NestedKey) (a : Addr) (v : V) : List LE :=
  if (ls.any fun p => decide (p.1 = k)) = true then ls.map (fun p => if p.1 = k then (p.1, p.2.1, v) else p) else ls ++ [(k, a, v)]
theorem storeL_pairs (ls : List LE) (k : NestedKey) (a : Addr) (v : V) : (storeL ls k a v).map (fun p => (p.1, p.2.2)) = putK (ls.map fun p => (p.1, p.2.2)) k v := by
  have e : ((ls.map fun p => (p.1, p.2.2)).any fun kv => decide (kv.1 = k)) = ls.any fun p => decide (p.1 = k) := by
    rw [List.any_map]
    rfl
  unfold storeL putK
  rw [e]
  split
  · rw [List.map_map, List.map_map]
    refine List.map_congr_left fun p _ => ?_
    by_cases h : p.1 = k <;> simp [h]
  · rw [List.map_append]
    rfl
section
variable {P : Program} {w : World}
abbrev PL (ls : List LE) (xs : List (NestedKey × Addr × Value)) : Prop := Paired (fun (p : LE) (q : NestedKey × Addr × Value) => p.1 = q.1 ∧ p.2.1 = q.2.1 ∧ RelV p.2.2 q.2.2) ls xs
theorem PL.val {ls : List LE} {xs : List (NestedKey × Addr × Value)} (r : PL ls xs) (k : NestedKey) : RelO (valV (ls.map fun p => (p.1, p.2.2)) k) ((atKey xs k).map (·.2)) := by
  induction r with
  | nil => exact True.intro
  | @cons p q ps qs h t ih =>
    have first : atKey (q :: qs) k = if p.1 = k then some q.2 else atKey qs k := by
      rw [h.1]
      unfold atKey
      rw [List.find?_cons]
      by_cases z : q.1 = k <;> simp [z]
    rw [first, List.map_cons]
    by_cases z : p.1 = k
    · rw [valV_pos (p := (p.1, p.2.2)) z, if_pos z]
      exact h.2.2
    · rw [valV_neg (p := (p.1, p.2.2)) z, if_neg z]
      exact ih
theorem PL.any {ls : List LE} {xs : List (NestedKey × Addr × Value)} (r : PL ls xs) (k : NestedKey) : (ls.any fun p => decide (p.1 = k)) = (atKey xs k).isSome := by
  have h := (r.val k).isSome_eq
  rw [Option.isSome_map, ← valV_any, List.any_map] at h
  exact h
theorem PL.repl {ls : List LE} {xs : List (NestedKey × Addr × Value)} (r : PL ls xs) (k : NestedKey) {y : V} {u : Value} (ry : RelV y u) : PL (ls.map fun p => if p.1 = k then (p.1, p.2.1, y) else p) (xs.map (putAt k u)) := by
  induction r with
  | nil => exact .nil
  | @cons p q ps qs h t ih =>
    have one : (fun (p : LE) (q : NestedKey × Addr × Value) => p.1 = q.1 ∧ p.2.1 = q.2.1 ∧ RelV p.2.2 q.2.2) (if p.1 = k then (p.1, p.2.1, y) else p) (putAt k u q) := by
      unfold putAt
      by_cases z : p.1 = k
      · rw [if_pos z, if_pos (show q.1 = k from h.1 ▸ z)]
        exact ⟨h.1, h.2.1, ry⟩
      · rw [if_neg z, if_neg (show ¬ q.1 = k from h.1 ▸ z)]
        exact h
    exact Paired.cons one ih
theorem PL.put {ls : List LE} {xs : List (NestedKey × Addr × Value)} (r : PL ls xs) (k : NestedKey) (b : Addr) {y : V} {u : Value} (ry : RelV y u) : PL (storeL ls k b y) (storedH xs k b u) := by
  unfold storeL storedH
  rw [r.any k]
  cases (atKey xs k).isSome with
  | true => exact r.repl k ry
  | false => exact Paired.snoc r ⟨rfl, rfl, ry⟩
theorem PL.mem {ls : List LE} {xs : List (NestedKey × Addr × Value)} (r : PL ls xs) : ∀ x ∈ xs, ∃ p ∈ ls, p.1 = x.1 ∧ p.2.1 = x.2.1 := by
  induction r with
  | nil => exact fun _ z => nomatch z
  | @cons p q ps qs hq t ih =>
    refine List.forall_mem_cons.mpr ⟨⟨p, List.mem_cons_self .., hq.1, hq.2.1⟩, fun x hx => ?_⟩
    obtain ⟨p', m, g⟩ := ih x hx
    exact ⟨p', List.mem_cons_of_mem _ m, g⟩
theorem dd_of {H : Hp} {h : Heap} {d : Addr} {ls : List LE} (ok : HOk P w H h) (e : H d = some (DNO P w d ls)) (hk : ∀ p ∈ ls, NKA H p.1 p.2.1) : ls.length ≤ sizeLine ∧ (d == sysModules) = false ∧ ∃ xs, PL ls xs ∧ h.DictOfH (nestedKind P w) d xs := by
  obtain ⟨z, hd, xs, r, o, es, ep, h1, h2, h3, h4, h5⟩ := (ok d _ e).1
  refine ⟨z, hd, xs, r, o, es, ep, h1, h2, h3, h4, fun x hx => ?_, h5⟩
  obtain ⟨p, hp, e1, e2⟩ := PL.mem r x hx
  rw [← e1, ← e2]
  exact (hk p hp).is ok
theorem dno_ok {H : Hp} {h : Heap} {d : Addr} {ls : List LE} {xs : List (NestedKey × Addr × Value)} (z : ls.length ≤ sizeLine) (hd : (d == sysModules) = false) (r : PL ls xs) (D : h.DictOfH (nestedKind P w) d xs) : ObjOk P w H h d (DNO P w d ls) := by
  obtain ⟨o, es, ep, h1, h2, h3, h4, _, h5⟩ := D
  exact ⟨⟨z, hd, xs, r, o, es, ep, h1, h2, h3, h4, h5⟩, ⟨o, h1⟩, fun g1 g2 ⟨z, hd, xs, r, o, es, ep, k1, k2⟩ k => ⟨z, hd, xs, r, o, es, ep, k o k1, k2⟩⟩
theorem room8 {A : Around} {prog : Program} {w : World} (hu : A.units + 64 < cLine) : (nestedKind prog w).room A.in1 := by
  show A.units + 1 + 8 < cLine
  omega
end
section
variable {X : Cx} {o i value : Expr} {pos pos' : Pos} {td ty tv : TE}
/-- {} -/
def tNNew (P : Program) (w : World) : TE := fun _ H Q => ∀ p, H p = none → Q (.ref p) (upd H p (DNO P w p []))
theorem pe_nnew {P : Program} {w : World} (hP : X.prog = P := by rfl) (hw : X.w = w := by rfl) : PE X (.Dict [] [] pos) (tNNew P w) := by
  subst hP hw
  exact ⟨fun pins s σ H Q I h => wpAny_Dict_empty ⟨.ref s.heap.objs.size, _, I.laid (a := s.heap.objs.size) (o := DNO X.prog X.w s.heap.objs.size []) (t' := s.toks) (fun _ _ q => Heap.get?_push_of_some _ q) (Nat.le_refl _)
    (dno_ok (Nat.zero_le _) (beq_eq_false_iff_ne.mpr (Ne.symm (Nat.ne_of_lt I.big))) .nil (Heap.DictOfH.new s.heap)), rfl, h _ (I.hok.fresh (Nat.le_refl _))⟩⟩
theorem DD.new {P : Program} {w : World} {H : Hp} {p : Addr} : DD P w (upd H p (DNO P w p [])) p [] := ⟨[], upd_same, (fun _ h => nomatch h), rfl, List.nodup_nil⟩
/-- d[y], y in d, y not in d, d[y] = v -/
def tNGet (P : Program) (w : World) (td ty : TE) : TE := fun σ H Q => td σ H fun x H1 => ty σ H1 fun y H2 => ∃ a b kvs k v, x = .ref a ∧ y = .ref b ∧ DD P w H2 a kvs ∧ NKA H2 k b ∧ valV kvs k = some v ∧ Q v H2
def rNIn (P : Program) (w : World) : R2 := fun y x H Q => ∃ a b kvs k, x = .ref a ∧ y = .ref b ∧ DD P w H a kvs ∧ NKA H k b ∧ Q (.bl (valV kvs k).isSome) H
def rNNotIn (P : Program) (w : World) : R2 := fun y x H Q => ∃ a b kvs k, x = .ref a ∧ y = .ref b ∧ DD P w H a kvs ∧ NKA H k b ∧ Q (.bl (!(valV kvs k).isSome)) H
def sNPut (P : Program) (w : World) (td ty tv : TE) : TS := fun D σ H => tv σ H fun v H1 => td σ H1 fun x H2 => ty σ H2 fun y H3 => ∃ a b kvs k, x = .ref a ∧ y = .ref b ∧ DD P w H3 a kvs ∧ NKA H3 k b ∧ kvs.length < sizeLine ∧
  ∀ H', But a H3 H' → Tups H3 H' → DD P w H' a (putK kvs k v) → D.nx σ H'
theorem pe_nget {P : Program} {w : World} (hu : X.A.units + 64 < cLine) (ho : PE X o td) (hi : PE X i ty) (hs : NoSl i) (hP : X.prog = P := by rfl) (hw : X.w = w := by rfl) : PE X (.Subscript o i pos) (tNGet P w td ty) := by
  subst hP hw
  refine ⟨fun pins s σ H Q I h => ?_⟩
  refine subD_of PySem.F.slot_dict_getitem.lookup hs (thn (ho.run pins s σ H _ I h) fun u s1 ⟨x, H1, I1, rx, q1⟩ => thn (hi.run pins s1 σ H1 _ I1 q1) fun iv s2 ⟨y, H2, I2, ry, a, b, kvs, k, v, ex, ey, ⟨ls, e1, e2, e3, end_⟩, hk, hv, q2⟩ => ?_)
  subst ex ey
  obtain rfl : u = Value.ref a := rx
  obtain rfl : iv = Value.ref b := ry
  obtain ⟨z, hd, xs, rel, D⟩ := dd_of I2.hok e1 e2
  have r := rel.val k
  rw [e3, hv] at r
  obtain ⟨w', hw', rw'⟩ := RelO.some_of (v := v) (o := (atKey xs k).map (·.2)) r
  obtain ⟨p, hp, hp2⟩ := Option.map_eq_some_iff.mp hw'
  refine ⟨D.typeIs, wpAny_getItem_heap (room8 hu) (hk.is I2.hok) D hp ?_⟩
  rw [hp2]
  exact ⟨v, H2, I2.tok _, rw', q2⟩
theorem or_nin {P : Program} {w : World} (hu : X.A.units + 64 < cLine) (hP : X.prog = P := by rfl) (hw : X.w = w := by rfl) : OpR X (compareOp .In) (rNIn P w) := by
  subst hP hw
  intro pins s σ H y x v u Q I ry rx h
  obtain ⟨a, b, kvs, k, rfl, rfl, ⟨ls, e1, e2, e3, end_⟩, hk, q⟩ := h
  cases rx
  cases ry
  obtain ⟨z, hd, xs, rel, D⟩ := dd_of I.hok e1 e2
  refine wpAny_in_heap (room8 hu) (hk.is I.hok) hd D ?_
  have r := (rel.val k).isSome_eq
  rw [Option.isSome_map, e3] at r
  rw [← r]
  exact ⟨.bl _, H, I.tok _, rfl, q⟩
theorem or_nnotin {P : Program} {w : World} (hu : X.A.units + 64 < cLine) (hP : X.prog = P := by rfl) (hw : X.w = w := by rfl) : OpR X (compareOp .NotIn) (rNNotIn P w) := by
  subst hP hw
  intro pins s σ H y x v u Q I ry rx h
  obtain ⟨a, b, kvs, k, rfl, rfl, ⟨ls, e1, e2, e3, end_⟩, hk, q⟩ := h
  cases rx
  cases ry
  obtain ⟨z, hd, xs, rel, D⟩ := dd_of I.hok e1 e2
  refine wpAny_notIn_heap (room8 hu) (hk.is I.hok) hd D ?_
  have r := (rel.val k).isSome_eq
  rw [Option.isSome_map, e3] at r
  rw [← r]
  exact ⟨.bl _, H, I.tok _, rfl, q⟩
theorem ps_nput {P : Program} {w : World} (hu : X.A.units + 64 < cLine) (ho : PE X o td) (hi : PE X i ty) (hv : PE X value tv) (hs : swapsWith value (some (.Subscript o i pos')) pos.line X.env = pure false) (hP : X.prog = P := by rfl) (hw : X.w = w := by rfl) :
    PS X (.Assign [.Subscript o i pos'] value pos) (sNPut P w td ty tv) := by
  subst hP hw
  refine ⟨fun pins s σ H D I h => ?_⟩
  refine wpAny_Assign_Subscript (thn (hv.run pins s σ H _ I h) fun r s1 ⟨v, H1, I1, rv, q1⟩ => thn (ho.run pins s1 σ H1 _ I1 q1) fun u s2 ⟨x, H2, I2, rx, q2⟩ => thn (hi.run pins s2 σ H2 _ I2 q2) fun iv s3 ⟨y, H3, I3, ry, a, b, kvs, k, ex, ey, ⟨ls, e1, e2, e3, end_⟩, hk, hl, q3⟩ => ?_) hs
  subst ex ey
  obtain rfl : u = Value.ref a := rx
  obtain rfl : iv = Value.ref b := ry
  obtain ⟨z, hd, xs, rel, D'⟩ := dd_of I3.hok e1 e2
  have hz : xs.length ≤ sizeLine := (Paired.length rel) ▸ z
  have hlen : ls.length = kvs.length := by rw [← e3, List.length_map]
  have hll : (storeL ls k b v).length ≤ sizeLine := by
    unfold storeL
    split
    · rw [List.length_map]; exact z
    · rw [List.length_append, List.length_singleton, hlen]; exact hl
  refine wpAny_setItem_heap (hsz := hz) (room8 hu) (hk.is I3.hok) D' fun h' dd' hs' => ?_
  obtain ⟨ob, _, _, hob, _⟩ := id dd'
  have nt : ∀ ys, H3 a ≠ some (.tup ys) := fun ys e => by rw [e1] at e; cases e
  have tt : Tups H3 (upd H3 a (DNO X.prog X.w a (storeL ls k b v))) := tups_upd nt
  refine ⟨σ, upd H3 a (DNO X.prog X.w a (storeL ls k b v)), d_write I3 (by rw [e1]; exact True.intro) hs' ⟨ob, hob⟩ (dno_ok hll hd (rel.put k b rv) dd'), q3 _ but_upd tt ⟨_, upd_same, fun p hp => ?_, by rw [storeL_pairs, e3], keys_putK kvs k v end_⟩⟩
  unfold storeL at hp
  split at hp
  · obtain ⟨p0, hp0, rfl⟩ := List.mem_map.mp hp
    by_cases e : p0.1 = k
    · rw [if_pos e]
      exact (e2 p0 hp0).tups tt
    · rw [if_neg e]
      exact (e2 p0 hp0).tups tt
  · rcases List.mem_append.mp hp with hp | hp
    · exact (e2 p hp).tups tt
    · rw [List.mem_singleton] at hp
      subst hp
      exact hk.tups tt
end
/-! ### d.keys(), sorted of it -/
def keysO (p d : Addr) : HO := .ext fun h => PySem.W.KdlKeysView h p d
theorem keysO_ok {P : Program} {w : World} {H : Hp} {h : Heap} {p d : Addr} (e : h.get? p = some { cls := .type "dict_keys", data := .fields #[.ref d] }) : ObjOk P w H h p (keysO p d) :=
  ⟨⟨_, e, rfl, rfl⟩, ⟨_, e⟩, fun _ _ ⟨o, at_, view⟩ stays => ⟨o, stays o at_, view⟩⟩
section
variable {X : Cx} {o : Expr} {apos cpos : Pos} {to : TE}
/-- d.keys() -/
def tNKeys (P : Program) (w : World) (to : TE) : TE := fun σ H Q => to σ H fun x H1 => ∃ a kvs, x = .ref a ∧ DD P w H1 a kvs ∧ ∀ p, H1 p = none → Q (.ref p) (upd H1 p (keysO p a))
theorem pe_nkeys {P : Program} {w : World} (ho : PE X o to)
    (hbase : attributeBase o "keys" X.env (eval o X.env) = eval o X.env := by rfl)
    (hline : (apos.endLine == cpos.line) = true := by rfl) (hP : X.prog = P := by rfl) (hw : X.w = w := by rfl) :
    PE X (.Call (.Attribute o "keys" apos) [] [] cpos) (tNKeys P w to) := by
  subst hP hw
  refine ⟨fun pins s σ H Q I h => ?_⟩
  refine wpAny_Call_method0_late hbase hline (thn (ho.run pins s σ H _ I h) fun v s1 ⟨x, H1, I1, r1, a, kvs, ex, ⟨ls, e1, e2, e3, end_⟩, q1⟩ => ?_)
  subst ex
  obtain rfl : v = Value.ref a := r1
  obtain ⟨z, hd, xs, rel, D⟩ := dd_of I1.hok e1 e2
  have nod : ∀ b, Value.ref a = .ref b → ∃ ob, s1.heap.get? b = some ob ∧ ob.dict = none := fun b q => by
    cases q
    obtain ⟨ob, _, _, h1, h2, _⟩ := D
    exact ⟨ob, h1, h2.2.1⟩
  refine ⟨"dict", "dict.keys", PySem.F.plainAttrs_dict, PySem.F.slot_dict_keys, PySem.F.type_dict_keys, D.typeIs, nod, Calls.callWith_builtin rfl (PySem.evalArgs_none ?_)⟩
  obtain ⟨es, ep, hr, _, _⟩ := D.raw
  refine call_meetsIn PySem.F.slot_dict_keys D.typeIs PySem.F.entry_dict_keys (PySem.F.args_dict_keys_1 _) (meets_dict_keys_raw a hd) ⟨⟨es, ep, hr⟩, ?_⟩
  exact ⟨.ref s1.heap.objs.size, upd H1 s1.heap.objs.size (keysO s1.heap.objs.size a), I1.laid (t' := s1.toks) (fun b u e => Heap.get?_push_of_some _ e) (Nat.le_refl _) (keysO_ok (Heap.get?_push_size _ rfl)), rfl, q1 _ (I1.hok.fresh (Nat.le_refl _))⟩
theorem nka_st {H : Hp} {s : List Int} {a : Addr} {k : NestedKey} (h : NKA H k a) (e : k = kSt s) : H a = some (.tup (s.map V.int)) := by
  cases h with
  | st h1 => rw [← kSt_inj e]; exact h1
  | pr _ _ =>
    exfalso
    unfold kPr kSt at e
    injection e with e
    cases s with
    | nil => simp at e
    | cons x s =>
      rw [List.map_cons] at e
      injection e with e _
      cases e
theorem keys_list {H : Hp} : ∀ (ls : List LE) (M : List (List Int)), (∀ p ∈ ls, NKA H p.1 p.2.1) → ls.map (·.1) = M.map kSt → ∃ l : List (Addr × List Int), l.map (·.1) = ls.map (·.2.1) ∧ l.map (·.2) = M ∧ ∀ p ∈ l, H p.1 = some (.tup (p.2.map V.int))
  | [], [], _, _ => ⟨[], rfl, rfl, fun _ h => nomatch h⟩
  | [], _ :: _, _, h => by simp at h
  | _ :: _, [], _, h => by simp at h
  | p :: ls, s :: M, hk, h => by
    rw [List.map_cons, List.map_cons] at h
    injection h with h1 h2
    obtain ⟨l, g1, g2, g3⟩ := keys_list ls M (fun q hq => hk q (List.mem_cons_of_mem _ hq)) h2
    refine ⟨(p.2.1, s) :: l, by rw [List.map_cons, List.map_cons, g1], by rw [List.map_cons, g2], fun q hq => ?_⟩
    rcases List.mem_cons.mp hq with rfl | hq
    · exact nka_st (hk p (List.mem_cons_self ..)) h1
    · exact g3 q hq
theorem pl_keys {P : Program} {w : World} : ∀ {ls : List LE} {xs : List (NestedKey × Addr × Value)}, PL ls xs → (xs.map (entryOfKey (nestedKind P w))).map (·.key) = (ls.map (·.2.1)).map Value.ref
  | _, _, .nil => rfl
  | _, _, .cons h t => by
    rw [List.map_cons, List.map_cons, List.map_cons, List.map_cons, pl_keys t]
    congr 1
    show Value.ref _ = Value.ref _
    rw [h.2.1]
theorem items_key {es : Array DictEntry} {acc : Array Value} (h : ItemsOf (fun i v => ∃ hi : i < es.size, v = es[i].key) acc es.size) : acc.toList = es.toList.map (·.key) := by
  apply List.ext_getElem?
  intro j
  obtain ⟨h1, h2⟩ := h
  rw [List.getElem?_map, Array.getElem?_toList, Array.getElem?_toList]
  by_cases hj : j < es.size
  · obtain ⟨v, hv⟩ : ∃ v, acc[j]? = some v := ⟨acc[j]'(by omega), Array.getElem?_eq_getElem (by omega)⟩
    obtain ⟨_, e⟩ := h2 j v hv
    rw [hv, e, Array.getElem?_eq_getElem hj]
    rfl
  · rw [Array.getElem?_eq_none (by omega), Array.getElem?_eq_none (by omega)]
    rfl
/-- sorted(d.keys()), the keys tuples of ints -/
def rSortKeys (P : Program) (w : World) : List V → Hp → VK → Prop := fun vs H Q => ∃ (p a : Addr) (kvs : List (NestedKey × V)) (M : List (List Int)), vs = [V.ref p] ∧ H p = some (keysO p a) ∧ DD P w H a kvs ∧ kvs.map (·.1) = M.map kSt ∧ M.length ≤ 1000 ∧
  ∀ (l' : List (Addr × List Int)) (q : Addr), (l'.map (·.2)).Perm M → (l'.map (·.2)).Pairwise (· ≤ ·) → (∀ p ∈ l', H p.1 = some (.tup (p.2.map V.int))) → H q = none → Q (.ref q) (upd H q (.lst (l'.map fun p => V.ref p.1)))
theorem cr_sortKeys {P : Program} {w : World} (hc : X.calm = true) (hu : X.A.units + 3 < cLine) (hP : X.prog = P := by rfl) (hw : X.w = w := by rfl) : CallR X (.builtin "sorted") (rSortKeys P w) := by
  subst hP hw
  intro pins s σ H vs us Q I r h
  obtain ⟨p, a, kvs, M, rfl, hp, ⟨ls, e1, e2, e3, end_⟩, hM, h1000, q⟩ := h
  rw [Vals.ref1 r]
  have view : PySem.W.KdlKeysView s.heap p a := (show ObjOk X.prog X.w H s.heap p (keysO p a) from I.hok p _ hp).1
  obtain ⟨z, hd, xs, rel, D⟩ := dd_of I.hok e1 e2
  obtain ⟨o, es, ep, ho, hx, hdat, hes, _, _⟩ := id D
  have hlk : ls.map (·.1) = M.map kSt := by rw [← hM, ← e3, List.map_map]; rfl
  obtain ⟨l, g1, g2, g3⟩ := keys_list ls M e2 hlk
  have hlen : l.length = M.length := by rw [← g2, List.length_map]
  have hll : ls.length = l.length := by
    have := congrArg List.length g1
    rw [List.length_map, List.length_map] at this
    omega
  have hsz : es.size = l.length := by rw [size_of_entries hes, ← Paired.length rel, hll]
  have hvs : es.toList.map (·.key) = l.map fun p => Value.ref p.1 := by
    rw [hes, pl_keys rel, ← g1, List.map_map]
    rfl
  have hL : (l.map fun p => Value.ref p.1).length ≤ sizeLine := by rw [List.length_map]; exact line_le (by omega)
  refine sorted_col (vs := l.map fun p => Value.ref p.1) hL (fun R hR => PySem.W.kdu_collect (KdlSrc.rawKeys (r := p) (d := a) (es := es) (ep := ep)) (I.ok.hd hc) ⟨view, ⟨o, ho, hx, hdat⟩⟩ (by rw [hsz]; exact line_le (by omega)) fun h' tk acc hk hit => ?_) fun h' tk hk => ?_
  · rw [items_key hit, hvs]
    exact hR h' tk hk
  · refine sortRows_end (I.kept (h' := h') (t' := tk) hk) l g3 (line_le (by omega)) hu fun l' p' hperm hsort hn => ?_
    refine q l' p' ?_ hsort (fun x hx => g3 x (hperm.mem_iff.mp hx)) hn
    rw [← g2]
    exact hperm.map _
end
end Kd

/-! ### own rules: tuple(list) with its object told, dict(such a tuple of pairs) -/
namespace Kd
open PySem PySem.Spec PyProof.Rows L2
/-- a plain tuple object -/
def TupOb (o : Obj) : Prop := o.cls = .type "tuple" ∧ o.dict = none
section
variable {X : Cx} {K : PySem.W.Frag}
def rTupX (K : PySem.W.Frag) : List V → Hp → VK → Prop := fun xs H Q => ∃ p ys, xs = [.ref p] ∧ SqL K H p ys ∧ ∀ l o, H l = none → TupOb o → Q (.ref l) (upd H l (.frz o (.tup ys)))
theorem call_tupX (hX : X.K = K := by rfl) : CallR X (.type "tuple") (rTupX K) := by
  subst hX
  intro pins s σ H xs us Q I r h
  obtain ⟨p, ys, rfl, src, q⟩ := h
  obtain ⟨_, rfl, ⟨⟩⟩ := vals1 r
  obtain ⟨its, r', pl, hz⟩ := I.list src
  have hlen := r'.length
  refine call_tuple_list pl.isList (fun h' kp => ?_) (by rw [List.size_toArray]; omega)
  have I1 : L2.Inv X pins σ H { s with heap := h' } := I.kept (t' := s.toks) kp
  have I2 : L2.Inv X pins σ (upd H h'.objs.size (.frz { cls := .type "tuple", data := .seq its.toArray } (.tup ys))) { s with heap := h'.push { cls := .type "tuple", data := .seq its.toArray } } :=
    I1.laid (t' := s.toks) (fun b o e => Heap.get?_push_of_some _ e) (Nat.le_refl _) (show ObjOk X.prog X.w _ _ _ (.frz _ (.tup ys)) from ⟨Heap.get?_push_size _ rfl, hz, its, r', IsTup.new _ _⟩)
  exact ⟨.ref h'.objs.size, _, I2, rfl, q _ _ (I1.hok.fresh (Nat.le_refl _)) ⟨rfl, rfl⟩⟩
/-- a pair of a state's tuple and a door, where they stand, what they are -/
abbrev PE' := Addr × Addr × (List Int × Int)
def PairsIn (H : Hp) (ps : List PE') : Prop := ∀ p ∈ ps, H p.1 = some (.tup [.ref p.2.1, .int p.2.2.2]) ∧ H p.2.1 = some (.tup (p.2.2.1.map V.int))
theorem PairsIn.tups {H H' : Hp} {ps : List PE'} (h : PairsIn H ps) (t : Tups H H') : PairsIn H' ps := fun p hp => ⟨t _ _ (h p hp).1, t _ _ (h p hp).2⟩
theorem pairs_vals {pins : List (Addr × Obj)} {σ : L2.St} {H : Hp} {s : Shared} (I : L2.Inv X pins σ H s) : ∀ ps : List PE', PairsIn H ps → ∃ zs : List (PE' × Value), zs.map (·.1) = ps ∧ ∀ z ∈ zs, RelV (.int z.1.2.2.2) z.2 ∧ IsTup s.heap z.1.1 #[.ref z.1.2.1, z.2]
  | [], _ => ⟨[], rfl, fun _ h => nomatch h⟩
  | p :: ps, h => by
    obtain ⟨zs, e, hz⟩ := pairs_vals I ps fun q hq => h q (List.mem_cons_of_mem _ hq)
    obtain ⟨_, its, rv, it⟩ := (show ObjOk X.prog X.w H s.heap p.1 (.tup [.ref p.2.1, .int p.2.2.2]) from I.hok p.1 _ (h p (List.mem_cons_self ..)).1)
    cases rv with
    | cons r1 r2 =>
      cases r2 with
      | @cons _ v _ _ r3 r4 =>
        cases r4
        cases r1
        refine ⟨(p, v) :: zs, by rw [List.map_cons, e], fun z hz' => ?_⟩
        rcases List.mem_cons.mp hz' with rfl | hz'
        · exact ⟨r3, it⟩
        · exact hz z hz'
def rDictP (P : Program) (w : World) : List V → Hp → VK → Prop := fun xs H Q => ∃ (a : Addr) (o : Obj) (ps : List PE'), xs = [.ref a] ∧ H a = some (.frz o (.tup (ps.map fun p => V.ref p.1))) ∧ TupOb o ∧ PairsIn H ps ∧ ps.length ≤ 1000 ∧ (ps.map fun p => p.2.2.1).Nodup ∧
  ∀ d H', Same H H' → H d = none → DD P w H' d (ps.map fun p => (kSt p.2.2.1, V.int p.2.2.2)) → Q (.ref d) H'
theorem call_dictT {P : Program} {w : World} (hc : X.calm = true) (hu : X.A.units + 64 < cLine) (hP : X.prog = P := by rfl) (hw : X.w = w := by rfl) : CallR X (.type "dict") (rDictP P w) := by
  subst hP hw
  intro pins s σ H xs us Q I r h
  obtain ⟨a, o, ps, rfl, ha, ho, hps, h1000, nd, q⟩ := h
  obtain ⟨u, rfl, rx⟩ := vals1 r
  cases rx
  obtain ⟨hob, _, its, rv, o', ho', hc', n, hd'⟩ := (show ObjOk X.prog X.w H s.heap a (.frz o (.tup (ps.map fun p => V.ref p.1))) from I.hok a _ ha)
  have hoo : o' = o := by rw [hob] at ho'; exact (Option.some.inj ho').symm
  subst hoo
  obtain ⟨zs, hz1, hz2⟩ := pairs_vals I ps hps
  subst hz1
  have hits : its = (zs.map (·.1)).map fun p => Value.ref p.1 := by
    have := refs_at (ps := (zs.map (·.1)).map fun p => p.1) (us := its) (by rw [List.map_map]; exact rv)
    rw [this, List.map_map]
    rfl
  have len : zs.length ≤ 1000 := by rw [List.length_map] at h1000; exact h1000
  have hlz : (zs.map fun z => (Value.ref z.1.2.1, z.2)).length = zs.length := List.length_map _
  refine call_dict_pairsH (knd := nestedKind X.prog X.w) (ps := zs.map fun z => (kSt z.1.2.2.1, z.1.2.1, z.2)) (PairArg.tuple a its.toArray (fun j => ((zs[j]?).map fun z => z.1.1).getD 0) (zs.map fun z => (Value.ref z.1.2.1, z.2))) (I.ok.hd hc)
    (by show X.A.units + 1 + 1 + 8 < cLine; omega) ⟨⟨o', n, ho', hc', ho.2, hd'⟩, ?_, fun j k v hj => ?_⟩ ⟨?_, fun i key v hi => ?_⟩ (fun h' hk x hx => ?_) (by rw [hlz]; exact line_le (by omega)) fun h' tk D hk => ?_
  · rw [hits]
    simp
  · rw [List.getElem?_map] at hj
    cases e : zs[j]? with
    | none =>
      rw [e] at hj
      cases hj
    | some z =>
      rw [e] at hj
      have e2 : (Value.ref z.1.2.1, z.2) = (k, v) := Option.some.inj hj
      injection e2 with e3 e4
      subst e3 e4
      refine ⟨?_, .inl ?_⟩
      · rw [hits]
        simp [e]
      · show s.heap.IsTuple (((zs[j]?).map fun z => z.1.1).getD 0) _
        rw [e]
        exact (hz2 z (List.mem_of_getElem? e)).2
  · rw [List.length_map, hlz]
  · have hi' : (zs.map fun z => (Value.ref z.1.2.1, z.2))[i]? = some (key, v) := hi
    rw [List.getElem?_map] at hi'
    cases e : zs[i]? with
    | none =>
      rw [e] at hi'
      cases hi'
    | some z =>
      rw [e] at hi'
      have e2 : (Value.ref z.1.2.1, z.2) = (key, v) := Option.some.inj hi'
      injection e2 with e3 e4
      subst e3 e4
      exact ⟨kSt z.1.2.2.1, z.1.2.1, by rw [List.getElem?_map, e]; rfl, rfl⟩
  · obtain ⟨z, hz, rfl⟩ := List.mem_map.mp hx
    have hz' := (hps z.1 (List.mem_map.mpr ⟨z, hz, rfl⟩)).2
    have is0 := (NKA.st hz').is I.hok
    exact nestedKind_stays.stays (fun b ob vs n hb _ => hk b ob (Nat.ne_of_lt (Heap.lt_size hb)) (fun q => nomatch q) hb) is0
  · have nd2 : ((zs.map fun z => (kSt z.1.2.2.1, z.1.2.1, z.2)).map (·.1)).Nodup := by
      rw [List.map_map]
      have nd3 : (zs.map fun z => z.1.2.2.1).Nodup := by
        have := nd
        rw [List.map_map] at this
        exact this
      have e : (zs.map ((fun x : NestedKey × Addr × Value => x.1) ∘ fun z : PE' × Value => (kSt z.1.2.2.1, z.1.2.1, z.2))) = (zs.map fun z => z.1.2.2.1).map kSt := by rw [List.map_map]; rfl
      rw [e]
      rw [List.Nodup, List.pairwise_map]
      exact nd3.imp fun hne e => hne (kSt_inj e)
    rw [storedAllH_nil_of_nodup _ nd2] at D
    have I1 : L2.Inv X pins σ H { s with heap := h', toks := tk } := I.kept (t' := tk) fun b o e => hk b o (fun q => nomatch q) e
    have hfree : H s.heap.objs.size = none := I.hok.fresh (Nat.le_refl _)
    have hd0 : (s.heap.objs.size == sysModules) = false := beq_eq_false_iff_ne.mpr (Ne.symm (Nat.ne_of_lt I.big))
    have pl : ∀ zs : List (PE' × Value), (∀ z ∈ zs, RelV (.int z.1.2.2.2) z.2) → PL (zs.map fun z => (kSt z.1.2.2.1, z.1.2.1, V.int z.1.2.2.2)) (zs.map fun z => (kSt z.1.2.2.1, z.1.2.1, z.2)) := by
      intro zs
      induction zs with
      | nil => intro _; exact .nil
      | cons z zs ih => intro h; exact .cons ⟨rfl, rfl, h z (List.mem_cons_self ..)⟩ (ih fun q hq => h q (List.mem_cons_of_mem _ hq))
    have PLz := pl zs fun z hz => (hz2 z hz).1
    have okd : ObjOk X.prog X.w (upd H s.heap.objs.size (DNO X.prog X.w s.heap.objs.size (zs.map fun z => (kSt z.1.2.2.1, z.1.2.1, V.int z.1.2.2.2)))) h' s.heap.objs.size (DNO X.prog X.w s.heap.objs.size (zs.map fun z => (kSt z.1.2.2.1, z.1.2.1, V.int z.1.2.2.2))) :=
      dno_ok (by rw [List.length_map]; exact line_le (by omega)) hd0 PLz D
    have I2 : L2.Inv X pins σ (upd H s.heap.objs.size (DNO X.prog X.w s.heap.objs.size (zs.map fun z => (kSt z.1.2.2.1, z.1.2.1, V.int z.1.2.2.2)))) { s with heap := h', toks := tk } :=
      I.laid (t' := tk) (fun b o e => hk b o (fun q => nomatch q) e) (Nat.le_refl _) okd
    have sm := same_upd (o := DNO X.prog X.w s.heap.objs.size (zs.map fun z => (kSt z.1.2.2.1, z.1.2.1, V.int z.1.2.2.2))) hfree
    refine ⟨.ref s.heap.objs.size, _, I2, rfl, q _ _ sm hfree ⟨_, upd_same, fun p hp => ?_, by rw [List.map_map, List.map_map]; rfl, ?_⟩⟩
    rotate_left
    · rw [List.map_map] at nd2 ⊢
      rw [List.map_map]
      exact nd2
    obtain ⟨z, hz, rfl⟩ := List.mem_map.mp hp
    exact (NKA.st (hps z.1 (List.mem_map.mpr ⟨z, hz, rfl⟩)).2).tups (Same.tups sm)
end
end Kd

/-! ### own rules: enumerate of a tuple -/
namespace Kd
open PySem PySem.Spec PyProof.Rows L2
/-- the object that enumerate(v) makes over an iterator at it -/
abbrev enObj (it : Addr) : Obj := { cls := .type "enumerate", data := .fields #[.none, .bool false, .ref it, rawInt 0, .none, .none] }
theorem enum_made {v : Value} {o : Obj} {Pre : Heap → Prop} (B : Begins v o Pre) :
    Meets (Builtin.«enumerate.__new__» ⟨[.type "enumerate", v], []⟩) fun _ R s => Pre s.heap ∧ R (.ok (.ret (.ref (s.heap.push o).objs.size))) { s with heap := (s.heap.push o).push (enObj s.heap.objs.size) } :=
  .of_wp fun prog w A R s pre => by
    obtain ⟨heap, gens, drawn, toks, os⟩ := s
    obtain ⟨pre, goal⟩ := pre
    have known := sub_enumerate
    have first {A2 : Around} {F : Value → Shared → Prop} {G : Value → Shared → Prop} (g : G (.ref heap.objs.size) ⟨heap.push o, gens, drawn, toks, os⟩) : wpAny (model prog w) A2 (pyIter v) G F ⟨heap, gens, drawn, toks, os⟩ := B.iter prog w A2 F ⟨heap, gens, drawn, toks, os⟩ G pre g
    wp_walk using first
    refine wpAny_stack_any fun _ => ?_
    refine wpAny_pure ?_
    split
    · rename_i k _ _ _ _ _
      cases hk : (k == Value.type "enumerate") <;> (wp_walk using first; exact ⟨_, rfl, goal⟩)
    · wp_walk using first
      exact ⟨_, rfl, goal⟩
/-- how enumerate over the tuple at a stands before turn i: e the enumerate object, it the tuple's iterator -/
def EnSt (a e it : Addr) (i : Nat) (h : Heap) : Prop := e ≠ it ∧ h.IsTupleIter it a i ∧ ∃ old, IsEnum h e it ((i : Nat) : Int) old
section
variable {a e it : Addr} {i : Nat} {h h' : Heap}
theorem EnSt.objs (st : EnSt a e it i h) : ∀ b ∈ [e, it], ∃ o, h.get? b = some o ∧ ∀ v, o.data ≠ .cell v := by
  obtain ⟨_, ⟨o, g1, _, g2⟩, old, g3⟩ := st
  refine List.forall_mem_cons.mpr ⟨⟨_, g3, fun _ z => nomatch z⟩, List.forall_mem_cons.mpr ⟨⟨o, g1, fun _ z => ?_⟩, fun _ z => nomatch z⟩⟩
  rw [g2] at z
  exact nomatch z
theorem EnSt.keep (st : EnSt a e it i h) (k : ∀ b ∈ [e, it], ∀ o, h.get? b = some o → h'.get? b = some o) : EnSt a e it i h' :=
  ⟨st.1, st.2.1.at fun o z => k it (List.mem_cons_of_mem _ (List.mem_singleton.mpr rfl)) o z, st.2.2.imp fun _ g => k e (List.mem_cons_self ..) _ g⟩
theorem EnSt.old (st : EnSt a e it i h) : ∀ b ∈ [e, it], b < h.objs.size := fun b hb => let ⟨_, g, _⟩ := st.objs b hb; Heap.lt_size g
/-- the tuple itself is neither of the two -/
theorem EnSt.apart {items : Array Value} (st : EnSt a e it i h) (hl : h.IsTuple a items) : a ≠ it ∧ e ≠ a := by
  obtain ⟨_, ⟨o1, g1, c1, _⟩, old, g3⟩ := st
  obtain ⟨o2, g2, c2, _⟩ := hl
  constructor
  · rintro rfl
    rw [g1] at g2
    cases g2
    rw [c1] at c2
    injection c2 with c2
    exact absurd c2 (by decide)
  · rintro rfl
    have g4 : h.get? e = some _ := g3
    rw [g2] at g4
    cases g4
    simp at c2
end
theorem enum_call {prog : Program} {w : World} {A : Around} {Er : Value → Shared → Prop} {s : Shared} {a : Addr} {items : Array Value} {G : Value → Shared → Prop} (ht : s.heap.IsTuple a items)
    (hG : ∀ h', EnSt a (s.heap.objs.size + 1) s.heap.objs.size 0 h' → (∀ b o, s.heap.get? b = some o → h'.get? b = some o) → G (.ref (s.heap.objs.size + 1)) { s with heap := h' }) :
    wpAny (model prog w) A (call (.type "enumerate") [.ref a]) G Er s := by
  refine callType_new F.called_enumerate (by decide) (F.typeCall_enumerate_1 _) (F.newCall_enumerate_1 _) (fun x => F.args_object_init_2 x _) F.entry_enumerate_new (enum_made (begins_tuple a items)) ⟨ht, ?_⟩
  generalize hT : ({ cls := .type "tuple_iterator", data := .fields #[.ref a, .int 0 0] } : Obj) = io
  have size1 : (s.heap.push io).objs.size = s.heap.objs.size + 1 := Heap.size_push ..
  have made : ((s.heap.push io).push (enObj s.heap.objs.size)).get? (s.heap.objs.size + 1) = some (enObj s.heap.objs.size) := by
    rw [← size1]
    exact Heap.get?_push_size _ rfl
  have iter : ((s.heap.push io).push (enObj s.heap.objs.size)).get? s.heap.objs.size = some io := Heap.get?_push_of_some _ (Heap.get?_push_size _ (by rw [← hT]; rfl))
  refine And.intro ?_ ?_
  · rw [size1]
    exact ⟨_, made, rfl⟩
  · rw [size1]
    exact hG _ ⟨Nat.succ_ne_self _, ⟨_, iter, by rw [← hT], by rw [← hT]; rfl⟩, .none, made⟩ fun b x g => Heap.get?_push_of_some _ (Heap.get?_push_of_some _ g)
/-- behind the last item -/
theorem enum_over {prog : Program} {w : World} {A : Around} {Er : Value → Shared → Prop} {s : Shared} {a e it : Addr} {i : Nat} {items : Array Value} {G : Option Value → Shared → Prop} (calm : A.handled = none) (st : EnSt a e it i s.heap) (ht : s.heap.IsTuple a items) (hi : items.size ≤ i)
    (hG : ∀ h', Heap.ExtBut it s.heap h' → G none { s with heap := h' }) : wpAny (model prog w) A (pyNext (.ref e)) G Er s := by
  obtain ⟨_, hit, old, he⟩ := st
  have ty : s.TypeIs (.ref e) "enumerate" := ⟨_, he, rfl⟩
  unfold pyNext
  refine wpAny_bind ?_
  refine wpAny_attempt ?_
  refine wpAny_callSpecial?_slot (name := Str.ofString "__next__") ty F.slot_enumerate_next ?_
  refine wpAny_call_entry F.slot_enumerate_next ty F.entry_enumerate_next ?_ (F.args_enumerate_next_1 _)
  show wpAny _ _ (do let z ← field (.ref e) 2; _) _ _ _
  refine wpAny_bind (wpAny_field (x := .ref it) he rfl rfl (wpAny_bind ?_))
  refine wpAny_nextOf_tuple_end calm hit ht (Array.getElem?_eq_none hi) fun h' x ext isStop => ?_
  obtain ⟨o, ho, hc⟩ := isStop
  exact wpAny_bind (wpAny_isInstance (T := "StopIteration") (b := true) ⟨o, ho, hc⟩ isSubtype_stop (wpAny_pure (hG h' ext)))
/-- the tuple at a, each item in a new pair -/
def Itet (K : PySem.W.Frag) (a : Addr) : It where
  go := fun i H => ∃ (xs : List V) (x : V), SqT K H a xs ∧ xs[i]? = some x
  yld := fun i H v H' => ∃ T x, v = .ref T ∧ H T = none ∧ H' = upd H T (.tup [.int (i : Nat), x]) ∧ ∀ xs, SqT K H a xs → xs[i]? = some x
  stop := fun i H => ∃ xs : List V, SqT K H a xs ∧ xs.length ≤ i
theorem turn_enumT {P : Program} {w : World} {K : PySem.W.Frag} {elts : List Expr} {kk : Nat} {tpos : Pos} (a e it : Addr) : Turn P w K (.Tuple elts kk tpos) (Itet K a) [e, it] e (EnSt a e it) where
  mem := List.mem_cons_self ..
  obj := fun _ _ st => st.objs
  keep := fun _ _ _ st k => st.keep k
  item := by
    intro X g1 g2 g3 calm i pins s σ H F I hf st hgo
    subst g1 g2 g3
    obtain ⟨xs, x, hxs, hx⟩ := hgo
    obtain ⟨its, vals, tup, _⟩ := I.tuple hxs
    have tup : s.heap.IsTuple a its.toArray := tup
    obtain ⟨u, hu, ru⟩ := vals.get hx
    have old := st.old
    have n1 := (st.apart tup).1
    have n2 := (st.apart tup).2
    obtain ⟨ne, hit, before, he⟩ := st
    have inb : i < its.toArray.size := by rw [List.size_toArray]; exact (List.getElem?_eq_some_iff.mp hu).1
    have out : e ∉ [it, a] := by simp [ne, n2]
    refine wpAny_pyNext_enum_itemD (Draws.tuple (A := X.A.in1) (I.ok.hd calm) it a n1 its.toArray) he ⟨hit, tup⟩ inb ne out fun u2 ha tk du hout dst pairAt _ others => ⟨_, rfl, ?_⟩
    have same : u2 = u := Option.some.inj ((show its[i]? = some u2 by simpa using du).symm.trans hu)
    subst same
    refine wpAny_letOwnedTupleGo_enum (s := { s with heap := ha, toks := tk + 1 }) hout fun hb enum but => ?_
    have newNe : s.heap.objs.size ≠ e := Nat.ne_of_gt (old e (List.mem_cons_self ..))
    have at2 : hb.get? s.heap.objs.size = some { cls := .type "tuple", data := .seq #[.int i tk, u2] } := (but.2 _ newNe).trans pairAt
    have stays : ∀ b o, b ∉ [e, it] → s.heap.get? b = some o → hb.get? b = some o := fun b o hn g => by
      have hn1 : b ≠ e := fun z => hn (by rw [z]; exact List.mem_cons_self ..)
      have hn2 : b ≠ it := fun z => hn (by rw [z]; exact List.mem_cons_of_mem _ (List.mem_singleton.mpr rfl))
      rw [but.2 b hn1]
      exact others b o hn1 hn2 g
    have pairOk : ObjOk X.prog X.w (upd H s.heap.objs.size (.tup [V.int (i : Nat), x])) hb s.heap.objs.size (.tup [V.int (i : Nat), x]) := ⟨line2, [.int i tk, u2], .cons ⟨tk, rfl⟩ (.cons ru .nil), _, at2, rfl, _, rfl⟩
    have I2 : L2.Inv X pins σ (upd H s.heap.objs.size (.tup [V.int (i : Nat), x])) { s with heap := hb, toks := tk + 1 } := I.turnedNew (ch := [e, it]) stays hf (Nat.le_refl _) pairOk
    refine ⟨.ref s.heap.objs.size, _, I2, rfl, ⟨_, x, rfl, I.hok.fresh (Nat.le_refl _), rfl, fun ys hy => ?_⟩, ⟨ne, dst.1.at fun o g => (but.2 it (Ne.symm ne)).trans g, u2, ?_⟩, fun b hb => ?_⟩
    · rw [I.tuple_inj hy hxs]
      exact hx
    · show IsEnum hb e it ((i + 1 : Nat) : Int) u2
      rw [Int.natCast_succ]
      exact enum
    · rw [upd_ne (Nat.ne_of_lt (old b hb))]
      exact (hf b hb).1
  done := by
    intro X g1 g2 g3 calm i pins s σ H F I hf st hstop
    subst g1 g2 g3
    obtain ⟨xs, hxs, hle⟩ := hstop
    obtain ⟨its, vals, tup, _⟩ := I.tuple hxs
    have tup : s.heap.IsTuple a its.toArray := tup
    have len := vals.length
    have fp := hf it (List.mem_cons_of_mem _ (List.mem_singleton.mpr rfl))
    refine enum_over (I.ok.hd calm) st tup (by rw [List.size_toArray]; omega) fun h' ext => ⟨rfl, ?_⟩
    exact I.turned (t' := s.toks) (fun b o hb g => ext b o hb g) fp.1 fp.2.1 fp.2.2.2.1 fp.2.2.2.2.1 fp.2.2.2.2.2
  self := fun _ _ _ _ _ st q => let ⟨_, _, _, g⟩ := st; wpAny_pyIter_enum g q
def iEnumT (K : PySem.W.Frag) (ta : TA) : TI := fun σ H R => ta σ H fun vs H1 => ∃ a xs, vs = [.ref a] ∧ SqT K H1 a xs ∧ R (Itet K a) H1
theorem pi_enumT {X : Cx} {e : Expr} {ta : TA} {p pos tpos : Pos} {elts : List Expr} {kk : Nat} (hg : Gl X "enumerate") (hm : X.mg "enumerate" = none) (ha : PA X [e] ta) (hs : starEach [e] X.env = [(false, eval e X.env)] := by rfl) :
    PI X (.Tuple elts kk tpos) (.Call (.Name "enumerate" p) [e] [] pos) (iEnumT X.K ta) where
  run := fun pins s σ H R I h => by
    have args := ha.run pos pins s σ H _ I h
    refine Call_ (ld_blt I hg hm boot_enumerate (PyProof.Rows.callWith_type1 (thn args ?_) hs rfl))
    rintro us s1 ⟨vs, H1, I1, rel, a, xs, rfl, hxs, q⟩
    obtain ⟨u, rfl, ru⟩ := vals1 rel
    cases ru
    obtain ⟨its, _, tup, _⟩ := I1.tuple hxs
    refine enum_call (show s1.heap.IsTuple a its.toArray from tup) fun h' st kept => ?_
    have free : ∀ b ∈ [s1.heap.objs.size + 1, s1.heap.objs.size], s1.heap.objs.size ≤ b := List.forall_mem_cons.mpr ⟨Nat.le_succ _, List.forall_mem_cons.mpr ⟨Nat.le_refl _, fun _ z => nomatch z⟩⟩
    obtain ⟨_, _, _, en⟩ := id st
    refine wpAny_pyIter_enum en ⟨_, [s1.heap.objs.size + 1, s1.heap.objs.size], _, _, H1, rfl, I1.kept (t' := s1.toks) kept, turn_enumT a (s1.heap.objs.size + 1) s1.heap.objs.size, st, fun b hb => ?_, q⟩
    exact I1.fpOk (free b hb) (I1.hok.fresh (free b hb))
theorem walk_enumT {K : PySem.W.Frag} {a : Addr} {xs : List V} : Walk (Itet K a) xs.length (fun H => SqT K H a xs) (YPair (fun i => some (.int (i : Nat))) (fun i => xs[i]?)) := by
  refine ⟨fun i _ lt q => ⟨xs, xs[i], q, List.getElem?_eq_getElem lt⟩, fun _ q => ⟨xs, q, Nat.le_refl _⟩, ?_⟩
  rintro i H v H' _ q ⟨T, x, rfl, free, rfl, at_⟩
  exact ⟨T, .int (i : Nat), x, rfl, free, rfl, rfl, at_ xs q⟩
end Kd

/-! ### own rules: a list against the empty list -/
namespace Kd
open PySem PySem.Spec PyProof.Rows L2
section
variable {X : Cx} {K : PySem.W.Frag}
def rEqNil (K : PySem.W.Frag) : R2 := fun x y H Q => ∃ a b xs, x = .ref a ∧ y = .ref b ∧ SqL K H a xs ∧ SqL K H b [] ∧ Q (.bl xs.isEmpty) H
def rNeNil (K : PySem.W.Frag) : R2 := fun x y H Q => ∃ a b xs, x = .ref a ∧ y = .ref b ∧ SqL K H a xs ∧ SqL K H b [] ∧ Q (.bl (!xs.isEmpty)) H
theorem op_eqNil (hu : X.A.units < cLine) (hX : X.K = K := by rfl) : OpR X (compareOp .Eq) (rEqNil K) := by
  subst hX
  intro pins s σ H x y v u Q I rx ry h
  obtain ⟨a, b, xs, rfl, rfl, ha, hb, q⟩ := h
  cases rx
  cases ry
  obtain ⟨its, rv, pl, hz⟩ := I.list ha
  obtain ⟨its2, rv2, pl2, hz2⟩ := I.list hb
  cases rv2
  cases rv with
  | nil => exact SeqAt.eq_listAt (e := fun _ => true) pl.isList pl2.isList rfl hu (fun j h1 _ => absurd h1 (Nat.not_lt_zero _)) ⟨.bl _, H, I, rfl, q⟩
  | cons r t => exact SeqAt.eq_list_lengthsAt pl.isList pl2.isList (by simp) hu ⟨.bl _, H, I, rfl, q⟩
theorem op_neNil (hu : X.A.units < cLine) (hX : X.K = K := by rfl) : OpR X (compareOp .NotEq) (rNeNil K) := by
  subst hX
  intro pins s σ H x y v u Q I rx ry h
  obtain ⟨a, b, xs, rfl, rfl, ha, hb, q⟩ := h
  cases rx
  cases ry
  obtain ⟨its, rv, pl, hz⟩ := I.list ha
  obtain ⟨its2, rv2, pl2, hz2⟩ := I.list hb
  cases rv2
  cases rv with
  | nil => exact SeqAt.RcNeAt.lists (e := fun _ => true) pl.isList pl2.isList rfl hu (fun j h1 _ => absurd h1 (Nat.not_lt_zero _)) X.prog X.w X.xe _ ⟨.bl _, H, I, rfl, q⟩
  | cons r t => exact SeqAt.RcNeAt.lists_lengths pl.isList pl2.isList (by simp) hu X.prog X.w X.xe _ ⟨.bl _, H, I, rfl, q⟩
end
end Kd

/-! ### what the table of known values holds -/
namespace Kd
open PySem PySem.Spec PyProof.Rows L2
abbrev gvN (N : List (Option Int)) (nums : List (List Int)) (s : List Int) (b : Bool) : Int := G.gv (G.rdy N nums) N.length s b
def KnOk (N : List (Option Int)) (nums : List (List Int)) (kvs : List (NestedKey × V)) : Prop := ∀ p ∈ kvs, ∃ (s : List Int) (b : Bool), p.1 = kPr s b ∧ p.2 = V.int (gvN N nums s b) ∧ G.Ok N.length s
theorem mem_putK {kvs : List (NestedKey × V)} {k : NestedKey} {v : V} {p : NestedKey × V} (h : p ∈ putK kvs k v) : p ∈ kvs ∨ p = (k, v) := by
  unfold putK at h
  split at h
  · obtain ⟨q, hq, rfl⟩ := List.mem_map.mp h
    by_cases e : q.1 = k
    · rw [if_pos e, e]
      exact .inr rfl
    · rw [if_neg e]
      exact .inl hq
  · rcases List.mem_append.mp h with h | h
    · exact .inl h
    · exact .inr (List.mem_singleton.mp h)
theorem mem_valV {kvs : List (NestedKey × V)} {k : NestedKey} {v : V} (h : valV kvs k = some v) : (k, v) ∈ kvs := by
  unfold valV at h
  obtain ⟨p, hp, rfl⟩ := Option.map_eq_some_iff.mp h
  have h1 := List.mem_of_find?_eq_some hp
  have h3 := List.find?_some hp
  have h2 : p.1 = k := of_decide_eq_true h3
  rw [← h2]
  exact h1
theorem valV_put_self (kvs : List (NestedKey × V)) (k : NestedKey) (v : V) : valV (putK kvs k v) k = some v := by rw [valV_put, if_pos rfl]
theorem KnOk.nil {N : List (Option Int)} {nums : List (List Int)} : KnOk N nums [] := fun _ h => nomatch h
theorem KnOk.put {N : List (Option Int)} {nums : List (List Int)} {kvs : List (NestedKey × V)} (h : KnOk N nums kvs) {s : List Int} {b : Bool} (ok : G.Ok N.length s) : KnOk N nums (putK kvs (kPr s b) (.int (gvN N nums s b))) := fun p hp => by
  rcases mem_putK hp with hp | rfl
  · exact h p hp
  · exact ⟨s, b, rfl, rfl, ok⟩
theorem KnOk.val {N : List (Option Int)} {nums : List (List Int)} {kvs : List (NestedKey × V)} (h : KnOk N nums kvs) {s : List Int} {b : Bool} {v : V} (e : valV kvs (kPr s b) = some v) : v = .int (gvN N nums s b) := by
  obtain ⟨t, c, e1, e2, _⟩ := h _ (mem_valV e)
  obtain ⟨rfl, rfl⟩ := kPr_inj e1
  exact e2
theorem KnOk.few {N : List (Option Int)} {nums : List (List Int)} {kvs : List (NestedKey × V)} (few : N.length ≤ 6) (h : KnOk N nums kvs) (nd : (kvs.map (·.1)).Nodup) : kvs.length ≤ 128 := by
  have hsub : ∀ k ∈ kvs.map (·.1), k ∈ ((G.subs (G.rng N.length)).map fun s => kPr s true) ++ (G.subs (G.rng N.length)).map fun s => kPr s false := fun k hk => by
    obtain ⟨p, hp, rfl⟩ := List.mem_map.mp hk
    obtain ⟨s, b, e1, _, ok⟩ := h p hp
    rw [e1]
    cases b with
    | true => exact List.mem_append.mpr (.inl (List.mem_map.mpr ⟨s, ok.mem_subs, rfl⟩))
    | false => exact List.mem_append.mpr (.inr (List.mem_map.mpr ⟨s, ok.mem_subs, rfl⟩))
  have h1 := nd.length_le_of_subset hsub
  have h2 := G.subs_few few
  rw [List.length_map, List.length_append, List.length_map, List.length_map] at h1
  omega
theorem DD.nd {P : Program} {w : World} {H : Hp} {d : Addr} {kvs : List (NestedKey × V)} (h : DD P w H d kvs) : (kvs.map (·.1)).Nodup := by
  obtain ⟨_, _, _, _, nd⟩ := h
  exact nd
section
variable {X : Cx} {K : PySem.W.Frag} {es : List Expr} {k : Nat} {pos : Pos} {t : TGs} {n : Nat}
theorem pg_tupK (hc : X.calm = true) (h : PGs X es t) (hX : X.K = K := by rfl) (hn : (assignEach es X.env).length = n := by rfl) (hst : (assignEach es X.env).findIdx? (·.1) = none := by rfl) : PG X (.Tuple es k pos) (gTup K n t) := by
  subst hX
  exact pg_tup hc h hn hst
end
end Kd

/-! ### the data as the comparisons see it -/
namespace Kd
open PySem PySem.Spec PyProof.Rows L2
def Sh (k : Nat) (d : PyData) : Prop := d.canLay0 = true ∧ d.depth ≤ k
theorem Sh.shaped {k : Nat} {d : PyData} (h : Sh k d) (hk : k ≤ 64) : SeqAt.shaped d = true := by
  show (d.canLay0 && decide (d.depth ≤ 64)) = true
  rw [Bool.and_eq_true]
  exact ⟨h.1, decide_eq_true (Nat.le_trans h.2 hk)⟩
theorem sh_int (i : Int) : Sh 0 (.int i) := ⟨by simp [PyData.canLay0], by simp [PyData.depth]⟩
theorem sh_bool (b : Bool) : Sh 0 (.bool b) := ⟨by simp [PyData.canLay0], by simp [PyData.depth]⟩
theorem sh_all {k : Nat} : ∀ {ds : List PyData}, (∀ d ∈ ds, Sh k d) → PyData.canLayAll0 ds = true ∧ PyData.depthAll ds ≤ k
  | [], _ => ⟨by simp [PyData.canLayAll0], by simp [PyData.depthAll]⟩
  | d :: ds, h => by
    have h1 := h d (List.mem_cons_self ..)
    have h2 := sh_all fun e he => h e (List.mem_cons_of_mem _ he)
    refine ⟨by rw [PyData.canLayAll0, h1.1, h2.1]; rfl, ?_⟩
    rw [PyData.depthAll]
    exact Nat.max_le.mpr ⟨h1.2, h2.2⟩
theorem sh_tup {k : Nat} {ds : List PyData} (h : ∀ d ∈ ds, Sh k d) : Sh (k + 1) (.tuple ds) := by
  obtain ⟨h1, h2⟩ := sh_all h
  exact ⟨by rw [PyData.canLay0]; exact h1, by rw [PyData.depth]; omega⟩
theorem sh_lst {k : Nat} {ds : List PyData} (h : ∀ d ∈ ds, Sh k d) : Sh (k + 1) (.list ds) := by
  obtain ⟨h1, h2⟩ := sh_all h
  exact ⟨by rw [PyData.canLay0]; exact h1, by rw [PyData.depth]; omega⟩
theorem Sh.mono {j k : Nat} {d : PyData} (h : Sh j d) (hk : j ≤ k) : Sh k d := ⟨h.1, Nat.le_trans h.2 hk⟩
theorem sh_tD (s : List Int) : Sh 1 (tD s) := sh_tup fun d hd => by
  obtain ⟨i, _, rfl⟩ := List.mem_map.mp hd
  exact sh_int i
/-- a state and a hand -/
def pD (x : List Int × Bool) : PyData := .tuple [tD x.1, .bool x.2]
theorem sh_pD (x : List Int × Bool) : Sh 2 (pD x) := sh_tup fun d hd => by
  rcases List.mem_cons.mp hd with rfl | hd
  · exact sh_tD _
  · rw [List.mem_singleton] at hd
    subst hd
    exact (sh_bool _).mono (by decide)
theorem sh_map {α : Type} {f : α → PyData} {k : Nat} (h : ∀ x, Sh k (f x)) (l : List α) : Sh (k + 1) (.list (l.map f)) := sh_lst fun d hd => by
  obtain ⟨x, _, rfl⟩ := List.mem_map.mp hd
  exact h x
theorem eqvAll_map {α : Type} [DecidableEq α] {f : α → PyData} (h : ∀ x y, PyData.eqv (f x) (f y) = decide (x = y)) : ∀ xs ys : List α, PyData.eqvAll (xs.map f) (ys.map f) = decide (xs = ys)
  | [], [] => by simp [PyData.eqvAll]
  | [], _ :: _ => by simp [PyData.eqvAll]
  | _ :: _, [] => by simp [PyData.eqvAll]
  | x :: xs, y :: ys => by
    rw [List.map_cons, List.map_cons, PyData.eqvAll, h, eqvAll_map h xs ys]
    by_cases e : x = y <;> by_cases e2 : xs = ys <;> simp [e, e2]
theorem eqv_int (x y : Int) : PyData.eqv (.int x) (.int y) = decide (x = y) := by
  rw [PyData.eqv]
  by_cases h : x = y <;> simp [h]
theorem eqv_tD (s t : List Int) : PyData.eqv (tD s) (tD t) = decide (s = t) := by
  show PyData.eqv (.tuple (s.map .int)) (.tuple (t.map .int)) = _
  rw [PyData.eqv]
  exact eqvAll_map eqv_int s t
theorem eqv_pD (x y : List Int × Bool) : PyData.eqv (pD x) (pD y) = decide (x = y) := by
  obtain ⟨s, b⟩ := x
  obtain ⟨t, c⟩ := y
  show PyData.eqv (.tuple [tD s, .bool b]) (.tuple [tD t, .bool c]) = _
  rw [PyData.eqv, PyData.eqvAll, PyData.eqvAll, PyData.eqvAll, eqv_tD, PyData.eqv]
  by_cases h : s = t <;> by_cases h2 : b = c <;> simp [h, h2]
theorem eqv_lst {α : Type} [DecidableEq α] {f : α → PyData} (h : ∀ x y, PyData.eqv (f x) (f y) = decide (x = y)) (xs ys : List α) : PyData.eqv (.list (xs.map f)) (.list (ys.map f)) = decide (xs = ys) := by
  rw [PyData.eqv]
  exact eqvAll_map h xs ys
theorem any_map {α : Type} [DecidableEq α] {f : α → PyData} (h : ∀ x y, PyData.eqv (f x) (f y) = decide (x = y)) (x : α) : ∀ xs : List α, ((xs.map f).any fun z => PyData.eqv z (f x)) = decide (x ∈ xs)
  | [] => by simp
  | y :: xs => by
    rw [List.map_cons, List.any_cons, h, any_map h x xs]
    by_cases e : y = x
    · subst e
      simp
    · have e2 : ¬ x = y := fun z => e z.symm
      simp [e, e2]
section
variable {K : PySem.W.Frag} {H : Hp}
theorem dp_ints {a : Addr} {ns : List Int} (h : H a = some (.lst (ns.map V.int))) : Dp K H (.ref a) (.list (ns.map .int)) := .lst (SqL.of h) (dpAll_ints ns)
theorem dp_st {a : Addr} {s : List Int} (h : StAt H a s) : Dp K H (.ref a) (tD s) := dp_tup h
theorem dp_pr {a p : Addr} {s : List Int} {b : Bool} (h : H a = some (.tup [.ref p, .bl b])) (hp : StAt H p s) : Dp K H (.ref a) (pD (s, b)) := .tup (SqT.of h) (.cons (dp_st hp) (.cons (.bl b) .nil))
theorem dpAll_map {α β : Type} (l : List α) (v : α → V) (f : β → PyData) (g : α → β) (h : ∀ x ∈ l, Dp K H (v x) (f (g x))) : DpAll K H (l.map v) ((l.map g).map f) := by
  induction l with
  | nil => exact .nil
  | cons x l ih => exact .cons (h x (List.mem_cons_self ..)) (ih fun y hy => h y (List.mem_cons_of_mem _ hy))
end
end Kd

/-! ### the rows of a search, the moves of a plan, in the heap -/
namespace Kd
open PySem PySem.Spec PyProof.Rows L2
abbrev RE := Addr × Addr × G.Row
/-- a list (at r) of pairs: a state, whose turn -/
def RowsL (H : Hp) (r : Addr) (rows : List G.Row) : Prop := ∃ l : List RE, H r = some (.lst (l.map fun p => V.ref p.1)) ∧ l.map (·.2.2) = rows ∧ ∀ p ∈ l, H p.1 = some (.tup [.ref p.2.1, .bl p.2.2.2]) ∧ StAt H p.2.1 p.2.2.1
theorem RowsL.keep {H H' : Hp} {r : Addr} {rows : List G.Row} (h : RowsL H r rows) (e : ∀ o, H r = some o → H' r = some o) (t : Tups H H') : RowsL H' r rows := by
  obtain ⟨l, h1, h2, h3⟩ := h
  exact ⟨l, e _ h1, h2, fun p hp => ⟨t _ _ (h3 p hp).1, (h3 p hp).2.tups t⟩⟩
theorem RowsL.same {H H' : Hp} {r : Addr} {rows : List G.Row} (h : RowsL H r rows) (s : Same H H') : RowsL H' r rows := h.keep (fun o e => s _ _ e) (Same.tups s)
theorem RowsL.lst {H : Hp} {r : Addr} {rows : List G.Row} (h : RowsL H r rows) : ∃ vs : List V, H r = some (.lst vs) ∧ vs.isEmpty = rows.isEmpty ∧ vs.length = rows.length := by
  obtain ⟨l, h1, h2, _⟩ := h
  refine ⟨_, h1, ?_, ?_⟩
  · rw [← h2]
    cases l <;> rfl
  · rw [← h2, List.length_map, List.length_map]
theorem RowsL.pop {H : Hp} {r : Addr} {rows : List G.Row} {x : G.Row} (h : RowsL H r (rows ++ [x])) : ∃ (vs : List V) (p q : Addr), H r = some (.lst vs) ∧ vs[vs.length - 1]? = some (.ref p) ∧ H p = some (.tup [.ref q, .bl x.2]) ∧ StAt H q x.1 ∧ RowsL (upd H r (.lst vs.dropLast)) r rows := by
  obtain ⟨l, h1, h2, h3⟩ := h
  have hl : l ≠ [] := fun e => by
    rw [e] at h2
    simp at h2
  obtain ⟨l', y, rfl⟩ : ∃ l' y, l = l' ++ [y] := ⟨l.dropLast, l.getLast hl, (List.dropLast_concat_getLast hl).symm⟩
  rw [List.map_append] at h2
  have h4 : l'.map (·.2.2) = rows ∧ [y].map (·.2.2) = [x] := List.append_inj' h2 (by simp)
  have h5 : y.2.2 = x := by
    have := h4.2
    simpa using this
  subst h5
  obtain ⟨g1, g2⟩ := h3 y (List.mem_append.mpr (.inr (List.mem_singleton.mpr rfl)))
  have t : Tups H (upd H r (.lst (((l' ++ [y]).map fun p => V.ref p.1).dropLast))) := tups_upd (nt_lst h1)
  refine ⟨_, y.1, y.2.1, h1, by simp, g1, g2, l', ?_, h4.1, fun p hp => ?_⟩
  · rw [upd_same, List.map_append]
    simp
  · obtain ⟨k1, k2⟩ := h3 p (List.mem_append.mpr (.inl hp))
    exact ⟨t _ _ k1, k2.tups t⟩
theorem RowsL.push {H : Hp} {r p q : Addr} {rows : List G.Row} {x : G.Row} {vs : List V} (h : RowsL H r rows) (hv : H r = some (.lst vs)) (hp : H p = some (.tup [.ref q, .bl x.2])) (hq : StAt H q x.1) : RowsL (upd H r (.lst (vs ++ [.ref p]))) r (rows ++ [x]) := by
  obtain ⟨l, h1, h2, h3⟩ := h
  rw [h1] at hv
  cases hv
  have t : Tups H (upd H r (.lst ((l.map fun p => V.ref p.1) ++ [.ref p]))) := tups_upd (nt_lst h1)
  refine ⟨l ++ [(p, q, x)], by rw [upd_same, List.map_append]; rfl, by rw [List.map_append, h2]; rfl, fun z hz => ?_⟩
  rcases List.mem_append.mp hz with hz | hz
  · exact ⟨t _ _ (h3 z hz).1, (h3 z hz).2.tups t⟩
  · rw [List.mem_singleton] at hz
    subst hz
    exact ⟨t _ _ hp, hq.tups t⟩
theorem RowsL.nil {H : Hp} {p : Addr} (_h : H p = none) : RowsL (upd H p (.lst [])) p [] := ⟨[], upd_same, rfl, fun _ h => nomatch h⟩
theorem RowsL.one {H : Hp} {r p q : Addr} {x : G.Row} (hr : H r = none) (hp : H p = some (.tup [.ref q, .bl x.2])) (hq : StAt H q x.1) : RowsL (upd H r (.lst [.ref p])) r [x] := by
  have t := Same.tups (same_upd (o := .lst [V.ref p]) hr)
  refine ⟨[(p, q, x)], upd_same, rfl, fun z hz => ?_⟩
  rw [List.mem_singleton] at hz
  subst hz
  exact ⟨t _ _ hp, hq.tups t⟩
theorem RowsL.cat {H : Hp} {r r2 p : Addr} {rows rows2 : List G.Row} (h : RowsL H r rows) (h' : RowsL H r2 rows2) (hp : H p = none) : ∃ xs zs : List V, H r = some (.lst xs) ∧ H r2 = some (.lst zs) ∧ xs.length = rows.length ∧ zs.length = rows2.length ∧ RowsL (upd H p (.lst (xs ++ zs))) p (rows ++ rows2) := by
  obtain ⟨l, h1, h2, h3⟩ := h
  obtain ⟨m, k1, k2, k3⟩ := h'
  have t := Same.tups (same_upd (o := .lst ((l.map fun p => V.ref p.1) ++ m.map fun p => V.ref p.1)) hp)
  refine ⟨_, _, h1, k1, by rw [← h2, List.length_map, List.length_map], by rw [← k2, List.length_map, List.length_map], l ++ m, by rw [upd_same, List.map_append], by rw [List.map_append, h2, k2], fun z hz => ?_⟩
  rcases List.mem_append.mp hz with hz | hz
  · exact ⟨t _ _ (h3 z hz).1, (h3 z hz).2.tups t⟩
  · exact ⟨t _ _ (k3 z hz).1, (k3 z hz).2.tups t⟩
/-- a list of such pairs that grows at D -/
structure RwI (H : Hp) (D : Addr) (rows : List G.Row) (H' : Hp) : Prop where
  same : Same H H'
  at_ : RowsL H' D rows
theorem RwI.start {H : Hp} {D : Addr} (h : H D = none) : RwI H D [] (upd H D (.lst [])) := ⟨same_upd h, RowsL.nil h⟩
theorem RwI.add {H H1 H2 : Hp} {D p q : Addr} {rows : List G.Row} {x : G.Row} (hD : H D = none) (h : RwI H D rows H1) (s : Same H1 H2) (hp : H2 p = some (.tup [.ref q, .bl x.2])) (hq : StAt H2 q x.1) (hl : rows.length < sizeLine) :
    ∃ acc, H2 D = some (.lst acc) ∧ acc.length < sizeLine ∧ RwI H D (rows ++ [x]) (upd H2 D (.lst (acc ++ [.ref p]))) := by
  have h2 := h.at_.same s
  obtain ⟨vs, h3, _, h5⟩ := h2.lst
  refine ⟨vs, h3, by rw [h5]; exact hl, fun b o e => ?_, h2.push h3 hp hq⟩
  rw [upd_ne (ne_of_none e hD)]
  exact s _ _ (h.same _ _ e)
theorem RwI.go {H H1 H2 : Hp} {D : Addr} {rows : List G.Row} (h : RwI H D rows H1) (s : Same H1 H2) : RwI H D rows H2 := ⟨Same.trans h.same s, h.at_.same s⟩
/-- the moves as the dict holds them -/
def mvKvs (M : G.Mv) : List (NestedKey × V) := M.map fun m => (kSt m.1, V.int m.2)
theorem mvKvs_val (M : G.Mv) (s : List Int) : valV (mvKvs M) (kSt s) = (G.mvOf M s).map V.int := by
  induction M with
  | nil => rfl
  | cons m M ih =>
    unfold mvKvs at ih ⊢
    by_cases e : m.1 = s
    · rw [List.map_cons, valV_pos (by rw [e])]
      unfold G.mvOf
      rw [List.find?_cons, decide_eq_true e]
      rfl
    · rw [List.map_cons, valV_neg (fun z => e (kSt_inj z)), ih]
      unfold G.mvOf
      rw [List.find?_cons, decide_eq_false e]
theorem mvKvs_some (M : G.Mv) (s : List Int) : (valV (mvKvs M) (kSt s)).isSome = decide (s ∈ M.map (·.1)) := by
  rw [mvKvs_val, Option.isSome_map]
  by_cases h : s ∈ M.map (·.1)
  · obtain ⟨d, e⟩ := G.mvOf_some h
    rw [e]
    simp [h]
  · rw [G.mvOf_none h]
    simp [h]
theorem mvKvs_put {M : G.Mv} {s : List Int} {d : Int} (h : s ∉ M.map (·.1)) : putK (mvKvs M) (kSt s) (.int d) = mvKvs (M ++ [(s, d)]) := by
  have e : valV (mvKvs M) (kSt s) = none := by rw [mvKvs_val, G.mvOf_none h]; rfl
  rw [putK_new _ e]
  unfold mvKvs
  rw [List.map_append]
  rfl
theorem mvKvs_keys (M : G.Mv) : (mvKvs M).map (·.1) = (M.map (·.1)).map kSt := by
  unfold mvKvs
  rw [List.map_map, List.map_map]
  rfl
/-- the states that were met, as a dict holds them -/
def stKvs (T : List (List Int)) : List (NestedKey × V) := T.map fun s => (kSt s, V.bl true)
theorem stKvs_some (T : List (List Int)) (s : List Int) : (valV (stKvs T) (kSt s)).isSome = decide (s ∈ T) := by
  induction T with
  | nil => simp [stKvs, valV]
  | cons t T ih =>
    unfold stKvs at ih ⊢
    by_cases e : t = s
    · rw [List.map_cons, valV_pos (by rw [e])]
      simp [e]
    · have e2 : ¬ s = t := fun z => e z.symm
      rw [List.map_cons, valV_neg (fun z => e (kSt_inj z)), ih]
      simp [e2]
theorem stKvs_put {T : List (List Int)} {s : List Int} (h : s ∉ T) : putK (stKvs T) (kSt s) (.bl true) = stKvs (T ++ [s]) := by
  have e : valV (stKvs T) (kSt s) = none := by
    have := stKvs_some T s
    rw [decide_eq_false h] at this
    cases q : valV (stKvs T) (kSt s) with
    | none => rfl
    | some v => rw [q] at this; cases this
  rw [putK_new _ e]
  unfold stKvs
  rw [List.map_append]
  rfl
theorem stKvs_keys (T : List (List Int)) : (stKvs T).map (·.1) = T.map kSt := by
  unfold stKvs
  rw [List.map_map]
  rfl
end Kd

namespace Kd
open PySem PySem.Spec PyProof.Rows L2
section
variable {P : Program} {w : World} {K : PySem.W.Frag} {mg : Str → Option Value} {base : Heap}
/-! ### is_in -/
def spIsIn : Sp := fun vs H Q _ => ∃ v a b : Int, vs = [.int v, .int a, .int b] ∧ Q (.bl (decide (a ≤ v ∧ v ≤ b))) H
theorem sc_is_in : FnScope ["value", "least", "most"] ["value", "least", "most"] (defScope s_is_in) := ⟨rfl, rfl, rfl, by decide +kernel, rfl, by decide +kernel, by decide +kernel⟩
theorem ok_is_in (T : Txt K mg) : Def P w K mg base 1 "is_in" ["value", "least", "most"] spIsIn := by
  obtain ⟨fd, F⟩ := T.f_is_in
  refine mkDef F T.m_is_in (fun _ _ _ _ _ _ us hl => match us, hl with | [_, _, _], _ => rfl) (fok F sc_is_in (fun vs H Q E h => ?_) (fun cdv A outer s H vs Q E hr h => ?_))
  · obtain ⟨v, a, b, rfl, _⟩ := h
    rfl
  obtain ⟨v, a, b, rfl, q⟩ := h
  refine ⟨_, pss_one (ps_ret (pe_and (pe_callB call_isi (by rfl) T.z_isinstance (by decide +kernel) (pa_cons (pv 0) (pa_cons (pe_bltn (v := .ty "int") (by rfl) T.z_int (by decide +kernel) rfl) pa_nil)))
    (pe_and (pe_not (pe_callB call_isi (by rfl) T.z_isinstance (by decide +kernel) (pa_cons (pv 0) (pa_cons (pe_bltn (v := .ty "bool") (by rfl) T.z_bool (by decide +kernel) rfl) pa_nil))))
      (pe_one (pe_chain op_le op_le (pv 1) (pv 0) (pv 2)))))), ?_⟩
  refine ⟨_, rfl, _, _, _, _, true, rfl, .ty _, .base (.int _), kit_ty (by decide +kernel), true, rfl, iteT ?_⟩
  refine ⟨_, rfl, _, _, _, _, false, rfl, .ty _, .base (.int _), kit_ty (by decide +kernel), false, rfl, true, rfl, iteT ?_⟩
  refine ⟨_, rfl, _, rfl, a, v, rfl, rfl, _, rfl, ?_⟩
  by_cases h1 : a ≤ v
  · rw [if_pos (by simpa using h1)]
    refine ⟨_, rfl, v, b, rfl, rfl, ?_⟩
    have e : decide (v ≤ b) = decide (a ≤ v ∧ v ≤ b) := by simp [h1]
    show Q (V.bl (decide (v ≤ b))) H
    rw [e]
    exact q
  · rw [if_neg (by simpa using h1)]
    have e : false = decide (a ≤ v ∧ v ≤ b) := by simp [h1]
    show Q (V.bl false) H
    rw [e]
    exact q
/-! ### around_in -/
def spAround : Sp := fun vs H Q _ => ∃ (a : Addr) (N : List (Option Int)) (d : Int), vs = [.ref a, .int d] ∧ NestAt H a N ∧ G.NestOk N ∧ 0 ≤ d ∧ d < N.length ∧
  ∀ r H', Same H H' → H r = none → H' r = some (.lst ((G.around N d).map V.int)) → Q (.ref r) H'
theorem sc_around_in : FnScope ["nest", "door", "found", "here"] ["nest", "door"] (defScope s_around_in) := ⟨rfl, rfl, rfl, by decide +kernel, rfl, by decide +kernel, by decide +kernel⟩
theorem nest_at {N : List (Option Int)} {k : Int} (h0 : 0 ≤ k) (h1 : k < N.length) : atI (N.map oV) k = some (oV (G.par N k)) :=
  at_of (j := k.toNat) (by omega) (by rw [List.getElem?_map, G.par_get h0 h1]; rfl)
def arMu (N : List (Option Int)) : L2.St → Nat
  | [_, _, _, some (.int h)] => N.length - h.toNat
  | _ => 0
theorem arMu_eq (N : List (Option Int)) (a b c : Option V) (o : Option Int) : arMu N [a, b, c, some (oV o)] = G.left N o := by cases o <;> rfl
theorem ok_around_in (T : Txt K mg) : Def P w K mg base 1 "around_in" ["nest", "door"] spAround := by
  obtain ⟨fd, F⟩ := T.f_around_in
  refine mkDef F T.m_around_in (fun _ _ _ _ _ _ us hl => match us, hl with | [_, _], _ => rfl) (fok F sc_around_in (fun vs H Q E h => ?_) (fun cdv A outer s H vs Q E hr h => ?_))
  · obtain ⟨a, N, d, rfl, _⟩ := h
    rfl
  obtain ⟨a, N, d, rfl, hN, ok, h0, h1, q⟩ := h
  refine ⟨_, pss_cons (ps_par rfl sc_around_in.nd (i := 2) (j := 3) rfl rfl (by decide) rfl rfl (pa_cons (pe_lst pa_nil) (pa_cons (pe_ix ix_tup (pv 0) (pv 1) (fun _ _ => rfl)) pa_nil)) (by rfl))
    (pss_cons (ps_while PassesOwn.never (pt_cmp (pc_notN (pv 3))) (pss_cons (ps_expr (pe_bm PySem.F.plainAttrs_list PySem.F.slot_list_append PySem.F.type_list_append mt_append (pv 2) (pa_cons (pv 3) pa_nil)))
      (pss_one (ps_set (i := 3) sc_around_in.nd rfl (Or.inl rfl) (pe_ix ix_tup (pv 0) (pv 3) (fun _ _ => rfl))))))
    (pss_one (ps_ret (pv 2)))), ?_⟩
  refine ⟨line_le (by decide), fun D hD => ?_⟩
  have s0 := same_upd (o := .lst []) hD
  refine ⟨_, rfl, _, rfl, a, _, _, _, rfl, rfl, SqT.of (s0 _ _ hN), nest_at h0 h1, _, _, rfl, ?_⟩
  refine while_by (fun σ H' => ∃ (found : List Int) (here : Option Int), σ = [some (.ref a), some (.int d), some (.ref D), some (oV here)] ∧ Same H H' ∧ H' D = some (.lst (found.map V.int)) ∧ G.ArInv N d found here)
    (fun σ H' => arMu N σ)
    ⟨[], _, rfl, s0, upd_same, G.ArInv.start ok h0 h1⟩ ?_ ?_
  · rintro σ H' ⟨found, here, rfl, s1, hD', I⟩
    refine ⟨_, rfl, _, rfl, ?_⟩
    cases here with
    | none =>
      refine iteF ?_
      refine ⟨_, rfl, ?_⟩
      rw [I.done] at hD'
      exact q D H' s1 hD hD'
    | some h =>
      obtain ⟨I2, hl, g0, g1⟩ := I.step ok
      refine iteT ?_
      refine ⟨_, rfl, .inl ⟨rfl, _, SqL.of hD'⟩, _, rfl, D, _, _, rfl, rfl, hD', line_lt (by have := I.len; have := ok.few; rw [List.length_map]; omega), ?_⟩
      have hN2 : NestAt (upd H' D (.lst (found.map V.int ++ [.int h]))) a N := hN.tups (Tups.trans (Same.tups s1) (tups_upd (nt_lst hD')))
      refine ⟨_, rfl, _, rfl, a, _, _, _, rfl, rfl, SqT.of hN2, nest_at g0 g1, ⟨⟨found ++ [h], G.par N h, rfl, fun b o e => ?_, ?_, I2⟩, ?_⟩⟩
      · rw [upd_ne (free_ne e hD)]
        exact s1 b o e
      · rw [upd_same, List.map_append]
        rfl
      · show arMu N [some (.ref a), some (.int d), some (.ref D), some (oV (G.par N h))] < arMu N [some (.ref a), some (.int d), some (.ref D), some (oV (some h))]
        rw [arMu_eq, arMu_eq]
        exact hl
  · intro σ H' Q1 Q2 hq h
    obtain ⟨v, e, c, e2, h2⟩ := h
    exact ⟨v, e, c, e2, hq _ _ h2⟩
/-! ### inside_in -/
def spInside : Sp := fun vs H Q _ => ∃ (a : Addr) (N : List (Option Int)) (d : Int), vs = [.ref a, .int d] ∧ NestAt H a N ∧ G.NestOk N ∧ 0 ≤ d ∧ d < N.length ∧
  ∀ r H', Same H H' → H r = none → H' r = some (.lst ((G.ins N d).map V.int)) → Q (.ref r) H'
theorem sc_inside_in : FnScope ["nest", "door", "k"] ["nest", "door"] (defScope s_inside_in) := ⟨rfl, rfl, rfl, by decide +kernel, rfl, by decide +kernel, by decide +kernel⟩
theorem int62 {n : Nat} (h : n ≤ 1000000) : -(2 ^ 62) ≤ (n : Int) ∧ (n : Int) < 2 ^ 62 := by omega
theorem ok_inside_in (T : Txt K mg) (D1 : Def P w K mg base 1 "around_in" ["nest", "door"] spAround) : Def P w K mg base 2 "inside_in" ["nest", "door"] spInside := by
  obtain ⟨fd, F⟩ := T.f_inside_in
  refine mkDef F T.m_inside_in (fun _ _ _ _ _ _ us hl => match us, hl with | [_, _], _ => rfl) (fok F sc_inside_in (fun vs H Q E h => ?_) (fun cdv A outer s H vs Q E hr h => ?_))
  · obtain ⟨a, N, d, rfl, _⟩ := h
    rfl
  obtain ⟨a, N, d, rfl, hN, ok, h0, h1, q⟩ := h
  have few := ok.few
  refine ⟨_, pss_one (ps_ret (pe_lc (own := [("k", 2)]) (g := gName 2) (by rfl) sc_inside_in.nd (pi_range1 (by rfl) T.z_range (pa_cons (pv 1) pa_nil)) (blkOk_by (N := ["nest", "door", "k"]) (sc := defScope s_inside_in) (by decide +kernel))
    (fun _ _ _ _ _ => pg_name (i := 2) sc_inside_in.nd rfl (Or.inl rfl)) (fun _ _ _ _ _ => pts_one (pt_cmpR (in_K (K := K)) (pv 1) (pe_c D1 hr (by rfl) (pa_cons (pv 0) (pa_cons (pv 2) pa_nil))) (by rfl))) (fun _ _ _ _ _ => pv 2))), ?_⟩
  refine ⟨_, rfl, d, rfl, by omega, by omega, fun D hD => ?_⟩
  have s0 := same_upd (o := .lst []) hD
  refine lc_range (lo := 0) (n := d.toNat) (fun i H' => Same H H' ∧ H' D = some (.lst ((((G.rng d.toNat).take i).filter (G.insP N d)).map V.int))) ⟨s0, upd_same⟩ ?_ ?_
  · rintro i H' hi ⟨s1, hD'⟩
    have e0 : (0 : Int) + (i : Nat) = (i : Nat) := by omega
    have hx := G.rng_get hi
    refine ⟨rfl, _, rfl, _, rfl, _, rfl, a, N, (0 : Int) + (i : Nat), rfl, hN.tups (Same.tups s1), ok, by omega, by omega, fun r H2 s2 hr2 hr2' => ?_⟩
    refine ⟨r, _, rfl, .inl (SqL.of hr2'), rfl, flat_ints _, ?_⟩
    rw [inV_ints, e0]
    have hD2 := s2 _ _ hD'
    refine ⟨_, rfl, ?_⟩
    rw [filter_snoc _ hx]
    refine ite2 (fun c => ?_) (fun c => ?_)
    · refine ⟨_, rfl, _, hD2, line_lt ?_, ?_, ?_⟩
      · have := List.length_filter_le (G.insP N d) ((G.rng d.toNat).take i)
        rw [List.length_take, G.rng_length] at this
        rw [List.length_map]
        omega
      · intro b o e
        rw [upd_ne (free_ne e hD)]
        exact s2 _ _ (s1 b o e)
      · rw [upd_same, if_pos (show G.insP N d (i : Nat) = true from c), List.map_append]
        rfl
    · refine ⟨Same.trans s1 s2, ?_⟩
      rw [if_neg (show ¬ G.insP N d (i : Nat) = true from c), List.append_nil]
      exact hD2
  · rintro H' ⟨s1, hD'⟩
    rw [List.take_of_length_le (by rw [G.rng_length]; exact Nat.le_refl _)] at hD'
    exact q D H' s1 hD hD'
end
end Kd

namespace Kd
open PySem PySem.Spec PyProof.Rows L2
section
variable {P : Program} {w : World} {K : PySem.W.Frag} {mg : Str → Option Value} {base : Heap}
/-! ### count_in -/
def spCount : Sp := fun vs H Q _ => ∃ (a c : Addr) (N : List (Option Int)) (s : List Int) (d : Int), vs = [.ref a, .ref c, .int d] ∧ NestAt H a N ∧ G.NestOk N ∧ StAt H c s ∧ 0 ≤ d ∧ d < N.length ∧
  ∀ H', Same H H' → Q (.int (G.count N s d)) H'
theorem sc_count_in : FnScope ["nest", "state", "door", "x"] ["nest", "state", "door"] (defScope s_count_in) := ⟨rfl, rfl, rfl, by decide +kernel, rfl, by decide +kernel, by decide +kernel⟩
theorem ok_count_in (T : Txt K mg) (D1 : Def P w K mg base 2 "inside_in" ["nest", "door"] spInside) : Def P w K mg base 3 "count_in" ["nest", "state", "door"] spCount := by
  obtain ⟨fd, F⟩ := T.f_count_in
  refine mkDef F T.m_count_in (fun _ _ _ _ _ _ us hl => match us, hl with | [_, _, _], _ => rfl) (fok F sc_count_in (fun vs H Q E h => ?_) (fun cdv A outer s H vs Q E hr h => ?_))
  · obtain ⟨a, c, N, s, d, rfl, _⟩ := h
    rfl
  obtain ⟨a, c, N, st, d, rfl, hN, ok, hst, h0, h1, q⟩ := h
  have few := ok.few
  refine ⟨_, pss_one (ps_ret (pe_callB (len_K (K := K)) (by rfl) T.z_len boot_len (pa_cons (pe_lc (own := [("x", 3)]) (g := gName 3) (by rfl) sc_count_in.nd (pi_list (pe_c D1 hr (by rfl) (pa_cons (pv 0) (pa_cons (pv 2) pa_nil)))) (blkOk_by (N := ["nest", "state", "door", "x"]) (sc := defScope s_count_in) (by decide +kernel))
    (fun _ _ _ _ _ => pg_name (i := 3) sc_count_in.nd rfl (Or.inl rfl)) (fun _ _ _ _ _ => pts_one (pt_cmpR (in_K (K := K)) (pv 3) (pv 1) (by rfl))) (fun _ _ _ _ _ => pv 3)) pa_nil))), ?_⟩
  refine ⟨_, rfl, _, rfl, a, N, d, rfl, hN, ok, h0, h1, fun r H1 s1 hr1 hr1' => ⟨r, rfl, ⟨_, SqL.of hr1'⟩, fun D hD => ?_⟩⟩
  refine lc_list (K := K) (a := r) (xs := (G.ins N d).map V.int) (fun i H' => FI H1 D (((G.ins N d).take i).filter (G.cntP st)) H') (FI.start hD) (fun i H' _ h => SqL.of (h.same _ _ hr1')) ?_ ?_
  · rintro i y H' hi h
    obtain ⟨x, hx, rfl⟩ := map_get hi
    refine ⟨rfl, _, rfl, _, rfl, c, _, rfl, .inr (SqT.of (h.same _ _ (s1 _ _ hst))), rfl, flat_ints _, ?_⟩
    rw [inV_ints]
    refine ⟨_, rfl, ?_⟩
    rw [filter_snoc _ hx]
    refine ite2 (fun c => ?_) (fun c => ?_)
    · rw [if_pos (show G.cntP st x = true from c)]
      refine ⟨_, rfl, FI.add hD h (Same.refl _) (line_lt ?_)⟩
      have := List.length_filter_le (G.cntP st) ((G.ins N d).take i)
      rw [List.length_take] at this
      have := G.ins_len N d
      omega
    · rw [if_neg (show ¬ G.cntP st x = true from c), List.append_nil]
      exact h
  · rintro H' h
    rw [List.length_map, List.take_length] at h
    refine ⟨D, _, rfl, .inl (SqL.of h.at_), ?_⟩
    rw [List.length_map]
    exact q H' (Same.trans s1 h.same)
/-! ### ready_in -/
def spReady : Sp := fun vs H Q _ => ∃ (a b c : Addr) (N : List (Option Int)) (nums : List (List Int)) (s : List Int), vs = [.ref a, .ref b, .ref c] ∧ NestAt H a N ∧ G.NestOk N ∧ RowsAt H b nums ∧ nums.length = N.length ∧ StAt H c s ∧
  ∀ r H', Same H H' → H r = none → H' r = some (.lst ((G.rdy N nums s).map V.int)) → Q (.ref r) H'
theorem rows_get {H : Hp} {b : Addr} {nums : List (List Int)} (h : RowsAt H b nums) {k : Int} (h0 : 0 ≤ k) (h1 : k < nums.length) : ∃ (vs : List V) (p : Addr), H b = some (.tup vs) ∧ atI vs k = some (.ref p) ∧ H p = some (.tup ((G.numOf nums k).map V.int)) := by
  obtain ⟨l, e1, e2, e3⟩ := h
  have hg := G.numOf_get (n := nums.length) rfl h0 h1
  have hg2 : l[k.toNat]? ≠ none := fun e => by
    rw [← e2, List.getElem?_map, e] at hg
    cases hg
  obtain ⟨p, hp⟩ := Option.ne_none_iff_exists'.mp hg2
  rw [← e2, List.getElem?_map, hp] at hg
  have e4 : p.2 = G.numOf nums k := by rw [← e2]; exact Option.some.inj hg
  refine ⟨_, p.1, e1, at_of (j := k.toNat) (by omega) (by rw [List.getElem?_map, hp]; rfl), ?_⟩
  rw [← e4]
  exact e3 p (List.mem_of_getElem? hp)
theorem sc_ready_in : FnScope ["nest", "numbers", "state", "k"] ["nest", "numbers", "state"] (defScope s_ready_in) := ⟨rfl, rfl, rfl, by decide +kernel, rfl, by decide +kernel, by decide +kernel⟩
theorem ok_ready_in (T : Txt K mg) (D1 : Def P w K mg base 3 "count_in" ["nest", "state", "door"] spCount) : Def P w K mg base 4 "ready_in" ["nest", "numbers", "state"] spReady := by
  obtain ⟨fd, F⟩ := T.f_ready_in
  refine mkDef F T.m_ready_in (fun _ _ _ _ _ _ us hl => match us, hl with | [_, _, _], _ => rfl) (fok F sc_ready_in (fun vs H Q E h => ?_) (fun cdv A outer s H vs Q E hr h => ?_))
  · obtain ⟨a, b, c, N, nums, s, rfl, _⟩ := h
    rfl
  obtain ⟨a, b, c, N, nums, st, rfl, hN, ok, hnums, hlen, hst, q⟩ := h
  have few := ok.few
  refine ⟨_, pss_one (ps_ret (pe_lc (own := [("k", 3)]) (g := gName 3) (by rfl) sc_ready_in.nd (pi_range1 (by rfl) T.z_range (pa_cons (pe_callB call_len_seq (by rfl) T.z_len boot_len (pa_cons (pv 0) pa_nil)) pa_nil)) (blkOk_by (N := ["nest", "numbers", "state", "k"]) (sc := defScope s_ready_in) (by decide +kernel))
    (fun _ _ _ _ _ => pg_name (i := 3) sc_ready_in.nd rfl (Or.inl rfl))
    (fun _ _ _ _ _ => pts_one (PW.pt (pw_and (pt_cmpR (notIn_K (K := K)) (pv 3) (pv 2) (by rfl)) (pw_and1 (pt_cmpR (in_K (K := K)) (pe_c D1 hr (by rfl) (pa_cons (pv 0) (pa_cons (pv 2) (pa_cons (pv 3) pa_nil)))) (pe_ix (ixT_K (K := K)) (pv 1) (pv 3) (fun _ _ => rfl)) (by rfl))))))
    (fun _ _ _ _ _ => pv 3))), ?_⟩
  refine ⟨_, rfl, a, _, rfl, .inr (SqT.of hN), _, rfl, ?_⟩
  have hl6 : ((N.map oV).length : Int) = N.length := by rw [List.length_map]
  rw [hl6]
  refine ⟨by omega, by omega, fun D hD => ?_⟩
  refine lc_range (lo := 0) (n := ((N.length : Nat) : Int).toNat) (fun i H' => FI H D (((G.rng N.length).take i).filter (G.rdyP N nums st)) H') (FI.start hD) ?_ ?_
  · rintro i H' hi h
    have hi' : i < N.length := by omega
    have hx := G.rng_get hi'
    have e0 : (0 : Int) + (i : Nat) = (i : Nat) := by omega
    rw [e0]
    have hlt : (((G.rng N.length).take i).filter (G.rdyP N nums st)).length < sizeLine := line_lt (by
      have := List.length_filter_le (G.rdyP N nums st) ((G.rng N.length).take i)
      rw [List.length_take, G.rng_length] at this
      omega)
    refine ⟨rfl, _, rfl, _, rfl, c, _, rfl, .inr (SqT.of (h.same _ _ hst)), rfl, flat_ints _, ?_⟩
    rw [inV_ints]
    refine ⟨_, rfl, ?_⟩
    rw [filter_snoc _ hx]
    refine ite2 (fun c1 => ?_) (fun c1 => ?_)
    · refine ⟨_, rfl, _, rfl, _, rfl, a, c, N, st, (i : Nat), rfl, hN.tups (Same.tups h.same), ok, hst.tups (Same.tups h.same), by omega, by omega, fun H2 s2 => ?_⟩
      have h2 := h.go s2
      obtain ⟨vs, p, g1, g2, g3⟩ := rows_get (hnums.tups (Same.tups h2.same)) (k := ((i : Nat) : Int)) (by omega) (by omega)
      refine ⟨_, rfl, _, rfl, b, vs, _, _, rfl, rfl, SqT.of g1, g2, p, _, rfl, .inr (SqT.of g3), rfl, flat_ints _, ?_⟩
      rw [inV_ints]
      refine ⟨_, rfl, ?_⟩
      refine ite2 (fun c2 => ?_) (fun c2 => ?_)
      · have hp : G.rdyP N nums st (i : Nat) = true := by
          unfold G.rdyP
          rw [Bool.and_eq_true]
          exact ⟨by simpa using c1, c2⟩
        rw [if_pos hp]
        exact ⟨_, rfl, FI.add hD h2 (Same.refl _) hlt⟩
      · have hp : ¬ G.rdyP N nums st (i : Nat) = true := fun e => by
          unfold G.rdyP at e
          rw [Bool.and_eq_true] at e
          exact c2 e.2
        rw [if_neg hp, List.append_nil]
        exact h2
    · refine iteF ?_
      have hp : ¬ G.rdyP N nums st (i : Nat) = true := fun e => by
        unfold G.rdyP at e
        rw [Bool.and_eq_true] at e
        exact c1 (by simpa using e.1)
      rw [if_neg hp, List.append_nil]
      exact h
  · rintro H' h
    rw [List.take_of_length_le (by rw [G.rng_length]; omega)] at h
    exact q D H' h.same hD h.at_
end
end Kd

namespace Kd
open PySem PySem.Spec PyProof.Rows L2
/-- a list (at r) of new pairs: a door, a state -/
def FurAt (H : Hp) (r : Addr) (xs : List (Int × List Int)) : Prop := ∃ l : List (Addr × Addr × (Int × List Int)), H r = some (.lst (l.map fun p => V.ref p.1)) ∧ l.map (·.2.2) = xs ∧ ∀ p ∈ l, H p.1 = some (.tup [.int p.2.2.1, .ref p.2.1]) ∧ StAt H p.2.1 p.2.2.2
theorem FurAt.keep {H H' : Hp} {r : Addr} {xs : List (Int × List Int)} (h : FurAt H r xs) (e : ∀ o, H r = some o → H' r = some o) (t : Tups H H') : FurAt H' r xs := by
  obtain ⟨l, h1, h2, h3⟩ := h
  exact ⟨l, e _ h1, h2, fun p hp => ⟨t _ _ (h3 p hp).1, (h3 p hp).2.tups t⟩⟩
theorem FurAt.same {H H' : Hp} {r : Addr} {xs : List (Int × List Int)} (h : FurAt H r xs) (s : Same H H') : FurAt H' r xs := h.keep (fun o e => s _ _ e) (Same.tups s)
theorem FurAt.lst {H : Hp} {r : Addr} {xs : List (Int × List Int)} (h : FurAt H r xs) : ∃ l, H r = some (.lst l) := let ⟨_, h1, _⟩ := h; ⟨_, h1⟩
structure FurI (H : Hp) (D : Addr) (xs : List (Int × List Int)) (H' : Hp) : Prop where
  same : Same H H'
  at_ : FurAt H' D xs
theorem FurI.start {H : Hp} {D : Addr} (h : H D = none) : FurI H D [] (upd H D (.lst [])) := ⟨same_upd h, [], upd_same, rfl, fun _ h => nomatch h⟩
theorem FurI.add {H H1 H2 : Hp} {D p q : Addr} {xs : List (Int × List Int)} {x : Int × List Int} (hD : H D = none) (h : FurI H D xs H1) (s : Same H1 H2) (hp : H2 p = some (.tup [.int x.1, .ref q])) (hq : StAt H2 q x.2) (hl : xs.length < sizeLine) :
    ∃ acc, H2 D = some (.lst acc) ∧ acc.length < sizeLine ∧ FurI H D (xs ++ [x]) (upd H2 D (.lst (acc ++ [.ref p]))) := by
  obtain ⟨s0, l, h1, h2, h3⟩ := h
  have hD2 := s _ _ h1
  have t : Tups H2 (upd H2 D (.lst ((l.map fun p => V.ref p.1) ++ [.ref p]))) := tups_upd (nt_lst hD2)
  refine ⟨_, hD2, by rw [List.length_map]; rw [← h2, List.length_map] at hl; exact hl, fun b o e => ?_, l ++ [(p, q, x)], ?_, by rw [List.map_append, h2]; rfl, fun z hz => ?_⟩
  · rw [upd_ne (ne_of_none e hD)]
    exact s _ _ (s0 _ _ e)
  · rw [upd_same, List.map_append]
    rfl
  · rcases List.mem_append.mp hz with hz | hz
    · exact ⟨t _ _ (s _ _ (h3 z hz).1), StAt.tups ((h3 z hz).2.tups (Same.tups s)) t⟩
    · rw [List.mem_singleton] at hz
      subst hz
      exact ⟨t _ _ hp, hq.tups t⟩
section
variable {P : Program} {w : World} {K : PySem.W.Frag} {mg : Str → Option Value} {base : Heap}
/-! ### further -/
def spFurther : Sp := fun vs H Q _ => ∃ (a b c : Addr) (N : List (Option Int)) (nums : List (List Int)) (s : List Int), vs = [.ref a, .ref b, .ref c] ∧ NestAt H a N ∧ G.NestOk N ∧ RowsAt H b nums ∧ nums.length = N.length ∧ StAt H c s ∧ G.Ok N.length s ∧
  ∀ r H', Same H H' → H r = none → FurAt H' r (G.ext N nums s) → Q (.ref r) H'
theorem sc_further : FnScope ["nest", "numbers", "state", "k"] ["nest", "numbers", "state"] (defScope s_further) := ⟨rfl, rfl, rfl, by decide +kernel, rfl, by decide +kernel, by decide +kernel⟩
theorem ok_further (T : Txt K mg) (D1 : Def P w K mg base 4 "ready_in" ["nest", "numbers", "state"] spReady) : Def P w K mg base 5 "further" ["nest", "numbers", "state"] spFurther := by
  obtain ⟨fd, F⟩ := T.f_further
  refine mkDef F T.m_further (fun _ _ _ _ _ _ us hl => match us, hl with | [_, _, _], _ => rfl) (fok F sc_further (fun vs H Q E h => ?_) (fun cdv A outer s H vs Q E hr h => ?_))
  · obtain ⟨a, b, c, N, nums, s, rfl, _⟩ := h
    rfl
  obtain ⟨a, b, c, N, nums, st, rfl, hN, ok, hnums, hlen, hst, oks, q⟩ := h
  have few := ok.few
  have stl := oks.le
  refine ⟨_, pss_one (ps_ret (pe_lc (own := [("k", 3)]) (g := gName 3) (by rfl) sc_further.nd (pi_list (pe_c D1 hr (by rfl) (pa_cons (pv 0) (pa_cons (pv 1) (pa_cons (pv 2) pa_nil))))) (blkOk_by (N := ["nest", "numbers", "state", "k"]) (sc := defScope s_further) (by decide +kernel))
    (fun _ _ _ _ _ => pg_name (i := 3) sc_further.nd rfl (Or.inl rfl)) (fun _ _ _ _ _ => pts_nil)
    (fun _ _ _ _ _ => pe_tup (pa_cons (pv 3) (pa_cons (pe_callTy (tuple_K (K := K)) (by rfl) T.z_tuple (by decide +kernel) (pa_cons (pe_callB (cr_sortedTI (K := K)) (by rfl) T.z_sorted (by decide +kernel) (pa_cons (pe_op (catA_K (K := K)) (pv 2) (pe_tup (pa_cons (pv 3) pa_nil))) pa_nil)) pa_nil)) pa_nil))))), ?_⟩
  refine ⟨_, rfl, _, rfl, _, rfl, a, b, c, N, nums, st, rfl, hN, ok, hnums, hlen, hst, fun r H1 s1 hr1 hr1' => ⟨r, rfl, ⟨_, SqL.of hr1'⟩, fun D hD => ?_⟩⟩
  refine lc_list (K := K) (a := r) (xs := (G.rdy N nums st).map V.int) (fun i H' => FurI H1 D (((G.rdy N nums st).take i).map fun k => (k, G.nxt st k)) H') (FurI.start hD) (fun i H' _ h => SqL.of (h.same _ _ hr1')) ?_ ?_
  · rintro i y H' hi h
    obtain ⟨x, hx, rfl⟩ := map_get hi
    have hl : (((G.rdy N nums st).take i).map fun k => (k, G.nxt st k)).length < sizeLine := line_lt (by
      have := (G.rdy_gm N nums).few st
      rw [List.length_map, List.length_take]
      omega)
    have hst' : StAt H' c st := hst.tups (Same.tups (Same.trans s1 h.same))
    refine ⟨rfl, ?_⟩
    rw [take_snoc hx, List.map_append]
    refine ⟨_, rfl, _, rfl, _, rfl, line1, fun p hp => ?_⟩
    have g1 := same_upd (o := .tup [V.int x]) hp
    have cont : ∀ t H5, Same H' H5 → StAt H5 t (st ++ [x]) → rSortTI K [.ref t] H5 fun v H6 => tCB (rTupl K) (fun _ H Q => Q [v] H) [] H6 fun v2 H7 => [V.int x, v2].length ≤ sizeLine ∧ ∀ p, H7 p = none → ∃ acc, upd H7 p (.tup [V.int x, v2]) D = some (.lst acc) ∧ acc.length < sizeLine ∧ FurI H1 D (((G.rdy N nums st).take i).map (fun k => (k, G.nxt st k)) ++ [x].map (fun k => (k, G.nxt st k))) (upd (upd H7 p (.tup [V.int x, v2])) D (.lst (acc ++ [.ref p]))) := by
      intro t H5 s5 ht
      refine ⟨t, st ++ [x], rfl, SqT.of ht, by rw [List.length_append, List.length_singleton]; omega, fun ns' p2 hperm hsort hp2 => ?_⟩
      have s6 := same_upd (o := .lst (ns'.map V.int)) hp2
      refine ⟨p2, _, rfl, .inl ⟨SqL.of upd_same, fun p3 hp3 => ?_⟩⟩
      have s7 := same_upd (o := .tup (ns'.map V.int)) hp3
      refine ⟨line2, fun p4 hp4 => ?_⟩
      have s8 := same_upd (o := .tup [V.int x, V.ref p3]) hp4
      refine FurI.add (p := p4) (q := p3) (x := (x, G.nxt st x)) hD h (Same.trans s5 (Same.trans s6 (Same.trans s7 s8))) upd_same ?_ hl
      have e : ns' = G.nxt st x := G.srt_of hperm hsort
      rw [← e]
      exact s8 _ _ upd_same
    refine ⟨c, p, _, _, rfl, rfl, SqT.of (g1 _ _ hst'), SqT.of upd_same, ?_, fun hnil => ?_, fun _ h => ?_, fun _ _ p5 hp5 => ?_⟩
    · rw [List.length_map]
      exact line_le (by show st.length + 1 ≤ 1000000; omega)
    · have e : st = [] := List.map_eq_nil_iff.mp hnil
      refine cont p _ g1 ?_
      rw [e]
      exact upd_same
    · cases h
    · refine cont p5 _ (Same.trans g1 (same_upd hp5)) ?_
      show upd _ p5 _ p5 = _
      rw [upd_same, List.map_append]
      rfl
  · rintro H' h
    rw [List.length_map, List.take_length] at h
    exact q D H' (Same.trans s1 h.same) (Same.free s1 hD) h.at_
end
end Kd

namespace Kd
open PySem PySem.Spec PyProof.Rows L2
section
variable {P : Program} {w : World} {K : PySem.W.Frag} {mg : Str → Option Value} {base : Heap}
/-! ### value_in -/
def spValue (P : Program) (w : World) (m : Nat) : Sp := fun vs H Q _ => ∃ (a b c d : Addr) (N : List (Option Int)) (nums : List (List Int)) (s : List Int) (f : Bool) (kvs : List (NestedKey × V)),
  vs = [.ref a, .ref b, .ref c, .bl f, .ref d] ∧ NestAt H a N ∧ G.NestOk N ∧ RowsAt H b nums ∧ nums.length = N.length ∧ StAt H c s ∧ G.Ok N.length s ∧ DD P w H d kvs ∧ KnOk N nums kvs ∧ N.length - s.length < m ∧
  ∀ H' kvs', But d H H' → Tups H H' → DD P w H' d kvs' → KnOk N nums kvs' → Q (.int (gvN N nums s f)) H'
theorem sc_value_in : FnScope ["nest", "numbers", "state", "is_first", "known", "key", "told", "k", "there"] ["nest", "numbers", "state", "is_first", "known"] (defScope s_value_in) := ⟨rfl, rfl, rfl, by decide +kernel, rfl, by decide +kernel, by decide +kernel⟩
theorem none_value {k : Nat} {f : Addr} {fd : FuncData} : FnOk P w K mg base CX0 k f fd ["nest", "numbers", "state", "is_first", "known"] (spValue P w 0) := by
  have no : ∀ vs H Q E, ¬ spValue P w 0 vs H Q E := fun vs H Q E h => by
    obtain ⟨a, b, c, d, N, nums, s, f, kvs, _, _, _, _, _, _, _, _, _, h, _⟩ := h
    exact absurd h (Nat.not_lt_zero _)
  exact ⟨fun vs H Q E h => absurd h (no vs H Q E), fun A outer s H args us vs Q E _ _ _ _ h => absurd h (no vs H Q E)⟩
/-- what stands within the comprehension -/
structure VI (P : Program) (w : World) (N : List (Option Int)) (nums : List (List Int)) (H : Hp) (d D : Addr) (l : List Int) (H' : Hp) : Prop where
  but : But d H H'
  tups : Tups H H'
  kn : ∃ kvs, DD P w H' d kvs ∧ KnOk N nums kvs
  at_ : H' D = some (.lst (l.map V.int))
theorem ok_value_step (T : Txt K mg) {m : Nat} (D1 : Def P w K mg base 5 "further" ["nest", "numbers", "state"] spFurther) (D0 : Def P w K mg base (5 + m) "value_in" ["nest", "numbers", "state", "is_first", "known"] (spValue P w m)) :
    Def P w K mg base (5 + (m + 1)) "value_in" ["nest", "numbers", "state", "is_first", "known"] (spValue P w (m + 1)) := by
  obtain ⟨fd, F⟩ := T.f_value_in
  refine mkDef F T.m_value_in (fun _ _ _ _ _ _ us hl => match us, hl with | [_, _, _, _, _], _ => rfl) (fok (k := 5 + m) F sc_value_in (fun vs H Q E h => ?_) (fun cdv A outer s H vs Q E hr h => ?_))
  · obtain ⟨a, b, c, d, N, nums, s, f, kvs, rfl, _⟩ := h
    rfl
  obtain ⟨a, b, c, d, N, nums, st, f, kvs, rfl, hN, ok, hnums, hlen, hst, oks, hd, hkn, hm, q⟩ := h
  have few := ok.few
  have hr5 := hr.mono (show 5 ≤ 5 + m by omega)
  have hu := hu64 hr
  have gm := G.rdy_gm N nums
  refine ⟨_, pss_cons (ps_set (i := 5) sc_value_in.nd rfl (Or.inl rfl) (pe_tup (pa_cons (pv 2) (pa_cons (pv 3) pa_nil))))
    (pss_cons (ps_if (pt_cmpR (or_nnotin (P := P) (w := w) hu) (pv 5) (pv 4) (by rfl))
      (pss_cons (ps_setLc (i := 6) (own := [("k", 7), ("there", 8)]) (by rfl) sc_value_in.nd rfl rfl (sw_true rfl rfl rfl (by decide +kernel)) (pi_list (pe_c D1 hr5 (by rfl) (pa_cons (pv 0) (pa_cons (pv 1) (pa_cons (pv 2) pa_nil)))))
          (blkOk_by (N := ["nest", "numbers", "state", "is_first", "known", "key", "told", "k", "there"]) (sc := defScope s_value_in) (by decide +kernel))
          (fun _ _ _ _ _ => pg_tupK (K := K) (n := 2) (by rfl) (pgs_cons (pg_name (i := 7) sc_value_in.nd rfl (Or.inl rfl)) (pgs_cons (pg_name (i := 8) sc_value_in.nd rfl (Or.inl rfl)) pgs_nil)))
          (fun _ _ _ _ _ => pts_nil)
          (fun _ _ _ _ _ => pe_c D0 hr (by rfl) (pa_cons (pv 0) (pa_cons (pv 1) (pa_cons (pv 8) (pa_cons (pe_not (pv 3)) (pa_cons (pv 4) pa_nil)))))))
        (pss_one (ps_if (pt_cmpR (op_eqNil (K := K) (hu0 hr)) (pv 6) (pe_lst pa_nil) (by rfl))
          (pss_one (ps_nput (P := P) (w := w) hu (pv 4) (pv 5) (pe_callB call_len_seq (by rfl) T.z_len boot_len (pa_cons (pv 2) pa_nil)) (by rfl)))
          (pss_one (ps_nput (P := P) (w := w) hu (pv 4) (pv 5) (pe_ifExp (pt_val (pv 3)) (pe_callB (cr_max (by rfl)) (by rfl) T.z_max (by decide +kernel) (pa_cons (pv 6) pa_nil)) (pe_callB (cr_min (by rfl)) (by rfl) T.z_min (by decide +kernel) (pa_cons (pv 6) pa_nil))) (by rfl))))))
      pss_nil)
    (pss_one (ps_ret (pe_nget (P := P) (w := w) hu (pv 4) (pv 5) (fun _ _ => rfl))))), ?_⟩
  -- key = (state, is_first)
  refine ⟨_, rfl, _, rfl, line2, fun kp hkp => ?_⟩
  have s1 := same_upd (o := .tup [V.ref c, V.bl f]) hkp
  generalize hH1 : upd H kp (.tup [V.ref c, V.bl f]) = H1 at s1
  have hkp1 : H1 kp = some (.tup [V.ref c, V.bl f]) := by rw [← hH1, upd_same]
  have hst1 : StAt H1 c st := hst.tups (Same.tups s1)
  have hk1 : NKA H1 (kPr st f) kp := .pr hkp1 hst1
  have hd1 := hd.same s1
  have fin : ∀ (told k2 t2 : Option V) H3 kvs3, But d H1 H3 → Tups H1 H3 → DD P w H3 d kvs3 → KnOk N nums kvs3 → valV kvs3 (kPr st f) = some (.int (gvN N nums st f)) →
      tRet (tNGet P w (tVar 4) (tVar 5)) { nx := fun _ H' => Q .non H', rt := Q } [some (.ref a), some (.ref b), some (.ref c), some (.bl f), some (.ref d), some (.ref kp), told, k2, t2] H3 := by
    intro told k2 t2 H3 kvs3 b3 t3 d3 n3 v3
    exact ⟨_, rfl, _, rfl, d, kp, kvs3, _, _, rfl, rfl, d3, hk1.tups t3, v3, q H3 kvs3 (But.trans (Same.but s1) b3) (Tups.trans (Same.tups s1) t3) d3 n3⟩
  -- if key not in known
  refine ⟨_, rfl, _, rfl, d, kp, kvs, _, rfl, rfl, hd1, hk1, _, rfl, ?_⟩
  refine ite2 (fun hnot => ?_) (fun hin => ?_)
  · -- told = [..]
    refine ⟨_, rfl, _, rfl, _, rfl, a, b, c, N, nums, st, rfl, hN.tups (Same.tups s1), ok, hnums.tups (Same.tups s1), hlen, hst1, oks, fun r H2 s2 hr0 hF => ?_⟩
    obtain ⟨lF, hrl⟩ := hF.lst
    refine ⟨r, rfl, ⟨_, SqL.of hrl⟩, fun D hD => ?_⟩
    have hd2 := hd1.same s2
    have hdD : D ≠ d := fun e => by
      obtain ⟨ls, e1, _⟩ := hd2
      rw [e, e1] at hD
      cases hD
    have hrd : r ≠ d := hd2.ne hrl (fun _ z => nomatch z)
    have hrD : r ≠ D := free_ne hrl hD
    have sD := same_upd (o := .lst []) hD
    obtain ⟨lf, f1, f2, f3⟩ := id hF
    have tnd : ∀ xs, H2 d ≠ some (.tup xs) := hd2.nt
    -- the element's calls
    refine lc_list (K := K) (a := r) (xs := lf.map fun p => V.ref p.1) (fun i H' => VI P w N nums H2 d D (((lf.take i).map fun p => gvN N nums p.2.2.2 (!f))) H') ⟨Same.but sD, Same.tups sD, ⟨kvs, hd2.same sD, hkn⟩, upd_same⟩ (fun i H' _ h => SqL.of (h.but _ _ hrd f1)) ?_ ?_
    · rintro i y H' hi h
      obtain ⟨x, hx, rfl⟩ := map_get hi
      obtain ⟨g1, g2⟩ := f3 x (List.mem_of_getElem? hx)
      have xm : x.2.2 ∈ G.ext N nums st := by rw [← f2]; exact List.mem_map.mpr ⟨x, List.mem_of_getElem? hx, rfl⟩
      obtain ⟨xr, xn⟩ := G.ext_mem.mp xm
      obtain ⟨kvs3, hd3, hkn3⟩ := h.kn
      have tH : Tups H H' := Tups.trans (Tups.trans (Same.tups s1) (Same.tups s2)) h.tups
      refine ⟨x.1, _, rfl, SqT.of (h.tups _ _ g1), rfl, ⟨_, _, rfl, ?_⟩⟩
      refine ⟨_, _, rfl, rfl, rfl, ?_⟩
      refine ⟨_, rfl, _, rfl, _, rfl, _, rfl, f, rfl, _, rfl, a, b, x.2.1, d, N, nums, x.2.2.2, !f, kvs3, rfl, hN.tups tH, ok, hnums.tups tH, hlen, StAt.tups g2 h.tups, ?_, hd3, hkn3, ?_, fun H4 kvs4 b4 t4 d4 n4 => ?_⟩
      · rw [xn]
        exact gm.next oks xr
      · rw [xn, G.nxt_length]
        have := gm.short oks (List.ne_nil_of_mem xr)
        omega
      · have hD4 : H4 D = _ := b4 _ _ hdD h.at_
        refine ⟨_, hD4, line_lt ?_, fun bb o hb e => ?_, ?_, ⟨kvs4, ?_, n4⟩, ?_⟩
        · have h1 := G.ext_len (N := N) (nums := nums) (s := st)
          rw [← f2, List.length_map] at h1
          rw [List.length_map, List.length_map, List.length_take]
          omega
        · rw [upd_ne (free_ne e hD)]
          exact b4 _ _ hb (h.but _ _ hb e)
        · exact Tups.trans (Tups.trans h.tups t4) (tups_upd (nt_lst hD4))
        · exact d4.keep (fun o e => by rw [upd_ne (Ne.symm hdD)]; exact e) (tups_upd (nt_lst hD4))
        · rw [upd_same, take_snoc hx, List.map_append, List.map_append]
          rfl
    · rintro H' h
      rw [List.length_map, List.take_length] at h
      have hvals : (lf.map fun p => gvN N nums p.2.2.2 (!f)) = (G.rdy N nums st).map fun k => gvN N nums (G.nxt st k) (!f) := by
        have e : (lf.map fun p => gvN N nums p.2.2.2 (!f)) = (lf.map (·.2.2)).map fun x => gvN N nums x.2 (!f) := by rw [List.map_map]; rfl
        rw [e, f2]
        unfold G.ext
        rw [List.map_map]
        rfl
      rw [hvals] at h
      have hgv : gvN N nums st f = if G.rdy N nums st = [] then (st.length : Int) else if f = true then G.maxL ((G.rdy N nums st).map fun k => gvN N nums (G.nxt st k) (!f)) else G.minL ((G.rdy N nums st).map fun k => gvN N nums (G.nxt st k) (!f)) := gm.gv_eq oks f
      obtain ⟨kvs3, hd3, hkn3⟩ := h.kn
      have len3 := hkn3.few few hd3.nd
      have b3 : But d H1 H' := But.trans (Same.but s2) h.but
      have t3 : Tups H1 H' := Tups.trans (Same.tups s2) h.tups
      -- if told == []
      refine ⟨_, rfl, line_le (by decide), fun e0 he0 => ?_⟩
      have s4 := same_upd (o := .lst []) he0
      generalize hH5 : upd H' e0 (.lst []) = H5 at s4
      have he5 : H5 e0 = some (.lst []) := by rw [← hH5, upd_same]
      have hD5 := s4 _ _ h.at_
      have b5 : But d H1 H5 := But.trans b3 (Same.but s4)
      have t5 : Tups H1 H5 := Tups.trans t3 (Same.tups s4)
      have put : ∀ v, v = gvN N nums st f → ∀ H6, But d H5 H6 → Tups H5 H6 → DD P w H6 d (putK kvs3 (kPr st f) (.int v)) →
          tRet (tNGet P w (tVar 4) (tVar 5)) { nx := fun _ H' => Q .non H', rt := Q } [some (.ref a), some (.ref b), some (.ref c), some (.bl f), some (.ref d), some (.ref kp), some (.ref D), none, none] H6 := by
        intro v hv H6 b6 t6 d6
        subst hv
        exact fin _ _ _ H6 _ (But.trans b5 b6) (Tups.trans t5 t6) d6 (hkn3.put oks) (valV_put_self _ _ _)
      refine ⟨D, e0, _, rfl, rfl, SqL.of hD5, SqL.of he5, _, rfl, ?_⟩
      refine ite2 (fun hnil => ?_) (fun hnil => ?_)
      · -- known[key] = len(state)
        refine ⟨_, rfl, c, _, rfl, .inr (SqT.of (hst1.tups t5)), _, rfl, _, rfl, d, kp, kvs3, _, rfl, rfl, hd3.same s4, hk1.tups t5, line_lt (by omega), fun H6 b6 t6 d6 => ?_⟩
        refine put _ ?_ H6 b6 t6 d6
        have e : G.rdy N nums st = [] := by
          rw [List.isEmpty_iff, List.map_eq_nil_iff, List.map_eq_nil_iff] at hnil
          exact hnil
        rw [hgv, if_pos e, List.length_map]
      · have e : G.rdy N nums st ≠ [] := fun e => by
          rw [e] at hnil
          exact hnil rfl
        rw [if_neg e] at hgv
        have hpos : 0 < ((G.rdy N nums st).map fun k => gvN N nums (G.nxt st k) (!f)).length := by
          rw [List.length_map]
          exact List.length_pos_iff.mpr e
        refine ⟨_, rfl, f, rfl, ?_⟩
        cases f with
        | true =>
          refine iteT ?_
          refine ⟨_, rfl, D, _, rfl, SqL.of hD5, hpos, fun mx hmx hle => ?_⟩
          refine ⟨_, rfl, _, rfl, d, kp, kvs3, _, rfl, rfl, hd3.same s4, hk1.tups t5, line_lt (by omega), fun H6 b6 t6 d6 => ?_⟩
          refine put mx ?_ H6 b6 t6 d6
          rw [G.maxL_of hmx hle, hgv, if_pos rfl]
        | false =>
          refine iteF ?_
          refine ⟨_, rfl, D, _, rfl, SqL.of hD5, hpos, fun mx hmx hle => ?_⟩
          refine ⟨_, rfl, _, rfl, d, kp, kvs3, _, rfl, rfl, hd3.same s4, hk1.tups t5, line_lt (by omega), fun H6 b6 t6 d6 => ?_⟩
          refine put mx ?_ H6 b6 t6 d6
          rw [G.minL_of hmx hle, hgv, if_neg (by simp)]
  · -- already known
    have hs : (valV kvs (kPr st f)).isSome = true := by
      cases h : (valV kvs (kPr st f)).isSome with
      | true => rfl
      | false => rw [h] at hin; exact absurd rfl hin
    obtain ⟨v, hv⟩ := Option.isSome_iff_exists.mp hs
    have := hkn.val hv
    subst this
    exact fin _ _ _ H1 kvs (But.refl _ _) (Tups.refl _) hd1 hkn hv
theorem ok_value (T : Txt K mg) (D1 : Def P w K mg base 5 "further" ["nest", "numbers", "state"] spFurther) : ∀ m : Nat, Def P w K mg base (5 + m) "value_in" ["nest", "numbers", "state", "is_first", "known"] (spValue P w m)
  | 0 => by
    obtain ⟨fd, F⟩ := T.f_value_in
    exact mkDef F T.m_value_in (fun _ _ _ _ _ _ us hl => match us, hl with | [_, _, _, _, _], _ => rfl) none_value
  | m + 1 => ok_value_step T D1 (ok_value T D1 m)
end
end Kd

namespace Kd
open PySem PySem.Spec PyProof.Rows L2
section
variable {P : Program} {w : World} {K : PySem.W.Frag} {mg : Str → Option Value} {base : Heap}
/-! ### need_nest -/
def spNeedNest : Sp := fun vs H Q _ => ∃ (a : Addr) (N : List (Option Int)), vs = [.ref a] ∧ NestAt H a N ∧ G.NestOk N ∧ ∀ H', Same H H' → Q .non H'
theorem sc_need_nest : FnScope ["nest", "index", "one"] ["nest"] (defScope s_need_nest) := ⟨rfl, rfl, rfl, by decide +kernel, rfl, by decide +kernel, by decide +kernel⟩
theorem ok_need_nest (T : Txt K mg) (D1 : Def P w K mg base 1 "is_in" ["value", "least", "most"] spIsIn) : Def P w K mg base 2 "need_nest" ["nest"] spNeedNest := by
  obtain ⟨fd, F⟩ := T.f_need_nest
  refine mkDef F T.m_need_nest (fun _ _ _ _ _ _ us hl => match us, hl with | [_], _ => rfl) (fok F sc_need_nest (fun vs H Q E h => ?_) (fun cdv A outer s H vs Q E hr h => ?_))
  · obtain ⟨a, N, rfl, _⟩ := h
    rfl
  obtain ⟨a, N, rfl, hN, ok, q⟩ := h
  have few := ok.few
  have some_ := ok.some_
  obtain ⟨t9, m9⟩ := T.i_MOST_DOORS
  have hlN : ((N.map oV).length : Int) = N.length := by rw [List.length_map]
  refine ⟨_, pss_cons (ps_if (PW.pt (pw_or (pt_not (pt_val (pe_callB (isi_K (K := K)) (by rfl) T.z_isinstance (by decide +kernel) (pa_cons (pv 0) (pa_cons (pe_bltn (v := .ty "tuple") (by rfl) T.z_tuple (by decide +kernel) rfl) pa_nil)))))
      (pw_or1 (pt_not (pt_chain op_le op_le pe_int (pe_callB (len_K (K := K)) (by rfl) T.z_len boot_len (pa_cons (pv 0) pa_nil)) (pe_glob (v := .int 9) (by rfl) m9 ⟨_, rfl⟩)))))) (pss_one ps_never) pss_nil)
    (pss_one (ps_for PassesOwn.never rfl (pi_enumT (by rfl) T.z_enumerate (pa_cons (pv 0) pa_nil)) (pg_tup rfl (pgs_cons (pg_name (i := 1) sc_need_nest.nd rfl (Or.inl rfl)) (pgs_cons (pg_name (i := 2) sc_need_nest.nd rfl (Or.inl rfl)) pgs_nil)))
      (pss_one (ps_if (PW.pt (pw_and (pt_cmp (pc_notN (pv 2))) (pw_and1 (pt_not (pt_val (pe_c D1 hr (by rfl) (pa_cons (pv 2) (pa_cons (pe_op op_add (pv 1) pe_int) (pa_cons (pe_op op_sub (pe_callB (len_K (K := K)) (by rfl) T.z_len boot_len (pa_cons (pv 0) pa_nil)) pe_int) pa_nil))))))))) (pss_one ps_never) pss_nil)))), ?_⟩
  refine ⟨_, rfl, _, _, _, _, true, rfl, .ty _, .base (.tup hN), kit_ty (by decide +kernel), true, rfl, iteF ?_⟩
  refine ⟨_, rfl, a, _, rfl, .inr (SqT.of hN), ?_⟩
  rw [hlN]
  refine ⟨1, _, rfl, rfl, _, rfl, ?_⟩
  rw [if_pos (show decide ((1 : Int) ≤ (N.length : Int)) = true from decide_eq_true (by omega))]
  refine ⟨_, _, rfl, rfl, _, rfl, ?_⟩
  have hle : decide ((N.length : Int) ≤ 9) = true := decide_eq_true (by omega)
  rw [hle]
  refine iteF ?_
  refine ⟨_, rfl, a, _, rfl, SqT.of hN, for_it walk_enumT (fun i σ H' => ∃ v1 v2, σ = [some (.ref a), v1, v2] ∧ Same H H') ⟨none, none, rfl, Same.refl _⟩ (fun i σ H' _ ⟨_, _, _, h⟩ => SqT.of (h _ _ hN)) ?_ ?_⟩
  · rintro i x σ H1 H2 hi ⟨v1, v2, rfl, s1⟩ ⟨p, y, z, rfl, hp, rfl, hy, hz⟩
    cases hy
    obtain ⟨o, ho, rfl⟩ := map_get hz
    have hi' : i < N.length := by rw [List.length_map] at hi; exact hi
    have s2 := Same.trans s1 (same_upd (o := .tup [V.int (i : Nat), oV o]) hp)
    refine ⟨p, _, rfl, SqT.of upd_same, rfl, _, _, rfl, _, _, rfl, ⟨rfl, ?_⟩⟩
    refine ⟨_, rfl, _, rfl, ?_⟩
    cases o with
    | none =>
      refine iteF ?_
      exact ⟨_, _, rfl, s2⟩
    | some j =>
      have hj := ok.up i j ho
      refine iteT ?_
      refine ⟨_, rfl, _, rfl, _, _, rfl, rfl, _, rfl, a, _, rfl, .inr (SqT.of (s2 _ _ hN)), _, _, rfl, rfl, j, _, _, rfl, ?_⟩
      rw [hlN]
      have e : decide ((i : Int) + 1 ≤ j ∧ j ≤ (N.length : Int) - 1) = true := decide_eq_true (by omega)
      refine ⟨_, rfl, ?_⟩
      rw [e]
      refine iteF ?_
      exact ⟨_, _, rfl, s2⟩
  · rintro σ H' ⟨v1, v2, rfl, s1⟩
    exact q H' s1
/-! ### is_set -/
def spIsSet : Sp := fun vs H Q _ => ∃ (a : Addr) (ns : List Int), vs = [.ref a] ∧ H a = some (.tup (ns.map V.int)) ∧ ns.Pairwise (· < ·) ∧ (∀ x ∈ ns, 0 ≤ x ∧ x ≤ 8) ∧ ∀ H', Same H H' → Q (.bl true) H'
theorem few9 {ns : List Int} (h : ns.Pairwise (· < ·)) (hb : ∀ x ∈ ns, 0 ≤ x ∧ x ≤ 8) : ns.length ≤ 9 := by
  have := (G.nodup_of_lt h).length_le_of_subset (l₂ := G.rng 9) fun x hx => G.mem_rng.mpr (by have := hb x hx; omega)
  rwa [G.rng_length] at this
theorem sc_is_set : FnScope ["value", "x"] ["value"] (defScope s_is_set) := ⟨rfl, rfl, rfl, by decide +kernel, rfl, by decide +kernel, by decide +kernel⟩
theorem ok_is_set (T : Txt K mg) (D1 : Def P w K mg base 1 "is_in" ["value", "least", "most"] spIsIn) : Def P w K mg base 2 "is_set" ["value"] spIsSet := by
  obtain ⟨fd, F⟩ := T.f_is_set
  refine mkDef F T.m_is_set (fun _ _ _ _ _ _ us hl => match us, hl with | [_], _ => rfl) (fok F sc_is_set (fun vs H Q E h => ?_) (fun cdv A outer s H vs Q E hr h => ?_))
  · obtain ⟨a, ns, rfl, _⟩ := h
    rfl
  obtain ⟨a, ns, rfl, ha, hasc, hb, q⟩ := h
  obtain ⟨t8, m8⟩ := T.i_MOST_NUMBER
  have hl9 := few9 hasc hb
  refine ⟨_, pss_cons (ps_if (PW.pt (pw_or (pt_not (pt_val (pe_callB (isi_K (K := K)) (by rfl) T.z_isinstance (by decide +kernel) (pa_cons (pv 0) (pa_cons (pe_bltn (v := .ty "tuple") (by rfl) T.z_tuple (by decide +kernel) rfl) pa_nil)))))
      (pw_or1 (pt_cmpR (op_neNil (K := K) (hu0 hr)) (pe_lc (own := [("x", 1)]) (g := gName 1) (by rfl) sc_is_set.nd (pi_tup (pv 0)) (blkOk_by (N := ["value", "x"]) (sc := defScope s_is_set) (by decide +kernel))
        (fun _ _ _ _ _ => pg_name (i := 1) sc_is_set.nd rfl (Or.inl rfl)) (fun _ _ _ _ _ => pts_one (pt_not (pt_val (pe_c D1 hr (by rfl) (pa_cons (pv 1) (pa_cons pe_int (pa_cons (pe_glob (v := .int 8) (by rfl) m8 ⟨_, rfl⟩) pa_nil))))))) (fun _ _ _ _ _ => pv 1))
        (pe_lst pa_nil) (by rfl))))) (pss_one (ps_ret pe_bl)) pss_nil)
    (pss_one (ps_ret (pe_cmpR (eqD_K (K := K) (hu64 hr)) (pe_callTy (list_K (K := K)) (by rfl) T.z_list (by decide +kernel) (pa_cons (pv 0) pa_nil))
      (pe_callB (sortedSet_w (w := w) (by rfl)) (by rfl) T.z_sorted (by decide +kernel) (pa_cons (pe_callTy (cr_setTI (K := K) (w := w) (by rfl)) (by rfl) T.z_set (by decide +kernel) (pa_cons (pv 0) pa_nil)) pa_nil)) (by rfl)))), ?_⟩
  refine ⟨_, rfl, _, _, _, _, true, rfl, .ty _, .base (.tup ha), kit_ty (by decide +kernel), true, rfl, iteF ?_⟩
  refine ⟨_, rfl, a, rfl, ⟨_, SqT.of ha⟩, fun D hD => ?_⟩
  refine lc_tup (K := K) (a := a) (xs := ns.map V.int) (fun i H' => FI H D [] H') (FI.start hD) (fun i H' _ h => SqT.of (h.same _ _ ha)) ?_ ?_
  · rintro i y H' hi h
    obtain ⟨x, hx, rfl⟩ := map_get hi
    have hxb := hb x (List.mem_of_getElem? hx)
    refine ⟨rfl, _, rfl, x, 0, 8, rfl, _, rfl, ?_⟩
    rw [show decide ((0 : Int) ≤ x ∧ x ≤ 8) = true from decide_eq_true hxb]
    exact iteF h
  · rintro H1 h
    refine ⟨line_le' (n := 0) (by decide), fun e0 he0 => ?_⟩
    have s1 := Same.trans h.same (same_upd (o := .lst []) he0)
    refine ⟨D, e0, _, rfl, rfl, SqL.of (same_upd he0 _ _ h.at_), SqL.of upd_same, _, rfl, ?_⟩
    refine iteF ?_
    have ha1 := s1 _ _ ha
    refine ⟨_, rfl, a, _, rfl, .inr (SqT.of ha1), fun l1 hl1 => ?_⟩
    have s2 := same_upd (o := .lst (ns.map V.int)) hl1
    refine ⟨_, rfl, a, ns, rfl, SqT.of (s2 _ _ ha1), by omega, fun st n hst hn => ?_⟩
    have s3 := same_upd (o := SetO w st (fun k => decide (k ∈ ns)) n) hst
    refine ⟨st, _, n, rfl, upd_same, by omega, fun ns' p hlt hmem hlen hp => ?_⟩
    have s4 := same_upd (o := .lst (ns'.map V.int)) hp
    have e : ns' = ns := G.asc_unique hlt hasc fun x => by rw [hmem x, decide_eq_true_iff]
    subst e
    refine ⟨_, _, dp_ints (s4 _ _ (s3 _ _ upd_same)), dp_ints upd_same, (sh_map sh_int ns').shaped (by decide), (sh_map sh_int ns').shaped (by decide), ?_⟩
    rw [eqv_lst eqv_int, decide_eq_true rfl]
    exact q _ (Same.trans s1 (Same.trans s2 (Same.trans s3 s4)))
/-! ### need_numbers -/
def spNeedNums : Sp := fun vs H Q _ => ∃ (a b : Addr) (N : List (Option Int)) (nums : List (List Int)), vs = [.ref a, .ref b] ∧ NestAt H a N ∧ G.NestOk N ∧ RowsAt H b nums ∧ G.NumsOk N.length nums ∧ ∀ H', Same H H' → Q .non H'
theorem sc_need_numbers : FnScope ["nest", "numbers", "index", "one"] ["nest", "numbers"] (defScope s_need_numbers) := ⟨rfl, rfl, rfl, by decide +kernel, rfl, by decide +kernel, by decide +kernel⟩
theorem ok_need_numbers (T : Txt K mg) (D1 : Def P w K mg base 2 "need_nest" ["nest"] spNeedNest) (D2 : Def P w K mg base 2 "is_set" ["value"] spIsSet) : Def P w K mg base 3 "need_numbers" ["nest", "numbers"] spNeedNums := by
  obtain ⟨fd, F⟩ := T.f_need_numbers
  refine mkDef F T.m_need_numbers (fun _ _ _ _ _ _ us hl => match us, hl with | [_, _], _ => rfl) (fok F sc_need_numbers (fun vs H Q E h => ?_) (fun cdv A outer s H vs Q E hr h => ?_))
  · obtain ⟨a, b, N, nums, rfl, _⟩ := h
    rfl
  obtain ⟨a, b, N, nums, rfl, hN, ok, hnums, okn, q⟩ := h
  refine ⟨_, pss_cons (ps_expr (pe_c D1 hr (by rfl) (pa_cons (pv 0) pa_nil))) (pss_cons (ps_if (PW.pt (pw_or (pt_not (pt_val (pe_callB (isi_K (K := K)) (by rfl) T.z_isinstance (by decide +kernel) (pa_cons (pv 1) (pa_cons (pe_bltn (v := .ty "tuple") (by rfl) T.z_tuple (by decide +kernel) rfl) pa_nil)))))
      (pw_or1 (pt_cmpR op_ne (pe_callB (len_K (K := K)) (by rfl) T.z_len boot_len (pa_cons (pv 1) pa_nil)) (pe_callB (len_K (K := K)) (by rfl) T.z_len boot_len (pa_cons (pv 0) pa_nil)) (nomark _))))) (pss_one ps_never) pss_nil)
    (pss_one (ps_for PassesOwn.never rfl (pi_enumT (by rfl) T.z_enumerate (pa_cons (pv 1) pa_nil)) (pg_tup rfl (pgs_cons (pg_name (i := 2) sc_need_numbers.nd rfl (Or.inl rfl)) (pgs_cons (pg_name (i := 3) sc_need_numbers.nd rfl (Or.inl rfl)) pgs_nil)))
      (pss_one (ps_if (pt_not (pt_val (pe_c D2 hr (by rfl) (pa_cons (pv 3) pa_nil)))) (pss_one ps_never) pss_nil))))), ?_⟩
  refine ⟨_, rfl, a, N, rfl, hN, ok, fun H1 s1 => ?_⟩
  obtain ⟨l, e1, e2, e3⟩ := hnums.tups (Same.tups s1)
  have hN1 := hN.tups (Same.tups s1)
  refine ⟨_, rfl, _, _, _, _, true, rfl, .ty _, .base (.tup e1), kit_ty (by decide +kernel), true, rfl, iteF ?_⟩
  refine ⟨_, rfl, b, _, rfl, .inr (SqT.of e1), _, rfl, a, _, rfl, .inr (SqT.of hN1), rfl, ?_⟩
  have hll : l.length = N.length := by
    have := okn.len
    rw [← e2, List.length_map] at this
    exact this
  have e : (!decide (V.int ((l.map fun p => V.ref p.1).length : Nat) = V.int ((N.map oV).length : Nat))) = false := by
    rw [List.length_map, List.length_map, hll]
    simp
  refine ⟨_, rfl, ?_⟩
  rw [e]
  refine iteF ?_
  refine ⟨_, rfl, b, _, rfl, SqT.of e1, for_it walk_enumT (fun i σ H' => ∃ v1 v2, σ = [some (.ref a), some (.ref b), v1, v2] ∧ Same H1 H') ⟨none, none, rfl, Same.refl _⟩ (fun i σ H' _ ⟨_, _, _, h⟩ => SqT.of (h _ _ e1)) ?_ ?_⟩
  · rintro i x σ H2 H3 hi ⟨v1, v2, rfl, s2⟩ ⟨p, y, z, rfl, hp, rfl, hy, hz⟩
    cases hy
    obtain ⟨o, ho, rfl⟩ := map_get hz
    have om := List.mem_of_getElem? ho
    have s3 := Same.trans s2 (same_upd (o := .tup [V.int (i : Nat), V.ref o.1]) hp)
    obtain ⟨g1, g2⟩ := okn.asc o.2 (by rw [← e2]; exact List.mem_map.mpr ⟨o, om, rfl⟩)
    refine ⟨p, _, rfl, SqT.of upd_same, rfl, _, _, rfl, _, _, rfl, ⟨rfl, ?_⟩⟩
    refine ⟨_, rfl, o.1, o.2, rfl, s3 _ _ (e3 o om), g1, g2, fun H4 s4 => ?_⟩
    refine ⟨_, rfl, iteF ?_⟩
    exact ⟨_, _, rfl, Same.trans s3 s4⟩
  · rintro σ H' ⟨v1, v2, rfl, s2⟩
    exact q H' (Same.trans s1 s2)
/-! ### need_state, of the empty state -/
def spNeedState : Sp := fun vs H Q _ => ∃ (a c : Addr) (N : List (Option Int)), vs = [.ref a, .ref c] ∧ NestAt H a N ∧ StAt H c [] ∧ ∀ H', Same H H' → Q .non H'
theorem sc_need_state : FnScope ["nest", "state", "x"] ["nest", "state"] (defScope s_need_state) := ⟨rfl, rfl, rfl, by decide +kernel, rfl, by decide +kernel, by decide +kernel⟩
theorem ok_need_state (T : Txt K mg) (D1 : Def P w K mg base 1 "is_in" ["value", "least", "most"] spIsIn) : Def P w K mg base 2 "need_state" ["nest", "state"] spNeedState := by
  obtain ⟨fd, F⟩ := T.f_need_state
  refine mkDef F T.m_need_state (fun _ _ _ _ _ _ us hl => match us, hl with | [_, _], _ => rfl) (fok F sc_need_state (fun vs H Q E h => ?_) (fun cdv A outer s H vs Q E hr h => ?_))
  · obtain ⟨a, c, N, rfl, _⟩ := h
    rfl
  obtain ⟨a, c, N, rfl, hN, hc, q⟩ := h
  refine ⟨_, pss_cons (ps_if (PW.pt (pw_or (pt_not (pt_val (pe_callB (isi_K (K := K)) (by rfl) T.z_isinstance (by decide +kernel) (pa_cons (pv 1) (pa_cons (pe_bltn (v := .ty "tuple") (by rfl) T.z_tuple (by decide +kernel) rfl) pa_nil)))))
      (pw_or1 (pt_cmpR (op_neNil (K := K) (hu0 hr)) (pe_lc (own := [("x", 2)]) (g := gName 2) (by rfl) sc_need_state.nd (pi_tup (pv 1)) (blkOk_by (N := ["nest", "state", "x"]) (sc := defScope s_need_state) (by decide +kernel))
        (fun _ _ _ _ _ => pg_name (i := 2) sc_need_state.nd rfl (Or.inl rfl)) (fun _ _ _ _ _ => pts_one (pt_not (pt_val (pe_c D1 hr (by rfl) (pa_cons (pv 2) (pa_cons pe_int (pa_cons (pe_op op_sub (pe_callB (len_K (K := K)) (by rfl) T.z_len boot_len (pa_cons (pv 0) pa_nil)) pe_int) pa_nil))))))) (fun _ _ _ _ _ => pv 2))
        (pe_lst pa_nil) (by rfl))))) (pss_one ps_never) pss_nil)
    (pss_one (ps_if (pt_cmpR (neD_K (K := K) (hu64 hr)) (pe_callTy (list_K (K := K)) (by rfl) T.z_list (by decide +kernel) (pa_cons (pv 1) pa_nil))
      (pe_callB (sortedSet_w (w := w) (by rfl)) (by rfl) T.z_sorted (by decide +kernel) (pa_cons (pe_callTy (cr_setTI (K := K) (w := w) (by rfl)) (by rfl) T.z_set (by decide +kernel) (pa_cons (pv 1) pa_nil)) pa_nil)) (by rfl)) (pss_one ps_never) pss_nil)), ?_⟩
  have hc' : H c = some (.tup (([] : List Int).map V.int)) := hc
  refine ⟨_, rfl, _, _, _, _, true, rfl, .ty _, .base (.tup hc'), kit_ty (by decide +kernel), true, rfl, iteF ?_⟩
  refine ⟨_, rfl, c, rfl, ⟨_, SqT.of hc'⟩, fun D hD => ?_⟩
  refine lc_tup (K := K) (a := c) (xs := ([] : List Int).map V.int) (fun i H' => FI H D [] H') (FI.start hD) (fun i H' _ h => SqT.of (h.same _ _ hc')) ?_ ?_
  · rintro i y H' hi h
    simp at hi
  · rintro H1 h
    refine ⟨line_le' (n := 0) (by decide), fun e0 he0 => ?_⟩
    have s1 := Same.trans h.same (same_upd (o := .lst []) he0)
    refine ⟨D, e0, _, rfl, rfl, SqL.of (same_upd he0 _ _ h.at_), SqL.of upd_same, _, rfl, ?_⟩
    refine iteF ?_
    have hc1 := s1 _ _ hc'
    refine ⟨_, rfl, c, _, rfl, .inr (SqT.of hc1), fun l1 hl1 => ?_⟩
    have s2 := same_upd (o := .lst (([] : List Int).map V.int)) hl1
    refine ⟨_, rfl, c, [], rfl, SqT.of (s2 _ _ hc1), by decide, fun st n hst hn => ?_⟩
    have hn0 : n ≤ 0 := hn
    have s3 := same_upd (o := SetO w st (fun k => decide (k ∈ ([] : List Int))) n) hst
    refine ⟨st, _, n, rfl, upd_same, by omega, fun ns' p hlt hmem hlen hp => ?_⟩
    have s4 := same_upd (o := .lst (ns'.map V.int)) hp
    have e : ns' = [] := List.eq_nil_iff_length_eq_zero.mpr (by omega)
    subst e
    refine ⟨_, _, dp_ints (s4 _ _ (s3 _ _ upd_same)), dp_ints upd_same, (sh_map sh_int _).shaped (by decide), (sh_map sh_int _).shaped (by decide), ?_⟩
    rw [eqv_lst eqv_int, decide_eq_true rfl]
    refine ⟨_, rfl, iteF ?_⟩
    exact q _ (Same.trans s1 (Same.trans s2 (Same.trans s3 s4)))
end
end Kd

namespace Kd
open PySem PySem.Spec PyProof.Rows L2
section
variable {P : Program} {w : World} {K : PySem.W.Frag} {mg : Str → Option Value} {base : Heap}
/-! ### need_both, need_flag, need_play, kept_open -/
def spNeedBoth : Sp := fun vs H Q _ => ∃ (a b c : Addr) (N : List (Option Int)) (nums : List (List Int)), vs = [.ref a, .ref b, .ref c] ∧ NestAt H a N ∧ G.NestOk N ∧ RowsAt H b nums ∧ G.NumsOk N.length nums ∧ StAt H c [] ∧ ∀ H', Same H H' → Q .non H'
theorem sc_need_both : FnScope ["nest", "numbers", "state"] ["nest", "numbers", "state"] (defScope s_need_both) := ⟨rfl, rfl, rfl, by decide +kernel, rfl, by decide +kernel, by decide +kernel⟩
theorem ok_need_both (T : Txt K mg) (D1 : Def P w K mg base 3 "need_numbers" ["nest", "numbers"] spNeedNums) (D2 : Def P w K mg base 2 "need_state" ["nest", "state"] spNeedState) : Def P w K mg base 4 "need_both" ["nest", "numbers", "state"] spNeedBoth := by
  obtain ⟨fd, F⟩ := T.f_need_both
  refine mkDef F T.m_need_both (fun _ _ _ _ _ _ us hl => match us, hl with | [_, _, _], _ => rfl) (fok F sc_need_both (fun vs H Q E h => ?_) (fun cdv A outer s H vs Q E hr h => ?_))
  · obtain ⟨a, b, c, N, nums, rfl, _⟩ := h
    rfl
  obtain ⟨a, b, c, N, nums, rfl, hN, ok, hnums, okn, hc, q⟩ := h
  refine ⟨_, pss_cons (ps_expr (pe_c D1 hr (by rfl) (pa_cons (pv 0) (pa_cons (pv 1) pa_nil)))) (pss_one (ps_expr (pe_c D2 (hr.mono (by decide)) (by rfl) (pa_cons (pv 0) (pa_cons (pv 2) pa_nil))))), ?_⟩
  refine ⟨_, rfl, _, rfl, a, b, N, nums, rfl, hN, ok, hnums, okn, fun H1 s1 => ?_⟩
  exact ⟨_, rfl, _, rfl, a, c, N, rfl, hN.tups (Same.tups s1), hc.tups (Same.tups s1), fun H2 s2 => q H2 (Same.trans s1 s2)⟩
def spNeedFlag : Sp := fun vs H Q _ => ∃ f : Bool, vs = [.bl f] ∧ Q .non H
theorem sc_need_flag : FnScope ["value"] ["value"] (defScope s_need_flag) := ⟨rfl, rfl, rfl, by decide +kernel, rfl, by decide +kernel, by decide +kernel⟩
theorem ok_need_flag (T : Txt K mg) : Def P w K mg base 1 "need_flag" ["value"] spNeedFlag := by
  obtain ⟨fd, F⟩ := T.f_need_flag
  refine mkDef F T.m_need_flag (fun _ _ _ _ _ _ us hl => match us, hl with | [_], _ => rfl) (fok F sc_need_flag (fun vs H Q E h => ?_) (fun cdv A outer s H vs Q E hr h => ?_))
  · obtain ⟨f, rfl, _⟩ := h
    rfl
  obtain ⟨f, rfl, q⟩ := h
  refine ⟨_, pss_one (ps_if (pt_not (pt_val (pe_callB (isi_K (K := K)) (by rfl) T.z_isinstance (by decide +kernel) (pa_cons (pv 0) (pa_cons (pe_bltn (v := .ty "bool") (by rfl) T.z_bool (by decide +kernel) rfl) pa_nil))))) (pss_one ps_never) pss_nil), ?_⟩
  refine ⟨_, rfl, _, _, _, _, true, rfl, .ty _, .base (.bl f), kit_ty (by decide +kernel), true, rfl, iteF ?_⟩
  exact q
def spNeedPlay : Sp := fun vs H Q _ => ∃ (a b : Addr) (N : List (Option Int)) (nums : List (List Int)) (f : Bool), vs = [.ref a, .ref b, .bl f] ∧ NestAt H a N ∧ G.NestOk N ∧ RowsAt H b nums ∧ G.NumsOk N.length nums ∧ ∀ H', Same H H' → Q .non H'
theorem sc_need_play : FnScope ["nest", "numbers", "is_first"] ["nest", "numbers", "is_first"] (defScope s_need_play) := ⟨rfl, rfl, rfl, by decide +kernel, rfl, by decide +kernel, by decide +kernel⟩
theorem ok_need_play (T : Txt K mg) (D1 : Def P w K mg base 3 "need_numbers" ["nest", "numbers"] spNeedNums) (D2 : Def P w K mg base 1 "need_flag" ["value"] spNeedFlag) : Def P w K mg base 4 "need_play" ["nest", "numbers", "is_first"] spNeedPlay := by
  obtain ⟨fd, F⟩ := T.f_need_play
  refine mkDef F T.m_need_play (fun _ _ _ _ _ _ us hl => match us, hl with | [_, _, _], _ => rfl) (fok F sc_need_play (fun vs H Q E h => ?_) (fun cdv A outer s H vs Q E hr h => ?_))
  · obtain ⟨a, b, N, nums, f, rfl, _⟩ := h
    rfl
  obtain ⟨a, b, N, nums, f, rfl, hN, ok, hnums, okn, q⟩ := h
  refine ⟨_, pss_cons (ps_expr (pe_c D1 hr (by rfl) (pa_cons (pv 0) (pa_cons (pv 1) pa_nil)))) (pss_one (ps_expr (pe_c D2 (hr.mono (by decide)) (by rfl) (pa_cons (pv 2) pa_nil)))), ?_⟩
  exact ⟨_, rfl, _, rfl, a, b, N, nums, rfl, hN, ok, hnums, okn, fun H1 s1 => ⟨_, rfl, f, rfl, q H1 s1⟩⟩
def spKept (P : Program) (w : World) : Sp := fun vs H Q _ => ∃ (a b c : Addr) (N : List (Option Int)) (nums : List (List Int)) (f : Bool), vs = [.ref a, .ref b, .ref c, .bl f] ∧ NestAt H a N ∧ G.NestOk N ∧ RowsAt H b nums ∧ G.NumsOk N.length nums ∧ StAt H c [] ∧
  ∀ H', Same H H' → Q (.bl (decide (gvN N nums [] f = N.length))) H'
theorem same_but {H H1 H2 : Hp} {d : Addr} (s : Same H H1) (hd : H d = none) (b : But d H1 H2) : Same H H2 := fun x o e => b x o (free_ne e hd) (s _ _ e)
theorem dec_int (x y : Int) : decide (V.int x = V.int y) = decide (x = y) := by
  by_cases h : x = y <;> simp [h]
theorem sc_kept_open : FnScope ["nest", "numbers", "state", "is_first"] ["nest", "numbers", "state", "is_first"] (defScope s_kept_open) := ⟨rfl, rfl, rfl, by decide +kernel, rfl, by decide +kernel, by decide +kernel⟩
theorem ok_kept_open (T : Txt K mg) (D1 : Def P w K mg base 4 "need_both" ["nest", "numbers", "state"] spNeedBoth) (D2 : Def P w K mg base 1 "need_flag" ["value"] spNeedFlag) (D3 : Def P w K mg base 12 "value_in" ["nest", "numbers", "state", "is_first", "known"] (spValue P w 7)) :
    Def P w K mg base 13 "kept_open" ["nest", "numbers", "state", "is_first"] (spKept P w) := by
  obtain ⟨fd, F⟩ := T.f_kept_open
  refine mkDef F T.m_kept_open (fun _ _ _ _ _ _ us hl => match us, hl with | [_, _, _, _], _ => rfl) (fok F sc_kept_open (fun vs H Q E h => ?_) (fun cdv A outer s H vs Q E hr h => ?_))
  · obtain ⟨a, b, c, N, nums, f, rfl, _⟩ := h
    rfl
  obtain ⟨a, b, c, N, nums, f, rfl, hN, ok, hnums, okn, hc, q⟩ := h
  have few := ok.few
  refine ⟨_, pss_cons (ps_expr (pe_c D1 (hr.mono (by decide)) (by rfl) (pa_cons (pv 0) (pa_cons (pv 1) (pa_cons (pv 2) pa_nil))))) (pss_cons (ps_expr (pe_c D2 (hr.mono (by decide)) (by rfl) (pa_cons (pv 3) pa_nil)))
    (pss_one (ps_ret (pe_cmpR op_eq (pe_c D3 hr (by rfl) (pa_cons (pv 0) (pa_cons (pv 1) (pa_cons (pv 2) (pa_cons (pv 3) (pa_cons (pe_nnew (P := P) (w := w)) pa_nil)))))) (pe_callB (len_K (K := K)) (by rfl) T.z_len boot_len (pa_cons (pv 0) pa_nil)) (nomark _))))), ?_⟩
  refine ⟨_, rfl, _, rfl, _, rfl, a, b, c, N, nums, rfl, hN, ok, hnums, okn, hc, fun H1 s1 => ?_⟩
  refine ⟨_, rfl, f, rfl, ?_⟩
  refine ⟨_, rfl, _, rfl, _, rfl, _, rfl, fun d hd => ?_⟩
  have s2 := Same.trans s1 (same_upd (o := DNO P w d []) hd)
  have t2 := Same.tups s2
  refine ⟨a, b, c, d, N, nums, [], f, [], rfl, hN.tups t2, ok, hnums.tups t2, okn.len, hc.tups t2, G.Ok.nil _, DD.new, KnOk.nil, by show N.length - 0 < 7; omega, fun H3 kvs3 b3 t3 d3 n3 => ?_⟩
  have s3 : Same H H3 := same_but s2 (Same.free s1 hd) b3
  refine ⟨_, rfl, a, _, rfl, .inr (SqT.of (s3 _ _ hN)), rfl, ?_⟩
  rw [dec_int, List.length_map]
  exact q H3 s3
end
end Kd

namespace Kd
open PySem PySem.Spec PyProof.Rows L2
theorem DD.updL {P : Program} {w : World} {H : Hp} {d r : Addr} {kvs : List (NestedKey × V)} {l : List V} {o : HO} (h : DD P w H d kvs) (hr : H r = some (.lst l)) : DD P w (upd H r o) d kvs :=
  h.keep (fun o e => by rw [upd_ne (Ne.symm (h.ne hr (fun _ z => nomatch z)))]; exact e) (tups_upd (nt_lst hr))
theorem same_updL {H0 H : Hp} {r : Addr} {o : HO} (h : Same H0 H) (hr : H0 r = none) : Same H0 (upd H r o) := fun b x e => by
  rw [upd_ne (free_ne e hr)]
  exact h _ _ e
section
variable {P : Program} {w : World} {K : PySem.W.Frag} {mg : Str → Option Value} {base : Heap}
/-! ### keeper_plan -/
theorem hu3 {A : Around} {k : Nat} (hr : Room k A) : A.units + 3 < cLine := by have := hr.un; omega
def spPlan : Sp := fun vs H Q _ => ∃ (a b : Addr) (N : List (Option Int)) (nums : List (List Int)) (f : Bool), vs = [.ref a, .ref b, .bl f] ∧ NestAt H a N ∧ G.NestOk N ∧ RowsAt H b nums ∧ G.NumsOk N.length nums ∧
  (∀ H', Same H H' → gvN N nums [] f ≠ N.length → Q .non H') ∧
  (∀ r o ps H', Same H H' → gvN N nums [] f = N.length → TupOb o → H' r = some (.frz o (.tup (ps.map fun p : PE' => V.ref p.1))) → PairsIn H' ps → G.Plan N.length (G.rdy N nums) f (ps.map (·.2.2)) → Q (.ref r) H')
/-- the loop's word -/
structure PlW (P : Program) (w : World) (N : List (Option Int)) (nums : List (List Int)) (f : Bool) (H0 : Hp) (kd md : Addr) (rw : Addr) (M : G.Mv) (rows : List G.Row) (H' : Hp) : Prop where
  same : Same H0 H'
  kn : ∃ kvs, DD P w H' kd kvs ∧ KnOk N nums kvs
  mv : DD P w H' md (mvKvs M)
  rws : RowsL H' rw rows
  fr : H0 rw = none
  ki : G.KI N.length (G.rdy N nums) f M rows
  few : G.mu N.length rows ≤ 300000
theorem sc_keeper_plan : FnScope ["nest", "numbers", "is_first", "known", "moves", "rows", "state", "is_mine", "some", "good", "one", "k", "there"] ["nest", "numbers", "is_first"] (defScope s_keeper_plan) := ⟨rfl, rfl, rfl, by decide +kernel, rfl, by decide +kernel, by decide +kernel⟩
theorem ext_of_lf {N : List (Option Int)} {nums : List (List Int)} {s : List Int} {lf : List (Addr × Addr × (Int × List Int))} (h : lf.map (·.2.2) = G.ext N nums s) (p : List Int → Bool) :
    (lf.filter fun x => p x.2.2.2).map (fun x => (x.2.2.2, true)) = (((G.rdy N nums s).map fun k => G.nxt s k).filter p).map fun t => (t, true) := by
  have e1 : (G.rdy N nums s).map (fun k => G.nxt s k) = lf.map fun x => x.2.2.2 := by
    have : (G.ext N nums s).map (·.2) = (G.rdy N nums s).map fun k => G.nxt s k := by
      unfold G.ext
      rw [List.map_map]
      rfl
    rw [← this, ← h, List.map_map]
    rfl
  rw [e1, List.filter_map, List.map_map]
  rfl
/-- what stands while the good doors are gathered -/
structure GdI (P : Program) (w : World) (N : List (Option Int)) (nums : List (List Int)) (H : Hp) (d D : Addr) (l : List V) (H' : Hp) : Prop where
  but : But d H H'
  tups : Tups H H'
  kn : ∃ kvs, DD P w H' d kvs ∧ KnOk N nums kvs
  at_ : H' D = some (.lst l)
def PlSt (P : Program) (w : World) (N : List (Option Int)) (nums : List (List Int)) (f : Bool) (H0 : Hp) (a b kd md : Addr) (m : Nat) (σ : L2.St) (H' : Hp) : Prop :=
  ∃ (v6 v7 v8 v9 v10 v11 v12 : Option V) (M : G.Mv) (rows : List G.Row) (rw1 : Addr), σ = [some (.ref a), some (.ref b), some (.bl f), some (.ref kd), some (.ref md), some (.ref rw1), v6, v7, v8, v9, v10, v11, v12] ∧ PlW P w N nums f H0 kd md rw1 M rows H' ∧ G.mu N.length rows = m
theorem ok_keeper_plan (T : Txt K mg) (D1 : Def P w K mg base 4 "need_play" ["nest", "numbers", "is_first"] spNeedPlay) (D2 : Def P w K mg base 12 "value_in" ["nest", "numbers", "state", "is_first", "known"] (spValue P w 7)) (D3 : Def P w K mg base 5 "further" ["nest", "numbers", "state"] spFurther) :
    Def P w K mg base 13 "keeper_plan" ["nest", "numbers", "is_first"] spPlan := by
  obtain ⟨fd, F⟩ := T.f_keeper_plan
  refine mkDef F T.m_keeper_plan (fun _ _ _ _ _ _ us hl => match us, hl with | [_, _, _], _ => rfl) (fok F sc_keeper_plan (fun vs H Q E h => ?_) (fun cdv A outer s H vs Q E hr h => ?_))
  · obtain ⟨a, b, N, nums, f, rfl, _⟩ := h
    rfl
  obtain ⟨a, b, N, nums, f, rfl, hN, ok, hnums, okn, q1, q2⟩ := h
  have few := ok.few
  have some_ := ok.some_
  have hu := hu64 hr
  have gm := G.rdy_gm N nums
  have hlN : ((N.map oV).length : Int) = N.length := by rw [List.length_map]
  refine ⟨_, (pss_cons (ps_expr (pe_c D1 (hr.mono (by decide)) (by rfl) (pa_cons (pv 0) (pa_cons (pv 1) (pa_cons (pv 2) pa_nil))))) <|
    pss_cons (ps_set (i := 3) sc_keeper_plan.nd rfl (Or.inr rfl) (pe_nnew (P := P) (w := w))) <|
    pss_cons (ps_if (pt_cmpR op_ne (pe_c D2 hr (by rfl) (pa_cons (pv 0) (pa_cons (pv 1) (pa_cons (pe_tup pa_nil) (pa_cons (pv 2) (pa_cons (pv 3) pa_nil)))))) (pe_callB (len_K (K := K)) (by rfl) T.z_len boot_len (pa_cons (pv 0) pa_nil)) (nomark _)) (pss_one (ps_ret pe_non)) pss_nil) <|
    pss_cons (ps_asg (pe_tup (pa_cons (pe_nnew (P := P) (w := w)) (pa_cons (pe_lst (pa_cons (pe_tup (pa_cons (pe_tup pa_nil) (pa_cons (pv 2) pa_nil))) pa_nil)) pa_nil)))
        (pg_tup rfl (pgs_cons (pg_name (i := 4) sc_keeper_plan.nd rfl (Or.inr rfl)) (pgs_cons (pg_name (i := 5) sc_keeper_plan.nd rfl (Or.inl rfl)) pgs_nil)))) <|
    pss_cons (ps_while PassesOwn.never (pt_cmpR (op_neNil (K := K) (hu0 hr)) (pv 5) (pe_lst pa_nil) (by rfl)) (
      pss_cons (ps_asg (pe_bm0 PySem.F.plainAttrs_list PySem.F.slot_list_pop PySem.F.type_list_pop mt_pop (pv 5)) (pg_tup rfl (pgs_cons (pg_name (i := 6) sc_keeper_plan.nd rfl (Or.inl rfl)) (pgs_cons (pg_name (i := 7) sc_keeper_plan.nd rfl (Or.inl rfl)) pgs_nil)))) <|
      pss_cons (ps_set (i := 8) sc_keeper_plan.nd rfl (Or.inl rfl) (pe_c D3 (hr.mono (by decide)) (by rfl) (pa_cons (pv 0) (pa_cons (pv 1) (pa_cons (pv 6) pa_nil))))) <|
      pss_cons (ps_if (PW.pt (pw_and (pt_val (pv 7)) (pw_and (pt_cmpR (op_neNil (K := K) (hu0 hr)) (pv 8) (pe_lst pa_nil) (by rfl)) (pw_and1 (pt_cmpR (or_nnotin (P := P) (w := w) hu) (pv 6) (pv 4) (by rfl)))))) (
        pss_cons (ps_setLc (i := 9) (own := [("one", 10)]) (by rfl) sc_keeper_plan.nd rfl rfl (sw_true rfl rfl rfl (by decide +kernel)) (pi_list (pv 8))
            (blkOk_by (N := ["nest", "numbers", "is_first", "known", "moves", "rows", "state", "is_mine", "some", "good", "one", "k", "there"]) (sc := defScope s_keeper_plan) (by decide +kernel))
            (fun _ _ _ _ _ => pg_name (i := 10) sc_keeper_plan.nd rfl (Or.inl rfl))
            (fun _ _ _ _ _ => pts_one (pt_cmpR op_eq (pe_c D2 hr (by rfl) (pa_cons (pv 0) (pa_cons (pv 1) (pa_cons (pe_ix (ixT_K (K := K)) (pv 10) pe_int (fun _ _ => rfl)) (pa_cons pe_bl (pa_cons (pv 3) pa_nil)))))) (pe_callB (len_K (K := K)) (by rfl) T.z_len boot_len (pa_cons (pv 0) pa_nil)) (nomark _)))
            (fun _ _ _ _ _ => pv 10)) <|
        pss_cons (ps_nput (P := P) (w := w) hu (pv 4) (pv 6) (pe_ix (ixT_K (K := K)) (pe_ix (ixL_K (K := K)) (pv 9) pe_int (fun _ _ => rfl)) pe_int (fun _ _ => rfl)) (by rfl)) <|
        pss_one (ps_expr (pe_bm PySem.F.plainAttrs_list PySem.F.slot_list_append PySem.F.type_list_append mt_append (pv 5) (pa_cons (pe_tup (pa_cons (pe_ix (ixT_K (K := K)) (pe_ix (ixL_K (K := K)) (pv 9) pe_int (fun _ _ => rfl)) pe_int (fun _ _ => rfl)) (pa_cons pe_bl pa_nil))) pa_nil))))
        pss_nil) <|
      pss_one (ps_if (pt_not (pt_val (pv 7)))
        (pss_one (ps_set (i := 5) sc_keeper_plan.nd rfl (Or.inl rfl) (pe_op op_cat (pv 5) (pe_lc (own := [("k", 11), ("there", 12)]) (by rfl) sc_keeper_plan.nd (pi_list (pv 8))
            (blkOk_by (N := ["nest", "numbers", "is_first", "known", "moves", "rows", "state", "is_mine", "some", "good", "one", "k", "there"]) (sc := defScope s_keeper_plan) (by decide +kernel))
            (fun _ _ _ _ _ => pg_tupK (K := K) (n := 2) (by rfl) (pgs_cons (pg_name (i := 11) sc_keeper_plan.nd rfl (Or.inl rfl)) (pgs_cons (pg_name (i := 12) sc_keeper_plan.nd rfl (Or.inl rfl)) pgs_nil)))
            (fun _ _ _ _ _ => pts_one (pt_cmpR (or_nnotin (P := P) (w := w) hu) (pv 12) (pv 4) (by rfl)))
            (fun _ _ _ _ _ => pe_tup (pa_cons (pv 12) (pa_cons pe_bl pa_nil)))))))
        pss_nil))) <|
    pss_one (ps_ret (pe_callTy (call_tupX (K := K)) (by rfl) T.z_tuple (by decide +kernel) (pa_cons (pe_lc (own := [("state", 6)]) (g := gName 6) (by rfl) sc_keeper_plan.nd
        (pi_list (pe_callB (cr_sortKeys (P := P) (w := w) (by rfl) (hu3 hr)) (by rfl) T.z_sorted (by decide +kernel) (pa_cons (pe_nkeys (P := P) (w := w) (pv 4)) pa_nil)))
        (blkOk_by (N := ["nest", "numbers", "is_first", "known", "moves", "rows", "state", "is_mine", "some", "good", "one", "k", "there"]) (sc := defScope s_keeper_plan) (by decide +kernel))
        (fun _ _ _ _ _ => pg_name (i := 6) sc_keeper_plan.nd rfl (Or.inl rfl)) (fun _ _ _ _ _ => pts_nil)
        (fun _ _ _ _ _ => pe_tup (pa_cons (pv 6) (pa_cons (pe_nget (P := P) (w := w) hu (pv 4) (pv 6) (fun _ _ => rfl)) pa_nil)))) pa_nil)))), ?_⟩
  refine ⟨_, rfl, _, rfl, _, rfl, a, b, N, nums, f, rfl, hN, ok, hnums, okn, fun H1 s1 => ?_⟩
  have hN1 := hN.tups (Same.tups s1)
  have hnums1 := hnums.tups (Same.tups s1)
  intro kd hkd
  have s2 := same_upd (o := DNO P w kd []) hkd
  have d2 : DD P w (upd H1 kd (DNO P w kd [])) kd [] := DD.new
  generalize upd H1 kd (DNO P w kd []) = H2 at s2 d2
  refine ⟨_, rfl, _, rfl, line_le (by decide), fun c hc => ?_⟩
  have s3 := same_upd (o := .tup []) hc
  refine ⟨_, rfl, _, rfl, ?_⟩
  have t3 : Tups H1 (upd H2 c (.tup [])) := Same.tups (Same.trans s2 s3)
  refine ⟨a, b, c, kd, N, nums, [], f, [], rfl, hN1.tups t3, ok, hnums1.tups t3, okn.len, upd_same, G.Ok.nil _, d2.same s3, KnOk.nil, by show N.length - 0 < 7; omega, fun H4 kvs4 b4 t4 d4 n4 => ?_⟩
  have s4 : Same H1 H4 := same_but (Same.trans s2 s3) hkd b4
  refine ⟨_, rfl, a, _, rfl, .inr (SqT.of (s4 _ _ hN1)), rfl, ?_⟩
  rw [dec_int, hlN]
  refine ⟨_, rfl, ?_⟩
  refine ite2 (fun hne => ?_) (fun heq => ?_)
  · exact q1 H4 (Same.trans s1 s4) (by simpa using hne)
  have hgv : gvN N nums [] f = N.length := by simpa using heq
  -- moves, rows = {}, [((), is_first)]
  intro md hmd
  have s5 := same_upd (o := DNO P w md []) hmd
  have d5 : DD P w (upd H4 md (DNO P w md [])) md [] := DD.new
  generalize upd H4 md (DNO P w md []) = H5 at s5 d5
  refine ⟨line_le (by decide), fun e1 he1 => ?_⟩
  have s6 := same_upd (o := .tup []) he1
  have g6 : StAt (upd H5 e1 (.tup [])) e1 [] := upd_same
  generalize upd H5 e1 (.tup []) = H6 at s6 g6
  refine ⟨_, rfl, line2, fun e2 he2 => ?_⟩
  have s7 := same_upd (o := .tup [V.ref e1, V.bl f]) he2
  have g7 : upd H6 e2 (.tup [V.ref e1, V.bl f]) e2 = some (.tup [.ref e1, .bl f]) := upd_same
  generalize upd H6 e2 (.tup [V.ref e1, V.bl f]) = H7 at s7 g7
  refine ⟨line1, fun rw0 hrw0 => ?_⟩
  have s8 := same_upd (o := .lst [V.ref e2]) hrw0
  have g8 : RowsL (upd H7 rw0 (.lst [V.ref e2])) rw0 [([], f)] := RowsL.one hrw0 g7 (g6.tups (Same.tups s7))
  generalize upd H7 rw0 (.lst [V.ref e2]) = H8 at s8 g8
  refine ⟨line2, fun e3 he3 => ?_⟩
  have s9 := same_upd (o := .tup [V.ref md, V.ref rw0]) he3
  refine ⟨e3, _, rfl, SqT.of upd_same, rfl, _, _, rfl, _, _, rfl, rfl, ?_⟩
  generalize upd H8 e3 (.tup [V.ref md, V.ref rw0]) = H9 at s9
  have s59 : Same H5 H9 := Same.trans s6 (Same.trans s7 (Same.trans s8 s9))
  have s19 : Same H1 H9 := Same.trans s4 (Same.trans s5 s59)
  have hmd1 : H1 md = none := Same.free s4 hmd
  have hmk : md ≠ kd := fun e => by
    obtain ⟨ls, e1, _⟩ := d4
    rw [e, e1] at hmd
    cases hmd
  have hrw1 : H1 rw0 = none := Same.free s4 (Same.free s5 (Same.free s6 (Same.free s7 hrw0)))
  have W0 : PlW P w N nums f H1 kd md rw0 [] [([], f)] H9 := ⟨s19, ⟨kvs4, d4.same (Same.trans s5 s59), n4⟩, d5.same s59, g8.same s9, hrw1, .start hgv, G.mu_start few f⟩
  refine ⟨PlSt P w N nums f H1 a b kd md, ⟨_, _, _, _, _, _, _, _, _, _, _, rfl, W0, rfl⟩, ?_⟩
  rintro m σ H' ⟨v6, v7, v8, v9, v10, v11, v12, M, rows, rw1, rfl, W, hm⟩
  clear W0
  obtain ⟨vs0, hvs, hem, hvl⟩ := W.rws.lst
  refine ⟨_, rfl, line_le (by decide), fun e0 he0 => ?_⟩
  have sA := same_upd (o := .lst []) he0
  refine ⟨rw1, e0, _, rfl, rfl, SqL.of (sA _ _ hvs), SqL.of upd_same, _, rfl, ?_⟩
  rw [hem]
  generalize upd H' e0 (.lst []) = HA at sA
  refine ite2 (fun hne => ?_) (fun hnil => ?_)
  rotate_left
  · -- the end
    have hrn : rows = [] := by
      cases rows with
      | nil => rfl
      | cons x r => exact absurd rfl hnil
    subst hrn
    have ki := W.ki
    have hl64 : (M.map (·.1)).length ≤ 64 := G.states_few few ki.nd fun s hs => by
      obtain ⟨p, hp, rfl⟩ := List.mem_map.mp hs
      exact (ki.mem p.1 p.2 hp).1
    have hA1 := Same.trans W.same sA
    refine ⟨_, rfl, md, mvKvs M, rfl, W.mv.same sA, fun vw hvw => ?_⟩
    have sB := same_upd (o := keysO vw md) hvw
    refine ⟨vw, md, mvKvs M, M.map (·.1), rfl, upd_same, (W.mv.same sA).same sB, mvKvs_keys M, by omega, fun l' q hperm hsort hin hq => ⟨q, rfl, ⟨_, SqL.of upd_same⟩, fun D hD => ?_⟩⟩
    have sC := same_upd (o := .lst (l'.map fun p => V.ref p.1)) hq
    have gC : upd (upd HA vw (keysO vw md)) q (.lst (l'.map fun p => V.ref p.1)) q = some (.lst (l'.map fun p => V.ref p.1)) := upd_same
    have sAC := Same.trans sB sC
    generalize upd (upd HA vw (keysO vw md)) q (.lst (l'.map fun p => V.ref p.1)) = HC at sC gC sAC hD
    have dC : DD P w HC md (mvKvs M) := (W.mv.same sA).same sAC
    have hl' : l'.length ≤ 64 := by
      have := hperm.length_eq
      rw [List.length_map] at this
      omega
    have hinC : ∀ p ∈ l', HC p.1 = some (.tup (p.2.map V.int)) := fun p hp => sC _ _ (hin p hp)
    refine lc_list (K := K) (a := q) (xs := l'.map fun p => V.ref p.1) (fun i H' => Same HC H' ∧ ∃ ps : List PE', H' D = some (.lst (ps.map fun p => V.ref p.1)) ∧ PairsIn H' ps ∧ ps.map (·.2.2) = (l'.take i).map fun x => (x.2, (G.mvOf M x.2).getD 0))
      ⟨same_upd hD, [], upd_same, (fun _ h => nomatch h), rfl⟩ (fun i H' _ h => SqL.of (h.1 _ _ gC)) ?_ ?_
    · rintro i y H' hi ⟨s, ps, h1, h2, h3⟩
      obtain ⟨x, hx, rfl⟩ := map_get hi
      have xm := List.mem_of_getElem? hx
      obtain ⟨dx, hdx⟩ := G.mvOf_some (hperm.mem_iff.mp (List.mem_map.mpr ⟨x, xm, rfl⟩))
      have hst := s _ _ (hinC x xm)
      have hlen : ps.length ≤ 64 := by
        have := congrArg List.length h3
        rw [List.length_map, List.length_map, List.length_take] at this
        omega
      refine ⟨rfl, _, rfl, _, rfl, _, rfl, md, x.1, mvKvs M, kSt x.2, .int dx, rfl, rfl, dC.same s, .st hst, by rw [mvKvs_val, hdx]; rfl, line2, fun p hp => ?_⟩
      have sp := same_upd (o := .tup [V.ref x.1, V.int dx]) hp
      have hpD := sp _ _ h1
      have tt : Tups (upd H' p (.tup [V.ref x.1, V.int dx])) (upd (upd H' p (.tup [V.ref x.1, V.int dx])) D (.lst ((ps.map fun p => V.ref p.1) ++ [.ref p]))) := tups_upd (nt_lst hpD)
      refine ⟨_, hpD, line_lt (by rw [List.length_map]; omega), same_updL (Same.trans s sp) hD, ps ++ [(p, x.1, (x.2, dx))], ?_, fun z hz => ?_, ?_⟩
      · rw [upd_same, List.map_append]
        rfl
      · rcases List.mem_append.mp hz with hz | hz
        · exact (h2.tups (Tups.trans (Same.tups sp) tt)) z hz
        · rw [List.mem_singleton] at hz
          subst hz
          exact ⟨tt _ _ upd_same, tt _ _ (sp _ _ hst)⟩
      · rw [List.map_append, h3, take_snoc hx, List.map_append, List.map_cons, List.map_cons, hdx]
        rfl
    · rintro H' ⟨s, ps, h1, h2, h3⟩
      rw [List.length_map, List.take_length] at h3
      refine ⟨D, _, rfl, SqL.of h1, fun r o hr ho => ?_⟩
      have sr := same_upd (o := .frz o (.tup (ps.map fun p => V.ref p.1))) hr
      refine q2 r o ps _ (Same.trans s1 (Same.trans hA1 (Same.trans sAC (Same.trans s sr)))) hgv ho upd_same (h2.tups (Same.tups sr)) ?_
      have e : ps.map (·.2.2) = (l'.map (·.2)).map fun s => (s, (G.mvOf M s).getD 0) := by rw [h3, List.map_map]; rfl
      rw [e]
      exact ki.plan gm hperm hsort
  · -- a turn
    obtain ⟨rows0, ⟨st, mi⟩, rfl⟩ : ∃ rows0 x, rows = rows0 ++ [x] := by
      have hl : rows ≠ [] := fun e => by rw [e] at hne; cases hne
      exact ⟨rows.dropLast, rows.getLast hl, (List.dropLast_concat_getLast hl).symm⟩
    refine ⟨fun σ' H' => ∃ m', m' < m ∧ PlSt P w N nums f H1 a b kd md m' σ' H', fun _ _ h => h, ?_⟩
    have ki := W.ki
    have oks := (ki.rok st mi (List.mem_append.mpr (.inr (List.mem_singleton.mpr rfl)))).1
    have hgs := (ki.rok st mi (List.mem_append.mpr (.inr (List.mem_singleton.mpr rfl)))).2
    have hA1 := Same.trans W.same sA
    obtain ⟨vs, p, q, hvs1, hget, hp, hq, hrows⟩ := (W.rws.same sA).pop
    refine ⟨_, rfl, .inl ⟨rfl, _, SqL.of hvs1⟩, rw1, vs, .ref p, rfl, rfl, hvs1, hget, ?_⟩
    have tB : Tups HA (upd HA rw1 (.lst vs.dropLast)) := tups_upd (nt_lst hvs1)
    have sB : Same H1 (upd HA rw1 (.lst vs.dropLast)) := same_updL hA1 W.fr
    obtain ⟨kvs, dk, nk⟩ := W.kn
    have dkB : DD P w (upd HA rw1 (.lst vs.dropLast)) kd kvs := (dk.same sA).updL hvs1
    have dmB : DD P w (upd HA rw1 (.lst vs.dropLast)) md (mvKvs M) := (W.mv.same sA).updL hvs1
    generalize upd HA rw1 (.lst vs.dropLast) = HB at tB sB dkB dmB hrows
    refine ⟨p, _, rfl, SqT.of (tB _ _ hp), rfl, _, _, rfl, _, _, rfl, rfl, ?_⟩
    have hqB := hq.tups tB
    refine ⟨_, rfl, _, rfl, _, rfl, a, b, q, N, nums, st, rfl, hN1.tups (Same.tups sB), ok, hnums1.tups (Same.tups sB), okn.len, hqB, oks, fun r HC sC hr0 hF => ?_⟩
    obtain ⟨lf, f1, f2, f3⟩ := id hF
    have sC1 := Same.trans sB sC
    have dkC := dkB.same sC
    have dmC := dmB.same sC
    have hqC := hqB.tups (Same.tups sC)
    have rowsC := hrows.same sC
    have muB : G.mu N.length (rows0 ++ [(st, mi)]) = G.mu N.length rows0 + G.wt N.length (st, mi) := by rw [G.mu_append, G.mu_one]
    have lfl : lf.length ≤ 6 := by
      have h1 := G.ext_len (N := N) (nums := nums) (s := st)
      rw [← f2, List.length_map] at h1
      omega
    cases mi with
    | true =>
      refine ⟨_, rfl, true, rfl, iteT ?_⟩
      refine ⟨_, rfl, line_le (by decide), fun e0 he0 => ?_⟩
      have sD := same_upd (o := .lst []) he0
      refine ⟨r, e0, _, rfl, rfl, SqL.of (sD _ _ f1), SqL.of upd_same, _, rfl, ?_⟩
      generalize upd HC e0 (.lst []) = HD at sD
      have skip : (st ∈ M.map (·.1) ∨ G.rdy N nums st = []) → ∀ v9 v10 v11 v12, PlSt P w N nums f H1 a b kd md (G.mu N.length rows0) [some (.ref a), some (.ref b), some (.bl f), some (.ref kd), some (.ref md), some (.ref rw1), some (.ref q), some (.bl true), some (.ref r), v9, v10, v11, v12] HD := fun h v9 v10 v11 v12 =>
        ⟨_, _, _, _, _, _, _, _, _, _, rfl, ⟨Same.trans sC1 sD, ⟨kvs, dkC.same sD, nk⟩, dmC.same sD, rowsC.same sD, W.fr, ki.skip h, by have := W.few; omega⟩, rfl⟩
      have mlt : G.mu N.length rows0 < m := by have := G.wt_pos N.length (st, true); omega
      refine ite2 (fun hnn => ?_) (fun hnn => ?_)
      rotate_left
      · refine ⟨_, rfl, true, rfl, iteF ?_⟩
        refine ⟨_, mlt, skip (.inr ?_) _ _ _ _⟩
        rw [← G.ext_nil, ← f2]
        cases lf with
        | nil => rfl
        | cons x l => exact absurd rfl hnn
      have hrd : G.rdy N nums st ≠ [] := fun e => by
        rw [← G.ext_nil, ← f2, List.map_eq_nil_iff] at e
        rw [e] at hnn
        cases hnn
      refine ⟨_, rfl, _, rfl, md, q, mvKvs M, kSt st, rfl, rfl, dmC.same sD, .st (hqC.tups (Same.tups sD)), _, rfl, ?_⟩
      rw [mvKvs_some]
      refine ite2 (fun hnm => ?_) (fun hnm => ?_)
      rotate_left
      · refine ⟨_, rfl, true, rfl, iteF ?_⟩
        exact ⟨_, mlt, skip (.inl (by simpa using hnm)) _ _ _ _⟩
      have hnm' : st ∉ M.map (·.1) := by simpa using hnm
      -- good = [..]
      refine ⟨_, rfl, r, rfl, ⟨_, SqL.of (sD _ _ f1)⟩, fun D hD => ?_⟩
      have sE := same_upd (o := .lst []) hD
      have sD1 := Same.trans sC1 sD
      have dkD := dkC.same sD
      have hrD := sD _ _ f1
      have hdD : D ≠ kd := fun e => by
        obtain ⟨ls, e1, _⟩ := dkD
        rw [e, e1] at hD
        cases hD
      have hrk : r ≠ kd := dkD.ne hrD (fun _ z => nomatch z)
      have hDr : r ≠ D := free_ne hrD hD
      let pr : (Addr × Addr × (Int × List Int)) → Bool := fun x => decide (gvN N nums x.2.2.2 false = N.length)
      refine lc_list (K := K) (a := r) (xs := lf.map fun p => V.ref p.1) (fun i H' => GdI P w N nums HD kd D (((lf.take i).filter pr).map fun x => V.ref x.1) H') ⟨Same.but sE, Same.tups sE, ⟨kvs, dkD.same sE, nk⟩, upd_same⟩ (fun i H' _ h => SqL.of (h.but _ _ hrk hrD)) ?_ ?_
      · rintro i y H' hi h
        obtain ⟨x, hx, rfl⟩ := map_get hi
        obtain ⟨g1, g2⟩ := f3 x (List.mem_of_getElem? hx)
        have xm : x.2.2 ∈ G.ext N nums st := by rw [← f2]; exact List.mem_map.mpr ⟨x, List.mem_of_getElem? hx, rfl⟩
        obtain ⟨xr, xn⟩ := G.ext_mem.mp xm
        obtain ⟨kvs3, hd3, hkn3⟩ := h.kn
        have tH : Tups H1 H' := Tups.trans (Same.tups sD1) h.tups
        have tH2 : Tups HC H' := Tups.trans (Same.tups sD) h.tups
        refine ⟨rfl, _, rfl, _, rfl, _, rfl, x.1, _, 1, .ref x.2.1, rfl, rfl, SqT.of (tH2 _ _ g1), rfl, _, rfl, a, b, x.2.1, kd, N, nums, x.2.2.2, false, kvs3, rfl, hN1.tups tH, ok, hnums1.tups tH, okn.len, g2.tups tH2, ?_, hd3, hkn3, by omega, fun H4 kvs4 b4 t4 d4 n4 => ?_⟩
        · rw [xn]
          exact gm.next oks xr
        have hD4 : H4 D = _ := b4 _ _ hdD h.at_
        have h4 : But kd HD H4 := But.trans h.but b4
        have t4' : Tups HD H4 := Tups.trans h.tups t4
        refine ⟨_, rfl, a, _, rfl, .inr (SqT.of (hN1.tups (Tups.trans tH t4))), rfl, ?_⟩
        rw [dec_int, hlN, filter_snoc _ hx]
        refine ⟨_, rfl, ite2 (fun c => ?_) (fun c => ?_)⟩
        · rw [if_pos (show pr x = true from c), List.map_append]
          have tE : Tups H4 (upd H4 D (.lst (((lf.take i).filter pr).map (fun x => V.ref x.1) ++ [.ref x.1]))) := tups_upd (nt_lst hD4)
          refine ⟨_, rfl, _, hD4, line_lt ?_, fun bb o hb e => ?_, Tups.trans t4' tE, ⟨kvs4, d4.updL hD4, n4⟩, upd_same⟩
          · have := List.length_filter_le pr (lf.take i)
            rw [List.length_take] at this
            rw [List.length_map]
            omega
          · rw [upd_ne (free_ne e hD)]
            exact h4 _ _ hb e
        · rw [if_neg (show ¬ pr x = true from c), List.append_nil]
          exact ⟨h4, t4', ⟨kvs4, d4, n4⟩, hD4⟩
      · rintro HG h
        rw [List.length_map, List.take_length] at h
        obtain ⟨k0, hk0, hg0⟩ := gm.good oks hrd hgs
        obtain ⟨g, rest, hgr⟩ : ∃ g rest, lf.filter pr = g :: rest := by
          have h1 : (k0, G.nxt st k0) ∈ G.ext N nums st := G.ext_mem.mpr ⟨hk0, rfl⟩
          rw [← f2] at h1
          obtain ⟨x, hx, ex⟩ := List.mem_map.mp h1
          have h2 : x ∈ lf.filter pr := List.mem_filter.mpr ⟨hx, decide_eq_true (by rw [ex]; exact hg0)⟩
          cases hh : lf.filter pr with
          | nil => rw [hh] at h2; exact nomatch h2
          | cons g rest => exact ⟨g, rest, rfl⟩
        have hgm : g ∈ lf.filter pr := by rw [hgr]; exact List.mem_cons_self ..
        obtain ⟨hgl, hgp⟩ := List.mem_filter.mp hgm
        have hgp' : gvN N nums g.2.2.2 false = N.length := of_decide_eq_true hgp
        obtain ⟨g1, g2⟩ := f3 g hgl
        have gxm : g.2.2 ∈ G.ext N nums st := by rw [← f2]; exact List.mem_map.mpr ⟨g, hgl, rfl⟩
        obtain ⟨xr, xn⟩ := G.ext_mem.mp gxm
        have hat := h.at_
        rw [hgr, List.map_cons] at hat
        have tG : Tups HC HG := Tups.trans (Same.tups sD) h.tups
        have dmG : DD P w HG md (mvKvs M) := (dmC.same sD).keep (fun o e => h.but _ _ hmk e) h.tups
        obtain ⟨vr, hvr, _, _⟩ := (rowsC.same sD).lst
        have rwk : rw1 ≠ kd := dkD.ne hvr (fun _ z => nomatch z)
        have rowsG : RowsL HG rw1 rows0 := (rowsC.same sD).keep (fun o e => h.but _ _ rwk e) h.tups
        obtain ⟨vg, hvg, _, hvgl⟩ := rowsG.lst
        have sG1 : Same H1 HG := same_but sD1 hkd h.but
        have hl64 : (M.map (·.1)).length ≤ 64 := G.states_few few ki.nd fun s hs => by
          obtain ⟨p, hp, rfl⟩ := List.mem_map.mp hs
          exact (ki.mem p.1 p.2 hp).1
        rw [List.length_map] at hl64
        have hl300 := G.mu_len N.length rows0
        have w3 := W.few
        refine ⟨_, rfl, D, _, 0, .ref g.1, rfl, rfl, SqL.of hat, at_of (j := 0) rfl rfl, g.1, _, 0, .int g.2.2.1, rfl, rfl, SqT.of (tG _ _ g1), rfl, _, rfl, _, rfl, md, q, mvKvs M, kSt st, rfl, rfl, dmG, .st (hqC.tups tG), line_lt (by unfold mvKvs; rw [List.length_map]; omega), fun H6 b6 t6 d6 => ?_⟩
        rw [mvKvs_put hnm'] at d6
        have hatn : D ≠ md := dmG.ne hat (fun _ z => nomatch z)
        have rwn : rw1 ≠ md := dmG.ne hvg (fun _ z => nomatch z)
        have at6 := b6 _ _ hatn hat
        have rows6 : RowsL H6 rw1 rows0 := rowsG.keep (fun o e => b6 _ _ rwn e) t6
        have hv6 := b6 _ _ rwn hvg
        have s61 : Same H1 H6 := same_but sG1 hmd1 b6
        obtain ⟨kvs5, dk5, nk5⟩ := h.kn
        have dk6 : DD P w H6 kd kvs5 := dk5.keep (fun o e => b6 _ _ (Ne.symm hmk) e) t6
        have tup6 := t6 _ _ (tG _ _ g1)
        refine ⟨_, rfl, .inl ⟨rfl, _, SqL.of hv6⟩, _, rfl, D, _, 0, .ref g.1, rfl, rfl, SqL.of at6, at_of (j := 0) rfl rfl, g.1, _, 1, .ref g.2.1, rfl, rfl, SqT.of tup6, rfl, line2, fun p hp => ?_⟩
        have sp := same_upd (o := .tup [V.ref g.2.1, V.bl false]) hp
        have gp : upd H6 p (.tup [V.ref g.2.1, V.bl false]) p = some (.tup [.ref g.2.1, .bl false]) := upd_same
        generalize upd H6 p (.tup [V.ref g.2.1, V.bl false]) = H7 at sp gp
        have hv7 := sp _ _ hv6
        refine ⟨rw1, _, .ref p, rfl, rfl, hv7, line_lt (by omega), ?_⟩
        have rows8 := RowsL.push (x := (g.2.2.2, false)) (rows6.same sp) hv7 gp (g2.tups (Tups.trans tG (Tups.trans t6 (Same.tups sp))))
        have t8 : Tups H7 (upd H7 rw1 (.lst (vg ++ [.ref p]))) := tups_upd (nt_lst hv7)
        refine ⟨_, rfl, true, rfl, iteF ?_⟩
        have hnew : G.mu N.length [(g.2.2.2, false)] < G.wt N.length (st, true) := G.mu_new gm oks some_ fun y hy => by
          rw [List.mem_singleton] at hy
          subst hy
          exact ⟨g.2.2.1, xr, xn⟩
        rw [xn] at hnew rows8 hgp'
        have e3 : G.mu N.length (rows0 ++ [(G.nxt st g.2.2.1, false)]) = G.mu N.length rows0 + G.mu N.length [(G.nxt st g.2.2.1, false)] := G.mu_append _ _ _
        exact ⟨_, (by omega), _, _, _, _, _, _, _, _, _, _, rfl, ⟨same_updL (Same.trans s61 sp) W.fr, ⟨kvs5, (dk6.same sp).updL hv7, nk5⟩, (d6.same sp).updL hv7, rows8, W.fr, ki.choose gm hnm' xr hgp', by omega⟩, rfl⟩
    | false =>
      refine ⟨_, rfl, false, rfl, iteF ?_⟩
      refine ⟨_, rfl, false, rfl, iteT ?_⟩
      refine ⟨_, rfl, _, rfl, r, rfl, ⟨_, SqL.of f1⟩, fun D hD => ?_⟩
      let pr : List Int → Bool := fun t => !decide (t ∈ M.map (·.1))
      refine lc_list (K := K) (a := r) (xs := lf.map fun p => V.ref p.1) (fun i H' => RwI HC D (((lf.take i).filter fun x => pr x.2.2.2).map fun x => (x.2.2.2, true)) H') (RwI.start hD) (fun i H' _ h => SqL.of (h.same _ _ f1)) ?_ ?_
      · rintro i y H' hi h
        obtain ⟨x, hx, rfl⟩ := map_get hi
        obtain ⟨g1, g2⟩ := f3 x (List.mem_of_getElem? hx)
        refine ⟨x.1, _, rfl, SqT.of (h.same _ _ g1), rfl, ⟨_, _, rfl, _, _, rfl, rfl, rfl, ?_⟩⟩
        have g2' := g2.tups (Same.tups h.same)
        refine ⟨_, rfl, _, rfl, md, x.2.1, mvKvs M, kSt x.2.2.2, rfl, rfl, dmC.same h.same, .st g2', _, rfl, ?_⟩
        rw [mvKvs_some, filter_snoc _ hx]
        refine ite2 (fun c => ?_) (fun c => ?_)
        · rw [if_pos c, List.map_append]
          refine ⟨_, rfl, line2, fun p hp => ?_⟩
          have sp := same_upd (o := .tup [V.ref x.2.1, V.bl true]) hp
          refine RwI.add (x := (x.2.2.2, true)) hD h sp upd_same (g2'.tups (Same.tups sp)) (line_lt ?_)
          have := List.length_filter_le (fun x : Addr × Addr × (Int × List Int) => pr x.2.2.2) (lf.take i)
          rw [List.length_take] at this
          rw [List.length_map]
          omega
        · rw [if_neg c, List.append_nil]
          exact h
      · rintro HG h
        rw [List.length_map, List.take_length] at h
        have hnew := h.at_
        rw [ext_of_lf f2 pr] at hnew
        have sG1 := Same.trans sC1 h.same
        obtain ⟨vx, ex, _, lx⟩ := (rowsC.same h.same).lst
        obtain ⟨vz, ez, _, lz⟩ := hnew.lst
        have hl300 := G.mu_len N.length rows0
        have w3 := W.few
        have nlen : ((((G.rdy N nums st).map fun k => G.nxt st k).filter pr).map fun t => (t, true)).length ≤ N.length := by
          have h1 := List.length_filter_le pr ((G.rdy N nums st).map fun k => G.nxt st k)
          have h2 := gm.few st
          rw [List.length_map] at h1 ⊢
          omega
        refine ⟨rw1, D, vx, vz, rfl, rfl, ex, ez, line_le (by omega), fun p hp => ?_⟩
        obtain ⟨xs, zs, hx, hz, _, _, hcat⟩ := RowsL.cat (rowsC.same h.same) hnew hp
        rw [ex] at hx
        cases hx
        rw [ez] at hz
        cases hz
        have sp := same_upd (o := .lst (vx ++ vz)) hp
        have hmu : G.mu N.length ((((G.rdy N nums st).map fun k => G.nxt st k).filter pr).map fun t => (t, true)) < G.wt N.length (st, false) := G.mu_new gm oks nlen fun y hy => by
          obtain ⟨t, ht, rfl⟩ := List.mem_map.mp hy
          obtain ⟨k, hk, e⟩ := List.mem_map.mp (List.mem_filter.mp ht).1
          exact ⟨k, hk, e.symm⟩
        have e3 := G.mu_append N.length rows0 ((((G.rdy N nums st).map fun k => G.nxt st k).filter pr).map fun t => (t, true))
        exact ⟨_, (by omega), _, _, _, _, _, _, _, _, _, _, rfl, ⟨Same.trans sG1 sp, ⟨kvs, (dkC.same h.same).same sp, nk⟩, (dmC.same h.same).same sp, hcat, Same.free sG1 hp, ki.spread gm pr (fun t ht => by simpa [pr] using ht), by omega⟩, rfl⟩
end
end Kd

namespace Kd
open PySem PySem.Spec PyProof.Rows L2
theorem lex_shift (e r : Nat → Bool) (z : Bool) : ∀ k i, Ob.lexAt e r z (i + 1) k = Ob.lexAt (fun j => e (j + 1)) (fun j => r (j + 1)) z i k
  | 0, _ => rfl
  | k + 1, i => by rw [Ob.lexAt_succ, Ob.lexAt_succ, lex_shift e r z k (i + 1)]
theorem lex_gt : ∀ {ns ms : List Int}, ms < ns → Ob.lexAt (fun j => decide (ns.getD j 0 = ms.getD j 0)) (fun j => decide (ns.getD j 0 ≤ ms.getD j 0)) (decide (ns.length ≤ ms.length)) 0 (min ns.length ms.length) = false
  | [], ms, h => absurd h (by cases ms <;> simp)
  | n :: ns, [], _ => by simp [Ob.lexAt]
  | n :: ns, m :: ms, h => by
    have e0 : min (n :: ns).length (m :: ms).length = min ns.length ms.length + 1 := by simp only [List.length_cons]; omega
    rw [e0, Ob.lexAt_succ]
    rcases List.cons_lt_cons_iff.mp h with h | ⟨rfl, h2⟩
    · have h1 : ¬ n = m := by omega
      have h2 : ¬ n ≤ m := by omega
      simp [h1, h2]
    · rw [if_pos (by simp), lex_shift]
      have e1 : decide ((m :: ns).length ≤ (m :: ms).length) = decide (ns.length ≤ ms.length) := by simp
      rw [e1]
      exact lex_gt h2
theorem SqT.frz {K : PySem.W.Frag} {H : Hp} {a : Addr} {o : Obj} {xs : List V} (h : H a = some (.frz o (.tup xs))) : SqT K H a xs := .inl (.inr ⟨o, h⟩)
section
variable {P : Program} {w : World} {K : PySem.W.Frag} {mg : Str → Option Value} {base : Heap}
/-! ### is_table -/
def spTable : Sp := fun vs H Q _ => ∃ (a v : Addr) (o : Obj) (N : List (Option Int)) (ps : List PE'), vs = [.ref a, .ref v] ∧ NestAt H a N ∧ G.NestOk N ∧ H v = some (.frz o (.tup (ps.map fun p => V.ref p.1))) ∧ PairsIn H ps ∧
  (∀ p ∈ ps, G.Ok N.length p.2.2.1 ∧ 0 ≤ p.2.2.2 ∧ p.2.2.2 < N.length) ∧ (ps.map fun p => p.2.2.1).Pairwise (· < ·) ∧ ps.length ≤ 64 ∧ ∀ H', Same H H' → Q (.bl true) H'
theorem sc_is_table : FnScope ["nest", "value", "one", "x", "k"] ["nest", "value"] (defScope s_is_table) := ⟨rfl, rfl, rfl, by decide +kernel, rfl, by decide +kernel, by decide +kernel⟩
theorem ok_is_table (T : Txt K mg) (D1 : Def P w K mg base 1 "is_in" ["value", "least", "most"] spIsIn) : Def P w K mg base 2 "is_table" ["nest", "value"] spTable := by
  obtain ⟨fd, F⟩ := T.f_is_table
  refine mkDef F T.m_is_table (fun _ _ _ _ _ _ us hl => match us, hl with | [_, _], _ => rfl) (fok F sc_is_table (fun vs H Q E h => ?_) (fun cdv A outer s H vs Q E hr h => ?_))
  · obtain ⟨a, v, o, N, ps, rfl, _⟩ := h
    rfl
  obtain ⟨a, v, o, N, ps, rfl, hN, ok, hv, hps, hok, hasc, h64, q⟩ := h
  have few := ok.few
  have hlN : ((N.map oV).length : Int) = N.length := by rw [List.length_map]
  refine ⟨_, (pss_cons (ps_if (pt_not (pt_val (pe_callB (isi_K (K := K)) (by rfl) T.z_isinstance (by decide +kernel) (pa_cons (pv 1) (pa_cons (pe_bltn (v := .ty "tuple") (by rfl) T.z_tuple (by decide +kernel) rfl) pa_nil))))) (pss_one (ps_ret pe_bl)) pss_nil) <|
    pss_cons (ps_for PassesOwn.never rfl (pi_tup (pv 1)) (pg_name (i := 2) sc_is_table.nd rfl (Or.inl rfl)) (
      pss_cons (ps_if (PW.pt (pw_or (pt_not (pt_val (pe_callB (isi_K (K := K)) (by rfl) T.z_isinstance (by decide +kernel) (pa_cons (pv 2) (pa_cons (pe_bltn (v := .ty "tuple") (by rfl) T.z_tuple (by decide +kernel) rfl) pa_nil)))))
          (pw_or (pt_cmpR op_ne (pe_callB (len_K (K := K)) (by rfl) T.z_len boot_len (pa_cons (pv 2) pa_nil)) pe_int (nomark _))
          (pw_or1 (pt_not (pt_val (pe_callB (isi_K (K := K)) (by rfl) T.z_isinstance (by decide +kernel) (pa_cons (pe_ix (ixT_K (K := K)) (pv 2) pe_int (fun _ _ => rfl)) (pa_cons (pe_bltn (v := .ty "tuple") (by rfl) T.z_tuple (by decide +kernel) rfl) pa_nil))))))))) (pss_one (ps_ret pe_bl)) pss_nil) <|
      pss_cons (ps_if (PW.pt (pw_or (pt_cmpR (op_neNil (K := K) (hu0 hr)) (pe_lc (own := [("x", 3)]) (g := gName 3) (by rfl) sc_is_table.nd (pi_tup (pe_ix (ixT_K (K := K)) (pv 2) pe_int (fun _ _ => rfl))) (blkOk_by (N := ["nest", "value", "one", "x", "k"]) (sc := defScope s_is_table) (by decide +kernel))
            (fun _ _ _ _ _ => pg_name (i := 3) sc_is_table.nd rfl (Or.inl rfl)) (fun _ _ _ _ _ => pts_one (pt_not (pt_val (pe_c D1 hr (by rfl) (pa_cons (pv 3) (pa_cons pe_int (pa_cons (pe_op op_sub (pe_callB (len_K (K := K)) (by rfl) T.z_len boot_len (pa_cons (pv 0) pa_nil)) pe_int) pa_nil))))))) (fun _ _ _ _ _ => pv 3))
            (pe_lst pa_nil) (by rfl))
          (pw_or1 (pt_cmpR (neD_K (K := K) (hu64 hr)) (pe_callTy (list_K (K := K)) (by rfl) T.z_list (by decide +kernel) (pa_cons (pe_ix (ixT_K (K := K)) (pv 2) pe_int (fun _ _ => rfl)) pa_nil))
            (pe_callB (sortedSet_w (w := w) (by rfl)) (by rfl) T.z_sorted (by decide +kernel) (pa_cons (pe_callTy (cr_setTI (K := K) (w := w) (by rfl)) (by rfl) T.z_set (by decide +kernel) (pa_cons (pe_ix (ixT_K (K := K)) (pv 2) pe_int (fun _ _ => rfl)) pa_nil)) pa_nil)) (by rfl))))) (pss_one (ps_ret pe_bl)) pss_nil) <|
      pss_one (ps_if (pt_not (pt_val (pe_c D1 hr (by rfl) (pa_cons (pe_ix (ixT_K (K := K)) (pv 2) pe_int (fun _ _ => rfl)) (pa_cons pe_int (pa_cons (pe_op op_sub (pe_callB (len_K (K := K)) (by rfl) T.z_len boot_len (pa_cons (pv 0) pa_nil)) pe_int) pa_nil)))))) (pss_one (ps_ret pe_bl)) pss_nil))) <|
    pss_one (ps_ret (pe_cmpR (op_eqNil (K := K) (hu0 hr)) (pe_lc (own := [("k", 4)]) (g := gName 4) (by rfl) sc_is_table.nd (pi_range2 (by rfl) T.z_range (pa_cons pe_int (pa_cons (pe_callB (len_K (K := K)) (by rfl) T.z_len boot_len (pa_cons (pv 1) pa_nil)) pa_nil))) (blkOk_by (N := ["nest", "value", "one", "x", "k"]) (sc := defScope s_is_table) (by decide +kernel))
        (fun _ _ _ _ _ => pg_name (i := 4) sc_is_table.nd rfl (Or.inl rfl))
        (fun _ _ _ _ _ => pts_one (pt_cmpR (leT_K (K := K) (hu0 hr)) (pe_ix (ixT_K (K := K)) (pe_ix (ixT_K (K := K)) (pv 1) (pv 4) (fun _ _ => rfl)) pe_int (fun _ _ => rfl)) (pe_ix (ixT_K (K := K)) (pe_ix (ixT_K (K := K)) (pv 1) (pe_op op_sub (pv 4) pe_int) (fun _ _ => rfl)) pe_int (fun _ _ => rfl)) (by rfl)))
        (fun _ _ _ _ _ => pv 4)) (pe_lst pa_nil) (by rfl)))), ?_⟩
  refine ⟨_, rfl, _, _, _, _, true, rfl, .ty _, .fTuple hv, kit_ty (by decide +kernel), true, rfl, iteF ?_⟩
  refine ⟨_, rfl, v, rfl, ⟨_, SqT.frz hv⟩, for_tup (xs := ps.map fun p => V.ref p.1) (fun i σ H' => ∃ v2 v3 v4, σ = [some (.ref a), some (.ref v), v2, v3, v4] ∧ Same H H') ⟨none, none, none, rfl, Same.refl _⟩ (fun i σ H' _ ⟨_, _, _, _, h⟩ => SqT.frz (h _ _ hv)) ?_ ?_⟩
  · rintro i x σ H1 hi ⟨v2, v3, v4, rfl, s1⟩
    obtain ⟨p, hp, rfl⟩ := map_get hi
    have pm := List.mem_of_getElem? hp
    obtain ⟨okp, d0, d1⟩ := hok p pm
    have h1 := s1 _ _ (hps p pm).1
    have h2 := s1 _ _ (hps p pm).2
    have stl := okp.le
    refine ⟨_, rfl, _, _, _, _, true, rfl, .ty _, .base (.tup h1), kit_ty (by decide +kernel), true, rfl, iteF ?_⟩
    refine ⟨_, rfl, p.1, _, rfl, .inr (SqT.of h1), rfl, _, rfl, iteF ?_⟩
    refine ⟨_, rfl, p.1, _, 0, .ref p.2.1, rfl, rfl, SqT.of h1, rfl, _, _, _, _, true, rfl, .ty _, .base (.tup h2), kit_ty (by decide +kernel), true, rfl, iteF ?_⟩
    refine ⟨_, rfl, p.1, _, 0, .ref p.2.1, rfl, rfl, SqT.of h1, rfl, p.2.1, rfl, ⟨_, SqT.of h2⟩, fun D hD => ?_⟩
    refine lc_tup (K := K) (a := p.2.1) (xs := p.2.2.1.map V.int) (fun i H' => FI H1 D [] H') (FI.start hD) (fun i H' _ h => SqT.of (h.same _ _ h2)) ?_ ?_
    · rintro i y H' hi h
      obtain ⟨x, hx, rfl⟩ := map_get hi
      have xb := okp.bnd x (List.mem_of_getElem? hx)
      have hN' := hN.tups (Same.tups (Same.trans s1 h.same))
      refine ⟨rfl, _, rfl, _, rfl, a, _, rfl, .inr (SqT.of hN'), _, _, rfl, rfl, x, 0, _, rfl, ?_⟩
      rw [hlN]
      refine ⟨_, rfl, ?_⟩
      rw [show decide ((0 : Int) ≤ x ∧ x ≤ (N.length : Int) - 1) = true from decide_eq_true (by omega)]
      exact iteF h
    · rintro H2 h
      refine ⟨line_le' (n := 0) (by decide), fun e0 he0 => ?_⟩
      have s2 := Same.trans h.same (same_upd (o := .lst []) he0)
      refine ⟨D, e0, _, rfl, rfl, SqL.of (same_upd he0 _ _ h.at_), SqL.of upd_same, _, rfl, ?_⟩
      refine iteF ?_
      generalize upd H2 e0 (.lst []) = H3 at s2
      have h31 := s2 _ _ h1
      have h32 := s2 _ _ h2
      refine ⟨_, rfl, p.1, _, 0, .ref p.2.1, rfl, rfl, SqT.of h31, rfl, p.2.1, _, rfl, .inr (SqT.of h32), fun l1 hl1 => ?_⟩
      have s3 := same_upd (o := .lst (p.2.2.1.map V.int)) hl1
      have g3 : upd H3 l1 (.lst (p.2.2.1.map V.int)) l1 = some (.lst (p.2.2.1.map V.int)) := upd_same
      generalize upd H3 l1 (.lst (p.2.2.1.map V.int)) = H4 at s3 g3
      refine ⟨_, rfl, p.1, _, 0, .ref p.2.1, rfl, rfl, SqT.of (s3 _ _ h31), rfl, p.2.1, p.2.2.1, rfl, SqT.of (s3 _ _ h32), by omega, fun st n hst hn => ?_⟩
      have s4 := same_upd (o := SetO w st (fun k => decide (k ∈ p.2.2.1)) n) hst
      refine ⟨st, _, n, rfl, upd_same, by omega, fun ns' pp hlt hmem hlen hpp => ?_⟩
      have s5 := same_upd (o := .lst (ns'.map V.int)) hpp
      have e : ns' = p.2.2.1 := G.asc_unique hlt okp.asc fun x => by rw [hmem x, decide_eq_true_iff]
      subst e
      refine ⟨_, _, dp_ints (s5 _ _ (s4 _ _ g3)), dp_ints upd_same, (sh_map sh_int _).shaped (by decide), (sh_map sh_int _).shaped (by decide), ?_⟩
      rw [eqv_lst eqv_int, decide_eq_true rfl]
      refine ⟨_, rfl, iteF ?_⟩
      have s15 := Same.trans s2 (Same.trans s3 (Same.trans s4 s5))
      generalize upd (upd H4 st (SetO w st (fun k => decide (k ∈ p.2.2.1)) n)) pp (.lst (p.2.2.1.map V.int)) = H5 at s15
      refine ⟨_, rfl, p.1, _, 1, .int p.2.2.2, rfl, rfl, SqT.of (s15 _ _ h1), rfl, _, rfl, a, _, rfl, .inr (SqT.of (s15 _ _ (s1 _ _ hN))), _, _, rfl, rfl, p.2.2.2, 0, _, rfl, ?_⟩
      rw [hlN]
      refine ⟨_, rfl, ?_⟩
      rw [show decide ((0 : Int) ≤ p.2.2.2 ∧ p.2.2.2 ≤ (N.length : Int) - 1) = true from decide_eq_true (by omega)]
      exact iteF ⟨_, _, _, rfl, Same.trans s1 s15⟩
  · rintro σ H1 ⟨v2, v3, v4, rfl, s1⟩
    have hv1 := s1 _ _ hv
    have hps1 := hps.tups (Same.tups s1)
    refine ⟨_, rfl, v, _, rfl, .inr (SqT.frz hv1), 1, _, rfl, ⟨by omega, by omega, by rw [List.length_map]; omega, by rw [List.length_map]; omega⟩, fun D hD => ?_⟩
    rw [List.length_map]
    refine lc_range (lo := 1) (n := ((ps.length : Int) - 1).toNat) (fun i H' => FI H1 D [] H') (FI.start hD) ?_ ?_
    · rintro i H' hi h
      have hi1 : i + 1 < ps.length := by omega
      obtain ⟨p, hp⟩ : ∃ p, ps[i + 1]? = some p := ⟨ps[i + 1], List.getElem?_eq_getElem hi1⟩
      obtain ⟨q0, hq0⟩ : ∃ p, ps[i]? = some p := ⟨ps[i], List.getElem?_eq_getElem (by omega)⟩
      have hp1 := hps1 p (List.mem_of_getElem? hp)
      have hq1 := hps1 q0 (List.mem_of_getElem? hq0)
      have hvH := h.same _ _ hv1
      have lt : q0.2.2.1 < p.2.2.1 := by
        have h0 := List.pairwise_iff_getElem.mp hasc i (i + 1) (by rw [List.length_map]; omega) (by rw [List.length_map]; omega) (by omega)
        rw [List.getElem_map, List.getElem_map] at h0
        rw [List.getElem?_eq_getElem (by omega)] at hp hq0
        cases hp
        cases hq0
        exact h0
      refine ⟨rfl, _, rfl, _, rfl, v, _, 1 + (i : Int), .ref p.1, rfl, rfl, SqT.frz hvH, at_of (j := i + 1) (by omega) (by rw [List.getElem?_map, hp]; rfl), p.1, _, 0, .ref p.2.1, rfl, rfl, SqT.of (h.same _ _ hp1.1), rfl, ?_⟩
      refine ⟨_, rfl, _, rfl, _, _, rfl, rfl, v, _, _, .ref q0.1, rfl, rfl, SqT.frz hvH, at_of (j := i) (by omega) (by rw [List.getElem?_map, hq0]; rfl), q0.1, _, 0, .ref q0.2.1, rfl, rfl, SqT.of (h.same _ _ hq1.1), rfl, ?_⟩
      refine ⟨p.2.1, q0.2.1, p.2.2.1, q0.2.2.1, rfl, rfl, SqT.of (h.same _ _ hp1.2), SqT.of (h.same _ _ hq1.2), ?_⟩
      rw [lex_gt lt]
      exact ⟨_, rfl, iteF h⟩
    · rintro H2 h
      refine ⟨line_le' (n := 0) (by decide), fun e0 he0 => ?_⟩
      have s2 := Same.trans h.same (same_upd (o := .lst []) he0)
      exact ⟨D, e0, _, rfl, rfl, SqL.of (same_upd he0 _ _ h.at_), SqL.of upd_same, q _ (Same.trans s1 s2)⟩
end
end Kd

namespace Kd
open PySem PySem.Spec PyProof.Rows L2
section
variable {P : Program} {w : World} {K : PySem.W.Frag} {mg : Str → Option Value} {base : Heap}
/-! ### shows_plan -/
def spShows : Sp := fun vs H Q _ => ∃ (a b : Addr) (N : List (Option Int)) (nums : List (List Int)) (f : Bool) (val : V), vs = [.ref a, .ref b, .bl f, val] ∧ NestAt H a N ∧ G.NestOk N ∧ RowsAt H b nums ∧ G.NumsOk N.length nums ∧
  ((val = .non ∧ ∀ H', Same H H' → Q (.bl (!decide (gvN N nums [] f = N.length))) H') ∨
   (∃ (v : Addr) (o : Obj) (ps : List PE'), val = .ref v ∧ H v = some (.frz o (.tup (ps.map fun p => V.ref p.1))) ∧ TupOb o ∧ PairsIn H ps ∧ G.Plan N.length (G.rdy N nums) f (ps.map (·.2.2)) ∧ ∀ H', Same H H' → Q (.bl true) H'))
structure ShW (P : Program) (w : World) (N : List (Option Int)) (nums : List (List Int)) (f : Bool) (M : G.Mv) (H0 : Hp) (md td : Addr) (rw : Addr) (T : List (List Int)) (rows : List G.Row) (H' : Hp) : Prop where
  same : Same H0 H'
  mv : DD P w H' md (mvKvs M)
  met : DD P w H' td (stKvs T)
  rws : RowsL H' rw rows
  fr : H0 rw = none
  si : G.SI N.length (G.rdy N nums) f M T rows
  few : G.mu N.length rows ≤ 300000
def ShSt (P : Program) (w : World) (N : List (Option Int)) (nums : List (List Int)) (f : Bool) (M : G.Mv) (H0 : Hp) (a b v md td : Addr) (m : Nat) (σ : L2.St) (H' : Hp) : Prop :=
  ∃ (v7 v8 v9 v10 v11 v12 : Option V) (T : List (List Int)) (rows : List G.Row) (rw1 : Addr), σ = [some (.ref a), some (.ref b), some (.bl f), some (.ref v), some (.ref md), some (.ref td), some (.ref rw1), v7, v8, v9, v10, v11, v12] ∧ ShW P w N nums f M H0 md td rw1 T rows H' ∧ G.mu N.length rows = m
theorem sc_shows_plan : FnScope ["nest", "numbers", "is_first", "value", "moves", "met", "rows", "state", "is_mine", "some", "there", "one", "k"] ["nest", "numbers", "is_first", "value"] (defScope s_shows_plan) := ⟨rfl, rfl, rfl, by decide +kernel, rfl, by decide +kernel, by decide +kernel⟩
theorem ok_shows_plan (T : Txt K mg) (D1 : Def P w K mg base 4 "need_play" ["nest", "numbers", "is_first"] spNeedPlay) (D2 : Def P w K mg base 12 "value_in" ["nest", "numbers", "state", "is_first", "known"] (spValue P w 7)) (D3 : Def P w K mg base 5 "further" ["nest", "numbers", "state"] spFurther) (D4 : Def P w K mg base 2 "is_table" ["nest", "value"] spTable) :
    Def P w K mg base 13 "shows_plan" ["nest", "numbers", "is_first", "value"] spShows := by
  obtain ⟨fd, F⟩ := T.f_shows_plan
  refine mkDef F T.m_shows_plan (fun _ _ _ _ _ _ us hl => match us, hl with | [_, _, _, _], _ => rfl) (fok F sc_shows_plan (fun vs H Q E h => ?_) (fun cdv A outer s H vs Q E hr h => ?_))
  · obtain ⟨a, b, N, nums, f, val, rfl, _⟩ := h
    rfl
  obtain ⟨a, b, N, nums, f, val, rfl, hN, ok, hnums, okn, hq⟩ := h
  have few := ok.few
  have some_ := ok.some_
  have hu := hu64 hr
  have gm := G.rdy_gm N nums
  have hlN : ((N.map oV).length : Int) = N.length := by rw [List.length_map]
  refine ⟨_, (pss_cons (ps_expr (pe_c D1 (hr.mono (by decide)) (by rfl) (pa_cons (pv 0) (pa_cons (pv 1) (pa_cons (pv 2) pa_nil))))) <|
    pss_cons (ps_if (pt_cmp (pc_isN (pv 3))) (pss_one (ps_ret (pe_cmpR op_ne (pe_c D2 hr (by rfl) (pa_cons (pv 0) (pa_cons (pv 1) (pa_cons (pe_tup pa_nil) (pa_cons (pv 2) (pa_cons (pe_nnew (P := P) (w := w)) pa_nil)))))) (pe_callB (len_K (K := K)) (by rfl) T.z_len boot_len (pa_cons (pv 0) pa_nil)) (nomark _)))) pss_nil) <|
    pss_cons (ps_if (pt_not (pt_val (pe_c D4 (hr.mono (by decide)) (by rfl) (pa_cons (pv 0) (pa_cons (pv 3) pa_nil))))) (pss_one (ps_ret pe_bl)) pss_nil) <|
    pss_cons (ps_asg (pe_tup (pa_cons (pe_callTy (call_dictT (P := P) (w := w) (by rfl) hu) (by rfl) T.z_dict (by decide +kernel) (pa_cons (pv 3) pa_nil)) (pa_cons (pe_nnew (P := P) (w := w)) (pa_cons (pe_lst (pa_cons (pe_tup (pa_cons (pe_tup pa_nil) (pa_cons (pv 2) pa_nil))) pa_nil)) pa_nil))))
        (pg_tup rfl (pgs_cons (pg_name (i := 4) sc_shows_plan.nd rfl (Or.inr rfl)) (pgs_cons (pg_name (i := 5) sc_shows_plan.nd rfl (Or.inl rfl)) (pgs_cons (pg_name (i := 6) sc_shows_plan.nd rfl (Or.inl rfl)) pgs_nil))))) <|
    pss_cons (ps_while PassesOwn.never (pt_cmpR (op_neNil (K := K) (hu0 hr)) (pv 6) (pe_lst pa_nil) (by rfl)) (
      pss_cons (ps_asg (pe_bm0 PySem.F.plainAttrs_list PySem.F.slot_list_pop PySem.F.type_list_pop mt_pop (pv 6)) (pg_tup rfl (pgs_cons (pg_name (i := 7) sc_shows_plan.nd rfl (Or.inr rfl)) (pgs_cons (pg_name (i := 8) sc_shows_plan.nd rfl (Or.inl rfl)) pgs_nil)))) <|
      pss_cons (ps_set (i := 9) sc_shows_plan.nd rfl (Or.inl rfl) (pe_c D3 (hr.mono (by decide)) (by rfl) (pa_cons (pv 0) (pa_cons (pv 1) (pa_cons (pv 7) pa_nil))))) <|
      pss_cons (ps_if (PW.pt (pw_and (pt_cmpR (op_eqNil (K := K) (hu0 hr)) (pv 9) (pe_lst pa_nil) (by rfl)) (pw_and1 (pt_cmpR op_lt (pe_callB (len_K (K := K)) (by rfl) T.z_len boot_len (pa_cons (pv 7) pa_nil)) (pe_callB (len_K (K := K)) (by rfl) T.z_len boot_len (pa_cons (pv 0) pa_nil)) (nomark _))))) (pss_one (ps_ret pe_bl)) pss_nil) <|
      pss_cons (ps_if (PW.pt (pw_and (pt_val (pv 8)) (pw_and (pt_cmpR (op_neNil (K := K) (hu0 hr)) (pv 9) (pe_lst pa_nil) (by rfl)) (pw_and1 (pt_cmpR (or_nnotin (P := P) (w := w) hu) (pv 7) (pv 5) (by rfl)))))) (
        pss_cons (ps_nput (P := P) (w := w) hu (pv 5) (pv 7) pe_bl (by rfl)) <|
        pss_cons (ps_setLc (i := 10) (own := [("one", 11)]) (by rfl) sc_shows_plan.nd rfl rfl (sw_true rfl rfl rfl (by decide +kernel)) (pi_list (pv 9))
            (blkOk_by (N := ["nest", "numbers", "is_first", "value", "moves", "met", "rows", "state", "is_mine", "some", "there", "one", "k"]) (sc := defScope s_shows_plan) (by decide +kernel))
            (fun _ _ _ _ _ => pg_name (i := 11) sc_shows_plan.nd rfl (Or.inl rfl))
            (fun _ _ _ _ _ => pts_one (PW.pt (pw_and (pt_cmpR (or_nin (P := P) (w := w) hu) (pv 7) (pv 4) (by rfl)) (pw_and1 (pt_cmpR op_eq (pe_ix (ixT_K (K := K)) (pv 11) pe_int (fun _ _ => rfl)) (pe_nget (P := P) (w := w) hu (pv 4) (pv 7) (fun _ _ => rfl)) (by rfl))))))
            (fun _ _ _ _ _ => pe_ix (ixT_K (K := K)) (pv 11) pe_int (fun _ _ => rfl))) <|
        pss_cons (ps_if (pt_cmpR (op_eqNil (K := K) (hu0 hr)) (pv 10) (pe_lst pa_nil) (by rfl)) (pss_one (ps_ret pe_bl)) pss_nil) <|
        pss_one (ps_expr (pe_bm PySem.F.plainAttrs_list PySem.F.slot_list_append PySem.F.type_list_append mt_append (pv 6) (pa_cons (pe_tup (pa_cons (pe_ix (ixL_K (K := K)) (pv 10) pe_int (fun _ _ => rfl)) (pa_cons pe_bl pa_nil))) pa_nil))))
        pss_nil) <|
      pss_one (ps_if (pt_not (pt_val (pv 8)))
        (pss_one (ps_set (i := 6) sc_shows_plan.nd rfl (Or.inl rfl) (pe_op op_cat (pv 6) (pe_lc (own := [("k", 12), ("there", 10)]) (by rfl) sc_shows_plan.nd (pi_list (pv 9))
            (blkOk_by (N := ["nest", "numbers", "is_first", "value", "moves", "met", "rows", "state", "is_mine", "some", "there", "one", "k"]) (sc := defScope s_shows_plan) (by decide +kernel))
            (fun _ _ _ _ _ => pg_tupK (K := K) (n := 2) (by rfl) (pgs_cons (pg_name (i := 12) sc_shows_plan.nd rfl (Or.inl rfl)) (pgs_cons (pg_name (i := 10) sc_shows_plan.nd rfl (Or.inl rfl)) pgs_nil)))
            (fun _ _ _ _ _ => pts_nil)
            (fun _ _ _ _ _ => pe_tup (pa_cons (pv 10) (pa_cons pe_bl pa_nil)))))))
        pss_nil))) <|
    pss_one (ps_ret (pe_cmpR (eqD_K (K := K) hu) (pe_callB (cr_sortKeys (P := P) (w := w) (by rfl) (hu3 hr)) (by rfl) T.z_sorted (by decide +kernel) (pa_cons (pe_nkeys (P := P) (w := w) (pv 5)) pa_nil)) (pe_callB (cr_sortKeys (P := P) (w := w) (by rfl) (hu3 hr)) (by rfl) T.z_sorted (by decide +kernel) (pa_cons (pe_nkeys (P := P) (w := w) (pv 4)) pa_nil)) (by rfl)))), ?_⟩
  refine ⟨_, rfl, _, rfl, _, rfl, a, b, N, nums, f, rfl, hN, ok, hnums, okn, fun H1 s1 => ?_⟩
  have hN1 := hN.tups (Same.tups s1)
  have hnums1 := hnums.tups (Same.tups s1)
  rcases hq with ⟨rfl, q⟩ | ⟨v, o, ps, rfl, hv, ho, hps, pl, q⟩
  · refine ⟨_, rfl, _, rfl, iteT ?_⟩
    refine ⟨_, rfl, _, rfl, line_le (by decide), fun c hc => ?_⟩
    have s2 := same_upd (o := .tup []) hc
    refine ⟨_, rfl, fun kd hkd => ?_⟩
    have s3 := same_upd (o := DNO P w kd []) hkd
    have t3 := Same.tups (Same.trans s2 s3)
    refine ⟨a, b, c, kd, N, nums, [], f, [], rfl, hN1.tups t3, ok, hnums1.tups t3, okn.len, s3 _ _ upd_same, G.Ok.nil _, DD.new, KnOk.nil, by show N.length - 0 < 7; omega, fun H4 kvs4 b4 t4 d4 n4 => ?_⟩
    have s4 : Same H1 H4 := same_but (Same.trans s2 s3) (Same.free s2 hkd) b4
    refine ⟨_, rfl, a, _, rfl, .inr (SqT.of (s4 _ _ hN1)), rfl, ?_⟩
    rw [dec_int, hlN]
    exact q H4 (Same.trans s1 s4)
  refine ⟨_, rfl, _, rfl, iteF ?_⟩
  have hv1 := s1 _ _ hv
  have hps1 := hps.tups (Same.tups s1)
  have ekeys : (ps.map (·.2.2)).map (·.1) = ps.map fun p => p.2.2.1 := by rw [List.map_map]; rfl
  have asc : (ps.map fun p => p.2.2.1).Pairwise (· < ·) := by rw [← ekeys]; exact pl.asc
  have hokp : ∀ p ∈ ps, G.Ok N.length p.2.2.1 ∧ 0 ≤ p.2.2.2 ∧ p.2.2.2 < N.length := fun p hp => by
    obtain ⟨h1, h2⟩ := pl.door p.2.2.1 p.2.2.2 (List.mem_map.mpr ⟨p, hp, rfl⟩)
    have := gm.ok _ _ h1
    exact ⟨h2, this.1, this.2.1⟩
  have h64 : ps.length ≤ 64 := by
    have := G.states_few few (G.nodup_asc asc) fun s hs => by
      obtain ⟨p, hp, rfl⟩ := List.mem_map.mp hs
      exact (hokp p hp).1
    rw [List.length_map] at this
    exact this
  refine ⟨_, rfl, _, rfl, a, v, o, N, ps, rfl, hN1, ok, hv1, hps1, hokp, asc, h64, fun H2 s2 => ?_⟩
  refine ⟨_, rfl, iteF ?_⟩
  refine ⟨_, rfl, v, o, ps, rfl, s2 _ _ hv1, ho, hps1.tups (Same.tups s2), by omega, G.nodup_asc asc, fun md H3 s3 hmd dm3 => ?_⟩
  have hmv : (ps.map fun p => (kSt p.2.2.1, V.int p.2.2.2)) = mvKvs (ps.map (·.2.2)) := by
    unfold mvKvs
    rw [List.map_map]
    rfl
  rw [hmv] at dm3
  have hkl : (ps.map (·.2.2)).length ≤ 64 := by rw [List.length_map]; exact h64
  generalize hM : ps.map (·.2.2) = M at dm3 pl hkl
  have s13 : Same H1 H3 := Same.trans s2 s3
  intro td htd
  have s5 := same_upd (o := DNO P w td []) htd
  have d5 : DD P w (upd H3 td (DNO P w td [])) td (stKvs []) := DD.new
  generalize upd H3 td (DNO P w td []) = H5 at s5 d5
  refine ⟨line_le (by decide), fun e1 he1 => ?_⟩
  have s6 := same_upd (o := .tup []) he1
  have g6 : StAt (upd H5 e1 (.tup [])) e1 [] := upd_same
  generalize upd H5 e1 (.tup []) = H6 at s6 g6
  refine ⟨_, rfl, line2, fun e2 he2 => ?_⟩
  have s7 := same_upd (o := .tup [V.ref e1, V.bl f]) he2
  have g7 : upd H6 e2 (.tup [V.ref e1, V.bl f]) e2 = some (.tup [.ref e1, .bl f]) := upd_same
  generalize upd H6 e2 (.tup [V.ref e1, V.bl f]) = H7 at s7 g7
  refine ⟨line1, fun rw0 hrw0 => ?_⟩
  have s8 := same_upd (o := .lst [V.ref e2]) hrw0
  have g8 : RowsL (upd H7 rw0 (.lst [V.ref e2])) rw0 [([], f)] := RowsL.one hrw0 g7 (g6.tups (Same.tups s7))
  generalize upd H7 rw0 (.lst [V.ref e2]) = H8 at s8 g8
  refine ⟨line_le (by show 3 ≤ _; decide), fun e3 he3 => ?_⟩
  have s9 := same_upd (o := .tup [V.ref md, V.ref td, V.ref rw0]) he3
  refine ⟨e3, _, rfl, SqT.of upd_same, rfl, _, _, rfl, _, _, rfl, _, _, rfl, rfl, ?_⟩
  generalize upd H8 e3 (.tup [V.ref md, V.ref td, V.ref rw0]) = H9 at s9
  have s59 : Same H5 H9 := Same.trans s6 (Same.trans s7 (Same.trans s8 s9))
  have s19 : Same H1 H9 := Same.trans s13 (Same.trans s5 s59)
  have htd1 : H1 td = none := Same.free s13 htd
  have hrw1 : H1 rw0 = none := Same.free s13 (Same.free s5 (Same.free s6 (Same.free s7 hrw0)))
  have hmt : md ≠ td := fun e => by
    obtain ⟨ls, e1, _⟩ := dm3
    rw [e, htd] at e1
    cases e1
  have W0 : ShW P w N nums f M H1 md td rw0 [] [([], f)] H9 := ⟨s19, dm3.same (Same.trans s5 s59), d5.same s59, g8.same s9, hrw1, .start, G.mu_start few f⟩
  refine ⟨ShSt P w N nums f M H1 a b v md td, ⟨_, _, _, _, _, _, _, _, _, _, rfl, W0, rfl⟩, ?_⟩
  rintro m σ H' ⟨v7, v8, v9, v10, v11, v12, TT, rows, rw1, rfl, W, hm⟩
  clear W0
  have si := W.si
  have hT64 : TT.length ≤ 64 := G.states_few few si.nd fun s hs => (si.reT s hs).1.ok gm
  obtain ⟨vs0, hvs, hem, hvl⟩ := W.rws.lst
  refine ⟨_, rfl, line_le (by decide), fun e0 he0 => ?_⟩
  have sA := same_upd (o := .lst []) he0
  refine ⟨rw1, e0, _, rfl, rfl, SqL.of (sA _ _ hvs), SqL.of upd_same, _, rfl, ?_⟩
  rw [hem]
  generalize upd H' e0 (.lst []) = HA at sA
  have hA1 := Same.trans W.same sA
  refine ite2 (fun hne => ?_) (fun hnil => ?_)
  rotate_left
  · -- the end
    have hrn : rows = [] := by
      cases rows with
      | nil => rfl
      | cons x r => exact absurd rfl hnil
    subst hrn
    have hperm := si.fin pl
    refine ⟨_, rfl, td, stKvs TT, rfl, W.met.same sA, fun vw hvw => ?_⟩
    have sB := same_upd (o := keysO vw td) hvw
    refine ⟨vw, td, stKvs TT, TT, rfl, upd_same, (W.met.same sA).same sB, stKvs_keys TT, by omega, fun l1 q1 hp1 hs1 hin1 hq1 => ?_⟩
    have sC := same_upd (o := .lst (l1.map fun p => V.ref p.1)) hq1
    have gC : upd (upd HA vw (keysO vw td)) q1 (.lst (l1.map fun p => V.ref p.1)) q1 = some (.lst (l1.map fun p => V.ref p.1)) := upd_same
    have sAC := Same.trans sB sC
    generalize upd (upd HA vw (keysO vw td)) q1 (.lst (l1.map fun p => V.ref p.1)) = HC at sC gC sAC
    have hin1' : ∀ p ∈ l1, HC p.1 = some (.tup (p.2.map V.int)) := fun p hp => sC _ _ (hin1 p hp)
    refine ⟨_, rfl, md, mvKvs M, rfl, (W.mv.same sA).same sAC, fun vw2 hvw2 => ?_⟩
    have sD := same_upd (o := keysO vw2 md) hvw2
    refine ⟨vw2, md, mvKvs M, M.map (·.1), rfl, upd_same, ((W.mv.same sA).same sAC).same sD, mvKvs_keys M, by rw [List.length_map]; omega, fun l2 q2 hp2 hs2 hin2 hq2 => ?_⟩
    have sE := same_upd (o := .lst (l2.map fun p => V.ref p.1)) hq2
    have gE : upd (upd HC vw2 (keysO vw2 md)) q2 (.lst (l2.map fun p => V.ref p.1)) q2 = some (.lst (l2.map fun p => V.ref p.1)) := upd_same
    have sCE := Same.trans sD sE
    generalize upd (upd HC vw2 (keysO vw2 md)) q2 (.lst (l2.map fun p => V.ref p.1)) = HE at sE gE sCE
    have hin2' : ∀ p ∈ l2, HE p.1 = some (.tup (p.2.map V.int)) := fun p hp => sE _ _ (hin2 p hp)
    refine ⟨.list ((l1.map (·.2)).map tD), .list ((l2.map (·.2)).map tD), .lst (SqL.of (sCE _ _ gC)) (dpAll_map l1 (fun p => V.ref p.1) tD (·.2) fun x hx => dp_st (sCE _ _ (hin1' x hx))), .lst (SqL.of gE) (dpAll_map l2 (fun p => V.ref p.1) tD (·.2) fun x hx => dp_st (hin2' x hx)), (sh_map sh_tD _).shaped (by decide), (sh_map sh_tD _).shaped (by decide), ?_⟩
    have e : l1.map (·.2) = l2.map (·.2) := G.sortedL_unique (hp1.trans (hperm.trans hp2.symm)) hs1 hs2
    rw [eqv_lst eqv_tD, e, decide_eq_true rfl]
    exact q _ (Same.trans s1 (Same.trans hA1 (Same.trans sAC sCE)))
  -- a turn
  obtain ⟨rows0, ⟨st, mi⟩, rfl⟩ : ∃ rows0 x, rows = rows0 ++ [x] := by
    have hl : rows ≠ [] := fun e => by rw [e] at hne; cases hne
    exact ⟨rows.dropLast, rows.getLast hl, (List.dropLast_concat_getLast hl).symm⟩
  refine ⟨fun σ' H' => ∃ m', m' < m ∧ ShSt P w N nums f M H1 a b v md td m' σ' H', fun _ _ h => h, ?_⟩
  have hre := si.reR st mi (List.mem_append.mpr (.inr (List.mem_singleton.mpr rfl)))
  have oks := hre.ok gm
  obtain ⟨vs, p, q0, hvs1, hget, hp, hq0, hrows⟩ := (W.rws.same sA).pop
  refine ⟨_, rfl, .inl ⟨rfl, _, SqL.of hvs1⟩, rw1, vs, .ref p, rfl, rfl, hvs1, hget, ?_⟩
  have tB : Tups HA (upd HA rw1 (.lst vs.dropLast)) := tups_upd (nt_lst hvs1)
  have sB : Same H1 (upd HA rw1 (.lst vs.dropLast)) := same_updL hA1 W.fr
  have dtB : DD P w (upd HA rw1 (.lst vs.dropLast)) td (stKvs TT) := (W.met.same sA).updL hvs1
  have dmB : DD P w (upd HA rw1 (.lst vs.dropLast)) md (mvKvs M) := (W.mv.same sA).updL hvs1
  generalize upd HA rw1 (.lst vs.dropLast) = HB at tB sB dtB dmB hrows
  refine ⟨p, _, rfl, SqT.of (tB _ _ hp), rfl, _, _, rfl, _, _, rfl, rfl, ?_⟩
  have hqB := hq0.tups tB
  refine ⟨_, rfl, _, rfl, _, rfl, a, b, q0, N, nums, st, rfl, hN1.tups (Same.tups sB), ok, hnums1.tups (Same.tups sB), okn.len, hqB, oks, fun r HC sC hr0 hF => ?_⟩
  obtain ⟨lf, f1, f2, f3⟩ := id hF
  have sC1 := Same.trans sB sC
  have dtC := dtB.same sC
  have dmC := dmB.same sC
  have hqC := hqB.tups (Same.tups sC)
  have rowsC := hrows.same sC
  have muB : G.mu N.length (rows0 ++ [(st, mi)]) = G.mu N.length rows0 + G.wt N.length (st, mi) := by rw [G.mu_append, G.mu_one]
  have lfl : lf.length ≤ 6 := by
    have h1 := G.ext_len (N := N) (nums := nums) (s := st)
    rw [← f2, List.length_map] at h1
    omega
  have lfnil : (lf.map fun p => V.ref p.1).isEmpty = true ↔ G.rdy N nums st = [] := by
    rw [← G.ext_nil, ← f2]
    cases lf <;> simp
  have hl300 := G.mu_len N.length rows0
  have w3 := W.few
  -- if some == [] and ..
  have test1 : ∀ Qb : Bool → Hp → Prop, (∀ HD, Same HC HD → Qb false HD) → tAnd (tTest (tOp (rEqNil K) (tVar 9) (tLst tNil))) (tTest (tOp (rI0 fun i j => .bl (decide (i < j))) (tCB (rLn K) (tCons (tVar 7) tNil)) (tCB (rLn K) (tCons (tVar 0) tNil))))
      [some (.ref a), some (.ref b), some (.bl f), some (.ref v), some (.ref md), some (.ref td), some (.ref rw1), some (.ref q0), some (.bl mi), some (.ref r), v10, v11, v12] HC Qb := fun Qb hQ => by
    refine ⟨_, rfl, line_le (by decide), fun e0 he0 => ?_⟩
    have sD := same_upd (o := .lst []) he0
    refine ⟨r, e0, _, rfl, rfl, SqL.of (sD _ _ f1), SqL.of upd_same, _, rfl, ?_⟩
    refine ite2 (fun c => ?_) (fun c => ?_)
    · have hw := pl.win st mi hre (lfnil.mp c)
      refine ⟨_, rfl, q0, _, rfl, .inr (SqT.of (sD _ _ hqC)), _, rfl, a, _, rfl, .inr (SqT.of (sD _ _ (sC1 _ _ hN1))), _, _, rfl, rfl, _, rfl, ?_⟩
      rw [List.length_map, hlN, hw, decide_eq_false (Int.lt_irrefl _)]
      exact hQ _ sD
    · exact hQ _ sD
  refine test1 _ fun HD sD => ?_
  clear test1
  refine iteF ?_
  have sD1 := Same.trans sC1 sD
  have hrD := sD _ _ f1
  have dtD := dtC.same sD
  have dmD := dmC.same sD
  have hqD := hqC.tups (Same.tups sD)
  have rowsD := rowsC.same sD
  cases mi with
  | true =>
    refine ⟨_, rfl, true, rfl, iteT ?_⟩
    refine ⟨_, rfl, line_le (by decide), fun e0 he0 => ?_⟩
    have sE := same_upd (o := .lst []) he0
    refine ⟨r, e0, _, rfl, rfl, SqL.of (sE _ _ hrD), SqL.of upd_same, _, rfl, ?_⟩
    generalize upd HD e0 (.lst []) = HE at sE
    have skip : (st ∈ TT ∨ G.rdy N nums st = []) → ∀ v10 v11 v12, ShSt P w N nums f M H1 a b v md td (G.mu N.length rows0) [some (.ref a), some (.ref b), some (.bl f), some (.ref v), some (.ref md), some (.ref td), some (.ref rw1), some (.ref q0), some (.bl true), some (.ref r), v10, v11, v12] HE := fun h v10 v11 v12 =>
      ⟨_, _, _, _, _, _, _, _, _, rfl, ⟨Same.trans sD1 sE, dmD.same sE, dtD.same sE, rowsD.same sE, W.fr, si.skip h, by omega⟩, rfl⟩
    have mlt : G.mu N.length rows0 < m := by have := G.wt_pos N.length (st, true); omega
    refine ite2 (fun hnn => ?_) (fun hnn => ?_)
    rotate_left
    · refine ⟨_, rfl, true, rfl, iteF ?_⟩
      exact ⟨_, mlt, skip (.inr (lfnil.mp (by simpa using hnn))) _ _ _⟩
    have hrd : G.rdy N nums st ≠ [] := fun e => by
      rw [lfnil.mpr e] at hnn
      cases hnn
    refine ⟨_, rfl, _, rfl, td, q0, stKvs TT, kSt st, rfl, rfl, dtD.same sE, .st (hqD.tups (Same.tups sE)), _, rfl, ?_⟩
    rw [stKvs_some]
    refine ite2 (fun hnm => ?_) (fun hnm => ?_)
    rotate_left
    · refine ⟨_, rfl, true, rfl, iteF ?_⟩
      exact ⟨_, mlt, skip (.inl (by simpa using hnm)) _ _ _⟩
    have hnm' : st ∉ TT := by simpa using hnm
    obtain ⟨d, hd⟩ := G.mvOf_some (pl.all st hre hrd)
    have hdr := (pl.door st d (G.mvOf_mem hd)).1
    have hvd : valV (mvKvs M) (kSt st) = some (.int d) := by rw [mvKvs_val, hd]; rfl
    refine ⟨_, rfl, _, rfl, td, q0, stKvs TT, kSt st, rfl, rfl, dtD.same sE, .st (hqD.tups (Same.tups sE)), line_lt (by unfold stKvs; rw [List.length_map]; omega), fun H6 b6 t6 d6 => ?_⟩
    rw [stKvs_put hnm'] at d6
    have hrt : r ≠ td := (dtD.same sE).ne (sE _ _ hrD) (fun _ z => nomatch z)
    obtain ⟨vr, hvr, _, _⟩ := (rowsD.same sE).lst
    have rwt : rw1 ≠ td := (dtD.same sE).ne hvr (fun _ z => nomatch z)
    have s61 : Same H1 H6 := same_but (Same.trans sD1 sE) htd1 b6
    have hr6 := b6 _ _ hrt (sE _ _ hrD)
    have dm6 : DD P w H6 md (mvKvs M) := (dmD.same sE).keep (fun o e => b6 _ _ hmt e) t6
    have rows6 : RowsL H6 rw1 rows0 := (rowsD.same sE).keep (fun o e => b6 _ _ rwt e) t6
    have hq6 := (hqD.tups (Same.tups sE)).tups t6
    have t6' : Tups HC H6 := Tups.trans (Same.tups (Same.trans sD sE)) t6
    -- there = [..]
    refine ⟨_, rfl, r, rfl, ⟨_, SqL.of hr6⟩, fun D hD => ?_⟩
    let pr : (Addr × Addr × (Int × List Int)) → Bool := fun x => decide (x.2.2.1 = d)
    refine lc_list (K := K) (a := r) (xs := lf.map fun p => V.ref p.1) (fun i H' => Same H6 H' ∧ H' D = some (.lst (((lf.take i).filter pr).map fun x => V.ref x.2.1))) ⟨same_upd hD, upd_same⟩ (fun i H' _ h => SqL.of (h.1 _ _ hr6)) ?_ ?_
    · rintro i y H' hi ⟨h, hat⟩
      obtain ⟨x, hx, rfl⟩ := map_get hi
      obtain ⟨g1, g2⟩ := f3 x (List.mem_of_getElem? hx)
      have g1' := h _ _ (t6' _ _ g1)
      refine ⟨rfl, _, rfl, _, rfl, md, q0, mvKvs M, kSt st, rfl, rfl, dm6.same h, .st (hq6.tups (Same.tups h)), _, rfl, ?_⟩
      rw [hvd]
      refine iteT ⟨_, rfl, x.1, _, 0, .int x.2.2.1, rfl, rfl, SqT.of g1', rfl, _, rfl, _, rfl, md, q0, mvKvs M, kSt st, .int d, rfl, rfl, dm6.same h, .st (hq6.tups (Same.tups h)), hvd, rfl, ?_⟩
      rw [dec_int, filter_snoc _ hx]
      refine ⟨_, rfl, ite2 (fun c => ?_) (fun c => ?_)⟩
      · rw [if_pos (show pr x = true from c), List.map_append]
        refine ⟨_, rfl, x.1, _, 1, .ref x.2.1, rfl, rfl, SqT.of g1', rfl, _, hat, line_lt ?_, same_updL h hD, upd_same⟩
        have := List.length_filter_le pr (lf.take i)
        rw [List.length_take] at this
        rw [List.length_map]
        omega
      · rw [if_neg (show ¬ pr x = true from c), List.append_nil]
        exact ⟨h, hat⟩
    · rintro HG ⟨h, hat⟩
      rw [List.length_map, List.take_length] at hat
      obtain ⟨g, rest, hgr⟩ : ∃ g rest, lf.filter pr = g :: rest := by
        have h1 : (d, G.nxt st d) ∈ G.ext N nums st := G.ext_mem.mpr ⟨hdr, rfl⟩
        rw [← f2] at h1
        obtain ⟨x, hx, ex⟩ := List.mem_map.mp h1
        have h2 : x ∈ lf.filter pr := List.mem_filter.mpr ⟨hx, decide_eq_true (by rw [ex])⟩
        cases hh : lf.filter pr with
        | nil => rw [hh] at h2; exact nomatch h2
        | cons g rest => exact ⟨g, rest, rfl⟩
      have hgm : g ∈ lf.filter pr := by rw [hgr]; exact List.mem_cons_self ..
      obtain ⟨hgl, hgp⟩ := List.mem_filter.mp hgm
      have hgd : g.2.2.1 = d := of_decide_eq_true hgp
      obtain ⟨g1, g2⟩ := f3 g hgl
      have gxm : g.2.2 ∈ G.ext N nums st := by rw [← f2]; exact List.mem_map.mpr ⟨g, hgl, rfl⟩
      obtain ⟨_, xn⟩ := G.ext_mem.mp gxm
      rw [hgd] at xn
      rw [hgr, List.map_cons] at hat
      -- if there == []
      refine ⟨_, rfl, line_le (by decide), fun e1 he1 => ?_⟩
      have sF := same_upd (o := .lst []) he1
      refine ⟨D, e1, _, rfl, rfl, SqL.of (sF _ _ hat), SqL.of upd_same, _, rfl, iteF ?_⟩
      generalize upd HG e1 (.lst []) = HF at sF
      have s6F := Same.trans h sF
      have rowsF := rows6.same s6F
      obtain ⟨vg, hvg, _, hvgl⟩ := rowsF.lst
      refine ⟨_, rfl, .inl ⟨rfl, _, SqL.of hvg⟩, _, rfl, D, _, 0, .ref g.2.1, rfl, rfl, SqL.of (sF _ _ hat), at_of (j := 0) rfl rfl, line2, fun p hp => ?_⟩
      have sp := same_upd (o := .tup [V.ref g.2.1, V.bl false]) hp
      have gp : upd HF p (.tup [V.ref g.2.1, V.bl false]) p = some (.tup [.ref g.2.1, .bl false]) := upd_same
      generalize upd HF p (.tup [V.ref g.2.1, V.bl false]) = H7 at sp gp
      have hv7 := sp _ _ hvg
      refine ⟨rw1, _, .ref p, rfl, rfl, hv7, line_lt (by omega), ?_⟩
      have rows8 := RowsL.push (x := (g.2.2.2, false)) (rowsF.same sp) hv7 gp (g2.tups (Tups.trans t6' (Same.tups (Same.trans s6F sp))))
      refine ⟨_, rfl, true, rfl, iteF ?_⟩
      have hnew : G.mu N.length [(g.2.2.2, false)] < G.wt N.length (st, true) := G.mu_new gm oks some_ fun y hy => by
        rw [List.mem_singleton] at hy
        subst hy
        exact ⟨d, hdr, xn⟩
      rw [xn] at hnew rows8
      have e3 : G.mu N.length (rows0 ++ [(G.nxt st d, false)]) = G.mu N.length rows0 + G.mu N.length [(G.nxt st d, false)] := G.mu_append _ _ _
      have s7 := Same.trans s6F sp
      exact ⟨_, (by omega), _, _, _, _, _, _, _, _, _, rfl, ⟨same_updL (Same.trans s61 s7) W.fr, (dm6.same s7).updL hv7, (d6.same s7).updL hv7, rows8, W.fr, si.choose hnm' hrd hd hdr, by omega⟩, rfl⟩
  | false =>
    refine ⟨_, rfl, false, rfl, iteF ?_⟩
    refine ⟨_, rfl, false, rfl, iteT ?_⟩
    refine ⟨_, rfl, _, rfl, r, rfl, ⟨_, SqL.of hrD⟩, fun D hD => ?_⟩
    refine lc_list (K := K) (a := r) (xs := lf.map fun p => V.ref p.1) (fun i H' => RwI HD D ((lf.take i).map fun x => (x.2.2.2, true)) H') (RwI.start hD) (fun i H' _ h => SqL.of (h.same _ _ hrD)) ?_ ?_
    · rintro i y H' hi h
      obtain ⟨x, hx, rfl⟩ := map_get hi
      obtain ⟨g1, g2⟩ := f3 x (List.mem_of_getElem? hx)
      have sx := Same.trans sD h.same
      refine ⟨x.1, _, rfl, SqT.of (sx _ _ g1), rfl, ⟨_, _, rfl, _, _, rfl, rfl, rfl, ?_⟩⟩
      have g2' := g2.tups (Same.tups sx)
      refine ⟨_, rfl, line2, fun p hp => ?_⟩
      have sp := same_upd (o := .tup [V.ref x.2.1, V.bl true]) hp
      rw [take_snoc hx, List.map_append]
      refine RwI.add (x := (x.2.2.2, true)) hD h sp upd_same (g2'.tups (Same.tups sp)) (line_lt ?_)
      rw [List.length_map, List.length_take]
      omega
    · rintro HG h
      rw [List.length_map, List.take_length] at h
      have hnew := h.at_
      have enew : (lf.map fun x => (x.2.2.2, true)) = ((G.rdy N nums st).map fun k => G.nxt st k).map fun t => (t, true) := by
        have e := ext_of_lf f2 (fun _ => true)
        rw [List.filter_eq_self.mpr (fun _ _ => rfl), List.filter_eq_self.mpr (fun _ _ => rfl)] at e
        exact e
      rw [enew] at hnew
      have sG1 := Same.trans sD1 h.same
      obtain ⟨vx, ex, _, lx⟩ := (rowsD.same h.same).lst
      obtain ⟨vz, ez, _, lz⟩ := hnew.lst
      have nlen : (((G.rdy N nums st).map fun k => G.nxt st k).map fun t => (t, true)).length ≤ N.length := by
        have h2 := gm.few st
        rw [List.length_map, List.length_map]
        omega
      refine ⟨rw1, D, vx, vz, rfl, rfl, ex, ez, line_le (by omega), fun p hp => ?_⟩
      obtain ⟨xs, zs, hx, hz, _, _, hcat⟩ := RowsL.cat (rowsD.same h.same) hnew hp
      rw [ex] at hx
      cases hx
      rw [ez] at hz
      cases hz
      have sp := same_upd (o := .lst (vx ++ vz)) hp
      have hmu : G.mu N.length (((G.rdy N nums st).map fun k => G.nxt st k).map fun t => (t, true)) < G.wt N.length (st, false) := G.mu_new gm oks nlen fun y hy => by
        obtain ⟨t, ht, rfl⟩ := List.mem_map.mp hy
        obtain ⟨k, hk, e⟩ := List.mem_map.mp ht
        exact ⟨k, hk, e.symm⟩
      have e3 := G.mu_append N.length rows0 (((G.rdy N nums st).map fun k => G.nxt st k).map fun t => (t, true))
      exact ⟨_, (by omega), _, _, _, _, _, _, _, _, _, rfl, ⟨Same.trans sG1 sp, (dmD.same h.same).same sp, (dtD.same h.same).same sp, hcat, Same.free sG1 hp, si.spread, by omega⟩, rfl⟩
end
end Kd

/-! ### the law's own draws -/
namespace Kd
open PySem PySem.Spec PyProof.Rows L2
/-- the row at r: the script, three ints -/
def RowAt (r sc : Addr) (H : Hp) : Prop := ∃ p st big : Int, H r = some (.lst [.ref sc, .int p, .int st, .int big]) ∧ 0 ≤ p
/-- the script -/
def ScOk (K : PySem.W.Frag) (H : Hp) (sc : Addr) : Prop := ∃ ns : List Int, SqL K H sc (ns.map V.int)
theorem RowAt.nt {r sc : Addr} {H : Hp} (h : RowAt r sc H) : ∀ xs, H r ≠ some (.tup xs) := by
  obtain ⟨_, _, _, h, _⟩ := h
  exact nt_lst h
theorem RowAt.keep {r sc : Addr} {H H' : Hp} (h : RowAt r sc H) (e : ∀ o, H r = some o → H' r = some o) : RowAt r sc H' := by
  obtain ⟨p, st, big, h1, h2⟩ := h
  exact ⟨p, st, big, e _ h1, h2⟩
theorem RowAt.same {r sc : Addr} {H H' : Hp} (h : RowAt r sc H) (s : Same H H') : RowAt r sc H' := h.keep fun o e => s _ _ e
theorem RowAt.ne {r sc D : Addr} {H : Hp} (h : RowAt r sc H) (hD : H D = none) : D ≠ r := fun e => by
  obtain ⟨_, _, _, h, _⟩ := h
  rw [← e, hD] at h
  cases h
theorem RowAt.nei {r sc a : Addr} {H : Hp} {xs : List Int} (h : RowAt r sc H) (ha : H a = some (.lst (xs.map V.int))) : a ≠ r := fun e => by
  obtain ⟨_, _, _, h, _⟩ := h
  rw [e, h] at ha
  cases xs with
  | nil => simp at ha
  | cons x xs => simp at ha
theorem ScOk.but {K : PySem.W.Frag} {H H' : Hp} {r sc : Addr} (h : ScOk K H sc) (hr : RowAt r sc H) (b : But r H H') : ScOk K H' sc := by
  obtain ⟨ns, h⟩ := h
  refine ⟨ns, ?_⟩
  rcases h with (h | ⟨o, h⟩) | h
  · exact .inl (.inl (b _ _ (hr.nei h) h))
  · refine .inl (.inr ⟨o, b _ _ (fun e => ?_) h⟩)
    obtain ⟨_, _, _, h1, _⟩ := hr
    rw [e, h1] at h
    cases h
  · exact .inr h
theorem ScOk.same {K : PySem.W.Frag} {H H' : Hp} {sc : Addr} (h : ScOk K H sc) (s : Same H H') : ScOk K H' sc := by
  obtain ⟨ns, h⟩ := h
  refine ⟨ns, ?_⟩
  rcases h with (h | ⟨o, h⟩) | h
  · exact .inl (.inl (s _ _ h))
  · exact .inl (.inr ⟨o, s _ _ h⟩)
  · exact .inr h
theorem RowAt.start {H : Hp} {sc r : Addr} : RowAt r sc (upd H r (.lst [.ref sc, .int 0, .int 7748, .int 0])) := ⟨0, 7748, 0, upd_same, Int.le_refl _⟩
theorem RowAt.tups {r sc : Addr} {H H' : Hp} (h : RowAt r sc H) (b : But r H H') : Tups H H' := b.tups h.nt
theorem row_upd {H : Hp} {r : Addr} {l : List V} (h : H r = some (.lst l)) {o : HO} : But r H (upd H r o) ∧ Tups H (upd H r o) := ⟨but_upd, tups_upd (nt_lst h)⟩
section
variable {P : Program} {w : World} {K : PySem.W.Frag} {mg : Str → Option Value} {base : Heap}
def spTaken (K : PySem.W.Frag) : Sp := fun vs H Q _ => ∃ (r sc : Addr) (m : Int), vs = [.ref r, .int m] ∧ RowAt r sc H ∧ ScOk K H sc ∧ 0 < m ∧ m < 1000 ∧ ∀ x H', But r H H' → RowAt r sc H' → 0 ≤ x → x < m → Q (.int x) H'
theorem sc_law_taken : FnScope ["_law_row", "_law_many", "_law_found", "_law_cell"] ["_law_row", "_law_many"] (defScope s_law_taken) := ⟨rfl, rfl, rfl, by decide +kernel, rfl, by decide +kernel, by decide +kernel⟩
theorem ok_law_taken (T : Txt K mg) : Def P w K mg base 1 "_law_taken" ["_law_row", "_law_many"] (spTaken K) := by
  obtain ⟨fd, F⟩ := T.f_law_taken
  refine mkDef F T.m_law_taken (fun _ _ _ _ _ _ us hl => match us, hl with | [_, _], _ => rfl) (fok F sc_law_taken (fun vs H Q E h => ?_) (fun cdv A outer s H vs Q E hr h => ?_))
  · obtain ⟨r, sc, m, rfl, _⟩ := h
    rfl
  obtain ⟨r, sc, m, rfl, hrow0, hsc0, hm0, hm1, q⟩ := h
  obtain ⟨p, st, big, hrow, hp⟩ := id hrow0
  refine ⟨_, (pss_cons (ps_if (pt_cmpR op_gt (pe_ix (ixL_K (K := K)) (pv 0) pe_int (fun _ _ => rfl)) pe_int (nomark _))
      (pss_cons (ps_set (i := 2) sc_law_taken.nd rfl (Or.inl rfl) (pe_op op_mod (pe_callTy call_int1 (by rfl) T.z_int (by decide +kernel) (pa_cons (pe_ix (ixL_K (K := K)) (pv 0) pe_int (fun _ _ => rfl)) pa_nil)) (pv 1))) <|
       pss_cons (ps_asg (pe_op op_fdivN (pe_ix (ixL_K (K := K)) (pv 0) pe_int (fun _ _ => rfl)) (pv 1)) (pg_sub (pv 0) pe_int set_list)) <|
       pss_one (ps_ret (pv 2))) pss_nil) <|
    pss_cons (ps_asg (pe_op op_add (pe_ix (ixL_K (K := K)) (pv 0) pe_int (fun _ _ => rfl)) pe_int) (pg_sub (pv 0) pe_int set_list)) <|
    pss_cons (ps_if (pt_cmpR op_gt (pe_ix (ixL_K (K := K)) (pv 0) pe_int (fun _ _ => rfl)) (pe_callB (len_K (K := K)) (by rfl) T.z_len boot_len (pa_cons (pe_ix (ixL_K (K := K)) (pv 0) pe_int (fun _ _ => rfl)) pa_nil)) (nomark _))
      (pss_cons (ps_asg (pe_op op_mod (pe_callTy call_int1 (by rfl) T.z_int (by decide +kernel) (pa_cons (pe_op op_add (pe_op op_mul (pe_ix (ixL_K (K := K)) (pv 0) pe_int (fun _ _ => rfl)) pe_int) pe_int) pa_nil)) pe_int) (pg_sub (pv 0) pe_int set_list)) <|
       pss_one (ps_ret (pe_op op_mod (pe_callTy call_int1 (by rfl) T.z_int (by decide +kernel) (pa_cons (pe_op op_fdivN (pe_ix (ixL_K (K := K)) (pv 0) pe_int (fun _ _ => rfl)) pe_int) pa_nil)) (pv 1)))) pss_nil) <|
    pss_cons (ps_set (i := 3) sc_law_taken.nd rfl (Or.inl rfl) (pe_ix (ixL_K (K := K)) (pe_ix (ixL_K (K := K)) (pv 0) pe_int (fun _ _ => rfl)) (pe_op op_sub (pe_ix (ixL_K (K := K)) (pv 0) pe_int (fun _ _ => rfl)) pe_int) (fun _ _ => rfl))) <|
    pss_cons (ps_asg (pe_op op_mod (pe_callTy call_int1 (by rfl) T.z_int (by decide +kernel) (pa_cons (pe_op op_add (pe_op op_add (pe_op op_mul (pe_ix (ixL_K (K := K)) (pv 0) pe_int (fun _ _ => rfl)) pe_int) (pv 3)) pe_int) pa_nil)) pe_int) (pg_sub (pv 0) pe_int set_list)) <|
    pss_cons (ps_if (pt_cmpR op_ge (pv 3) (pe_op op_pow pe_int pe_int) (nomark _)) (pss_one (ps_asg (pe_op op_fdivN (pv 3) (pv 1)) (pg_sub (pv 0) pe_int set_list))) pss_nil) <|
    pss_one (ps_ret (pe_op op_mod (pe_callTy call_int1 (by rfl) T.z_int (by decide +kernel) (pa_cons (pv 3) pa_nil)) (pv 1)))), ?_⟩
  have fin : ∀ x H' p' st' big', But r H H' → H' r = some (.lst [.ref sc, .int p', .int st', .int big']) → 0 ≤ p' → Q (.int (x % m)) H' := fun x H' p' st' big' b e hp' =>
    q _ H' b ⟨p', st', big', e, hp'⟩ (Int.emod_nonneg _ (by omega)) (Int.emod_lt_of_pos _ hm0)
  refine ⟨_, rfl, r, _, 3, _, rfl, rfl, SqL.of hrow, rfl, _, _, rfl, rfl, _, rfl, ite2 (fun _ => ?_) (fun _ => ?_)⟩
  · refine ⟨_, rfl, r, _, 3, _, rfl, rfl, SqL.of hrow, rfl, .inl ⟨_, rfl, _, rfl, _, _, rfl, rfl, hm0, ?_⟩⟩
    refine ⟨_, rfl, r, _, 3, _, rfl, rfl, SqL.of hrow, rfl, _, rfl, _, _, rfl, rfl, ⟨by omega, by omega⟩, _, rfl, r, _, 3, 3, rfl, rfl, hrow, rfl, ?_⟩
    exact ⟨_, rfl, fin _ _ _ _ _ but_upd upd_same hp⟩
  refine ⟨_, rfl, r, _, 1, _, rfl, rfl, SqL.of hrow, rfl, _, _, rfl, rfl, _, rfl, r, _, 1, 1, rfl, rfl, hrow, rfl, ?_⟩
  have b1 : But r H (upd H r (.lst [.ref sc, .int (p + 1), .int st, .int big])) := but_upd
  have e1 : upd H r (.lst [.ref sc, .int (p + 1), .int st, .int big]) r = some (.lst [.ref sc, .int (p + 1), .int st, .int big]) := upd_same
  show tSeq _ _ _ _ (upd H r (.lst [.ref sc, .int (p + 1), .int st, .int big]))
  generalize upd H r (.lst [.ref sc, .int (p + 1), .int st, .int big]) = H1 at b1 e1
  obtain ⟨ns, hs1⟩ := hsc0.but hrow0 b1
  refine ⟨_, rfl, r, _, 1, _, rfl, rfl, SqL.of e1, rfl, _, rfl, r, _, 0, _, rfl, rfl, SqL.of e1, rfl, sc, _, rfl, .inl hs1, _, _, rfl, rfl, _, rfl, ite2 (fun _ => ?_) (fun hc => ?_)⟩
  · refine ⟨_, rfl, r, _, 2, _, rfl, rfl, SqL.of e1, rfl, _, _, rfl, rfl, .inr ⟨by decide, by decide⟩, _, _, rfl, rfl, .inl ⟨_, rfl, _, _, rfl, rfl, (by show (0 : Int) < 2147483647; decide), _, rfl, r, _, 2, 2, rfl, rfl, e1, rfl, ?_⟩⟩
    refine ⟨_, rfl, r, _, 2, _, rfl, rfl, SqL.of upd_same, rfl, _, _, rfl, rfl, ⟨by decide, by decide⟩, .inl ⟨_, rfl, _, rfl, _, _, rfl, rfl, hm0, ?_⟩⟩
    exact fin _ _ _ _ _ (But.trans b1 but_upd) upd_same (by omega)
  rw [List.length_map] at hc
  have hlt : p + 1 ≤ ns.length := by simpa using hc
  obtain ⟨c, hcell⟩ : ∃ c, ns[p.toNat]? = some c := ⟨ns[p.toNat], List.getElem?_eq_getElem (by omega)⟩
  refine ⟨_, rfl, r, _, 0, _, rfl, rfl, SqL.of e1, rfl, _, rfl, r, _, 1, _, rfl, rfl, SqL.of e1, rfl, _, _, rfl, rfl, sc, _, _, .int c, rfl, rfl, hs1, at_of (j := p.toNat) (by omega) (by rw [List.getElem?_map, hcell]; rfl), ?_⟩
  refine ⟨_, rfl, r, _, 2, _, rfl, rfl, SqL.of e1, rfl, _, _, rfl, rfl, .inr ⟨by decide, by decide⟩, _, rfl, _, _, rfl, rfl, _, _, rfl, rfl, .inl ⟨_, rfl, _, _, rfl, rfl, (by show (0 : Int) < 2147483647; decide), _, rfl, r, _, 2, 2, rfl, rfl, e1, rfl, ?_⟩⟩
  have b2 : But r H1 (upd H1 r (.lst [.ref sc, .int (p + 1), .int ((st * 48271 + c + 11) % 2147483647), .int big])) := but_upd
  have e2 : upd H1 r (.lst [.ref sc, .int (p + 1), .int ((st * 48271 + c + 11) % 2147483647), .int big]) r = some (.lst [.ref sc, .int (p + 1), .int ((st * 48271 + c + 11) % 2147483647), .int big]) := upd_same
  show tSeq _ _ _ _ (upd H1 r (.lst [.ref sc, .int (p + 1), .int ((st * 48271 + c + 11) % 2147483647), .int big]))
  generalize upd H1 r (.lst [.ref sc, .int (p + 1), .int ((st * 48271 + c + 11) % 2147483647), .int big]) = H2 at b2 e2
  have b2' := But.trans b1 b2
  refine ⟨_, rfl, _, _, rfl, rfl, ⟨by decide, by decide, by decide⟩, _, _, rfl, rfl, _, rfl, ite2 (fun _ => ?_) (fun _ => ?_)⟩
  · refine ⟨_, rfl, _, rfl, _, _, rfl, rfl, ⟨by omega, by omega⟩, _, rfl, r, _, 3, 3, rfl, rfl, e2, rfl, ?_⟩
    exact ⟨_, rfl, .inl ⟨_, rfl, _, rfl, _, _, rfl, rfl, hm0, fin _ _ _ _ _ (But.trans b2' but_upd) upd_same (by omega)⟩⟩
  · exact ⟨_, rfl, .inl ⟨_, rfl, _, rfl, _, _, rfl, rfl, hm0, fin _ _ _ _ _ b2' e2 (by omega)⟩⟩
/-! ### _law_pick -/
def spPick (K : PySem.W.Frag) : Sp := fun vs H Q _ => ∃ (r sc t : Addr) (xs : List Int), vs = [.ref r, .ref t] ∧ RowAt r sc H ∧ ScOk K H sc ∧ H t = some (.lst (xs.map V.int)) ∧ xs ≠ [] ∧ xs.length < 1000 ∧ ∀ x H', But r H H' → RowAt r sc H' → x ∈ xs → Q (.int x) H'
theorem sc_law_pick : FnScope ["_law_row", "_law_things"] ["_law_row", "_law_things"] (defScope s_law_pick) := ⟨rfl, rfl, rfl, by decide +kernel, rfl, by decide +kernel, by decide +kernel⟩
theorem ok_law_pick (T : Txt K mg) (D1 : Def P w K mg base 1 "_law_taken" ["_law_row", "_law_many"] (spTaken K)) : Def P w K mg base 2 "_law_pick" ["_law_row", "_law_things"] (spPick K) := by
  obtain ⟨fd, F⟩ := T.f_law_pick
  refine mkDef F T.m_law_pick (fun _ _ _ _ _ _ us hl => match us, hl with | [_, _], _ => rfl) (fok F sc_law_pick (fun vs H Q E h => ?_) (fun cdv A outer s H vs Q E hr h => ?_))
  · obtain ⟨r, sc, t, xs, rfl, _⟩ := h
    rfl
  obtain ⟨r, sc, t, xs, rfl, hrow, hsc, ht, hne, hlen, q⟩ := h
  have htr := hrow.nei ht
  refine ⟨_, pss_one (ps_ret (pe_ix (ixL_K (K := K)) (pv 1) (pe_c D1 hr (by rfl) (pa_cons (pv 0) (pa_cons (pe_callB (len_K (K := K)) (by rfl) T.z_len boot_len (pa_cons (pv 1) pa_nil)) pa_nil))) (fun _ _ => rfl))), ?_⟩
  have hpos : 0 < xs.length := List.length_pos_iff.mpr hne
  refine ⟨_, rfl, _, rfl, _, rfl, t, _, rfl, .inl (SqL.of ht), r, sc, _, rfl, hrow, hsc, by rw [List.length_map]; omega, by rw [List.length_map]; omega, fun x H1 b1 hrow1 h0 h1 => ?_⟩
  rw [List.length_map] at h1
  obtain ⟨y, hy⟩ : ∃ y, xs[x.toNat]? = some y := ⟨xs[x.toNat], List.getElem?_eq_getElem (by omega)⟩
  exact ⟨t, _, x, .int y, rfl, rfl, SqL.of (b1 _ _ htr ht), at_of (j := x.toNat) (by omega) (by rw [List.getElem?_map, hy]; rfl), q y H1 b1 hrow1 (List.mem_of_getElem? hy)⟩
end
end Kd

/-! ### the law's nest -/
namespace Kd
open PySem PySem.Spec PyProof.Rows L2
section
variable {P : Program} {w : World} {K : PySem.W.Frag} {mg : Str → Option Value} {base : Heap}
def spNest (K : PySem.W.Frag) : Sp := fun vs H Q _ => ∃ r sc : Addr, vs = [.ref r, .int 6] ∧ RowAt r sc H ∧ ScOk K H sc ∧ ∀ v N H', But r H H' → RowAt r sc H' → G.NestOk N → NestAt H' v N → Q (.ref v) H'
/-- a list that grows at D while the row at r is drawn from -/
structure DrI (H : Hp) (r sc D : Addr) (l : List V) (H' : Hp) : Prop where
  but : But r H H'
  row : RowAt r sc H'
  at_ : H' D = some (.lst l)
theorem DrI.start {H : Hp} {r sc D : Addr} (row : RowAt r sc H) (hD : H D = none) : DrI H r sc D [] (upd H D (.lst [])) :=
  let s := same_upd (o := .lst []) hD
  ⟨Same.but s, row.same s, upd_same⟩
theorem DrI.go {H H1 H2 : Hp} {r sc D : Addr} {l : List V} (hDr : D ≠ r) (h : DrI H r sc D l H1) (b : But r H1 H2) (row : RowAt r sc H2) : DrI H r sc D l H2 := ⟨But.trans h.but b, row, b _ _ hDr h.at_⟩
theorem DrI.same {H H1 H2 : Hp} {r sc D : Addr} {l : List V} (h : DrI H r sc D l H1) (s : Same H1 H2) : DrI H r sc D l H2 := ⟨But.trans h.but (Same.but s), h.row.same s, s _ _ h.at_⟩
theorem DrI.add {H H1 : Hp} {r sc D : Addr} {l : List V} (hD : H D = none) (hDr : D ≠ r) (h : DrI H r sc D l H1) (x : V) : DrI H r sc D (l ++ [x]) (upd H1 D (.lst (l ++ [x]))) := by
  refine ⟨fun c o hc e => ?_, h.row.keep fun o e => by rw [upd_ne (Ne.symm hDr)]; exact e, upd_same⟩
  rw [upd_ne (free_ne e hD)]
  exact h.but _ _ hc e
def UpTo (n : Int) (N : List (Option Int)) : Prop := ∀ (j : Nat) (x : Int), N[j]? = some (some x) → (j : Int) < x ∧ x < n
theorem UpTo.add {n : Int} {N : List (Option Int)} (h : UpTo n N) (o : Option Int) (ho : ∀ x, o = some x → (N.length : Int) < x ∧ x < n) : UpTo n (N ++ [o]) := fun j x hj => by
  rw [List.getElem?_append] at hj
  split at hj
  · exact h j x hj
  · have e : j - N.length = 0 := by
      cases hh : j - N.length with
      | zero => rfl
      | succ k => rw [hh] at hj; simp at hj
    rw [e] at hj
    have := ho x (by simpa using hj)
    omega
theorem sc_law_nest : FnScope ["_law_row", "_law_most", "_law_many", "_law_found", "_law_way", "_law_k", "_law_rest"] ["_law_row", "_law_most"] (defScope s_law_nest) := ⟨rfl, rfl, rfl, by decide +kernel, rfl, by decide +kernel, by decide +kernel⟩
theorem ok_law_nest (T : Txt K mg) (D1 : Def P w K mg base 1 "_law_taken" ["_law_row", "_law_many"] (spTaken K)) (D2 : Def P w K mg base 2 "_law_pick" ["_law_row", "_law_things"] (spPick K)) : Def P w K mg base 3 "_law_nest" ["_law_row", "_law_most"] (spNest K) := by
  obtain ⟨fd, F⟩ := T.f_law_nest
  refine mkDef F T.m_law_nest (fun _ _ _ _ _ _ us hl => match us, hl with | [_, _], _ => rfl) (fok F sc_law_nest (fun vs H Q E h => ?_) (fun cdv A outer s H vs Q E hr h => ?_))
  · obtain ⟨r, sc, rfl, _⟩ := h
    rfl
  obtain ⟨r, sc, rfl, hrow, hsc, q⟩ := h
  have hr1 := hr.mono (show 1 ≤ 2 by decide)
  refine ⟨_, (pss_cons (ps_par rfl sc_law_nest.nd (i := 2) (j := 3) rfl rfl (by decide) rfl rfl (pa_cons (pe_op op_add pe_int (pe_c D1 hr1 (by rfl) (pa_cons (pv 0) (pa_cons (pv 1) pa_nil)))) (pa_cons (pe_lst pa_nil) pa_nil)) (by rfl)) <|
    pss_cons (ps_set (i := 4) sc_law_nest.nd rfl (Or.inl rfl) (pe_c D1 hr1 (by rfl) (pa_cons (pv 0) (pa_cons pe_int pa_nil)))) <|
    pss_cons (ps_for PassesOwn.never rfl (pi_range1 (by rfl) T.z_range (pa_cons (pv 2) pa_nil)) (pg_name (i := 5) sc_law_nest.nd rfl (Or.inl rfl)) (
      pss_cons (ps_set (i := 6) sc_law_nest.nd rfl (Or.inl rfl) (pe_op op_sub (pe_op op_sub (pv 2) pe_int) (pv 5))) <|
      pss_one (ps_if (PW.pt (pw_or (pt_cmpR op_eq (pv 6) pe_int (nomark _)) (pw_or1 (PW.pt (pw_and (pt_cmpR op_eq (pv 4) pe_int (nomark _)) (pw_and1 (pt_cmpR op_eq (pe_c D1 hr1 (by rfl) (pa_cons (pv 0) (pa_cons pe_int pa_nil))) pe_int (nomark _))))))))
        (pss_one (ps_expr (pe_bm PySem.F.plainAttrs_list PySem.F.slot_list_append PySem.F.type_list_append mt_append (pv 3) (pa_cons pe_non pa_nil))))
        (pss_one (ps_expr (pe_bm PySem.F.plainAttrs_list PySem.F.slot_list_append PySem.F.type_list_append mt_append (pv 3) (pa_cons (pe_ifExp (pt_cmpR op_eq (pv 4) pe_int (nomark _)) (pe_op op_add (pv 5) pe_int)
          (pe_op op_add (pe_op op_add (pv 5) pe_int) (pe_c D1 hr1 (by rfl) (pa_cons (pv 0) (pa_cons (pe_c D2 hr (by rfl) (pa_cons (pv 0) (pa_cons (pe_lst (pa_cons pe_int (pa_cons (pv 6) pa_nil))) pa_nil))) pa_nil))))) pa_nil))))))) <|
    pss_one (ps_ret (pe_callTy (tuple_K (K := K)) (by rfl) T.z_tuple (by decide +kernel) (pa_cons (pv 3) pa_nil)))), ?_⟩
  refine ⟨_, rfl, _, rfl, r, sc, 6, rfl, hrow, hsc, by decide, by decide, fun x H1 b1 row1 x0 x6 => ?_⟩
  refine ⟨_, _, rfl, rfl, line_le (by decide), fun D hD => ⟨_, _, rfl, ?_⟩⟩
  have hDr : D ≠ r := row1.ne hD
  have W0 := DrI.start row1 hD
  have sc1 := hsc.but hrow b1
  have scH : ∀ {l : List V} {H' : Hp}, DrI H1 r sc D l H' → ScOk K H' sc := fun h => sc1.but row1 h.but
  refine ⟨_, rfl, r, sc, 4, rfl, W0.row, scH W0, by decide, by decide, fun way H2 b2 row2 w0 w4 => ?_⟩
  have W1 := W0.go hDr b2 row2
  clear W0
  refine ⟨_, rfl, _, rfl, by omega, by omega, for_range (lo := 0) (n := (1 + x).toNat) (fun i σ H' => ∃ (v5 v6 : Option V) (N : List (Option Int)), σ = [some (.ref r), some (.int 6), some (.int (1 + x)), some (.ref D), some (.int way), v5, v6] ∧ DrI H1 r sc D (N.map oV) H' ∧ N.length = i ∧ UpTo (1 + x) N)
    ⟨none, none, [], rfl, W1, rfl, fun j x h => by simp at h⟩ ?_ ?_⟩
  · rintro i σ H' hi ⟨v5, v6, N, rfl, W, hlen, hup⟩
    have e0 : (0 : Int) + (i : Nat) = (i : Nat) := by omega
    rw [e0]
    have put : ∀ (o : Option Int) H'', (∀ y, o = some y → (N.length : Int) < y ∧ y < 1 + x) → DrI H1 r sc D (N.map oV) H'' → ∃ l xs y, V.ref D = .ref l ∧ [oV o] = [y] ∧ H'' l = some (.lst xs) ∧ xs.length < sizeLine ∧
        (∃ (v5 v6 : Option V) (N' : List (Option Int)), [some (.ref r), some (.int 6), some (.int (1 + x)), some (.ref D), some (.int way), some (.int (i : Nat)), some (.int (1 + x - 1 - (i : Nat)))] = [some (.ref r), some (.int 6), some (.int (1 + x)), some (.ref D), some (.int way), v5, v6] ∧ DrI H1 r sc D (N'.map oV) (upd H'' l (.lst (xs ++ [y]))) ∧ N'.length = i + 1 ∧ UpTo (1 + x) N') := fun o H'' ho W' => by
      refine ⟨D, N.map oV, oV o, rfl, rfl, W'.at_, line_lt (by rw [List.length_map]; omega), _, _, N ++ [o], rfl, ?_, by rw [List.length_append, hlen]; rfl, hup.add o ho⟩
      rw [List.map_append]
      exact W'.add hD hDr _
    refine ⟨_, rfl, _, _, rfl, rfl, _, rfl, _, _, rfl, rfl, ?_⟩
    have test : ∀ Qb : Bool → Hp → Prop, (∀ b H'', DrI H1 r sc D (N.map oV) H'' → (b = false → ¬ (1 + x - 1 - (i : Nat) = 0)) → Qb b H'') →
        tOr (tTest (tOp rEq (tVar 6) (tC (.int 0)))) (tAnd (tTest (tOp rEq (tVar 4) (tC (.int 3)))) (tTest (tOp rEq (tCall (spTaken K) [] E0 (tCons (tVar 0) (tCons (tC (.int 3)) tNil))) (tC (.int 0)))))
          [some (.ref r), some (.int 6), some (.int (1 + x)), some (.ref D), some (.int way), some (.int (i : Nat)), some (.int (1 + x - 1 - (i : Nat)))] H' Qb := fun Qb hQ => by
      refine ⟨_, rfl, rfl, _, rfl, ?_⟩
      rw [dec_int]
      refine ite2 (fun c => hQ _ _ W fun e => by cases e) (fun c => ?_)
      have c' : ¬ (1 + x - 1 - (i : Nat) = 0) := fun e => c (decide_eq_true e)
      refine ⟨_, rfl, rfl, _, rfl, ite2 (fun _ => ?_) (fun _ => hQ _ _ W fun _ => c')⟩
      refine ⟨_, rfl, r, sc, 3, rfl, W.row, scH W, by decide, by decide, fun y H3 b3 row3 _ _ => ⟨rfl, _, rfl, hQ _ _ (W.go hDr b3 row3) fun _ => c'⟩⟩
    refine test _ fun b H'' W2 hb => ?_
    cases b with
    | true =>
      refine iteT ⟨_, rfl, .inl ⟨rfl, _, SqL.of W2.at_⟩, ?_⟩
      exact put none H'' (fun _ e => by cases e) W2
    | false =>
      have c := hb rfl
      refine iteF ⟨_, rfl, .inl ⟨rfl, _, SqL.of W2.at_⟩, ?_⟩
      refine ⟨_, rfl, rfl, _, rfl, ?_⟩
      rw [dec_int]
      refine ite2 (fun _ => ?_) (fun _ => ?_)
      · refine ⟨_, rfl, _, _, rfl, rfl, ?_⟩
        exact put (some (i + 1)) H'' (fun y e => by cases e; omega) W2
      · refine ⟨_, rfl, _, _, rfl, rfl, _, rfl, _, rfl, _, rfl, line2, fun t ht => ?_⟩
        have s3 := same_upd (o := .lst [V.int 1, V.int (1 + x - 1 - (i : Nat))]) ht
        have W3 := W2.same s3
        refine ⟨r, sc, t, [1, 1 + x - 1 - (i : Nat)], rfl, W3.row, scH W3, upd_same, by simp, (by show 2 < 1000; decide), fun y H4 b4 row4 hy => ?_⟩
        have W4 := W3.go hDr b4 row4
        have hy2 : y = 1 ∨ y = 1 + x - 1 - (i : Nat) := by simpa using hy
        refine ⟨r, sc, y, rfl, row4, scH W4, by omega, by omega, fun z H5 b5 row5 z0 z1 => ?_⟩
        refine ⟨_, _, rfl, rfl, ?_⟩
        exact put (some (i + 1 + z)) H5 (fun v e => by cases e; omega) (W4.go hDr b5 row5)
  · rintro σ H' ⟨v5, v6, N, rfl, W, hlen, hup⟩
    refine ⟨_, rfl, D, _, rfl, .inl ⟨SqL.of W.at_, fun v hv => ?_⟩⟩
    have sv := same_upd (o := .tup (N.map oV)) hv
    refine q v N _ (But.trans b1 (But.trans W.but (Same.but sv))) (W.row.same sv) ⟨by omega, by omega, fun j y hj => ?_⟩ upd_same
    have := hup j y hj
    omega
end
end Kd

/-! ### the law's own doors inside -/
namespace Kd
open PySem PySem.Spec PyProof.Rows L2
/-- a list (at r) of lists of ints -/
def LsAt (H0 H : Hp) (r : Addr) (xs : List (List Int)) : Prop := ∃ l : List (Addr × List Int), H r = some (.lst (l.map fun p => V.ref p.1)) ∧ l.map (·.2) = xs ∧ ∀ p ∈ l, H p.1 = some (.lst (p.2.map V.int)) ∧ H0 p.1 = none
theorem LsAt.same {H0 H H' : Hp} {r : Addr} {xs : List (List Int)} (h : LsAt H0 H r xs) (s : Same H H') : LsAt H0 H' r xs := by
  obtain ⟨l, h1, h2, h3⟩ := h
  exact ⟨l, s _ _ h1, h2, fun p hp => ⟨s _ _ (h3 p hp).1, (h3 p hp).2⟩⟩
def insAll (N : List (Option Int)) : List (List Int) := (G.rng N.length).map (G.ins N)
structure LsI (H : Hp) (D : Addr) (xs : List (List Int)) (H' : Hp) : Prop where
  same : Same H H'
  at_ : LsAt H H' D xs
theorem LsI.start {H : Hp} {D : Addr} (h : H D = none) : LsI H D [] (upd H D (.lst [])) := ⟨same_upd h, [], upd_same, rfl, fun _ h => nomatch h⟩
theorem LsI.go {H H1 H2 : Hp} {D : Addr} {xs : List (List Int)} (h : LsI H D xs H1) (s : Same H1 H2) : LsI H D xs H2 := ⟨Same.trans h.same s, h.at_.same s⟩
theorem LsI.add {H H1 : Hp} {D q : Addr} {xs : List (List Int)} {x : List Int} (hD : H D = none) (h : LsI H D xs H1) (hq : H1 q = some (.lst (x.map V.int))) (hq0 : H q = none) (hqD : q ≠ D) (hl : xs.length < sizeLine) :
    ∃ acc, H1 D = some (.lst acc) ∧ acc.length < sizeLine ∧ LsI H D (xs ++ [x]) (upd H1 D (.lst (acc ++ [.ref q]))) := by
  obtain ⟨s0, l, h1, h2, h3⟩ := h
  refine ⟨_, h1, by rw [List.length_map]; rw [← h2, List.length_map] at hl; exact hl, fun b o e => ?_, l ++ [(q, x)], ?_, by rw [List.map_append, h2]; rfl, fun z hz => ?_⟩
  · rw [upd_ne (ne_of_none e hD)]
    exact s0 _ _ e
  · rw [upd_same, List.map_append]
    rfl
  · rcases List.mem_append.mp hz with hz | hz
    · have ne : z.1 ≠ D := fun e => by
        have e2 := (h3 z hz).1
        rw [e, h1] at e2
        cases l with
        | nil => exact nomatch hz
        | cons y l =>
          cases h : z.2 with
          | nil => rw [h] at e2; simp at e2
          | cons n ns => rw [h] at e2; simp at e2
      exact ⟨by rw [upd_ne ne]; exact (h3 z hz).1, (h3 z hz).2⟩
    · rw [List.mem_singleton] at hz
      subst hz
      exact ⟨by rw [upd_ne hqD]; exact hq, hq0⟩
section
variable {P : Program} {w : World} {K : PySem.W.Frag} {mg : Str → Option Value} {base : Heap}
def spInsides : Sp := fun vs H Q _ => ∃ (a : Addr) (N : List (Option Int)), vs = [.ref a] ∧ NestAt H a N ∧ G.NestOk N ∧ ∀ r H', Same H H' → H r = none → LsAt H H' r (insAll N) → Q (.ref r) H'
theorem sc_law_insides : FnScope ["_law_nest_here", "_law_found", "_law_door", "_law_some", "_law_turn", "_law_k"] ["_law_nest_here"] (defScope s_law_insides) := ⟨rfl, rfl, rfl, by decide +kernel, rfl, by decide +kernel, by decide +kernel⟩
theorem ok_law_insides (T : Txt K mg) : Def P w K mg base 1 "_law_insides" ["_law_nest_here"] spInsides := by
  obtain ⟨fd, F⟩ := T.f_law_insides
  refine mkDef F T.m_law_insides (fun _ _ _ _ _ _ us hl => match us, hl with | [_], _ => rfl) (fok F sc_law_insides (fun vs H Q E h => ?_) (fun cdv A outer s H vs Q E hr h => ?_))
  · obtain ⟨a, N, rfl, _⟩ := h
    rfl
  obtain ⟨a, N, rfl, hN, ok, q⟩ := h
  have few := ok.few
  have hlN : ((N.map oV).length : Int) = N.length := by rw [List.length_map]
  refine ⟨_, (pss_cons (ps_set (i := 1) sc_law_insides.nd rfl (Or.inl rfl) (pe_lst pa_nil)) <|
    pss_cons (ps_for PassesOwn.never rfl (pi_range1 (by rfl) T.z_range (pa_cons (pe_callB (len_K (K := K)) (by rfl) T.z_len boot_len (pa_cons (pv 0) pa_nil)) pa_nil)) (pg_name (i := 2) sc_law_insides.nd rfl (Or.inr rfl)) (
      pss_cons (ps_set (i := 3) sc_law_insides.nd rfl (Or.inr rfl) (pe_lst (pa_cons (pv 2) pa_nil))) <|
      pss_cons (ps_for PassesOwn.never rfl (pi_range1 (by rfl) T.z_range (pa_cons (pe_callB (len_K (K := K)) (by rfl) T.z_len boot_len (pa_cons (pv 0) pa_nil)) pa_nil)) (pg_name (i := 4) sc_law_insides.nd rfl (Or.inl rfl))
        (pss_one (ps_set (i := 3) sc_law_insides.nd rfl (Or.inr rfl) (pe_op op_cat (pv 3) (pe_lc (own := [("_law_k", 5)]) (g := gName 5) (by rfl) sc_law_insides.nd (pi_range1 (by rfl) T.z_range (pa_cons (pe_callB (len_K (K := K)) (by rfl) T.z_len boot_len (pa_cons (pv 0) pa_nil)) pa_nil))
          (blkOk_by (N := ["_law_nest_here", "_law_found", "_law_door", "_law_some", "_law_turn", "_law_k"]) (sc := defScope s_law_insides) (by decide +kernel))
          (fun _ _ _ _ _ => pg_name (i := 5) sc_law_insides.nd rfl (Or.inl rfl))
          (fun _ _ _ _ _ => pts_one (PW.pt (pw_and (pt_cmpR (in_K (K := K)) (pe_ix (ixT_K (K := K)) (pv 0) (pv 5) (fun _ _ => rfl)) (pv 3) (by rfl)) (pw_and1 (pt_cmpR (notIn_K (K := K)) (pv 5) (pv 3) (by rfl))))))
          (fun _ _ _ _ _ => pv 5)))))) <|
      pss_one (ps_expr (pe_bm PySem.F.plainAttrs_list PySem.F.slot_list_append PySem.F.type_list_append mt_append (pv 1) (pa_cons (pe_callB (sorted_K (K := K)) (by rfl) T.z_sorted (by decide +kernel) (pa_cons (pe_lc (own := [("_law_k", 5)]) (g := gName 5) (by rfl) sc_law_insides.nd (pi_list (pv 3))
          (blkOk_by (N := ["_law_nest_here", "_law_found", "_law_door", "_law_some", "_law_turn", "_law_k"]) (sc := defScope s_law_insides) (by decide +kernel))
          (fun _ _ _ _ _ => pg_name (i := 5) sc_law_insides.nd rfl (Or.inl rfl))
          (fun _ _ _ _ _ => pts_one (pt_cmpR op_ne (pv 5) (pv 2) (by rfl)))
          (fun _ _ _ _ _ => pv 5)) pa_nil)) pa_nil))))) <|
    pss_one (ps_ret (pv 1))), ?_⟩
  refine ⟨line_le (by decide), fun D hD => ?_⟩
  have W0 := LsI.start hD
  refine ⟨_, rfl, a, _, rfl, .inr (SqT.of (W0.same _ _ hN)), _, rfl, by omega, by omega, ?_⟩
  rw [hlN]
  refine for_range (lo := 0) (n := N.length) (fun i σ H' => ∃ (v2 v3 v4 v5 : Option V), σ = [some (.ref a), some (.ref D), v2, v3, v4, v5] ∧ LsI H D (((G.rng N.length).take i).map (G.ins N)) H') ⟨none, none, none, none, rfl, W0⟩ ?_ ?_
  · rintro i σ H1 hi ⟨v2, v3, v4, v5, rfl, W⟩
    have e0 : (0 : Int) + (i : Nat) = (i : Nat) := by omega
    rw [e0]
    refine ⟨_, rfl, line1, fun S0 hS0 => ?_⟩
    have s1 := same_upd (o := .lst [V.int (i : Nat)]) hS0
    have g1 : upd H1 S0 (.lst [V.int (i : Nat)]) S0 = some (.lst ([(i : Int)].map V.int)) := upd_same
    generalize upd H1 S0 (.lst [V.int (i : Nat)]) = H2 at s1 g1
    have hDS0 : S0 ≠ D := fun e => by
      obtain ⟨l, h1, _⟩ := W.at_
      rw [e, h1] at hS0
      cases hS0
    have W2 := W.go s1
    refine ⟨_, rfl, a, _, rfl, .inr (SqT.of (W2.same _ _ hN)), _, rfl, by omega, by omega, ?_⟩
    rw [hlN]
    refine for_range (lo := 0) (n := N.length) (fun t σ H' => ∃ (v4 v5 : Option V) (S : Addr) (ss : List Int), σ = [some (.ref a), some (.ref D), some (.int (i : Nat)), some (.ref S), v4, v5] ∧ LsI H D (((G.rng N.length).take i).map (G.ins N)) H' ∧ S ≠ D ∧ H' S = some (.lst (ss.map V.int)) ∧ G.CI N (i : Nat) t ss)
      ⟨v4, v5, S0, _, rfl, W2, hDS0, g1, G.CI.start (by omega) (by omega)⟩ ?_ ?_
    · rintro t σ H3 ht ⟨v4, v5, S, ss, rfl, W3, hSD, hS, ci⟩
      have sl := ci.len
      refine ⟨_, rfl, _, rfl, a, _, rfl, .inr (SqT.of (W3.same _ _ hN)), _, rfl, by omega, by omega, fun E0 hE0 => ?_⟩
      rw [hlN]
      refine lc_range (lo := 0) (n := N.length) (fun k H' => FI H3 E0 (((G.rng N.length).take k).filter (G.cloP N ss)) H') (FI.start hE0) ?_ ?_
      · rintro k H' hk h
        have e1 : (0 : Int) + (k : Nat) = (k : Nat) := by omega
        rw [e1]
        have hk' := G.rng_get hk
        have hN' := h.same _ _ (W3.same _ _ hN)
        have hS' := h.same _ _ hS
        refine ⟨rfl, _, rfl, _, rfl, a, _, _, _, rfl, rfl, SqT.of hN', nest_at (by omega) (by omega), _, rfl, S, _, rfl, .inl (SqL.of hS'), ?_, flat_ints _, ?_⟩
        · cases G.par N (k : Nat) <;> rfl
        have ein : inV (oV (G.par N (k : Nat))) (ss.map V.int) = G.parIn N ss (k : Nat) := by
          unfold G.parIn
          cases G.par N (k : Nat) with
          | none => exact inV_none _
          | some j => exact inV_ints _ _
        rw [ein, filter_snoc _ hk']
        have hlen : (((G.rng N.length).take k).filter (G.cloP N ss)).length < sizeLine := line_lt (by
          have := List.length_filter_le (G.cloP N ss) ((G.rng N.length).take k)
          rw [List.length_take, G.rng_length] at this
          omega)
        refine ⟨_, rfl, ite2 (fun c => ?_) (fun c => ?_)⟩
        · refine ⟨_, rfl, _, rfl, S, _, rfl, .inl (SqL.of hS'), rfl, flat_ints _, ?_⟩
          rw [inV_ints]
          refine ⟨_, rfl, ite2 (fun c2 => ?_) (fun c2 => ?_)⟩
          · have hp : G.cloP N ss (k : Nat) = true := by unfold G.cloP; rw [c, c2]; rfl
            rw [if_pos hp]
            exact ⟨_, rfl, FI.add hE0 h (Same.refl _) hlen⟩
          · have hp : ¬ G.cloP N ss (k : Nat) = true := by unfold G.cloP; rw [c]; simpa using c2
            rw [if_neg hp, List.append_nil]
            exact h
        · have hp : ¬ G.cloP N ss (k : Nat) = true := by unfold G.cloP; simp [c]
          rw [if_neg hp, List.append_nil]
          exact iteF h
      · rintro H4 h
        rw [List.take_of_length_le (by rw [G.rng_length]; omega)] at h
        refine ⟨S, E0, _, _, rfl, rfl, h.same _ _ hS, h.at_, ?_, fun p hp => ?_⟩
        · have := (ci.step ok).len
          unfold G.clo at this
          rw [List.length_append] at this
          rw [List.length_map, List.length_map]
          exact line_le (by omega)
        · have sp := same_upd (o := .lst (ss.map V.int ++ ((G.rng N.length).filter (G.cloP N ss)).map V.int)) hp
          have W4 := (W3.go h.same).go sp
          refine ⟨_, _, p, G.clo N ss, rfl, W4, fun e => ?_, ?_, ci.step ok⟩
          · obtain ⟨l, h1, _⟩ := (W3.go h.same).at_
            rw [e, h1] at hp
            cases hp
          · rw [upd_same]
            unfold G.clo
            rw [List.map_append]
    · rintro σ H3 ⟨v4, v5, S, ss, rfl, W3, hSD, hS, ci⟩
      have sl := ci.len
      obtain ⟨lD, hlD, _, _⟩ := W3.at_
      refine ⟨_, rfl, .inl ⟨rfl, _, SqL.of hlD⟩, ?_⟩
      refine ⟨_, rfl, S, rfl, ⟨_, SqL.of hS⟩, fun E0 hE0 => ?_⟩
      let pr : Int → Bool := fun k => !decide (k = (i : Nat))
      refine lc_list (K := K) (a := S) (xs := ss.map V.int) (fun k H' => FI H3 E0 ((ss.take k).filter pr) H') (FI.start hE0) (fun i H' _ h => SqL.of (h.same _ _ hS)) ?_ ?_
      · rintro k y H' hk h
        obtain ⟨x, hx, rfl⟩ := map_get hk
        refine ⟨rfl, _, rfl, _, rfl, rfl, _, rfl, ?_⟩
        rw [dec_int, filter_snoc _ hx]
        refine ite2 (fun c => ?_) (fun c => ?_)
        · rw [if_pos (show pr x = true from c)]
          refine ⟨_, rfl, FI.add hE0 h (Same.refl _) (line_lt ?_)⟩
          have := List.length_filter_le pr (ss.take k)
          rw [List.length_take] at this
          omega
        · rw [if_neg (show ¬ pr x = true from c), List.append_nil]
          exact h
      · rintro H4 h
        rw [List.length_map, List.take_length] at h
        have fl := List.length_filter_le pr ss
        refine ⟨E0, _, rfl, SqL.of h.at_, by omega, fun ns' p hperm hsort hp => ?_⟩
        have sp := same_upd (o := .lst (ns'.map V.int)) hp
        have e : ns' = G.ins N (i : Nat) := ci.fin ok hperm hsort
        subst e
        have W4 := (W3.go h.same).go sp
        have hk' := G.rng_get hi
        obtain ⟨acc, a1, a2, a3⟩ := LsI.add (x := G.ins N (i : Nat)) hD W4 upd_same (Same.free (W3.go h.same).same hp) (fun e => by
          obtain ⟨l, h1, _⟩ := (W3.go h.same).at_
          rw [e, h1] at hp
          cases hp) (line_lt (by rw [List.length_map, List.length_take, G.rng_length]; omega))
        refine ⟨D, acc, .ref p, rfl, rfl, a1, a2, _, _, _, _, rfl, ?_⟩
        rw [take_snoc hk', List.map_append]
        exact a3
  · rintro σ H1 ⟨v2, v3, v4, v5, rfl, W⟩
    rw [List.take_of_length_le (by rw [G.rng_length]; omega)] at W
    exact ⟨_, rfl, q D H1 W.same hD W.at_⟩
end
end Kd

/-! ### the law's numbers -/
namespace Kd
open PySem PySem.Spec PyProof.Rows L2
/-- such a list, with D none of its lists -/
def LsNe (D : Addr) (H : Hp) (r : Addr) (xs : List (List Int)) : Prop := ∃ l : List (Addr × List Int), H r = some (.lst (l.map fun p => V.ref p.1)) ∧ l.map (·.2) = xs ∧ ∀ p ∈ l, H p.1 = some (.lst (p.2.map V.int)) ∧ p.1 ≠ D
theorem LsAt.ne {H0 H : Hp} {a D : Addr} {o : HO} {xs : List (List Int)} (h : LsAt H0 H a xs) (hD : H0 D = some o) : LsNe D H a xs := by
  obtain ⟨l, h1, h2, h3⟩ := h
  exact ⟨l, h1, h2, fun p hp => ⟨(h3 p hp).1, fun e => by have := (h3 p hp).2; rw [e, hD] at this; cases this⟩⟩
theorem LsAt.ne' {H0 H : Hp} {a D : Addr} {xs : List (List Int)} (h : LsAt H0 H a xs) (hD : H D = none) : LsNe D H a xs := by
  obtain ⟨l, h1, h2, h3⟩ := h
  exact ⟨l, h1, h2, fun p hp => ⟨(h3 p hp).1, free_ne (h3 p hp).1 hD⟩⟩
theorem LsNe.same {D : Addr} {H H' : Hp} {a : Addr} {xs : List (List Int)} (h : LsNe D H a xs) (s : Same H H') : LsNe D H' a xs := by
  obtain ⟨l, h1, h2, h3⟩ := h
  exact ⟨l, s _ _ h1, h2, fun p hp => ⟨s _ _ (h3 p hp).1, (h3 p hp).2⟩⟩
theorem LsNe.get {D : Addr} {H : Hp} {a : Addr} {xs : List (List Int)} (h : LsNe D H a xs) {i : Nat} {x : List Int} (hx : xs[i]? = some x) : ∃ (vs : List V) (p : Addr), H a = some (.lst vs) ∧ vs[i]? = some (.ref p) ∧ H p = some (.lst (x.map V.int)) ∧ vs.length = xs.length := by
  obtain ⟨l, h1, h2, h3⟩ := h
  rw [← h2, List.getElem?_map] at hx
  obtain ⟨p, hp, rfl⟩ := Option.map_eq_some_iff.mp hx
  exact ⟨_, p.1, h1, by rw [List.getElem?_map, hp]; rfl, (h3 p (List.mem_of_getElem? hp)).1, by rw [← h2, List.length_map, List.length_map]⟩
theorem insAll_get {N : List (Option Int)} {i : Nat} (h : i < N.length) : (insAll N)[i]? = some (G.ins N (i : Nat)) := by
  unfold insAll
  rw [List.getElem?_map, G.rng_get h]
  rfl
theorem RowAt.ner {r sc a : Addr} {H : Hp} {l : List Addr} (h : RowAt r sc H) (ha : H a = some (.lst (l.map V.ref))) : a ≠ r := fun e => by
  obtain ⟨_, _, _, h, _⟩ := h
  rw [e, h] at ha
  cases l with
  | nil => simp at ha
  | cons x l => cases l <;> simp at ha
def NumOk (ns : List Int) : Prop := ns.Pairwise (· < ·) ∧ ∀ x ∈ ns, 0 ≤ x ∧ x ≤ 8
/-- what stands while numbers are drawn: the inside lists at sm, the list of tuples at D -/
structure NuI (H0 : Hp) (r sc D sm : Addr) (xs : List (List Int)) (l : List (Addr × List Int)) (H' : Hp) : Prop where
  but : But r H0 H'
  row : RowAt r sc H'
  ls : LsNe D H' sm xs
  at_ : H' D = some (.lst (l.map fun p => V.ref p.1))
  tup : ∀ p ∈ l, H' p.1 = some (.tup (p.2.map V.int))
  ok : ∀ p ∈ l, NumOk p.2
  smD : sm ≠ D
section
variable {H0 H1 H2 : Hp} {r sc D sm : Addr} {xs : List (List Int)} {l : List (Addr × List Int)}
theorem NuI.go (h : NuI H0 r sc D sm xs l H1) (hDr : D ≠ r) (b : But r H1 H2) (row : RowAt r sc H2) : NuI H0 r sc D sm xs l H2 := by
  obtain ⟨m, e1, e2, e3⟩ := h.ls
  have hs : sm ≠ r := h.row.ner (l := m.map (·.1)) (by rw [List.map_map]; exact e1)
  exact ⟨But.trans h.but b, row, ⟨m, b _ _ hs e1, e2, fun p hp => ⟨b _ _ (h.row.nei (e3 p hp).1) (e3 p hp).1, (e3 p hp).2⟩⟩, b _ _ hDr h.at_, fun p hp => h.row.tups b _ _ (h.tup p hp), h.ok, h.smD⟩
theorem NuI.same (h : NuI H0 r sc D sm xs l H1) (hDr : D ≠ r) (s : Same H1 H2) : NuI H0 r sc D sm xs l H2 := h.go hDr (Same.but s) (h.row.same s)
theorem NuI.add {q : Addr} {ns : List Int} (h : NuI H0 r sc D sm xs l H1) (hD : H0 D = none) (hDr : D ≠ r) (hq : H1 q = some (.tup (ns.map V.int))) (hn : NumOk ns) : NuI H0 r sc D sm xs (l ++ [(q, ns)]) (upd H1 D (.lst ((l.map fun p => V.ref p.1) ++ [.ref q]))) := by
  have t : Tups H1 (upd H1 D (.lst ((l.map fun p => V.ref p.1) ++ [.ref q]))) := tups_upd (nt_lst h.at_)
  obtain ⟨m, e1, e2, e3⟩ := h.ls
  refine ⟨fun c o hc e => ?_, h.row.keep fun o e => by rw [upd_ne (Ne.symm hDr)]; exact e, ⟨m, by rw [upd_ne h.smD]; exact e1, e2, fun p hp => ⟨?_, (e3 p hp).2⟩⟩, by rw [upd_same, List.map_append]; rfl, fun p hp => ?_, fun p hp => ?_, h.smD⟩
  · rw [upd_ne (free_ne e hD)]
    exact h.but _ _ hc e
  · rw [upd_ne (e3 p hp).2]
    exact (e3 p hp).1
  · rcases List.mem_append.mp hp with hp | hp
    · exact t _ _ (h.tup p hp)
    · rw [List.mem_singleton] at hp
      subst hp
      exact t _ _ hq
  · rcases List.mem_append.mp hp with hp | hp
    · exact h.ok p hp
    · rw [List.mem_singleton] at hp
      subst hp
      exact hn
end
def Below (m : Int) (hs : List Int) : Prop := hs.Pairwise (· < ·) ∧ ∀ x ∈ hs, 0 ≤ x ∧ x < m
theorem Below.add {m : Int} {hs : List Int} (h : Below m hs) (h0 : 0 ≤ m) : Below (m + 1) (hs ++ [m]) := by
  refine ⟨List.pairwise_append.mpr ⟨h.1, by simp, fun a ha b hb => ?_⟩, fun x hx => ?_⟩
  · rw [List.mem_singleton] at hb
    subst hb
    exact (h.2 a ha).2
  · rcases List.mem_append.mp hx with hx | hx
    · have := h.2 x hx
      omega
    · rw [List.mem_singleton] at hx
      omega
theorem Below.up {m k : Int} {hs : List Int} (h : Below m hs) (hk : m ≤ k) : Below k hs := ⟨h.1, fun x hx => by have := h.2 x hx; omega⟩
theorem Below.len {m : Int} {hs : List Int} (h : Below m hs) : hs.length ≤ m.toNat := by
  have := (G.nodup_of_lt h.1).length_le_of_subset (l₂ := G.rng m.toNat) fun x hx => G.mem_rng.mpr (by have := h.2 x hx; omega)
  rwa [G.rng_length] at this
theorem Below.num {m : Int} {hs : List Int} (h : Below m hs) (hm : m ≤ 9) : NumOk hs := ⟨h.1, fun x hx => by have := h.2 x hx; omega⟩
theorem Below.nil {m : Int} : Below m [] := ⟨List.Pairwise.nil, fun _ h => nomatch h⟩
section
variable {P : Program} {w : World} {K : PySem.W.Frag} {mg : Str → Option Value} {base : Heap}
def spNumbers (K : PySem.W.Frag) : Sp := fun vs H Q _ => ∃ (r sc a : Addr) (N : List (Option Int)), vs = [.ref r, .ref a] ∧ RowAt r sc H ∧ ScOk K H sc ∧ NestAt H a N ∧ G.NestOk N ∧ ∀ v nums H', But r H H' → RowAt r sc H' → G.NumsOk N.length nums → RowsAt H' v nums → Q (.ref v) H'
theorem sc_law_numbers : FnScope ["_law_row", "_law_nest_here", "_law_found", "_law_some", "_law_thin_here", "_law_k", "_law_here", "_law_x"] ["_law_row", "_law_nest_here"] (defScope s_law_numbers) := ⟨rfl, rfl, rfl, by decide +kernel, rfl, by decide +kernel, by decide +kernel⟩
theorem ok_law_numbers (T : Txt K mg) (D1 : Def P w K mg base 1 "_law_taken" ["_law_row", "_law_many"] (spTaken K)) (D2 : Def P w K mg base 2 "_law_pick" ["_law_row", "_law_things"] (spPick K)) (D3 : Def P w K mg base 1 "_law_insides" ["_law_nest_here"] spInsides) :
    Def P w K mg base 3 "_law_numbers" ["_law_row", "_law_nest_here"] (spNumbers K) := by
  obtain ⟨fd, F⟩ := T.f_law_numbers
  refine mkDef F T.m_law_numbers (fun _ _ _ _ _ _ us hl => match us, hl with | [_, _], _ => rfl) (fok F sc_law_numbers (fun vs H Q E h => ?_) (fun cdv A outer s H vs Q E hr h => ?_))
  · obtain ⟨r, sc, a, N, rfl, _⟩ := h
    rfl
  obtain ⟨r, sc, a, N, rfl, hrow, hsc, hN, ok, q⟩ := h
  have few := ok.few
  have hlN : ((N.map oV).length : Int) = N.length := by rw [List.length_map]
  have hr1 := hr.mono (show 1 ≤ 2 by decide)
  refine ⟨_, (pss_cons (ps_par rfl sc_law_numbers.nd (i := 2) (j := 3) rfl rfl (by decide) rfl rfl (pa_cons (pe_lst pa_nil) (pa_cons (pe_c D3 hr1 (by rfl) (pa_cons (pv 1) pa_nil)) pa_nil)) (by rfl)) <|
    pss_cons (ps_set (i := 4) sc_law_numbers.nd rfl (Or.inr rfl) (pe_c D2 hr (by rfl) (pa_cons (pv 0) (pa_cons (pe_lst (pa_cons pe_int (pa_cons pe_int (pa_cons pe_int pa_nil)))) pa_nil)))) <|
    pss_cons (ps_for PassesOwn.never rfl (pi_range1 (by rfl) T.z_range (pa_cons (pe_callB (len_K (K := K)) (by rfl) T.z_len boot_len (pa_cons (pv 1) pa_nil)) pa_nil)) (pg_name (i := 5) sc_law_numbers.nd rfl (Or.inl rfl)) (
      pss_cons (ps_setLc (i := 6) (own := [("_law_x", 7)]) (by rfl) sc_law_numbers.nd rfl rfl (sw_true rfl rfl rfl (by decide +kernel)) (pi_range1 (by rfl) T.z_range (pa_cons (pe_op op_add (pe_callB (len_K (K := K)) (by rfl) T.z_len boot_len (pa_cons (pe_ix (ixL_K (K := K)) (pv 3) (pv 5) (fun _ _ => rfl)) pa_nil)) pe_int) pa_nil))
          (blkOk_by (N := ["_law_row", "_law_nest_here", "_law_found", "_law_some", "_law_thin_here", "_law_k", "_law_here", "_law_x"]) (sc := defScope s_law_numbers) (by decide +kernel))
          (fun _ _ _ _ _ => pg_name (i := 7) sc_law_numbers.nd rfl (Or.inl rfl))
          (fun _ _ _ _ _ => pts_one (pt_cmpR op_gt (pe_c D1 hr1 (by rfl) (pa_cons (pv 0) (pa_cons (pv 4) pa_nil))) pe_int (nomark _)))
          (fun _ _ _ _ _ => pv 7)) <|
      pss_cons (ps_if (PW.pt (pw_and (pt_cmpR (op_eqNil (K := K) (hu0 hr)) (pv 6) (pe_lst pa_nil) (by rfl)) (pw_and1 (pt_cmpR op_gt (pe_c D1 hr1 (by rfl) (pa_cons (pv 0) (pa_cons pe_int pa_nil))) pe_int (nomark _)))))
        (pss_one (ps_set (i := 6) sc_law_numbers.nd rfl (Or.inl rfl) (pe_lst (pa_cons (pe_c D1 hr1 (by rfl) (pa_cons (pv 0) (pa_cons (pe_op op_add (pe_callB (len_K (K := K)) (by rfl) T.z_len boot_len (pa_cons (pe_ix (ixL_K (K := K)) (pv 3) (pv 5) (fun _ _ => rfl)) pa_nil)) pe_int) pa_nil))) pa_nil)))) pss_nil) <|
      pss_cons (ps_if (pt_cmpR op_eq (pe_c D1 hr1 (by rfl) (pa_cons (pv 0) (pa_cons pe_int pa_nil))) pe_int (nomark _))
        (pss_one (ps_set (i := 6) sc_law_numbers.nd rfl (Or.inl rfl) (pe_op op_cat (pv 6) (pe_op op_rep (pe_lst (pa_cons (pe_op op_add (pe_callB (len_K (K := K)) (by rfl) T.z_len boot_len (pa_cons (pe_ix (ixL_K (K := K)) (pv 3) (pv 5) (fun _ _ => rfl)) pa_nil)) pe_int) pa_nil))
          (pe_callTy call_int1 (by rfl) T.z_int (by decide +kernel) (pa_cons (pe_cmpR op_lt (pe_callB (len_K (K := K)) (by rfl) T.z_len boot_len (pa_cons (pe_ix (ixL_K (K := K)) (pv 3) (pv 5) (fun _ _ => rfl)) pa_nil)) pe_int (nomark _)) pa_nil)))))) pss_nil) <|
      pss_one (ps_expr (pe_bm PySem.F.plainAttrs_list PySem.F.slot_list_append PySem.F.type_list_append mt_append (pv 2) (pa_cons (pe_callTy (tuple_K (K := K)) (by rfl) T.z_tuple (by decide +kernel) (pa_cons (pv 6) pa_nil)) pa_nil))))) <|
    pss_one (ps_ret (pe_callTy (tuple_K (K := K)) (by rfl) T.z_tuple (by decide +kernel) (pa_cons (pv 2) pa_nil)))), ?_⟩
  refine ⟨line_le (by decide), fun D hD => ?_⟩
  have hDr : D ≠ r := hrow.ne hD
  have s1 := same_upd (o := .lst []) hD
  have g1 : upd H D (.lst []) D = some (.lst []) := upd_same
  generalize upd H D (.lst []) = HB at s1 g1
  refine ⟨_, rfl, a, N, rfl, s1 _ _ hN, ok, fun sm H1 s2 hsm hls => ⟨_, _, rfl, ?_⟩⟩
  have W1 : NuI H r sc D sm (insAll N) [] H1 := ⟨Same.but (Same.trans s1 s2), hrow.same (Same.trans s1 s2), hls.ne g1, s2 _ _ g1, (fun _ h => nomatch h), (fun _ h => nomatch h), fun e => by rw [e, g1] at hsm; cases hsm⟩
  have scH : ∀ {l : List (Addr × List Int)} {H' : Hp}, NuI H r sc D sm (insAll N) l H' → ScOk K H' sc := fun h => hsc.but hrow h.but
  refine ⟨_, rfl, line_le (by show 3 ≤ _; decide), fun t ht => ?_⟩
  have s3 := same_upd (o := .lst [V.int 2, V.int 3, V.int 5]) ht
  have W2 := W1.same hDr s3
  refine ⟨r, sc, t, [2, 3, 5], rfl, W2.row, scH W2, upd_same, by simp, by decide, fun thin H3 b3 row3 hthin => ?_⟩
  have W3 := W2.go hDr b3 row3
  have hthin' : 0 < thin ∧ thin < 1000 := by
    have : thin = 2 ∨ thin = 3 ∨ thin = 5 := by simpa using hthin
    omega
  clear W1 W2
  refine ⟨_, rfl, a, _, rfl, .inr (SqT.of (hrow.tups W3.but _ _ hN)), _, rfl, by omega, by omega, ?_⟩
  rw [hlN]
  refine for_range (lo := 0) (n := N.length) (fun i σ H' => ∃ (v5 v6 v7 : Option V) (l : List (Addr × List Int)), σ = [some (.ref r), some (.ref a), some (.ref D), some (.ref sm), some (.int thin), v5, v6, v7] ∧ NuI H r sc D sm (insAll N) l H' ∧ l.length = i)
    ⟨none, none, none, [], rfl, W3, rfl⟩ ?_ ?_
  · rintro i σ H4 hi ⟨v5, v6, v7, l, rfl, W, hli⟩
    have e0 : (0 : Int) + (i : Nat) = (i : Nat) := by omega
    rw [e0]
    have hil := G.ins_len N (i : Nat)
    have inl : (G.ins N (i : Nat)).length ≤ 5 := by omega
    generalize hL : (G.ins N (i : Nat)).length = L at hil inl
    have look : ∀ {l : List (Addr × List Int)} {H' : Hp}, NuI H r sc D sm (insAll N) l H' → ∃ (vs : List V) (p : Addr), SqL K H' sm vs ∧ atI vs (i : Nat) = some (.ref p) ∧ SqL K H' p ((G.ins N (i : Nat)).map V.int) := fun h => by
      obtain ⟨vs, p, h1, h2, h3, _⟩ := h.ls.get (insAll_get hi)
      exact ⟨vs, p, SqL.of h1, at_of (j := i) rfl h2, SqL.of h3⟩
    obtain ⟨vs, p, k1, k2, k3⟩ := look W
    refine ⟨_, rfl, _, rfl, sm, vs, _, .ref p, rfl, rfl, k1, k2, p, _, rfl, .inl k3, _, _, rfl, rfl, ?_⟩
    rw [List.length_map, hL]
    refine ⟨_, rfl, by omega, by omega, fun E0 hE0 => ?_⟩
    have W0 := DrI.start W.row hE0
    have hEr : E0 ≠ r := W.row.ne hE0
    refine lc_range (lo := 0) (n := ((L : Int) + 1).toNat) (fun k H' => ∃ hs, DrI H4 r sc E0 (hs.map V.int) H' ∧ Below (k : Nat) hs) ⟨[], W0, Below.nil⟩ ?_ ?_
    · rintro k H' hk ⟨hs, h, hb⟩
      have e1 : (0 : Int) + (k : Nat) = (k : Nat) := by omega
      rw [e1]
      have Wk := W.go hDr h.but h.row
      refine ⟨rfl, _, rfl, _, rfl, r, sc, thin, rfl, h.row, scH Wk, hthin'.1, hthin'.2, fun x H5 b5 row5 _ _ => ⟨_, _, rfl, rfl, _, rfl, ?_⟩⟩
      have h5 := h.go hEr b5 row5
      refine ite2 (fun c => ?_) (fun c => ?_)
      · refine ⟨_, rfl, _, h5.at_, line_lt ?_, hs ++ [(k : Int)], ?_, hb.add (by omega)⟩
        · have := hb.len
          rw [List.length_map]
          omega
        · rw [List.map_append]
          exact h5.add hE0 hEr _
      · exact ⟨hs, h5, hb.up (by omega)⟩
    rintro H5 ⟨hs, h5, hb⟩
    have W5 := W.go hDr h5.but h5.row
    have hb' : Below ((L : Int) + 1) hs := hb.up (by omega)
    have at5 := h5.at_
    clear h5 hb W0
    have m1 : ∀ DD : Ends, (∀ E hs H', NuI H r sc D sm (insAll N) l H' → H' E = some (.lst (hs.map V.int)) → Below ((L : Int) + 1) hs → DD.nx [some (.ref r), some (.ref a), some (.ref D), some (.ref sm), some (.int thin), some (.int (i : Nat)), some (.ref E), v7] H') →
        tIfS (tAnd (tTest (tOp (rEqNil K) (tVar 6) (tLst tNil))) (tTest (tOp (rI0 fun i j => V.bl (decide (j < i))) (tCall (spTaken K) [] L2.E0 (tCons (tVar 0) (tCons (tC (V.int 6)) tNil))) (tC (V.int 0)))))
          (tAsg (tLst (tCons (tCall (spTaken K) [] L2.E0 (tCons (tVar 0) (tCons (tOp (rI0 fun i j => V.int (i + j)) (tCB (rLn K) (tCons (tOp (rIxL K) (tVar 3) (tVar 5)) tNil)) (tC (V.int 1))) tNil))) tNil)) (gName 6)) tNext
          DD [some (.ref r), some (.ref a), some (.ref D), some (.ref sm), some (.int thin), some (.int (i : Nat)), some (.ref E0), v7] H5 := fun DD hDD => by
      refine ⟨_, rfl, line_le (by decide), fun e0 he0 => ?_⟩
      have s6 := same_upd (o := .lst []) he0
      have W6 := W5.same hDr s6
      refine ⟨E0, e0, _, rfl, rfl, SqL.of (s6 _ _ at5), SqL.of upd_same, _, rfl, ?_⟩
      have at6 := s6 _ _ at5
      generalize upd H5 e0 (.lst []) = H6 at s6 W6 at6
      refine ite2 (fun c => ?_) (fun c => hDD _ _ _ W6 at6 hb')
      have hE6 : E0 ≠ r := W6.row.nei at6
      refine ⟨_, rfl, r, sc, 6, rfl, W6.row, scH W6, by decide, by decide, fun x H7 b7 row7 _ _ => ⟨_, _, rfl, rfl, _, rfl, ?_⟩⟩
      have W7 := W6.go hDr b7 row7
      refine ite2 (fun _ => ?_) (fun _ => hDD _ _ _ W7 (b7 _ _ hE6 at6) hb')
      obtain ⟨vs, p, k1, k2, k3⟩ := look W7
      refine ⟨_, rfl, _, rfl, _, rfl, sm, vs, _, .ref p, rfl, rfl, k1, k2, p, _, rfl, .inl k3, _, _, rfl, rfl, ?_⟩
      rw [List.length_map, hL]
      refine ⟨r, sc, _, rfl, W7.row, scH W7, by omega, by omega, fun x H8 b8 row8 x0 x1 => ?_⟩
      have W8 := W7.go hDr b8 row8
      refine ⟨line1, fun E1 hE1 => ?_⟩
      have s9 := same_upd (o := .lst [V.int x]) hE1
      exact hDD E1 [x] _ (W8.same hDr s9) upd_same ⟨by simp, fun y hy => by
        rw [List.mem_singleton] at hy
        omega⟩
    refine m1 _ fun E1 hs1 H6 W6 at6 hb6 => ?_
    clear m1 W5 at5 hb'
    have m2 : ∀ DD : Ends, (∀ E hs H', NuI H r sc D sm (insAll N) l H' → H' E = some (.lst (hs.map V.int)) → NumOk hs → hs.length ≤ 10 → DD.nx [some (.ref r), some (.ref a), some (.ref D), some (.ref sm), some (.int thin), some (.int (i : Nat)), some (.ref E), v7] H') →
        tIfS (tTest (tOp rEq (tCall (spTaken K) [] L2.E0 (tCons (tVar 0) (tCons (tC (V.int 8)) tNil))) (tC (V.int 0))))
          (tAsg (tOp rCat (tVar 6) (tOp rRep (tLst (tCons (tOp (rI0 fun i j => V.int (i + j)) (tCB (rLn K) (tCons (tOp (rIxL K) (tVar 3) (tVar 5)) tNil)) (tC (V.int 1))) tNil))
            (tCB (fun xs H Q => (∃ i, xs = [V.int i] ∧ Q (V.int i) H) ∨ ∃ k, xs = [V.bl k] ∧ Q (V.int (if k = true then 1 else 0)) H) (tCons (tOp (rI0 fun i j => V.bl (decide (i < j))) (tCB (rLn K) (tCons (tOp (rIxL K) (tVar 3) (tVar 5)) tNil)) (tC (V.int 8))) tNil)))) (gName 6)) tNext
          DD [some (.ref r), some (.ref a), some (.ref D), some (.ref sm), some (.int thin), some (.int (i : Nat)), some (.ref E1), v7] H6 := fun DD hDD => by
      have hl6 := hb6.len
      have hE6 : E1 ≠ r := W6.row.nei at6
      refine ⟨_, rfl, r, sc, 8, rfl, W6.row, scH W6, by decide, by decide, fun x H7 b7 row7 _ _ => ⟨rfl, _, rfl, ?_⟩⟩
      have W7 := W6.go hDr b7 row7
      have at7 := b7 _ _ hE6 at6
      refine ite2 (fun _ => ?_) (fun _ => hDD _ _ _ W7 at7 (hb6.num (by omega)) (by omega))
      obtain ⟨vs, p, k1, k2, k3⟩ := look W7
      refine ⟨_, rfl, _, rfl, _, rfl, sm, vs, _, .ref p, rfl, rfl, k1, k2, p, _, rfl, .inl k3, _, _, rfl, rfl, ?_⟩
      rw [List.length_map, hL]
      refine ⟨line1, fun e1 he1 => ?_⟩
      have s8 := same_upd (o := .lst [V.int ((L : Int) + 1)]) he1
      have g8 : upd H7 e1 (.lst [V.int ((L : Int) + 1)]) e1 = some (.lst [V.int ((L : Int) + 1)]) := upd_same
      have W8 := W7.same hDr s8
      have at8 := s8 _ _ at7
      generalize upd H7 e1 (.lst [V.int ((L : Int) + 1)]) = H8 at s8 g8 W8 at8
      obtain ⟨vs, p, k1, k2, k3⟩ := look W8
      refine ⟨_, rfl, _, rfl, sm, vs, _, .ref p, rfl, rfl, k1, k2, p, _, rfl, .inl k3, _, _, rfl, rfl, ?_⟩
      rw [List.length_map, hL]
      have e8 : V.int (if decide ((L : Int) < 8) = true then 1 else 0) = V.int 1 := by rw [decide_eq_true (show (L : Int) < 8 by omega), if_pos rfl]
      refine .inr ⟨_, rfl, ?_⟩
      refine ⟨e1, 1, _, rfl, e8, g8, by decide, by decide, line_le (by show 1 * 1 ≤ 1000000; decide), fun e2 he2 => ?_⟩
      have s9 := same_upd (o := .lst [V.int ((L : Int) + 1)]) he2
      have W9 := W8.same hDr s9
      have at9 := s9 _ _ at8
      refine ⟨E1, e2, _, [V.int ((L : Int) + 1)], rfl, rfl, at9, upd_same, ?_, fun e3 he3 => ?_⟩
      · rw [List.length_map]
        exact line_le (by show hs1.length + 1 ≤ 1000000; omega)
      have s10 := same_upd (o := .lst (hs1.map V.int ++ [V.int ((L : Int) + 1)])) he3
      refine hDD e3 (hs1 ++ [(L : Int) + 1]) _ (W9.same hDr s10) (by rw [upd_same, List.map_append]; rfl) ((hb6.add (by omega)).num (by omega)) ?_
      rw [List.length_append]
      show hs1.length + 1 ≤ 10
      omega
    refine m2 _ fun E2 hs2 H7 W7 at7 hn hl => ?_
    clear m2
    refine ⟨_, rfl, .inl ⟨rfl, _, SqL.of W7.at_⟩, _, rfl, E2, _, rfl, .inl ⟨SqL.of at7, fun p hp => ?_⟩⟩
    have s8 := same_upd (o := .tup (hs2.map V.int)) hp
    have W8 := W7.same hDr s8
    refine ⟨D, _, .ref p, rfl, rfl, W8.at_, line_lt (by rw [List.length_map]; omega), _, _, _, l ++ [(p, hs2)], rfl, W8.add hD hDr upd_same hn, by rw [List.length_append, hli]; rfl⟩
  · rintro σ H4 ⟨v5, v6, v7, l, rfl, W, hli⟩
    refine ⟨_, rfl, D, _, rfl, .inl ⟨SqL.of W.at_, fun v hv => ?_⟩⟩
    have sv := same_upd (o := .tup (l.map fun p => V.ref p.1)) hv
    exact q v (l.map (·.2)) _ (But.trans W.but (Same.but sv)) (W.row.same sv) ⟨by rw [List.length_map]; exact hli, fun ns hns => by
      obtain ⟨p, hp, rfl⟩ := List.mem_map.mp hns
      exact W.ok p hp⟩ ⟨l, upd_same, rfl, fun p hp => sv _ _ (W.tup p hp)⟩
end
end Kd

/-! ### the law's case: a nest, its numbers -/
namespace Kd
open PySem PySem.Spec PyProof.Rows L2
theorem LsAt.but {H0 H1 H2 : Hp} {r sc sm : Addr} {xs : List (List Int)} (h : LsAt H0 H1 sm xs) (row : RowAt r sc H1) (b : But r H1 H2) : LsAt H0 H2 sm xs := by
  obtain ⟨m, e1, e2, e3⟩ := h
  have hs : sm ≠ r := row.ner (l := m.map (·.1)) (by rw [List.map_map]; exact e1)
  exact ⟨m, b _ _ hs e1, e2, fun p hp => ⟨b _ _ (row.nei (e3 p hp).1) (e3 p hp).1, (e3 p hp).2⟩⟩
section
variable {P : Program} {w : World} {K : PySem.W.Frag} {mg : Str → Option Value} {base : Heap}
def spThin (K : PySem.W.Frag) : Sp := fun vs H Q _ => ∃ r sc : Addr, vs = [.ref r] ∧ RowAt r sc H ∧ ScOk K H sc ∧ ∀ v a b N nums H', But r H H' → RowAt r sc H' → G.NestOk N → G.NumsOk N.length nums → NestAt H' a N → RowsAt H' b nums → H' v = some (.tup [.ref a, .ref b]) → Q (.ref v) H'
theorem sc_law_thin : FnScope ["_law_row", "_law_nest_here", "_law_some", "_law_numbers_here", "_law_found", "_law_k", "_law_last"] ["_law_row"] (defScope s_law_thin) := ⟨rfl, rfl, rfl, by decide +kernel, rfl, by decide +kernel, by decide +kernel⟩
theorem ok_law_thin (T : Txt K mg) (D1 : Def P w K mg base 1 "_law_taken" ["_law_row", "_law_many"] (spTaken K)) (D2 : Def P w K mg base 3 "_law_nest" ["_law_row", "_law_most"] (spNest K)) (D3 : Def P w K mg base 1 "_law_insides" ["_law_nest_here"] spInsides) (D4 : Def P w K mg base 3 "_law_numbers" ["_law_row", "_law_nest_here"] (spNumbers K)) :
    Def P w K mg base 4 "_law_thin" ["_law_row"] (spThin K) := by
  obtain ⟨fd, F⟩ := T.f_law_thin
  refine mkDef F T.m_law_thin (fun _ _ _ _ _ _ us hl => match us, hl with | [_], _ => rfl) (fok F sc_law_thin (fun vs H Q E h => ?_) (fun cdv A outer s H vs Q E hr h => ?_))
  · obtain ⟨r, sc, rfl, _⟩ := h
    rfl
  obtain ⟨r, sc, rfl, hrow, hsc, q⟩ := h
  have hr1 := hr.mono (show 1 ≤ 3 by decide)
  refine ⟨_, (pss_cons (ps_set (i := 1) sc_law_thin.nd rfl (Or.inl rfl) (pe_c D2 hr (by rfl) (pa_cons (pv 0) (pa_cons pe_int pa_nil)))) <|
    pss_cons (ps_par rfl sc_law_thin.nd (i := 2) (j := 3) rfl rfl (by decide) rfl rfl (pa_cons (pe_c D3 hr1 (by rfl) (pa_cons (pv 1) pa_nil)) (pa_cons (pe_c D4 hr (by rfl) (pa_cons (pv 0) (pa_cons (pv 1) pa_nil))) pa_nil)) (by rfl)) <|
    pss_cons (ps_if (pt_cmpR op_gt (pe_c D1 hr1 (by rfl) (pa_cons (pv 0) (pa_cons pe_int pa_nil))) pe_int (nomark _)) (
      pss_cons (ps_set (i := 4) sc_law_thin.nd rfl (Or.inl rfl) (pe_lst pa_nil)) <|
      pss_cons (ps_for PassesOwn.never rfl (pi_range1 (by rfl) T.z_range (pa_cons (pe_callB (len_K (K := K)) (by rfl) T.z_len boot_len (pa_cons (pv 1) pa_nil)) pa_nil)) (pg_name (i := 5) sc_law_thin.nd rfl (Or.inl rfl)) (
        pss_cons (ps_set (i := 6) sc_law_thin.nd rfl (Or.inl rfl) (pe_cmpR op_gt (pe_c D1 hr1 (by rfl) (pa_cons (pv 0) (pa_cons pe_int pa_nil))) pe_int (nomark _))) <|
        pss_one (ps_expr (pe_bm PySem.F.plainAttrs_list PySem.F.slot_list_append PySem.F.type_list_append mt_append (pv 4) (pa_cons (pe_callTy (tuple_K (K := K)) (by rfl) T.z_tuple (by decide +kernel) (pa_cons (pe_callB (sortedSet_w (w := w) (by rfl)) (by rfl) T.z_sorted (by decide +kernel) (pa_cons (pe_callTy (cr_setTI (K := K) (w := w) (by rfl)) (by rfl) T.z_set (by decide +kernel) (pa_cons (pe_op (catA_K (K := K)) (pe_ix (ixT_K (K := K)) (pv 3) (pv 5) (fun _ _ => rfl))
            (pe_ifExp (pt_val (pv 6)) (pe_tup (pa_cons (pe_callB (len_K (K := K)) (by rfl) T.z_len boot_len (pa_cons (pe_ix (ixL_K (K := K)) (pv 2) (pv 5) (fun _ _ => rfl)) pa_nil)) pa_nil))
              (pe_tup (pa_cons pe_int (pa_cons (pe_callB (call_max2 (by rfl)) (by rfl) T.z_max (by decide +kernel) (pa_cons pe_int (pa_cons (pe_op op_sub (pe_callB (len_K (K := K)) (by rfl) T.z_len boot_len (pa_cons (pe_ix (ixL_K (K := K)) (pv 2) (pv 5) (fun _ _ => rfl)) pa_nil)) pe_int) pa_nil))) pa_nil))))) pa_nil)) pa_nil)) pa_nil)) pa_nil))))) <|
      pss_one (ps_set (i := 3) sc_law_thin.nd rfl (Or.inl rfl) (pe_callTy (tuple_K (K := K)) (by rfl) T.z_tuple (by decide +kernel) (pa_cons (pv 4) pa_nil)))) pss_nil) <|
    pss_one (ps_ret (pe_tup (pa_cons (pv 1) (pa_cons (pv 3) pa_nil))))), ?_⟩
  refine ⟨_, rfl, r, sc, rfl, hrow, hsc, fun a N H1 b1 row1 ok hN => ?_⟩
  have few := ok.few
  have hlN : ((N.map oV).length : Int) = N.length := by rw [List.length_map]
  have sc1 := hsc.but hrow b1
  refine ⟨_, rfl, a, N, rfl, hN, ok, fun sm H2 s2 hsm hls => ?_⟩
  have row2 := row1.same s2
  refine ⟨_, rfl, _, rfl, r, sc, a, N, rfl, row2, sc1.same s2, hN.tups (Same.tups s2), ok, fun nb nums H3 b3 row3 okn hnb => ⟨_, _, rfl, ?_⟩⟩
  have b13 : But r H1 H3 := But.trans (Same.but s2) b3
  have sc3 := sc1.but row1 b13
  have hN3 : NestAt H3 a N := hN.tups (row1.tups b13)
  refine ⟨_, rfl, r, sc, 4, rfl, row3, sc3, by decide, by decide, fun x H4 b4 row4 _ _ => ⟨_, _, rfl, rfl, _, rfl, ?_⟩⟩
  have b14 := But.trans b13 b4
  have hN4 := hN3.tups (row3.tups b4)
  have hnb4 := hnb.tups (row3.tups b4)
  have hls4 := (hls.but row2 b3).but row3 b4
  have fin : ∀ (nb' : Addr) (nums' : List (List Int)) (v4 v5 v6 : Option V) H', But r H4 H' → RowAt r sc H' → G.NumsOk N.length nums' → RowsAt H' nb' nums' →
      tRet (tTup (tCons (tVar 1) (tCons (tVar 3) tNil))) { nx := fun _ H' => Q .non H', rt := Q } [some (.ref r), some (.ref a), some (.ref sm), some (.ref nb'), v4, v5, v6] H' := fun nb' nums' v4 v5 v6 H' b row okn' h => by
    refine ⟨_, rfl, _, rfl, line2, fun v hv => ?_⟩
    have sv := same_upd (o := .tup [V.ref a, V.ref nb']) hv
    exact q v a nb' N nums' _ (But.trans b1 (But.trans b14 (But.trans b (Same.but sv)))) (row.same sv) ok okn' ((hN4.tups (row4.tups b)).tups (Same.tups sv)) (h.tups (Same.tups sv)) upd_same
  refine ite2 (fun _ => ?_) (fun _ => fin _ _ _ _ _ H4 (But.refl _ _) row4 okn hnb4)
  refine ⟨line_le (by decide), fun D hD => ?_⟩
  have hDr : D ≠ r := row4.ne hD
  have sD := same_upd (o := .lst []) hD
  obtain ⟨ml, ml1, _, _⟩ := id hls4
  have W4 : NuI H4 r sc D sm (insAll N) [] (upd H4 D (.lst [])) := ⟨Same.but sD, row4.same sD, (hls4.ne' hD).same sD, upd_same, (fun _ h => nomatch h), (fun _ h => nomatch h), free_ne ml1 hD⟩
  have sc4 : ∀ {l : List (Addr × List Int)} {H' : Hp}, NuI H4 r sc D sm (insAll N) l H' → ScOk K H' sc := fun h => (sc3.but row3 b4).but row4 h.but
  refine ⟨_, rfl, a, _, rfl, .inr (SqT.of (sD _ _ hN4)), _, rfl, by omega, by omega, ?_⟩
  rw [hlN]
  refine for_range (lo := 0) (n := N.length) (fun i σ H' => ∃ (v5 v6 : Option V) (l : List (Addr × List Int)), σ = [some (.ref r), some (.ref a), some (.ref sm), some (.ref nb), some (.ref D), v5, v6] ∧ NuI H4 r sc D sm (insAll N) l H' ∧ l.length = i)
    ⟨none, none, [], rfl, W4, rfl⟩ ?_ ?_
  · rintro i σ H5 hi ⟨v5, v6, l, rfl, W, hli⟩
    have e0 : (0 : Int) + (i : Nat) = (i : Nat) := by omega
    rw [e0]
    have hil := G.ins_len N (i : Nat)
    have inl : (G.ins N (i : Nat)).length ≤ 5 := by omega
    generalize hL : (G.ins N (i : Nat)).length = L at hil inl
    refine ⟨_, rfl, r, sc, 3, rfl, W.row, sc4 W, by decide, by decide, fun x H6 b6 row6 _ _ => ⟨_, _, rfl, rfl, ?_⟩⟩
    have W6 := W.go hDr b6 row6
    have hnb6 := hnb4.tups (row4.tups W6.but)
    obtain ⟨vs, p, hb, hat, hp⟩ := rows_get hnb6 (k := (i : Nat)) (by omega) (by have := okn.len; omega)
    have hnum : NumOk (G.numOf nums (i : Nat)) := okn.asc _ (List.mem_of_getElem? (G.numOf_get okn.len (k := (i : Nat)) (by omega) (by omega)))
    have hnl : (G.numOf nums (i : Nat)).length ≤ 9 := few9 hnum.1 hnum.2
    obtain ⟨us, p2, m1, m2, m3, _⟩ := W6.ls.get (insAll_get hi)
    have tail : ∀ (last : V) (u : Addr) (zs : List Int) (H7 : Hp), NuI H4 r sc D sm (insAll N) l H7 → H7 u = some (.tup (zs.map V.int)) → (∀ z ∈ zs, 0 ≤ z ∧ z ≤ 8) → zs.length ≤ 11 →
        rSetTI K w [.ref u] H7 fun x2 H8 => rSortedSet w [x2] H8 fun x3 H9 => rTupl K [x3] H9 fun x4 HA => rAppend (V.ref D) [x4] HA fun _ HB =>
          ∃ (v5 v6 : Option V) (l : List (Addr × List Int)), [some (.ref r), some (.ref a), some (.ref sm), some (.ref nb), some (.ref D), some (.int (i : Nat)), some last] = [some (.ref r), some (.ref a), some (.ref sm), some (.ref nb), some (.ref D), v5, v6] ∧ NuI H4 r sc D sm (insAll N) l HB ∧ l.length = i + 1 := by
      intro last u zs H7 W7 hu hz hzl
      refine ⟨u, zs, rfl, SqT.of hu, by omega, fun st n hst hn => ?_⟩
      have s8 := same_upd (o := SetO w st (fun k => decide (k ∈ zs)) n) hst
      have W8 := W7.same hDr s8
      refine ⟨st, _, n, rfl, upd_same, by omega, fun ns' pp hlt hmem hlen hpp => ?_⟩
      have s9 := same_upd (o := .lst (ns'.map V.int)) hpp
      have W9 := W8.same hDr s9
      refine ⟨pp, _, rfl, .inl ⟨SqL.of upd_same, fun tt htt => ?_⟩⟩
      have s10 := same_upd (o := .tup (ns'.map V.int)) htt
      have WA := W9.same hDr s10
      refine ⟨D, _, .ref tt, rfl, rfl, WA.at_, line_lt (by rw [List.length_map]; omega), _, _, l ++ [(tt, ns')], rfl, WA.add hD hDr upd_same ⟨hlt, fun x hx => hz x (by simpa using (hmem x).mp hx)⟩, by rw [List.length_append, hli]; rfl⟩
    have cat : ∀ (last : V) (t : Addr) (ys : List Int) (H7 : Hp), Same H6 H7 → H7 t = some (.tup (ys.map V.int)) → ys ≠ [] → (∀ z ∈ ys, 0 ≤ z ∧ z ≤ 8) → ys.length ≤ 2 →
        rCatA K (.ref p) (.ref t) H7 fun x1 H8 => rSetTI K w [x1] H8 fun x2 H8 => rSortedSet w [x2] H8 fun x3 H9 => rTupl K [x3] H9 fun x4 HA => rAppend (V.ref D) [x4] HA fun _ HB =>
          ∃ (v5 v6 : Option V) (l : List (Addr × List Int)), [some (.ref r), some (.ref a), some (.ref sm), some (.ref nb), some (.ref D), some (.int (i : Nat)), some last] = [some (.ref r), some (.ref a), some (.ref sm), some (.ref nb), some (.ref D), v5, v6] ∧ NuI H4 r sc D sm (insAll N) l HB ∧ l.length = i + 1 := by
      intro last t ys H7 s7 ht hne hy hyl
      have W7 := W6.same hDr s7
      refine ⟨p, t, _, _, rfl, rfl, SqT.of (s7 _ _ hp), SqT.of ht, ?_, fun hnil => ?_, fun _ h => ?_, fun _ _ u hu => ?_⟩
      · rw [List.length_map, List.length_map]
        exact line_le (by omega)
      · exact tail last t ys H7 W7 ht hy (by omega)
      · exact absurd (List.map_eq_nil_iff.mp h) hne
      · have su := same_upd (o := .tup ((G.numOf nums (i : Nat)).map V.int ++ ys.map V.int)) hu
        refine tail last u (G.numOf nums (i : Nat) ++ ys) _ (W7.same hDr su) (by rw [upd_same, List.map_append]) (fun z hz => ?_) (by rw [List.length_append]; omega)
        rcases List.mem_append.mp hz with hz | hz
        · exact hnum.2 z hz
        · exact hy z hz
    refine ⟨_, rfl, .inl ⟨rfl, _, SqL.of W6.at_⟩, _, rfl, _, rfl, nb, vs, _, .ref p, rfl, rfl, SqT.of hb, hat, ?_⟩
    refine ⟨_, rfl, _, rfl, ite2 (fun _ => ?_) (fun _ => ?_)⟩
    · refine ⟨_, rfl, _, rfl, sm, us, _, .ref p2, rfl, rfl, SqL.of m1, at_of (j := i) rfl m2, p2, _, rfl, .inl (SqL.of m3), line1, fun t ht => ?_⟩
      rw [List.length_map, hL]
      have st := same_upd (o := .tup [V.int (L : Nat)]) ht
      exact cat _ t [(L : Int)] _ st upd_same (by simp) (fun z hz => by rw [List.mem_singleton] at hz; omega) (by show 1 ≤ 2; decide)
    · refine ⟨_, rfl, _, rfl, sm, us, _, .ref p2, rfl, rfl, SqL.of m1, at_of (j := i) rfl m2, p2, _, rfl, .inl (SqL.of m3), _, _, rfl, rfl, 0, _, rfl, line2, fun t ht => ?_⟩
      rw [List.length_map, hL]
      have st := same_upd (o := .tup [V.int 0, V.int (if (L : Int) - 1 > 0 then (L : Int) - 1 else 0)]) ht
      refine cat _ t [0, if (L : Int) - 1 > 0 then (L : Int) - 1 else 0] _ st upd_same (by simp) (fun z hz => ?_) (by show 2 ≤ 2; decide)
      have hz' : z = 0 ∨ z = if (L : Int) - 1 > 0 then (L : Int) - 1 else 0 := by simpa using hz
      rcases hz' with rfl | rfl
      · omega
      · split <;> omega
  · rintro σ H5 ⟨v5, v6, l, rfl, W, hli⟩
    refine ⟨_, rfl, D, _, rfl, .inl ⟨SqL.of W.at_, fun v hv => ?_⟩⟩
    have sv := same_upd (o := .tup (l.map fun p => V.ref p.1)) hv
    exact fin v (l.map (·.2)) _ _ _ _ (But.trans W.but (Same.but sv)) (W.row.same sv) ⟨by rw [List.length_map]; exact hli, fun ns hns => by
      obtain ⟨p, hp, rfl⟩ := List.mem_map.mp hns
      exact W.ok p hp⟩ ⟨l, upd_same, rfl, fun p hp => sv _ _ (W.tup p hp)⟩
end
end Kd

/-! ### the law's own ready doors -/
namespace Kd
open PySem PySem.Spec PyProof.Rows L2
/-- the inside lists, as the law holds them -/
def InsAt (H : Hp) (r : Addr) (N : List (Option Int)) : Prop := ∃ l : List (Addr × List Int), H r = some (.lst (l.map fun p => V.ref p.1)) ∧ l.map (·.2) = insAll N ∧ ∀ p ∈ l, H p.1 = some (.lst (p.2.map V.int))
theorem LsAt.ins {H0 H : Hp} {r : Addr} {N : List (Option Int)} (h : LsAt H0 H r (insAll N)) : InsAt H r N := by
  obtain ⟨l, h1, h2, h3⟩ := h
  exact ⟨l, h1, h2, fun p hp => (h3 p hp).1⟩
theorem InsAt.same {H H' : Hp} {r : Addr} {N : List (Option Int)} (h : InsAt H r N) (s : Same H H') : InsAt H' r N := by
  obtain ⟨l, h1, h2, h3⟩ := h
  exact ⟨l, s _ _ h1, h2, fun p hp => s _ _ (h3 p hp)⟩
theorem InsAt.butD {P : Program} {w : World} {H H' : Hp} {r d : Addr} {N : List (Option Int)} {kvs : List (NestedKey × V)} (h : InsAt H r N) (hd : DD P w H d kvs) (b : But d H H') : InsAt H' r N := by
  obtain ⟨l, h1, h2, h3⟩ := h
  exact ⟨l, b _ _ (hd.ne h1 (fun _ z => nomatch z)) h1, h2, fun p hp => b _ _ (hd.ne (h3 p hp) (fun _ z => nomatch z)) (h3 p hp)⟩
theorem InsAt.len {H : Hp} {r : Addr} {N : List (Option Int)} (h : InsAt H r N) : ∃ vs, H r = some (.lst vs) ∧ vs.length = N.length := by
  obtain ⟨l, h1, h2, _⟩ := h
  refine ⟨_, h1, ?_⟩
  have := congrArg List.length h2
  unfold insAll at this
  rw [List.length_map, List.length_map, G.rng_length] at this
  rw [List.length_map]
  exact this
theorem pi_listK {X : Cx} {K : PySem.W.Frag} {tg l : Expr} {tl : TE} (hl : PE X l tl) (hX : X.K = K := by rfl) : PI X tg l (iList K tl) := by
  subst hX
  exact pi_list hl
def counts (N : List (Option Int)) (s : List Int) : List Int := (G.rng N.length).map (G.count N s)
theorem counts_get {N : List (Option Int)} {s : List Int} {i : Nat} (h : i < N.length) : (counts N s)[i]? = some (G.count N s (i : Nat)) := by
  unfold counts
  rw [List.getElem?_map, G.rng_get h]
  rfl
section
variable {P : Program} {w : World} {K : PySem.W.Frag} {mg : Str → Option Value} {base : Heap}
def spOpened : Sp := fun vs H Q _ => ∃ (a c : Addr) (N : List (Option Int)) (s : List Int), vs = [.ref a, .ref c] ∧ InsAt H a N ∧ N.length ≤ 6 ∧ StAt H c s ∧ ∀ r H', Same H H' → H' r = some (.lst ((counts N s).map V.int)) → Q (.ref r) H'
/-- the scope of the outer comprehension's block -/
def scOpened : Scope := { kind := .function, names := [(".0", .local), ("_law_one", .local), ("len", .globalImplicit), ("_law_state", .cell)], isGenerator := false, isCoroutine := false }
theorem sc_law_opened : FnScope ["_law_some", "_law_state", "_law_one", "_law_x"] ["_law_some", "_law_state"] (defScope s_law_opened) := ⟨rfl, rfl, rfl, by decide +kernel, rfl, by decide +kernel, by decide +kernel⟩
theorem ok_law_opened (T : Txt K mg) : Def P w K mg base 1 "_law_opened" ["_law_some", "_law_state"] spOpened := by
  obtain ⟨fd, F⟩ := T.f_law_opened
  refine mkDef F T.m_law_opened (fun _ _ _ _ _ _ us hl => match us, hl with | [_, _], _ => rfl) (fok F sc_law_opened (fun vs H Q E h => ?_) (fun cdv A outer s H vs Q E hr h => ?_))
  · obtain ⟨a, c, N, s, rfl, _⟩ := h
    rfl
  obtain ⟨a, c, N, st, rfl, hI, few, hst, q⟩ := h
  refine ⟨_, pss_one (ps_ret (pe_lc (own := [("_law_one", 2)]) (g := gName 2) (by rfl) sc_law_opened.nd (pi_list (pv 0)) (blkOk_by (N := ["_law_some", "_law_state", "_law_one", "_law_x"]) (sc := defScope s_law_opened) (by decide +kernel))
    (fun _ _ _ _ _ => pg_name (i := 2) sc_law_opened.nd rfl (Or.inl rfl)) (fun _ _ _ _ _ => pts_nil)
    (fun _ _ _ _ _ => pe_callB (len_K (K := K)) (by rfl) T.z_len boot_len (pa_cons (pe_lc (own := [("_law_x", 3)]) (g := gName 3) (by rfl) sc_law_opened.nd (pi_listK (K := K) (pv 2)) (blkOk_by (N := ["_law_some", "_law_state", "_law_one", "_law_x"]) (sc := scOpened) (by decide +kernel))
      (fun _ _ _ _ _ => pg_name (i := 3) sc_law_opened.nd rfl (Or.inl rfl)) (fun _ _ _ _ _ => pts_one (pt_cmpR (in_K (K := K)) (pv 3) (pv 1) (by rfl))) (fun _ _ _ _ _ => pv 3)) pa_nil)))), ?_⟩
  obtain ⟨l, l1, l2, l3⟩ := id hI
  have ll : l.length = N.length := by
    have := congrArg List.length l2
    unfold insAll at this
    rw [List.length_map, List.length_map, G.rng_length] at this
    exact this
  refine ⟨_, rfl, a, rfl, ⟨_, SqL.of l1⟩, fun D hD => ?_⟩
  refine lc_list (K := K) (a := a) (xs := l.map fun p => V.ref p.1) (fun i H' => FI H D ((counts N st).take i) H') (FI.start hD) (fun i H' _ h => SqL.of (h.same _ _ l1)) ?_ ?_
  · rintro i y H' hi h
    obtain ⟨x, hx, rfl⟩ := map_get hi
    have hiN : i < N.length := by
      have := (List.getElem?_eq_some_iff.mp hx).1
      omega
    have hx2 : x.2 = G.ins N (i : Nat) := by
      have h1 : (l.map (·.2))[i]? = some x.2 := by rw [List.getElem?_map, hx]; rfl
      rw [l2, insAll_get hiN] at h1
      exact (Option.some.inj h1).symm
    have g1 := h.same _ _ (l3 x (List.mem_of_getElem? hx))
    rw [hx2] at g1
    refine ⟨rfl, _, rfl, x.1, rfl, ⟨_, SqL.of g1⟩, fun D2 hD2 => ?_⟩
    refine lc_list (K := K) (a := x.1) (xs := (G.ins N (i : Nat)).map V.int) (fun j H2 => FI H' D2 (((G.ins N (i : Nat)).take j).filter (G.cntP st)) H2) (FI.start hD2) (fun j H2 _ h2 => SqL.of (h2.same _ _ g1)) ?_ ?_
    · rintro j y H2 hj h2
      obtain ⟨z, hz, rfl⟩ := map_get hj
      refine ⟨rfl, _, rfl, _, rfl, c, _, rfl, .inr (SqT.of (h2.same _ _ (h.same _ _ hst))), rfl, flat_ints _, ?_⟩
      rw [inV_ints]
      refine ⟨_, rfl, ?_⟩
      rw [filter_snoc _ hz]
      refine ite2 (fun c => ?_) (fun c => ?_)
      · rw [if_pos (show G.cntP st z = true from c)]
        refine ⟨_, rfl, FI.add hD2 h2 (Same.refl _) (line_lt ?_)⟩
        have := List.length_filter_le (G.cntP st) ((G.ins N (i : Nat)).take j)
        rw [List.length_take] at this
        have := G.ins_len N (i : Nat)
        omega
      · rw [if_neg (show ¬ G.cntP st z = true from c), List.append_nil]
        exact h2
    · rintro H2 h2
      rw [List.length_map, List.take_length] at h2
      refine ⟨D2, _, rfl, .inl (SqL.of h2.at_), ?_⟩
      rw [List.length_map, take_snoc (counts_get hiN)]
      refine FI.add hD h h2.same (line_lt ?_)
      rw [List.length_take]
      omega
  · rintro H' h
    have e : (counts N st).length = N.length := by unfold counts; rw [List.length_map, G.rng_length]
    rw [List.length_map, ll, List.take_of_length_le (by omega)] at h
    exact q D H' h.same h.at_
/-! ### _law_ready -/
def spLReady : Sp := fun vs H Q _ => ∃ (a b c : Addr) (N : List (Option Int)) (nums : List (List Int)) (s : List Int), vs = [.ref a, .ref b, .ref c] ∧ InsAt H a N ∧ N.length ≤ 6 ∧ RowsAt H b nums ∧ nums.length = N.length ∧ StAt H c s ∧
  ∀ r H', Same H H' → H' r = some (.lst ((G.rdy N nums s).map V.int)) → Q (.ref r) H'
theorem sc_law_ready : FnScope ["_law_some", "_law_numbers_here", "_law_state", "_law_told", "_law_k"] ["_law_some", "_law_numbers_here", "_law_state"] (defScope s_law_ready) := ⟨rfl, rfl, rfl, by decide +kernel, rfl, by decide +kernel, by decide +kernel⟩
theorem ok_law_ready (T : Txt K mg) (D1 : Def P w K mg base 1 "_law_opened" ["_law_some", "_law_state"] spOpened) : Def P w K mg base 2 "_law_ready" ["_law_some", "_law_numbers_here", "_law_state"] spLReady := by
  obtain ⟨fd, F⟩ := T.f_law_ready
  refine mkDef F T.m_law_ready (fun _ _ _ _ _ _ us hl => match us, hl with | [_, _, _], _ => rfl) (fok F sc_law_ready (fun vs H Q E h => ?_) (fun cdv A outer s H vs Q E hr h => ?_))
  · obtain ⟨a, b, c, N, nums, s, rfl, _⟩ := h
    rfl
  obtain ⟨a, b, c, N, nums, st, rfl, hI, few, hnums, hlen, hst, q⟩ := h
  refine ⟨_, pss_cons (ps_set (i := 3) sc_law_ready.nd rfl (Or.inr rfl) (pe_c D1 hr (by rfl) (pa_cons (pv 0) (pa_cons (pv 2) pa_nil)))) <|
    pss_one (ps_ret (pe_lc (own := [("_law_k", 4)]) (g := gName 4) (by rfl) sc_law_ready.nd (pi_range1 (by rfl) T.z_range (pa_cons (pe_callB (len_K (K := K)) (by rfl) T.z_len boot_len (pa_cons (pv 0) pa_nil)) pa_nil)) (blkOk_by (N := ["_law_some", "_law_numbers_here", "_law_state", "_law_told", "_law_k"]) (sc := defScope s_law_ready) (by decide +kernel))
    (fun _ _ _ _ _ => pg_name (i := 4) sc_law_ready.nd rfl (Or.inl rfl))
    (fun _ _ _ _ _ => pts_one (PW.pt (pw_and (pt_cmpR (notIn_K (K := K)) (pv 4) (pv 2) (by rfl)) (pw_and1 (pt_cmpR (in_K (K := K)) (pe_ix (ixL_K (K := K)) (pv 3) (pv 4) (fun _ _ => rfl)) (pe_ix (ixT_K (K := K)) (pv 1) (pv 4) (fun _ _ => rfl)) (by rfl))))))
    (fun _ _ _ _ _ => pv 4))), ?_⟩
  refine ⟨_, rfl, _, rfl, a, c, N, st, rfl, hI, few, hst, fun told H1 s1 htold => ?_⟩
  obtain ⟨va, hva, hval⟩ := (hI.same s1).len
  refine ⟨_, rfl, a, _, rfl, .inl (SqL.of hva), _, rfl, by omega, by omega, fun D hD => ?_⟩
  rw [hval]
  have hst1 := hst.tups (Same.tups s1)
  have hnums1 := hnums.tups (Same.tups s1)
  refine lc_range (lo := 0) (n := ((N.length : Nat) : Int).toNat) (fun i H' => FI H1 D (((G.rng N.length).take i).filter (G.rdyP N nums st)) H') (FI.start hD) ?_ ?_
  · rintro i H' hi h
    have hi' : i < N.length := by omega
    have hx := G.rng_get hi'
    have e0 : (0 : Int) + (i : Nat) = (i : Nat) := by omega
    rw [e0]
    have hlt : (((G.rng N.length).take i).filter (G.rdyP N nums st)).length < sizeLine := line_lt (by
      have := List.length_filter_le (G.rdyP N nums st) ((G.rng N.length).take i)
      rw [List.length_take, G.rng_length] at this
      omega)
    refine ⟨rfl, _, rfl, _, rfl, c, _, rfl, .inr (SqT.of (h.same _ _ hst1)), rfl, flat_ints _, ?_⟩
    rw [inV_ints]
    refine ⟨_, rfl, ?_⟩
    rw [filter_snoc _ hx]
    refine ite2 (fun c1 => ?_) (fun c1 => ?_)
    · obtain ⟨vs, p, g1, g2, g3⟩ := rows_get (hnums1.tups (Same.tups h.same)) (k := ((i : Nat) : Int)) (by omega) (by omega)
      refine ⟨_, rfl, _, rfl, told, _, _, .int (G.count N st (i : Nat)), rfl, rfl, SqL.of (h.same _ _ htold), at_of (j := i) rfl (by rw [List.getElem?_map, counts_get hi']; rfl), _, rfl, _, rfl, b, vs, _, _, rfl, rfl, SqT.of g1, g2, p, _, rfl, .inr (SqT.of g3), rfl, flat_ints _, ?_⟩
      rw [inV_ints]
      refine ⟨_, rfl, ?_⟩
      refine ite2 (fun c2 => ?_) (fun c2 => ?_)
      · have hp : G.rdyP N nums st (i : Nat) = true := by
          unfold G.rdyP
          rw [Bool.and_eq_true]
          exact ⟨by simpa using c1, c2⟩
        rw [if_pos hp]
        exact ⟨_, rfl, FI.add hD h (Same.refl _) hlt⟩
      · have hp : ¬ G.rdyP N nums st (i : Nat) = true := fun e => by
          unfold G.rdyP at e
          rw [Bool.and_eq_true] at e
          exact c2 e.2
        rw [if_neg hp, List.append_nil]
        exact h
    · refine iteF ?_
      have hp : ¬ G.rdyP N nums st (i : Nat) = true := fun e => by
        unfold G.rdyP at e
        rw [Bool.and_eq_true] at e
        exact c1 (by simpa using e.1)
      rw [if_neg hp, List.append_nil]
      exact h
  · rintro H' h
    rw [List.take_of_length_le (by rw [G.rng_length]; omega)] at h
    exact q D H' (Same.trans s1 h.same) h.at_
end
end Kd

/-! ### the law's own further states and value -/
namespace Kd
open PySem PySem.Spec PyProof.Rows L2
section
variable {P : Program} {w : World} {K : PySem.W.Frag} {mg : Str → Option Value} {base : Heap}
/-! ### _law_further -/
def spLFurther : Sp := fun vs H Q _ => ∃ (a b c : Addr) (N : List (Option Int)) (nums : List (List Int)) (s : List Int), vs = [.ref a, .ref b, .ref c] ∧ InsAt H a N ∧ N.length ≤ 6 ∧ RowsAt H b nums ∧ nums.length = N.length ∧ StAt H c s ∧ G.Ok N.length s ∧
  ∀ r H', Same H H' → FurAt H' r (G.ext N nums s) → Q (.ref r) H'
theorem sc_law_further : FnScope ["_law_some", "_law_numbers_here", "_law_state", "_law_k"] ["_law_some", "_law_numbers_here", "_law_state"] (defScope s_law_further) := ⟨rfl, rfl, rfl, by decide +kernel, rfl, by decide +kernel, by decide +kernel⟩
theorem ok_law_further (T : Txt K mg) (D1 : Def P w K mg base 2 "_law_ready" ["_law_some", "_law_numbers_here", "_law_state"] spLReady) : Def P w K mg base 3 "_law_further" ["_law_some", "_law_numbers_here", "_law_state"] spLFurther := by
  obtain ⟨fd, F⟩ := T.f_law_further
  refine mkDef F T.m_law_further (fun _ _ _ _ _ _ us hl => match us, hl with | [_, _, _], _ => rfl) (fok F sc_law_further (fun vs H Q E h => ?_) (fun cdv A outer s H vs Q E hr h => ?_))
  · obtain ⟨a, b, c, N, nums, s, rfl, _⟩ := h
    rfl
  obtain ⟨a, b, c, N, nums, st, rfl, hN, few, hnums, hlen, hst, oks, q⟩ := h
  have stl := oks.le
  refine ⟨_, pss_one (ps_ret (pe_lc (own := [("_law_k", 3)]) (g := gName 3) (by rfl) sc_law_further.nd (pi_list (pe_c D1 hr (by rfl) (pa_cons (pv 0) (pa_cons (pv 1) (pa_cons (pv 2) pa_nil))))) (blkOk_by (N := ["_law_some", "_law_numbers_here", "_law_state", "_law_k"]) (sc := defScope s_law_further) (by decide +kernel))
    (fun _ _ _ _ _ => pg_name (i := 3) sc_law_further.nd rfl (Or.inl rfl)) (fun _ _ _ _ _ => pts_nil)
    (fun _ _ _ _ _ => pe_tup (pa_cons (pv 3) (pa_cons (pe_callTy (tuple_K (K := K)) (by rfl) T.z_tuple (by decide +kernel) (pa_cons (pe_callB (cr_sortedTI (K := K)) (by rfl) T.z_sorted (by decide +kernel) (pa_cons (pe_op (catA_K (K := K)) (pv 2) (pe_tup (pa_cons (pv 3) pa_nil))) pa_nil)) pa_nil)) pa_nil))))), ?_⟩
  refine ⟨_, rfl, _, rfl, _, rfl, a, b, c, N, nums, st, rfl, hN, few, hnums, hlen, hst, fun r H1 s1 hr1' => ⟨r, rfl, ⟨_, SqL.of hr1'⟩, fun D hD => ?_⟩⟩
  refine lc_list (K := K) (a := r) (xs := (G.rdy N nums st).map V.int) (fun i H' => FurI H1 D (((G.rdy N nums st).take i).map fun k => (k, G.nxt st k)) H') (FurI.start hD) (fun i H' _ h => SqL.of (h.same _ _ hr1')) ?_ ?_
  · rintro i y H' hi h
    obtain ⟨x, hx, rfl⟩ := map_get hi
    have hl : (((G.rdy N nums st).take i).map fun k => (k, G.nxt st k)).length < sizeLine := line_lt (by
      have := (G.rdy_gm N nums).few st
      rw [List.length_map, List.length_take]
      omega)
    have hst' : StAt H' c st := hst.tups (Same.tups (Same.trans s1 h.same))
    refine ⟨rfl, ?_⟩
    rw [take_snoc hx, List.map_append]
    refine ⟨_, rfl, _, rfl, _, rfl, line1, fun p hp => ?_⟩
    have g1 := same_upd (o := .tup [V.int x]) hp
    have cont : ∀ t H5, Same H' H5 → StAt H5 t (st ++ [x]) → rSortTI K [.ref t] H5 fun v H6 => tCB (rTupl K) (fun _ H Q => Q [v] H) [] H6 fun v2 H7 => [V.int x, v2].length ≤ sizeLine ∧ ∀ p, H7 p = none → ∃ acc, upd H7 p (.tup [V.int x, v2]) D = some (.lst acc) ∧ acc.length < sizeLine ∧ FurI H1 D (((G.rdy N nums st).take i).map (fun k => (k, G.nxt st k)) ++ [x].map (fun k => (k, G.nxt st k))) (upd (upd H7 p (.tup [V.int x, v2])) D (.lst (acc ++ [.ref p]))) := by
      intro t H5 s5 ht
      refine ⟨t, st ++ [x], rfl, SqT.of ht, by rw [List.length_append, List.length_singleton]; omega, fun ns' p2 hperm hsort hp2 => ?_⟩
      have s6 := same_upd (o := .lst (ns'.map V.int)) hp2
      refine ⟨p2, _, rfl, .inl ⟨SqL.of upd_same, fun p3 hp3 => ?_⟩⟩
      have s7 := same_upd (o := .tup (ns'.map V.int)) hp3
      refine ⟨line2, fun p4 hp4 => ?_⟩
      have s8 := same_upd (o := .tup [V.int x, V.ref p3]) hp4
      refine FurI.add (p := p4) (q := p3) (x := (x, G.nxt st x)) hD h (Same.trans s5 (Same.trans s6 (Same.trans s7 s8))) upd_same ?_ hl
      have e : ns' = G.nxt st x := G.srt_of hperm hsort
      rw [← e]
      exact s8 _ _ upd_same
    refine ⟨c, p, _, _, rfl, rfl, SqT.of (g1 _ _ hst'), SqT.of upd_same, ?_, fun hnil => ?_, fun _ h => ?_, fun _ _ p5 hp5 => ?_⟩
    · rw [List.length_map]
      exact line_le (by show st.length + 1 ≤ 1000000; omega)
    · have e : st = [] := List.map_eq_nil_iff.mp hnil
      refine cont p _ g1 ?_
      rw [e]
      exact upd_same
    · cases h
    · refine cont p5 _ (Same.trans g1 (same_upd hp5)) ?_
      show upd _ p5 _ p5 = _
      rw [upd_same, List.map_append]
      rfl
  · rintro H' h
    rw [List.length_map, List.take_length] at h
    exact q D H' (Same.trans s1 h.same) h.at_
def spEnd (P : Program) (w : World) (m : Nat) : Sp := fun vs H Q _ => ∃ (a b c d : Addr) (N : List (Option Int)) (nums : List (List Int)) (s : List Int) (f : Bool) (kvs : List (NestedKey × V)),
  vs = [.ref a, .ref b, .ref c, .bl f, .ref d] ∧ InsAt H a N ∧ N.length ≤ 6 ∧ RowsAt H b nums ∧ nums.length = N.length ∧ StAt H c s ∧ G.Ok N.length s ∧ DD P w H d kvs ∧ KnOk N nums kvs ∧ N.length - s.length < m ∧
  ∀ H' kvs', But d H H' → Tups H H' → DD P w H' d kvs' → KnOk N nums kvs' → Q (.int (gvN N nums s f)) H'
theorem sc_law_end : FnScope ["_law_some", "_law_numbers_here", "_law_state", "_law_is_first", "_law_known", "_law_key", "_law_told", "_law_k", "_law_there"] ["_law_some", "_law_numbers_here", "_law_state", "_law_is_first", "_law_known"] (defScope s_law_end) := ⟨rfl, rfl, rfl, by decide +kernel, rfl, by decide +kernel, by decide +kernel⟩
theorem none_end {k : Nat} {f : Addr} {fd : FuncData} : FnOk P w K mg base CX0 k f fd ["_law_some", "_law_numbers_here", "_law_state", "_law_is_first", "_law_known"] (spEnd P w 0) := by
  have no : ∀ vs H Q E, ¬ spEnd P w 0 vs H Q E := fun vs H Q E h => by
    obtain ⟨a, b, c, d, N, nums, s, f, kvs, _, _, _, _, _, _, _, _, _, h, _⟩ := h
    exact absurd h (Nat.not_lt_zero _)
  exact ⟨fun vs H Q E h => absurd h (no vs H Q E), fun A outer s H args us vs Q E _ _ _ _ h => absurd h (no vs H Q E)⟩
theorem ok_end_step (T : Txt K mg) {m : Nat} (D1 : Def P w K mg base 5 "_law_further" ["_law_some", "_law_numbers_here", "_law_state"] spLFurther) (D0 : Def P w K mg base (5 + m) "_law_end" ["_law_some", "_law_numbers_here", "_law_state", "_law_is_first", "_law_known"] (spEnd P w m)) :
    Def P w K mg base (5 + (m + 1)) "_law_end" ["_law_some", "_law_numbers_here", "_law_state", "_law_is_first", "_law_known"] (spEnd P w (m + 1)) := by
  obtain ⟨fd, F⟩ := T.f_law_end
  refine mkDef F T.m_law_end (fun _ _ _ _ _ _ us hl => match us, hl with | [_, _, _, _, _], _ => rfl) (fok (k := 5 + m) F sc_law_end (fun vs H Q E h => ?_) (fun cdv A outer s H vs Q E hr h => ?_))
  · obtain ⟨a, b, c, d, N, nums, s, f, kvs, rfl, _⟩ := h
    rfl
  obtain ⟨a, b, c, d, N, nums, st, f, kvs, rfl, hI, few, hnums, hlen, hst, oks, hd, hkn, hm, q⟩ := h
  have hr5 := hr.mono (show 5 ≤ 5 + m by omega)
  have hu := hu64 hr
  have gm := G.rdy_gm N nums
  refine ⟨_, pss_cons (ps_set (i := 5) sc_law_end.nd rfl (Or.inl rfl) (pe_tup (pa_cons (pv 2) (pa_cons (pv 3) pa_nil))))
    (pss_cons (ps_if (pt_cmpR (or_nnotin (P := P) (w := w) hu) (pv 5) (pv 4) (by rfl))
      (pss_cons (ps_setLc (i := 6) (own := [("_law_k", 7), ("_law_there", 8)]) (by rfl) sc_law_end.nd rfl rfl (sw_true rfl rfl rfl (by decide +kernel)) (pi_list (pe_c D1 hr5 (by rfl) (pa_cons (pv 0) (pa_cons (pv 1) (pa_cons (pv 2) pa_nil)))))
          (blkOk_by (N := ["_law_some", "_law_numbers_here", "_law_state", "_law_is_first", "_law_known", "_law_key", "_law_told", "_law_k", "_law_there"]) (sc := defScope s_law_end) (by decide +kernel))
          (fun _ _ _ _ _ => pg_tupK (K := K) (n := 2) (by rfl) (pgs_cons (pg_name (i := 7) sc_law_end.nd rfl (Or.inl rfl)) (pgs_cons (pg_name (i := 8) sc_law_end.nd rfl (Or.inl rfl)) pgs_nil)))
          (fun _ _ _ _ _ => pts_nil)
          (fun _ _ _ _ _ => pe_c D0 hr (by rfl) (pa_cons (pv 0) (pa_cons (pv 1) (pa_cons (pv 8) (pa_cons (pe_not (pv 3)) (pa_cons (pv 4) pa_nil)))))))
        (pss_one (ps_nput (P := P) (w := w) hu (pv 4) (pv 5) (pe_ifExp (pt_cmpR (op_eqNil (K := K) (hu0 hr)) (pv 6) (pe_lst pa_nil) (by rfl)) (pe_callB call_len_seq (by rfl) T.z_len boot_len (pa_cons (pv 2) pa_nil))
          (pe_ifExp (pt_val (pv 3)) (pe_callB (cr_max (by rfl)) (by rfl) T.z_max (by decide +kernel) (pa_cons (pv 6) pa_nil)) (pe_callB (cr_min (by rfl)) (by rfl) T.z_min (by decide +kernel) (pa_cons (pv 6) pa_nil)))) (by rfl))))
      pss_nil)
    (pss_one (ps_ret (pe_nget (P := P) (w := w) hu (pv 4) (pv 5) (fun _ _ => rfl))))), ?_⟩
  -- key = (state, is_first)
  refine ⟨_, rfl, _, rfl, line2, fun kp hkp => ?_⟩
  have s1 := same_upd (o := .tup [V.ref c, V.bl f]) hkp
  generalize hH1 : upd H kp (.tup [V.ref c, V.bl f]) = H1 at s1
  have hkp1 : H1 kp = some (.tup [V.ref c, V.bl f]) := by rw [← hH1, upd_same]
  have hst1 : StAt H1 c st := hst.tups (Same.tups s1)
  have hk1 : NKA H1 (kPr st f) kp := .pr hkp1 hst1
  have hd1 := hd.same s1
  have fin : ∀ (told k2 t2 : Option V) H3 kvs3, But d H1 H3 → Tups H1 H3 → DD P w H3 d kvs3 → KnOk N nums kvs3 → valV kvs3 (kPr st f) = some (.int (gvN N nums st f)) →
      tRet (tNGet P w (tVar 4) (tVar 5)) { nx := fun _ H' => Q .non H', rt := Q } [some (.ref a), some (.ref b), some (.ref c), some (.bl f), some (.ref d), some (.ref kp), told, k2, t2] H3 := by
    intro told k2 t2 H3 kvs3 b3 t3 d3 n3 v3
    exact ⟨_, rfl, _, rfl, d, kp, kvs3, _, _, rfl, rfl, d3, hk1.tups t3, v3, q H3 kvs3 (But.trans (Same.but s1) b3) (Tups.trans (Same.tups s1) t3) d3 n3⟩
  -- if key not in known
  refine ⟨_, rfl, _, rfl, d, kp, kvs, _, rfl, rfl, hd1, hk1, _, rfl, ?_⟩
  refine ite2 (fun hnot => ?_) (fun hin => ?_)
  · -- told = [..]
    refine ⟨_, rfl, _, rfl, _, rfl, a, b, c, N, nums, st, rfl, hI.same s1, few, hnums.tups (Same.tups s1), hlen, hst1, oks, fun r H2 s2 hF => ?_⟩
    obtain ⟨lF, hrl⟩ := hF.lst
    refine ⟨r, rfl, ⟨_, SqL.of hrl⟩, fun D hD => ?_⟩
    have hd2 := hd1.same s2
    have hdD : D ≠ d := fun e => by
      obtain ⟨ls, e1, _⟩ := hd2
      rw [e, e1] at hD
      cases hD
    have hrd : r ≠ d := hd2.ne hrl (fun _ z => nomatch z)
    have hrD : r ≠ D := free_ne hrl hD
    have sD := same_upd (o := .lst []) hD
    obtain ⟨lf, f1, f2, f3⟩ := id hF
    have tnd : ∀ xs, H2 d ≠ some (.tup xs) := hd2.nt
    -- the element's calls
    refine lc_list (K := K) (a := r) (xs := lf.map fun p => V.ref p.1) (fun i H' => VI P w N nums H2 d D (((lf.take i).map fun p => gvN N nums p.2.2.2 (!f))) H') ⟨Same.but sD, Same.tups sD, ⟨kvs, hd2.same sD, hkn⟩, upd_same⟩ (fun i H' _ h => SqL.of (h.but _ _ hrd f1)) ?_ ?_
    · rintro i y H' hi h
      obtain ⟨x, hx, rfl⟩ := map_get hi
      obtain ⟨g1, g2⟩ := f3 x (List.mem_of_getElem? hx)
      have xm : x.2.2 ∈ G.ext N nums st := by rw [← f2]; exact List.mem_map.mpr ⟨x, List.mem_of_getElem? hx, rfl⟩
      obtain ⟨xr, xn⟩ := G.ext_mem.mp xm
      obtain ⟨kvs3, hd3, hkn3⟩ := h.kn
      have tH : Tups H H' := Tups.trans (Tups.trans (Same.tups s1) (Same.tups s2)) h.tups
      refine ⟨x.1, _, rfl, SqT.of (h.tups _ _ g1), rfl, ⟨_, _, rfl, ?_⟩⟩
      refine ⟨_, _, rfl, rfl, rfl, ?_⟩
      refine ⟨_, rfl, _, rfl, _, rfl, _, rfl, f, rfl, _, rfl, a, b, x.2.1, d, N, nums, x.2.2.2, !f, kvs3, rfl, ((hI.same s1).same s2).butD hd2 h.but, few, hnums.tups tH, hlen, StAt.tups g2 h.tups, ?_, hd3, hkn3, ?_, fun H4 kvs4 b4 t4 d4 n4 => ?_⟩
      · rw [xn]
        exact gm.next oks xr
      · rw [xn, G.nxt_length]
        have := gm.short oks (List.ne_nil_of_mem xr)
        omega
      · have hD4 : H4 D = _ := b4 _ _ hdD h.at_
        refine ⟨_, hD4, line_lt ?_, fun bb o hb e => ?_, ?_, ⟨kvs4, ?_, n4⟩, ?_⟩
        · have h1 := G.ext_len (N := N) (nums := nums) (s := st)
          rw [← f2, List.length_map] at h1
          rw [List.length_map, List.length_map, List.length_take]
          omega
        · rw [upd_ne (free_ne e hD)]
          exact b4 _ _ hb (h.but _ _ hb e)
        · exact Tups.trans (Tups.trans h.tups t4) (tups_upd (nt_lst hD4))
        · exact d4.keep (fun o e => by rw [upd_ne (Ne.symm hdD)]; exact e) (tups_upd (nt_lst hD4))
        · rw [upd_same, take_snoc hx, List.map_append, List.map_append]
          rfl
    · rintro H' h
      rw [List.length_map, List.take_length] at h
      have hvals : (lf.map fun p => gvN N nums p.2.2.2 (!f)) = (G.rdy N nums st).map fun k => gvN N nums (G.nxt st k) (!f) := by
        have e : (lf.map fun p => gvN N nums p.2.2.2 (!f)) = (lf.map (·.2.2)).map fun x => gvN N nums x.2 (!f) := by rw [List.map_map]; rfl
        rw [e, f2]
        unfold G.ext
        rw [List.map_map]
        rfl
      rw [hvals] at h
      have hgv : gvN N nums st f = if G.rdy N nums st = [] then (st.length : Int) else if f = true then G.maxL ((G.rdy N nums st).map fun k => gvN N nums (G.nxt st k) (!f)) else G.minL ((G.rdy N nums st).map fun k => gvN N nums (G.nxt st k) (!f)) := gm.gv_eq oks f
      obtain ⟨kvs3, hd3, hkn3⟩ := h.kn
      have len3 := hkn3.few few hd3.nd
      have b3 : But d H1 H' := But.trans (Same.but s2) h.but
      have t3 : Tups H1 H' := Tups.trans (Same.tups s2) h.tups
      -- if told == []
      refine ⟨_, rfl, line_le (by decide), fun e0 he0 => ?_⟩
      have s4 := same_upd (o := .lst []) he0
      generalize hH5 : upd H' e0 (.lst []) = H5 at s4
      have he5 : H5 e0 = some (.lst []) := by rw [← hH5, upd_same]
      have hD5 := s4 _ _ h.at_
      have b5 : But d H1 H5 := But.trans b3 (Same.but s4)
      have t5 : Tups H1 H5 := Tups.trans t3 (Same.tups s4)
      have put : ∀ v, v = gvN N nums st f → ∀ H6, But d H5 H6 → Tups H5 H6 → DD P w H6 d (putK kvs3 (kPr st f) (.int v)) →
          tRet (tNGet P w (tVar 4) (tVar 5)) { nx := fun _ H' => Q .non H', rt := Q } [some (.ref a), some (.ref b), some (.ref c), some (.bl f), some (.ref d), some (.ref kp), some (.ref D), none, none] H6 := by
        intro v hv H6 b6 t6 d6
        subst hv
        exact fin _ _ _ H6 _ (But.trans b5 b6) (Tups.trans t5 t6) d6 (hkn3.put oks) (valV_put_self _ _ _)
      refine ⟨D, e0, _, rfl, rfl, SqL.of hD5, SqL.of he5, _, rfl, ?_⟩
      refine ite2 (fun hnil => ?_) (fun hnil => ?_)
      · -- known[key] = len(state)
        refine ⟨_, rfl, c, _, rfl, .inr (SqT.of (hst1.tups t5)), _, rfl, _, rfl, d, kp, kvs3, _, rfl, rfl, hd3.same s4, hk1.tups t5, line_lt (by omega), fun H6 b6 t6 d6 => ?_⟩
        refine put _ ?_ H6 b6 t6 d6
        have e : G.rdy N nums st = [] := by
          rw [List.isEmpty_iff, List.map_eq_nil_iff, List.map_eq_nil_iff] at hnil
          exact hnil
        rw [hgv, if_pos e, List.length_map]
      · have e : G.rdy N nums st ≠ [] := fun e => by
          rw [e] at hnil
          exact hnil rfl
        rw [if_neg e] at hgv
        have hpos : 0 < ((G.rdy N nums st).map fun k => gvN N nums (G.nxt st k) (!f)).length := by
          rw [List.length_map]
          exact List.length_pos_iff.mpr e
        refine ⟨_, rfl, f, rfl, ?_⟩
        cases f with
        | true =>
          refine iteT ?_
          refine ⟨_, rfl, D, _, rfl, SqL.of hD5, hpos, fun mx hmx hle => ?_⟩
          refine ⟨_, rfl, _, rfl, d, kp, kvs3, _, rfl, rfl, hd3.same s4, hk1.tups t5, line_lt (by omega), fun H6 b6 t6 d6 => ?_⟩
          refine put mx ?_ H6 b6 t6 d6
          rw [G.maxL_of hmx hle, hgv, if_pos rfl]
        | false =>
          refine iteF ?_
          refine ⟨_, rfl, D, _, rfl, SqL.of hD5, hpos, fun mx hmx hle => ?_⟩
          refine ⟨_, rfl, _, rfl, d, kp, kvs3, _, rfl, rfl, hd3.same s4, hk1.tups t5, line_lt (by omega), fun H6 b6 t6 d6 => ?_⟩
          refine put mx ?_ H6 b6 t6 d6
          rw [G.minL_of hmx hle, hgv, if_neg (by simp)]
  · -- already known
    have hs : (valV kvs (kPr st f)).isSome = true := by
      cases h : (valV kvs (kPr st f)).isSome with
      | true => rfl
      | false => rw [h] at hin; exact absurd rfl hin
    obtain ⟨v, hv⟩ := Option.isSome_iff_exists.mp hs
    have := hkn.val hv
    subst this
    exact fin _ _ _ H1 kvs (But.refl _ _) (Tups.refl _) hd1 hkn hv
theorem ok_end (T : Txt K mg) (D1 : Def P w K mg base 5 "_law_further" ["_law_some", "_law_numbers_here", "_law_state"] spLFurther) : ∀ m : Nat, Def P w K mg base (5 + m) "_law_end" ["_law_some", "_law_numbers_here", "_law_state", "_law_is_first", "_law_known"] (spEnd P w m)
  | 0 => by
    obtain ⟨fd, F⟩ := T.f_law_end
    exact mkDef F T.m_law_end (fun _ _ _ _ _ _ us hl => match us, hl with | [_, _, _, _, _], _ => rfl) none_end
  | m + 1 => ok_end_step T D1 (ok_end T D1 m)
end
end Kd

/-! ### the law's own following of a plan -/
namespace Kd
open PySem PySem.Spec PyProof.Rows L2
/-- a list (at r) of tuples of ints -/
def StsL (H : Hp) (r : Addr) (T : List (List Int)) : Prop := ∃ l : List (Addr × List Int), H r = some (.lst (l.map fun p => V.ref p.1)) ∧ l.map (·.2) = T ∧ ∀ p ∈ l, H p.1 = some (.tup (p.2.map V.int))
theorem StsL.same {H H' : Hp} {r : Addr} {T : List (List Int)} (h : StsL H r T) (s : Same H H') : StsL H' r T := by
  obtain ⟨l, h1, h2, h3⟩ := h
  exact ⟨l, s _ _ h1, h2, fun p hp => s _ _ (h3 p hp)⟩
section
variable {P : Program} {w : World} {K : PySem.W.Frag} {mg : Str → Option Value} {base : Heap}
theorem dp_sts {H : Hp} {r : Addr} {T : List (List Int)} (h : StsL H r T) : Dp K H (.ref r) (.list (T.map tD)) := by
  obtain ⟨l, h1, h2, h3⟩ := h
  rw [← h2]
  exact .lst (SqL.of h1) (dpAll_map l (fun p => V.ref p.1) tD (·.2) fun x hx => dp_st (h3 x hx))
theorem dp_rows {H : Hp} {r : Addr} {rows : List G.Row} (h : RowsL H r rows) : Dp K H (.ref r) (.list (rows.map pD)) := by
  obtain ⟨l, h1, h2, h3⟩ := h
  rw [← h2]
  exact .lst (SqL.of h1) (dpAll_map l (fun p => V.ref p.1) pD (·.2.2) fun x hx => dp_pr (h3 x hx).1 (h3 x hx).2)
def spFollows (P : Program) (w : World) : Sp := fun vs H Q _ => ∃ (a b md : Addr) (N : List (Option Int)) (nums : List (List Int)) (f : Bool) (M : G.Mv), vs = [.ref a, .ref b, .bl f, .ref md] ∧ InsAt H a N ∧ N.length ≤ 6 ∧ RowsAt H b nums ∧ nums.length = N.length ∧ DD P w H md (mvKvs M) ∧ G.Plan N.length (G.rdy N nums) f M ∧
  ∀ r H', Same H H' → StsL H' r (M.map (·.1)) → Q (.ref r) H'
theorem sc_law_follows : FnScope ["_law_some", "_law_numbers_here", "_law_is_first", "_law_moves", "_law_met", "_law_rows", "_law_turn", "_law_more", "_law_state", "_law_is_mine", "_law_there", "_law_k", "_law_behind", "_law_one"] ["_law_some", "_law_numbers_here", "_law_is_first", "_law_moves"] (defScope s_law_follows) := ⟨rfl, rfl, rfl, by decide +kernel, rfl, by decide +kernel, by decide +kernel⟩
abbrev nFol : List Str := ["_law_some", "_law_numbers_here", "_law_is_first", "_law_moves", "_law_met", "_law_rows", "_law_turn", "_law_more", "_law_state", "_law_is_mine", "_law_there", "_law_k", "_law_behind", "_law_one"]
/-- what stands while the law follows: rows done so far, the rows to come, the states met -/
structure FoI (H0 : Hp) (rw mo me : Addr) (rows more : List G.Row) (T : List (List Int)) (H' : Hp) : Prop where
  same : Same H0 H'
  rws : RowsL H' rw rows
  mor : RowsL H' mo more
  met : StsL H' me T
theorem FoI.go {H0 H1 H2 : Hp} {rw mo me : Addr} {rows more : List G.Row} {T : List (List Int)} (h : FoI H0 rw mo me rows more T H1) (s : Same H1 H2) : FoI H0 rw mo me rows more T H2 := ⟨Same.trans h.same s, h.rws.same s, h.mor.same s, h.met.same s⟩
theorem kids_true {N : List (Option Int)} {nums : List (List Int)} {M : G.Mv} {st : List Int} {d : Int} (hd : G.mvOf M st = some d) {lf : List (Addr × Addr × (Int × List Int))} (h : lf.map (·.2.2) = G.ext N nums st) :
    (lf.filter fun x => decide (x.2.2.1 = d)).map (fun x => (x.2.2.2, false)) = G.kids (G.rdy N nums) M (st, true) := by
  have e1 : (lf.filter fun x => decide (x.2.2.1 = d)).map (fun x => (x.2.2.2, false)) = ((lf.map (·.2.2)).filter fun y => decide (y.1 = d)).map fun y => (y.2, false) := by
    rw [List.filter_map, List.map_map]
    rfl
  rw [e1, h]
  unfold G.ext G.kids
  rw [List.filter_map, List.map_map]
  have e2 : ((fun y : Int × List Int => decide (y.1 = d)) ∘ fun k => (k, G.nxt st k)) = G.ch true (G.mvOf M st) := by
    funext k
    show decide (k = d) = (!true || decide (G.mvOf M st = some k))
    rw [hd]
    by_cases e : k = d
    · subst e; simp
    · have e' : ¬ d = k := fun z => e z.symm
      simp [e, e']
  show ((G.rdy N nums st).filter ((fun y : Int × List Int => decide (y.1 = d)) ∘ fun k => (k, G.nxt st k))).map _ = _
  rw [e2]
  rfl
theorem kids_false {N : List (Option Int)} {nums : List (List Int)} {M : G.Mv} {st : List Int} {lf : List (Addr × Addr × (Int × List Int))} (h : lf.map (·.2.2) = G.ext N nums st) :
    lf.map (fun x => (x.2.2.2, true)) = G.kids (G.rdy N nums) M (st, false) := by
  have e1 : lf.map (fun x => (x.2.2.2, true)) = (lf.map (·.2.2)).map fun y => (y.2, true) := by
    rw [List.map_map]
    rfl
  rw [e1, h]
  unfold G.ext G.kids
  have e3 : (G.rdy N nums st).filter (G.ch false (G.mvOf M st)) = G.rdy N nums st := List.filter_eq_self.mpr fun _ _ => rfl
  show _ = ((G.rdy N nums st).filter (G.ch false (G.mvOf M st))).map _
  rw [List.map_map, e3]
  rfl
theorem kids_nil {N : List (Option Int)} {nums : List (List Int)} {M : G.Mv} {st : List Int} {b : Bool} (h : G.rdy N nums st = []) : G.kids (G.rdy N nums) M (st, b) = [] := by
  unfold G.kids
  show ((G.rdy N nums st).filter _).map _ = []
  rw [h]
  rfl
theorem ok_law_follows (T : Txt K mg) (D1 : Def P w K mg base 3 "_law_further" ["_law_some", "_law_numbers_here", "_law_state"] spLFurther) : Def P w K mg base 4 "_law_follows" ["_law_some", "_law_numbers_here", "_law_is_first", "_law_moves"] (spFollows P w) := by
  obtain ⟨fd, F⟩ := T.f_law_follows
  refine mkDef F T.m_law_follows (fun _ _ _ _ _ _ us hl => match us, hl with | [_, _, _, _], _ => rfl) (fok F sc_law_follows (fun vs H Q E h => ?_) (fun cdv A outer s H vs Q E hr h => ?_))
  · obtain ⟨a, b, md, N, nums, f, M, rfl, _⟩ := h
    rfl
  obtain ⟨a, b, md, N, nums, f, M, rfl, hI, few, hnums, hlen, hmd, pl, q⟩ := h
  have hu := hu64 hr
  have gm := G.rdy_gm N nums
  refine ⟨_, (pss_cons (ps_par rfl sc_law_follows.nd (i := 4) (j := 5) rfl rfl (by decide) rfl rfl (pa_cons (pe_lst pa_nil) (pa_cons (pe_lst (pa_cons (pe_tup (pa_cons (pe_tup pa_nil) (pa_cons (pv 2) pa_nil))) pa_nil)) pa_nil)) (by rfl)) <|
    pss_cons (ps_for PassesOwn.never rfl (pi_range1 (by rfl) T.z_range (pa_cons pe_int pa_nil)) (pg_name (i := 6) sc_law_follows.nd rfl (Or.inl rfl)) (
      pss_cons (ps_set (i := 7) sc_law_follows.nd rfl (Or.inr rfl) (pe_lst pa_nil)) <|
      pss_cons (ps_for PassesOwn.never rfl (pi_list (pv 5)) (pg_tup rfl (pgs_cons (pg_name (i := 8) sc_law_follows.nd rfl (Or.inr rfl)) (pgs_cons (pg_name (i := 9) sc_law_follows.nd rfl (Or.inr rfl)) pgs_nil))) (
        pss_cons (ps_set (i := 10) sc_law_follows.nd rfl (Or.inl rfl) (pe_c D1 hr (by rfl) (pa_cons (pv 0) (pa_cons (pv 1) (pa_cons (pv 8) pa_nil))))) <|
        pss_cons (ps_if (PW.pt (pw_and (pt_cmpR (op_eqNil (K := K) (hu0 hr)) (pv 10) (pe_lst pa_nil) (by rfl)) (pw_and1 (pt_cmpR op_lt (pe_callB (len_K (K := K)) (by rfl) T.z_len boot_len (pa_cons (pv 8) pa_nil)) (pe_callB (len_K (K := K)) (by rfl) T.z_len boot_len (pa_cons (pv 0) pa_nil)) (nomark _))))) (pss_one (ps_ret pe_non)) pss_nil) <|
        pss_cons (ps_if (PW.pt (pw_and (pt_val (pv 9)) (pw_and1 (pt_cmpR (op_neNil (K := K) (hu0 hr)) (pv 10) (pe_lst pa_nil) (by rfl))))) (
          pss_cons (ps_if (PW.pt (pw_or (pt_cmpR (or_nnotin (P := P) (w := w) hu) (pv 8) (pv 3) (by rfl)) (pw_or1 (pt_cmpR (notIn_K (K := K)) (pe_nget (P := P) (w := w) hu (pv 3) (pv 8) (fun _ _ => rfl))
              (pe_lc (own := [("_law_k", 11), ("_law_behind", 12)]) (by rfl) sc_law_follows.nd (pi_list (pv 10)) (blkOk_by (N := nFol) (sc := defScope s_law_follows) (by decide +kernel))
                (fun _ _ _ _ _ => pg_tupK (K := K) (n := 2) (by rfl) (pgs_cons (pg_name (i := 11) sc_law_follows.nd rfl (Or.inl rfl)) (pgs_cons (pg_name (i := 12) sc_law_follows.nd rfl (Or.inl rfl)) pgs_nil)))
                (fun _ _ _ _ _ => pts_nil) (fun _ _ _ _ _ => pv 11)) (by rfl))))) (pss_one (ps_ret pe_non)) pss_nil) <|
          pss_cons (ps_set (i := 4) sc_law_follows.nd rfl (Or.inl rfl) (pe_op op_cat (pv 4) (pe_ifExp (pt_cmpR (notInD_K (K := K) (hu65 hr)) (pv 8) (pv 4) (by rfl)) (pe_lst (pa_cons (pv 8) pa_nil)) (pe_lst pa_nil)))) <|
          pss_one (ps_setLc (i := 10) (own := [("_law_one", 13)]) (by rfl) sc_law_follows.nd rfl rfl (sw_true rfl rfl rfl (by decide +kernel)) (pi_list (pv 10)) (blkOk_by (N := nFol) (sc := defScope s_law_follows) (by decide +kernel))
            (fun _ _ _ _ _ => pg_name (i := 13) sc_law_follows.nd rfl (Or.inl rfl))
            (fun _ _ _ _ _ => pts_one (pt_cmpR op_eq (pe_ix (ixT_K (K := K)) (pv 13) pe_int (fun _ _ => rfl)) (pe_nget (P := P) (w := w) hu (pv 3) (pv 8) (fun _ _ => rfl)) (by rfl)))
            (fun _ _ _ _ _ => pv 13))) pss_nil) <|
        pss_one (ps_set (i := 7) sc_law_follows.nd rfl (Or.inr rfl) (pe_op op_cat (pv 7) (pe_lc (own := [("_law_k", 11), ("_law_behind", 12)]) (by rfl) sc_law_follows.nd (pi_list (pv 10)) (blkOk_by (N := nFol) (sc := defScope s_law_follows) (by decide +kernel))
            (fun _ _ _ _ _ => pg_tupK (K := K) (n := 2) (by rfl) (pgs_cons (pg_name (i := 11) sc_law_follows.nd rfl (Or.inl rfl)) (pgs_cons (pg_name (i := 12) sc_law_follows.nd rfl (Or.inl rfl)) pgs_nil)))
            (fun _ _ _ _ _ => pts_one (pt_cmpR (notInD_K (K := K) (hu65 hr)) (pe_tup (pa_cons (pv 12) (pa_cons (pe_not (pv 9)) pa_nil))) (pv 7) (by rfl)))
            (fun _ _ _ _ _ => pe_tup (pa_cons (pv 12) (pa_cons (pe_not (pv 9)) pa_nil)))))))) <|
      pss_one (ps_set (i := 5) sc_law_follows.nd rfl (Or.inl rfl) (pv 7)))) <|
    pss_one (ps_ret (pe_callB (cr_sortRows (K := K) (hu3 hr)) (by rfl) T.z_sorted (by decide +kernel) (pa_cons (pv 4) pa_nil)))), ?_⟩
  refine ⟨line_le (by decide), fun me hme => ?_⟩
  have s1 := same_upd (o := .lst []) hme
  have g1 : StsL (upd H me (.lst [])) me [] := ⟨[], upd_same, rfl, fun _ h => nomatch h⟩
  generalize upd H me (.lst []) = H1 at s1 g1
  refine ⟨line_le (by decide), fun e1 he1 => ?_⟩
  have s2 := same_upd (o := .tup []) he1
  have g2 : StAt (upd H1 e1 (.tup [])) e1 [] := upd_same
  generalize upd H1 e1 (.tup []) = H2 at s2 g2
  refine ⟨_, rfl, line2, fun e2 he2 => ?_⟩
  have s3 := same_upd (o := .tup [V.ref e1, V.bl f]) he2
  have g3 : upd H2 e2 (.tup [V.ref e1, V.bl f]) e2 = some (.tup [.ref e1, .bl f]) := upd_same
  generalize upd H2 e2 (.tup [V.ref e1, V.bl f]) = H3 at s3 g3
  refine ⟨line1, fun rw0 hrw0 => ⟨_, _, rfl, ?_⟩⟩
  have s4 := same_upd (o := .lst [V.ref e2]) hrw0
  have g4 : RowsL (upd H3 rw0 (.lst [V.ref e2])) rw0 [([], f)] := RowsL.one hrw0 g3 (g2.tups (Same.tups s3))
  generalize upd H3 rw0 (.lst [V.ref e2]) = H4 at s4 g4
  have s14 : Same H1 H4 := Same.trans s2 (Same.trans s3 s4)
  refine ⟨_, rfl, by decide, by decide, for_range (lo := 0) (n := 20) (fun t σ H' => ∃ (v6 v7 v8 v9 v10 v11 v12 v13 : Option V) (rw1 me1 : Addr) (rows : List G.Row) (TT : List (List Int)), σ = [some (.ref a), some (.ref b), some (.bl f), some (.ref md), some (.ref me1), some (.ref rw1), v6, v7, v8, v9, v10, v11, v12, v13] ∧
      Same H H' ∧ RowsL H' rw1 rows ∧ StsL H' me1 TT ∧ G.BO (G.rdy N nums) f M t rows TT)
    ⟨none, none, none, none, none, none, none, none, rw0, me, _, _, rfl, Same.trans s1 s14, g4, g1.same s14, G.BO.start⟩ ?_ ?_⟩
  rotate_left
  · rintro σ H5 ⟨v6, v7, v8, v9, v10, v11, v12, v13, rw1, me1, rows, TT, rfl, s5, hrows, hmet, bo⟩
    have hperm := bo.fin gm pl (by omega)
    have hT64 : TT.length ≤ 64 := G.states_few few bo.tn fun s hs => (bo.tr s hs).1.ok gm
    obtain ⟨l, h1, h2, h3⟩ := hmet
    refine ⟨_, rfl, me1, l, rfl, SqL.of h1, h3, by rw [← h2, List.length_map] at hT64; omega, fun l' p hp hs hpf => ?_⟩
    have sp := same_upd (o := .lst (l'.map fun p => V.ref p.1)) hpf
    have e : l'.map (·.2) = M.map (·.1) := G.sortedL_unique ((hp.map _).trans (by rw [h2]; exact hperm)) hs (G.le_asc pl.asc)
    exact q p _ (Same.trans s5 sp) ⟨l', upd_same, e, fun x hx => sp _ _ (h3 x (hp.mem_iff.mp hx))⟩
  rintro t σ H5 ht ⟨v6, v7, v8, v9, v10, v11, v12, v13, rw1, me1, rows, TT, rfl, s5, hrows, hmet, bo⟩
  refine ⟨line_le (by decide), fun mo hmo => ?_⟩
  have s6 := same_upd (o := .lst []) hmo
  have g6 : RowsL (upd H5 mo (.lst [])) mo [] := RowsL.nil hmo
  have W0 : FoI H rw1 mo me1 rows [] TT (upd H5 mo (.lst [])) := ⟨Same.trans s5 s6, hrows.same s6, g6, hmet.same s6⟩
  generalize upd H5 mo (.lst []) = H6 at s6 g6 W0
  obtain ⟨l, r1, r2, r3⟩ := id W0.rws
  have hrl : rows.length ≤ 128 := G.rows_few few bo.nd fun x hx => (bo.re x hx).1.ok gm
  refine ⟨_, rfl, rw1, rfl, ⟨_, SqL.of r1⟩, for_list (K := K) (a := rw1) (xs := l.map fun p => V.ref p.1) (fun i σ H' => ∃ (v8 v9 v10 v11 v12 v13 : Option V) (mo1 me1 : Addr) (more : List G.Row) (TT : List (List Int)), σ = [some (.ref a), some (.ref b), some (.bl f), some (.ref md), some (.ref me1), some (.ref rw1), some (.int (0 + (t : Nat))), some (.ref mo1), v8, v9, v10, v11, v12, v13] ∧
      Same H6 H' ∧ RowsL H' mo1 more ∧ StsL H' me1 TT ∧ G.BJ (G.rdy N nums) f M t (rows.take i) more TT)
    ⟨v8, v9, v10, v11, v12, v13, mo, me1, [], TT, rfl, Same.refl _, g6, W0.met, G.BJ.start bo⟩ (fun i σ H' _ ⟨_, _, _, _, _, _, _, _, _, _, _, s, _⟩ => SqL.of (s _ _ r1)) ?_ ?_⟩
  rotate_left
  · rintro σ H7 ⟨v8, v9, v10, v11, v12, v13, mo1, me1, more, TT, rfl, s7, hmore, hmet, bj⟩
    rw [List.length_map, List.take_of_length_le (by rw [← r2, List.length_map]; exact Nat.le_refl _)] at bj
    exact ⟨_, rfl, _, _, _, _, _, _, _, _, mo1, me1, more, TT, rfl, Same.trans W0.same s7, hmore, hmet, bj.fin bo⟩
  rintro i y σ H7 hi ⟨v8, v9, v10, v11, v12, v13, mo1, me1, more, TT', rfl, s7, hmore, hmet, bj⟩
  obtain ⟨x, hx, rfl⟩ := map_get hi
  obtain ⟨x1, x2⟩ := r3 x (List.mem_of_getElem? hx)
  have hrx : rows[i]? = some x.2.2 := by rw [← r2, List.getElem?_map, hx]; rfl
  obtain ⟨hre, hlx⟩ := bo.re x.2.2 (List.mem_of_getElem? hrx)
  have bj2 := bj.step gm hre hlx
  rw [← take_snoc hrx] at bj2
  obtain ⟨xa, sa, st, mi⟩ := x
  have hre : G.Reach (G.rdy N nums) (G.mvOf M) f st mi := hre
  have oks := hre.ok gm
  have x1 : H6 xa = some (.tup [.ref sa, .bl mi]) := x1
  have x2 : StAt H6 sa st := x2
  refine ⟨xa, _, rfl, SqT.of (s7 _ _ x1), rfl, _, _, rfl, _, _, rfl, rfl, ?_⟩
  have s67 : Same H H7 := Same.trans W0.same s7
  refine ⟨_, rfl, _, rfl, _, rfl, a, b, sa, N, nums, st, rfl, hI.same s67, few, hnums.tups (Same.tups s67), hlen, x2.tups (Same.tups s7), oks, fun r HC sC hF => ?_⟩
  obtain ⟨lf, f1, f2, f3⟩ := id hF
  have s7C := Same.trans s7 sC
  have hmoreC := hmore.same sC
  have hmetC := hmet.same sC
  have hstC : StAt HC sa st := x2.tups (Same.tups s7C)
  have dmC : DD P w HC md (mvKvs M) := hmd.same (Same.trans s67 sC)
  have lfl : lf.length ≤ 6 := by
    have h1 := G.ext_len (N := N) (nums := nums) (s := st)
    rw [← f2, List.length_map] at h1
    omega
  have lfnil : (lf.map fun p => V.ref p.1).isEmpty = true ↔ G.rdy N nums st = [] := by
    rw [← G.ext_nil, ← f2]
    cases lf <;> simp
  have hml : more.length ≤ 128 := G.rows_few few bj.nd fun x hx => (bj.re x hx).1.ok gm
  have hTl : TT'.length ≤ 64 := G.states_few few bj.tn fun s hs => (bj.tr s hs).1.ok gm
  have test1 : ∀ Qb : Bool → Hp → Prop, (∀ HD, Same HC HD → Qb false HD) → tAnd (tTest (tOp (rEqNil K) (tVar 10) (tLst tNil))) (tTest (tOp (rI0 fun i j => .bl (decide (i < j))) (tCB (rLn K) (tCons (tVar 8) tNil)) (tCB (rLn K) (tCons (tVar 0) tNil))))
      [some (.ref a), some (.ref b), some (.bl f), some (.ref md), some (.ref me1), some (.ref rw1), some (.int (0 + (t : Nat))), some (.ref mo1), some (.ref sa), some (.bl mi), some (.ref r), v11, v12, v13] HC Qb := fun Qb hQ => by
    refine ⟨_, rfl, line_le (by decide), fun e0 he0 => ?_⟩
    have sD := same_upd (o := .lst []) he0
    refine ⟨r, e0, _, rfl, rfl, SqL.of (sD _ _ f1), SqL.of upd_same, _, rfl, ?_⟩
    refine ite2 (fun c => ?_) (fun c => ?_)
    · have hw := pl.win st mi hre (lfnil.mp c)
      obtain ⟨va, hva, hval⟩ := (hI.same (Same.trans s67 (Same.trans sC sD))).len
      refine ⟨_, rfl, sa, _, rfl, .inr (SqT.of (sD _ _ hstC)), _, rfl, a, _, rfl, .inl (SqL.of hva), _, _, rfl, rfl, _, rfl, ?_⟩
      rw [List.length_map, hval, hw, decide_eq_false (Int.lt_irrefl _)]
      exact hQ _ sD
    · exact hQ _ sD
  refine test1 _ fun HD sD => ?_
  clear test1
  refine iteF ?_
  have sD6 := Same.trans s7C sD
  have dmD := dmC.same sD
  have hstD := hstC.tups (Same.tups sD)
  have hrD := sD _ _ f1
  have tail : ∀ DD : Ends, (∀ (me2 r2 mo2 : Addr) (u1 u2 u3 : Option V) HY, Same HD HY → RowsL HY mo2 (more ++ G.newOf more (G.kids (G.rdy N nums) M (st, mi))) → StsL HY me2 (TT' ++ G.metOf (G.rdy N nums) TT' (st, mi)) →
        DD.nx [some (.ref a), some (.ref b), some (.bl f), some (.ref md), some (.ref me2), some (.ref rw1), some (.int (0 + (t : Nat))), some (.ref mo2), some (.ref sa), some (.bl mi), some (.ref r2), u1, u2, u3] HY) →
      ∀ (me2 r2 : Addr) (u1 u2 u3 : Option V) (lf2 : List (Addr × Addr × (Int × List Int))) HX, Same HD HX → HX r2 = some (.lst (lf2.map fun p => V.ref p.1)) → lf2.length ≤ 6 → (∀ x ∈ lf2, HX x.1 = some (.tup [.int x.2.2.1, .ref x.2.1]) ∧ StAt HX x.2.1 x.2.2.2) → lf2.map (fun x => (x.2.2.2, !mi)) = G.kids (G.rdy N nums) M (st, mi) → StsL HX me2 (TT' ++ G.metOf (G.rdy N nums) TT' (st, mi)) →
        tAsg (tOp rCat (tVar 7) (tLc (iList K (tVar 10)) (gTup K 2 (gCons (gName 11) (gCons (gName 12) gNil))) (tTest (tOp (rNotInD K) (tTup (tCons (tVar 12) (tCons (tNotV (tVar 9)) tNil))) (tVar 7))) (tTup (tCons (tVar 12) (tCons (tNotV (tVar 9)) tNil))) [11, 12])) (gName 7) DD
          [some (.ref a), some (.ref b), some (.bl f), some (.ref md), some (.ref me2), some (.ref rw1), some (.int (0 + (t : Nat))), some (.ref mo1), some (.ref sa), some (.bl mi), some (.ref r2), u1, u2, u3] HX := by
    intro DD hDD me2 r2 u1 u2 u3 lf2 HX sX hr2 hl2 hf2 hk hmX
    refine ⟨_, rfl, _, rfl, r2, rfl, ⟨_, SqL.of hr2⟩, fun D hD => ?_⟩
    have hmoX := hmoreC.same (Same.trans sD sX)
    let qm : G.Row → Bool := fun y => !decide (y ∈ more)
    have lkk : (lf2.map fun x => (x.2.2.2, !mi)).length ≤ 6 := by rw [List.length_map]; exact hl2
    refine lc_list (K := K) (a := r2) (xs := lf2.map fun p => V.ref p.1) (fun j H' => RwI HX D (((lf2.map fun x => (x.2.2.2, !mi)).take j).filter qm) H') (RwI.start hD) (fun i H' _ h => SqL.of (h.same _ _ hr2)) ?_ ?_
    · rintro j y H' hj h
      obtain ⟨x, hx, rfl⟩ := map_get hj
      obtain ⟨k1, k2⟩ := hf2 x (List.mem_of_getElem? hx)
      have hkk : (lf2.map fun x => (x.2.2.2, !mi))[j]? = some (x.2.2.2, !mi) := by rw [List.getElem?_map, hx]; rfl
      refine ⟨x.1, _, rfl, SqT.of (h.same _ _ k1), rfl, ⟨_, _, rfl, _, _, rfl, rfl, rfl, ?_⟩⟩
      have k2' := k2.tups (Same.tups h.same)
      refine ⟨_, rfl, _, rfl, mi, rfl, line2, fun p hp => ?_⟩
      have sp := same_upd (o := .tup [V.ref x.2.1, V.bl (!mi)]) hp
      have gp : upd H' p (.tup [V.ref x.2.1, V.bl (!mi)]) p = some (.tup [.ref x.2.1, .bl (!mi)]) := upd_same
      have h' := h.go sp
      generalize upd H' p (.tup [V.ref x.2.1, V.bl (!mi)]) = H2 at sp gp h'
      have k3 := k2'.tups (Same.tups sp)
      refine ⟨_, rfl, pD (x.2.2.2, !mi), more.map pD, dp_pr gp k3, dp_rows (hmoX.same h'.same), (sh_pD _).shaped (by decide), (sh_map sh_pD _).shaped (by decide), ?_⟩
      rw [any_map eqv_pD, filter_snoc _ hkk]
      refine ⟨_, rfl, ite2 (fun c => ?_) (fun c => ?_)⟩
      · rw [if_pos (show qm (x.2.2.2, !mi) = true by simpa [qm] using c)]
        refine ⟨_, rfl, _, rfl, mi, rfl, line2, fun p2 hp2 => ?_⟩
        have sp2 := same_upd (o := .tup [V.ref x.2.1, V.bl (!mi)]) hp2
        refine RwI.add (x := (x.2.2.2, !mi)) hD h' sp2 upd_same (k3.tups (Same.tups sp2)) (line_lt ?_)
        have := List.length_filter_le qm ((lf2.map fun x => (x.2.2.2, !mi)).take j)
        rw [List.length_take] at this
        omega
      · rw [if_neg (show ¬ qm (x.2.2.2, !mi) = true by simpa [qm] using c), List.append_nil]
        exact h'
    · rintro HG h
      rw [List.length_map, List.take_of_length_le (by rw [List.length_map]; exact Nat.le_refl _)] at h
      have hnew := h.at_
      rw [hk] at hnew
      have nlen : ((G.kids (G.rdy N nums) M (st, mi)).filter qm).length ≤ 6 := by
        have := List.length_filter_le qm (G.kids (G.rdy N nums) M (st, mi))
        rw [← hk] at this
        rw [← hk]
        omega
      obtain ⟨vx, ex, _, lx⟩ := (hmoX.same h.same).lst
      obtain ⟨vz, ez, _, lz⟩ := hnew.lst
      refine ⟨mo1, D, vx, vz, rfl, rfl, ex, ez, line_le (by omega), fun p hp => ?_⟩
      obtain ⟨xs, zs, hx, hz, _, _, hcat⟩ := RowsL.cat (hmoX.same h.same) hnew hp
      rw [ex] at hx
      cases hx
      rw [ez] at hz
      cases hz
      have sp := same_upd (o := .lst (vx ++ vz)) hp
      exact hDD me2 r2 p u1 u2 u3 _ (Same.trans sX (Same.trans h.same sp)) hcat ((hmX.same h.same).same sp)
  have fur : ∀ {HX : Hp}, Same HD HX → ∀ x ∈ lf, HX x.1 = some (.tup [.int x.2.2.1, .ref x.2.1]) ∧ StAt HX x.2.1 x.2.2.2 := fun s x hx =>
    ⟨s _ _ (sD _ _ (f3 x hx).1), ((f3 x hx).2.tups (Same.tups sD)).tups (Same.tups s)⟩
  have hmetD := hmetC.same sD
  have hmoD := hmoreC.same sD
  cases mi with
  | false =>
    refine ⟨_, rfl, false, rfl, iteF ?_⟩
    refine tail _ (fun me2 r2 mo2 u1 u2 u3 HY sY hm hs => ?_) me1 r v11 v12 v13 lf HD (Same.refl _) hrD lfl (fur (Same.refl _)) (kids_false f2) ?_
    · exact ⟨_, _, _, _, _, _, mo2, me2, _, _, rfl, Same.trans sD6 sY, hm, hs, bj2⟩
    have e : G.metOf (G.rdy N nums) TT' (st, false) = [] := by
      unfold G.metOf
      rw [if_neg (fun z => nomatch z.1)]
    rw [e, List.append_nil]
    exact hmetD
  | true =>
    refine ⟨_, rfl, true, rfl, iteT ?_⟩
    refine ⟨_, rfl, line_le (by decide), fun e0 he0 => ?_⟩
    have sE := same_upd (o := .lst []) he0
    refine ⟨r, e0, _, rfl, rfl, SqL.of (sE _ _ hrD), SqL.of upd_same, _, rfl, ?_⟩
    generalize upd HD e0 (.lst []) = HE at sE
    refine ite2 (fun hnn => ?_) (fun hnn => ?_)
    rotate_left
    · have hz : G.rdy N nums st = [] := lfnil.mp (by simpa using hnn)
      refine tail _ (fun me2 r2 mo2 u1 u2 u3 HY sY hm hs => ?_) me1 r v11 v12 v13 lf HE sE (sE _ _ hrD) lfl (fur sE) ?_ ?_
      · exact ⟨_, _, _, _, _, _, mo2, me2, _, _, rfl, Same.trans sD6 sY, hm, hs, bj2⟩
      · rw [kids_nil hz]
        have : lf = [] := by
          have h1 := lfnil.mpr hz
          cases lf with
          | nil => rfl
          | cons x l => cases h1
        rw [this]
        rfl
      · have e : G.metOf (G.rdy N nums) TT' (st, true) = [] := by
          unfold G.metOf
          rw [if_neg (fun z => z.2.1 hz)]
        rw [e, List.append_nil]
        exact hmetD.same sE
    have hrd : G.rdy N nums st ≠ [] := fun e => by
      rw [lfnil.mpr e] at hnn
      cases hnn
    obtain ⟨d, hd⟩ := G.mvOf_some (pl.all st hre hrd)
    have hdr := (pl.door st d (G.mvOf_mem hd)).1
    have hvd : valV (mvKvs M) (kSt st) = some (.int d) := by rw [mvKvs_val, hd]; rfl
    have lfk : lf.map (fun x => x.2.2.1) = G.rdy N nums st := by
      have e1 : lf.map (fun x => x.2.2.1) = (lf.map (·.2.2)).map (·.1) := by rw [List.map_map]; rfl
      rw [e1, f2]
      unfold G.ext
      rw [List.map_map]
      exact List.map_id' _
    refine ⟨_, rfl, _, rfl, md, sa, mvKvs M, kSt st, rfl, rfl, dmD.same sE, .st (hstD.tups (Same.tups sE)), _, rfl, ?_⟩
    rw [hvd]
    refine iteF ?_
    refine ⟨_, rfl, _, rfl, md, sa, mvKvs M, kSt st, .int d, rfl, rfl, dmD.same sE, .st (hstD.tups (Same.tups sE)), hvd, ?_⟩
    have hrE := sE _ _ hrD
    refine ⟨_, rfl, r, rfl, ⟨_, SqL.of hrE⟩, fun D0 hD0 => ?_⟩
    refine lc_list (K := K) (a := r) (xs := lf.map fun p => V.ref p.1) (fun j H' => FI HE D0 ((lf.take j).map fun x => x.2.2.1) H') (FI.start hD0) (fun i H' _ h => SqL.of (h.same _ _ hrE)) ?_ ?_
    · rintro j y H' hj h
      obtain ⟨x, hx, rfl⟩ := map_get hj
      obtain ⟨k1, _⟩ := fur sE x (List.mem_of_getElem? hx)
      refine ⟨x.1, _, rfl, SqT.of (h.same _ _ k1), rfl, ⟨_, _, rfl, _, _, rfl, rfl, rfl, ?_⟩⟩
      rw [take_snoc hx, List.map_append]
      refine ⟨_, rfl, FI.add hD0 h (Same.refl _) (line_lt ?_)⟩
      rw [List.length_map, List.length_take]
      omega
    rintro HG h
    rw [List.length_map, List.take_length, lfk] at h
    refine ⟨D0, _, rfl, .inl (SqL.of h.at_), rfl, flat_ints _, ?_⟩
    rw [inV_ints, decide_eq_true hdr]
    refine ⟨_, rfl, iteF ?_⟩
    have sG := Same.trans sE h.same
    have m3 : ∀ DD : Ends, (∀ (u : Addr) HX, Same HG HX → StsL HX u (TT' ++ G.metOf (G.rdy N nums) TT' (st, true)) → DD.nx [some (.ref a), some (.ref b), some (.bl f), some (.ref md), some (.ref u), some (.ref rw1), some (.int (0 + (t : Nat))), some (.ref mo1), some (.ref sa), some (.bl true), some (.ref r), v11, v12, v13] HX) →
        tAsg (tOp rCat (tVar 4) (tIf (tTest (tOp (rNotInD K) (tVar 8) (tVar 4))) (tLst (tCons (tVar 8) tNil)) (tLst tNil))) (gName 4) DD
          [some (.ref a), some (.ref b), some (.bl f), some (.ref md), some (.ref me1), some (.ref rw1), some (.int (0 + (t : Nat))), some (.ref mo1), some (.ref sa), some (.bl true), some (.ref r), v11, v12, v13] HG := by
      intro DD hDD
      have hmG := hmetD.same sG
      have hstG := hstD.tups (Same.tups sG)
      obtain ⟨lm, m1, m2, m3⟩ := id hmG
      refine ⟨_, rfl, _, rfl, _, rfl, tD st, TT'.map tD, dp_st hstG, dp_sts hmG, (sh_tD _).shaped (by decide), (sh_map sh_tD _).shaped (by decide), ?_⟩
      rw [any_map eqv_tD]
      have lml : lm.length ≤ 64 := by rw [← m2, List.length_map] at hTl; exact hTl
      refine ⟨_, rfl, ite2 (fun c => ?_) (fun c => ?_)⟩
      · have hn : st ∉ TT' := by simpa using c
        have e : G.metOf (G.rdy N nums) TT' (st, true) = [st] := by
          unfold G.metOf
          rw [if_pos ⟨rfl, hrd, hn⟩]
        refine ⟨_, rfl, line1, fun p hp => ?_⟩
        have sp := same_upd (o := .lst [V.ref sa]) hp
        refine ⟨me1, p, _, [V.ref sa], rfl, rfl, sp _ _ m1, upd_same, ?_, fun u hu => ?_⟩
        · rw [List.length_map]
          exact line_le (by show lm.length + 1 ≤ 1000000; omega)
        · have su := same_upd (o := .lst ((lm.map fun p => V.ref p.1) ++ [V.ref sa])) hu
          refine hDD u _ (Same.trans sp su) ?_
          rw [e]
          refine ⟨lm ++ [(sa, st)], by rw [upd_same, List.map_append]; rfl, by rw [List.map_append, m2]; rfl, fun z hz => ?_⟩
          rcases List.mem_append.mp hz with hz | hz
          · exact su _ _ (sp _ _ (m3 z hz))
          · rw [List.mem_singleton] at hz
            subst hz
            exact su _ _ (sp _ _ hstG)
      · have hn : st ∈ TT' := by simpa using c
        have e : G.metOf (G.rdy N nums) TT' (st, true) = [] := by
          unfold G.metOf
          rw [if_neg (fun z => z.2.2 hn)]
        refine ⟨line_le (by decide), fun p hp => ?_⟩
        have sp := same_upd (o := .lst []) hp
        refine ⟨me1, p, _, [], rfl, rfl, sp _ _ m1, upd_same, ?_, fun u hu => ?_⟩
        · rw [List.length_map]
          exact line_le (by show lm.length + 0 ≤ 1000000; omega)
        · have su := same_upd (o := .lst ((lm.map fun p => V.ref p.1) ++ [])) hu
          refine hDD u _ (Same.trans sp su) ?_
          rw [e, List.append_nil TT']
          exact ⟨lm, by rw [upd_same, List.append_nil], m2, fun z hz => su _ _ (sp _ _ (m3 z hz))⟩
    refine m3 _ fun u HX sX hmX => ?_
    clear m3
    have sDX := Same.trans sG sX
    have hrX := sDX _ _ hrD
    refine ⟨_, rfl, r, rfl, ⟨_, SqL.of hrX⟩, fun D1 hD1 => ?_⟩
    let pr : (Addr × Addr × (Int × List Int)) → Bool := fun x => decide (x.2.2.1 = d)
    refine lc_list (K := K) (a := r) (xs := lf.map fun p => V.ref p.1) (fun j H' => Same HX H' ∧ H' D1 = some (.lst (((lf.take j).filter pr).map fun x => V.ref x.1))) ⟨same_upd hD1, upd_same⟩ (fun i H' _ h => SqL.of (h.1 _ _ hrX)) ?_ ?_
    · rintro j y H' hj ⟨h, hat⟩
      obtain ⟨x, hx, rfl⟩ := map_get hj
      obtain ⟨k1, _⟩ := fur (Same.trans sDX h) x (List.mem_of_getElem? hx)
      have dmX := dmD.same (Same.trans sDX h)
      have hstX := hstD.tups (Same.tups (Same.trans sDX h))
      refine ⟨rfl, _, rfl, x.1, _, 0, .int x.2.2.1, rfl, rfl, SqT.of k1, rfl, _, rfl, _, rfl, md, sa, mvKvs M, kSt st, .int d, rfl, rfl, dmX, .st hstX, hvd, rfl, ?_⟩
      rw [dec_int, filter_snoc _ hx]
      refine ⟨_, rfl, ite2 (fun c => ?_) (fun c => ?_)⟩
      · rw [if_pos (show pr x = true from c), List.map_append]
        refine ⟨_, rfl, _, hat, line_lt ?_, same_updL h hD1, upd_same⟩
        have := List.length_filter_le pr (lf.take j)
        rw [List.length_take] at this
        rw [List.length_map]
        omega
      · rw [if_neg (show ¬ pr x = true from c), List.append_nil]
        exact ⟨h, hat⟩
    · rintro HZ ⟨h, hat⟩
      rw [List.length_map, List.take_length] at hat
      have lfp := List.length_filter_le pr lf
      refine tail _ (fun me2 r2 mo2 u1 u2 u3 HY sY hm hs => ?_) u D1 v11 v12 v13 (lf.filter pr) HZ (Same.trans sDX h) hat (by omega) (fun x hx => fur (Same.trans sDX h) x (List.mem_filter.mp hx).1) (kids_true hd f2) (hmX.same h)
      exact ⟨_, _, _, _, _, _, mo2, me2, _, _, rfl, Same.trans sD6 sY, hm, hs, bj2⟩
end
end Kd

/-! ### the law -/
namespace Kd
open PySem PySem.Spec PyProof.Rows L2
section
variable {P : Program} {w : World} {K : PySem.W.Frag} {mg : Str → Option Value} {base : Heap}
def spLaw (K : PySem.W.Frag) : Sp := fun vs H Q _ => ∃ (a : Addr) (ns : List Int), vs = [.ref a] ∧ SqL K H a (ns.map V.int) ∧ ∀ H', Q (.bl true) H'
theorem sc_law : FnScope ["_law_script", "_law_row", "_law_nest_here", "_law_numbers_here", "_law_some", "_law_is_first", "_law_can", "_law_found", "_law_one"] ["_law_script"] (defScope s_law) := ⟨rfl, rfl, rfl, by decide +kernel, rfl, by decide +kernel, by decide +kernel⟩
abbrev nLaw : List Str := ["_law_script", "_law_row", "_law_nest_here", "_law_numbers_here", "_law_some", "_law_is_first", "_law_can", "_law_found", "_law_one"]
theorem ok_law (T : Txt K mg) (D1 : Def P w K mg base 4 "_law_thin" ["_law_row"] (spThin K)) (D2 : Def P w K mg base 1 "_law_insides" ["_law_nest_here"] spInsides) (D3 : Def P w K mg base 12 "_law_end" ["_law_some", "_law_numbers_here", "_law_state", "_law_is_first", "_law_known"] (spEnd P w 7))
    (D4 : Def P w K mg base 13 "keeper_plan" ["nest", "numbers", "is_first"] spPlan) (D5 : Def P w K mg base 13 "kept_open" ["nest", "numbers", "state", "is_first"] (spKept P w)) (D6 : Def P w K mg base 13 "shows_plan" ["nest", "numbers", "is_first", "value"] spShows)
    (D7 : Def P w K mg base 4 "_law_follows" ["_law_some", "_law_numbers_here", "_law_is_first", "_law_moves"] (spFollows P w)) {fd : FuncData} (F : FnP K "law" s_law (He.ga K "law") fd) : FnOk P w K mg base CX0 14 (He.ga K "law") fd ["_law_script"] (spLaw K) := by
  refine fok F sc_law (fun vs H Q E h => ?_) (fun cdv A outer s H vs Q E hr h => ?_)
  · obtain ⟨a, ns, rfl, _⟩ := h
    rfl
  obtain ⟨sc, ns, rfl, hsc, q⟩ := h
  have hu := hu64 hr
  refine ⟨_, (pss_cons (ps_set (i := 1) sc_law.nd rfl (Or.inl rfl) (pe_lst (pa_cons (pv 0) (pa_cons pe_int (pa_cons pe_int (pa_cons pe_int pa_nil)))))) <|
    pss_cons (ps_asg (pe_c D1 (hr.mono (by decide)) (by rfl) (pa_cons (pv 1) pa_nil)) (pg_tup rfl (pgs_cons (pg_name (i := 2) sc_law.nd rfl (Or.inl rfl)) (pgs_cons (pg_name (i := 3) sc_law.nd rfl (Or.inl rfl)) pgs_nil)))) <|
    pss_cons (ps_set (i := 4) sc_law.nd rfl (Or.inl rfl) (pe_c D2 (hr.mono (by decide)) (by rfl) (pa_cons (pv 2) pa_nil))) <|
    pss_cons (ps_for PassesOwn.never rfl (pi_list (pe_lst (pa_cons pe_bl (pa_cons pe_bl pa_nil)))) (pg_name (i := 5) sc_law.nd rfl (Or.inl rfl)) (
      pss_cons (ps_set (i := 6) sc_law.nd rfl (Or.inl rfl) (pe_cmpR op_eq (pe_c D3 (hr.mono (by decide)) (by rfl) (pa_cons (pv 4) (pa_cons (pv 3) (pa_cons (pe_tup pa_nil) (pa_cons (pv 5) (pa_cons (pe_nnew (P := P) (w := w)) pa_nil)))))) (pe_callB (len_K (K := K)) (by rfl) T.z_len boot_len (pa_cons (pv 2) pa_nil)) (nomark _))) <|
      pss_cons (ps_set (i := 7) sc_law.nd rfl (Or.inl rfl) (pe_c D4 hr (by rfl) (pa_cons (pv 2) (pa_cons (pv 3) (pa_cons (pv 5) pa_nil))))) <|
      pss_cons (ps_if (PW.pt (pw_or (pt_cmpR op_ne (pe_cmp (pc_notN (pv 7))) (pv 6) (by rfl)) (pw_or1 (pt_cmpR op_ne (pe_c D5 hr (by rfl) (pa_cons (pv 2) (pa_cons (pv 3) (pa_cons (pe_tup pa_nil) (pa_cons (pv 5) pa_nil))))) (pv 6) (by rfl))))) (pss_one (ps_ret pe_bl)) pss_nil) <|
      pss_cons (ps_if (pt_cmpR op_eq (pe_c D6 hr (by rfl) (pa_cons (pv 2) (pa_cons (pv 3) (pa_cons (pv 5) (pa_cons pe_non pa_nil))))) (pv 6) (by rfl)) (pss_one (ps_ret pe_bl)) pss_nil) <|
      pss_cons (ps_if (pt_cmpR op_isnot_bl (pe_c D6 hr (by rfl) (pa_cons (pv 2) (pa_cons (pv 3) (pa_cons (pv 5) (pa_cons (pv 7) pa_nil))))) pe_bl (by rfl)) (pss_one (ps_ret pe_bl)) pss_nil) <|
      pss_one (ps_if (pt_cmp (pc_notN (pv 7))) (
        pss_cons (ps_if (pt_not (pt_val (pe_callB (isi_K (K := K)) (by rfl) T.z_isinstance (by decide +kernel) (pa_cons (pv 7) (pa_cons (pe_bltn (v := .ty "tuple") (by rfl) T.z_tuple (by decide +kernel) rfl) pa_nil))))) (pss_one (ps_ret pe_bl)) pss_nil) <|
        pss_cons (ps_if (pt_cmpR (op_neNil (K := K) (hu0 hr)) (pe_lc (own := [("_law_one", 8)]) (g := gName 8) (by rfl) sc_law.nd (pi_tup (pv 7)) (blkOk_by (N := nLaw) (sc := defScope s_law) (by decide +kernel))
            (fun _ _ _ _ _ => pg_name (i := 8) sc_law.nd rfl (Or.inl rfl))
            (fun _ _ _ _ _ => pts_one (PW.pt (pw_or (pt_not (pt_val (pe_callB (isi_K (K := K)) (by rfl) T.z_isinstance (by decide +kernel) (pa_cons (pv 8) (pa_cons (pe_bltn (v := .ty "tuple") (by rfl) T.z_tuple (by decide +kernel) rfl) pa_nil))))) (pw_or1 (pt_cmpR op_ne (pe_callB (len_K (K := K)) (by rfl) T.z_len boot_len (pa_cons (pv 8) pa_nil)) pe_int (nomark _))))))
            (fun _ _ _ _ _ => pv 8)) (pe_lst pa_nil) (by rfl)) (pss_one (ps_ret pe_bl)) pss_nil) <|
        pss_one (ps_if (pt_cmpR (neD_K (K := K) hu) (pe_c D7 (hr.mono (by decide)) (by rfl) (pa_cons (pv 4) (pa_cons (pv 3) (pa_cons (pv 5) (pa_cons (pe_callTy (call_dictT (P := P) (w := w) (by rfl) hu) (by rfl) T.z_dict (by decide +kernel) (pa_cons (pv 7) pa_nil)) pa_nil)))))
            (pe_lc (own := [("_law_one", 8)]) (g := gName 8) (by rfl) sc_law.nd (pi_tup (pv 7)) (blkOk_by (N := nLaw) (sc := defScope s_law) (by decide +kernel))
              (fun _ _ _ _ _ => pg_name (i := 8) sc_law.nd rfl (Or.inl rfl)) (fun _ _ _ _ _ => pts_nil) (fun _ _ _ _ _ => pe_ix (ixT_K (K := K)) (pv 8) pe_int (fun _ _ => rfl))) (by rfl)) (pss_one (ps_ret pe_bl)) pss_nil)) pss_nil))) <|
    pss_one (ps_ret pe_bl)), ?_⟩
  refine ⟨_, rfl, line_le (by show 4 ≤ _; decide), fun r hr0 => ?_⟩
  have s1 := same_upd (o := .lst [V.ref sc, V.int 0, V.int 7748, V.int 0]) hr0
  have row1 : RowAt r sc (upd H r (.lst [V.ref sc, V.int 0, V.int 7748, V.int 0])) := RowAt.start
  have sc1 : ScOk K (upd H r (.lst [V.ref sc, V.int 0, V.int 7748, V.int 0])) sc := ScOk.same ⟨ns, hsc⟩ s1
  generalize upd H r (.lst [V.ref sc, V.int 0, V.int 7748, V.int 0]) = H1 at s1 row1 sc1
  refine ⟨_, rfl, r, sc, rfl, row1, sc1, fun v a b N nums H2 b2 row2 ok okn hN hnums hv => ?_⟩
  have few := ok.few
  have hlN : ((N.map oV).length : Int) = N.length := by rw [List.length_map]
  have gm := G.rdy_gm N nums
  refine ⟨v, _, rfl, SqT.of hv, rfl, _, _, rfl, _, _, rfl, rfl, ?_⟩
  refine ⟨_, rfl, a, N, rfl, hN, ok, fun sm H3 s3 hsm hls => ?_⟩
  have hI := hls.ins
  have hN3 := hN.tups (Same.tups s3)
  have hnums3 := hnums.tups (Same.tups s3)
  refine ⟨line2, fun L hL => ?_⟩
  have s4 := same_upd (o := .lst [V.bl false, V.bl true]) hL
  have g4 : upd H3 L (.lst [V.bl false, V.bl true]) L = some (.lst [V.bl false, V.bl true]) := upd_same
  have hI4 := hI.same s4
  have hN4 := hN3.tups (Same.tups s4)
  have hnums4 := hnums3.tups (Same.tups s4)
  generalize upd H3 L (.lst [V.bl false, V.bl true]) = H4 at s4 g4 hI4 hN4 hnums4
  refine ⟨L, rfl, ⟨_, SqL.of g4⟩, for_list (K := K) (a := L) (xs := [V.bl false, V.bl true]) (fun i σ H' => ∃ (v5 v6 v7 v8 : Option V), σ = [some (.ref sc), some (.ref r), some (.ref a), some (.ref b), some (.ref sm), v5, v6, v7, v8] ∧ Same H4 H')
    ⟨none, none, none, none, rfl, Same.refl _⟩ (fun i σ H' _ ⟨_, _, _, _, _, s⟩ => SqL.of (s _ _ g4)) ?_ ?_⟩
  rotate_left
  · rintro σ H5 ⟨v5, v6, v7, v8, rfl, s5⟩
    exact q _
  rintro i y σ H5 hi ⟨v5, v6, v7, v8, rfl, s5⟩
  obtain ⟨f, rfl⟩ : ∃ f, y = V.bl f := by
    match i, hi with
    | 0, hi => exact ⟨_, (Option.some.inj hi).symm⟩
    | 1, hi => exact ⟨_, (Option.some.inj hi).symm⟩
    | i + 2, hi => simp at hi
  -- can
  refine ⟨_, rfl, _, rfl, line_le (by decide), fun c hc => ?_⟩
  have s6 := same_upd (o := .tup []) hc
  refine ⟨_, rfl, fun d hd => ?_⟩
  have s7 := same_upd (o := DNO P w d []) hd
  have s57 := Same.trans s5 (Same.trans s6 s7)
  have t7 := Same.tups s57
  refine ⟨sm, b, c, d, N, nums, [], f, [], rfl, hI4.same s57, few, hnums4.tups t7, okn.len, s7 _ _ upd_same, G.Ok.nil _, DD.new, KnOk.nil, by show N.length - 0 < 7; omega, fun H8 kvs8 b8 t8 d8 n8 => ?_⟩
  have s8 : Same H4 H8 := same_but s57 (Same.free (Same.trans s5 s6) hd) b8
  refine ⟨_, rfl, a, _, rfl, .inr (SqT.of (s8 _ _ hN4)), rfl, ?_⟩
  rw [dec_int, hlN]
  refine ⟨_, rfl, _, rfl, _, rfl, a, b, N, nums, f, rfl, hN4.tups (Same.tups s8), ok, hnums4.tups (Same.tups s8), okn, fun H9 s9 hne => ?_, fun u o ps H9 s9 heq ho hu9 hps pl => ?_⟩
  · -- no plan
    have e0 : decide (gvN N nums [] f = N.length) = false := decide_eq_false hne
    rw [e0]
    have s49 := Same.trans s8 s9
    refine ⟨_, rfl, _, rfl, rfl, _, rfl, iteF ?_⟩
    refine ⟨_, rfl, _, rfl, line_le (by decide), fun c2 hc2 => ?_⟩
    have s10 := same_upd (o := .tup []) hc2
    have t10 := Same.tups (Same.trans s49 s10)
    refine ⟨_, rfl, a, b, c2, N, nums, f, rfl, hN4.tups t10, ok, hnums4.tups t10, okn, upd_same, fun H11 s11 => ?_⟩
    rw [e0]
    refine ⟨_, rfl, rfl, _, rfl, iteF ?_⟩
    have s411 := Same.trans (Same.trans s49 s10) s11
    refine ⟨_, rfl, _, rfl, _, rfl, a, b, N, nums, f, .non, rfl, hN4.tups (Same.tups s411), ok, hnums4.tups (Same.tups s411), okn, .inl ⟨rfl, fun H12 s12 => ?_⟩⟩
    rw [e0]
    refine ⟨_, rfl, rfl, _, rfl, iteF ?_⟩
    have s412 := Same.trans s411 s12
    refine ⟨_, rfl, _, rfl, _, rfl, _, rfl, a, b, N, nums, f, .non, rfl, hN4.tups (Same.tups s412), ok, hnums4.tups (Same.tups s412), okn, .inl ⟨rfl, fun H13 s13 => ?_⟩⟩
    rw [e0]
    refine ⟨_, _, rfl, rfl, _, rfl, iteF ?_⟩
    refine ⟨_, rfl, _, rfl, iteF ?_⟩
    exact ⟨_, _, _, _, rfl, Same.trans s412 s13⟩
  · -- a plan
    have e0 : decide (gvN N nums [] f = N.length) = true := decide_eq_true heq
    rw [e0]
    have s49 := Same.trans s8 s9
    have ekeys : (ps.map (·.2.2)).map (·.1) = ps.map fun p => p.2.2.1 := by rw [List.map_map]; rfl
    have asc : (ps.map fun p => p.2.2.1).Pairwise (· < ·) := by rw [← ekeys]; exact pl.asc
    have h64 : ps.length ≤ 64 := by
      have := G.states_few few (G.nodup_asc asc) fun s hs => by
        obtain ⟨p, hp, rfl⟩ := List.mem_map.mp hs
        exact (pl.door p.2.2.1 p.2.2.2 (List.mem_map.mpr ⟨p, hp, rfl⟩)).2
      rw [List.length_map] at this
      exact this
    refine ⟨_, rfl, _, rfl, rfl, _, rfl, iteF ?_⟩
    refine ⟨_, rfl, _, rfl, line_le (by decide), fun c2 hc2 => ?_⟩
    have s10 := same_upd (o := .tup []) hc2
    have t10 := Same.tups (Same.trans s49 s10)
    refine ⟨_, rfl, a, b, c2, N, nums, f, rfl, hN4.tups t10, ok, hnums4.tups t10, okn, upd_same, fun H11 s11 => ?_⟩
    rw [e0]
    refine ⟨_, rfl, rfl, _, rfl, iteF ?_⟩
    have s411 := Same.trans (Same.trans s49 s10) s11
    have s911 := Same.trans s10 s11
    refine ⟨_, rfl, _, rfl, _, rfl, a, b, N, nums, f, .non, rfl, hN4.tups (Same.tups s411), ok, hnums4.tups (Same.tups s411), okn, .inl ⟨rfl, fun H12 s12 => ?_⟩⟩
    rw [e0]
    refine ⟨_, rfl, rfl, _, rfl, iteF ?_⟩
    have s412 := Same.trans s411 s12
    have s912 := Same.trans s911 s12
    refine ⟨_, rfl, _, rfl, _, rfl, _, rfl, a, b, N, nums, f, .ref u, rfl, hN4.tups (Same.tups s412), ok, hnums4.tups (Same.tups s412), okn, .inr ⟨u, o, ps, rfl, s912 _ _ hu9, ho, hps.tups (Same.tups s912), pl, fun H13 s13 => ?_⟩⟩
    refine ⟨_, _, rfl, rfl, _, rfl, iteF ?_⟩
    refine ⟨_, rfl, _, rfl, iteT ?_⟩
    have s413 := Same.trans s412 s13
    have s913 := Same.trans s912 s13
    have hu13 := s913 _ _ hu9
    have hps13 := hps.tups (Same.tups s913)
    refine ⟨_, rfl, _, _, _, _, true, rfl, .ty _, .fTuple hu13, kit_ty (by decide +kernel), true, rfl, iteF ?_⟩
    -- the pairs' form
    refine ⟨_, rfl, u, rfl, ⟨_, SqT.frz hu13⟩, fun D hD => ?_⟩
    refine lc_tup (K := K) (a := u) (xs := ps.map fun p => V.ref p.1) (fun i H' => FI H13 D [] H') (FI.start hD) (fun i H' _ h => SqT.frz (h.same _ _ hu13)) ?_ ?_
    · rintro j y H' hj h
      obtain ⟨p, hp, rfl⟩ := map_get hj
      have h1 := h.same _ _ (hps13 p (List.mem_of_getElem? hp)).1
      refine ⟨rfl, _, rfl, _, _, _, _, true, rfl, .ty _, .base (.tup h1), kit_ty (by decide +kernel), true, rfl, iteF ?_⟩
      exact ⟨_, rfl, p.1, _, rfl, .inr (SqT.of h1), rfl, _, rfl, iteF h⟩
    rintro H14 h14
    refine ⟨line_le' (n := 0) (by decide), fun e1 he1 => ?_⟩
    have s15 := Same.trans h14.same (same_upd (o := .lst []) he1)
    refine ⟨D, e1, _, rfl, rfl, SqL.of (same_upd he1 _ _ h14.at_), SqL.of upd_same, _, rfl, iteF ?_⟩
    generalize upd H14 e1 (.lst []) = H15 at s15
    have s415 := Same.trans s413 s15
    have s915 := Same.trans s913 s15
    refine ⟨_, rfl, _, rfl, _, rfl, _, rfl, u, o, ps, rfl, s915 _ _ hu9, ho, hps.tups (Same.tups s915), by omega, G.nodup_asc asc, fun md H16 s16 hmd0 dm => ?_⟩
    have hmv : (ps.map fun p => (kSt p.2.2.1, V.int p.2.2.2)) = mvKvs (ps.map (·.2.2)) := by
      unfold mvKvs
      rw [List.map_map]
      rfl
    rw [hmv] at dm
    have s416 := Same.trans s415 s16
    have s916 := Same.trans s915 s16
    refine ⟨sm, b, md, N, nums, f, ps.map (·.2.2), rfl, hI4.same s416, few, hnums4.tups (Same.tups s416), okn.len, dm, pl, fun me H17 s17 hme => ?_⟩
    have s417 := Same.trans s416 s17
    have s917 := Same.trans s916 s17
    have hu17 := s917 _ _ hu9
    have hps17 := hps.tups (Same.tups s917)
    refine ⟨_, rfl, u, rfl, ⟨_, SqT.frz hu17⟩, fun D2 hD2 => ?_⟩
    refine lc_tup (K := K) (a := u) (xs := ps.map fun p => V.ref p.1) (fun j H' => Same H17 H' ∧ H' D2 = some (.lst ((ps.take j).map fun p => V.ref p.2.1))) ⟨same_upd hD2, upd_same⟩ (fun i H' _ h => SqT.frz (h.1 _ _ hu17)) ?_ ?_
    · rintro j y H' hj ⟨h, hat⟩
      obtain ⟨p, hp, rfl⟩ := map_get hj
      have h1 := h _ _ (hps17 p (List.mem_of_getElem? hp)).1
      refine ⟨rfl, _, rfl, p.1, _, 0, .ref p.2.1, rfl, rfl, SqT.of h1, rfl, _, hat, line_lt ?_, same_updL h hD2, ?_⟩
      · rw [List.length_map, List.length_take]
        omega
      · rw [upd_same, take_snoc hp, List.map_append]
        rfl
    rintro H18 ⟨h18, hat⟩
    rw [List.length_map, List.take_length] at hat
    have hme' := hme.same h18
    refine ⟨.list (((ps.map (·.2.2)).map (·.1)).map tD), .list ((ps.map fun p => p.2.2.1).map tD), dp_sts hme', .lst (SqL.of hat) (dpAll_map ps (fun p => V.ref p.2.1) tD (fun p => p.2.2.1) fun x hx => dp_st (h18 _ _ (hps17 x hx).2)), (sh_map sh_tD _).shaped (by decide), (sh_map sh_tD _).shaped (by decide), ?_⟩
    rw [eqv_lst eqv_tD, ekeys, decide_eq_true rfl]
    refine ⟨_, rfl, iteF ?_⟩
    exact ⟨_, _, _, _, rfl, Same.trans s417 h18⟩
end
end Kd

namespace Kd
open PySem PySem.Spec PyProof.Rows L2
abbrev R : PySem.W.OpenRow := PySem.W.OpenLaw.row PySem.Challenge.rw_countdoors_k48_whole_plans_of_keepers
abbrev hk : PySem.W.Hook := He.hookD 4 fa fn
def ob (s : PySem.W.SharedT) : He.AlD := He.obsDG 4 fa fn (HandSHeadRun.getT s)
theorem ob_eq (s : PySem.W.SharedT) : ob s = hk.obs s.abs := He.obsDG_eq (HandSHeadRun.getT_eq s)
def loose : List PySem.Str := ([("DoorError" : PySem.Str), ("BadNest" : PySem.Str), ("BadNumbers" : PySem.Str), ("BadState" : PySem.Str), ("BadFlag" : PySem.Str), ("is_in" : PySem.Str), ("MOST_DOORS" : PySem.Str), ("MOST_NUMBER" : PySem.Str), ("need_nest" : PySem.Str)] : List PySem.Str) ++ ([("is_set" : PySem.Str), ("need_numbers" : PySem.Str), ("around_in" : PySem.Str), ("inside_in" : PySem.Str), ("need_state" : PySem.Str), ("need_both" : PySem.Str), ("count_in" : PySem.Str), ("ready_in" : PySem.Str), ("further" : PySem.Str)] : List PySem.Str) ++ ([("need_flag" : PySem.Str), ("value_in" : PySem.Str), ("kept_open" : PySem.Str), ("need_play" : PySem.Str), ("keeper_plan" : PySem.Str), ("is_table" : PySem.Str), ("shows_plan" : PySem.Str), ("_law_taken" : PySem.Str), ("_law_pick" : PySem.Str)] : List PySem.Str) ++ ([("_law_nest" : PySem.Str), ("_law_insides" : PySem.Str), ("_law_numbers" : PySem.Str), ("_law_thin" : PySem.Str), ("_law_opened" : PySem.Str), ("_law_ready" : PySem.Str), ("_law_further" : PySem.Str), ("_law_end" : PySem.Str), ("_law_follows" : PySem.Str)] : List PySem.Str)
theorem run (w : World) : HandSHeadRun.RunEq R (PySem.W.view R.prog [43]) hk ob 3000 loose w := by
  intro os
  kernel_rfl
end Kd

/-! ### all together -/
namespace Kd
open PySem PySem.Spec PyProof.Rows L2
section
variable {P : Program} {w : World} {K : PySem.W.Frag} {mg : Str → Option Value} {base : Heap}
theorem all_ok (T : Txt K mg) {fd : FuncData} (F : FnP K "law" s_law (He.ga K "law") fd) : FnOk P w K mg base CX0 14 (He.ga K "law") fd ["_law_script"] (spLaw K) := by
  have a1 : Def P w K mg base 1 "is_in" ["value", "least", "most"] spIsIn := ok_is_in T
  have a2 := ok_around_in (P := P) (w := w) (base := base) T
  have a3 := ok_inside_in T a2
  have a4 := ok_count_in T a3
  have a5 := ok_ready_in T a4
  have a6 := ok_further T a5
  have a7 := ok_value T a6 7
  have a8 := ok_need_nest T a1
  have a9 := ok_is_set T a1
  have b1 := ok_need_numbers T a8 a9
  have b2 := ok_need_state T a1
  have b3 := ok_need_both T b1 b2
  have b4 := ok_need_flag (P := P) (w := w) (base := base) T
  have b5 := ok_need_play T b1 b4
  have b6 := ok_kept_open T b3 b4 a7
  have b7 := ok_keeper_plan T b5 a7 a6
  have b8 := ok_is_table T a1
  have b9 := ok_shows_plan T b5 a7 a6 b8
  have c1 := ok_law_taken (P := P) (w := w) (base := base) T
  have c2 := ok_law_pick T c1
  have c3 := ok_law_nest T c1 c2
  have c4 := ok_law_insides (P := P) (w := w) (base := base) T
  have c5 := ok_law_numbers T c1 c2 c4
  have c6 := ok_law_thin T c1 c3 c4 c5
  have c7 := ok_law_opened (P := P) (w := w) (base := base) T
  have c8 := ok_law_ready T c7
  have c9 := ok_law_further T c8
  have d1 := ok_end T (c9.mono (by decide)) 7
  have d2 := ok_law_follows T c9
  exact ok_law T c6 c4 d1 b7 b6 b9 d2 F
theorem facts {P : Program} {w : World} {K : PySem.W.Frag} {h : Heap} {mg : Str → Option Value} {f : Addr} (X : K.In h) (G : h.Ns mainGlobals mg) (hfa : mg ("law" : Str) = some (.ref f)) (c : He.SaysD fa fn K) :
    ∃ fd : FuncData, (∀ (s : Shared) (v : Value), BindsTo s fd ⟨[v], []⟩ [("_law_script", v)]) ∧ ∀ base : Heap, K.In base → base.Ns mainGlobals mg → FnOk P w K mg base CX0 14 f fd ["_law_script"] (spLaw K) := by
  have T : Txt K mg := ⟨h, X, G, c⟩
  obtain ⟨fd, F⟩ := T.f_law
  have e := hfa.symm.trans T.m_law
  cases e
  have b := FunD.bindsA (ps := ["_law_script"]) F fun _ _ _ _ _ _ us hl => match us, hl with | [_], _ => rfl
  exact ⟨fd, fun s v => b s [v] rfl, fun base _ _ => all_ok T F⟩
end
end Kd
open PySem PySem.W PySem.Calls PyProof.Rows
theorem PySem.Challenge.cw_countdoors_k48_whole_plans_of_keepers_holds : PySem.Challenge.rw_countdoors_k48_whole_plans_of_keepers.Holds := by
  w_on; o_law
  refine HandSHeadRun.head_any (r := OpenLaw.row PySem.Challenge.rw_countdoors_k48_whole_plans_of_keepers) (q := view (OpenLaw.row PySem.Challenge.rw_countdoors_k48_whole_plans_of_keepers).prog [43]) (H := Kd.hk) (ob := Kd.ob) (M := 3000) (loose := Kd.loose) (d := HandSHeadRun.topDef (OpenLaw.row PySem.Challenge.rw_countdoors_k48_whole_plans_of_keepers).prog 43) (kwd := []) Kd.ob_eq
    (by kernel_rfl) (fun s => by kernel_rfl) Kd.run (by kernel_rfl) (by kernel_rfl) (by kernel_rfl) (by rfl) (by first | assumption | decide +kernel) (by decide +kernel) ⟨rfl, rfl, rfl, rfl, rfl, by decide +kernel⟩ ?hw ?hc
  case hw => w_witness2
  case hc =>
    refine L2.walk_ofE (l := PySem.Challenge.rw_countdoors_k48_whole_plans_of_keepers) (n := 63) (k := 14) (x := "_law_script") (CX := L2.CX0) rfl (by decide) (by kernel_rfl) ⟨rfl, by decide, by decide⟩ ?F (fun _ _ _ _ z => z)
    intro w mg fa h Y G hmg0
    obtain ⟨K, KX, c⟩ := Y
    have hmg : mg ("law" : PySem.Str) = some (.ref fa) := by
      have e : (HandSHeadRun.topDef (OpenLaw.row PySem.Challenge.rw_countdoors_k48_whole_plans_of_keepers).prog 43).name = ("law" : PySem.Str) := by kernel_rfl
      rw [← e]
      exact hmg0
    obtain ⟨fd, hb, hF⟩ := Kd.facts (P := (PySem.Challenge.rw_countdoors_k48_whole_plans_of_keepers).prog) (w := w) KX G hmg c
    exact ⟨K, fd, Kd.spLaw K, KX, hb, fun H a ns hl _ hS => ⟨a, ns, rfl, hS, fun _ => rfl⟩, hF⟩
