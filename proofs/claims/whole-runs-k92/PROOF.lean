import PyProof.Rows.All
import Wide.All
import OpenK.AllK
import Wide.FinOn
import KE.KStateDown
import HandS.ForMost
import HandS.Exc
import HandS.Defaults
import HandS.Head0
import HandS.Head1
import HandS.Head2
import HandS.HeadHook1
import HandS.HeadHook2
import HandS.HeadHook3
import HandS.HeadHook4
import PySem.Challenge.RW_pileups_k92_whole_runs_and_what_is_seen
import KE.KDictCopyH
import KE.KEqNest
import HandS.Codes
import HandS.Conv
import HandS.MakeKwOnly
import HandS.IsInst
import HandS.Style
import HandS.NoneIn
import HandS.Star
import HandS.Wide
import HandS.Deep
import HandS.SetFor
import HandS.DictComp
import HandS.Evl
import HandS.Flow
import HandS.Lambda
import HandS.EndTab
import HandS.HeadWalk
set_option Elab.async false
set_option linter.all false
set_option maxRecDepth 100000
section
set_option maxHeartbeats 4000000
/-! The text by places; what the walks know of the module. -/
namespace Pk
open PySem PySem.Spec PyProof.Rows L2
def topS (i : Nat) : Stmt := PySem.Challenge.pw_pileups_k92_whole_runs_and_what_is_seen.main.body.getD i (.Pass ⟨0, 0, 0, 0⟩)
abbrev s_is_integer : Stmt := topS 20
abbrev s_is_count : Stmt := topS 21
abbrev s_is_name : Stmt := topS 22
abbrev s_is_list : Stmt := topS 23
abbrev s_need_events : Stmt := topS 27
abbrev s_need_event : Stmt := topS 28
abbrev s_need_ties : Stmt := topS 29
abbrev s_need_limits : Stmt := topS 30
abbrev s_need_no_ring : Stmt := topS 31
abbrev s_reached : Stmt := topS 32
abbrev s_Plan_init : Stmt := inClass (topS 33) 0
abbrev s_Plan_events : Stmt := inClass (topS 33) 1
abbrev s_Plan_ties : Stmt := inClass (topS 33) 2
abbrev s_Plan_limits : Stmt := inClass (topS 33) 3
abbrev s_need_plan : Stmt := topS 34
abbrev s_rows_of : Stmt := topS 39
abbrev s_leads_of : Stmt := topS 40
abbrev s_Table_init : Stmt := inClass (topS 41) 0
abbrev s_Table_lead : Stmt := inClass (topS 41) 2
abbrev s_Table_most : Stmt := inClass (topS 41) 3
abbrev s_need_alike_events : Stmt := topS 43
abbrev s_breaches : Stmt := topS 44
abbrev s_within : Stmt := topS 46
abbrev s_follows : Stmt := topS 47
abbrev s_fewest : Stmt := topS 48
abbrev s_seen : Stmt := topS 49
abbrev s_plan_of : Stmt := topS 50
abbrev s_need_logs : Stmt := topS 54
abbrev s_leads_in : Stmt := topS 55
abbrev s_learnt : Stmt := topS 56
abbrev s_law_cell : Stmt := topS 58
abbrev s_law_box : Stmt := topS 59
abbrev s_law_take : Stmt := topS 60
abbrev s_law_mixed : Stmt := topS 61
abbrev s_law_names : Stmt := topS 62
abbrev s_law_lag : Stmt := topS 63
abbrev s_law_model : Stmt := topS 64
abbrev s_law_plan : Stmt := topS 65
abbrev s_law_small : Stmt := topS 66
abbrev s_law_is_moment : Stmt := topS 67
abbrev s_law_read : Stmt := topS 68
abbrev s_law_run : Stmt := topS 69
abbrev s_law_lists : Stmt := topS 70
abbrev s_law_hidden : Stmt := topS 71
abbrev s_law_fits : Stmt := topS 72
abbrev s_law_is_run : Stmt := topS 73
abbrev s_law : Stmt := topS 74
end Pk
end
section
set_option maxHeartbeats 0
/-! The text by places; the head: the defs as data, the facts, the run. Printed by head.py. -/
namespace Pk
open PySem PySem.Spec PyProof.Rows L2
def d_is_integer : He.DefD := ⟨("is_integer", none), "is_integer", "is_integer", defArgs s_is_integer, defBody s_is_integer, defScope s_is_integer, [], []⟩
def d_is_count : He.DefD := ⟨("is_count", none), "is_count", "is_count", defArgs s_is_count, defBody s_is_count, defScope s_is_count, [], []⟩
def d_is_name : He.DefD := ⟨("is_name", none), "is_name", "is_name", defArgs s_is_name, defBody s_is_name, defScope s_is_name, [], []⟩
def d_is_list : He.DefD := ⟨("is_list", none), "is_list", "is_list", defArgs s_is_list, defBody s_is_list, defScope s_is_list, [], []⟩
def d_need_events : He.DefD := ⟨("need_events", none), "need_events", "need_events", defArgs s_need_events, defBody s_need_events, defScope s_need_events, [], []⟩
def d_need_event : He.DefD := ⟨("need_event", none), "need_event", "need_event", defArgs s_need_event, defBody s_need_event, defScope s_need_event, [], []⟩
def d_need_ties : He.DefD := ⟨("need_ties", none), "need_ties", "need_ties", defArgs s_need_ties, defBody s_need_ties, defScope s_need_ties, [], []⟩
def d_need_limits : He.DefD := ⟨("need_limits", none), "need_limits", "need_limits", defArgs s_need_limits, defBody s_need_limits, defScope s_need_limits, [], []⟩
def d_need_no_ring : He.DefD := ⟨("need_no_ring", none), "need_no_ring", "need_no_ring", defArgs s_need_no_ring, defBody s_need_no_ring, defScope s_need_no_ring, [], []⟩
def d_reached : He.DefD := ⟨("reached", none), "reached", "reached", defArgs s_reached, defBody s_reached, defScope s_reached, [], []⟩
def d_Plan_init : He.DefD := ⟨("Plan", some "__init__"), "__init__", "Plan.__init__", defArgs s_Plan_init, defBody s_Plan_init, defScope s_Plan_init, [.adr (He.dflAt ("Plan", some "__init__") 0)], [("limits", .non)]⟩
def d_Plan_events : He.DefD := ⟨("Plan", some "events"), "events", "Plan.events", defArgs s_Plan_events, defBody s_Plan_events, defScope s_Plan_events, [], []⟩
def d_Plan_ties : He.DefD := ⟨("Plan", some "ties"), "ties", "Plan.ties", defArgs s_Plan_ties, defBody s_Plan_ties, defScope s_Plan_ties, [], []⟩
def d_Plan_limits : He.DefD := ⟨("Plan", some "limits"), "limits", "Plan.limits", defArgs s_Plan_limits, defBody s_Plan_limits, defScope s_Plan_limits, [], []⟩
def d_need_plan : He.DefD := ⟨("need_plan", none), "need_plan", "need_plan", defArgs s_need_plan, defBody s_need_plan, defScope s_need_plan, [], []⟩
def d_rows_of : He.DefD := ⟨("rows_of", none), "rows_of", "rows_of", defArgs s_rows_of, defBody s_rows_of, defScope s_rows_of, [], []⟩
def d_leads_of : He.DefD := ⟨("leads_of", none), "leads_of", "leads_of", defArgs s_leads_of, defBody s_leads_of, defScope s_leads_of, [], []⟩
def d_Table_init : He.DefD := ⟨("Table", some "__init__"), "__init__", "Table.__init__", defArgs s_Table_init, defBody s_Table_init, defScope s_Table_init, [], []⟩
def d_Table_lead : He.DefD := ⟨("Table", some "lead"), "lead", "Table.lead", defArgs s_Table_lead, defBody s_Table_lead, defScope s_Table_lead, [], []⟩
def d_Table_most : He.DefD := ⟨("Table", some "most"), "most", "Table.most", defArgs s_Table_most, defBody s_Table_most, defScope s_Table_most, [], []⟩
def d_need_alike_events : He.DefD := ⟨("need_alike_events", none), "need_alike_events", "need_alike_events", defArgs s_need_alike_events, defBody s_need_alike_events, defScope s_need_alike_events, [], []⟩
def d_breaches : He.DefD := ⟨("breaches", none), "breaches", "breaches", defArgs s_breaches, defBody s_breaches, defScope s_breaches, [], []⟩
def d_within : He.DefD := ⟨("within", none), "within", "within", defArgs s_within, defBody s_within, defScope s_within, [], []⟩
def d_follows : He.DefD := ⟨("follows", none), "follows", "follows", defArgs s_follows, defBody s_follows, defScope s_follows, [], []⟩
def d_fewest : He.DefD := ⟨("fewest", none), "fewest", "fewest", defArgs s_fewest, defBody s_fewest, defScope s_fewest, [], []⟩
def d_seen : He.DefD := ⟨("seen", none), "seen", "seen", defArgs s_seen, defBody s_seen, defScope s_seen, [], []⟩
def d_plan_of : He.DefD := ⟨("plan_of", none), "plan_of", "plan_of", defArgs s_plan_of, defBody s_plan_of, defScope s_plan_of, [], []⟩
def d_need_logs : He.DefD := ⟨("need_logs", none), "need_logs", "need_logs", defArgs s_need_logs, defBody s_need_logs, defScope s_need_logs, [], []⟩
def d_leads_in : He.DefD := ⟨("leads_in", none), "leads_in", "leads_in", defArgs s_leads_in, defBody s_leads_in, defScope s_leads_in, [], []⟩
def d_learnt : He.DefD := ⟨("learnt", none), "learnt", "learnt", defArgs s_learnt, defBody s_learnt, defScope s_learnt, [], []⟩
def d_law_cell : He.DefD := ⟨("_law_cell", none), "_law_cell", "_law_cell", defArgs s_law_cell, defBody s_law_cell, defScope s_law_cell, [], []⟩
def d_law_box : He.DefD := ⟨("_law_box", none), "_law_box", "_law_box", defArgs s_law_box, defBody s_law_box, defScope s_law_box, [], []⟩
def d_law_take : He.DefD := ⟨("_law_take", none), "_law_take", "_law_take", defArgs s_law_take, defBody s_law_take, defScope s_law_take, [], []⟩
def d_law_mixed : He.DefD := ⟨("_law_mixed", none), "_law_mixed", "_law_mixed", defArgs s_law_mixed, defBody s_law_mixed, defScope s_law_mixed, [], []⟩
def d_law_names : He.DefD := ⟨("_law_names", none), "_law_names", "_law_names", defArgs s_law_names, defBody s_law_names, defScope s_law_names, [], []⟩
def d_law_lag : He.DefD := ⟨("_law_lag", none), "_law_lag", "_law_lag", defArgs s_law_lag, defBody s_law_lag, defScope s_law_lag, [], []⟩
def d_law_model : He.DefD := ⟨("_law_model", none), "_law_model", "_law_model", defArgs s_law_model, defBody s_law_model, defScope s_law_model, [], []⟩
def d_law_plan : He.DefD := ⟨("_law_plan", none), "_law_plan", "_law_plan", defArgs s_law_plan, defBody s_law_plan, defScope s_law_plan, [], []⟩
def d_law_small : He.DefD := ⟨("_law_small", none), "_law_small", "_law_small", defArgs s_law_small, defBody s_law_small, defScope s_law_small, [], []⟩
def d_law_is_moment : He.DefD := ⟨("_law_is_moment", none), "_law_is_moment", "_law_is_moment", defArgs s_law_is_moment, defBody s_law_is_moment, defScope s_law_is_moment, [], []⟩
def d_law_read : He.DefD := ⟨("_law_read", none), "_law_read", "_law_read", defArgs s_law_read, defBody s_law_read, defScope s_law_read, [], []⟩
def d_law_run : He.DefD := ⟨("_law_run", none), "_law_run", "_law_run", defArgs s_law_run, defBody s_law_run, defScope s_law_run, [], []⟩
def d_law_lists : He.DefD := ⟨("_law_lists", none), "_law_lists", "_law_lists", defArgs s_law_lists, defBody s_law_lists, defScope s_law_lists, [], []⟩
def d_law_hidden : He.DefD := ⟨("_law_hidden", none), "_law_hidden", "_law_hidden", defArgs s_law_hidden, defBody s_law_hidden, defScope s_law_hidden, [], []⟩
def d_law_fits : He.DefD := ⟨("_law_fits", none), "_law_fits", "_law_fits", defArgs s_law_fits, defBody s_law_fits, defScope s_law_fits, [], []⟩
def d_law_is_run : He.DefD := ⟨("_law_is_run", none), "_law_is_run", "_law_is_run", defArgs s_law_is_run, defBody s_law_is_run, defScope s_law_is_run, [], []⟩
def d_law : He.DefD := ⟨("law", none), "law", "law", defArgs s_law, defBody s_law, defScope s_law, [], []⟩
def fnL : List He.DefD := [d_is_integer, d_is_count, d_is_name, d_is_list, d_need_events, d_need_event, d_need_ties, d_need_limits, d_need_no_ring, d_reached, d_Plan_init, d_Plan_events, d_Plan_ties, d_Plan_limits, d_need_plan, d_rows_of, d_leads_of, d_Table_init, d_Table_lead, d_Table_most, d_need_alike_events, d_breaches, d_within, d_follows, d_fewest, d_seen, d_plan_of, d_need_logs, d_leads_in, d_learnt, d_law_cell, d_law_box, d_law_take, d_law_mixed, d_law_names, d_law_lag, d_law_model, d_law_plan, d_law_small, d_law_is_moment, d_law_read, d_law_run, d_law_lists, d_law_hidden, d_law_fits, d_law_is_run, d_law]
def faL : List He.Fa := [.glo "is_integer", .glo "is_count", .glo "is_name", .glo "is_list", .glo "need_events", .glo "need_event", .glo "need_ties", .glo "need_limits", .glo "need_no_ring", .glo "reached", .glo "need_plan", .glo "rows_of", .glo "leads_of", .glo "need_alike_events", .glo "breaches", .glo "within", .glo "follows", .glo "fewest", .glo "seen", .glo "plan_of", .glo "need_logs", .glo "leads_in", .glo "learnt", .glo "_law_cell", .glo "_law_box", .glo "_law_take", .glo "_law_mixed", .glo "_law_names", .glo "_law_lag", .glo "_law_model", .glo "_law_plan", .glo "_law_small", .glo "_law_is_moment", .glo "_law_read", .glo "_law_run", .glo "_law_lists", .glo "_law_hidden", .glo "_law_fits", .glo "_law_is_run", .glo "law", .glo "Plan", .glo "Table", .cls "Plan", .cls "Table", .mkr "Plan", .mkr "Table", .meth "Plan" "events", .meth "Plan" "ties", .meth "Plan" "limits", .meth "Table" "lead", .meth "Table" "most", .noat "Plan" "own_events", .noat "Plan" "own_ties", .noat "Plan" "own_limits", .noat "Table" "row_of_events", .noat "Table" "leads", .noat "Table" "steps", .str "LETTERS" "abcdefghijklmnopqrstuvwxyz", .int "MOST_LETTERS" 8, .int "MOST_EVENTS" 8, .int "MOST_TIES" 60, .str "HOLD" "limit", .str "TIE" "tie", .str "NONE" "none", .int "MOST_LOGS" 80, .int "MOST_IN_LOG" 200, .free "isinstance", .free "int", .free "bool", .free "str", .free "list", .free "tuple", .free "dict", .free "len", .free "all", .free "enumerate", .free "range", .free "max", .free "min", .free "sorted", .free "sum"]
def loose0 : List Str := ["_wall", "PlanError", "MissingError", "InvalidInteger", "InvalidName", "Duplicate", "InvalidEvents", "InvalidTies", "InvalidTie", "InvalidLimits", "Ring", "InvalidPlan", "UnlikeEvents", "InvalidNames", "InvalidLogs", "UnknownEvent", "LETTERS", "MOST_LETTERS", "is_integer", "is_count", "is_name", "is_list", "MOST_EVENTS", "MOST_TIES", "need_events", "need_event", "need_ties", "need_limits", "need_no_ring", "reached"]
def loose1 : List Str := ["Plan", "need_plan", "HOLD", "TIE", "NONE", "rows_of", "leads_of", "Table", "need_alike_events", "breaches", "total", "within", "follows", "fewest", "seen", "plan_of", "MOST_LOGS", "MOST_IN_LOG", "need_logs", "leads_in", "learnt", "_law_cell", "_law_box", "_law_take", "_law_mixed", "_law_names", "_law_lag", "_law_model", "_law_plan", "_law_small"]
def loose2 : List Str := ["_law_is_moment", "_law_read", "_law_run", "_law_lists", "_law_hidden", "_law_fits", "_law_is_run"]
def looseL : List Str := loose0 ++ loose1 ++ loose2
def tfL : List He.Defn := [("seen", none), ("learnt", none)]
/-- what else the walk asks of the facts: Plan's objects are Plan's; two tables of code -/
def exL (K : PySem.W.Frag) : Bool := decide (PySem.W.findIn K (.ref (He.ga K "Plan")) "__class__" = some (some (.builtin "object.__class__"))) && (decide (PySem.W.specialIn K (.builtin "object.__class__") "__get__" = some (some (.builtin "getset_descriptor.__get__"))) &&
  (decide (PySem.W.takesIn K (.builtin "object.__class__") = some true) && (decide (PySem.W.mroIn K (He.ga K "Plan") (.type "object") = some true) && (decide (PySem.W.kitOne K (.ref (He.ga K "Plan")) (.ref (He.ga K "Plan")) = some true) && !decide ((He.cT K ("seen", none)).2 = (He.cT K ("learnt", none)).2)))))
abbrev RowL : PySem.W.OpenRow := PySem.W.OpenLaw.row PySem.Challenge.rw_pileups_k92_whole_runs_and_what_is_seen
abbrev hkL : PySem.W.Hook := He.hookX 4 faL fnL [] tfL exL
def obL (s : PySem.W.SharedT) : He.AlX := He.obsX 4 faL fnL [] tfL exL (HandSHeadRun.getT s)
theorem obL_eq (s : PySem.W.SharedT) : obL s = hkL.obs s.abs := He.obsX_eq (HandSHeadRun.getT_eq s)
end Pk
end
section
set_option maxHeartbeats 0
namespace Pk
open PySem PySem.Spec PyProof.Rows L2
theorem runL (w : World) : HandSHeadRun.RunEq RowL (PySem.W.view RowL.prog [74]) hkL obL 8000 looseL w := by
  intro os
  kernel_rfl
end Pk
end
section
/-! The plain law: plans, moments, closed tables, plans of seen events, runs with hidden events. -/
namespace Pu
universe u
variable {α : Type u} [DecidableEq α]

structure Pl (α : Type u) where
  ev : List α
  ties : List (α × α × Int)
  lim : α → Option Int

def Mom (P : Pl α) (c : α → Int) : Prop :=
  (∀ x ∈ P.ev, 0 ≤ c x) ∧ (∀ t ∈ P.ties, c t.2.1 ≤ c t.1 + t.2.2) ∧ ∀ x ∈ P.ev, ∀ m, P.lim x = some m → c x ≤ m

structure WF (P : Pl α) : Prop where
  ends : ∀ t ∈ P.ties, t.1 ∈ P.ev ∧ t.2.1 ∈ P.ev ∧ 0 ≤ t.2.2
  lims : ∀ x m, P.lim x = some m → x ∈ P.ev ∧ 0 ≤ m

/-- no ring of ties with the lag 0 -/
def Acyc (ties : List (α × α × Int)) : Prop :=
  ∃ R : α → α → Prop, (∀ x, ¬ R x x) ∧ (∀ x y z, R x y → R y z → R x z) ∧ ∀ t ∈ ties, t.2.2 = 0 → R t.1 t.2.1

theorem Acyc.sub {l l' : List (α × α × Int)} (h : Acyc l) (s : ∀ t ∈ l', t ∈ l) : Acyc l' := by
  obtain ⟨R, h1, h2, h3⟩ := h
  exact ⟨R, h1, h2, fun t ht => h3 t (s t ht)⟩

/-! ### sums and least ones with none -/
def pl : Option Int → Option Int → Option Int
  | some a, some b => some (a + b)
  | _, _ => none
def mn : Option Int → Option Int → Option Int
  | some a, some b => if b < a then some b else some a
  | none, b => b
  | some a, none => some a
theorem mn_none (a : Option Int) : mn a none = a := by cases a <;> rfl
theorem mn_idem (a b : Option Int) : mn (mn a b) b = mn a b := by
  cases a with
  | none => cases b with
    | none => rfl
    | some b => simp [mn]
  | some a => cases b with
    | none => rfl
    | some b =>
      simp only [mn]
      by_cases h : b < a
      · simp [h, mn]
      · simp [h, mn]
theorem mn_self (a : Option Int) : mn a a = a := by
  cases a with
  | none => rfl
  | some a => simp [mn]

abbrev Tb (α : Type u) := Option α → Option α → Option Int
def updT (L : Tb α) (i j : Option α) (v : Option Int) : Tb α := fun a b => if a = i ∧ b = j then v else L a b
/-- the table with nothing but zeros from each node to itself -/
def tab0 (ns : List (Option α)) : Tb α := fun i j => if i = j ∧ i ∈ ns then some 0 else none
def addRow (L : Tb α) (r : Option α × Option α × Int) : Tb α := updT L r.1 r.2.1 (mn (L r.1 r.2.1) (some r.2.2))
def relax (m : Option α) (L : Tb α) (p : Option α × Option α) : Tb α := updT L p.1 p.2 (mn (L p.1 p.2) (pl (L p.1 m) (L m p.2)))
def pairs (ns : List (Option α)) : List (Option α × Option α) := ns.flatMap fun i => ns.map fun j => (i, j)
def pass (ns : List (Option α)) (L : Tb α) (m : Option α) : Tb α := (pairs ns).foldl (relax m) L
def leads (ns : List (Option α)) (rows : List (Option α × Option α × Int)) : Tb α := ns.foldl (pass ns) (rows.foldl addRow (tab0 ns))

theorem mem_pairs {ns : List (Option α)} {i j : Option α} : (i, j) ∈ pairs ns ↔ i ∈ ns ∧ j ∈ ns := by
  unfold pairs
  simp only [List.mem_flatMap, List.mem_map, Prod.mk.injEq]
  constructor
  · rintro ⟨a, ha, b, hb, rfl, rfl⟩
    exact ⟨ha, hb⟩
  · rintro ⟨h1, h2⟩
    exact ⟨i, h1, j, h2, rfl, rfl⟩

/-- one pass, told whole -/
theorem pass_fold (L : Tb α) (m : Option α) (hm : L m m = some 0) : ∀ (ps done : List (Option α × Option α)) (cur : Tb α),
    (∀ i j, cur i j = if (i, j) ∈ done then mn (L i j) (pl (L i m) (L m j)) else L i j) →
    ∀ i j, ps.foldl (relax m) cur i j = if (i, j) ∈ done ∨ (i, j) ∈ ps then mn (L i j) (pl (L i m) (L m j)) else L i j := by
  have fm : ∀ i, mn (L i m) (pl (L i m) (L m m)) = L i m := fun i => by
    rw [hm]
    cases L i m with
    | none => rfl
    | some a => simp [pl, mn]
  have mf : ∀ j, mn (L m j) (pl (L m m) (L m j)) = L m j := fun j => by
    rw [hm]
    cases L m j with
    | none => rfl
    | some a => simp [pl, mn]
  intro ps
  induction ps with
  | nil =>
    intro done cur h i j
    rw [List.foldl_nil, h i j]
    simp
  | cons p ps ih =>
    intro done cur h i j
    obtain ⟨a, b⟩ := p
    rw [List.foldl_cons, ih ((a, b) :: done) (relax m cur (a, b)) ?_ i j]
    · have e : ((i, j) ∈ (a, b) :: done ∨ (i, j) ∈ ps) ↔ ((i, j) ∈ done ∨ (i, j) ∈ (a, b) :: ps) := by
        simp only [List.mem_cons]
        constructor <;> rintro (h | h)
        · rcases h with h | h
          · exact .inr (.inl h)
          · exact .inl h
        · exact .inr (.inr h)
        · exact .inl (.inr h)
        · rcases h with h | h
          · exact .inl (.inl h)
          · exact .inr h
      by_cases q : (i, j) ∈ (a, b) :: done ∨ (i, j) ∈ ps
      · rw [if_pos q, if_pos (e.mp q)]
      · rw [if_neg q, if_neg (fun z => q (e.mpr z))]
    · intro x y
      have c1 : ∀ i, cur i m = L i m := fun i => by
        rw [h i m]
        split
        · exact fm i
        · rfl
      have c2 : ∀ j, cur m j = L m j := fun j => by
        rw [h m j]
        split
        · exact mf j
        · rfl
      unfold relax updT
      by_cases q : x = a ∧ y = b
      · obtain ⟨rfl, rfl⟩ := q
        rw [if_pos ⟨rfl, rfl⟩, if_pos (List.mem_cons_self ..), c1, c2, h x y]
        split
        · exact mn_idem _ _
        · rfl
      · have q' : ¬ (x, y) = (a, b) := fun z => q (by injection z with z1 z2; exact ⟨z1, z2⟩)
        rw [if_neg q, h x y]
        by_cases d : (x, y) ∈ done
        · rw [if_pos d, if_pos (List.mem_cons_of_mem _ d)]
        · rw [if_neg d, if_neg (fun z => (List.mem_cons.mp z).elim q' d)]
theorem pass_eq {ns : List (Option α)} {L : Tb α} {m : Option α} (hm : L m m = some 0) (i j : Option α) :
    pass ns L m i j = if i ∈ ns ∧ j ∈ ns then mn (L i j) (pl (L i m) (L m j)) else L i j := by
  unfold pass
  rw [pass_fold L m hm (pairs ns) [] L (fun i j => by simp) i j]
  by_cases q : i ∈ ns ∧ j ∈ ns
  · rw [if_pos q, if_pos (.inr (mem_pairs.mpr q))]
  · rw [if_neg q, if_neg]
    rintro (z | z)
    · exact absurd z (by simp)
    · exact q (mem_pairs.mp z)

/-- what a table keeps all along; S: the middles that are done -/
structure TInv (ns : List (Option α)) (rows : List (Option α × Option α × Int)) (S : Option α → Prop) (L : Tb α) : Prop where
  dom : ∀ i j v, L i j = some v → i ∈ ns ∧ j ∈ ns
  refl : ∀ i ∈ ns, L i i = some 0
  nn : ∀ i j v, L i j = some v → 0 ≤ v
  row : ∀ r ∈ rows, ∃ v, L r.1 r.2.1 = some v ∧ v ≤ r.2.2
  tri : ∀ k, S k → ∀ i j u v, L i k = some u → L k j = some v → ∃ w, L i j = some w ∧ w ≤ u + v
  sound : ∀ d : Option α → Int, (∀ r ∈ rows, d r.2.1 ≤ d r.1 + r.2.2) → ∀ i j v, L i j = some v → d j ≤ d i + v

theorem tinv0 (ns : List (Option α)) : TInv ns [] (fun _ => False) (tab0 ns) := by
  refine ⟨fun i j v h => ?_, fun i hi => ?_, fun i j v h => ?_, fun r hr => (nomatch hr), fun k hk => hk.elim, fun d _ i j v h => ?_⟩
  · unfold tab0 at h
    split at h
    · rename_i q
      exact ⟨q.2, q.1 ▸ q.2⟩
    · cases h
  · unfold tab0
    rw [if_pos ⟨rfl, hi⟩]
  · unfold tab0 at h
    split at h
    · cases h
      exact Int.le_refl _
    · cases h
  · unfold tab0 at h
    split at h
    · rename_i q
      cases h
      rw [q.1]
      omega
    · cases h
theorem mn_le_left {a b : Option Int} {u : Int} (h : a = some u) : ∃ w, mn a b = some w ∧ w ≤ u := by
  subst h
  cases b with
  | none => exact ⟨u, rfl, Int.le_refl _⟩
  | some b =>
    simp only [mn]
    by_cases q : b < u
    · exact ⟨b, by rw [if_pos q], by omega⟩
    · exact ⟨u, by rw [if_neg q], Int.le_refl _⟩
theorem mn_le_right {a b : Option Int} {u : Int} (h : b = some u) : ∃ w, mn a b = some w ∧ w ≤ u := by
  subst h
  cases a with
  | none => exact ⟨u, rfl, Int.le_refl _⟩
  | some a =>
    simp only [mn]
    by_cases q : u < a
    · exact ⟨u, by rw [if_pos q], Int.le_refl _⟩
    · exact ⟨a, by rw [if_neg q], by omega⟩
theorem mn_or {a b : Option Int} {w : Int} (h : mn a b = some w) : a = some w ∨ b = some w := by
  cases a with
  | none => exact .inr h
  | some a => cases b with
    | none => exact .inl h
    | some b =>
      simp only [mn] at h
      split at h
      · exact .inr h
      · exact .inl h
theorem pl_some {a b : Option Int} {w : Int} (h : pl a b = some w) : ∃ x y, a = some x ∧ b = some y ∧ w = x + y := by
  cases a with
  | none => cases h
  | some a => cases b with
    | none => cases h
    | some b => exact ⟨a, b, rfl, rfl, (Option.some.inj h).symm⟩

theorem tinv_row {ns : List (Option α)} {rows : List (Option α × Option α × Int)} {L : Tb α} (I : TInv ns rows (fun _ => False) L) (r : Option α × Option α × Int) (h1 : r.1 ∈ ns) (h2 : r.2.1 ∈ ns) (h3 : 0 ≤ r.2.2) :
    TInv ns (rows ++ [r]) (fun _ => False) (addRow L r) := by
  have at_ : ∀ i j, addRow L r i j = if i = r.1 ∧ j = r.2.1 then mn (L i j) (some r.2.2) else L i j := fun i j => by
    unfold addRow updT
    by_cases q : i = r.1 ∧ j = r.2.1
    · rw [if_pos q, if_pos q, q.1, q.2]
    · rw [if_neg q, if_neg q]
  have down : ∀ i j u, L i j = some u → ∃ w, addRow L r i j = some w ∧ w ≤ u := fun i j u h => by
    rw [at_]
    split
    · exact mn_le_left h
    · exact ⟨u, h, Int.le_refl _⟩
  have or_ : ∀ i j w, addRow L r i j = some w → L i j = some w ∨ (i = r.1 ∧ j = r.2.1 ∧ w = r.2.2) := fun i j w h => by
    rw [at_] at h
    split at h
    · rename_i q
      rcases mn_or h with z | z
      · exact .inl z
      · exact .inr ⟨q.1, q.2, (Option.some.inj z).symm⟩
    · exact .inl h
  refine ⟨fun i j v h => ?_, fun i hi => ?_, fun i j v h => ?_, fun r' hr => ?_, fun k hk => hk.elim, fun d hd i j v h => ?_⟩
  · rcases or_ i j v h with z | ⟨rfl, rfl, _⟩
    · exact I.dom i j v z
    · exact ⟨h1, h2⟩
  · obtain ⟨w, hw, hle⟩ := down i i 0 (I.refl i hi)
    rcases or_ i i w hw with z | ⟨_, _, rfl⟩
    · rw [I.refl i hi] at z
      cases z
      exact hw
    · have : r.2.2 = 0 := by omega
      rw [hw, this]
  · rcases or_ i j v h with z | ⟨_, _, rfl⟩
    · exact I.nn i j v z
    · exact h3
  · rcases List.mem_append.mp hr with z | z
    · obtain ⟨v, hv, hl⟩ := I.row r' z
      obtain ⟨w, hw, hw2⟩ := down _ _ v hv
      exact ⟨w, hw, by omega⟩
    · have e : r' = r := by simpa using z
      subst e
      rw [at_, if_pos ⟨rfl, rfl⟩]
      exact mn_le_right rfl
  · rcases or_ i j v h with z | ⟨rfl, rfl, rfl⟩
    · exact I.sound d (fun r' hr => hd r' (List.mem_append_left _ hr)) i j v z
    · exact hd r (List.mem_append_right _ (by simp))
theorem tinv_rows {ns : List (Option α)} : ∀ (more rows : List (Option α × Option α × Int)) {L : Tb α}, TInv ns rows (fun _ => False) L → (∀ r ∈ more, r.1 ∈ ns ∧ r.2.1 ∈ ns ∧ 0 ≤ r.2.2) →
    TInv ns (rows ++ more) (fun _ => False) (more.foldl addRow L)
  | [], rows, L, I, _ => by
    rw [List.append_nil]
    exact I
  | r :: more, rows, L, I, h => by
    obtain ⟨h1, h2, h3⟩ := h r (List.mem_cons_self ..)
    have q := tinv_rows more (rows ++ [r]) (tinv_row I r h1 h2 h3) fun r' hr => h r' (List.mem_cons_of_mem _ hr)
    rw [List.append_assoc] at q
    exact q
theorem tinv_pass {ns : List (Option α)} {rows : List (Option α × Option α × Int)} {S : Option α → Prop} {L : Tb α} (I : TInv ns rows S L) (m : Option α) (hm : m ∈ ns) : TInv ns rows (fun k => S k ∨ k = m) (pass ns L m) := by
  have m0 := I.refl m hm
  have at_ : ∀ i j, i ∈ ns → j ∈ ns → pass ns L m i j = mn (L i j) (pl (L i m) (L m j)) := fun i j hi hj => by rw [pass_eq m0, if_pos ⟨hi, hj⟩]
  have or_ : ∀ i j w, pass ns L m i j = some w → i ∈ ns ∧ j ∈ ns ∧ (L i j = some w ∨ ∃ u v, L i m = some u ∧ L m j = some v ∧ w = u + v) := fun i j w h => by
    rw [pass_eq m0] at h
    split at h
    · rename_i q
      refine ⟨q.1, q.2, ?_⟩
      rcases mn_or h with z | z
      · exact .inl z
      · exact .inr (pl_some z)
    · obtain ⟨h1, h2⟩ := I.dom i j w h
      exact ⟨h1, h2, .inl h⟩
  have down : ∀ i j u, L i j = some u → ∃ w, pass ns L m i j = some w ∧ w ≤ u := fun i j u h => by
    obtain ⟨h1, h2⟩ := I.dom i j u h
    rw [at_ i j h1 h2]
    exact mn_le_left h
  have via : ∀ i j u v, L i m = some u → L m j = some v → ∃ w, pass ns L m i j = some w ∧ w ≤ u + v := fun i j u v h1 h2 => by
    rw [at_ i j (I.dom i m u h1).1 (I.dom m j v h2).2, h1, h2]
    exact mn_le_right rfl
  refine ⟨fun i j v h => ⟨(or_ i j v h).1, (or_ i j v h).2.1⟩, fun i hi => ?_, fun i j v h => ?_, fun r hr => ?_, fun k hk i j u v h1 h2 => ?_, fun d hd i j v h => ?_⟩
  · obtain ⟨w, hw, hle⟩ := down i i 0 (I.refl i hi)
    obtain ⟨_, _, z | ⟨u, v, hu, hv, e⟩⟩ := or_ i i w hw
    · rw [I.refl i hi] at z
      cases z
      exact hw
    · have h1 := I.nn _ _ _ hu
      have h2 := I.nn _ _ _ hv
      have : w = 0 := by omega
      rw [hw, this]
  · obtain ⟨_, _, z | ⟨u, v', hu, hv, e⟩⟩ := or_ i j v h
    · exact I.nn i j v z
    · have h1 := I.nn _ _ _ hu
      have h2 := I.nn _ _ _ hv
      omega
  · obtain ⟨v, hv, hl⟩ := I.row r hr
    obtain ⟨w, hw, hw2⟩ := down _ _ v hv
    exact ⟨w, hw, by omega⟩
  · obtain ⟨hi, hk1, q1⟩ := or_ i k u h1
    obtain ⟨hk2, hj, q2⟩ := or_ k j v h2
    -- by old entries: a way from i to j through k
    rcases hk with hk | rfl
    · rcases q1 with q1 | ⟨a, b, ha, hb, rfl⟩ <;> rcases q2 with q2 | ⟨a', b', ha', hb', rfl⟩
      · obtain ⟨w, hw, hl⟩ := I.tri k hk i j u v q1 q2
        obtain ⟨w', hw', hl'⟩ := down i j w hw
        exact ⟨w', hw', by omega⟩
      · obtain ⟨w, hw, hl⟩ := I.tri k hk i m u a' q1 ha'
        obtain ⟨w', hw', hl'⟩ := via i j w b' hw hb'
        exact ⟨w', hw', by omega⟩
      · obtain ⟨w, hw, hl⟩ := I.tri k hk m j b v hb q2
        obtain ⟨w', hw', hl'⟩ := via i j a w ha hw
        exact ⟨w', hw', by omega⟩
      · have n1 := I.nn _ _ _ hb
        have n2 := I.nn _ _ _ ha'
        obtain ⟨w', hw', hl'⟩ := via i j a b' ha hb'
        exact ⟨w', hw', by omega⟩
    · have e1 : L i k = some u := by
        rcases q1 with q1 | ⟨a, b, ha, hb, rfl⟩
        · exact q1
        · rw [m0] at hb
          cases hb
          rw [ha]
          simp
      have e2 : L k j = some v := by
        rcases q2 with q2 | ⟨a, b, ha, hb, rfl⟩
        · exact q2
        · rw [m0] at ha
          cases ha
          rw [hb]
          simp
      exact via i j u v e1 e2
  · obtain ⟨_, _, z | ⟨u, v', hu, hv, e⟩⟩ := or_ i j v h
    · exact I.sound d hd i j v z
    · have h1 := I.sound d hd i m u hu
      have h2 := I.sound d hd m j v' hv
      omega
theorem tinv_all {ns : List (Option α)} {rows : List (Option α × Option α × Int)} : ∀ (ms : List (Option α)) {S : Option α → Prop} {L : Tb α}, TInv ns rows S L → (∀ m ∈ ms, m ∈ ns) → TInv ns rows (fun k => S k ∨ k ∈ ms) (ms.foldl (pass ns) L)
  | [], S, L, I, _ => ⟨I.dom, I.refl, I.nn, I.row, fun k hk => I.tri k (hk.elim id fun z => (nomatch z)), I.sound⟩
  | m :: ms, S, L, I, h => by
    have q := tinv_all ms (tinv_pass I m (h m (List.mem_cons_self ..))) fun x hx => h x (List.mem_cons_of_mem _ hx)
    refine ⟨q.dom, q.refl, q.nn, q.row, fun k hk => q.tri k ?_, q.sound⟩
    rcases hk with hk | hk
    · exact .inl (.inl hk)
    · rcases List.mem_cons.mp hk with e | hk
      · exact .inl (.inr e)
      · exact .inr hk
theorem leads_inv {ns : List (Option α)} {rows : List (Option α × Option α × Int)} (h : ∀ r ∈ rows, r.1 ∈ ns ∧ r.2.1 ∈ ns ∧ 0 ≤ r.2.2) : TInv ns rows (fun _ => True) (leads ns rows) := by
  have a := tinv_rows rows [] (tinv0 ns) h
  rw [List.nil_append] at a
  have q := tinv_all ns a fun _ z => z
  refine ⟨q.dom, q.refl, q.nn, q.row, fun k _ i j u v h1 h2 => q.tri k (.inr (q.dom i k u h1).2) i j u v h1 h2, q.sound⟩

/-! ### the closed table of a plan -/
def cx (c : α → Int) : Option α → Int
  | none => 0
  | some x => c x
structure Closed (P : Pl α) (L : Tb α) : Prop where
  dom : ∀ i j v, L i j = some v → i ∈ none :: P.ev.map some ∧ j ∈ none :: P.ev.map some
  refl : ∀ x ∈ P.ev, L (some x) (some x) = some 0
  nn : ∀ i j v, L i j = some v → 0 ≤ v
  tie : ∀ t ∈ P.ties, ∃ v, L (some t.1) (some t.2.1) = some v ∧ v ≤ t.2.2
  lim : ∀ x ∈ P.ev, ∀ m, P.lim x = some m → ∃ v, L none (some x) = some v ∧ v ≤ m
  zero : ∀ x ∈ P.ev, L (some x) none = some 0
  tri : ∀ i k j u v, L i k = some u → L k j = some v → ∃ w, L i j = some w ∧ w ≤ u + v
  sound : ∀ c, Mom P c → ∀ i j v, L i j = some v → cx c j ≤ cx c i + v
/-- the rows of a plan; ls: its limits as a list -/
def rowsOf (P : Pl α) (ls : List (α × Int)) : List (Option α × Option α × Int) :=
  (P.ties.map fun t => (some t.1, some t.2.1, t.2.2)) ++ (ls.map fun p => (none, some p.1, p.2)) ++ P.ev.map fun x => (some x, none, 0)
def nodesOf (P : Pl α) : List (Option α) := none :: P.ev.map some
theorem closed_of {P : Pl α} (wf : WF P) {ls : List (α × Int)} (hl : ∀ x m, P.lim x = some m ↔ (x, m) ∈ ls) : Closed P (leads (nodesOf P) (rowsOf P ls)) := by
  have nd : ∀ x ∈ P.ev, some x ∈ nodesOf P := fun x hx => List.mem_cons_of_mem _ (List.mem_map.mpr ⟨x, hx, rfl⟩)
  have nn : (none : Option α) ∈ nodesOf P := List.mem_cons_self ..
  have I := leads_inv (ns := nodesOf P) (rows := rowsOf P ls) fun r hr => by
    unfold rowsOf at hr
    rcases List.mem_append.mp hr with hr | hr
    · rcases List.mem_append.mp hr with hr | hr
      · obtain ⟨t, ht, rfl⟩ := List.mem_map.mp hr
        obtain ⟨h1, h2, h3⟩ := wf.ends t ht
        exact ⟨nd _ h1, nd _ h2, h3⟩
      · obtain ⟨p, hp, rfl⟩ := List.mem_map.mp hr
        obtain ⟨h1, h2⟩ := wf.lims p.1 p.2 ((hl _ _).mpr hp)
        exact ⟨nn, nd _ h1, h2⟩
    · obtain ⟨x, hx, rfl⟩ := List.mem_map.mp hr
      exact ⟨nd _ hx, nn, Int.le_refl _⟩
  refine ⟨I.dom, fun x hx => I.refl _ (nd x hx), I.nn, fun t ht => ?_, fun x hx m hm => ?_, fun x hx => ?_, fun i k j u v h1 h2 => I.tri k True.intro i j u v h1 h2, fun c hc i j v h => ?_⟩
  · exact I.row (some t.1, some t.2.1, t.2.2) (List.mem_append_left _ (List.mem_append_left _ (List.mem_map.mpr ⟨t, ht, rfl⟩)))
  · exact I.row (none, some x, m) (List.mem_append_left _ (List.mem_append_right _ (List.mem_map.mpr ⟨(x, m), (hl x m).mp hm, rfl⟩)))
  · obtain ⟨v, hv, hle⟩ := I.row (some x, none, 0) (List.mem_append_right _ (List.mem_map.mpr ⟨x, hx, rfl⟩))
    have h0 := I.nn _ _ _ hv
    have hle : v ≤ 0 := hle
    have e : v = 0 := by omega
    rw [e] at hv
    exact hv
  · refine I.sound (cx c) (fun r hr => ?_) i j v h
    unfold rowsOf at hr
    rcases List.mem_append.mp hr with hr | hr
    · rcases List.mem_append.mp hr with hr | hr
      · obtain ⟨t, ht, rfl⟩ := List.mem_map.mp hr
        exact hc.2.1 t ht
      · obtain ⟨p, hp, rfl⟩ := List.mem_map.mp hr
        have hm := (hl _ _).mpr hp
        have q := hc.2.2 p.1 (wf.lims _ _ hm).1 p.2 hm
        show c p.1 ≤ 0 + p.2
        omega
    · obtain ⟨x, hx, rfl⟩ := List.mem_map.mp hr
      have q := hc.1 x hx
      show (0 : Int) ≤ c x + 0
      omega

/-! ### the least moment with a count -/
def leastC (L : Tb α) (l : α) (n : Int) : α → Int := fun x => match L (some x) (some l) with
  | some v => if n - v > 0 then n - v else 0
  | none => 0
theorem leastC_ge {L : Tb α} {l x : α} {n v : Int} (h : L (some x) (some l) = some v) : n - v ≤ leastC L l n x := by
  unfold leastC
  rw [h]
  dsimp only
  split <;> omega
theorem leastC_nn (L : Tb α) (l : α) (n : Int) (x : α) : 0 ≤ leastC L l n x := by
  unfold leastC
  split
  · split <;> omega
  · omega
theorem leastC_or (L : Tb α) (l : α) (n : Int) (x : α) : leastC L l n x = 0 ∨ ∃ v, L (some x) (some l) = some v ∧ leastC L l n x = n - v := by
  unfold leastC
  split
  · rename_i v e
    split
    · exact .inr ⟨v, e, rfl⟩
    · exact .inl rfl
  · exact .inl rfl
theorem least_mom {P : Pl α} {L : Tb α} (wf : WF P) (C : Closed P L) {l : α} {n : Int} (hl : l ∈ P.ev) (hn : ∀ M, L none (some l) = some M → n ≤ M) : Mom P (leastC L l n) := by
  refine ⟨fun x _ => leastC_nn L l n x, fun t ht => ?_, fun x hx m hm => ?_⟩
  · have h0 := leastC_nn L l n t.1
    have hlag := (wf.ends t ht).2.2
    rcases leastC_or L l n t.2.1 with e | ⟨v, hv, e⟩
    · omega
    · obtain ⟨u, hu, hle⟩ := C.tie t ht
      obtain ⟨w, hw, hw2⟩ := C.tri _ _ _ _ _ hu hv
      have := leastC_ge (n := n) hw
      omega
  · have hm0 := (wf.lims x m hm).2
    rcases leastC_or L l n x with e | ⟨v, hv, e⟩
    · omega
    · obtain ⟨u, hu, hle⟩ := C.lim x hx m hm
      obtain ⟨w, hw, hw2⟩ := C.tri _ _ _ _ _ hu hv
      have := hn w hw
      omega
/-- what holds at all moments shows in the table -/
theorem lead_le {P : Pl α} {L : Tb α} (wf : WF P) (C : Closed P L) {e l : α} {g : Int} (he : e ∈ P.ev) (hl : l ∈ P.ev) (hg : 0 ≤ g) (h : ∀ c, Mom P c → c l ≤ c e + g) : ∃ v, L (some e) (some l) = some v ∧ v ≤ g := by
  have key : ∀ n : Int, (∀ M, L none (some l) = some M → n ≤ M) → 0 ≤ n → (∀ v, L (some e) (some l) = some v → n ≤ v) → n ≤ g := fun n h1 h0 h2 => by
    have q := h _ (least_mom wf C hl h1)
    have a := leastC_ge (n := n) (C.refl l hl)
    have b : leastC L l n e = 0 := by
      rcases leastC_or L l n e with z | ⟨v, hv, z⟩
      · exact z
      · have := h2 v hv
        have := leastC_nn L l n e
        omega
    omega
  cases q : L (some e) (some l) with
  | some v =>
    refine ⟨v, rfl, ?_⟩
    cases r : L none (some l) with
    | none => exact key v (fun M hM => by rw [r] at hM; cases hM) (C.nn _ _ _ q) (fun v' hv => by rw [q] at hv; cases hv; exact Int.le_refl _)
    | some M =>
      obtain ⟨w, hw, hw2⟩ := C.tri _ _ _ _ _ (C.zero e he) r
      rw [q] at hw
      cases hw
      exact key v (fun M' hM => by rw [r] at hM; cases hM; omega) (C.nn _ _ _ q) (fun v' hv => by rw [q] at hv; cases hv; exact Int.le_refl _)
  | none =>
    have no : ∀ M, L none (some l) = some M → False := fun M hM => by
      obtain ⟨w, hw, _⟩ := C.tri _ _ _ _ _ (C.zero e he) hM
      rw [q] at hw
      cases hw
    have := key (g + 1) (fun M hM => (no M hM).elim) (by omega) (fun v hv => by rw [q] at hv; cases hv)
    omega
theorem most_le {P : Pl α} {L : Tb α} (wf : WF P) (C : Closed P L) {l : α} {g : Int} (hl : l ∈ P.ev) (hg : 0 ≤ g) (h : ∀ c, Mom P c → c l ≤ g) : ∃ v, L none (some l) = some v ∧ v ≤ g := by
  cases r : L none (some l) with
  | none =>
    have q := h _ (least_mom wf C (n := g + 1) hl fun M hM => by rw [r] at hM; cases hM)
    have a := leastC_ge (n := g + 1) (C.refl l hl)
    omega
  | some M =>
    refine ⟨M, rfl, ?_⟩
    have q := h _ (least_mom wf C (n := M) hl fun M' hM => by rw [r] at hM; cases hM; exact Int.le_refl _)
    have a := leastC_ge (n := M) (C.refl l hl)
    omega

/-! ### what is left if events are hidden -/
/-- the greatest of some numbers and 0 -/
def topOf (f : α → Option Int) : List α → Int
  | [] => 0
  | x :: r => match f x with
    | some v => if v > topOf f r then v else topOf f r
    | none => topOf f r
theorem topOf_nn (f : α → Option Int) : ∀ l, 0 ≤ topOf f l
  | [] => Int.le_refl _
  | x :: r => by
    have ih := topOf_nn f r
    unfold topOf
    split
    · split <;> omega
    · exact ih
theorem topOf_ge (f : α → Option Int) : ∀ (l : List α) (x : α) (v : Int), x ∈ l → f x = some v → v ≤ topOf f l
  | y :: r, x, v, hx, hv => by
    unfold topOf
    rcases List.mem_cons.mp hx with e | hx
    · subst e
      rw [hv]
      dsimp only
      split <;> omega
    · have ih := topOf_ge f r x v hx hv
      split
      · split <;> omega
      · exact ih
theorem topOf_or (f : α → Option Int) : ∀ l : List α, topOf f l = 0 ∨ ∃ x ∈ l, f x = some (topOf f l)
  | [] => .inl rfl
  | y :: r => by
    have ih := topOf_or f r
    have ih' : topOf f r = 0 ∨ ∃ x ∈ y :: r, f x = some (topOf f r) := by
      rcases ih with z | ⟨x, hx, e⟩
      · exact .inl z
      · exact .inr ⟨x, List.mem_cons_of_mem _ hx, e⟩
    unfold topOf
    split
    · rename_i v e
      split
      · exact .inr ⟨y, List.mem_cons_self .., e⟩
      · exact ih'
    · exact ih'
def extend (L : Tb α) (seen : List α) (c : α → Int) : α → Int := fun x => topOf (fun s => (L (some x) (some s)).map fun v => c s - v) seen
theorem extend_mom {P : Pl α} {L : Tb α} (wf : WF P) (C : Closed P L) {seen : List α} {c : α → Int}
    (hm : ∀ s ∈ seen, ∀ M, L none (some s) = some M → c s ≤ M) : Mom P (extend L seen c) := by
  have or_ : ∀ x, extend L seen c x = 0 ∨ ∃ s ∈ seen, ∃ v, L (some x) (some s) = some v ∧ extend L seen c x = c s - v := fun x => by
    rcases topOf_or (fun s => (L (some x) (some s)).map fun v => c s - v) seen with z | ⟨s, hs, e⟩
    · exact .inl z
    · cases q : L (some x) (some s) with
      | none => simp [q] at e
      | some v =>
        rw [q] at e
        exact .inr ⟨s, hs, v, q, (Option.some.inj e).symm⟩
  have ge_ : ∀ x, ∀ s ∈ seen, ∀ v, L (some x) (some s) = some v → c s - v ≤ extend L seen c x := fun x s hs v hv =>
    topOf_ge (fun s => (L (some x) (some s)).map fun v => c s - v) seen s (c s - v) hs (by simp [hv])
  refine ⟨fun x _ => topOf_nn _ _, fun t ht => ?_, fun x hx m hm' => ?_⟩
  · have h0 : 0 ≤ extend L seen c t.1 := topOf_nn _ _
    have hlag := (wf.ends t ht).2.2
    rcases or_ t.2.1 with e | ⟨s, hs, v, hv, e⟩
    · omega
    · obtain ⟨u, hu, hle⟩ := C.tie t ht
      obtain ⟨w, hw, hw2⟩ := C.tri _ _ _ _ _ hu hv
      have := ge_ _ s hs w hw
      omega
  · have hm0 := (wf.lims x m hm').2
    rcases or_ x with e | ⟨s, hs, v, hv, e⟩
    · omega
    · obtain ⟨u, hu, hle⟩ := C.lim x hx m hm'
      obtain ⟨w, hw, hw2⟩ := C.tri _ _ _ _ _ hu hv
      have := hm s hs w hw
      omega
theorem extend_at {P : Pl α} {L : Tb α} (C : Closed P L) {seen : List α} {c : α → Int} (hs : ∀ s ∈ seen, s ∈ P.ev) (h0 : ∀ s ∈ seen, 0 ≤ c s)
    (h : ∀ x ∈ seen, ∀ y ∈ seen, ∀ v, L (some x) (some y) = some v → c y ≤ c x + v) {x : α} (hx : x ∈ seen) : extend L seen c x = c x := by
  have a : c x - 0 ≤ extend L seen c x := topOf_ge (fun s => (L (some x) (some s)).map fun v => c s - v) seen x (c x - 0) hx (by rw [C.refl x (hs x hx)]; rfl)
  have b : extend L seen c x ≤ c x := by
    rcases topOf_or (fun s => (L (some x) (some s)).map fun v => c s - v) seen with z | ⟨s, hs', e⟩
    · have := h0 x hx
      have z : extend L seen c x = 0 := z
      omega
    · cases q : L (some x) (some s) with
      | none => simp [q] at e
      | some v =>
        rw [q] at e
        have e : c s - v = extend L seen c x := Option.some.inj e
        have := h x hx s hs' v q
        omega
  omega

/-! ### runs -/
def cnt (row : List α) (x : α) : Int := (row.count x : Nat)
theorem cnt_nil (x : α) : cnt ([] : List α) x = 0 := rfl
theorem cnt_snoc (row : List α) (e x : α) : cnt (row ++ [e]) x = cnt row x + if x = e then 1 else 0 := by
  unfold cnt
  rw [List.count_append, List.count_singleton]
  by_cases h : x = e
  · subst h
    simp
  · have h' : ¬ e = x := fun z => h z.symm
    simp [h, h']
def bump (c : α → Int) (e : α) : α → Int := fun x => if x = e then c x + 1 else c x
theorem bump_at (c : α → Int) (e : α) : bump c e e = c e + 1 := if_pos rfl
theorem bump_ne (c : α → Int) {e x : α} (h : x ≠ e) : bump c e x = c x := if_neg h
theorem mom_congr {P : Pl α} (wf : WF P) {c d : α → Int} (h : ∀ x ∈ P.ev, c x = d x) (m : Mom P c) : Mom P d := by
  refine ⟨fun x hx => ?_, fun t ht => ?_, fun x hx n hn => ?_⟩
  · rw [← h x hx]
    exact m.1 x hx
  · obtain ⟨h1, h2, _⟩ := wf.ends t ht
    rw [← h _ h1, ← h _ h2]
    exact m.2.1 t ht
  · rw [← h x hx]
    exact m.2.2 x hx n hn
theorem mom_zero {P : Pl α} (wf : WF P) : Mom P fun _ => 0 :=
  ⟨fun _ _ => Int.le_refl _, fun t ht => by have := (wf.ends t ht).2.2; show (0 : Int) ≤ 0 + t.2.2; omega, fun x _ m hm => (wf.lims x m hm).2⟩
theorem mom_min {P : Pl α} {c d : α → Int} (hc : Mom P c) (hd : Mom P d) : Mom P fun x => min (c x) (d x) := by
  refine ⟨fun x hx => ?_, fun t ht => ?_, fun x hx m hm => ?_⟩
  · have := hc.1 x hx
    have := hd.1 x hx
    show 0 ≤ min (c x) (d x)
    omega
  · have := hc.2.1 t ht
    have := hd.2.1 t ht
    show min (c t.2.1) (d t.2.1) ≤ min (c t.1) (d t.1) + t.2.2
    omega
  · have := hc.2.2 x hx m hm
    show min (c x) (d x) ≤ m
    omega
theorem mom_cap {P : Pl α} (wf : WF P) {c : α → Int} (hc : Mom P c) (n : Int) (hn : 0 ≤ n) : Mom P fun x => min (c x) n := by
  refine ⟨fun x hx => ?_, fun t ht => ?_, fun x hx m hm => ?_⟩
  · have := hc.1 x hx
    show 0 ≤ min (c x) n
    omega
  · have := hc.2.1 t ht
    have := (wf.ends t ht).2.2
    show min (c t.2.1) n ≤ min (c t.1) n + t.2.2
    omega
  · have := hc.2.2 x hx m hm
    show min (c x) n ≤ m
    omega
/-- some item of a list has none of the list ahead of it -/
theorem exists_min (R : α → α → Prop) (irr : ∀ x, ¬ R x x) (tr : ∀ x y z, R x y → R y z → R x z) : ∀ l : List α, l ≠ [] → ∃ x ∈ l, ∀ y ∈ l, ¬ R y x
  | [], h => (h rfl).elim
  | [a], _ => ⟨a, List.mem_cons_self .., fun y hy => by
    have e : y = a := by simpa using hy
    rw [e]
    exact irr a⟩
  | a :: b :: r, _ => by
    obtain ⟨x, hx, hmin⟩ := exists_min R irr tr (b :: r) (List.cons_ne_nil _ _)
    by_cases h : R a x
    · refine ⟨a, List.mem_cons_self .., fun y hy => ?_⟩
      rcases List.mem_cons.mp hy with e | hy
      · rw [e]
        exact irr a
      · exact fun z => hmin y hy (tr _ _ _ z h)
    · refine ⟨x, List.mem_cons_of_mem _ hx, fun y hy => ?_⟩
      rcases List.mem_cons.mp hy with e | hy
      · rw [e]
        exact h
      · exact hmin y hy
/-- between two moments one step can be made -/
theorem one_step {P : Pl α} (wf : WF P) (ac : Acyc P.ties) {c d : α → Int} (hc : Mom P c) (hd : Mom P d) (le : ∀ x ∈ P.ev, c x ≤ d x) (ne : ∃ x ∈ P.ev, c x < d x) :
    ∃ x ∈ P.ev, c x < d x ∧ Mom P (bump c x) := by
  obtain ⟨R, irr, tr, hR⟩ := ac
  let D := P.ev.filter fun x => decide (c x < d x)
  have memD : ∀ x, x ∈ D ↔ x ∈ P.ev ∧ c x < d x := fun x => by simp [D, List.mem_filter]
  have hD : D ≠ [] := by
    obtain ⟨x, hx, hlt⟩ := ne
    exact List.ne_nil_of_mem ((memD x).mpr ⟨hx, hlt⟩)
  obtain ⟨x, hx, hmin⟩ := exists_min (fun x y => c x < c y ∨ (c x = c y ∧ R x y)) (fun x z => z.elim (fun z => by omega) fun z => irr x z.2) (fun x y z h1 h2 => by
    rcases h1 with h1 | ⟨h1, r1⟩ <;> rcases h2 with h2 | ⟨h2, r2⟩
    · exact .inl (by omega)
    · exact .inl (by omega)
    · exact .inl (by omega)
    · exact .inr ⟨by omega, tr _ _ _ r1 r2⟩) D hD
  obtain ⟨hxe, hlt⟩ := (memD x).mp hx
  refine ⟨x, hxe, hlt, fun y hy => ?_, fun t ht => ?_, fun y hy m hm => ?_⟩
  · have := hc.1 y hy
    unfold bump
    split <;> omega
  · obtain ⟨h1, h2, h3⟩ := wf.ends t ht
    have a := hc.2.1 t ht
    have b := hd.2.1 t ht
    unfold bump
    by_cases e2 : t.2.1 = x
    · by_cases e1 : t.1 = x
      · rw [if_pos e2, if_pos e1, e2, e1]
        omega
      · rw [if_pos e2, if_neg e1]
        rw [e2] at a b ⊢
        -- the tie bars x: then its earlier event is one that lies ahead
        by_cases q : c x + 1 ≤ c t.1 + t.2.2
        · exact q
        · exfalso
          have hD1 : t.1 ∈ D := (memD _).mpr ⟨h1, by omega⟩
          refine hmin t.1 hD1 ?_
          by_cases z : t.2.2 = 0
          · have := hR t ht z
            rw [e2] at this
            exact .inr ⟨by omega, this⟩
          · exact .inl (by omega)
    · rw [if_neg e2]
      split <;> omega
  · have a := hc.2.2 y hy m hm
    have b := hd.2.2 y hy m hm
    unfold bump
    by_cases e : y = x
    · rw [if_pos e, e]
      rw [e] at b
      omega
    · rw [if_neg e]
      exact a
end Pu
end
section
/-! The plain law, continued: climbing, plans of seen events, plans that are learnt. -/
namespace Pu
universe u
variable {α : Type u} [DecidableEq α]
def gap (c d : α → Int) (l : List α) : Nat := (l.map fun x => (d x - c x).toNat).sum
theorem gap_le {c c' d : α → Int} : ∀ {l : List α}, (∀ x ∈ l, c x ≤ c' x) → gap c' d l ≤ gap c d l
  | [], _ => Nat.le_refl _
  | a :: l, h => by
    have h1 := h a (List.mem_cons_self ..)
    have h2 := gap_le (c := c) (c' := c') (d := d) (l := l) fun x hx => h x (List.mem_cons_of_mem _ hx)
    show (d a - c' a).toNat + gap c' d l ≤ (d a - c a).toNat + gap c d l
    omega
theorem bump_ge (c : α → Int) (e x : α) : c x ≤ bump c e x := by
  unfold bump
  split <;> omega
theorem gap_lt {c d : α → Int} {e : α} : ∀ {l : List α}, e ∈ l → c e < d e → gap (bump c e) d l < gap c d l
  | [], h, _ => by cases h
  | a :: l, h, hlt => by
    show (d a - bump c e a).toNat + gap (bump c e) d l < (d a - c a).toNat + gap c d l
    by_cases ea : a = e
    · have h2 := gap_le (c := c) (c' := bump c e) (d := d) (l := l) fun x _ => bump_ge c e x
      rw [ea, bump_at]
      omega
    · have h' : e ∈ l := (List.mem_cons.mp h).elim (fun z => absurd z.symm ea) id
      have h2 := gap_lt h' hlt
      rw [bump_ne c ea]
      omega
/-- from a moment to a later one, step by step -/
theorem climb {P : Pl α} (wf : WF P) (ac : Acyc P.ties) {d : α → Int} (hd : Mom P d) (I : (α → Int) → Prop)
    (step : ∀ c e, Mom P c → I c → e ∈ P.ev → c e < d e → (∀ x ∈ P.ev, c x ≤ d x) → Mom P (bump c e) → I (bump c e)) :
    ∀ (n : Nat) (c : α → Int), gap c d P.ev = n → Mom P c → (∀ x ∈ P.ev, c x ≤ d x) → I c → ∃ c', Mom P c' ∧ I c' ∧ ∀ x ∈ P.ev, c' x = d x := by
  intro n
  induction n using Nat.strongRecOn with
  | ind n ih =>
    intro c hn hc le hI
    by_cases eq : ∀ x ∈ P.ev, c x = d x
    · exact ⟨c, hc, hI, eq⟩
    · have ne : ∃ x ∈ P.ev, c x < d x := by
        apply Classical.byContradiction
        intro h
        apply eq
        intro x hx
        have h1 := le x hx
        have h2 : ¬ c x < d x := fun z => h ⟨x, hx, z⟩
        omega
      obtain ⟨e, he, hlt, hb⟩ := one_step wf ac hc hd le ne
      refine ih (gap (bump c e) d P.ev) (by rw [← hn]; exact gap_lt he hlt) (bump c e) rfl hb (fun x hx => ?_) (step c e hc hI he hlt le hb)
      have := le x hx
      unfold bump
      split
      · rename_i h; rw [h]; omega
      · exact this
/-! ### what the seen events may do -/
theorem leastC_self {L : Tb α} {P : Pl α} (C : Closed P L) {l : α} {n : Int} (hl : l ∈ P.ev) : n ≤ leastC L l n l := by
  have := leastC_ge (L := L) (l := l) (x := l) (n := n) (v := 0) (C.refl l hl)
  omega
/-- ties with the lag 0 of a closed table, into events that may happen at all, form no ring -/
theorem seen_ac {P : Pl α} {L : Tb α} (wf : WF P) (ac : Acyc P.ties) (C : Closed P L) : ∃ R : α → α → Prop, (∀ x, ¬ R x x) ∧ (∀ x y z, R x y → R y z → R x z) ∧
    ∀ x ∈ P.ev, ∀ y ∈ P.ev, x ≠ y → L (some x) (some y) = some 0 → (∀ m, L none (some y) = some m → 0 < m) → R x y := by
  refine ⟨fun x y => x ∈ P.ev ∧ y ∈ P.ev ∧ x ≠ y ∧ L (some x) (some y) = some 0 ∧ ∀ m, L none (some y) = some m → 0 < m, fun x h => h.2.2.1 rfl, fun x y z h1 h2 => ?_, fun x hx y hy ne e0 hm => ⟨hx, hy, ne, e0, hm⟩⟩
  obtain ⟨hx, hy, nxy, exy, my⟩ := h1
  obtain ⟨_, hz, nyz, eyz, mz⟩ := h2
  have exz : L (some x) (some z) = some 0 := by
    obtain ⟨v, hv, hle⟩ := C.tri _ _ _ _ _ exy eyz
    have := C.nn _ _ _ hv
    have e : v = 0 := by omega
    rw [hv, e]
  refine ⟨hx, hz, fun e => ?_, exz, mz⟩
  subst e
  -- x and y always have the same count, and y may happen
  have same : ∀ c, Mom P c → c x = c y := fun c hc => by
    have h1 := C.sound c hc _ _ _ exy
    have h2 := C.sound c hc _ _ _ eyz
    simp only [cx] at h1 h2
    omega
  have hd := least_mom wf C (l := y) (n := 1) hy (fun M hM => by have := my M hM; omega)
  have hdy := leastC_self C (n := 1) hy
  obtain ⟨c', hc', hI, heq⟩ := climb wf ac hd (fun c => c y = 0) (fun c e hc hI he hlt le hb => by
    have s0 := same c hc
    have s1 := same _ hb
    by_cases h1 : y = e
    · subst h1
      rw [bump_at, bump_ne c nxy] at s1
      omega
    · rw [bump_ne c h1]
      exact hI) _ (fun _ => 0) rfl (mom_zero wf) (fun x hx => hd.1 x hx) rfl
  have := heq y hy
  omega
/-- the plan of the seen events says what moments do on them -/
theorem seen_iff {P : Pl α} {L : Tb α} (wf : WF P) (C : Closed P L) {seen : List α} (hs : ∀ s ∈ seen, s ∈ P.ev) (c : α → Int) :
    ((∀ x ∈ seen, 0 ≤ c x) ∧ (∀ x ∈ seen, ∀ m, L none (some x) = some m → c x ≤ m) ∧ ∀ x ∈ seen, ∀ y ∈ seen, ∀ v, x ≠ y → L (some x) (some y) = some v → c y ≤ c x + v) ↔ ∃ d, Mom P d ∧ ∀ x ∈ seen, d x = c x := by
  constructor
  · rintro ⟨h0, h1, h2⟩
    refine ⟨extend L seen c, extend_mom wf C h1, fun x hx => extend_at C hs h0 (fun x hx y hy v hv => ?_) hx⟩
    by_cases e : x = y
    · subst e
      have := C.refl x (hs x hx)
      rw [hv] at this
      have : v = 0 := Option.some.inj this
      omega
    · exact h2 x hx y hy v e hv
  · rintro ⟨d, hd, e⟩
    refine ⟨fun x hx => by rw [← e x hx]; exact hd.1 x (hs x hx), fun x hx m hm => ?_, fun x hx y hy v _ hv => ?_⟩
    · have := C.sound d hd _ _ _ hm
      simp only [cx] at this
      rw [← e x hx]
      omega
    · have := C.sound d hd _ _ _ hv
      simp only [cx] at this
      rw [← e x hx, ← e y hy]
      exact this
/-! ### what logs tell -/
theorem cnt_append (p r : List α) (x : α) : cnt (p ++ r) x = cnt p x + cnt r x := by
  unfold cnt
  rw [List.count_append]
  omega
theorem cnt_nn (p : List α) (x : α) : 0 ≤ cnt p x := Int.natCast_nonneg _
/-- F i l: how far l ran ahead of i in the logs -/
structure LogF (ev : List α) (logs : List (List α)) (F : Option α → α → Int) : Prop where
  nn : ∀ i ∈ none :: ev.map some, ∀ l ∈ ev, 0 ≤ F i l
  ub : ∀ log ∈ logs, ∀ p r, p ++ r = log → ∀ i ∈ none :: ev.map some, ∀ l ∈ ev, cnt p l - cx (cnt p) i ≤ F i l
  at_ : ∀ i ∈ none :: ev.map some, ∀ l ∈ ev, F i l = 0 ∨ ∃ log ∈ logs, ∃ p r, p ++ r = log ∧ F i l = cnt p l - cx (cnt p) i
theorem logs_ac {ev : List α} {logs : List (List α)} {F : Option α → α → Int} (h : LogF ev logs F) : ∃ R : α → α → Prop, (∀ x, ¬ R x x) ∧ (∀ x y z, R x y → R y z → R x z) ∧
    ∀ x ∈ ev, ∀ y ∈ ev, x ≠ y → F (some x) y = 0 → 0 < F none y → R x y := by
  refine ⟨fun x y => x ≠ y ∧ (∀ log ∈ logs, ∀ p r, p ++ r = log → cnt p y ≤ cnt p x) ∧ ∃ log ∈ logs, y ∈ log, fun x h => h.1 rfl, fun x y z h1 h2 => ?_, fun x hx y hy ne e0 hp => ?_⟩
  · obtain ⟨n1, a1, b1⟩ := h1
    obtain ⟨n2, a2, log, hlog, hz⟩ := h2
    refine ⟨fun e => ?_, fun log hl p r e => Int.le_trans (a2 log hl p r e) (a1 log hl p r e), log, hlog, hz⟩
    subst e
    obtain ⟨p, r, e⟩ := List.append_of_mem hz
    have e2 : (p ++ [x]) ++ r = log := by rw [e, List.append_assoc]; rfl
    have h3 := a1 log hlog p (x :: r) e.symm
    have h4 := a2 log hlog p (x :: r) e.symm
    have h5 := a2 log hlog (p ++ [x]) r e2
    rw [cnt_snoc, cnt_snoc, if_pos rfl, if_neg (Ne.symm n1)] at h5
    omega
  · have hx' : some x ∈ none :: ev.map some := List.mem_cons_of_mem _ (List.mem_map.mpr ⟨x, hx, rfl⟩)
    refine ⟨ne, fun log hl p r e => ?_, ?_⟩
    · have := h.ub log hl p r e (some x) hx' y hy
      simp only [cx] at this
      omega
    · rcases h.at_ none (List.mem_cons_self ..) y hy with e | ⟨log, hl, p, r, e, hv⟩
      · omega
      · refine ⟨log, hl, ?_⟩
        simp only [cx] at hv
        have : 0 < cnt p y := by omega
        have hc : 0 < p.count y := by unfold cnt at this; omega
        rw [← e]
        exact List.mem_append_left _ (List.count_pos_iff.mp hc)
end Pu
namespace Pu
universe u
variable {α : Type u} [DecidableEq α]
theorem logF_nil (ev : List α) : LogF ev [] fun _ _ => 0 := ⟨fun _ _ _ _ => Int.le_refl 0, fun log h => (by cases h), fun _ _ _ _ => .inl rfl⟩
theorem cx_nil (i : Option α) : cx (cnt ([] : List α)) i = 0 := by cases i <;> rfl
theorem cx_le {p r : List α} (i : Option α) : cx (cnt p) i ≤ cx (cnt (p ++ r)) i := by
  cases i with
  | none => exact Int.le_refl _
  | some x =>
    show cnt p x ≤ cnt (p ++ r) x
    have := cnt_nn r x
    rw [cnt_append]
    omega
theorem LogF.start {ev : List α} {logs : List (List α)} {F : Option α → α → Int} (h : LogF ev logs F) : LogF ev (logs ++ [[]]) F := by
  refine ⟨h.nn, fun log hl p r e i hi l hl' => ?_, fun i hi l hl => ?_⟩
  · rcases List.mem_append.mp hl with hl | hl
    · exact h.ub log hl p r e i hi l hl'
    · have e1 : log = [] := by simpa using hl
      rw [e1] at e
      have e2 : p = [] := (List.append_eq_nil_iff.mp e).1
      rw [e2, cx_nil]
      have := h.nn i hi l hl'
      show (0 : Int) - 0 ≤ _
      omega
  · rcases h.at_ i hi l hl with e | ⟨log, h1, h2⟩
    · exact .inl e
    · exact .inr ⟨log, List.mem_append_left _ h1, h2⟩
theorem LogF.step {ev : List α} {logs : List (List α)} {F : Option α → α → Int} {q : List α} (h : LogF ev (logs ++ [q]) F) (x : α) :
    LogF ev (logs ++ [q ++ [x]]) fun i l => if l = x then (if cnt (q ++ [x]) x - cx (cnt (q ++ [x])) i > F i x then cnt (q ++ [x]) x - cx (cnt (q ++ [x])) i else F i x) else F i l := by
  have ge : ∀ i l, F i l ≤ if l = x then (if cnt (q ++ [x]) x - cx (cnt (q ++ [x])) i > F i x then cnt (q ++ [x]) x - cx (cnt (q ++ [x])) i else F i x) else F i l := fun i l => by
    split
    · rename_i e
      rw [e]
      split <;> omega
    · exact Int.le_refl _
  have pre : ∀ p r : List α, p ++ r = q ++ [x] → (∃ r', p ++ r' = q) ∨ p = q ++ [x] := fun p r e => by
    rcases List.eq_nil_or_concat r with z | ⟨r', y, z⟩
    · rw [z, List.append_nil] at e
      exact .inr e
    · rw [z, List.concat_eq_append, ← List.append_assoc] at e
      exact .inl ⟨r', (List.append_inj' e rfl).1⟩
  refine ⟨fun i hi l hl => Int.le_trans (h.nn i hi l hl) (ge i l), fun log hl p r e i hi l hl' => ?_, fun i hi l hl => ?_⟩
  · rcases List.mem_append.mp hl with hl | hl
    · exact Int.le_trans (h.ub log (List.mem_append_left _ hl) p r e i hi l hl') (ge i l)
    · have e1 : log = q ++ [x] := by simpa using hl
      rw [e1] at e
      rcases pre p r e with ⟨r', z⟩ | z
      · exact Int.le_trans (h.ub q (List.mem_append_right _ (List.mem_singleton.mpr rfl)) p r' z i hi l hl') (ge i l)
      · rw [z]
        by_cases el : l = x
        · rw [if_pos el, el]
          split <;> omega
        · rw [if_neg el]
          have h1 := h.ub q (List.mem_append_right _ (List.mem_singleton.mpr rfl)) q [] (List.append_nil q) i hi l hl'
          have h2 : cnt (q ++ [x]) l = cnt q l := by rw [cnt_snoc, if_neg el]; omega
          have h3 := cx_le (p := q) (r := [x]) i
          omega
  · have old : (F i l = 0 ∨ ∃ log ∈ logs ++ [q ++ [x]], ∃ p r, p ++ r = log ∧ F i l = cnt p l - cx (cnt p) i) := by
      rcases h.at_ i hi l hl with e | ⟨log, h1, p, r, h2, h3⟩
      · exact .inl e
      · rcases List.mem_append.mp h1 with h1 | h1
        · exact .inr ⟨log, List.mem_append_left _ h1, p, r, h2, h3⟩
        · have e1 : log = q := by simpa using h1
          exact .inr ⟨q ++ [x], List.mem_append_right _ (List.mem_singleton.mpr rfl), p, r ++ [x], by rw [← List.append_assoc, h2, e1], h3⟩
    by_cases el : l = x
    · rw [if_pos el]
      split
      · exact .inr ⟨q ++ [x], List.mem_append_right _ (List.mem_singleton.mpr rfl), q ++ [x], [], List.append_nil _, by rw [el]⟩
      · have e0 : F i x = F i l := by rw [el]
        rw [e0]
        exact old
    · rw [if_neg el]
      exact old
theorem LogF.congr {ev : List α} {logs : List (List α)} {F G : Option α → α → Int} (h : LogF ev logs F) (e : ∀ i ∈ none :: ev.map some, ∀ l ∈ ev, G i l = F i l) : LogF ev logs G :=
  ⟨fun i hi l hl => by rw [e i hi l hl]; exact h.nn i hi l hl, fun log hl p r q i hi l hl' => by rw [e i hi l hl']; exact h.ub log hl p r q i hi l hl', fun i hi l hl => by rw [e i hi l hl]; exact h.at_ i hi l hl⟩
end Pu
end
section
namespace Pu
variable {α : Type u} [DecidableEq α]
/-- as the row says, but for the hidden -/
def Vis (P : Pl α) (hid : List α) (p : List α) (d : α → Int) : Prop := ∀ x ∈ P.ev, x ∉ hid → d x = cnt p x
def Cond (P : Pl α) (hid : List α) (row : List α) : Prop := ∀ q r, q ++ r = row → ∃ d, Mom P d ∧ Vis P hid q d
def ClosedF (P : Pl α) (hid : List α) (F : (α → Int) → Prop) : Prop := ∀ c x, F c → x ∈ hid → c x + 1 < 9 → Mom P (bump c x) → F (bump c x)
def Full (P : Pl α) (hid : List α) (p : List α) (F : (α → Int) → Prop) : Prop := ∀ d, Mom P d → Vis P hid p d → (∀ x ∈ P.ev, x ∈ hid → d x ≤ 8) → F d
theorem full_nil {P : Pl α} (wf : WF P) (ac : Acyc P.ties) {hid : List α} {F : (α → Int) → Prop} (resp : ∀ c d, (∀ x ∈ P.ev, c x = d x) → F c → F d) (cl : ClosedF P hid F) (h0 : F fun _ => 0) : Full P hid [] F := fun d hd hv h8 => by
  obtain ⟨c', hc', hI, e⟩ := climb wf ac hd F (fun c e hc hI he hlt le hb => by
    by_cases hh : e ∈ hid
    · exact cl c e hI hh (by have := h8 e he hh; omega) hb
    · have := hv e he hh
      rw [cnt_nil] at this
      have := hc.1 e he
      omega) _ (fun _ => 0) rfl (mom_zero wf) (fun x hx => hd.1 x hx) h0
  exact resp c' d e hI
theorem full_snoc {P : Pl α} (wf : WF P) (ac : Acyc P.ties) {hid p : List α} {x : α} (hx : x ∈ P.ev) (hxh : x ∉ hid) {F F' : (α → Int) → Prop} (resp : ∀ c d, (∀ x ∈ P.ev, c x = d x) → F' c → F' d) (cl : ClosedF P hid F) (cl' : ClosedF P hid F')
    (st : ∀ c, F c → Mom P (bump c x) → F' (bump c x)) (fl : Full P hid p F) (ex : ∃ e, Mom P e ∧ Vis P hid p e) : Full P hid (p ++ [x]) F' := fun d hd hv h8 => by
  obtain ⟨e, he, hev⟩ := ex
  have cs : ∀ y, cnt (p ++ [x]) y = cnt p y + if y = x then 1 else 0 := cnt_snoc p x
  have hm := mom_min he hd
  have vm : Vis P hid p fun y => min (e y) (d y) := fun y hy hh => by
    have h1 := hev y hy hh
    have h2 := hv y hy hh
    rw [cs] at h2
    show min (e y) (d y) = _
    split at h2 <;> omega
  have f0 : F fun y => min (e y) (d y) := fl _ hm vm fun y hy hh => by
    have := h8 y hy hh
    show min (e y) (d y) ≤ 8
    omega
  obtain ⟨c', hc', hI, eq⟩ := climb wf ac hd (fun c => (Vis P hid p c ∧ F c) ∨ (Vis P hid (p ++ [x]) c ∧ F' c)) (fun c y hc hI hy hlt le hb => by
    have visb : ∀ q, y ∈ hid → Vis P hid q c → Vis P hid q (bump c y) := fun q hh v z hz hzh => by
      have nz : z ≠ y := fun t => hzh (by rw [t]; exact hh)
      rw [bump_ne c nz]
      exact v z hz hzh
    by_cases hh : y ∈ hid
    · have l9 : c y + 1 < 9 := by have := h8 y hy hh; omega
      rcases hI with ⟨v, f⟩ | ⟨v, f⟩
      · exact .inl ⟨visb _ hh v, cl c y f hh l9 hb⟩
      · exact .inr ⟨visb _ hh v, cl' c y f hh l9 hb⟩
    · have h2 := hv y hy hh
      rw [cs] at h2
      rcases hI with ⟨v, f⟩ | ⟨v, f⟩
      · have h1 := v y hy hh
        by_cases exy : y = x
        · subst exy
          refine .inr ⟨fun z hz hzh => ?_, st c f hb⟩
          rw [cs, ← v z hz hzh]
          unfold bump
          split <;> omega
        · rw [if_neg exy] at h2
          omega
      · have h1 := v y hy hh
        rw [cs] at h1
        omega) _ _ rfl hm (fun y hy => by show min (e y) (d y) ≤ d y; omega) (.inl ⟨vm, f0⟩)
  rcases hI with ⟨v, f⟩ | ⟨v, f⟩
  · have h1 := v x hx hxh
    have h2 := hv x hx hxh
    have h3 := eq x hx
    rw [cs, if_pos rfl] at h2
    omega
  · exact resp c' d eq f
/-- a full set is not empty when the row may be seen -/
theorem full_some {P : Pl α} (wf : WF P) {hid p : List α} {F : (α → Int) → Prop} (fl : Full P hid p F) (hp : p.length ≤ 8) (ex : ∃ e, Mom P e ∧ Vis P hid p e) : ∃ c, F c := by
  obtain ⟨e, he, hv⟩ := ex
  refine ⟨_, fl _ (mom_cap wf he 8 (by decide)) (fun y hy hh => ?_) fun y hy hh => by show min (e y) 8 ≤ 8; omega⟩
  have h1 := hv y hy hh
  have h2 : cnt p y ≤ 8 := by
    unfold cnt
    have : p.count y ≤ p.length := List.count_le_length
    omega
  show min (e y) 8 = _
  omega
end Pu
end
section
set_option maxHeartbeats 4000000
/-! Words of this proof: a def as a caller sees it, heaps that only grow, small rules that the layer lacks. -/
namespace Pk
open PySem PySem.Spec PyProof.Rows L2

/-- a def of the module, as the head tells it -/
def Def (K : PySem.W.Frag) (mg : Str → Option Value) (x : Str) (st : Stmt) : Prop :=
  ∃ f fd, FunD K x x (defArgs st) (defBody st) (defScope st) [] [] f fd ∧ mg x = some (.ref f)
/-- a def as its callers see it -/
structure Cal (P : Program) (w : World) (K : PySem.W.Frag) (mg : Str → Option Value) (base : Heap) (k : Nat) (x : Str) (ps : List Str) (sp : Sp) : Prop where
  ex : ∃ f fd, FnOk P w K mg base CX0 k f fd ps sp ∧ mg x = some (.ref f) ∧ PySem.W.keepIn K (.ref f) = true ∧ Binds K fd ps []
/-- a method as its callers see it -/
structure Mal (P : Program) (w : World) (K : PySem.W.Frag) (mg : Str → Option Value) (base : Heap) (k : Nat) (C : Addr) (m : Str) (ps : List Str) (sp : Sp) : Prop where
  ex : ∃ f fd, FnOk P w K mg base CX0 k f fd ps sp ∧ Meth K C m f ∧ Binds K fd ps []
section
variable {P : Program} {w : World} {K : PySem.W.Frag} {mg : Str → Option Value} {base : Heap} {k j : Nat} {x qual : Str} {st : Stmt} {N ps : List Str} {sp : Sp}
theorem Cal.mono (c : Cal P w K mg base k x ps sp) (h : k ≤ j) : Cal P w K mg base j x ps sp :=
  let ⟨f, fd, F, a, b, c⟩ := c.ex
  ⟨f, fd, F.mono h, a, b, c⟩
theorem funD_ok {f : Addr} {fd : FuncData} {dvs : List V} {kws : List (Str × V)} (F : FunD K x qual (defArgs st) (defBody st) (defScope st) dvs kws f fd) (S : FnScope N ps (defScope st)) (len : ∀ vs H Q E, sp vs H Q E → vs.length = ps.length)
    (body : ∀ (f : Addr) (cdv : Value) (A : Around) (outer : List Env) (s : Shared) (H : Hp) (vs : List V) (Q : VK) (E : XK), Room k (A.deeper (envOfC qual (defScope st) s.heap.objs.size f cdv)) → sp vs H Q E →
      ∃ t, PSs (cxOf CX0 P w K mg base N qual (defScope st) f cdv A outer s H E).nox (defBody st) t ∧ t { nx := fun _ H' => Q .non H', rt := Q } (start N vs) H) : FnOk P w K mg base CX0 (k + 1) f fd ps sp :=
  F.ok S len fun cdv A outer s H vs Q E hr h => by
    obtain ⟨t, a, b⟩ := body f cdv A outer s H vs Q E hr h
    exact ⟨t, a.nox, b⟩
/-- THE RULE: a def by its body -/
theorem Def.cal (D : Def K mg x st) (S : FnScope N ps (defScope st))
    (hb : ∀ (kV doc pm : Value) (an : Option Addr) (cdv ct : Value) (us : List Value), us.length = ps.length → bindArgs (PySem.W.fnOf x x (defArgs st) (defBody st) (defScope st) .none kV doc pm an cdv ct) ⟨us, []⟩ = pure (ps.zip us))
    (len : ∀ vs H Q E, sp vs H Q E → vs.length = ps.length)
    (body : ∀ (f : Addr) (cdv : Value) (A : Around) (outer : List Env) (s : Shared) (H : Hp) (vs : List V) (Q : VK) (E : XK), Room k (A.deeper (envOfC x (defScope st) s.heap.objs.size f cdv)) → sp vs H Q E →
      ∃ t, PSs (cxOf CX0 P w K mg base N x (defScope st) f cdv A outer s H E).nox (defBody st) t ∧ t { nx := fun _ H' => Q .non H', rt := Q } (start N vs) H) : Cal P w K mg base (k + 1) x ps sp := by
  obtain ⟨f, fd, F, hm⟩ := D
  exact ⟨f, fd, funD_ok F S len body, hm, F.kp, F.bindsN hb⟩
end
section
variable {X : Cx} {k j : Nat} {x m : Str} {ps : List Str} {sp : Sp} {p pos apos : Pos} {e o : Expr} {es : List Expr} {t : TA} {ta : TE} {C : Addr}
/-- f(e, ..) -/
theorem pe_cal (c : Cal X.prog X.w X.K X.mg X.base k x ps sp) (hr : Room j X.A) (hg : Gl X x) (ha : PA X (e :: es) t) (hk : k ≤ j := by decide) (hdb : (x == ("__debug__" : Str)) = false := by decide)
    (he : starEach (e :: es) X.env = (false, eval e X.env) :: starEach es X.env := by rfl) (hpl : (backTo pos (starEach es X.env)).any (·.1) = false := by rfl) : PE X (.Call (.Name x p) (e :: es) [] pos) (tCall sp [] E0 t) := by
  obtain ⟨f, fd, F, hm, kp, b⟩ := c.ex
  exact pe_call F (hr.mono hk) hg hm kp b .nil pass0 ha hdb he hpl
end

/-! ### heaps that grow -/
theorem same_new {H : Hp} {p : Addr} {o : HO} (h : H p = none) : Same H (upd H p o) := fun b u e => by
  rw [upd_ne (ne_of_none e h)]
  exact e
/-- an object that H does not know is written -/
theorem Same.mut {H H' : Hp} {p : Addr} {o : HO} (e : Same H H') (h : H p = none) : Same H (upd H' p o) := fun b u q => by
  rw [upd_ne (ne_of_none q h)]
  exact e b u q
theorem Same.tup {K : PySem.W.Frag} {H H' : Hp} {a : Addr} {xs : List V} (e : Same H H') (h : SqT K H a xs) : SqT K H' a xs := by
  rcases h with (h | ⟨o, h⟩) | h
  · exact .inl (.inl (e _ _ h))
  · exact .inl (.inr ⟨o, e _ _ h⟩)
  · exact .inr h
theorem Same.rd {H H' : Hp} {a : Addr} {u : HO} (e : Same H H') (h : Rd H a u) : Rd H' a u := by
  rcases h with h | ⟨o, h⟩
  · exact .inl (e _ _ h)
  · exact .inr ⟨o, e _ _ h⟩
/-- all but b stays -/
def But (b : Addr) (H H' : Hp) : Prop := ∀ c o, c ≠ b → H c = some o → H' c = some o
theorem But.refl (b : Addr) (H : Hp) : But b H H := fun _ _ _ h => h
theorem But.trans {b : Addr} {H H1 H2 : Hp} (a : But b H H1) (c : But b H1 H2) : But b H H2 := fun d o n h => c d o n (a d o n h)
theorem But.of {b : Addr} {H H' : Hp} (s : Same H H') : But b H H' := fun c o _ h => s c o h
theorem But.upd {b : Addr} {H : Hp} {o : HO} : But b H (upd H b o) := fun c u n h => by
  rw [upd_ne n]
  exact h
theorem But.free {b : Addr} {H H' : Hp} {p : Addr} (e : But b H H') (hb : p ≠ b) (h : H' p = none) : H p = none := by
  cases q : H p with
  | none => rfl
  | some o =>
    rw [e p o hb q] at h
    cases h

/-! ### freezing what an expression hands over -/
section
variable {X : Cx} {e : Expr} {t : TE} {tg : Expr}
/-- the value stands still from now on: a thing just made, that nobody else holds -/
def tFrz (t : TE) : TE := fun σ H Q => t σ H fun x H1 => ∃ d u, x = .ref d ∧ H1 d = some u ∧ Mut (some u) ∧ ∀ o, Q x (upd H1 d (.frz o u))
theorem pe_frz (h : PE X e t) : PE X e (tFrz t) := by
  refine ⟨fun pins s σ H Q I q => ?_⟩
  refine thn (h.run pins s σ H _ I q) fun v s1 ⟨x, H1, I1, r, d, u, ex, hd, mu, k⟩ => ?_
  obtain ⟨o, I2⟩ := I1.lock hd mu
  exact ⟨x, _, I2, r, k o⟩
end
end Pk
end
section
set_option maxHeartbeats 4000000
namespace Pk
open PySem PySem.Spec PyProof.Rows L2
section
variable {X : Cx} {k j : Nat} {x m : Str} {ps : List Str} {sp : Sp} {p pos apos : Pos} {e o : Expr} {es : List Expr} {t : TA} {ta : TE} {C : Addr}
/-- o.m(e, ..), o.m() -/
theorem pe_mal (he : PE X o ta) (c : Cls X.K C) (M : Mal X.prog X.w X.K X.mg X.base k C m ps sp) (hr : Room j X.A) (ha : PA X (e :: es) t) (hk : k ≤ j := by decide)
    (H : ∀ {f : Addr} {fd : FuncData}, Meth X.K C m f → FnOk X.prog X.w X.K X.mg X.base CX0 k f fd ps sp → Binds X.K fd ps [] → Room k X.A → PE X (.Call (.Attribute o m apos) (e :: es) [] pos) (tMeth C m sp [] E0 ta t)) :
    PE X (.Call (.Attribute o m apos) (e :: es) [] pos) (tMeth C m sp [] E0 ta t) := by
  obtain ⟨f, fd, F, hm, b⟩ := M.ex
  exact H hm F b (hr.mono hk)
theorem pe_mal0 (c : Cls X.K C) (M : Mal X.prog X.w X.K X.mg X.base k C m ps sp) (hr : Room j X.A) (hk : k ≤ j := by decide)
    (H : ∀ {f : Addr} {fd : FuncData}, Meth X.K C m f → FnOk X.prog X.w X.K X.mg X.base CX0 k f fd ps sp → Binds X.K fd ps [] → Room k X.A → PE X (.Call (.Attribute o m apos) [] [] pos) (tMeth C m sp [] E0 ta tNil)) :
    PE X (.Call (.Attribute o m apos) [] [] pos) (tMeth C m sp [] E0 ta tNil) := by
  obtain ⟨f, fd, F, hm, b⟩ := M.ex
  exact H hm F b (hr.mono hk)
end

/-! ### a list held against an empty one -/
section
variable {X : Cx}
/-- x != y, x == y where y is an empty list -/
def rNeNil (K : PySem.W.Frag) : R2 := fun x y H Q => ∃ a b xs, x = .ref a ∧ y = .ref b ∧ SqL K H a xs ∧ SqL K H b [] ∧ Q (.bl (!xs.isEmpty)) H
def rEqNil (K : PySem.W.Frag) : R2 := fun x y H Q => ∃ a b xs, x = .ref a ∧ y = .ref b ∧ SqL K H a xs ∧ SqL K H b [] ∧ Q (.bl xs.isEmpty) H
theorem op_neNil (hu : X.A.units < cLine) : OpR X (compareOp .NotEq) (rNeNil X.K) := by
  intro pins s σ H x y v u Q I rx ry h
  obtain ⟨a, b, xs, rfl, rfl, ha, hb, q⟩ := h
  cases rx
  cases ry
  obtain ⟨its, r, pl, _⟩ := I.list ha
  obtain ⟨its2, r2, pl2, _⟩ := I.list hb
  cases r2
  cases r with
  | nil => exact SeqAt.RcNeAt.lists (e := fun _ => true) pl.isList pl2.isList rfl hu (fun j h1 _ => absurd h1 (by simp)) X.prog X.w _ _ ⟨.bl _, H, I, rfl, q⟩
  | cons p t => exact SeqAt.RcNeAt.lists_lengths pl.isList pl2.isList (by simp) hu X.prog X.w _ _ ⟨.bl _, H, I, rfl, q⟩
theorem op_eqNil (hu : X.A.units < cLine) : OpR X (compareOp .Eq) (rEqNil X.K) := by
  intro pins s σ H x y v u Q I rx ry h
  obtain ⟨a, b, xs, rfl, rfl, ha, hb, q⟩ := h
  cases rx
  cases ry
  obtain ⟨its, r, pl, _⟩ := I.list ha
  obtain ⟨its2, r2, pl2, _⟩ := I.list hb
  cases r2
  cases r with
  | nil => exact SeqAt.RcAt.lists (e := fun _ => true) pl.isList pl2.isList rfl hu (fun j h1 _ => absurd h1 (by simp)) X.prog X.w _ _ ⟨.bl _, H, I, rfl, q⟩
  | cons p t => exact SeqAt.RcAt.lists_lengths pl.isList pl2.isList (by simp) hu X.prog X.w _ _ ⟨.bl _, H, I, rfl, q⟩
end

/-! ### a dict among the dicts of a list -/
section
open SeqAt
open AutoSeq1 (wpAny_loadPart')
open MeetsSeq MeetsSeq2 MeetsSeq3 SeqRoads2
variable {prog : Program} {w : World}
/-- list.__contains__ within one model, from place i on -/
theorem has_loop (l : Addr) (its : Array Value) (n : Nat) (dd : Option Addr) (sl : Array (Option Value)) (x : Value) (f : Value → Bool) : ∀ (m i : Nat), m = its.size - i →
    MeetsIn prog w (Builtin.«list.__contains__.loop» ⟨[.ref l, x, rawInt i], []⟩) fun A R s =>
      s.heap.get? l = some { cls := .type "list", dict := dd, data := .seq its n, slots := sl } ∧ (∀ y ∈ its, EqIn prog w A.in1 s y x (f y)) ∧ R (.ok (.ret (.bool ((its.toList.drop i).any f)))) s
  | 0, i, hm => by
    rintro A R ⟨hp, g, d, tk, os⟩ ⟨hl, _, h⟩
    have a1 : its[((i : Nat) : Int).toNat]? = none := by simp; omega
    have a2 : its.toList.drop i = [] := by simp; omega
    rw [a2] at h
    wp_walk using wpAny_loadPart' hl
    rw [a1]
    wp_walk
    exact h
  | m + 1, i, hm => by
    rintro A R ⟨hp, g, d, tk, os⟩ ⟨hl, he, h⟩
    have hi : i < its.size := by omega
    have a1 : its[((i : Nat) : Int).toNat]? = some its[i] := by simp [hi]
    have a2 : its.toList.drop i = its[i] :: its.toList.drop (i + 1) := by simp [List.drop_eq_getElem_cons, hi]
    rw [a2, List.any_cons] at h
    wp_walk using wpAny_loadPart' hl
    rw [a1]
    refine wpAny_bind (he its[i] (Array.getElem_mem hi) _ _ ?_)
    by_cases hb : f its[i] = true
    · rw [hb] at h ⊢
      wp_walk
      exact h
    · have hb' : f its[i] = false := by simpa using hb
      rw [hb'] at h ⊢
      wp_walk
      have a3 : ((i : Int) + 1) = ((i + 1 : Nat) : Int) := by push_cast; rfl
      rw [a3]
      refine ⟨plainId_quiet plain_contains_loop _, codeAny_builtin entry_contains_loop ?_⟩
      rw [Around.under_plainId plain_contains_loop _]
      exact has_loop l its n dd sl x f m (i + 1) (by omega) A R _ ⟨hl, he, by simpa using h⟩
theorem has_not {A : Around} {E : Value → Shared → Prop} {s : Shared} {l : Addr} {its : Array Value} {x : Value} {Q : Value → Shared → Prop} (f : Value → Bool) (hl : s.heap.IsList l its) (he : ∀ y ∈ its, EqIn prog w A.in1 s y x (f y))
    (h : Q (.bool (!its.any f)) s) : wpAny (model prog w) A (compareOp .NotIn x (.ref l)) Q E s := by
  obtain ⟨⟨cls, dd, data, sl⟩, ho, hc, n, hd⟩ := id hl
  simp only at hc hd
  subst hc hd
  have M : MeetsIn prog w (Builtin.«list.__contains__» ⟨[.ref l, x], []⟩) fun A R s =>
      s.heap.get? l = some { cls := .type "list", dict := dd, data := .seq its n, slots := sl } ∧ (∀ y ∈ its, EqIn prog w A.in1 s y x (f y)) ∧ R (.ok (.ret (.bool (its.any f)))) s := by
    rintro A R ⟨hp, g, d, tk, os⟩ ⟨hl, he, h⟩
    wp_walk using wpAny_loadPart' hl
    refine ⟨plainId_quiet plain_contains_loop _, codeAny_builtin entry_contains_loop ?_⟩
    rw [Around.under_plainId plain_contains_loop _]
    exact has_loop l its n dd sl x f _ 0 rfl A R _ ⟨hl, he, by simpa using h⟩
  show wpAny _ A (do return .bool (!(← contains (.ref l) x))) Q E s
  refine wpAny_bind (wpAny_contains_slot ⟨_, ho, rfl⟩ F.slot_list_contains (wpAny_mono (call_meetsIn F.slot_list_contains ⟨_, ho, rfl⟩ F.entry_list_contains (F.args_list_contains_2 _ _) M
    (S := fun A R s => s.heap.get? l = some { cls := .type "list", dict := dd, data := .seq its n, slots := sl } ∧ (∀ y ∈ its, EqIn prog w A.in1 s y x (f y)) ∧ R (.ok (.ret (.bool (its.any f)))) s)
    (Q := fun v s' => v = .bool (its.any f) ∧ s' = s) (E := E) ⟨ho, he, rfl, rfl⟩) (fun v s' hv => ?_) fun _ _ e => e))
  obtain ⟨rfl, rfl⟩ := hv
  exact wpAny_truthy_bool (wpAny_pure h)
end
/-- two tables of ints alike: as many keys, and at each key the same -/
def alikeK (ka kb : List (Key × V)) : Bool := ka.length == kb.length && ka.all fun p => decide (valV kb p.1 = some p.2)
section
variable {X : Cx} {pins : List (Addr × Obj)} {σ : L2.St} {H : Hp} {s : Shared}
theorem eq_ints_at {A : Around} {s : Shared} {v y : V} {u z : Value} (hv : ∃ i, v = .int i) (hy : ∃ i, y = .int i) (rv : RelV v u) (ry : RelV y z) : SeqAt.EqAt A s u z (decide (v = y)) := by
  obtain ⟨i, rfl⟩ := hv
  obtain ⟨j, rfl⟩ := hy
  obtain ⟨t, rfl⟩ := rv
  obtain ⟨t', rfl⟩ := ry
  rw [dec_int]
  exact SeqAt.EqAt.int_int i t j t'
/-- two tracked dicts of ints compared -/
theorem dicts_eq {A : Around} {a b : Addr} {ka kb : List (Key × V)} (I : Inv X pins σ H s) (ea : H a = some (.dK ka)) (eb : H b = some (.dK kb)) (ia : ∀ p ∈ ka, ∃ i, p.2 = V.int i) (ib : ∀ p ∈ kb, ∃ i, p.2 = V.int i) (hu : A.units < cLine) :
    SeqAt.EqIn X.prog X.w A s (.ref a) (.ref b) (decide (a = b) || alikeK ka kb) := by
  by_cases hab : a = b
  · subst hab
    rw [decide_eq_true rfl, Bool.true_or]
    exact (SeqAt.EqAt.same _).inModel X.prog X.w
  · rw [decide_eq_false hab, Bool.false_or]
    obtain ⟨_, ma, va, ra, da⟩ := dk_of I.hok ea
    obtain ⟨_, mb, vb, rb, db⟩ := dk_of I.hok eb
    have len : ka.length = va.length := ra.length
    have lenb : kb.length = vb.length := rb.length
    -- item by item
    have step : ∀ {ka : List (Key × V)} {va : List (Key × Value)}, KV ka va → (∀ p ∈ ka, ∃ i, p.2 = V.int i) → PySem.W.KeqHitsIn X.prog X.w A.in1 s vb va (ka.all fun p => decide (valV kb p.1 = some p.2)) := by
      intro ka va r
      unfold KV at r
      induction r with
      | nil => exact fun _ => .nil
      | @cons p q ps qs h t ih =>
        intro hi
        obtain ⟨pk, pv⟩ := p
        obtain ⟨qk, qv⟩ := q
        obtain ⟨e1, e2⟩ := h
        have e1 : pk = qk := e1
        subst e1
        have rest := ih fun p hp => hi p (List.mem_cons_of_mem _ hp)
        have rv := rb.val pk
        cases hk : valV kb pk with
        | none =>
          rw [hk] at rv
          rw [List.all_cons, hk, decide_eq_false (fun z => nomatch z), Bool.false_and]
          exact .miss (RelO.none_of rv)
        | some y =>
          rw [hk] at rv
          obtain ⟨u, hu', ru⟩ := RelO.some_of rv
          have iy : ∃ i, y = V.int i := by
            obtain ⟨p', hp', e'⟩ : ∃ p' ∈ kb, p'.2 = y := by
              unfold valV at hk
              obtain ⟨p', hp', e'⟩ := Option.map_eq_some_iff.mp hk
              exact ⟨p', List.mem_of_find?_eq_some hp', e'⟩
            rw [← e']
            exact ib p' hp'
          rw [List.all_cons, hk]
          have e3 : decide (some y = some pv) = decide (pv = y) := by
            by_cases z : pv = y
            · subst z; simp
            · rw [decide_eq_false z, decide_eq_false (fun q => z (Option.some.inj q).symm)]
          rw [e3]
          exact .hit hu' ((eq_ints_at (hi (pk, pv) (List.mem_cons_self ..)) iy e2 ru).inModel X.prog X.w) rest
    unfold alikeK
    refine SeqAt.EqIn.of_refs hab fun E Q hq => PySem.W.keq_eqIn ma mb da db hu (fun _ => step ra ia) ?_
    rw [← len, ← lenb]
    exact hq
/-- x not in xs, x a dict of ints, xs a list of such -/
def rNotInK (K : PySem.W.Frag) : R2 := fun x y H Q => ∃ a l as ka kbs, x = .ref a ∧ y = .ref l ∧ SqL K H l (as.map V.ref) ∧ H a = some (.dK ka) ∧ (∀ p ∈ ka, ∃ i, p.2 = V.int i) ∧
  Paired (fun b kb => H b = some (.dK kb) ∧ ∀ p ∈ kb, ∃ i, p.2 = V.int i) as kbs ∧ Q (.bl (!(as.zip kbs).any fun p => decide (p.1 = a) || alikeK p.2 ka)) H
theorem op_notInK (hu : X.A.units + 64 < cLine) : OpR X (compareOp .NotIn) (rNotInK X.K) := by
  intro pins s σ H x y v u Q I rx ry h
  obtain ⟨a, l, as, ka, kbs, rfl, rfl, hl, ha, ia, hp, q⟩ := h
  cases rx
  cases ry
  obtain ⟨its, r, pl, _⟩ := I.list hl
  have ei := refs_at r
  subst ei
  -- the answers, read off the addresses
  have key : ∀ {as : List Addr} {kbs : List (List (Key × V))}, Paired (fun b kb => H b = some (.dK kb) ∧ ∀ p ∈ kb, ∃ i, p.2 = V.int i) as kbs → ∃ f : Value → Bool, True := fun _ => ⟨fun _ => true, trivial⟩
  let f : Value → Bool := fun u => match u with
    | .ref b => (match H b with
      | some (.dK kb) => decide (b = a) || alikeK kb ka
      | _ => false)
    | _ => false
  have each : ∀ {as : List Addr} {kbs : List (List (Key × V))}, Paired (fun b kb => H b = some (.dK kb) ∧ ∀ p ∈ kb, ∃ i, p.2 = V.int i) as kbs →
      (∀ u ∈ as.map Value.ref, SeqAt.EqIn X.prog X.w X.A.in1 s u (.ref a) (f u)) ∧ (as.map Value.ref).any f = (as.zip kbs).any fun p => decide (p.1 = a) || alikeK p.2 ka := by
    intro as kbs hp
    induction hp with
    | nil => exact ⟨fun u hu => absurd hu (by simp), rfl⟩
    | @cons b kb bs ks h t ih =>
      obtain ⟨i1, i2⟩ := ih
      have fb : f (.ref b) = (decide (b = a) || alikeK kb ka) := by
        show (match H b with
          | some (.dK kb) => decide (b = a) || alikeK kb ka
          | _ => false) = _
        rw [h.1]
      refine ⟨fun u hu' => ?_, ?_⟩
      · rcases List.mem_cons.mp hu' with e | hu'
        · rw [e, fb]
          exact dicts_eq I h.1 ha h.2 ia (by show X.A.units + 1 < cLine; omega)
        · exact i1 u hu'
      · rw [List.map_cons, List.any_cons, List.zip_cons_cons, List.any_cons, i2, fb]
  obtain ⟨e1, e2⟩ := each hp
  refine has_not f pl.isList (fun y hy => e1 y (by simpa using hy)) ⟨.bl _, H, I, rfl, ?_⟩
  have e3 : (as.map Value.ref).toArray.any f = (as.map Value.ref).any f := by simp
  rw [e3, e2]
  exact q
/-- dict(d): a copy -/
theorem call_copyK : CallR X (.type "dict") (fun xs H Q => ∃ a kvs, xs = [.ref a] ∧ Rd H a (.dK kvs) ∧ ∀ p, H p = none → Q (.ref p) (upd H p (.dK kvs))) := by
  intro pins s σ H xs us Q I r h
  obtain ⟨a, kvs, rfl, ha, q⟩ := h
  obtain ⟨u, rfl, ru⟩ := vals1 r
  cases ru
  exact d_copyOf I ha fun p s' hp I' => ⟨.ref p, _, I', rfl, q p hp⟩
/-- o.f as a target -/
def gFld (K : PySem.W.Frag) (ta : TE) (f : Str) : TG := fun v σ H Q => ta σ H fun x H1 => ∃ a C dx fs, x = .ref a ∧ H1 a = some (.ins C dx fs) ∧ Cls K C ∧ NoAttr K C f ∧ fs.length < 1000 ∧ Q σ (upd H1 a (.ins C dx (putF f v fs)))
theorem pg_fld {o : Expr} {f : Str} {pos : Pos} {ta : TE} (ho : PE X o ta) : PG X (.Attribute o f pos) (gFld X.K ta f) := by
  refine ⟨fun pins s σ H v u Q I r h => ?_⟩
  rw [PySem.assign_Attribute]
  refine wpAny_bind (wpAny_holding (thn (ho.run pins s σ H _ I h) fun ov s1 ⟨x, H1, I1, rx, a, C, dx, fs, ex, hx, c, na, hz, q⟩ => ?_))
  subst ex
  cases rx
  refine wpAny_bind (wpAny_standAt (wpAny_bind (wpAny_holding (setattr_ok I1 hx c na hz r fun s2 I2 => ?_))))
  exact wpAny_release ⟨σ, _, I2, q⟩
end
end Pk
end
section
set_option maxHeartbeats 4000000
/-! Dicts whose keys are None or a text, and dicts whose keys are pairs of such. -/
namespace Pk
open PySem PySem.Spec PyProof.Rows L2

abbrev Node := Option Str
/-- a node as the key of the library, as a value -/
def lf : Node → Leaf
  | none => .none
  | some x => .text x
def nV : Node → V
  | none => .non
  | some x => .str x
theorem lf_inj {i j : Node} (h : lf i = lf j) : i = j := by
  cases i <;> cases j <;> first | rfl | (cases h; rfl) | cases h
theorem lf_is {i : Node} {u : Value} (r : RelV (nV i) u) : Leaf.isOf (lf i) u = true := by
  cases i with
  | none => cases (show u = Value.none from r); rfl
  | some x =>
    obtain ⟨t, rfl⟩ := (show ∃ t, u = Value.str x t from r)
    show Value.isStrOf x (.str x t) = true
    simp [Value.isStrOf]
theorem nV_of {i : Node} {u : Value} (h : Leaf.isOf (lf i) u = true) : RelV (nV i) u := by
  cases i with
  | none => cases u <;> first | rfl | exact absurd h Bool.false_ne_true
  | some x =>
    obtain ⟨t, rfl⟩ := Value.isStrOf_shape (show Value.isStrOf x u = true from h)
    exact ⟨t, rfl⟩

/-! ### keys None and texts -/
section
variable (P : Program) (w : World)
def oN (a : Addr) (kvs : List (Node × V)) : HO := .ext fun h => kvs.length ≤ sizeLine ∧ (a == sysModules) = false ∧
  ∃ vs : List (Leaf × Value), Paired (fun (p : Node × V) (q : Leaf × Value) => lf p.1 = q.1 ∧ RelV p.2 q.2) kvs vs ∧ h.DictOf (leafKind P w) a vs
end
abbrev NV : List (Node × V) → List (Leaf × Value) → Prop := Paired fun p q => lf p.1 = q.1 ∧ RelV p.2 q.2
theorem NV.val : ∀ {kvs : List (Node × V)} {vs : List (Leaf × Value)}, NV kvs vs → ∀ k : Node, RelO (valV kvs k) (valueAt vs (lf k)) := by
  intro kvs vs r
  induction r with
  | nil => exact fun _ => True.intro
  | @cons p q ps qs h t ih =>
    intro k
    obtain ⟨h1, h2⟩ := h
    by_cases e : p.1 = k
    · have b : valueAt (q :: qs) (lf k) = some q.2 := by simp [valueAt, List.find?_cons, ← h1, e]
      rw [valV_pos e, b]
      exact h2
    · have e' : ¬ q.1 = lf k := fun z => e (lf_inj (h1.trans z))
      have b : valueAt (q :: qs) (lf k) = valueAt qs (lf k) := by simp [valueAt, List.find?_cons, e']
      rw [valV_neg e, b]
      exact ih k
theorem NV.any {kvs : List (Node × V)} {vs : List (Leaf × Value)} (r : NV kvs vs) (k : Node) : (kvs.any fun kv => decide (kv.1 = k)) = vs.any fun kv => decide (kv.1 = lf k) := by
  induction r with
  | nil => rfl
  | @cons p q ps qs h t ih =>
    rw [List.any_cons, List.any_cons, ih, ← h.1]
    by_cases e : p.1 = k
    · rw [decide_eq_true e, decide_eq_true (congrArg lf e)]
    · rw [decide_eq_false e, decide_eq_false fun z => e (lf_inj z)]
theorem NV.put {kvs : List (Node × V)} {vs : List (Leaf × Value)} (r : NV kvs vs) (k : Node) {y : V} {u : Value} (ry : RelV y u) : NV (putK kvs k y) (stored vs (lf k) u) := by
  have rep : NV (kvs.map fun kv => if kv.1 = k then (kv.1, y) else kv) (vs.map fun kv => if kv.1 = lf k then (kv.1, u) else kv) := by
    induction r with
    | nil => exact .nil
    | @cons p q ps qs h t ih =>
      rw [List.map_cons, List.map_cons]
      refine .cons ?_ ih
      by_cases e : p.1 = k
      · rw [if_pos e, if_pos (h.1.symm.trans (congrArg lf e))]
        exact ⟨h.1, ry⟩
      · rw [if_neg e, if_neg (fun z => e (lf_inj (h.1.trans z)))]
        exact h
  unfold putK stored
  rw [r.any k]
  by_cases e : (vs.any fun kv => decide (kv.1 = lf k)) = true
  · rw [if_pos e, if_pos e]
    exact rep
  · rw [if_neg e, if_neg e]
    exact Paired.snoc r ⟨rfl, ry⟩
section
variable {P : Program} {w : World} {H : Hp} {h : Heap} {a : Addr} {kvs : List (Node × V)}
theorem oN_of (ok : HOk P w H h) (e : Rd H a (oN P w a kvs)) : kvs.length ≤ sizeLine ∧ (a == sysModules) = false ∧ ∃ vs, NV kvs vs ∧ h.DictOf (leafKind P w) a vs := by
  have z : ObjOk P w H h a (oN P w a kvs) := e.ok ok
  exact z.1
theorem oN_ok {vs : List (Leaf × Value)} (z : kvs.length ≤ sizeLine) (hd : (a == sysModules) = false) (r : NV kvs vs) (d : h.DictOf (leafKind P w) a vs) : ObjOk P w H h a (oN P w a kvs) := by
  refine ⟨⟨z, hd, vs, r, d⟩, ?_, fun h1 h2 ⟨z, hd, vs, r, d⟩ st => ⟨z, hd, vs, r, d.at st⟩⟩
  obtain ⟨o, _, _, e, _⟩ := d
  exact ⟨o, e⟩
end
section
variable {X : Cx} {pins : List (Addr × Obj)} {σ : L2.St} {H : Hp} {s : Shared} {A : Around} {E : Value → Shared → Prop} {a : Addr} {kvs : List (Node × V)} {k : Node} {v : V} {u r : Value}
theorem n_getItem {Q : Value → Shared → Prop} (I : Inv X pins σ H s) (e : Rd H a (oN X.prog X.w a kvs)) (hv : valV kvs k = some v) (ru : RelV (nV k) u) (h : ∀ z s', Inv X pins σ H s' → RelV v z → Q z s') :
    wpAny (model X.prog X.w) A (getItem (.ref a) u) Q E s := by
  obtain ⟨_, hd, vs, rel, dd⟩ := oN_of I.hok e
  have q := rel.val k
  rw [hv] at q
  obtain ⟨z, hz, rz⟩ := q.some_of
  exact wpAny_getItem_of (lf_is ru) dd.mapOf hz (h z _ (I.tok _) rz)
theorem n_setItem {Q : Unit → Shared → Prop} (I : Inv X pins σ H s) (e : H a = some (oN X.prog X.w a kvs)) (hz : kvs.length < sizeLine) (ru : RelV (nV k) u) (rv : RelV v r)
    (h : ∀ s', Inv X pins σ (upd H a (oN X.prog X.w a (putK kvs k v))) s' → Q () s') : wpAny (model X.prog X.w) A (setItem (.ref a) u r) Q E s := by
  obtain ⟨z, hd, vs, rel, dd⟩ := oN_of I.hok (.inl e)
  have z' : vs.length ≤ sizeLine := by rw [← Paired.length rel]; exact z
  have l := length_putK kvs k v
  refine wpAny_setItem_pairs (hsz := z') (lf_is ru) dd fun h' dd' hs => h _ ?_
  exact d_write I (by rw [e]; exact True.intro) hs (let ⟨q, _, _, hq, _⟩ := dd'; ⟨q, hq⟩) (oN_ok (by omega) hd (rel.put k rv) dd')
theorem n_dictSet {Q : Unit → Shared → Prop} (I : Inv X pins σ H s) (e : H a = some (oN X.prog X.w a kvs)) (hz : kvs.length < sizeLine) (ru : RelV (nV k) u) (rv : RelV v r)
    (h : ∀ s', Inv X pins σ (upd H a (oN X.prog X.w a (putK kvs k v))) s' → Q () s') : wpAny (model X.prog X.w) A (dictSet a u r) Q E s := by
  obtain ⟨z, hd, vs, rel, dd⟩ := oN_of I.hok (.inl e)
  have z' : vs.length ≤ sizeLine := by rw [← Paired.length rel]; exact z
  have l := length_putK kvs k v
  refine wpAny_dictSet_pairs (hsz := z') (lf_is ru) dd fun h' dd' hs => h _ ?_
  exact d_write I (by rw [e]; exact True.intro) hs (let ⟨q, _, _, hq, _⟩ := dd'; ⟨q, hq⟩) (oN_ok (by omega) hd (rel.put k rv) dd')
end
/-- d[k], d[k] op= e -/
def tNGet (P : Program) (w : World) (td ty : TE) : TE := fun σ H Q => td σ H fun x H1 => ty σ H1 fun y H2 => ∃ a kvs k v, x = .ref a ∧ Rd H2 a (oN P w a kvs) ∧ y = nV k ∧ valV kvs k = some v ∧ Q v H2
def sNAug (P : Program) (w : World) (td ty tv : TE) (rd : V → V → Hp → VK → Prop) : TS := fun D σ H => td σ H fun x H1 => ty σ H1 fun y H2 => ∃ a kvs k v, x = .ref a ∧ H2 a = some (oN P w a kvs) ∧ y = nV k ∧ valV kvs k = some v ∧
  tv σ H2 fun y2 H3 => rd v y2 H3 fun z H4 => ∃ kvs', H4 a = some (oN P w a kvs') ∧ kvs'.length < sizeLine ∧ D.nx σ (upd H4 a (oN P w a (putK kvs' k z)))
section
variable {X : Cx} {o i e : Expr} {pos tpos : Pos} {td ty tv : TE}
theorem n_type {pins : List (Addr × Obj)} {σ : L2.St} {H : Hp} {s : Shared} {a : Addr} {kvs : List (Node × V)} (I : Inv X pins σ H s) (e : Rd H a (oN X.prog X.w a kvs)) : s.TypeIs (.ref a) "dict" := by
  obtain ⟨_, _, vs, _, dd⟩ := oN_of I.hok e
  exact dd.typeIs
theorem pe_nget (ho : PE X o td) (hi : PE X i ty) (hs : NoSl i) : PE X (.Subscript o i pos) (tNGet X.prog X.w td ty) := by
  refine ⟨fun pins s σ H Q I h => ?_⟩
  refine subD_of PySem.F.slot_dict_getitem.lookup hs (thn (ho.run pins s σ H _ I h) fun u s1 ⟨x, H1, I1, rx, q1⟩ => thn (hi.run pins s1 σ H1 _ I1 q1) fun iv s2 ⟨y, H2, I2, ry, a, kvs, k, v, ex, g, ey, hv, q2⟩ => ?_)
  subst ex ey
  cases rx
  exact ⟨n_type I2 g, n_getItem I2 g hv ry fun z s3 I3 rz => ⟨v, H2, I3, rz, q2⟩⟩
theorem ps_naug {op : Operator} {rd : V → V → Hp → VK → Prop} (ho : PE X o td) (hi : PE X i ty) (hv : PE X e tv) (hop : InOp X op rd)
    (ha : ∀ ov iv new, augStore i ov iv new = (do holding [new, ov, iv] (setItem ov iv new); release [new, ov, iv] []; pure .next)) : PS X (.AugAssign (.Subscript o i tpos) op e pos) (sNAug X.prog X.w td ty tv rd) := by
  refine ⟨fun pins s σ H D I h => ?_⟩
  refine wpAny_AugAssign_SubscriptAny (thn (ho.run pins s σ H _ I h) fun u s1 ⟨x, H1, I1, rx, q1⟩ => thn (hi.run pins s1 σ H1 _ I1 q1) fun iv s2 ⟨y, H2, I2, ry, a, kvs, k, v, ex, g, ey, hk, q2⟩ => ?_) ha
  subst ex ey
  cases rx
  refine n_getItem I2 (.inl g) hk ry fun z s3 I3 rz => thn (hv.run pins s3 σ H2 _ I3 q2) fun w2 s4 ⟨y2, H3, I4, ry2, q3⟩ => thn (hop pins s4 σ H3 v y2 z w2 _ I4 rz ry2 q3) fun w3 s5 ⟨z', H4, I5, rz', kvs', g', hl, q4⟩ => ?_
  exact n_setItem I5 g' hl ry rz' fun s6 I6 => ⟨σ, _, I6, q4⟩
end

/-! ### keys pairs of None and texts -/
/-- a pair as the library's key -/
def pk (p : Node × Node) : List Leaf := [lf p.1, lf p.2]
theorem pk_inj {p q : Node × Node} (h : pk p = pk q) : p = q := by
  unfold pk at h
  injection h with h1 h2
  injection h2 with h2 _
  exact Prod.ext (lf_inj h1) (lf_inj h2)
section
variable (P : Program) (w : World)
/-- the dict at a: its pairs, the tuple that each stands in, the values -/
def oP (a : Addr) (es : List ((Node × Node) × Addr × V)) : HO := .ext fun h => es.length ≤ sizeLine ∧ (a == sysModules) = false ∧
  ∃ xs : List (List Leaf × Addr × Value), Paired (fun (p : (Node × Node) × Addr × V) (q : List Leaf × Addr × Value) => pk p.1 = q.1 ∧ p.2.1 = q.2.1 ∧ RelV p.2.2 q.2.2) es xs ∧
    ∃ o ds ep, h.get? a = some o ∧ o.ExactDict ∧ o.data = .dict ds ep ∧ ds.toList = xs.map (entryOfKey (tupleKind (leafKind P w))) ∧ (xs.map (·.1)).Nodup
/-- the dict at a holds kvs; its keys' tuples stand in H -/
def DP (H : Hp) (a : Addr) (kvs : List ((Node × Node) × V)) : Prop :=
  ∃ es, H a = some (oP P w a es) ∧ Paired (fun (p : (Node × Node) × V) (e : (Node × Node) × Addr × V) => p.1 = e.1 ∧ p.2 = e.2.2 ∧ H e.2.1 = some (.tup [nV p.1.1, nV p.1.2])) kvs es
end
abbrev KP (H : Hp) : List ((Node × Node) × V) → List (List Leaf × Addr × Value) → Prop := Paired fun p q => pk p.1 = q.1 ∧ H q.2.1 = some (.tup [nV p.1.1, nV p.1.2]) ∧ RelV p.2 q.2.2
theorem KP.val {H : Hp} {kvs : List ((Node × Node) × V)} {xs : List (List Leaf × Addr × Value)} (r : KP H kvs xs) (k : Node × Node) : RelO (valV kvs k) ((atKey xs (pk k)).map (·.2)) := by
  induction r with
  | nil => exact True.intro
  | @cons p q ps qs h t ih =>
    obtain ⟨h1, _, h2⟩ := h
    by_cases e : p.1 = k
    · have b : atKey (q :: qs) (pk k) = some q.2 := by simp [atKey, List.find?_cons, ← h1, e]
      rw [valV_pos e, b]
      exact h2
    · have e' : ¬ q.1 = pk k := fun z => e (pk_inj (h1.trans z))
      have b : atKey (q :: qs) (pk k) = atKey qs (pk k) := by simp [atKey, List.find?_cons, e']
      rw [valV_neg e, b]
      exact ih
theorem KP.put {H : Hp} {kvs : List ((Node × Node) × V)} {xs : List (List Leaf × Addr × Value)} (r : KP H kvs xs) (k : Node × Node) {b : Addr} {y : V} {u : Value} (hb : H b = some (.tup [nV k.1, nV k.2])) (ry : RelV y u) :
    KP H (putK kvs k y) (storedH xs (pk k) b u) := by
  have rep : KP H (kvs.map fun kv => if kv.1 = k then (kv.1, y) else kv) (xs.map (putAt (pk k) u)) := by
    clear hb
    induction r with
    | nil => exact .nil
    | @cons p q ps qs h t ih =>
      rw [List.map_cons, List.map_cons]
      refine .cons ?_ ih
      unfold putAt
      by_cases e : p.1 = k
      · rw [if_pos e, if_pos (h.1.symm.trans (congrArg pk e))]
        exact ⟨h.1, h.2.1, ry⟩
      · rw [if_neg e, if_neg (fun z => e (pk_inj (h.1.trans z)))]
        exact h
  have e : (kvs.any fun kv => decide (kv.1 = k)) = (atKey xs (pk k)).isSome := by
    rw [valV_any, (r.val k).isSome_eq, Option.isSome_map]
  unfold putK storedH
  rw [e]
  by_cases q : (atKey xs (pk k)).isSome = true
  · rw [if_pos q, if_pos q]
    exact rep
  · rw [if_neg q, if_neg q]
    exact Paired.snoc r ⟨rfl, hb, ry⟩
theorem KP.keeps {H H' : Hp} {kvs : List ((Node × Node) × V)} {xs : List (List Leaf × Addr × Value)} (r : KP H kvs xs) (ht : ∀ b ys, H b = some (.tup ys) → H' b = some (.tup ys)) : KP H' kvs xs :=
  Paired.mapP r fun _ _ z => ⟨z.1, ht _ _ z.2.1, z.2.2⟩
section
variable {P : Program} {w : World} {H H' : Hp} {h : Heap} {a b : Addr} {kvs : List ((Node × Node) × V)} {k : Node × Node}
theorem DP.tups (d : DP P w H a kvs) (e : H' a = H a) (ht : ∀ b ys, H b = some (.tup ys) → H' b = some (.tup ys)) : DP P w H' a kvs := by
  obtain ⟨es, h1, h2⟩ := d
  exact ⟨es, e.trans h1, Paired.mapP h2 fun p q z => ⟨z.1, z.2.1, ht _ _ z.2.2⟩⟩
theorem DP.same (d : DP P w H a kvs) (e : Same H H') : DP P w H' a kvs := by
  obtain ⟨es, h1, h2⟩ := d
  exact ⟨es, e _ _ h1, Paired.mapP h2 fun p q z => ⟨z.1, z.2.1, e _ _ z.2.2⟩⟩
theorem DP.there (d : DP P w H a kvs) : ∃ o, H a = some o ∧ Mut (some o) ∧ ∀ ys, o ≠ .tup ys := by
  obtain ⟨es, h1, _⟩ := d
  exact ⟨_, h1, True.intro, fun ys z => by unfold oP at z; cases z⟩
/-- all but c stays, and c is not the dict -/
theorem DP.but {c : Addr} (d : DP P w H a kvs) (hc : c ≠ a) (ht : ∀ ys, H c ≠ some (.tup ys)) (e : But c H H') : DP P w H' a kvs := by
  obtain ⟨es, h1, h2⟩ := d
  exact ⟨es, e _ _ hc.symm h1, Paired.mapP h2 fun p q z => ⟨z.1, z.2.1, e _ _ (fun y => ht _ (y ▸ z.2.2)) z.2.2⟩⟩
theorem pk_key (ok : HOk P w H h) (e : H b = some (.tup [nV k.1, nV k.2])) : (tupleKind (leafKind P w)).is h (pk k) b := by
  obtain ⟨_, its, r, o, h1, h2, n, h3⟩ := (show ObjOk P w H h b (.tup [nV k.1, nV k.2]) from ok b _ e)
  refine ⟨o, its.toArray, n, h1, h2, h3, ?_⟩
  cases r with
  | cons r1 t => cases t with
    | cons r2 t' =>
      cases t'
      exact .cons (lf_is r1) (.cons (lf_is r2) .nil)
theorem DP.heap (ok : HOk P w H h) (d : DP P w H a kvs) : kvs.length ≤ sizeLine ∧ (a == sysModules) = false ∧ ∃ xs, KP H kvs xs ∧ h.DictOfH (tupleKind (leafKind P w)) a xs := by
  obtain ⟨es, h1, h2⟩ := d
  obtain ⟨⟨z, hd, xs, r, o, ds, ep, e1, e2, e3, e4, e5⟩, g1, g2⟩ := (show ObjOk P w H h a (oP P w a es) from ok a _ h1)
  have rel : KP H kvs xs := by
    clear h1 z hd e4 e5 g1 g2
    induction h2 generalizing xs with
    | nil => cases r; exact .nil
    | cons p t ih => cases r with
      | cons q t' => exact .cons ⟨(congrArg pk p.1).trans q.1, q.2.1 ▸ p.2.2, p.2.1 ▸ q.2.2⟩ (ih _ t')
  refine ⟨by rw [Paired.length h2]; exact z, hd, xs, rel, o, ds, ep, e1, e2, e3, e4, fun x hx => ?_, e5⟩
  clear e4 e5 r h2
  induction rel with
  | nil => cases hx
  | @cons p q ps qs hp t ih =>
    rcases List.mem_cons.mp hx with e | hx
    · rw [e, ← hp.1]
      exact pk_key ok hp.2.1
    · exact ih hx
/-- what a dict's object is behind a store -/
theorem oP_of {xs : List (List Leaf × Addr × Value)} (z : kvs.length ≤ sizeLine) (hd : (a == sysModules) = false) (r : KP H kvs xs) (d : h.DictOfH (tupleKind (leafKind P w)) a xs) :
    ∃ es, ObjOk P w H' h a (oP P w a es) ∧ Paired (fun (p : (Node × Node) × V) (e : (Node × Node) × Addr × V) => p.1 = e.1 ∧ p.2 = e.2.2 ∧ H e.2.1 = some (.tup [nV p.1.1, nV p.1.2])) kvs es := by
  have mk : ∀ {kvs : List ((Node × Node) × V)} {xs : List (List Leaf × Addr × Value)}, KP H kvs xs → ∃ es : List ((Node × Node) × Addr × V),
      Paired (fun (p : (Node × Node) × Addr × V) (q : List Leaf × Addr × Value) => pk p.1 = q.1 ∧ p.2.1 = q.2.1 ∧ RelV p.2.2 q.2.2) es xs ∧
      Paired (fun (p : (Node × Node) × V) (e : (Node × Node) × Addr × V) => p.1 = e.1 ∧ p.2 = e.2.2 ∧ H e.2.1 = some (.tup [nV p.1.1, nV p.1.2])) kvs es := by
    intro kvs xs r
    induction r with
    | nil => exact ⟨[], .nil, .nil⟩
    | @cons p q ps qs hp t ih =>
      obtain ⟨es, i1, i2⟩ := ih
      exact ⟨(p.1, q.2.1, p.2) :: es, .cons ⟨hp.1, rfl, hp.2.2⟩ i1, .cons ⟨rfl, rfl, hp.2.1⟩ i2⟩
  obtain ⟨es, r1, r2⟩ := mk r
  obtain ⟨o, ds, ep, e1, e2, e3, e4, e5, e6⟩ := d
  refine ⟨es, ⟨⟨by rw [← Paired.length r2]; exact z, hd, xs, r1, o, ds, ep, e1, e2, e3, e4, e6⟩, ⟨o, e1⟩, fun h1 h2 ⟨z, hd, xs, r, o, ds, ep, e1, e2⟩ st => ⟨z, hd, xs, r, o, ds, ep, st _ e1, e2⟩⟩, r2⟩
end
section
variable {X : Cx} {pins : List (Addr × Obj)} {σ : L2.St} {H : Hp} {s : Shared} {A : Around} {E : Value → Shared → Prop} {a b : Addr} {kvs : List ((Node × Node) × V)} {k : Node × Node} {v : V} {u r : Value}
theorem p_type (I : Inv X pins σ H s) (d : DP X.prog X.w H a kvs) : s.TypeIs (.ref a) "dict" := by
  obtain ⟨_, _, xs, _, dd⟩ := d.heap I.hok
  exact dd.typeIs
theorem p_getItem {Q : Value → Shared → Prop} (hu : A.units + 1 < cLine) (I : Inv X pins σ H s) (d : DP X.prog X.w H a kvs) (hb : H b = some (.tup [nV k.1, nV k.2])) (hv : valV kvs k = some v) (h : ∀ z s', Inv X pins σ H s' → RelV v z → Q z s') :
    wpAny (model X.prog X.w) A (getItem (.ref a) (.ref b)) Q E s := by
  obtain ⟨_, hd, xs, rel, dd⟩ := d.heap I.hok
  have q := rel.val k
  rw [hv] at q
  obtain ⟨z, hz, rz⟩ := q.some_of
  obtain ⟨p, hp, hp2⟩ := Option.map_eq_some_iff.mp hz
  refine wpAny_getItem_heap (tupleKind_room_in1 hu) (pk_key I.hok hb) dd hp ?_
  rw [hp2]
  exact h z _ (I.tok _) rz
theorem p_in {Q : Value → Shared → Prop} (hu : A.units + 1 < cLine) (I : Inv X pins σ H s) (d : DP X.prog X.w H a kvs) (hb : H b = some (.tup [nV k.1, nV k.2])) (h : ∀ s', Inv X pins σ H s' → Q (.bool (valV kvs k).isSome) s') :
    wpAny (model X.prog X.w) A (compareOp .In (.ref b) (.ref a)) Q E s := by
  obtain ⟨_, hd, xs, rel, dd⟩ := d.heap I.hok
  refine wpAny_in_heap (tupleKind_room_in1 hu) (pk_key I.hok hb) hd dd ?_
  have q := (rel.val k).isSome_eq
  rw [Option.isSome_map] at q
  rw [← q]
  exact h _ (I.tok _)
theorem p_notIn {Q : Value → Shared → Prop} (hu : A.units + 1 < cLine) (I : Inv X pins σ H s) (d : DP X.prog X.w H a kvs) (hb : H b = some (.tup [nV k.1, nV k.2])) (h : ∀ s', Inv X pins σ H s' → Q (.bool (!(valV kvs k).isSome)) s') :
    wpAny (model X.prog X.w) A (compareOp .NotIn (.ref b) (.ref a)) Q E s := by
  obtain ⟨_, hd, xs, rel, dd⟩ := d.heap I.hok
  refine wpAny_notIn_heap (tupleKind_room_in1 hu) (pk_key I.hok hb) hd dd ?_
  have q := (rel.val k).isSome_eq
  rw [Option.isSome_map] at q
  rw [← q]
  exact h _ (I.tok _)
theorem p_get {Q : Value → Shared → Prop} (hu : A.units + 1 < cLine) (I : Inv X pins σ H s) (d : DP X.prog X.w H a kvs) (hb : H b = some (.tup [nV k.1, nV k.2])) (h : ∀ z s', Inv X pins σ H s' → RelV ((valV kvs k).getD .non) z → Q z s') :
    wpAny (model X.prog X.w) A (call (.builtin "dict.get") [.ref a, .ref b]) Q E s := by
  obtain ⟨_, hd, xs, rel, dd⟩ := d.heap I.hok
  exact call_meetsIn PySem.F.slot_dict_get dd.typeIs PySem.F.entry_dict_get (PySem.F.args_dict_get_2 _ _) (meetsH_dict_get (tupleKind (leafKind X.prog X.w)) a b hd) ⟨tupleKind_room_in1 hu, pk k, xs, pk_key I.hok hb, dd, h _ _ (I.tok _) ((rel.val k).getD rfl)⟩
/-- behind a store of the pair k -/
theorem p_after {xs : List (List Leaf × Addr × Value)} {h' : Heap} {t' : Nat} (I : Inv X pins σ H s) (d : DP X.prog X.w H a kvs) (hz : kvs.length < sizeLine) (hd : (a == sysModules) = false) (rel : KP H kvs xs) (hb : H b = some (.tup [nV k.1, nV k.2])) (rv : RelV v r)
    (dd' : h'.DictOfH (tupleKind (leafKind X.prog X.w)) a (storedH xs (pk k) b r)) (hs : Heap.SameBut a s.heap h') :
    ∃ H', Inv X pins σ H' { s with heap := h', toks := t' } ∧ DP X.prog X.w H' a (putK kvs k v) ∧ But a H H' ∧ (∀ c, c ≠ a → H' c = H c) := by
  have l := length_putK kvs k v
  obtain ⟨o0, e0, mu, nt⟩ := d.there
  obtain ⟨es, ok, r2⟩ := oP_of (H' := H) (P := X.prog) (w := X.w) (by omega : (putK kvs k v).length ≤ sizeLine) hd (rel.put k hb rv) dd'
  have ok' : ObjOk X.prog X.w (upd H a (oP X.prog X.w a es)) h' a (oP X.prog X.w a es) := ok
  have he : ∃ q, h'.get? a = some q := let ⟨q, _, _, hq, _⟩ := dd'; ⟨q, hq⟩
  refine ⟨upd H a (oP X.prog X.w a es), d_write I (by rw [e0]; exact mu) hs he ok', ⟨es, upd_same, Paired.mapP r2 fun p q z => ⟨z.1, z.2.1, ?_⟩⟩, But.upd, fun c hc => upd_ne hc⟩
  rw [upd_ne (fun y => nt _ (Option.some.inj (e0.symm.trans (y ▸ z.2.2))))]
  exact z.2.2
theorem p_setItem {Q : Unit → Shared → Prop} (hu : A.units + 1 < cLine) (I : Inv X pins σ H s) (d : DP X.prog X.w H a kvs) (hz : kvs.length < sizeLine) (hb : H b = some (.tup [nV k.1, nV k.2])) (rv : RelV v r)
    (h : ∀ H' s', Inv X pins σ H' s' → DP X.prog X.w H' a (putK kvs k v) → But a H H' → (∀ c, c ≠ a → H' c = H c) → Q () s') : wpAny (model X.prog X.w) A (setItem (.ref a) (.ref b) r) Q E s := by
  obtain ⟨z, hd, xs, rel, dd⟩ := d.heap I.hok
  refine wpAny_setItem_heap (hsz := by rw [← Paired.length rel]; exact z) (tupleKind_room_in1 hu) (pk_key I.hok hb) dd fun h' dd' hs => ?_
  obtain ⟨H', I', d', bt, rest⟩ := p_after I d hz hd rel hb rv dd' hs
  exact h H' _ I' d' bt rest
theorem p_dictSet {Q : Unit → Shared → Prop} (hu : A.units < cLine) (I : Inv X pins σ H s) (d : DP X.prog X.w H a kvs) (hz : kvs.length < sizeLine) (hb : H b = some (.tup [nV k.1, nV k.2])) (rv : RelV v r)
    (h : ∀ H' s', Inv X pins σ H' s' → DP X.prog X.w H' a (putK kvs k v) → But a H H' → (∀ c, c ≠ a → H' c = H c) → Q () s') : wpAny (model X.prog X.w) A (dictSet a (.ref b) r) Q E s := by
  obtain ⟨z, hd, xs, rel, dd⟩ := d.heap I.hok
  refine wpAny_dictSet_heap (hsz := by rw [← Paired.length rel]; exact z) hu (pk_key I.hok hb) dd fun h' dd' hs => ?_
  obtain ⟨H', I', d', bt, rest⟩ := p_after I d hz hd rel hb rv dd' hs
  exact h H' _ I' d' bt rest
/-- a new empty one -/
theorem oP_new (h : Heap) (hb : sysModules < h.objs.size) : ObjOk X.prog X.w H (h.push { cls := .type "dict", data := .dict #[] }) h.objs.size (oP X.prog X.w h.objs.size []) := by
  have e : (h.push ({ cls := .type "dict", data := .dict #[] } : Obj)).get? h.objs.size = some { cls := .type "dict", data := .dict #[] } := Heap.get?_push_size h rfl
  exact ⟨⟨Nat.zero_le _, beq_eq_false_iff_ne.mpr (Ne.symm (Nat.ne_of_lt hb)), [], .nil, _, #[], 0, e, ⟨rfl, rfl, rfl⟩, rfl, rfl, List.nodup_nil⟩, ⟨_, e⟩, fun h1 h2 ⟨z, hd, xs, r, o, ds, ep, e1, e2⟩ st => ⟨z, hd, xs, r, o, ds, ep, st _ e1, e2⟩⟩
theorem oN_new (h : Heap) (hb : sysModules < h.objs.size) : ObjOk X.prog X.w H (h.push { cls := .type "dict", data := .dict #[] }) h.objs.size (oN X.prog X.w h.objs.size []) :=
  oN_ok (Nat.zero_le _) (beq_eq_false_iff_ne.mpr (Ne.symm (Nat.ne_of_lt hb))) .nil (Heap.DictOf.new h)
end
/-- d[y]; y in d; y not in d; d.get(y); d[y] = v; {} -/
def tPGet (P : Program) (w : World) (td ty : TE) : TE := fun σ H Q => td σ H fun x H1 => ty σ H1 fun y H2 => ∃ a b kvs k v, x = .ref a ∧ y = .ref b ∧ DP P w H2 a kvs ∧ H2 b = some (.tup [nV k.1, nV k.2]) ∧ valV kvs k = some v ∧ Q v H2
def tPIn (P : Program) (w : World) (ty td : TE) : TE := fun σ H Q => ty σ H fun y H1 => td σ H1 fun x H2 => ∃ a b kvs k, x = .ref a ∧ y = .ref b ∧ DP P w H2 a kvs ∧ H2 b = some (.tup [nV k.1, nV k.2]) ∧ Q (.bl (valV kvs k).isSome) H2
def tPNotIn (P : Program) (w : World) (ty td : TE) : TE := fun σ H Q => ty σ H fun y H1 => td σ H1 fun x H2 => ∃ a b kvs k, x = .ref a ∧ y = .ref b ∧ DP P w H2 a kvs ∧ H2 b = some (.tup [nV k.1, nV k.2]) ∧ Q (.bl (!(valV kvs k).isSome)) H2
def tPGet1 (P : Program) (w : World) (td ty : TE) : TE := fun σ H Q => td σ H fun x H1 => ∃ a kvs, x = .ref a ∧ DP P w H1 a kvs ∧ ty σ H1 fun y H2 => ∃ b kvs k, y = .ref b ∧ DP P w H2 a kvs ∧ H2 b = some (.tup [nV k.1, nV k.2]) ∧ Q ((valV kvs k).getD .non) H2
def sPPut (P : Program) (w : World) (td ty tv : TE) : TS := fun D σ H => tv σ H fun v H1 => td σ H1 fun x H2 => ty σ H2 fun y H3 => ∃ a b kvs k, x = .ref a ∧ y = .ref b ∧ DP P w H3 a kvs ∧ H3 b = some (.tup [nV k.1, nV k.2]) ∧ kvs.length < sizeLine ∧
  ∀ H', DP P w H' a (putK kvs k v) → But a H3 H' → (∀ c, c ≠ a → H' c = H3 c) → D.nx σ H'
def tPNew (P : Program) (w : World) : TE := fun _ H Q => ∀ p, H p = none → Q (.ref p) (upd H p (oP P w p []))
theorem DP.nil {P : Program} {w : World} {H : Hp} {p : Addr} (h : H p = some (oP P w p [])) : DP P w H p [] := ⟨[], h, .nil⟩
section
variable {X : Cx} {o i value e : Expr} {pos pos' tpos apos cpos : Pos} {td ty tv : TE}
theorem pe_pget (hu : X.A.units + 1 < cLine) (ho : PE X o td) (hi : PE X i ty) (hs : NoSl i) : PE X (.Subscript o i pos) (tPGet X.prog X.w td ty) := by
  refine ⟨fun pins s σ H Q I h => ?_⟩
  refine subD_of PySem.F.slot_dict_getitem.lookup hs (thn (ho.run pins s σ H _ I h) fun u s1 ⟨x, H1, I1, rx, q1⟩ => thn (hi.run pins s1 σ H1 _ I1 q1) fun iv s2 ⟨y, H2, I2, ry, a, b, kvs, k, v, ex, ey, d, hb, hv, q2⟩ => ?_)
  subst ex ey
  cases rx
  cases ry
  exact ⟨p_type I2 d, p_getItem hu I2 d hb hv fun z s3 I3 rz => ⟨v, H2, I3, rz, q2⟩⟩
theorem pc_pin (hu : X.A.units + 1 < cLine) (hi : PE X i ty) (ho : PE X o td) : PC X .In i o (tPIn X.prog X.w ty td) := by
  refine ⟨fun pins s σ H Q I h => ?_⟩
  refine thn (hi.run pins s σ H _ I h) fun iv s1 ⟨y, H1, I1, ry, q1⟩ => thn (ho.run pins s1 σ H1 _ I1 q1) fun u s2 ⟨x, H2, I2, rx, a, b, kvs, k, ex, ey, d, hb, q2⟩ => ?_
  subst ex ey
  cases rx
  cases ry
  exact p_in hu I2 d hb fun s3 I3 => ⟨.bl (valV kvs k).isSome, H2, I3, rfl, q2⟩
theorem pc_pnotin (hu : X.A.units + 1 < cLine) (hi : PE X i ty) (ho : PE X o td) : PC X .NotIn i o (tPNotIn X.prog X.w ty td) := by
  refine ⟨fun pins s σ H Q I h => ?_⟩
  refine thn (hi.run pins s σ H _ I h) fun iv s1 ⟨y, H1, I1, ry, q1⟩ => thn (ho.run pins s1 σ H1 _ I1 q1) fun u s2 ⟨x, H2, I2, rx, a, b, kvs, k, ex, ey, d, hb, q2⟩ => ?_
  subst ex ey
  cases rx
  cases ry
  exact p_notIn hu I2 d hb fun s3 I3 => ⟨.bl (!(valV kvs k).isSome), H2, I3, rfl, q2⟩
theorem ps_pput (hu : X.A.units + 1 < cLine) (ho : PE X o td) (hi : PE X i ty) (hv : PE X value tv) (hs : swapsWith value (some (.Subscript o i pos')) pos.line X.env = pure false) :
    PS X (.Assign [.Subscript o i pos'] value pos) (sPPut X.prog X.w td ty tv) := by
  refine ⟨fun pins s σ H D I h => ?_⟩
  refine wpAny_Assign_Subscript (thn (hv.run pins s σ H _ I h) fun r s1 ⟨v, H1, I1, rv, q1⟩ => thn (ho.run pins s1 σ H1 _ I1 q1) fun u s2 ⟨x, H2, I2, rx, q2⟩ => thn (hi.run pins s2 σ H2 _ I2 q2) fun iv s3 ⟨y, H3, I3, ry, a, b, kvs, k, ex, ey, d, hb, hz, q3⟩ => ?_) hs
  subst ex ey
  cases rx
  cases ry
  exact p_setItem hu I3 d hz hb rv fun H' s4 I4 d' bt rest => ⟨σ, H', I4, q3 H' d' bt rest⟩
theorem pe_pget1 (hu : X.A.units + 1 < cLine) (ho : PE X o td) (he : PE X e ty) (m : M1 X o "get" apos e cpos) : PE X (.Call (.Attribute o "get" apos) [e] [] cpos) (tPGet1 X.prog X.w td ty) := by
  refine ⟨fun pins s σ H Q I h => ?_⟩
  refine wpAny_Call_method m.base m.few m.line PySem.F.plainAttrs_dict PySem.F.slot_dict_get PySem.F.type_dict_get (thn (ho.run pins s σ H _ I h) fun u s1 ⟨x, H1, I1, rx, a, kvs, ex, d, q1⟩ => ?_)
  subst ex
  cases rx
  refine ⟨p_type I1 d, fun b q => ?_, ?_⟩
  · cases q
    obtain ⟨_, _, xs, _, ob, _, _, h1, h2, _⟩ := d.heap I1.hok
    exact ⟨ob, h1, h2.2.1⟩
  · rw [m.trees]
    refine Calls.callWith_builtin rfl (Calls.evalArgs_plain (Calls.spliced_cons (thn (he.run pins s1 σ H1 _ I1 q1) fun iv s2 ⟨y, H2, I2, ry, b, kvs2, k, ey, d2, hb, q2⟩ => Calls.spliced_nil ?_)))
    subst ey
    cases ry
    exact p_get hu I2 d2 hb fun z s3 I3 rz => ⟨_, H2, I3, rz, q2⟩
theorem pe_pnew : PE X (.Dict [] [] pos) (tPNew X.prog X.w) := ⟨fun pins s σ H Q I h =>
  wpAny_Dict_empty ⟨.ref s.heap.objs.size, _, I.laid (a := s.heap.objs.size) (o := oP X.prog X.w s.heap.objs.size []) (t' := s.toks) (fun _ _ q => Heap.get?_push_of_some _ q) (Nat.le_refl _) (oP_new s.heap I.big), rfl, h _ (I.hok.fresh (Nat.le_refl _))⟩⟩
end
end Pk
end
section
namespace Pk
open PySem PySem.Spec PyProof.Rows L2
/-- what the walks know of the module: built-ins that nobody hides, constants, the two classes -/
structure Ws (K : PySem.W.Frag) (mg : Str → Option Value) (CP CT : Addr) : Prop where
  f_isinstance : mg "isinstance" = none
  f_int : mg "int" = none
  f_bool : mg "bool" = none
  f_str : mg "str" = none
  f_list : mg "list" = none
  f_tuple : mg "tuple" = none
  f_dict : mg "dict" = none
  f_len : mg "len" = none
  f_all : mg "all" = none
  f_enumerate : mg "enumerate" = none
  f_range : mg "range" = none
  f_max : mg "max" = none
  f_min : mg "min" = none
  f_sorted : mg "sorted" = none
  c_LETTERS : ∃ u, mg "LETTERS" = some u ∧ RelV (.str "abcdefghijklmnopqrstuvwxyz") u
  c_MOST_LETTERS : ∃ u, mg "MOST_LETTERS" = some u ∧ RelV (.int 8) u
  c_MOST_EVENTS : ∃ u, mg "MOST_EVENTS" = some u ∧ RelV (.int 8) u
  c_MOST_TIES : ∃ u, mg "MOST_TIES" = some u ∧ RelV (.int 60) u
  c_HOLD : ∃ u, mg "HOLD" = some u ∧ RelV (.str "limit") u
  c_TIE : ∃ u, mg "TIE" = some u ∧ RelV (.str "tie") u
  c_NONE : ∃ u, mg "NONE" = some u ∧ RelV (.str "none") u
  c_MOST_LOGS : ∃ u, mg "MOST_LOGS" = some u ∧ RelV (.int 80) u
  c_MOST_IN_LOG : ∃ u, mg "MOST_IN_LOG" = some u ∧ RelV (.int 200) u
  g_Plan : mg "Plan" = some (.ref CP)
  g_Table : mg "Table" = some (.ref CT)
  c_Plan : ∃ u, mg "Plan" = some u ∧ RelV (.ref CP) u
  cl_Plan : Cls K CP
  cl_Table : Cls K CT
  i_Plan : C8.InsC K CP
  n_own_events : NoAttr K CP "own_events"
  n_own_ties : NoAttr K CP "own_ties"
  n_own_limits : NoAttr K CP "own_limits"
  n_row_of_events : NoAttr K CT "row_of_events"
  n_leads : NoAttr K CT "leads"
  n_steps : NoAttr K CT "steps"
end Pk
end
section
set_option maxHeartbeats 4000000
/-! Walks over anything that has n items: loops, list and dict comprehensions. -/
namespace Pk
open PySem PySem.Spec PyProof.Rows L2
/-- J has n turns while Ok holds; turn i gives x and leaves H', as gv says -/
structure Wk (J : It) (n : Nat) (Ok : Hp → Prop) (gv : Nat → V → Hp → Hp → Prop) : Prop where
  go : ∀ i H, i < n → Ok H → J.go i H
  stop : ∀ H, Ok H → J.stop n H
  yld : ∀ i x H H', i < n → Ok H → J.yld i H x H' → gv i x H H'
theorem wk_list {K : PySem.W.Frag} {a : Addr} {xs : List V} : Wk (Itl K a) xs.length (fun H => SqL K H a xs) fun i x H H' => H' = H ∧ xs[i]? = some x where
  go i H hi q := ⟨xs, xs[i], q, by simp [hi]⟩
  stop H q := ⟨xs, q, Nat.le_refl _⟩
  yld i x H H' hi q y := ⟨y.1, y.2 xs q⟩
theorem wk_enum {K : PySem.W.Frag} {a : Addr} {xs : List V} : Wk (Ite K a) xs.length (fun H => SqL K H a xs) fun i v H H' => ∃ T x, v = .ref T ∧ H T = none ∧ H' = upd H T (.tup [.int (i : Nat), x]) ∧ xs[i]? = some x where
  go i H hi q := ⟨xs, xs[i], q, by simp [hi]⟩
  stop H q := ⟨xs, q, Nat.le_refl _⟩
  yld i v H H' hi q y := let ⟨T, x, a, b, c, d⟩ := y; ⟨T, x, a, b, c, d xs q⟩
theorem wk_rng {lo : Int} {n : Nat} : Wk (Itr lo n) n (fun _ => True) fun i x H H' => H' = H ∧ x = .int (lo + i) where
  go i H hi q := hi
  stop H q := Nat.le_refl n
  yld i x H H' hi q y := y
theorem wk_rngc {lo c : Int} {n : Nat} : Wk (Itc lo c n) n (fun _ => True) fun i x H H' => H' = H ∧ x = .int (lo + (i : Nat) * c) where
  go i H hi q := hi
  stop H q := Nat.le_refl n
  yld i x H H' hi q y := y
theorem wk_str {z : Str} : Wk (Its z) z.cps.size (fun _ => True) fun i v H H' => H' = H ∧ ∃ c, z.cps[i]? = some c ∧ v = .str ⟨#[c]⟩ where
  go i H hi q := hi
  stop H q := Nat.le_refl _
  yld i x H H' hi q y := y
theorem wk_keys {d : Addr} {o : Obj} {kvs : List (Key × V)} : Wk (Itk d o kvs) kvs.length (fun H => H d = some (.frz o (.dK kvs))) fun i x H H' => H' = H ∧ ∃ k v, kvs[i]? = some (k, v) ∧ x = kV k where
  go i H hi q := ⟨q, hi⟩
  stop H q := ⟨q, Nat.le_refl _⟩
  yld i x H H' hi q y := y
theorem wk_items {d : Addr} {o : Obj} {kvs : List (Key × V)} : Wk (Iti d o kvs) kvs.length (fun H => H d = some (.frz o (.dK kvs))) fun i x H H' => ∃ T k v, kvs[i]? = some (k, v) ∧ x = .ref T ∧ H T = none ∧ H' = upd H T (.tup [kV k, v]) where
  go i H hi q := ⟨q, hi⟩
  stop H q := ⟨q, Nat.le_refl _⟩
  yld i x H H' hi q y := y
section
variable {J : It} {n : Nat} {Ok : Hp → Prop} {gv : Nat → V → Hp → Hp → Prop} {g : TG}
theorem for_it {tb : TS} {D : Ends} {σ : L2.St} {H : Hp} (k : Wk J n Ok gv) (Pv : Nat → L2.St → Hp → Prop) (h0 : Pv 0 σ H) (hok : ∀ i σ H, i ≤ n → Pv i σ H → Ok H)
    (hs : ∀ i x σ H H', i < n → Pv i σ H → gv i x H H' → g x σ H' fun σ2 H2 => tb { D with nx := Pv (i + 1), ct := Pv (i + 1), bk := D.nx } σ2 H2) (hd : ∀ σ H, Pv n σ H → D.nx σ H) :
    ∃ W : Nat → Nat → L2.St → Hp → Prop, (∃ m, W 0 m σ H) ∧ ∀ i m σ H, W i m σ H →
      (J.stop i H ∧ D.nx σ H) ∨ (J.go i H ∧ ∃ N : L2.St → Hp → Prop, (∀ σ' H', N σ' H' → ∃ m', m' < m ∧ W (i + 1) m' σ' H') ∧ ∀ x H', J.yld i H x H' → g x σ H' fun σ2 H2 => tb { D with nx := N, ct := N, bk := D.nx } σ2 H2) := by
  refine ⟨fun i m σ H => (m = n - i ∧ i ≤ n) ∧ Pv i σ H, ⟨n, ⟨rfl, Nat.zero_le _⟩, h0⟩, ?_⟩
  intro i m σ H hw
  obtain ⟨⟨e, hi⟩, p⟩ := hw
  have ok := hok i σ H hi p
  rcases Nat.lt_or_ge i n with hlt | hge
  · exact .inr ⟨k.go i H hlt ok, Pv (i + 1), fun σ' H' p' => ⟨n - (i + 1), by omega, ⟨rfl, hlt⟩, p'⟩, fun x H' y => hs i x σ H H' hlt p (k.yld i x H H' hlt ok y)⟩
  · have e : i = n := Nat.le_antisymm hi hge
    subst e
    exact .inl ⟨k.stop H ok, hd σ H p⟩
theorem lc_it {tt : TT} {te : TE} {vs : List Nat} {σ : L2.St} {H1 : Hp} {D : Addr} {Qd : Hp → Prop} (k : Wk J n Ok gv) (Pv : Nat → Hp → Prop) (h0 : Pv 0 (upd H1 D (.lst []))) (hok : ∀ i H, i ≤ n → Pv i H → Ok H)
    (hs : ∀ i x H H', i < n → Pv i H → gv i x H H' → g x (wipe σ vs) H' fun σ2 H2 => wipe σ2 vs = wipe σ vs ∧ tt σ2 H2 fun b H3 =>
      if b = true then te σ2 H3 fun y H4 => ∃ acc, H4 D = some (.lst acc) ∧ acc.length < sizeLine ∧ Pv (i + 1) (upd H4 D (.lst (acc ++ [y]))) else Pv (i + 1) H3) (hd : ∀ H, Pv n H → Qd H) :
    ∃ W : Nat → Nat → Hp → Prop, (∃ m, W 0 m (upd H1 D (.lst []))) ∧ ∀ i m H, W i m H →
      (J.stop i H ∧ Qd H) ∨ (J.go i H ∧ ∃ Nx : Hp → Prop, (∀ H', Nx H' → ∃ m', m' < m ∧ W (i + 1) m' H') ∧ ∀ x H', J.yld i H x H' → g x (wipe σ vs) H' fun σ2 H2 => wipe σ2 vs = wipe σ vs ∧ tt σ2 H2 fun b H3 =>
        if b = true then te σ2 H3 fun y H4 => ∃ acc, H4 D = some (.lst acc) ∧ acc.length < sizeLine ∧ Nx (upd H4 D (.lst (acc ++ [y]))) else Nx H3) := by
  refine ⟨fun i m H => (m = n - i ∧ i ≤ n) ∧ Pv i H, ⟨n, ⟨rfl, Nat.zero_le _⟩, h0⟩, ?_⟩
  intro i m H hw
  obtain ⟨⟨e, hi⟩, p⟩ := hw
  have ok := hok i H hi p
  rcases Nat.lt_or_ge i n with hlt | hge
  · exact .inr ⟨k.go i H hlt ok, Pv (i + 1), fun H' p' => ⟨n - (i + 1), by omega, ⟨rfl, hlt⟩, p'⟩, fun x H' y => hs i x H H' hlt p (k.yld i x H H' hlt ok y)⟩
  · have e : i = n := Nat.le_antisymm hi hge
    subst e
    exact .inl ⟨k.stop H ok, hd H p⟩
theorem dc_it {tt : TT} {tk tv : TE} {vs : List Nat} {σ : L2.St} {H1 : Hp} {D : Addr} {Qd : Hp → Prop} (k : Wk J n Ok gv) (Pv : Nat → Hp → Prop) (h0 : Pv 0 (upd H1 D (.dK []))) (hok : ∀ i H, i ≤ n → Pv i H → Ok H)
    (hs : ∀ i x H H', i < n → Pv i H → gv i x H H' → g x (wipe σ vs) H' fun σ2 H2 => wipe σ2 vs = wipe σ vs ∧ tt σ2 H2 fun b H3 =>
      if b = true then tk σ2 H3 fun y H4 => tv σ2 H4 fun z H5 => ∃ kvs k, y = kV k ∧ H5 D = some (.dK kvs) ∧ kvs.length < sizeLine ∧ Pv (i + 1) (upd H5 D (.dK (putK kvs k z))) else Pv (i + 1) H3) (hd : ∀ H, Pv n H → Qd H) :
    ∃ W : Nat → Nat → Hp → Prop, (∃ m, W 0 m (upd H1 D (.dK []))) ∧ ∀ i m H, W i m H →
      (J.stop i H ∧ Qd H) ∨ (J.go i H ∧ ∃ Nx : Hp → Prop, (∀ H', Nx H' → ∃ m', m' < m ∧ W (i + 1) m' H') ∧ ∀ x H', J.yld i H x H' → g x (wipe σ vs) H' fun σ2 H2 => wipe σ2 vs = wipe σ vs ∧ tt σ2 H2 fun b H3 =>
        if b = true then tk σ2 H3 fun y H4 => tv σ2 H4 fun z H5 => ∃ kvs k, y = kV k ∧ H5 D = some (.dK kvs) ∧ kvs.length < sizeLine ∧ Nx (upd H5 D (.dK (putK kvs k z))) else Nx H3) := by
  refine ⟨fun i m H => (m = n - i ∧ i ≤ n) ∧ Pv i H, ⟨n, ⟨rfl, Nat.zero_le _⟩, h0⟩, ?_⟩
  intro i m H hw
  obtain ⟨⟨e, hi⟩, p⟩ := hw
  have ok := hok i H hi p
  rcases Nat.lt_or_ge i n with hlt | hge
  · exact .inr ⟨k.go i H hlt ok, Pv (i + 1), fun H' p' => ⟨n - (i + 1), by omega, ⟨rfl, hlt⟩, p'⟩, fun x H' y => hs i x H H' hlt p (k.yld i x H H' hlt ok y)⟩
  · have e : i = n := Nat.le_antisymm hi hge
    subst e
    exact .inl ⟨k.stop H ok, hd H p⟩
end
theorem it_gen {J : It} {n : Nat} {Ok : Hp → Prop} {gv : Nat → V → Hp → Hp → Prop} {H1 : Hp} {Qd : Hp → Prop} {B : V → Hp → (Hp → Prop) → Prop} (k : Wk J n Ok gv) (Pv : Nat → Hp → Prop) (h0 : Pv 0 H1) (hok : ∀ i H, i ≤ n → Pv i H → Ok H)
    (hs : ∀ i x H H', i < n → Pv i H → gv i x H H' → B x H' (Pv (i + 1))) (hd : ∀ H, Pv n H → Qd H) :
    ∃ W : Nat → Nat → Hp → Prop, (∃ m, W 0 m H1) ∧ ∀ i m H, W i m H → (J.stop i H ∧ Qd H) ∨ (J.go i H ∧ ∃ Nx : Hp → Prop, (∀ H', Nx H' → ∃ m', m' < m ∧ W (i + 1) m' H') ∧ ∀ x H', J.yld i H x H' → B x H' Nx) := by
  refine ⟨fun i m H => (m = n - i ∧ i ≤ n) ∧ Pv i H, ⟨n, ⟨rfl, Nat.zero_le _⟩, h0⟩, ?_⟩
  intro i m H hw
  obtain ⟨⟨e, hi⟩, p⟩ := hw
  have ok := hok i H hi p
  rcases Nat.lt_or_ge i n with hlt | hge
  · exact .inr ⟨k.go i H hlt ok, Pv (i + 1), fun H' p' => ⟨n - (i + 1), by omega, ⟨rfl, hlt⟩, p'⟩, fun x H' y => hs i x H H' hlt p (k.yld i x H H' hlt ok y)⟩
  · have e : i = n := Nat.le_antisymm hi hge
    subst e
    exact .inl ⟨k.stop H ok, hd H p⟩
/-! ### small things -/
theorem sq {K : PySem.W.Frag} {H : Hp} {a : Addr} {xs : List V} (h : H a = some (.lst xs)) : SqL K H a xs := .inl (.inl h)
theorem st {K : PySem.W.Frag} {H : Hp} {a : Addr} {xs : List V} (h : H a = some (.tup xs)) : SqT K H a xs := .inl (.inl h)
theorem Same.trans {H H1 H2 : Hp} (a : Same H H1) (b : Same H1 H2) : Same H H2 := fun x o h => b x o (a x o h)
theorem Same.refl (H : Hp) : Same H H := fun _ _ h => h
theorem Same.new {H H' : Hp} {p : Addr} {o : HO} (e : Same H H') (h : H' p = none) : Same H (upd H' p o) := Same.trans e (same_new h)
theorem Same.free {H H' : Hp} {p : Addr} (e : Same H H') (h : H' p = none) : H p = none := by
  cases q : H p with
  | none => rfl
  | some o =>
    rw [e p o q] at h
    cases h
theorem sz_le {n : Nat} (h : n ≤ 100000) : n ≤ sizeLine := Nat.le_trans h (by decide)
theorem sz_lt {n : Nat} (h : n < 100000) : n < sizeLine := Nat.lt_of_lt_of_le h (by decide)
theorem flat_strs : ∀ xs : List Str, (xs.map V.str).all flatV = true
  | [] => rfl
  | x :: xs => by
    rw [List.map_cons, List.all_cons, flat_strs xs]
    rfl
theorem inV_strs (x : Str) : ∀ xs : List Str, inV (.str x) (xs.map V.str) = decide (x ∈ xs)
  | [] => by simp [inV]
  | y :: xs => by
    have ih := inV_strs x xs
    unfold inV at ih ⊢
    rw [List.map_cons, List.any_cons, ih]
    have e : eqV (.str y) (.str x) = decide (y = x) := by
      show (y == x) = decide (y = x)
      first | rfl | exact beq_eq_decide
    rw [e]
    by_cases h : y = x
    · subst h; simp
    · have h' : ¬ x = y := fun z => h z.symm
      simp [h, h']
theorem bT {p : Prop} [Decidable p] (h : p) : V.bl (decide p) = .bl true := by rw [decide_eq_true h]
theorem bF {p : Prop} [Decidable p] (h : ¬ p) : V.bl (decide p) = .bl false := by rw [decide_eq_false h]
theorem iT {p : Prop} [Decidable p] {A B : Prop} (h : p) (a : A) : if p then A else B := by rw [if_pos h]; exact a
theorem iF {p : Prop} [Decidable p] {A B : Prop} (h : ¬ p) (a : B) : if p then A else B := by rw [if_neg h]; exact a
abbrev abc : Str := "abcdefghijklmnopqrstuvwxyz"
/-- a name -/
def NameOk (x : Str) : Prop := 1 ≤ x.length ∧ x.length ≤ 8 ∧ ∀ c ∈ x.cps.toList, c ∈ abc.cps.toList
/-- a list of events at a -/
structure EvAt (H : Hp) (a : Addr) (ev : List Str) : Prop where
  at_ : H a = some (.lst (ev.map V.str))
  ne : ev ≠ []
  le : ev.length ≤ 8
  nd : ev.Nodup
  nm : ∀ x ∈ ev, NameOk x
theorem EvAt.same {H H' : Hp} {a : Addr} {ev : List Str} (e : EvAt H a ev) (s : Same H H') : EvAt H' a ev := ⟨s _ _ e.at_, e.ne, e.le, e.nd, e.nm⟩
/-! ### rules whose reading names the facts K, for blocks of comprehensions -/
section
variable {X : Cx} {K : PySem.W.Frag}
theorem in_seqK (e : X.K = K := by rfl) : OpR X (compareOp .In) (rIn K false) := e ▸ op_in_seq
theorem notIn_seqK (e : X.K = K := by rfl) : OpR X (compareOp .NotIn) (rIn K true) := e ▸ op_notIn_seq
theorem ix_listK (e : X.K = K := by rfl) : IxR X (rIxL K) := e ▸ ix_list
theorem ix_tupK (e : X.K = K := by rfl) : IxR X (rIxT K) := e ▸ ix_tup
theorem len_seqK (e : X.K = K := by rfl) : CallR X (.builtin "len") (fun xs H Q => ∃ p ys, xs = [.ref p] ∧ (SqL K H p ys ∨ SqT K H p ys) ∧ Q (.int ys.length) H) := e ▸ call_len_seq
theorem pi_listK {tg l : Expr} {tl : TE} (hl : PE X l tl) (e : X.K = K := by rfl) : PI X tg l (iList K tl) := e ▸ pi_list hl
theorem pg_tupK {es : List Expr} {k : Nat} {t : TGs} {n : Nat} {pos : Pos} (h : PGs X es t) (hc : X.calm = true := by rfl) (hn : (assignEach es X.env).length = n := by rfl) (hst : (assignEach es X.env).findIdx? (·.1) = none := by rfl) (e : X.K = K := by rfl) :
    PG X (.Tuple es k pos) (gTup K n t) := e ▸ pg_tup hc h hn hst
end
end Pk
end
section
set_option maxHeartbeats 4000000
/-! Lists of pairs as dicts; plans on the heap. -/
namespace Pk
open PySem PySem.Spec PyProof.Rows L2
theorem cut_take (xs : List V) (i : Nat) (h : i ≤ xs.length) : cutV xs none (some (i : Int)) = xs.take i := by
  unfold cutV
  rw [HT.sIx_none, HT.sIx_nat, Nat.min_eq_left h, Nat.sub_zero, List.drop_zero]
theorem not_take {α : Type} {xs : List α} {i : Nat} {x : α} (nd : xs.Nodup) (h : xs[i]? = some x) : x ∉ xs.take i := by
  intro hm
  obtain ⟨hi, e⟩ := List.getElem?_eq_some_iff.mp h
  obtain ⟨j, hj, e2⟩ := List.mem_take_iff_getElem.mp hm
  have hj' : j < i := by omega
  exact (List.pairwise_iff_getElem.mp nd) j i (by omega) hi hj' (by rw [e2, e])
theorem nodup_len {α : Type} [DecidableEq α] {l l' : List α} (nd : l.Nodup) (h : ∀ x ∈ l, x ∈ l') : l.length ≤ l'.length := by
  induction l generalizing l' with
  | nil => exact Nat.zero_le _
  | cons a l ih =>
    rw [List.nodup_cons] at nd
    have ha := h a (List.mem_cons_self ..)
    have := ih (l' := l'.erase a) nd.2 fun x hx => by
      have hne : x ≠ a := fun z => by
        rw [z] at hx
        exact nd.1 hx
      rw [List.mem_erase_of_ne hne]
      exact h x (List.mem_cons_of_mem _ hx)
    rw [List.length_erase_of_mem ha] at this
    have : 0 < l'.length := List.length_pos_of_mem ha
    simp only [List.length_cons]
    omega
/-! ### lists of pairs -/
section
variable {α β : Type} [DecidableEq α]
def lk (ls : List (α × β)) (x : α) : Option β := (ls.find? fun p => decide (p.1 = x)).map (·.2)
def pt (ls : List (α × β)) (x : α) (v : β) : List (α × β) := if (ls.any fun p => decide (p.1 = x)) = true then ls.map (fun p => if p.1 = x then (p.1, v) else p) else ls ++ [(x, v)]
theorem lk_nil (x : α) : lk ([] : List (α × β)) x = none := rfl
theorem lk_cons (p : α × β) (ls : List (α × β)) (x : α) : lk (p :: ls) x = if p.1 = x then some p.2 else lk ls x := by
  unfold lk
  rw [List.find?_cons]
  by_cases e : p.1 = x
  · rw [decide_eq_true e, if_pos e]; rfl
  · rw [decide_eq_false e, if_neg e]
theorem lk_any (x : α) : ∀ ls : List (α × β), (ls.any fun p => decide (p.1 = x)) = (lk ls x).isSome
  | [] => rfl
  | p :: ls => by
    rw [List.any_cons, lk_any x ls, lk_cons]
    by_cases e : p.1 = x
    · rw [decide_eq_true e, if_pos e]; rfl
    · rw [decide_eq_false e, if_neg e]; rfl
theorem lk_mem {ls : List (α × β)} {x : α} {v : β} (h : lk ls x = some v) : (x, v) ∈ ls := by
  unfold lk at h
  obtain ⟨p, hp, e⟩ := Option.map_eq_some_iff.mp h
  have h1 := List.find?_some hp
  have h2 := List.mem_of_find?_eq_some hp
  have e1 : p.1 = x := of_decide_eq_true h1
  rw [← e1, ← e]
  exact h2
theorem lk_none {ls : List (α × β)} {x : α} : lk ls x = none ↔ x ∉ ls.map (·.1) := by
  induction ls with
  | nil => simp [lk]
  | cons p ls ih =>
    rw [lk_cons, List.map_cons, List.mem_cons]
    by_cases e : p.1 = x
    · simp [e]
    · have e' : ¬ x = p.1 := fun z => e z.symm
      simp only [if_neg e, ih, e', false_or]
theorem lk_of {ls : List (α × β)} {x : α} {v : β} (nd : (ls.map (·.1)).Nodup) (h : (x, v) ∈ ls) : lk ls x = some v := by
  induction ls with
  | nil => cases h
  | cons p ls ih =>
    rw [List.map_cons, List.nodup_cons] at nd
    rw [lk_cons]
    rcases List.mem_cons.mp h with e | h
    · rw [← e, if_pos rfl]
    · rw [if_neg, ih nd.2 h]
      intro z
      exact nd.1 (List.mem_map.mpr ⟨(x, v), h, z.symm⟩)
theorem lk_map (x y : α) (v : β) : ∀ ls : List (α × β), lk (ls.map fun p => if p.1 = x then (p.1, v) else p) y = (lk ls y).map fun u => if y = x then v else u
  | [] => rfl
  | p :: ls => by
    rw [List.map_cons, lk_cons, lk_cons, lk_map x y v ls]
    by_cases e : p.1 = x
    · rw [if_pos e]
      by_cases e2 : p.1 = y
      · rw [if_pos e2, if_pos e2]
        have : y = x := e2.symm.trans e
        simp [this]
      · rw [if_neg e2, if_neg e2]
    · rw [if_neg e]
      by_cases e2 : p.1 = y
      · rw [if_pos e2, if_pos e2]
        have : ¬ y = x := fun z => e (e2.trans z)
        simp [this]
      · rw [if_neg e2, if_neg e2]
theorem lk_append (ls ms : List (α × β)) (y : α) : lk (ls ++ ms) y = (lk ls y).orElse fun _ => lk ms y := by
  induction ls with
  | nil => rfl
  | cons p ls ih =>
    rw [List.cons_append, lk_cons, lk_cons, ih]
    by_cases e : p.1 = y
    · rw [if_pos e, if_pos e]; rfl
    · rw [if_neg e, if_neg e]
theorem lk_pt (ls : List (α × β)) (x y : α) (v : β) : lk (pt ls x v) y = if y = x then some v else lk ls y := by
  unfold pt
  by_cases h : (ls.any fun p => decide (p.1 = x)) = true
  · rw [if_pos h, lk_map]
    rw [lk_any] at h
    by_cases e : y = x
    · subst e
      obtain ⟨u, hu⟩ := Option.isSome_iff_exists.mp h
      simp [hu]
    · simp [e]
  · rw [if_neg h, lk_append]
    rw [lk_any] at h
    have hn : lk ls x = none := by
      cases q : lk ls x with
      | none => rfl
      | some u => rw [q] at h; exact absurd rfl h
    by_cases e : y = x
    · subst e
      rw [hn, if_pos rfl, lk_cons, if_pos rfl]; rfl
    · have e' : ¬ x = y := fun z => e z.symm
      rw [if_neg e, lk_cons, if_neg e', lk_nil]
      cases lk ls y <;> rfl
theorem pt_keys (ls : List (α × β)) (x : α) (v : β) : (pt ls x v).map (·.1) = if x ∈ ls.map (·.1) then ls.map (·.1) else ls.map (·.1) ++ [x] := by
  unfold pt
  rw [lk_any]
  have e0 : (lk ls x).isSome = true ↔ x ∈ ls.map (·.1) := by
    have := lk_none (ls := ls) (x := x)
    cases q : lk ls x with
    | none => rw [q] at this; simp [this.mp rfl]
    | some u =>
      rw [q] at this
      have h : x ∈ ls.map (·.1) := Classical.not_not.mp fun z => nomatch this.mpr z
      exact iff_of_true rfl h
  by_cases h : x ∈ ls.map (·.1)
  · rw [if_pos (e0.mpr h), if_pos h, List.map_map]
    apply List.map_congr_left
    intro p _
    show (if p.1 = x then (p.1, v) else p).1 = p.1
    split <;> rfl
  · rw [if_neg (fun z => h (e0.mp z)), if_neg h, List.map_append]
    rfl
theorem pt_new {ls : List (α × β)} {x : α} (v : β) (h : x ∉ ls.map (·.1)) : pt ls x v = ls ++ [(x, v)] := by
  unfold pt
  rw [lk_any, lk_none.mpr h]
  rfl
theorem pt_nodup {ls : List (α × β)} {x : α} {v : β} (h : (ls.map (·.1)).Nodup) : ((pt ls x v).map (·.1)).Nodup := by
  rw [pt_keys]
  split
  · exact h
  · rename_i hx
    rw [List.nodup_append]
    exact ⟨h, by simp, fun a ha b hb => by
      have e : b = x := by simpa using hb
      rw [e]
      exact fun z => hx (z ▸ ha)⟩
end
/-- a dict with texts as keys -/
def kv {β : Type} (f : β → V) (ls : List (Str × β)) : List (Key × V) := ls.map fun p => (Sum.inr p.1, f p.2)
theorem kv_len {β : Type} (f : β → V) (ls : List (Str × β)) : (kv f ls).length = ls.length := List.length_map ..
theorem kv_val {β : Type} (f : β → V) (x : Str) : ∀ ls : List (Str × β), valV (kv f ls) (Sum.inr x) = (lk ls x).map f
  | [] => rfl
  | p :: ls => by
    show valV ((Sum.inr p.1, f p.2) :: kv f ls) (Sum.inr x) = _
    rw [lk_cons]
    by_cases e : p.1 = x
    · rw [valV_pos (by rw [e]), if_pos e]; rfl
    · rw [valV_neg (fun z => e (Sum.inr.inj z)), if_neg e]
      exact kv_val f x ls
theorem kv_put {β : Type} (f : β → V) (ls : List (Str × β)) (x : Str) (v : β) : putK (kv f ls) (Sum.inr x) (f v) = kv f (pt ls x v) := by
  unfold putK pt
  rw [valV_any, lk_any, kv_val]
  have e : ((lk ls x).map f).isSome = (lk ls x).isSome := by cases lk ls x <;> rfl
  rw [e]
  by_cases h : (lk ls x).isSome = true
  · rw [if_pos h, if_pos h]
    unfold kv
    rw [List.map_map, List.map_map]
    apply List.map_congr_left
    intro p _
    show (if (Sum.inr p.1 : Key) = Sum.inr x then ((Sum.inr p.1 : Key), f v) else (Sum.inr p.1, f p.2)) = (Sum.inr (if p.1 = x then (p.1, v) else p).1, f (if p.1 = x then (p.1, v) else p).2)
    by_cases e : p.1 = x
    · rw [if_pos e, if_pos (by rw [e])]
    · rw [if_neg e, if_neg (fun z => e (Sum.inr.inj z))]
  · rw [if_neg h, if_neg h]
    unfold kv
    rw [List.map_append]
    rfl
theorem kv_at {β : Type} (f : β → V) {ls : List (Str × β)} {i : Nat} {k : Key} {v : V} (h : (kv f ls)[i]? = some (k, v)) : ∃ p, ls[i]? = some p ∧ k = Sum.inr p.1 ∧ v = f p.2 := by
  unfold kv at h
  rw [List.getElem?_map] at h
  obtain ⟨p, hp, e⟩ := Option.map_eq_some_iff.mp h
  cases e
  exact ⟨p, hp, rfl, rfl⟩
/-! ### unlocking -/
theorem Same.unlock {H H' : Hp} {b : Addr} {o : Obj} {u : HO} (h : H b = some u) (s : Same (upd H b (.frz o u)) H') : Same H (upd H' b u) := fun c v e => by
  by_cases z : c = b
  · subst z
    rw [upd_same]
    rw [h] at e
    exact e
  · rw [upd_ne z]
    exact s c v (by rw [upd_ne z]; exact e)
theorem Same.lock {H : Hp} {b c : Addr} {o : Obj} {u v : HO} (n : c ≠ b) (h : H c = some v) : (upd H b (.frz o u)) c = some v := by rw [upd_ne n]; exact h
/-! ### plans on the heap -/
/-- a tie: the later event's count never above the earlier's by more than the lag -/
abbrev Tie := Str × Str × Int
def TiesAt (H : Hp) (a : Addr) (ts : List Tie) : Prop := ∃ as, H a = some (.lst (as.map V.ref)) ∧ Paired (fun p (t : Tie) => H p = some (.tup [.str t.1, .str t.2.1, .int t.2.2])) as ts
theorem TiesAt.same {H H' : Hp} {a : Addr} {ts : List Tie} (h : TiesAt H a ts) (s : Same H H') : TiesAt H' a ts :=
  let ⟨as, h1, h2⟩ := h
  ⟨as, s _ _ h1, Paired.mapP h2 fun _ _ z => s _ _ z⟩
/-- a plan's data -/
structure PD where
  ev : List Str
  ties : List Tie
  ls : List (Str × Int)
def PD.pl (D : PD) : Pu.Pl Str := ⟨D.ev, D.ties, lk D.ls⟩
structure PdOk (D : PD) : Prop where
  ne : D.ev ≠ []
  le : D.ev.length ≤ 8
  nd : D.ev.Nodup
  nm : ∀ x ∈ D.ev, NameOk x
  tle : D.ties.length ≤ 60
  ends : ∀ t ∈ D.ties, t.1 ∈ D.ev ∧ t.2.1 ∈ D.ev ∧ 0 ≤ t.2.2
  lnd : (D.ls.map (·.1)).Nodup
  lin : ∀ p ∈ D.ls, p.1 ∈ D.ev ∧ 0 ≤ p.2
  ac : Pu.Acyc D.ties
theorem PdOk.wf {D : PD} (h : PdOk D) : Pu.WF D.pl := ⟨h.ends, fun x m e => h.lin (x, m) (lk_mem e)⟩
def LimAt (H : Hp) (a : Addr) (ls : List (Str × Int)) : Prop := H a = some (.dK (kv V.int ls))
theorem lim_len {ev : List Str} {ls : List (Str × Int)} (nd : (ls.map (·.1)).Nodup) (h : ∀ p ∈ ls, p.1 ∈ ev) : ls.length ≤ ev.length := by
  have := nodup_len nd (l' := ev) fun x hx => by
    obtain ⟨p, hp, e⟩ := List.mem_map.mp hx
    rw [← e]
    exact h p hp
  rwa [List.length_map] at this
/-- a list of texts at a -/
def SqL' (H : Hp) (a : Addr) (ev : List Str) : Prop := H a = some (.lst (ev.map V.str))
theorem paired_get {α β : Type} {R : α → β → Prop} : ∀ {xs : List α} {ys : List β} {i : Nat} {x : α}, Paired R xs ys → xs[i]? = some x → ∃ y, ys[i]? = some y ∧ R x y
  | _, _, _, _, .nil, e => by simp at e
  | _, _, 0, _, .cons r _, e => by simp at e; subst e; exact ⟨_, rfl, r⟩
  | _, _, i + 1, x, .cons _ t, e => by
    obtain ⟨u, h1, h2⟩ := paired_get (i := i) (x := x) t (by simpa using e)
    exact ⟨u, by simpa using h1, h2⟩
end Pk
end
section
set_option maxHeartbeats 4000000
/-! Dict comprehensions of one clause and of two, into a dict of any kind: mk, the new dict; R, what a store asks. -/
namespace Pk
open PySem PySem.Spec PyProof.Rows L2
abbrev StR := Addr → V → V → Hp → (Hp → Prop) → Prop
/-- mk and R serve the program P -/
structure Srv (P : Program) (w : World) (mk : Addr → HO) (R : StR) : Prop where
  new : ∀ (H : Hp) (h : Heap), sysModules < h.objs.size → ObjOk P w H (h.push { cls := .type "dict", data := .dict #[] }) h.objs.size (mk h.objs.size)
  put : ∀ (Y : Cx) (pins : List (Addr × Obj)) (σ : L2.St) (H : Hp) (s : Shared) (D : Addr) (y z : V) (u r : Value) (E : Value → Shared → Prop) (Nx : Hp → Prop), Y.prog = P → Y.w = w → Y.A.units < cLine → Inv Y pins σ H s → RelV y u → RelV z r → R D y z H Nx →
    wpAny (model Y.prog Y.w) Y.A (dictSet D u r) (fun _ s' => ∃ H', Inv Y pins σ H' s' ∧ Nx H') E s
/-- nodes as keys; pairs of nodes as keys -/
def RN (P : Program) (w : World) : StR := fun D y z H Nx => ∃ kvs k, y = nV k ∧ H D = some (oN P w D kvs) ∧ kvs.length < sizeLine ∧ Nx (upd H D (oN P w D (putK kvs k z)))
def RP (P : Program) (w : World) : StR := fun D y z H Nx => ∃ b kvs k, y = .ref b ∧ DP P w H D kvs ∧ H b = some (.tup [nV k.1, nV k.2]) ∧ kvs.length < sizeLine ∧ ∀ H', DP P w H' D (putK kvs k z) → But D H H' → (∀ c, c ≠ D → H' c = H c) → Nx H'
theorem srvN (P : Program) (w : World) : Srv P w (fun D => oN P w D []) (RN P w) where
  new H h hb := oN_ok (Nat.zero_le _) (beq_eq_false_iff_ne.mpr (Ne.symm (Nat.ne_of_lt hb))) .nil (Heap.DictOf.new h)
  put Y pins σ H s D y z u r E Nx hP hw hu I ry rz h := by
    subst hP hw
    obtain ⟨kvs, k, rfl, e, hz, q⟩ := h
    exact n_dictSet I e hz ry rz fun s' I' => ⟨_, I', q⟩
theorem srvP (P : Program) (w : World) : Srv P w (fun D => oP P w D []) (RP P w) where
  new H h hb := by
    have e : (h.push ({ cls := .type "dict", data := .dict #[] } : Obj)).get? h.objs.size = some { cls := .type "dict", data := .dict #[] } := Heap.get?_push_size h rfl
    exact ⟨⟨Nat.zero_le _, beq_eq_false_iff_ne.mpr (Ne.symm (Nat.ne_of_lt hb)), [], .nil, _, #[], 0, e, ⟨rfl, rfl, rfl⟩, rfl, rfl, List.nodup_nil⟩, ⟨_, e⟩, fun h1 h2 ⟨z, hd, xs, r, o, ds, ep, e1, e2⟩ st => ⟨z, hd, xs, r, o, ds, ep, st _ e1, e2⟩⟩
  put Y pins σ H s D y z u r E Nx hP hw hu I ry rz h := by
    subst hP hw
    obtain ⟨b, kvs, k, rfl, d, hb, hz, q⟩ := h
    cases ry
    exact p_dictSet hu I d hz hb rz fun H' s' I' d' bt rest => ⟨H', I', q H' d' bt rest⟩

/-! ### the comprehension's block, opened -/
abbrev Dcx (kx vx : Expr) (gs : List Comprehension) (scope : Scope) (pos : Pos) : Expr := .DictComp kx vx gs scope pos
section
variable {X : Cx} {pins : List (Addr × Obj)} {s : Shared} {σ : L2.St} {H : Hp} {kx vx tg iter : Expr} {ifs : List Expr} {gs : List Comprehension} {scope : Scope} {own : List (Str × Nat)} {pos pos' : Pos} {wi : TI} {use : Option (Value → Sem Unit)} {Qf : Value → Shared → Prop} {mk : Addr → HO}
/-- what the loop of the first clause starts from -/
structure Opn (X : Cx) (pins : List (Addr × Obj)) (σ : L2.St) (scope : Scope) (own : List (Str × Nat)) (tg : Expr) (mk : Addr → HO) (D it : Addr) (fp : List Addr) (tn : Nat → Heap → Prop) (J : It) (G : Hp) (z : Shared) (ce : Env) (z4 : Shared) : Prop where
  walk : Turn X.prog X.w X.K tg J fp it tn
  blk : Inv (X.blk z G scope ce fp) [] (wipe σ (own.map (·.2))) G z4
  at0 : tn 0 z4.heap
  no : ∀ b ∈ fp, G b = none
  env : ∃ cl, ce = compEnvC scope cl z.heap.objs.size X.env
  back : ∀ (σ' : L2.St) (G' : Hp) (z' : Shared), Inv (X.blk z G scope ce fp) [] σ' G' z' → Inv X pins σ G' z' ∧ (∃ m, z'.heap.Ns z.heap.objs.size m) ∧ FpOk X pins G' z.heap.objs.size
theorem dict_open (hN : X.N.Nodup) (I : Inv X pins σ H s) (hi : PI X tg iter wi) (ok : BlkOk X.N X.env.scope scope own) (hs : ∀ x, foldedSetIterable iter X.env x = pure x)
    (hmk : ∀ (H : Hp) (h : Heap), sysModules < h.objs.size → ObjOk X.prog X.w H (h.push { cls := .type "dict", data := .dict #[] }) h.objs.size (mk h.objs.size)) {R : It → Hp → Prop} (h : wi σ H R)
    (go : ∀ (D it : Addr) (fp : List Addr) (tn : Nat → Heap → Prop) (J : It) (G : Hp) (z : Shared) (ce : Env) (z4 : Shared), R J G → G D = none → Opn X pins σ scope own tg mk D it fp tn J (upd G D (mk D)) z ce z4 →
      codeAny (model X.prog X.w) X.A (.compLoop (.DictComp kx vx (⟨tg, iter, ifs, 0⟩ :: gs) scope pos) 0 (.ref it) (.ref D) ce) (compPost (model X.prog X.w) X.A X.xe use Qf (.ref D) z.heap.objs.size) z4) :
    wpAny (model X.prog X.w) X.A (comprehension (.DictComp kx vx (⟨tg, iter, ifs, 0⟩ :: gs) scope pos) scope X.env pos' newDict false (eval iter X.env) use) Qf X.xe s := by
  have cells : ∀ y ∈ scope.names, y.2 = .free → ∃ c, X.env.cells.lookup y.1 = some c := fun y hy e =>
    (ok.free y hy e).elim (fun k => I.ok.has _ (.inl k)) fun k => I.ok.has _ (.inr k)
  refine wpAny_comprehension_free (use := use) rfl hs (closure_ok cells) ok.kind (fun y hy e => (ok.uniq y hy).trans (congrArg some e)) ?_
  refine thn (hi.run pins s σ H _ I h) fun _ z1 hx => thn hx fun _ z2 hz2 => ?_
  obtain ⟨it, fp, tn, J, G, rfl, I2, T, at2, fr2, q⟩ := hz2
  refine wpAny_newObj_type (newEnv_comp ?_)
  -- the dict's place
  have hDn : G z2.heap.objs.size = none := I2.hok.fresh (Nat.le_refl _)
  obtain ⟨z, hz⟩ : ∃ z : Shared, z = { z2 with heap := z2.heap.push { cls := .type "dict", data := .dict #[] } } := ⟨_, rfl⟩
  have hzh : z.heap = z2.heap.push { cls := .type "dict", data := .dict #[] } := by rw [hz]
  have I3 : Inv X pins σ (upd G z2.heap.objs.size (mk z2.heap.objs.size)) z := by
    rw [hz]
    exact I2.laid (t' := z2.toks) (fun _ _ e => Heap.get?_push_of_some _ e) (Nat.le_refl _) (hmk _ z2.heap I2.big)
  have low : ∀ b ∈ fp, b < z2.heap.objs.size := fun b hb => let ⟨_, e, _⟩ := T.obj _ _ at2 b hb; Heap.lt_size e
  have fr3 : ∀ b ∈ fp, FpOk X pins (upd G z2.heap.objs.size (mk z2.heap.objs.size)) b ∧ b < z.heap.objs.size := fun b hb =>
    ⟨⟨(upd_ne (Nat.ne_of_lt (low b hb))).trans (fr2 b hb).1, (fr2 b hb).2⟩, by rw [hzh, Heap.size_push]; exact Nat.lt_succ_of_lt (low b hb)⟩
  have at3 : tn 0 z.heap := T.keep _ _ _ at2 fun b _ o e => by rw [hzh]; exact Heap.get?_push_of_some _ e
  have B := block_start I3 ok hN fr3
  have back : ∀ (σ' : L2.St) (G' : Hp) (z' : Shared), Inv (X.blk z (upd G z2.heap.objs.size (mk z2.heap.objs.size)) scope (compEnvC scope (cellsFrom (z.heap.objs.size + 1) scope.names (cloFrom X.env.cells scope.names [])) z.heap.objs.size X.env) fp) [] σ' G' z' →
      Inv X pins σ G' z' ∧ (∃ m, z'.heap.Ns z.heap.objs.size m) ∧ FpOk X pins G' z.heap.objs.size := fun σ' G' z' I' => by
    have free : G' z.heap.objs.size = none := I'.free
    obtain ⟨m, ns, _⟩ := I'.loc
    refine ⟨I3.call' (ch := fp) I'.os I'.base I'.hok I'.bare fun b hb => ?_, ⟨m, ns⟩, I3.fpOk (Nat.le_refl _) free⟩
    obtain ⟨⟨_, f1, f2, f3, f4, f5⟩, _⟩ := fr3 b hb
    exact ⟨f3, f1, f4, f5⟩
  have L := go z2.heap.objs.size it fp tn J G z (compEnvC scope (cellsFrom (z.heap.objs.size + 1) scope.names (cloFrom X.env.cells scope.names [])) z.heap.objs.size X.env)
    { z with heap := pushCells (z.heap.push { cls := .type "dict", data := .dict #[] }) scope.names } q hDn
    ⟨T, B, T.keep _ _ _ at3 fun b _ o e => pushCells_keeps _ _ _ _ (Heap.get?_push_of_some _ e), fun b hb => (fr3 b hb).1.1, ⟨_, rfl⟩, back⟩
  have at4 : tn 0 (pushCells (z.heap.push { cls := .type "dict", data := .dict #[] }) scope.names) := T.keep _ _ _ at3 fun b _ o e => pushCells_keeps _ _ _ _ (Heap.get?_push_of_some _ e)
  have fin := codeAny_compStart_dict L (T.self X.A 0 _ _ _ at4 L)
  rw [hz] at fin
  rw [← hz] at fin
  subst hz
  exact fin
/-! ### as a value, as what a name gets -/
/-- what the comprehension gives, whatever is done with it -/
def Giv (X : Cx) (kx vx : Expr) (gens : List Comprehension) (scope : Scope) (pos : Pos) (iter : Expr) (t : TE) : Prop :=
  ∀ (pins : List (Addr × Obj)) (s : Shared) (σ : L2.St) (H : Hp) (Q : VK) (use : Option (Value → Sem Unit)) (Qf : Value → Shared → Prop) (pos' : Pos), Inv X pins σ H s → t σ H Q →
    (∀ D C s' m H', Inv X pins σ H' s' → Q (.ref D) H' → s'.heap.Ns C m → FpOk X pins H' C → compPost (model X.prog X.w) X.A X.xe use Qf (.ref D) C (.ok .next) s') →
    wpAny (model X.prog X.w) X.A (comprehension (.DictComp kx vx gens scope pos) scope X.env pos' newDict false (eval iter X.env) use) Qf X.xe s
theorem giv_pe {gens : List Comprehension} {t : TE} (h : Giv X kx vx (⟨tg, iter, ifs, 0⟩ :: gens) scope pos iter t) : PE X (.DictComp kx vx (⟨tg, iter, ifs, 0⟩ :: gens) scope pos) t := by
  refine ⟨fun pins s σ H Q I q => ?_⟩
  rw [arm_eval_DictComp]
  refine h pins s σ H Q none _ _ I q fun D C s' m H' I' q' hn f => ⟨m, hn, fun h'' sb => ?_⟩
  obtain ⟨e0, e1, e2, e3, e4, e5⟩ := f
  exact ⟨.ref D, H', I'.turned (t' := s'.toks) (fun b o hb e => (sb.2 b hb).trans e) e0 e1 e3 e4 e5, rfl, q'⟩
theorem giv_set {gens : List Comprehension} {t : TE} {i : Nat} {y : Str} {py spos : Pos} (h : Giv X kx vx (⟨tg, iter, ifs, 0⟩ :: gens) scope pos iter t) (hN : X.N.Nodup) (hy : X.N[i]? = some y) (hyl : X.env.scope.names.lookup y = some .local)
    (hsw : swapsWith (.DictComp kx vx (⟨tg, iter, ifs, 0⟩ :: gens) scope pos) (some (.Name y py)) spos.line X.env = pure true) : PS X (.Assign [.Name y py] (.DictComp kx vx (⟨tg, iter, ifs, 0⟩ :: gens) scope pos) spos) (tAsg t (gName i)) := by
  refine ⟨fun pins s σ H D I q => ?_⟩
  rw [exec_Assign_Name_used _ _ _ _ hsw]
  refine wpAny_bind (wpAny_standAt (wpAny_bind ?_))
  show wpAny _ X.A (do let _ ← comprehension (.DictComp kx vx (⟨tg, iter, ifs, 0⟩ :: gens) scope pos) scope X.env (firstIterPos (⟨tg, iter, ifs, 0⟩ :: gens) pos) newDict false (eval iter X.env) (some (assign (.Name y py) X.env))) _ _ s
  refine wpAny_bind (thn (h pins s σ H (fun x H1 => gName i x σ H1 D.nx) _ (fun _ z => SP X pins D .next z) _ I q fun L C z m G I' q' hn f => ?_) fun _ z hq => wpAny_pure (wpAny_pure hq))
  show wpAny _ _ (assign (.Name y py) X.env (.ref L)) _ _ _
  refine wpAny_assign_Name (store_ok2 (v := V.ref L) I' hN hy (.inl hyl) rfl (fun z2 I2 ⟨a, sb, ha⟩ => ?_) (.inr hyl))
  obtain ⟨e0, e1, e2, e3, e4, e5⟩ := f
  have away : C ≠ a := ha.elim (fun z => by rw [z]; exact e1) fun z e => e4 y a z e.symm
  exact ⟨m, hn.sameBut sb away, fun h3 sb3 => ⟨_, G, I2.turned (t' := z2.toks) (fun b o hb e => (sb3.2 b hb).trans e) e0 e1 e3 e4 e5, q'⟩⟩
theorem swap_dict {gens : List Comprehension} {y : Str} {py : Pos} {l : Nat} {env : Env} (hk : env.scope.kind = .function) (hy : env.scope.names.lookup y = some .local) (hl : (py.line == pos.line) = true)
    (ha : (scope.names.any fun (n, k) => n == y && (k == .local || k == .cell)) = false) : swapsWith (.DictComp kx vx gens scope pos) (some (.Name y py)) l env = pure true := by
  have k1 : env.kindOf y = some .local := hy
  have k2 : env.blockKind = .function := by unfold Env.blockKind; rw [hk]; rfl
  unfold swapsWith
  simp only [k2, k1, ha, Expr.pos, hl]
  rfl
/-- the library's dict comprehension of text keys, given to a name -/
theorem giv_dK {g : TG} {tt : TT} {tk tv : TE} (hc : X.calm = true) (hN : X.N.Nodup) (hi : PI X tg iter wi) (ok : BlkOk X.N X.env.scope scope own)
    (hg : ∀ (s : Shared) (H : Hp) (C : Addr) (cl : List (Str × Addr)) (fp : List Addr), PG (X.blk s H scope (compEnvC scope cl C X.env) fp) tg g)
    (ht : ∀ (s : Shared) (H : Hp) (C : Addr) (cl : List (Str × Addr)) (fp : List Addr), PTs (X.blk s H scope (compEnvC scope cl C X.env) fp) ifs tt)
    (hk : ∀ (s : Shared) (H : Hp) (C : Addr) (cl : List (Str × Addr)) (fp : List Addr), PE (X.blk s H scope (compEnvC scope cl C X.env) fp) kx tk)
    (he : ∀ (s : Shared) (H : Hp) (C : Addr) (cl : List (Str × Addr)) (fp : List Addr), PE (X.blk s H scope (compEnvC scope cl C X.env) fp) vx tv) (hs : ∀ x, foldedSetIterable iter X.env x = pure x := by intro _; rfl) :
    Giv X kx vx [⟨tg, iter, ifs, 0⟩] scope pos iter (tDc wi g tt tk tv (own.map (·.2))) := fun pins s σ H Q use Qf pos' I q hRR => dc_core hc hN I hi ok hg ht hk he hs q hRR
/-! ### one clause -/
def tDcG (mk : Addr → HO) (R : StR) (wi : TI) (g : TG) (tt : TT) (tk tv : TE) (vs : List Nat) : TE := fun σ H Q => wi σ H fun J H1 => ∀ D, H1 D = none → ∃ W : Nat → Nat → Hp → Prop, (∃ m, W 0 m (upd H1 D (mk D))) ∧ ∀ i m H, W i m H →
  (J.stop i H ∧ Q (.ref D) H) ∨ (J.go i H ∧ ∃ Nx : Hp → Prop, (∀ H', Nx H' → ∃ m', m' < m ∧ W (i + 1) m' H') ∧ ∀ x H', J.yld i H x H' → g x (wipe σ vs) H' fun σ2 H2 => wipe σ2 vs = wipe σ vs ∧ tt σ2 H2 fun b H3 =>
    if b = true then tk σ2 H3 fun y H4 => tv σ2 H4 fun z H5 => R D y z H5 Nx else Nx H3)
/-- the slots that a block knows at a turn's start are known still -/
theorem weak_wipe {σ σ2 : L2.St} {vs : List Nat} (e : wipe σ2 vs = wipe σ vs) : (wipe σ vs).length = σ2.length ∧ ∀ (j : Nat) v, (wipe σ vs)[j]? = some (some v) → σ2[j]? = some (some v) :=
  ⟨by rw [← e, wipe_length], fun j v q => (wipe_some (e.symm ▸ q)).1⟩
theorem giv_dcG {R : StR} {g : TG} {tt : TT} {tk tv : TE} {P : Program} {w : World} (srv : Srv P w mk R) (hP : X.prog = P) (hw : X.w = w) (hu : X.A.units < cLine) (hc : X.calm = true) (hN : X.N.Nodup) (hi : PI X tg iter wi) (ok : BlkOk X.N X.env.scope scope own)
    (hg : ∀ (s : Shared) (H : Hp) (C : Addr) (cl : List (Str × Addr)) (fp : List Addr), PG (X.blk s H scope (compEnvC scope cl C X.env) fp) tg g)
    (ht : ∀ (s : Shared) (H : Hp) (C : Addr) (cl : List (Str × Addr)) (fp : List Addr), PTs (X.blk s H scope (compEnvC scope cl C X.env) fp) ifs tt)
    (hk : ∀ (s : Shared) (H : Hp) (C : Addr) (cl : List (Str × Addr)) (fp : List Addr), PE (X.blk s H scope (compEnvC scope cl C X.env) fp) kx tk)
    (he : ∀ (s : Shared) (H : Hp) (C : Addr) (cl : List (Str × Addr)) (fp : List Addr), PE (X.blk s H scope (compEnvC scope cl C X.env) fp) vx tv) (hs : ∀ x, foldedSetIterable iter X.env x = pure x := by intro _; rfl) :
    Giv X kx vx [⟨tg, iter, ifs, 0⟩] scope pos iter (tDcG mk R wi g tt tk tv (own.map (·.2))) := by
  subst hP hw
  intro pins s σ H Q use Qf pos' I h hRR
  refine dict_open (mk := mk) hN I hi ok hs srv.new h fun D it fp tn J G z ce z4 q hD O => ?_
  obtain ⟨W, ⟨m0, w0⟩, turn⟩ := q D hD
  obtain ⟨T, blk, at0, no, ⟨cl, hce⟩, back⟩ := O
  have pg := hg z (upd G D (mk D)) z.heap.objs.size cl fp
  have pt := ht z (upd G D (mk D)) z.heap.objs.size cl fp
  have pk := hk z (upd G D (mk D)) z.heap.objs.size cl fp
  have pe := he z (upd G D (mk D)) z.heap.objs.size cl fp
  rw [← hce] at pg pt pk pe
  have own_ : ∀ {σ' : L2.St} {G' : Hp} {z' : Shared}, Inv (X.blk z (upd G D (mk D)) scope ce fp) [] σ' G' z' → (∀ b ∈ fp, G' b = none) → ∀ b ∈ fp, FpOk (X.blk z (upd G D (mk D)) scope ce fp) [] G' b := fun I' hn b hb =>
    ⟨hn b hb, (I'.ok.exf b hb).1, I'.ok.exfs b hb, .inl hb, fun x c e => (I'.ok.exf b hb).2 x c e, fun _ hp => nomatch (show _ ∈ ([] : List (Addr × Obj)) from hp)⟩
  refine compLoop_anyD (fun n z' => ∃ i G', Inv (X.blk z (upd G D (mk D)) scope ce fp) [] (wipe σ (own.map (·.2))) G' z' ∧ tn i z'.heap ∧ (∀ b ∈ fp, G' b = none) ∧ W i n G') ?_ m0 ⟨0, _, blk, at0, no, w0⟩
  rintro n z5 ⟨i, G5, I5, at5, no5, w5⟩
  rcases turn i n G5 w5 with ⟨stop, qq⟩ | ⟨go, Nx, hNx, step⟩
  · refine thnF (T.done (X.blk z (upd G D (mk D)) scope ce fp) rfl rfl rfl hc i [] z5 _ G5 (fun _ _ => False) I5 (own_ I5 no5) at5 stop) fun r z6 ⟨hr, I6⟩ => ?_
    subst hr
    obtain ⟨I7, ⟨m, ns⟩, fo⟩ := back _ _ _ I6
    exact hRR D _ z6 m G5 I7 qq ns fo
  · refine thnF (T.item (X.blk z (upd G D (mk D)) scope ce fp) rfl rfl rfl hc i [] z5 _ G5 (fun _ _ => False) I5 (own_ I5 no5) at5 go) fun r z6 ⟨u, hr, h6⟩ => ?_
    subst hr
    refine thnF h6 fun _ z7 ⟨x, G7, I7, r7, y7, at7, no7⟩ => ?_
    refine thnF (pg.run _ z7 _ G7 x u _ (I7.pinned (own_ I7 no7) (T.obj _ _ at7)) r7 (step x G7 y7)) fun _ z8 ⟨σ8, G8, I8, hw8, q8⟩ => ?_
    refine thnF (pt.run _ z8 σ8 G8 _ I8 q8) fun b z9 ⟨G9, I9, q9⟩ => ?_
    have fin : ∀ {z' : Shared} {G' : Hp}, Inv (X.blk z (upd G D (mk D)) scope ce fp) ([] ++ pinsAt fp z7.heap) σ8 G' z' → Nx G' →
        ∃ m, m < n ∧ ∃ i G', Inv (X.blk z (upd G D (mk D)) scope ce fp) [] (wipe σ (own.map (·.2))) G' z' ∧ tn i z'.heap ∧ (∀ b ∈ fp, G' b = none) ∧ W i m G' := fun {z' G'} I' nx => by
      obtain ⟨m', hm, w'⟩ := hNx G' nx
      have pin' : ∀ b ∈ fp, ∀ o, z7.heap.get? b = some o → z'.heap.get? b = some o ∧ G' b = none := fun b hb o e =>
        have a := I'.pin (b, o) (List.mem_append_right _ (List.mem_append_right _ (mem_pinsAt hb e)))
        ⟨a.1, a.2.1⟩
      obtain ⟨l8, k8⟩ := weak_wipe hw8
      refine ⟨m', hm, i + 1, G', (I'.unpinned (pins := [])).weak l8 k8, T.keep _ _ _ at7 fun b hb o e => (pin' b hb o e).1, fun b hb => ?_, w'⟩
      obtain ⟨o, e, _⟩ := T.obj _ _ at7 b hb
      exact (pin' b hb o e).2
    cases b with
    | false => exact fin I9 q9
    | true =>
      refine thnF (pk.run _ z9 σ8 G9 _ I9 q9) fun _ z10 ⟨yk, G10, I10, r10, q10⟩ => ?_
      refine thnF (pe.run _ z10 σ8 G10 _ I10 q10) fun _ z11 ⟨yv, G11, I11, r11, nx⟩ => ?_
      exact wpAny_mono (srv.put (X.blk z (upd G D (mk D)) scope ce fp) _ σ8 G11 z11 D yk yv _ _ _ Nx rfl rfl hu I11 r10 r11 nx) (fun _ z12 ⟨G12, I12, n12⟩ => fin I12 n12) fun _ _ e => e
/-- turns of such a comprehension -/
theorem dcG_it {J : It} {n : Nat} {Ok : Hp → Prop} {gv : Nat → V → Hp → Hp → Prop} {R : StR} {g : TG} {tt : TT} {tk tv : TE} {vs : List Nat} {H1 : Hp} {D : Addr} {Qd : Hp → Prop} {e0 : HO} (k : Wk J n Ok gv) (Pv : Nat → Hp → Prop) (h0 : Pv 0 (upd H1 D e0)) (hok : ∀ i H, i ≤ n → Pv i H → Ok H)
    (hs : ∀ i x H H', i < n → Pv i H → gv i x H H' → g x (wipe σ vs) H' fun σ2 H2 => wipe σ2 vs = wipe σ vs ∧ tt σ2 H2 fun b H3 =>
      if b = true then tk σ2 H3 fun y H4 => tv σ2 H4 fun z H5 => R D y z H5 (Pv (i + 1)) else Pv (i + 1) H3) (hd : ∀ H, Pv n H → Qd H) :
    ∃ W : Nat → Nat → Hp → Prop, (∃ m, W 0 m (upd H1 D e0)) ∧ ∀ i m H, W i m H →
      (J.stop i H ∧ Qd H) ∨ (J.go i H ∧ ∃ Nx : Hp → Prop, (∀ H', Nx H' → ∃ m', m' < m ∧ W (i + 1) m' H') ∧ ∀ x H', J.yld i H x H' → g x (wipe σ vs) H' fun σ2 H2 => wipe σ2 vs = wipe σ vs ∧ tt σ2 H2 fun b H3 =>
        if b = true then tk σ2 H3 fun y H4 => tv σ2 H4 fun z H5 => R D y z H5 Nx else Nx H3) := by
  refine ⟨fun i m H => (m = n - i ∧ i ≤ n) ∧ Pv i H, ⟨n, ⟨rfl, Nat.zero_le _⟩, h0⟩, ?_⟩
  intro i m H hw
  obtain ⟨⟨e, hi⟩, p⟩ := hw
  have ok := hok i H hi p
  rcases Nat.lt_or_ge i n with hlt | hge
  · exact .inr ⟨k.go i H hlt ok, Pv (i + 1), fun H' p' => ⟨n - (i + 1), by omega, ⟨rfl, hlt⟩, p'⟩, fun x H' y => hs i x H H' hlt p (k.yld i x H H' hlt ok y)⟩
  · have e : i = n := Nat.le_antisymm hi hge
    subst e
    exact .inl ⟨k.stop H ok, hd H p⟩
end
end Pk
end
section
set_option maxHeartbeats 4000000
/-! Dict comprehensions of two clauses. -/
namespace Pk
open PySem PySem.Spec PyProof.Rows L2
section
variable {P : Program} {w : World} {A : Around} {R : Result → Shared → Prop} {kx vx t0 i0 t1 i1 : Expr} {f0 f1 : List Expr} {scope : Scope} {pos : Pos} {it : Value} {D : Addr} {env : Env}
theorem turn_out (kx vx t0 i0 t1 i1 : Expr) (f0 f1 : List Expr) (scope : Scope) (pos : Pos) (it acc : Value) (env : Env) :
    compTurn (.DictComp kx vx [⟨t0, i0, f0, 0⟩, ⟨t1, i1, f1, 0⟩] scope pos) 0 it acc env = (do
      standAt i0.pos
      match ← pyNext it with
      | none => pure (.done .next)
      | some v =>
        letOwnedTupleGo t0 it v
        assign t0 env v
        let mut good := true
        for c in f0 do
          if good then good ← isTrue c env (eval c env)
        if good then
          let y ← eval i1 env
          standAt i1.pos
          let y ← foldedSetIterable i1 env y
          let _ ← runOwn (.compStart (.DictComp kx vx [⟨t0, i0, f0, 0⟩, ⟨t1, i1, f1, 0⟩] scope pos) 1 (← holding [y] (pyIter y)) acc env) env
        again (.compLoop (.DictComp kx vx [⟨t0, i0, f0, 0⟩, ⟨t1, i1, f1, 0⟩] scope pos) 0 it acc env)) := by rfl
theorem turn_in (kx vx t0 i0 t1 i1 : Expr) (f0 f1 : List Expr) (scope : Scope) (pos : Pos) (it : Value) (D : Addr) (env : Env) :
    compTurn (.DictComp kx vx [⟨t0, i0, f0, 0⟩, ⟨t1, i1, f1, 0⟩] scope pos) 1 it (.ref D) env = (do
      standAt i1.pos
      match ← pyNext it with
      | none => pure (.done .next)
      | some v =>
        letOwnedTupleGo t1 it v
        assign t1 env v
        let mut good := true
        for c in f1 do
          if good then good ← isTrue c env (eval c env)
        if good then
          (do
            let a ← eval kx env
            let b ← holding [a] (eval vx env)
            standAt { kx.pos with endLine := vx.pos.endLine, endCol := vx.pos.endCol }
            holding [a, b] (dictSet D a b))
        again (.compLoop (.DictComp kx vx [⟨t0, i0, f0, 0⟩, ⟨t1, i1, f1, 0⟩] scope pos) 1 it (.ref D) env)) := by rfl
abbrev DC2 (kx vx t0 i0 t1 i1 : Expr) (f0 f1 : List Expr) (scope : Scope) (pos : Pos) : Expr := .DictComp kx vx [⟨t0, i0, f0, 0⟩, ⟨t1, i1, f1, 0⟩] scope pos
/-- how an error leaves the block -/
abbrev Eo (P : Program) (w : World) (A : Around) (env : Env) (R : Result → Shared → Prop) : Value → Shared → Prop := notedBy (model P w) A env fun e s' => R (.error e) s'
/-- the tests of a clause -/
abbrev testsC (fs : List Expr) (env : Env) : Sem Bool := forIn fs true fun c r => if r = true then do let ok ← isTrue c env (eval c env); pure (ForInStep.yield ok) else pure (ForInStep.yield r)
theorem loop_out {acc : Value} {s : Shared} (hs : ∀ x, foldedSetIterable i1 env x = pure x) (I : Nat → Shared → Prop)
    (turn : ∀ n s, I n s → wpAny (model P w) A (pyNext it) (fun r a => match r with
      | none => R (.ok .next) a
      | some v => wpAny (model P w) A (letOwnedTupleGo t0 it v) (fun _ b => wpAny (model P w) A (assign t0 env v) (fun _ c => wpAny (model P w) A (testsC f0 env) (fun ok d =>
          if ok = true then wpAny (model P w) A (eval i1 env) (fun x e => wpAny (model P w) A (pyIter x) (fun j f =>
              codeAny (model P w) A (.compStart (DC2 kx vx t0 i0 t1 i1 f0 f1 scope pos) 1 j acc env) (fun r g => match r with
                | .ok _ => ∃ m, m < n ∧ I m g
                | .error _ => False) f) (Eo P w A env R) e) (Eo P w A env R) d
          else ∃ m, m < n ∧ I m d) (Eo P w A env R) c) (Eo P w A env R) b) (Eo P w A env R) a) (Eo P w A env R) s)
    (n : Nat) (h : I n s) : codeAny (model P w) A (.compLoop (DC2 kx vx t0 i0 t1 i1 f0 f1 scope pos) 0 it acc env) R s := by
  refine codeAny_loop rfl I (fun n s hI => ?_) n h
  show wpAny _ A ((compTurn (DC2 kx vx t0 i0 t1 i1 f0 f1 scope pos) 0 it acc env).onRaise (fun x => do noteFrame x env; theTreesLotGoes x)) _ _ s
  refine wpAny_noted ?_
  rw [turn_out]
  refine wpAny_bind (wpAny_standAt (wpAny_bind (wpAny_mono (turn n s hI) (fun r a ha => ?_) fun _ _ z => z)))
  cases r with
  | none => exact wpAny_pure ha
  | some v =>
    refine wpAny_bind (wpAny_mono ha (fun _ b hb => ?_) fun _ _ z => z)
    refine wpAny_bind (wpAny_mono hb (fun _ c hc => wpAny_bind (wpAny_mono hc (fun ok d hd => ?_) fun _ _ z => z)) fun _ _ z => z)
    cases ok with
    | false => exact wpAny_pure ⟨rfl, hd⟩
    | true =>
      refine wpAny_bind (wpAny_mono hd (fun x e he => ?_) fun _ _ z => z)
      refine wpAny_bind (wpAny_standAt (wpAny_bind (wpAny_of_eq (hs x) (wpAny_bind (wpAny_holding (wpAny_mono he (fun j f hf => ?_) fun _ _ z => z))))))
      refine wpAny_bind (wpAny_runOwn ?_)
      rw [Around.mark_none]
      refine codeAny_mono hf fun r g hr => ?_
      cases r with
      | ok fl => first | exact wpAny_pure ⟨rfl, hr⟩ | exact wpAny_bind (wpAny_pure (wpAny_pure ⟨rfl, hr⟩))
      | error e => exact hr.elim
theorem loop_in {s : Shared} (I : Nat → Shared → Prop)
    (turn : ∀ n s, I n s → wpAny (model P w) A (pyNext it) (fun r a => match r with
      | none => R (.ok .next) a
      | some v => wpAny (model P w) A (letOwnedTupleGo t1 it v) (fun _ b => wpAny (model P w) A (assign t1 env v) (fun _ c => wpAny (model P w) A (testsC f1 env) (fun ok d =>
          if ok = true then wpAny (model P w) A (eval kx env) (fun x e => wpAny (model P w) A (eval vx env) (fun y f =>
              wpAny (model P w) A (dictSet D x y) (fun _ g => ∃ m, m < n ∧ I m g) (Eo P w A env R) f) (Eo P w A env R) e) (Eo P w A env R) d
          else ∃ m, m < n ∧ I m d) (Eo P w A env R) c) (Eo P w A env R) b) (Eo P w A env R) a) (Eo P w A env R) s)
    (n : Nat) (h : I n s) : codeAny (model P w) A (.compLoop (DC2 kx vx t0 i0 t1 i1 f0 f1 scope pos) 1 it (.ref D) env) R s := by
  refine codeAny_loop rfl I (fun n s hI => ?_) n h
  show wpAny _ A ((compTurn (DC2 kx vx t0 i0 t1 i1 f0 f1 scope pos) 1 it (.ref D) env).onRaise (fun x => do noteFrame x env; theTreesLotGoes x)) _ _ s
  refine wpAny_noted ?_
  rw [turn_in]
  refine wpAny_bind (wpAny_standAt (wpAny_bind (wpAny_mono (turn n s hI) (fun r a ha => ?_) fun _ _ z => z)))
  cases r with
  | none => exact wpAny_pure ha
  | some v =>
    refine wpAny_bind (wpAny_mono ha (fun _ b hb => ?_) fun _ _ z => z)
    refine wpAny_bind (wpAny_mono hb (fun _ c hc => wpAny_bind (wpAny_mono hc (fun ok d hd => ?_) fun _ _ z => z)) fun _ _ z => z)
    cases ok with
    | false => exact wpAny_pure ⟨rfl, hd⟩
    | true =>
      refine wpAny_bind (wpAny_bind (wpAny_mono hd (fun x e he => ?_) fun _ _ z => z))
      refine wpAny_bind (wpAny_holding (wpAny_mono he (fun y f hf => ?_) fun _ _ z => z))
      exact wpAny_bind (wpAny_standAt (wpAny_holding (wpAny_mono hf (fun _ g hg => wpAny_pure ⟨rfl, hg⟩) fun _ _ z => z)))
theorem start_in {acc itv : Value} {s : Shared} (h0 : codeAny (model P w) A (.compLoop (DC2 kx vx t0 i0 t1 i1 f0 f1 scope pos) 1 itv acc env) R s)
    (h : wpAny (model P w) A (pyIter itv) (fun j z => codeAny (model P w) A (.compLoop (DC2 kx vx t0 i0 t1 i1 f0 f1 scope pos) 1 j acc env) R z) (Eo P w A env R) s) :
    codeAny (model P w) A (.compStart (DC2 kx vx t0 i0 t1 i1 f0 f1 scope pos) 1 itv acc env) R s := by
  refine codeAny_of_tree ?_
  show wpAny _ _ ((compStart (DC2 kx vx t0 i0 t1 i1 f0 f1 scope pos) 1 itv acc env).onRaise (fun x => do noteFrame x env; standAt theWindowsPlace)) _ _ s
  refine wpAny_notedAt ?_
  unfold compStart
  show wpAny _ _ (ask >>= _) _ _ s
  refine wpAny_bind (wpAny_askSetting (wpAny_ite ?_))
  have both : ∀ {m : Sem Unit}, True := fun {_} => trivial
  split
  · first | exact wpAny_bind (wpAny_pure (wpAny_pure ⟨rfl, h0⟩)) | exact wpAny_pure ⟨rfl, h0⟩
  · first
      | exact wpAny_bind (wpAny_rule (wpAny_bind (wpAny_standAt (wpAny_bind (wpAny_mono h (fun j z q => wpAny_pure ⟨rfl, q⟩) fun _ _ x => x)))))
      | (refine wpAny_bind (wpAny_rule ?_); show wpAny _ _ (standAt i1.pos >>= _) _ _ s; exact wpAny_bind (wpAny_standAt (wpAny_bind (wpAny_mono h (fun j z q => wpAny_pure ⟨rfl, q⟩) fun _ _ x => x))))
end
section
variable {X : Cx} {pins : List (Addr × Obj)} {s : Shared} {σ : L2.St} {H : Hp} {kx vx tg iter tg1 iter1 : Expr} {ifs ifs1 : List Expr} {scope : Scope} {own : List (Str × Nat)} {vs1 : List Nat} {pos pos' : Pos} {wi wi1 : TI} {mk : Addr → HO}
def tDcG2 (mk : Addr → HO) (R : StR) (wi : TI) (g : TG) (tt : TT) (wi1 : TI) (g1 : TG) (tt1 : TT) (tk tv : TE) (vs vs1 : List Nat) : TE := fun σ H Q => wi σ H fun J H1 => ∀ D, H1 D = none → ∃ W : Nat → Nat → Hp → Prop, (∃ m, W 0 m (upd H1 D (mk D))) ∧ ∀ i m H, W i m H →
  (J.stop i H ∧ Q (.ref D) H) ∨ (J.go i H ∧ ∃ Nx : Hp → Prop, (∀ H', Nx H' → ∃ m', m' < m ∧ W (i + 1) m' H') ∧ ∀ x H', J.yld i H x H' → g x (wipe σ vs) H' fun σ2 H2 => wipe σ2 vs = wipe σ vs ∧ tt σ2 H2 fun b H3 =>
    if b = true then wi1 σ2 H3 fun J1 H4 => ∃ W1 : Nat → Nat → Hp → Prop, (∃ m, W1 0 m H4) ∧ ∀ j k H, W1 j k H →
      (J1.stop j H ∧ Nx H) ∨ (J1.go j H ∧ ∃ Nx1 : Hp → Prop, (∀ H', Nx1 H' → ∃ k', k' < k ∧ W1 (j + 1) k' H') ∧ ∀ x H', J1.yld j H x H' → g1 x (wipe σ2 vs1) H' fun σ3 H5 => wipe σ3 vs1 = wipe σ2 vs1 ∧ tt1 σ3 H5 fun b H6 =>
        if b = true then tk σ3 H6 fun y H7 => tv σ3 H7 fun z H8 => R D y z H8 Nx1 else Nx1 H6)
    else Nx H3)
theorem giv_dcG2 {R : StR} {g g1 : TG} {tt tt1 : TT} {tk tv : TE} {P : Program} {w : World} (srv : Srv P w mk R) (hP : X.prog = P) (hw : X.w = w) (hu : X.A.units < cLine) (hc : X.calm = true) (hN : X.N.Nodup) (hi : PI X tg iter wi) (ok : BlkOk X.N X.env.scope scope own) (hv : ∀ i ∈ vs1, i ∈ own.map (·.2))
    (hg : ∀ (s : Shared) (H : Hp) (C : Addr) (cl : List (Str × Addr)) (fp : List Addr), PG (X.blk s H scope (compEnvC scope cl C X.env) fp) tg g)
    (ht : ∀ (s : Shared) (H : Hp) (C : Addr) (cl : List (Str × Addr)) (fp : List Addr), PTs (X.blk s H scope (compEnvC scope cl C X.env) fp) ifs tt)
    (hi1 : ∀ (s : Shared) (H : Hp) (C : Addr) (cl : List (Str × Addr)) (fp : List Addr), PI (X.blk s H scope (compEnvC scope cl C X.env) fp) tg1 iter1 wi1)
    (hg1 : ∀ (s : Shared) (H : Hp) (C : Addr) (cl : List (Str × Addr)) (fp : List Addr), PG (X.blk s H scope (compEnvC scope cl C X.env) fp) tg1 g1)
    (ht1 : ∀ (s : Shared) (H : Hp) (C : Addr) (cl : List (Str × Addr)) (fp : List Addr), PTs (X.blk s H scope (compEnvC scope cl C X.env) fp) ifs1 tt1)
    (hk : ∀ (s : Shared) (H : Hp) (C : Addr) (cl : List (Str × Addr)) (fp : List Addr), PE (X.blk s H scope (compEnvC scope cl C X.env) fp) kx tk)
    (he : ∀ (s : Shared) (H : Hp) (C : Addr) (cl : List (Str × Addr)) (fp : List Addr), PE (X.blk s H scope (compEnvC scope cl C X.env) fp) vx tv)
    (hs : ∀ x, foldedSetIterable iter X.env x = pure x := by intro _; rfl) (hs1 : ∀ env x, foldedSetIterable iter1 env x = pure x := by intro _ _; rfl) :
    Giv X kx vx [⟨tg, iter, ifs, 0⟩, ⟨tg1, iter1, ifs1, 0⟩] scope pos iter (tDcG2 mk R wi g tt wi1 g1 tt1 tk tv (own.map (·.2)) vs1) := by
  subst hP hw
  intro pins s σ H Q use Qf pos' I h hRR
  refine dict_open (mk := mk) hN I hi ok hs srv.new h fun D it fp tn J G z ce z4 q hD O => ?_
  obtain ⟨W, ⟨m0, w0⟩, turn⟩ := q D hD
  obtain ⟨T, blk, at0, no, ⟨cl, hce⟩, back⟩ := O
  have pg := hg z (upd G D (mk D)) z.heap.objs.size cl fp
  have pt := ht z (upd G D (mk D)) z.heap.objs.size cl fp
  have pj := hi1 z (upd G D (mk D)) z.heap.objs.size cl fp
  have pg1 := hg1 z (upd G D (mk D)) z.heap.objs.size cl fp
  have pt1 := ht1 z (upd G D (mk D)) z.heap.objs.size cl fp
  have pk := hk z (upd G D (mk D)) z.heap.objs.size cl fp
  have pe := he z (upd G D (mk D)) z.heap.objs.size cl fp
  rw [← hce] at pg pt pj pg1 pt1 pk pe
  have own_ : ∀ {σ' : L2.St} {G' : Hp} {z' : Shared}, Inv (X.blk z (upd G D (mk D)) scope ce fp) [] σ' G' z' → (∀ b ∈ fp, G' b = none) → ∀ b ∈ fp, FpOk (X.blk z (upd G D (mk D)) scope ce fp) [] G' b := fun I' hn b hb =>
    ⟨hn b hb, (I'.ok.exf b hb).1, I'.ok.exfs b hb, .inl hb, fun x c e => (I'.ok.exf b hb).2 x c e, fun _ hp => nomatch (show _ ∈ ([] : List (Addr × Obj)) from hp)⟩
  refine loop_out (hs1 ce) (fun n z' => ∃ i G', Inv (X.blk z (upd G D (mk D)) scope ce fp) [] (wipe σ (own.map (·.2))) G' z' ∧ tn i z'.heap ∧ (∀ b ∈ fp, G' b = none) ∧ W i n G') ?_ m0 ⟨0, _, blk, at0, no, w0⟩
  rintro n z5 ⟨i, G5, I5, at5, no5, w5⟩
  rcases turn i n G5 w5 with ⟨stop, qq⟩ | ⟨go, Nx, hNx, step⟩
  · refine thnF (T.done (X.blk z (upd G D (mk D)) scope ce fp) rfl rfl rfl hc i [] z5 _ G5 (fun _ _ => False) I5 (own_ I5 no5) at5 stop) fun r z6 ⟨hr, I6⟩ => ?_
    subst hr
    obtain ⟨I7, ⟨m, ns⟩, fo⟩ := back _ _ _ I6
    exact hRR D _ z6 m G5 I7 qq ns fo
  · refine thnF (T.item (X.blk z (upd G D (mk D)) scope ce fp) rfl rfl rfl hc i [] z5 _ G5 (fun _ _ => False) I5 (own_ I5 no5) at5 go) fun r z6 ⟨u, hr, h6⟩ => ?_
    subst hr
    refine thnF h6 fun _ z7 ⟨x, G7, I7, r7, y7, at7, no7⟩ => ?_
    refine thnF (pg.run _ z7 _ G7 x u _ (I7.pinned (own_ I7 no7) (T.obj _ _ at7)) r7 (step x G7 y7)) fun _ z8 ⟨σ8, G8, I8, hw8, q8⟩ => ?_
    refine thnF (pt.run _ z8 σ8 G8 _ I8 q8) fun b z9 ⟨G9, I9, q9⟩ => ?_
    obtain ⟨l8, k8⟩ := weak_wipe hw8
    have fin : ∀ {σ9 : L2.St} {z' : Shared} {G' : Hp}, Inv (X.blk z (upd G D (mk D)) scope ce fp) ([] ++ pinsAt fp z7.heap) σ9 G' z' → (wipe σ (own.map (·.2))).length = σ9.length → (∀ (j : Nat) v, (wipe σ (own.map (·.2)))[j]? = some (some v) → σ9[j]? = some (some v)) → Nx G' →
        ∃ m, m < n ∧ ∃ i G', Inv (X.blk z (upd G D (mk D)) scope ce fp) [] (wipe σ (own.map (·.2))) G' z' ∧ tn i z'.heap ∧ (∀ b ∈ fp, G' b = none) ∧ W i m G' := fun {σ9 z' G'} I' l9 k9 nx => by
      obtain ⟨m', hm, w'⟩ := hNx G' nx
      have pin' : ∀ b ∈ fp, ∀ o, z7.heap.get? b = some o → z'.heap.get? b = some o ∧ G' b = none := fun b hb o e =>
        have a := I'.pin (b, o) (List.mem_append_right _ (List.mem_append_right _ (mem_pinsAt hb e)))
        ⟨a.1, a.2.1⟩
      refine ⟨m', hm, i + 1, G', (I'.unpinned (pins := [])).weak l9 k9, T.keep _ _ _ at7 fun b hb o e => (pin' b hb o e).1, fun b hb => ?_, w'⟩
      obtain ⟨o, e, _⟩ := T.obj _ _ at7 b hb
      exact (pin' b hb o e).2
    have k9 : ∀ (j : Nat) v, (wipe σ (own.map (·.2)))[j]? = some (some v) → (wipe σ8 vs1)[j]? = some (some v) := fun j v e => by
      rw [← hw8] at e
      obtain ⟨e1, e2⟩ := wipe_some e
      rw [wipe_out fun z => e2 (hv j z)]
      exact e1
    cases b with
    | false => exact fin I9 l8 k8 q9
    | true =>
      refine thnF (pj.run _ z9 σ8 G9 _ I9 q9) fun _ z10 hx => thnF hx fun _ z11 h11 => ?_
      obtain ⟨it1, fp1, tn1, J1, G11, rfl, I11, T1, at11, fr11, W1, ⟨m1, w1⟩, turn1⟩ := h11
      have own1 : ∀ {G' : Hp}, (∀ b ∈ fp1, G' b = none) → ∀ b ∈ fp1, FpOk (X.blk z (upd G D (mk D)) scope ce fp) ([] ++ pinsAt fp z7.heap) G' b := fun hn b hb => ⟨hn b hb, (fr11 b hb).2⟩
      have inner : codeAny (model X.prog X.w) X.A (.compLoop (DC2 kx vx tg iter tg1 iter1 ifs ifs1 scope pos) 1 (.ref it1) (.ref D) ce)
          (fun r z' => match r with
            | .ok _ => ∃ m, m < n ∧ ∃ i G', Inv (X.blk z (upd G D (mk D)) scope ce fp) [] (wipe σ (own.map (·.2))) G' z' ∧ tn i z'.heap ∧ (∀ b ∈ fp, G' b = none) ∧ W i m G'
            | .error _ => False) z11 := by
        refine loop_in (fun k z' => ∃ j G', Inv (X.blk z (upd G D (mk D)) scope ce fp) ([] ++ pinsAt fp z7.heap) (wipe σ8 vs1) G' z' ∧ tn1 j z'.heap ∧ (∀ b ∈ fp1, G' b = none) ∧ W1 j k G') ?_ m1 ⟨0, G11, I11.weak (wipe_length _ _) (fun j v e => (wipe_some e).1), at11, fun b hb => (fr11 b hb).1, w1⟩
        rintro k z12 ⟨j, G12, I12, at12, no12, w12⟩
        rcases turn1 j k G12 w12 with ⟨stop1, nx1⟩ | ⟨go1, Nx1, hNx1, step1⟩
        · refine thnF (T1.done (X.blk z (upd G D (mk D)) scope ce fp) rfl rfl rfl hc j _ z12 (wipe σ8 vs1) G12 (fun _ _ => False) I12 (own1 no12) at12 stop1) fun r z13 ⟨hr, I13⟩ => ?_
          subst hr
          exact fin I13 (l8.trans (wipe_length σ8 vs1).symm) k9 nx1
        · refine thnF (T1.item (X.blk z (upd G D (mk D)) scope ce fp) rfl rfl rfl hc j _ z12 (wipe σ8 vs1) G12 (fun _ _ => False) I12 (own1 no12) at12 go1) fun r z13 ⟨u1, hr, h13⟩ => ?_
          subst hr
          refine thnF h13 fun _ z14 ⟨x1, G14, I14, r14, y14, at14, no14⟩ => ?_
          refine thnF (pg1.run _ z14 (wipe σ8 vs1) G14 x1 u1 _ (I14.pinned (own1 no14) (T1.obj _ _ at14)) r14 (step1 x1 G14 y14)) fun _ z15 ⟨σ15, G15, I15, hw15, q15⟩ => ?_
          refine thnF (pt1.run _ z15 σ15 G15 _ I15 q15) fun b1 z16 ⟨G16, I16, q16⟩ => ?_
          have fin1 : ∀ {z' : Shared} {G' : Hp}, Inv (X.blk z (upd G D (mk D)) scope ce fp) (([] ++ pinsAt fp z7.heap) ++ pinsAt fp1 z14.heap) σ15 G' z' → Nx1 G' →
              ∃ m, m < k ∧ ∃ j G', Inv (X.blk z (upd G D (mk D)) scope ce fp) ([] ++ pinsAt fp z7.heap) (wipe σ8 vs1) G' z' ∧ tn1 j z'.heap ∧ (∀ b ∈ fp1, G' b = none) ∧ W1 j m G' := fun {z' G'} I' nx => by
            obtain ⟨m', hm, w'⟩ := hNx1 G' nx
            have pin' : ∀ b ∈ fp1, ∀ o, z14.heap.get? b = some o → z'.heap.get? b = some o ∧ G' b = none := fun b hb o e =>
              have a := I'.pin (b, o) (List.mem_append_right _ (List.mem_append_right _ (mem_pinsAt hb e)))
              ⟨a.1, a.2.1⟩
            obtain ⟨l15, k15⟩ := weak_wipe hw15
            refine ⟨m', hm, j + 1, G', I'.unpinned.weak l15 k15, T1.keep _ _ _ at14 fun b hb o e => (pin' b hb o e).1, fun b hb => ?_, w'⟩
            obtain ⟨o, e, _⟩ := T1.obj _ _ at14 b hb
            exact (pin' b hb o e).2
          cases b1 with
          | false => exact fin1 I16 q16
          | true =>
            refine thnF (pk.run _ z16 σ15 G16 _ I16 q16) fun _ z17 ⟨yk, G17, I17, r17, q17⟩ => ?_
            refine thnF (pe.run _ z17 σ15 G17 _ I17 q17) fun _ z18 ⟨yv, G18, I18, r18, nx⟩ => ?_
            exact wpAny_mono (srv.put (X.blk z (upd G D (mk D)) scope ce fp) _ σ15 G18 z18 D yk yv _ _ _ Nx1 rfl rfl hu I18 r17 r18 nx) (fun _ z19 ⟨G19, I19, n19⟩ => fin1 I19 n19) fun _ _ e => e
      exact start_in inner (T1.self X.A 0 _ _ _ at11 inner)
/-- the inner clause's turns -/
theorem dcG2_it {J : It} {n : Nat} {Ok : Hp → Prop} {gv : Nat → V → Hp → Hp → Prop} {R : StR} {g : TG} {tt : TT} {tk tv : TE} {vs : List Nat} {H1 : Hp} {D : Addr} {Nx : Hp → Prop} (k : Wk J n Ok gv) (Pv : Nat → Hp → Prop) (h0 : Pv 0 H1) (hok : ∀ i H, i ≤ n → Pv i H → Ok H)
    (hs : ∀ i x H H', i < n → Pv i H → gv i x H H' → g x (wipe σ vs) H' fun σ2 H2 => wipe σ2 vs = wipe σ vs ∧ tt σ2 H2 fun b H3 =>
      if b = true then tk σ2 H3 fun y H4 => tv σ2 H4 fun z H5 => R D y z H5 (Pv (i + 1)) else Pv (i + 1) H3) (hd : ∀ H, Pv n H → Nx H) :
    ∃ W1 : Nat → Nat → Hp → Prop, (∃ m, W1 0 m H1) ∧ ∀ j k H, W1 j k H →
      (J.stop j H ∧ Nx H) ∨ (J.go j H ∧ ∃ Nx1 : Hp → Prop, (∀ H', Nx1 H' → ∃ k', k' < k ∧ W1 (j + 1) k' H') ∧ ∀ x H', J.yld j H x H' → g x (wipe σ vs) H' fun σ3 H5 => wipe σ3 vs = wipe σ vs ∧ tt σ3 H5 fun b H6 =>
        if b = true then tk σ3 H6 fun y H7 => tv σ3 H7 fun z H8 => R D y z H8 Nx1 else Nx1 H6) := by
  refine ⟨fun i m H => (m = n - i ∧ i ≤ n) ∧ Pv i H, ⟨n, ⟨rfl, Nat.zero_le _⟩, h0⟩, ?_⟩
  intro i m H hw
  obtain ⟨⟨e, hi⟩, p⟩ := hw
  have ok := hok i H hi p
  rcases Nat.lt_or_ge i n with hlt | hge
  · exact .inr ⟨k.go i H hlt ok, Pv (i + 1), fun H' p' => ⟨n - (i + 1), by omega, ⟨rfl, hlt⟩, p'⟩, fun x H' y => hs i x H H' hlt p (k.yld i x H H' hlt ok y)⟩
  · have e : i = n := Nat.le_antisymm hi hge
    subst e
    exact .inl ⟨k.stop H ok, hd H p⟩
end
end Pk
end
section
set_option maxHeartbeats 4000000
/-! A walk over a locked dict with nodes as keys. -/
namespace Pk
open PySem PySem.Spec PyProof.Rows L2
def Itn (P : Program) (w : World) (d : Addr) (o : Obj) (kvs : List (Node × V)) : It :=
  ⟨fun i H => H d = some (.frz o (oN P w d kvs)) ∧ i < kvs.length, fun i H x H' => H' = H ∧ ∃ k v, kvs[i]? = some (k, v) ∧ x = nV k, fun i H => H d = some (.frz o (oN P w d kvs)) ∧ kvs.length ≤ i⟩
theorem frzN {X : Cx} {pins : List (Addr × Obj)} {σ : L2.St} {H : Hp} {s : Shared} {d : Addr} {o : Obj} {kvs : List (Node × V)} (I : Inv X pins σ H s) (h : H d = some (.frz o (oN X.prog X.w d kvs))) :
    (d == sysModules) = false ∧ s.heap.get? d = some o ∧ o.ExactDict ∧ ∃ (es : Array DictEntry) (ep : Nat) (vs : List (Leaf × Value)), o.data = .dict es ep ∧ es.size = kvs.length ∧ NV kvs vs ∧ s.heap.DictAt (leafKind X.prog X.w) d vs ep := by
  obtain ⟨hd, ⟨z, hs, vs, nv, o', es, ep, ho, hx, hdt, r⟩, _⟩ := (show ObjOk X.prog X.w H s.heap d (.frz o (oN X.prog X.w d kvs)) from I.hok d _ h)
  rw [hd] at ho
  cases ho
  have l1 := r.2.1.length
  have l2 : kvs.length = vs.length := Paired.length nv
  rw [Array.length_toList] at l1
  exact ⟨hs, hd, hx, es, ep, vs, hdt, by omega, nv, o, es, hd, hx, hdt, r⟩
theorem nv_get {kvs : List (Node × V)} {vs : List (Leaf × Value)} (h : NV kvs vs) {i : Nat} {k : Node} {v : V} (e : kvs[i]? = some (k, v)) : ∃ u, vs[i]? = some (lf k, u) := by
  obtain ⟨⟨l, u⟩, h1, h2, _⟩ := L2.paired_get h e
  have h2 : lf k = l := h2
  exact ⟨u, by rw [h1, h2]⟩
section
variable {P : Program} {w : World} {K : PySem.W.Frag} {tg : Expr} {d : Addr} {o : Obj} {es : Array DictEntry} {ep : Nat}
theorem turn_nkeys {kvs : List (Node × V)} (j : Addr) (hod : o.data = .dict es ep) : Turn P w K tg (Itn P w d o kvs) [j] j (fun i h => h.IsKeyIter j d i kvs.length ep) where
  mem := List.mem_singleton.mpr rfl
  obj i h at_ b hb := by
    obtain ⟨oi, e, c, dd⟩ := at_
    rw [List.mem_singleton.mp hb]
    exact ⟨oi, e, fun v z => by rw [dd] at z; cases z⟩
  keep i h h' at_ k := at_.at fun oi e => k j (List.mem_singleton.mpr rfl) oi e
  item := by
    intro X hP hw hK hc i pins s σ H E I hf at_ hg
    subst hP hw hK
    obtain ⟨hd, hi⟩ := hg
    obtain ⟨f0, f1, f2, f3, f4, f5⟩ := hf j (List.mem_singleton.mpr rfl)
    obtain ⟨hs, hgd, hx, es', ep', vs, hdt, hsz, nv, hm⟩ := frzN I hd
    obtain ⟨rfl, rfl⟩ := dict_ep hod hdt
    have hkv : kvs[i]? = some (kvs[i].1, kvs[i].2) := List.getElem?_eq_getElem hi
    obtain ⟨u, hu⟩ := nv_get nv hkv
    have hl : kvs.length = vs.length := Paired.length nv
    rw [hl] at at_
    refine wpAny_pyNext_dict_item at_ hm hu fun key h' hkey at' sb => ?_
    have I1 : Inv X pins σ H { s with heap := h' } := I.turned (t' := s.toks) (fun b ob hb e => (sb.2 b hb).trans e) f0 f1 f3 f4 f5
    obtain ⟨oi, e, c, dd⟩ := id at'
    refine ⟨key, rfl, go_of (s := { s with heap := h' }) e c dd (by decide) ⟨nV kvs[i].1, H, I1, nV_of hkey, ⟨rfl, _, _, hkv, rfl⟩, ?_, fun b hb => (hf b hb).1⟩⟩
    show h'.IsKeyIter j d (i + 1) kvs.length _
    rw [hl]
    exact at'
  done := by
    intro X hP hw hK hc i pins s σ H E I hf at_ hg
    subst hP hw hK
    obtain ⟨hd, hi⟩ := hg
    obtain ⟨f0, f1, f2, f3, f4, f5⟩ := hf j (List.mem_singleton.mpr rfl)
    obtain ⟨hs, hgd, hx, es', ep', vs, hdt, hsz, nv, hm⟩ := frzN I hd
    obtain ⟨rfl, rfl⟩ := dict_ep hod hdt
    exact next_key_end (I.ok.hd hc) at_ hgd hdt hsz hi fun h' eb => ⟨rfl, I.turned (t' := s.toks) (fun b ob hb e => eb b ob hb e) f0 f1 f3 f4 f5⟩
  self A i s Q E at_ h := wpAny_pyIter_keyiter at_ h
end
def iNKeys (P : Program) (w : World) (td : TE) : TI := fun σ H R => td σ H fun x H1 => ∃ d o kvs, x = .ref d ∧ H1 d = some (.frz o (oN P w d kvs)) ∧ R (Itn P w d o kvs) H1
theorem pi_nkeys {X : Cx} {tg e : Expr} {td : TE} (he : PE X e td) : PI X tg e (iNKeys X.prog X.w td) := by
  refine ⟨fun pins s σ H R I h => ?_⟩
  refine thn (he.run pins s σ H _ I h) fun u s1 ⟨x, H1, I1, rx, d, o, kvs, ex, hd, q⟩ => ?_
  subst ex
  obtain rfl : u = Value.ref d := rx
  obtain ⟨hs, hgd, hx, es, ep, vs, hdt, hsz, nv, hm⟩ := frzN I1 hd
  refine iter_keys hs hgd hx hdt (pi_one (tk := s1.toks) I1 _ (turn_nkeys _ hdt) ⟨_, Heap.get?_push_size _ rfl, rfl, ?_⟩ q)
  rw [hsz] <;> rfl
theorem wk_nkeys {P : Program} {w : World} {d : Addr} {o : Obj} {kvs : List (Node × V)} : Wk (Itn P w d o kvs) kvs.length (fun H => H d = some (.frz o (oN P w d kvs))) fun i x H H' => H' = H ∧ ∃ k v, kvs[i]? = some (k, v) ∧ x = nV k where
  go i H hi q := ⟨q, hi⟩
  stop H q := ⟨q, Nat.le_refl _⟩
  yld i x H H' hi q y := y
end Pk
end
section
set_option maxHeartbeats 4000000
/-! Lambdas with parameters and one captured name, handed to a def that calls them anywhere. -/
namespace Pk
open PySem PySem.Spec PyProof.Rows L2
/-! ### an address forgotten -/
def hid (C : Addr) (H : Hp) : Hp := fun b => if b = C then none else H b
theorem hid_same {C : Addr} {H : Hp} : hid C H C = none := if_pos rfl
theorem hid_ne {C b : Addr} {H : Hp} (h : b ≠ C) : hid C H b = H b := if_neg h
theorem hid_some {C b : Addr} {H : Hp} {o : HO} (h : hid C H b = some o) : b ≠ C ∧ H b = some o := by
  unfold hid at h
  split at h
  · cases h
  · rename_i n
    exact ⟨n, h⟩
theorem same_hid {C : Addr} {H H' : Hp} (s : Same H H') (h : H C = none) : Same H (hid C H') := fun b o e => by
  rw [hid_ne (ne_of_none e h)]
  exact s b o e
/-- a cell, by its object -/
def CelO (C : Addr) (ob : Obj) : HO := .ext fun h => h.get? C = some ob
theorem celO_ok {P : Program} {w : World} {H : Hp} {h : Heap} {C : Addr} {ob : Obj} (e : h.get? C = some ob) : ObjOk P w H h C (CelO C ob) := ⟨e, ⟨ob, e⟩, fun _ _ q st => st _ q⟩
theorem celO_get {P : Program} {w : World} {H : Hp} {h : Heap} {C : Addr} {ob : Obj} (ok : HOk P w H h) (e : H C = some (CelO C ob)) : h.get? C = some ob := by
  have z : ObjOk P w H h C (CelO C ob) := ok C _ e
  exact z.1
section
variable {P : Program} {w : World} {H H' : Hp} {h h' : Heap} {C : Addr} {ob : Obj}
theorem hok_hid (ok : HOk P w H h) (e : H C = some (CelO C ob)) : HOk P w (hid C H) h := fun a o q => by
  obtain ⟨n, q⟩ := hid_some q
  exact (ok a o q).stay (fun _ _ _ z => z) (fun b z => by rw [hid_ne (fun y => by rw [y, e] at z; cases z)]; exact z) fun b xs z => by rw [hid_ne (fun y => by rw [y, e] at z; cases z)]; exact z
theorem hok_back (ok : HOk P w H h) (n : H C = none) (e : h.get? C = some ob) : HOk P w (upd H C (CelO C ob)) h := fun a o q => by
  by_cases z : a = C
  · subst z
    rw [upd_same] at q
    cases q
    exact celO_ok e
  · rw [upd_ne z] at q
    exact (ok a o q).stay (fun _ _ _ z => z) (fun b z => by rw [upd_ne (ne_of_none z n)]; exact z) fun b xs z => by rw [upd_ne (ne_of_none z n)]; exact z
/-- within: the cell untracked; without: tracked -/
theorem un_in {fs : List Addr} (u : Un fs [] (hid C H) H' h h') (e : H C = some (CelO C ob)) (ho : h.get? C = some ob) : Un fs [] H (upd H' C (CelO C ob)) h h' := by
  have nC : ∀ b, H b = none → b ≠ C := fun b n z => by rw [z, e] at n; cases n
  have hC : H' C = none := u.free C ob ho hid_same (by simp)
  refine ⟨fun b o q n hb hx => u.keep b o q (by rw [hid_ne (nC b n)]; exact n) hb hx, fun b o q n hb hx => u.slot b o q (by rw [hid_ne (nC b n)]; exact n) hb hx, fun b o q n hx => by rw [upd_ne (nC b n)]; exact u.free b o q (by rw [hid_ne (nC b n)]; exact n) hx,
    u.there, fun b xs q => ?_, fun b o v q => ?_, fun b ps q => ?_⟩
  · have n : b ≠ C := fun z => by rw [z, e] at q; cases q
    rw [upd_ne n]
    exact u.tups b xs (by rw [hid_ne n]; exact q)
  · have n : b ≠ C := fun z => by rw [z, e] at q; cases q
    rw [upd_ne n]
    exact u.frzs b o v (by rw [hid_ne n]; exact q)
  · have n : b ≠ C := fun z => by rw [z, e] at q; cases q
    rw [upd_ne n]
    exact u.tbls b ps (by rw [hid_ne n]; exact q)
/-- within: the cell tracked; without: untracked -/
theorem un_out {fs : List Addr} (u : Un fs [] (upd H C (CelO C ob)) H' h h') (n : H C = none) (ho : h.get? C = some ob) (e : H' C = some (CelO C ob)) (ok : HOk P w H' h') : Un fs [] H (hid C H') h h' := by
  have ho' := celO_get ok e
  refine ⟨fun b o q nb hb hx => ?_, fun b o q nb hb hx => ?_, fun b o q nb hx => ?_, u.there, fun b xs q => ?_, fun b o v q => ?_, fun b ps q => ?_⟩
  · by_cases z : b = C
    · subst z
      rw [ho] at q
      cases q
      exact ho'
    · exact u.keep b o q (by rw [upd_ne z]; exact nb) hb hx
  · by_cases z : b = C
    · subst z
      rw [ho] at q
      cases q
      exact ⟨ob.slots, ho'⟩
    · exact u.slot b o q (by rw [upd_ne z]; exact nb) hb hx
  · by_cases z : b = C
    · subst z
      exact hid_same
    · rw [hid_ne z]
      exact u.free b o q (by rw [upd_ne z]; exact nb) hx
  · have z := ne_of_none q n
    rw [hid_ne z]
    exact u.tups b xs (by rw [upd_ne z]; exact q)
  · have z := ne_of_none q n
    rw [hid_ne z]
    exact u.frzs b o v (by rw [upd_ne z]; exact q)
  · have z := ne_of_none q n
    rw [hid_ne z]
    exact u.tbls b ps (by rw [upd_ne z]; exact q)
end
/-! ### things that may be called -/
/-- f may be called wherever H stands: what it asks, sp -/
structure FnP (P : Program) (w : World) (K : PySem.W.Frag) (mg : Str → Option Value) (base : Heap) (k : Nat) (H : Hp) (f : Addr) (sp : List V → Hp → VK → Prop) : Prop where
  at_ : ∀ (Z : Cx) pins σ HZ s, Z.prog = P → Z.w = w → Inv Z pins σ HZ s → Same H HZ → PySem.W.FnAt f s.heap
  run : ∀ (Z : Cx) pins σ HZ s us vs Q, Z.prog = P → Z.w = w → Z.K = K → Z.mg = mg → Z.base = base → Room k Z.A → Inv Z pins σ HZ s → Same H HZ → Vals vs us → sp vs HZ Q → wpAny (model Z.prog Z.w) Z.A (call (.ref f) us) (EP Z pins σ Q) Z.xe s
section
variable {P : Program} {w : World} {K : PySem.W.Frag} {mg : Str → Option Value} {base : Heap} {k : Nat} {H : Hp} {f : Addr} {sp sp' : List V → Hp → VK → Prop}
theorem FnP.imp (F : FnP P w K mg base k H f sp) (h : ∀ vs HZ Q, Same H HZ → sp' vs HZ Q → sp vs HZ Q) : FnP P w K mg base k H f sp' :=
  ⟨F.at_, fun Z pins σ HZ s us vs Q a b c d e r I sm v q => F.run Z pins σ HZ s us vs Q a b c d e r I sm v (h vs HZ Q sm q)⟩
theorem FnP.mono {H' : Hp} (F : FnP P w K mg base k H f sp) (h : Same H H') : FnP P w K mg base k H' f sp :=
  ⟨fun Z pins σ HZ s a b I sm => F.at_ Z pins σ HZ s a b I (fun c o e => sm c o (h c o e)), fun Z pins σ HZ s us vs Q a b c d e r I sm => F.run Z pins σ HZ s us vs Q a b c d e r I (fun c o e => sm c o (h c o e))⟩
def tFn (P : Program) (w : World) (K : PySem.W.Frag) (mg : Str → Option Value) (base : Heap) (k i : Nat) (t : TA) : TE := fun σ H Q => ∃ (f : Addr) (H0 : Hp) (sp : List V → Hp → VK → Prop), σ[i]? = some (some (.ref f)) ∧ FnP P w K mg base k H0 f sp ∧ Same H0 H ∧ t σ H fun vs H1 => Same H0 H1 ∧ sp vs H1 Q
/-- x(e, ..), x a name that holds such a thing -/
theorem pe_fn {X : Cx} {i j : Nat} {x : Str} {e : Expr} {es : List Expr} {t : TA} {p pos : Pos} (hr : Room j X.A) (hN : X.N[i]? = some x) (hv : Vis X.env.scope x) (ha : PA X (e :: es) t) (hP : X.prog = P := by rfl) (hw : X.w = w := by rfl) (hK : X.K = K := by rfl) (hmg : X.mg = mg := by rfl) (hb : X.base = base := by rfl) (hk : k ≤ j := by decide)
    (hd : (x == ("__debug__" : Str)) = false := by decide) (hcd : (x == ("__classdict__" : Str)) = false := by decide)
    (he : starEach (e :: es) X.env = (false, eval e X.env) :: starEach es X.env := by rfl) (hpl : (backTo pos (starEach es X.env)).any (·.1) = false := by rfl) :
    PE X (.Call (.Name x p) (e :: es) [] pos) (tFn P w K mg base k i t) := by
  refine ⟨fun pins s σ H Q I h => ?_⟩
  obtain ⟨f, H0, sp, hs, F, sm, ht⟩ := h
  refine wpAny_Call_Name_kw (thn ((pe_var (pos := p) hN hv hd hcd).run pins s σ H (fun v H1 => v = .ref f ∧ H1 = H) I ⟨.ref f, hs, rfl, rfl⟩) fun u s1 ⟨v, H1, I1, r1, q1⟩ => ?_)
  obtain ⟨rfl, rfl⟩ := q1
  cases r1
  refine PySem.W.callWith_F (F.at_ X pins σ _ s1 hP hw I1 sm) (thn (ha.run pos pins s1 σ _ _ I1 ht) fun us s2 ⟨vs, H2, I2, r, sm2, q⟩ => ⟨F.at_ X pins σ _ s2 hP hw I2 sm2, ?_⟩) he hpl
  exact F.run X pins σ H2 s2 us vs Q hP hw hK hmg hb (hr.mono hk) I2 sm2 r q
end
/-! ### a lambda -/
/-- the lambda's object at f, the cell C captured as cap -/
def LamO (f : Addr) (q : Str) (params : Arguments) (body : Expr) (scope : Scope) (cap : Str) (C c' : Addr) : HO :=
  .ext fun h => ∃ pm ctv, h.get? f = some (PySem.W.kla_obj "<lambda>" q params body scope [(cap, C)] pm c' ctv)
structure LamP (scope : Scope) (ps : List Str) (cap : Str) : Prop where
  kind : scope.kind = .function
  co : scope.isCoroutine = false
  gen : scope.isGenerator = false
  nocell : ∀ y ∈ scope.names, y.2 ≠ .cell
  loc : ∀ y ∈ ps, scope.names.lookup y = some .local
  free : scope.names.lookup cap = some .free
  only : ∀ y, scope.names.lookup y = some .free → y = cap
  nd : ps.Nodup
  nc : cap ∉ ps
  clo : ∀ cells C, cells.lookup cap = some C → cloFrom cells scope.names [] = [(cap, C)]
  need : ∀ y ∈ scope.names, y.2 = .free → y.1 = cap
/-- the context of the lambda's body -/
def lmC (P : Program) (w : World) (K : PySem.W.Frag) (mg : Str → Option Value) (base : Heap) (N : List Str) (A : Around) (outer : List Env) (s : Shared) (H : Hp) (q : Str) (scope : Scope) (f c' : Addr) (cap : Str) (C : Addr) : Cx where
  prog := P
  w := w
  K := K
  mg := mg
  base := base
  A := A.deeper (PySem.W.envX q scope s.heap.objs.size f (.ref c') [(cap, C)])
  N := N
  s_0 := s
  H_0 := H
  env := PySem.W.envX q scope s.heap.objs.size f (.ref c') [(cap, C)]
  outer := outer
  stack := PySem.W.envX q scope s.heap.objs.size f (.ref c') [(cap, C)] :: outer
  ex := []
  fn := fun _ => false
  calm := true
  pn := []
  xe := fun _ _ => False
theorem lookup_nodup {α : Type} {l : List (Str × α)} {x : Str} {u : α} (nd : (l.map (·.1)).Nodup) (h : (x, u) ∈ l) : l.lookup x = some u := by
  induction l with
  | nil => cases h
  | cons p l ih =>
    rw [List.map_cons, List.nodup_cons] at nd
    obtain ⟨y, v⟩ := p
    rw [List.lookup_cons]
    rcases List.mem_cons.mp h with e | h
    · cases e
      rw [beq_self_eq_true]
    · have n : (x == y) = false := by
        apply beq_eq_false_iff_ne.mpr
        intro z
        exact nd.1 (List.mem_map.mpr ⟨(x, u), h, z⟩)
      rw [n]
      exact ih nd.2 h
section
variable {P : Program} {w : World} {K : PySem.W.Frag} {mg : Str → Option Value} {base : Heap} {q : Str} {params : Arguments} {body : Expr} {scope : Scope} {cap : Str} {ps : List Str} {f C c' : Addr} {ob : Obj} {u : Value} {v : V} {H : Hp} {k : Nat} {tb : TE}
theorem lam_inv {A : Around} {outer : List Env} {s : Shared} {h₁ : Heap} {tk : Nat} {us : List Value} {vs : List V} (L : LamP scope ps cap) (e0 : Env0 P w K mg base A outer s H) (hd : A.handled = none) (hC : s.heap.get? C = some ob) (hob : ob.data = .cell (some u)) (rv : RelV v u) (nC : H C = none)
    (r : Vals vs us) (hl : vs.length = ps.length) (hns : h₁.Ns s.heap.objs.size fun y => (ps.zip us).reverse.lookup y) (kp : ∀ b o, s.heap.get? b = some o → h₁.get? b = some o) :
    Inv (lmC P w K mg base (ps ++ [cap]) A outer s H q scope f c' cap C) [] (vs.map some ++ [some v]) H { s with heap := h₁, toks := tk } := by
  have noA : ∀ b : Addr, b ∉ (lmC P w K mg base (ps ++ [cap]) A outer s H q scope f c' cap C).ex := fun b z => nomatch (show b ∈ ([] : List Addr) from z)
  have one : ∀ {y : Str} {c : Addr}, ([(cap, C)] : List (Str × Addr)).lookup y = some c → y = cap ∧ c = C := fun {y c} e => by
    rw [List.lookup_cons] at e
    split at e
    · rename_i h
      exact ⟨eq_of_beq h, (Option.some.inj e).symm⟩
    · cases e
  have self : ([(cap, C)] : List (Str × Addr)).lookup cap = some C := by rw [List.lookup_cons, beq_self_eq_true]
  refine ⟨⟨e0.mod, L.kind, rfl, rfl, Nat.le_refl _, fun y z c e1 e2 => (one e1).1.trans (one e2).1.symm, fun y hy => ?_, fun y c z _ => (nomatch (show false = true from z)), fun _ => hd, Around.frames_deeper e0.frames, .inr ⟨rfl, rfl⟩, fun b z => absurd z (noA b), e0.bs, e0.bsz, fun b _ _ => noA b, fun b z => absurd z (noA b), e0.funs, e0.frf⟩,
    rfl, e0.bare, Un.kept kp, ⟨_, hns, fun i y x e1 e2 e3 => ?_⟩, fun y c e => ?_, e0.hok.fresh (Nat.le_refl _), fun y c e => ?_, fun p hp => (nomatch (show p ∈ ([] : List (Addr × Obj)) from hp)), e0.hok.kept kp, ?_⟩
  · have hy : scope.names.lookup y = some .cell ∨ scope.names.lookup y = some .free := hy
    rcases hy with hy | hy
    · exact absurd rfl (L.nocell _ (PySem.mem_of_lookup hy))
    · rw [L.only y hy]
      exact ⟨C, self⟩
  · have e1 : (ps ++ [cap])[i]? = some y := e1
    by_cases hi : i < ps.length
    · rw [List.getElem?_append_left hi] at e1
      rw [List.getElem?_append_left (by rw [List.length_map, hl]; exact hi), List.getElem?_map] at e2
      obtain ⟨x0, hx0, ex⟩ := Option.map_eq_some_iff.mp e2
      cases ex
      obtain ⟨u0, hu0, r0⟩ := r.get hx0
      refine ⟨u0, r0, .inl ⟨L.loc y (List.mem_of_getElem? e1), ?_⟩⟩
      have hlen : ps.length = us.length := hl.symm.trans r.length
      have hm : (y, u0) ∈ ps.zip us := List.mem_of_getElem? (i := i) (by rw [List.getElem?_zip_eq_some]; exact ⟨e1, hu0⟩)
      refine lookup_nodup ?_ (List.mem_reverse.mpr hm)
      rw [List.map_reverse, List.map_fst_zip (by omega)]
      exact List.pairwise_reverse.mpr (L.nd.imp fun h z => h z.symm)
    · have hie : i = ps.length := by
        have := (List.getElem?_eq_some_iff.mp e1).1
        rw [List.length_append] at this
        simp at this
        omega
      subst hie
      rw [List.getElem?_append_right (Nat.le_refl _), Nat.sub_self] at e1
      rw [List.getElem?_append_right (by rw [List.length_map, hl]; exact Nat.le_refl _), List.length_map, hl, Nat.sub_self] at e2
      cases e1
      cases e2
      exact ⟨u, rv, .inr ⟨.inr L.free, C, self, ob, kp _ _ hC, hob⟩⟩
  · obtain ⟨rfl, rfl⟩ := one e
    exact ⟨_, ob, kp _ _ hC, hob⟩
  · obtain ⟨rfl, rfl⟩ := one e
    exact nC
  · rw [List.length_append, List.length_map, hl]
    show _ = (ps ++ [cap]).length
    rw [List.length_append]
    rfl
/-- what a lambda asks: its body's reading, the cell forgotten meanwhile -/
def spL (tb : TE) (C : Addr) (ob : Obj) (v : V) (n : Nat) : List V → Hp → VK → Prop := fun vs HZ Q => vs.length = n ∧ tb (vs.map some ++ [some v]) (hid C HZ) fun z H' => Q z (upd H' C (CelO C ob))
/-- THE RULE: a lambda by its body -/
theorem lam_fnp (L : LamP scope ps cap) (hf : H f = some (LamO f q params body scope cap C c')) (hc : H c' = some (LamX.CodeO c' q)) (hC : H C = some (CelO C ob)) (hob : ob.data = .cell (some u)) (rv : RelV v u)
    (hbind : ∀ (pm cv ctv : Value) (us : List Value), us.length = ps.length → bindArgs (PySem.W.kla_fn "<lambda>" q params body scope [(cap, C)] pm cv ctv) ⟨us, []⟩ = pure (ps.zip us))
    (hbody : ∀ (A : Around) (outer : List Env) (s : Shared) (H : Hp), Room k (A.deeper (PySem.W.envX q scope s.heap.objs.size f (.ref c') [(cap, C)])) → PE (lmC P w K mg base (ps ++ [cap]) A outer s H q scope f c' cap C) body tb) :
    FnP P w K mg base (k + 1) H f (spL tb C ob v ps.length) := by
  refine ⟨fun Z pins σ HZ s hP hw I sm => ?_, fun Z pins σ HZ s us vs Q hP hw hK hm hb hr I sm r h => ?_⟩
  · have z : ObjOk Z.prog Z.w HZ s.heap f (LamO f q params body scope cap C c') := I.hok f _ (sm _ _ hf)
    obtain ⟨pm, ctv, e⟩ := z.1
    exact ⟨_, _, _, _, e⟩
  · subst hP hw hK hm hb
    obtain ⟨hl, ht⟩ := h
    have zf : ObjOk Z.prog Z.w HZ s.heap f (LamO f q params body scope cap C c') := I.hok f _ (sm _ _ hf)
    obtain ⟨pm, ctv, of1⟩ := zf.1
    have zc : ObjOk Z.prog Z.w HZ s.heap c' (LamX.CodeO c' q) := I.hok c' _ (sm _ _ hc)
    obtain ⟨oc, ws, t, hoc, hdc, hvc⟩ := zc.1
    have cC := sm _ _ hC
    have oC := celO_get I.hok cC
    have e0 := I.env0
    have nfr : ∀ b ∈ frs Z.stack, hid C HZ b = none := fun b hb => by
      rw [hid_ne (fun z => by have := I.stkFree b hb; rw [z, cC] at this; cases this)]
      exact I.stkFree b hb
    have e1 : Env0 Z.prog Z.w Z.K Z.mg Z.base Z.A Z.stack s (hid C HZ) := ⟨e0.frames, e0.mod, fun b o e => ⟨(e0.bs b o e).1, by
      unfold hid
      split
      · rfl
      · exact (e0.bs b o e).2⟩, e0.bsz, e0.funs, nfr, hok_hid I.hok cC, e0.bare⟩
    have rc : codeAny (model Z.prog Z.w) Z.A (.call (.ref f) ⟨us, []⟩) (fun r s' => match r with
        | .ok (.ret x) => CE Z.stack Z.prog Z.w HZ s Q x s'
        | _ => False) s := by
      refine PySem.W.kla_callFunE hr.depth of1 rfl L.co L.gen rfl ⟨c', oc, ws, t, rfl, hoc, hdc, hvc⟩ ?_
      rw [hbind _ _ _ us (r.length.symm.trans hl)]
      refine wpAny_pure (wpAny_newFunctionEnv L.nocell (fun y hy => L.loc y.1 (List.of_mem_zip hy).1) (fun h₁ hns hsb => ⟨I.nolimit.fresh _ hsb, ?_⟩) L.kind)
      show codeAny _ _ (.expr body (PySem.W.envX q scope s.heap.objs.size f (.ref c') [(cap, C)])) _ _
      have kp : ∀ b o, s.heap.get? b = some o → h₁.get? b = some o := fun b o e => hsb.extBut b o (Nat.ne_of_lt (Heap.lt_size e)) (Heap.get?_push_of_some _ e)
      have J := lam_inv (q := q) (f := f) (c' := c') (tk := s.toks + (ps.zip us).length) L e1 hr.hd oC hob rv hid_same r hl hns kp
      refine PySem.W.kla_codeExpr (wpAny_mono ((hbody Z.A Z.stack s (hid C HZ) (hr.deeper _)).run [] _ _ _ _ J ht) (fun x s' hq => ?_) fun _ _ z => z.elim)
      obtain ⟨y, H', J', rx, qx⟩ := hq
      have ub : Un (frs Z.stack) [] (hid C HZ) H' s.heap s'.heap := J'.base
      have keep : s'.heap.get? C = some ob := ub.keep C ob oC hid_same (fun z => by have := I.stkFree C z; rw [cC] at this; cases this) (by simp)
      exact ⟨y, _, J'.os, J'.bare, un_in ub cC oC, hok_back J'.hok (ub.free C ob oC hid_same (by simp)) keep, rx, qx⟩
    refine wpAny_call (codeAny_mono rc fun r s' hq => ?_)
    cases r with
    | error e => exact hq.elim
    | ok fl =>
      cases fl with
      | ret x => exact I.after hq
      | next => exact hq.elim
      | brk => exact hq.elim
      | cont => exact hq.elim
end
end Pk
end
section
set_option maxHeartbeats 4000000
/-! Two lambdas made and handed to a def. -/
namespace Pk
open PySem PySem.Spec PyProof.Rows L2
section
variable {X : Cx} {pins : List (Addr × Obj)} {σ : L2.St} {H : Hp} {s : Shared} {T : List (Addr × Str)} {c P C : Addr} {params : Arguments} {body : Expr} {scope : Scope} {pos : Pos} {ps : List Str} {cap : Str}
theorem lamO_ok {f c' : Addr} {q : Str} {h : Heap} {pm ctv : Value} {Pr : Program} {w : World} (e : h.get? f = some (PySem.W.kla_obj "<lambda>" q params body scope [(cap, C)] pm c' ctv)) : ObjOk Pr w H h f (LamO f q params body scope cap C c') :=
  ⟨⟨pm, ctv, e⟩, ⟨_, e⟩, fun h1 h2 ⟨a, b, z⟩ st => ⟨a, b, st _ z⟩⟩
/-- a lambda is made; its object is known from now on -/
theorem lam_new {E : Value → Shared → Prop} {Q : Value → Shared → Prop} (I : Inv X pins σ H s) (TB : LamX.TabB X.base X.mg c P) (hcode : X.env.code = .ref c) (hm : (P, X.env.qual ++ "<lambda>") ∈ T) (hu : ∀ p ∈ T, p.1 = P → p.2 = X.env.qual ++ "<lambda>") (hT : LamX.Tabs T H)
    (hdef : defaultsOf params X.env = ([], [])) (L : LamP scope ps cap) (hcap : X.env.cells.lookup cap = some C)
    (h : ∀ (f c' : Addr) (H1 : Hp) (s' : Shared), Inv X pins σ H1 s' → LamX.ExtN H H1 → LamX.Tabs T H1 → H f = none → H1 f = some (LamO f (X.env.qual ++ "<lambda>") params body scope cap C c') → H1 c' = some (LamX.CodeO c' (X.env.qual ++ "<lambda>")) → Q (.ref f) s') :
    wpAny (model X.prog X.w) X.A (eval (.Lambda params body scope pos) X.env) Q E s := by
  obtain ⟨ps0, hP, ht, ha⟩ := hT _ hm
  have hclo : closureFor scope X.env = pure [(cap, C)] := by
    have hfree : ∀ y ∈ scope.names, y.2 = .free → ∃ c, X.env.cells.lookup y.1 = some c := fun y hy e => ⟨C, by rw [L.need y hy e]; exact hcap⟩
    rw [closure_ok hfree, L.clo _ _ hcap]
  refine PySem.W.kla_eval hdef ?_
  have bP : s.heap.BuiltinsAt X.mg P := TB.bm.keeps I.bk
  have hP' : s.heap.get? P = some { cls := .none, data := .fields ps0 } := I.hok P _ hP
  -- the new object is tracked
  have last : ∀ {H1 : Hp} {h' : Heap} {tk : Nat} {f c' : Addr} {pm ctv : Value}, Inv X pins σ H1 { s with heap := h', toks := tk } → h'.objs.size = f → LamX.ExtN H H1 → LamX.Tabs T H1 → H1 c' = some (LamX.CodeO c' (X.env.qual ++ "<lambda>")) → s.heap.objs.size ≤ f →
      Q (.ref f) { s with heap := h'.push (PySem.W.kla_obj "<lambda>" (X.env.qual ++ "<lambda>") params body scope [(cap, C)] pm c' ctv), toks := tk } := fun {H1 h' tk f c' pm ctv} I1 hf e1 t1 hc' hsz => by
    subst hf
    have nf : H1 h'.objs.size = none := I1.hok.fresh (Nat.le_refl _)
    have I2 := I1.laid (h' := h'.push (PySem.W.kla_obj "<lambda>" (X.env.qual ++ "<lambda>") params body scope [(cap, C)] pm c' ctv)) (t' := tk) (o := LamO h'.objs.size (X.env.qual ++ "<lambda>") params body scope cap C c') (fun b o e => Heap.get?_push_of_some _ e) (Nat.le_refl _) (lamO_ok (Heap.get?_push_size _ rfl))
    refine h h'.objs.size c' _ _ I2 (e1.trans (LamX.ExtN.of (same_new nf))) (t1.ext (same_new nf)) (I.hok.fresh hsz) upd_same ?_
    rw [upd_ne (ne_of_none hc' nf)]
    exact hc'
  cases hc : codeAmong pos ps0.toList with
  | some cv =>
    obtain ⟨c', rfl, hco⟩ := ha pos cv hc
    refine PySem.W.kla_makeFunctionHit (mg := X.mg) (c := c) (P := P) (ps := ps0) hclo I.ok.glob (I.mod.glob.keeps I.bk) hcode (TB.code.keeps I.bk) hP' ht hc bP fun ctv h' tk hx hsz => ?_
    exact last (I.kept (t' := tk) hx) rfl (LamX.ExtN.refl H) hT hco hsz
  | none =>
    refine PySem.W.kla_makeFunction (mg := X.mg) (c := c) (P := P) (ps := ps0) hclo I.ok.glob (I.mod.glob.keeps I.bk) hcode (TB.code.keeps I.bk) hP' ht hc TB.gP bP fun c' ctv h' tk hx hge hlt hrec htb => ?_
    obtain ⟨c2, oc, ws, t, e2, hoc, hd, hv⟩ := hrec
    cases e2
    have nC : H c' = none := I.hok.fresh hge
    have I1 := LamX.inv_table (t' := tk) (more := #[rawInt pos.line, rawInt pos.col, .ref c']) (h' := h') I hP hx htb hge ⟨oc, ws, t, hoc, hd, hv⟩
    have ext : LamX.ExtN H (upd (upd H P (.tbl (ps0 ++ #[rawInt pos.line, rawInt pos.col, .ref c']))) c' (LamX.CodeO c' (X.env.qual ++ "<lambda>"))) := fun b o e n => by
      have n1 : b ≠ P := fun z => n ps0 (by rw [z, hP] at e; exact (Option.some.inj e).symm)
      rw [upd_ne (ne_of_none e nC), upd_ne n1]
      exact e
    refine last I1 rfl ext (fun p hp => ?_) upd_same (Nat.le_trans hge (Nat.le_of_lt hlt))
    by_cases hb : p.1 = P
    · rw [hu p hp hb, hb]
      have eL : (ps0 ++ #[rawInt pos.line, rawInt pos.col, .ref c']).toList = ps0.toList ++ [rawInt pos.line, rawInt pos.col, .ref c'] := by simp
      refine ⟨_, (upd_ne (ne_of_none hP nC)).trans upd_same, by rw [eL]; exact PySem.TriplesOk_snoc _ _ _ _ ht, fun p' cv hcv => ?_⟩
      rw [eL] at hcv
      rcases LamX.among_app _ ht hcv with z | z
      · obtain ⟨c0, e1, e2⟩ := ha p' cv z
        exact ⟨c0, e1, ext _ _ e2 LamX.codeO_ne⟩
      · exact ⟨c', z, upd_same⟩
    · obtain ⟨qs, a1, a2, a3⟩ := hT p hp
      refine ⟨qs, (upd_ne (ne_of_none a1 nC)).trans ((upd_ne hb).trans a1), a2, fun p' cv hcv => ?_⟩
      obtain ⟨c0, e1, e2⟩ := a3 p' cv hcv
      exact ⟨c0, e1, ext _ _ e2 LamX.codeO_ne⟩
end
/-- a lambda as an argument -/
theorem pe_lamN {X : Cx} {T : List (Addr × Str)} {c P : Addr} {params : Arguments} {body : Expr} {scope : Scope} {pos : Pos} {ps : List Str} {cap : Str} (TB : LamX.TabB X.base X.mg c P) (hcode : X.env.code = .ref c) (hm : (P, X.env.qual ++ "<lambda>") ∈ T) (hu : ∀ p ∈ T, p.1 = P → p.2 = X.env.qual ++ "<lambda>")
    (hdef : defaultsOf params X.env = ([], [])) (L : LamP scope ps cap) (hv : X.env.scope.names.lookup cap = some .cell) :
    PE X (.Lambda params body scope pos) (fun _ H Q => LamX.Tabs T H ∧ ∀ (C f c' : Addr) (H1 : Hp), X.env.cells.lookup cap = some C → LamX.ExtN H H1 → LamX.Tabs T H1 → H1 f = some (LamO f (X.env.qual ++ "<lambda>") params body scope cap C c') → H1 c' = some (LamX.CodeO c' (X.env.qual ++ "<lambda>")) → Q (.ref f) H1) := by
  refine ⟨fun pins s σ H Q I h => ?_⟩
  obtain ⟨hT, go⟩ := h
  obtain ⟨C, hcap⟩ := I.ok.has cap (.inl hv)
  exact lam_new I TB hcode hm hu hT hdef L hcap fun f c' H1 s' I1 x1 T1 n1 o1 k1 => ⟨.ref f, H1, I1, rfl, go C f c' H1 hcap x1 T1 o1 k1⟩
/-! ### x(e, lambda .., lambda ..) -/
def tTwo (Pr : Program) (w : World) (K : PySem.W.Frag) (mg : Str → Option Value) (base : Heap) (T : List (Addr × Str)) (k i n1 n2 : Nat) (tb1 tb2 : TE) (sp : Sp) (te : TE) : TE := fun σ H Q => te σ H fun x H1 => LamX.Tabs T H1 ∧ ∃ v, σ[i]? = some (some v) ∧
  ∀ (H2 : Hp) (C f1 f2 : Addr) (ob : Obj), LamX.ExtN H1 H2 → LamX.Tabs T H2 → H2 C = none → FnP Pr w K mg base k (upd H2 C (CelO C ob)) f1 (spL tb1 C ob v n1) → FnP Pr w K mg base k (upd H2 C (CelO C ob)) f2 (spL tb2 C ob v n2) →
    sp [x, .ref f1, .ref f2] (upd H2 C (CelO C ob)) (fun z H5 => H5 C = some (CelO C ob) ∧ Q z (hid C H5)) E0
section
variable {X : Cx} {T : List (Addr × Str)} {c Pt : Addr} {x cap : Str} {qps ps1 ps2 : List Str} {sp : Sp} {e b1 b2 : Expr} {pr1 pr2 : Arguments} {sc1 sc2 : Scope} {p l1 l2 pos : Pos} {te tb1 tb2 : TE} {i j k kl : Nat}
theorem pe_two (cal : Cal X.prog X.w X.K X.mg X.base k x qps sp) (hr : Room j X.A) (hg : Gl X x) (he : PE X e te) (TB : LamX.TabB X.base X.mg c Pt) (hcode : X.env.code = .ref c) (hm : (Pt, X.env.qual ++ "<lambda>") ∈ T) (hu : ∀ p ∈ T, p.1 = Pt → p.2 = X.env.qual ++ "<lambda>")
    (La : LamP sc1 ps1 cap) (Lb : LamP sc2 ps2 cap) (hN : X.N[i]? = some cap) (hv : X.env.scope.names.lookup cap = some .cell) (hfn : X.fn cap = true) (hk : k ≤ j := by decide)
    (d1 : defaultsOf pr1 X.env = ([], []) := by rfl) (d2 : defaultsOf pr2 X.env = ([], []) := by rfl)
    (bd1 : ∀ (q : Str) (C : Addr) (pm cv ctv : Value) (us : List Value), us.length = ps1.length → bindArgs (PySem.W.kla_fn "<lambda>" q pr1 b1 sc1 [(cap, C)] pm cv ctv) ⟨us, []⟩ = pure (ps1.zip us))
    (bd2 : ∀ (q : Str) (C : Addr) (pm cv ctv : Value) (us : List Value), us.length = ps2.length → bindArgs (PySem.W.kla_fn "<lambda>" q pr2 b2 sc2 [(cap, C)] pm cv ctv) ⟨us, []⟩ = pure (ps2.zip us))
    (hb1 : ∀ (A : Around) (outer : List Env) (s : Shared) (H : Hp) (f c' C : Addr), Room kl (A.deeper (PySem.W.envX (X.env.qual ++ "<lambda>") sc1 s.heap.objs.size f (.ref c') [(cap, C)])) → PE (lmC X.prog X.w X.K X.mg X.base (ps1 ++ [cap]) A outer s H (X.env.qual ++ "<lambda>") sc1 f c' cap C) b1 tb1)
    (hb2 : ∀ (A : Around) (outer : List Env) (s : Shared) (H : Hp) (f c' C : Addr), Room kl (A.deeper (PySem.W.envX (X.env.qual ++ "<lambda>") sc2 s.heap.objs.size f (.ref c') [(cap, C)])) → PE (lmC X.prog X.w X.K X.mg X.base (ps2 ++ [cap]) A outer s H (X.env.qual ++ "<lambda>") sc2 f c' cap C) b2 tb2)
    (hdb : (x == ("__debug__" : Str)) = false := by decide) (hst : starEach [e, .Lambda pr1 b1 sc1 l1, .Lambda pr2 b2 sc2 l2] X.env = (false, eval e X.env) :: starEach [.Lambda pr1 b1 sc1 l1, .Lambda pr2 b2 sc2 l2] X.env := by rfl)
    (hpl : (backTo pos (starEach [.Lambda pr1 b1 sc1 l1, .Lambda pr2 b2 sc2 l2] X.env)).any (·.1) = false := by rfl)
    (hs2 : starEach [.Lambda pr1 b1 sc1 l1, .Lambda pr2 b2 sc2 l2] X.env = (false, eval (.Lambda pr1 b1 sc1 l1) X.env) :: starEach [.Lambda pr2 b2 sc2 l2] X.env := by rfl) (hs3 : starEach [.Lambda pr2 b2 sc2 l2] X.env = (false, eval (.Lambda pr2 b2 sc2 l2) X.env) :: starEach [] X.env := by rfl)
    (tmono : ∀ {σ : L2.St} {H : Hp} {Q Q' : VK}, te σ H Q → (∀ v H, Q v H → Q' v H) → te σ H Q') :
    PE X (.Call (.Name x p) [e, .Lambda pr1 b1 sc1 l1, .Lambda pr2 b2 sc2 l2] [] pos) (tTwo X.prog X.w X.K X.mg X.base T (kl + 1) i ps1.length ps2.length tb1 tb2 sp te) := by
  obtain ⟨g, fd, F, hmg, kp, bds⟩ := cal.ex
  refine ⟨fun pins s σ H Q I h => ?_⟩
  refine wpAny_Call_Name_kw (ld_glob I hg hmg ?_ hdb)
  have hvis : Vis X.env.scope cap := .inr (.inl hv)
  have ha := pa_cons he (pa_cons (pe_lamN (body := b1) (pos := l1) TB hcode hm hu d1 La hv) (pa_cons (pe_lamN (body := b2) (pos := l2) TB hcode hm hu d2 Lb hv) (pa_nil (X := X)) hs3) hs2) hst
  refine PySem.W.callWith_K (h₀ := X.base) I.ok.mod.kin kp (thn (ha.run pos pins s σ H (fun vs H3 => ∃ (y : V) (f1 f2 c1 c2 C : Addr) (H1 : Hp) (v : V), vs = [y, .ref f1, .ref f2] ∧ X.env.cells.lookup cap = some C ∧ σ[i]? = some (some v) ∧ LamX.ExtN H1 H3 ∧ LamX.Tabs T H3 ∧
      H3 f1 = some (LamO f1 (X.env.qual ++ "<lambda>") pr1 b1 sc1 cap C c1) ∧ H3 c1 = some (LamX.CodeO c1 (X.env.qual ++ "<lambda>")) ∧ H3 f2 = some (LamO f2 (X.env.qual ++ "<lambda>") pr2 b2 sc2 cap C c2) ∧ H3 c2 = some (LamX.CodeO c2 (X.env.qual ++ "<lambda>")) ∧
      ∀ (H2 : Hp) (C f1 f2 : Addr) (ob : Obj), LamX.ExtN H1 H2 → LamX.Tabs T H2 → H2 C = none → FnP X.prog X.w X.K X.mg X.base (kl + 1) (upd H2 C (CelO C ob)) f1 (spL tb1 C ob v ps1.length) → FnP X.prog X.w X.K X.mg X.base (kl + 1) (upd H2 C (CelO C ob)) f2 (spL tb2 C ob v ps2.length) →
        sp [y, .ref f1, .ref f2] (upd H2 C (CelO C ob)) (fun z H5 => H5 C = some (CelO C ob) ∧ Q z (hid C H5)) E0) I ?_) fun us s3 ⟨vs, H3, I3, r, y, f1, f2, c1, c2, C, H1, v, e1, hcap, hs, x13, T3, xo1, xk1, o2, k2, go⟩ => ⟨I3.kIn, ?_⟩) hst hpl
  · refine tmono h fun y H1 ⟨hT, v, hs, go⟩ => ⟨hT, fun C f1 c1 H2 hcap x2 T2 o1 k1 => ⟨T2, fun C' f2 c2 H3 hcap' x3 T3 o2 k2 => ?_⟩⟩
    have eC : C' = C := Option.some.inj (hcap'.symm.trans hcap)
    subst eC
    exact ⟨y, f1, f2, c1, c2, C', H1, v, rfl, hcap, hs, x2.trans x3, T3, x3 _ _ o1 (fun q z => by unfold LamO at z; cases z), x3 _ _ k1 LamX.codeO_ne, o2, k2, go⟩
  subst e1
  obtain ⟨u, us', rfl, ry, r⟩ : ∃ u us', us = u :: us' ∧ RelV y u ∧ Vals [.ref f1, .ref f2] us' := by
    cases r with
    | cons a t => exact ⟨_, _, rfl, a, t⟩
  obtain ⟨rfl⟩ : us' = [.ref f1, .ref f2] := by
    cases r with
    | cons a t => cases t with
      | cons b t' =>
        cases t'
        cases a
        cases b
        rfl
  -- the cell
  have nC : H3 C = none := I3.freeC cap C hcap
  obtain ⟨m, ns, hloc⟩ := I3.loc
  obtain ⟨u2, rv, hl⟩ := hloc i cap v hN hs hvis
  obtain ⟨ob, hob, hdat⟩ : s3.heap.IsCell C (some u2) := by
    rcases hl with ⟨k', _⟩ | ⟨_, c0, e', z⟩
    · have k' : X.env.scope.names.lookup cap = some .local := k'
      rw [hv] at k'
      cases k'
    · rw [hcap] at e'
      cases e'
      exact z
  have s34 : Same H3 (upd H3 C (CelO C ob)) := same_new nC
  have F1 := lam_fnp (P := X.prog) (w := X.w) (K := X.K) (mg := X.mg) (base := X.base) (k := kl) (v := v) (tb := tb1) La (s34 _ _ xo1) (s34 _ _ xk1) upd_same hdat rv (fun pm cv ctv us hl => bd1 _ C pm cv ctv us hl) (fun A outer s H hr' => hb1 A outer s H f1 c1 C hr')
  have F2 := lam_fnp (P := X.prog) (w := X.w) (K := X.K) (mg := X.mg) (base := X.base) (k := kl) (v := v) (tb := tb2) Lb (s34 _ _ o2) (s34 _ _ k2) upd_same hdat rv (fun pm cv ctv us hl => bd2 _ C pm cv ctv us hl) (fun A outer s H hr' => hb2 A outer s H f2 c2 C hr')
  have sp0 := go H3 C f1 f2 ob x13 T3 nC F1 F2
  -- the call
  have e0 := I3.env0
  have hC0 : X.s_0.heap.objs.size ≤ C := I3.ok.cab cap C hfn hcap
  have nfr : C ∉ frs X.stack := fun z => by
    rcases List.mem_cons.mp (I3.stkSub C z) with e | e
    · obtain ⟨o, es, ep, ho, hd, _⟩ := ns
      rw [← e, hob] at ho
      cases ho
      rw [hdat] at hd
      cases hd
    · obtain ⟨_, o, ho, _⟩ := I3.ok.funs.mem e
      exact absurd (Heap.lt_size ho) (Nat.not_lt_of_le hC0)
  have e1 : Env0 X.prog X.w X.K X.mg X.base X.A X.stack s3 (upd H3 C (CelO C ob)) := ⟨e0.frames, e0.mod, fun b o e => ⟨(e0.bs b o e).1, by
    have nb : b ≠ C := fun z => by
      have h1 : C < X.base.objs.size := by rw [← z]; exact Heap.lt_size e
      exact absurd (Nat.lt_of_lt_of_le h1 I3.ok.bsz) (Nat.not_lt_of_le hC0)
    rw [upd_ne nb]
    exact (e0.bs b o e).2⟩, e0.bsz, e0.funs, fun b hb => by rw [upd_ne (fun z => nfr (by rw [← z]; exact hb))]; exact e0.frf b hb, hok_back I3.hok nC hob, e0.bare⟩
  have len := F.len _ _ _ _ sp0
  have run := F.run X.A X.stack s3 (upd H3 C (CelO C ob)) ⟨[u, .ref f1, .ref f2], []⟩ [u, .ref f1, .ref f2] [y, .ref f1, .ref f2] _ E0 (hr.mono hk) e1 (by
    have := bds s3 [u, .ref f1, .ref f2] I3.kIn (by simpa using len)
    rwa [List.append_nil] at this) (.cons ry (.cons rfl (.cons rfl .nil))) sp0
  refine wpAny_call (codeAny_mono run fun r s5 hq => ?_)
  cases r with
  | error e => exact (show False from hq).elim
  | ok fl =>
    cases fl with
    | ret z =>
      obtain ⟨zv, H5, os, bare, un, hok, rz, hC5, q5⟩ := hq
      exact I3.after ⟨zv, hid C H5, os, bare, un_out un nC hob hC5 hok, hok_hid hok hC5, rz, q5⟩
    | next => exact False.elim hq
    | brk => exact False.elim hq
    | cont => exact False.elim hq
end
end Pk
namespace Pk
open PySem PySem.Spec PyProof.Rows L2
/-! ### a lambda's names, checked -/
def frees (names : List (Str × NameKind)) : List Str := (names.filter fun y => y.2 == .free).map (·.1)
theorem cloFrom_eq (cells : List (Str × Addr)) : ∀ (names : List (Str × NameKind)) (acc : List (Str × Addr)), cloFrom cells names acc = ((frees names).map fun n => (n, (cells.lookup n).getD 0)).reverse ++ acc
  | [], acc => rfl
  | (n, k) :: r, acc => by
    unfold cloFrom
    by_cases h : (k == .free) = true
    · rw [if_pos h, cloFrom_eq cells r]
      have e : frees ((n, k) :: r) = n :: frees r := by
        unfold frees
        rw [List.filter_cons, if_pos h]
        rfl
      rw [e, List.map_cons, List.reverse_cons, List.append_assoc]
      rfl
    · rw [if_neg h, cloFrom_eq cells r]
      have e : frees ((n, k) :: r) = frees r := by
        unfold frees
        rw [List.filter_cons, if_neg h]
      rw [e]
def lamPB (scope : Scope) (ps : List Str) (cap : Str) : Bool :=
  decide (scope.kind = .function) && (!scope.isCoroutine && (!scope.isGenerator && ((scope.names.all fun y => !decide (y.2 = .cell)) && ((ps.all fun y => decide (scope.names.lookup y = some .local)) && (decide (scope.names.lookup cap = some .free) && (decide (frees scope.names = [cap]) && (decide ps.Nodup && !decide (cap ∈ ps))))))))
theorem lamP_by {scope : Scope} {ps : List Str} {cap : Str} (h : lamPB scope ps cap = true) : LamP scope ps cap := by
  unfold lamPB at h
  simp only [Bool.and_eq_true, Bool.not_eq_true', decide_eq_true_eq, decide_eq_false_iff_not, List.all_eq_true] at h
  obtain ⟨h1, h2, h3, h4, h5, h6, h7, h8, h9⟩ := h
  have mem : ∀ y ∈ scope.names, y.2 = .free → y.1 = cap := fun y hy e => by
    have : y.1 ∈ frees scope.names := List.mem_map.mpr ⟨y, List.mem_filter.mpr ⟨hy, by rw [e]; rfl⟩, rfl⟩
    rw [h7] at this
    simpa using this
  refine ⟨h1, h2, h3, h4, h5, h6, fun y hy => mem (y, .free) (PySem.mem_of_lookup hy) rfl, h8, h9, fun cells C hC => ?_, mem⟩
  rw [cloFrom_eq, h7]
  show [(cap, (cells.lookup cap).getD 0)] ++ [] = _
  rw [hC]
  rfl
end Pk
namespace Pk
open PySem PySem.Spec PyProof.Rows L2
theorem pe_pgetK {X : Cx} {P : Program} {w : World} {o i : Expr} {pos : Pos} {td ty : TE} (hu : X.A.units + 1 < cLine) (ho : PE X o td) (hi : PE X i ty) (hs : NoSl i) (hP : X.prog = P := by rfl) (hw : X.w = w := by rfl) : PE X (.Subscript o i pos) (tPGet P w td ty) := by
  subst hP hw
  exact pe_pget hu ho hi hs
end Pk
end
section
set_option maxHeartbeats 4000000
namespace Pk
open PySem PySem.Spec PyProof.Rows L2
section
variable {P : Program} {w : World} {K : PySem.W.Frag} {mg : Str → Option Value} {base : Heap} {CP CT : Addr}
abbrev N_is_integer : List Str := ["value"]
theorem sc_is_integer : FnScope N_is_integer ["value"] (defScope s_is_integer) := ⟨rfl, rfl, rfl, by decide +kernel, rfl, by decide +kernel, by decide +kernel⟩
def sp_is_integer : Sp := fun vs H Q _ => ∃ i, vs = [.int i] ∧ Q (.bl true) H
theorem k_is_integer (W : Ws K mg CP CT) (D : Def K mg "is_integer" s_is_integer) : Cal P w K mg base 1 "is_integer" ["value"] sp_is_integer := by
  refine D.cal sc_is_integer (fun _ _ _ _ _ _ us hl => match us, hl with | [_], _ => rfl) (fun vs H Q E h => ?_) fun f cdv A outer s H vs Q E hr h => ⟨_, (pss_one (ps_ret (pe_and (pe_callB call_isi (by rfl) W.f_isinstance (by decide +kernel) (pa_cons (pv 0) (pa_cons (pe_bltn (v := .ty "int") (u := .type "int") rfl W.f_int (by decide +kernel) rfl) pa_nil))) (pe_one (pe_not (pe_callB call_isi (by rfl) W.f_isinstance (by decide +kernel) (pa_cons (pv 0) (pa_cons (pe_bltn (v := .ty "bool") (u := .type "bool") rfl W.f_bool (by decide +kernel) rfl) pa_nil)))))))), ?_⟩
  · obtain ⟨i, rfl, _⟩ := h; rfl
  · obtain ⟨i, rfl, q⟩ := h
    exact ⟨_, rfl, _, _, _, _, true, rfl, .ty _, .base (.int i), kit_ty (by decide +kernel), true, rfl, _, rfl, _, _, _, _, false, rfl, .ty _, .base (.int i), kit_ty (by decide +kernel), false, rfl, q⟩
abbrev N_is_count : List Str := ["value"]
theorem sc_is_count : FnScope N_is_count ["value"] (defScope s_is_count) := ⟨rfl, rfl, rfl, by decide +kernel, rfl, by decide +kernel, by decide +kernel⟩
def sp_is_count : Sp := fun vs H Q _ => ∃ i, vs = [.int i] ∧ Q (.bl (decide (0 ≤ i))) H
theorem k_is_count (W : Ws K mg CP CT) (D : Def K mg "is_count" s_is_count) (c_is_integer : Cal P w K mg base 1 "is_integer" ["value"] sp_is_integer) : Cal P w K mg base 2 "is_count" ["value"] sp_is_count := by
  refine D.cal sc_is_count (fun _ _ _ _ _ _ us hl => match us, hl with | [_], _ => rfl) (fun vs H Q E h => ?_) fun f cdv A outer s H vs Q E hr h => ⟨_, (pss_one (ps_ret (pe_and (pe_cal c_is_integer hr rfl (pa_cons (pv 0) pa_nil)) (pe_one (pe_cmpR op_ge (pv 0) pe_int (nomark _)))))), ?_⟩
  · obtain ⟨i, rfl, _⟩ := h; rfl
  · obtain ⟨i, rfl, q⟩ := h
    exact ⟨_, rfl, i, rfl, true, rfl, _, rfl, _, _, rfl, rfl, q⟩
abbrev N_is_name : List Str := ["value", "sign"]
theorem sc_is_name : FnScope N_is_name ["value"] (defScope s_is_name) := ⟨rfl, rfl, rfl, by decide +kernel, rfl, by decide +kernel, by decide +kernel⟩
def sp_is_name : Sp := fun vs H Q _ => ∃ x, vs = [.str x] ∧ NameOk x ∧ ∀ H', Same H H' → Q (.bl true) H'
theorem k_is_name (W : Ws K mg CP CT) (D : Def K mg "is_name" s_is_name) : Cal P w K mg base 1 "is_name" ["value"] sp_is_name := by
  refine D.cal sc_is_name (fun _ _ _ _ _ _ us hl => match us, hl with | [_], _ => rfl) (fun vs H Q E h => ?_) fun f cdv A outer s H vs Q E hr h => ⟨_, (pss_cons (ps_if (PW.pt (pw_or (pt_not (pt_val (pe_callB call_isi (by rfl) W.f_isinstance (by decide +kernel) (pa_cons (pv 0) (pa_cons (pe_bltn (v := .ty "str") (u := .type "str") rfl W.f_str (by decide +kernel) rfl) pa_nil))))) (pw_or1 (pt_not (pt_chain op_le op_le pe_int (pe_callB call_len_str (by rfl) W.f_len (by decide +kernel) (pa_cons (pv 0) pa_nil)) (C8.pe_gc rfl W.c_MOST_LETTERS)))))) (pss_one (ps_ret pe_bl)) pss_nil)
      (pss_one (ps_ret (pe_callB (cr_all rfl) (by rfl) W.f_all (by decide +kernel) (pa_cons (pe_lc (own := [("sign", 1)]) (g := (gName 1)) (tt := tYes) rfl sc_is_name.nd (pi_str (pv 0)) (blkOk_by (own := [("sign", 1)]) (N := N_is_name) (sc := defScope s_is_name) (by decide +kernel)) (fun _ _ _ _ _ => (pg_name (i := 1) sc_is_name.nd rfl (by first | exact Or.inl rfl | exact Or.inr rfl))) (fun _ _ _ _ _ => pts_nil) (fun _ _ _ _ _ => (pe_cmpR op_in_sign (pv 1) (C8.pe_gc rfl W.c_LETTERS) (by rfl)))) pa_nil))))), ?_⟩
  · obtain ⟨i, rfl, _⟩ := h; rfl
  · obtain ⟨x, rfl, ⟨n1, n2, n3⟩, q⟩ := h
    refine ⟨_, rfl, _, _, _, _, true, rfl, .ty _, .base (.str x), kit_ty (by decide +kernel), true, rfl, _, rfl, x, rfl, sz_le (by omega), _, _, rfl, rfl, true, bT (by omega), _, _, rfl, rfl, true, bT (by omega), ?_⟩
    refine ⟨_, rfl, x, rfl, fun D hD => lc_it wk_str (fun i H1 => Same H H1 ∧ H1 D = some (.lst ((List.replicate i true).map V.bl))) ⟨same_new hD, upd_same⟩ (fun _ _ _ _ => trivial) (fun i v H1 H2 hi p y => ?_) fun H1 p => ?_⟩
    · obtain ⟨rfl, c, hc, rfl⟩ := y
      have hm : c ∈ x.cps.toList := by
        have := Array.mem_of_getElem? hc
        simpa using this
      refine ⟨rfl, _, rfl, c, _, rfl, rfl, _, p.2, ?_, Same.mut p.1 hD, ?_⟩
      · rw [List.length_map, List.length_replicate]
        have : i < x.length := hi
        exact sz_lt (by omega)
      · rw [decide_eq_true (n3 c hm)]
        rw [upd_same, List.replicate_succ', List.map_append]
        rfl
    · refine ⟨_, _, rfl, sq p.2, ?_⟩
      have e : (List.replicate x.cps.size true).all id = true := by simp
      rw [e]
      exact q _ p.1
abbrev N_is_list : List Str := ["value"]
theorem sc_is_list : FnScope N_is_list ["value"] (defScope s_is_list) := ⟨rfl, rfl, rfl, by decide +kernel, rfl, by decide +kernel, by decide +kernel⟩
def sp_is_list : Sp := fun vs H Q _ => ∃ a xs, vs = [.ref a] ∧ H a = some (.lst xs) ∧ ∀ H', Same H H' → Q (.bl true) H'
theorem k_is_list (W : Ws K mg CP CT) (D : Def K mg "is_list" s_is_list) : Cal P w K mg base 1 "is_list" ["value"] sp_is_list := by
  refine D.cal sc_is_list (fun _ _ _ _ _ _ us hl => match us, hl with | [_], _ => rfl) (fun vs H Q E h => ?_) fun f cdv A outer s H vs Q E hr h => ⟨_, (pss_one (ps_ret (pe_callB call_isiT (by rfl) W.f_isinstance (by decide +kernel) (pa_cons (pv 0) (pa_cons (pe_tup (pa_cons (pe_bltn (v := .ty "list") (u := .type "list") rfl W.f_list (by decide +kernel) rfl) (pa_cons (pe_bltn (v := .ty "tuple") (u := .type "tuple") rfl W.f_tuple (by decide +kernel) rfl) pa_nil))) pa_nil))))), ?_⟩
  · obtain ⟨a, xs, rfl, _⟩ := h; rfl
  · obtain ⟨a, xs, rfl, ha, q⟩ := h
    refine ⟨_, rfl, by show 2 ≤ sizeLine; decide, fun p hp => ⟨_, _, _, _, _, true, rfl, upd_same, .cons (.ty _) (.cons (.ty _) .nil), .base (.lst (same_new hp a _ ha)), ?_, q _ (same_new hp)⟩⟩
    exact kitAny_cons (b := true) (kit_ty (by decide +kernel)) (fun z => by cases z) (fun _ => rfl)
end
end Pk
end
section
set_option maxHeartbeats 4000000
namespace Pk
open PySem PySem.Spec PyProof.Rows L2
section
variable {P : Program} {w : World} {K : PySem.W.Frag} {mg : Str → Option Value} {base : Heap} {CP CT : Addr}
abbrev N_need_events : List Str := ["events", "at", "event"]
theorem sc_need_events : FnScope N_need_events ["events"] (defScope s_need_events) := ⟨rfl, rfl, rfl, by decide +kernel, rfl, by decide +kernel, by decide +kernel⟩
def sp_need_events : Sp := fun vs H Q _ => ∃ a ev, vs = [.ref a] ∧ EvAt H a ev ∧ ∀ H', Same H H' → Q .non H'
theorem k_need_events (W : Ws K mg CP CT) (D : Def K mg "need_events" s_need_events) (c_is_list : Cal P w K mg base 1 "is_list" ["value"] sp_is_list) (c_is_name : Cal P w K mg base 1 "is_name" ["value"] sp_is_name) : Cal P w K mg base 2 "need_events" ["events"] sp_need_events := by
  refine D.cal sc_need_events (fun _ _ _ _ _ _ us hl => match us, hl with | [_], _ => rfl) (fun vs H Q E h => ?_) fun f cdv A outer s H vs Q E hr h => ⟨_, (pss_cons (ps_if (PW.pt (pw_or (pt_not (pt_val (pe_cal c_is_list hr rfl (pa_cons (pv 0) pa_nil)))) (pw_or1 (pt_not (pt_chain op_le op_le pe_int (pe_callB (len_seqK (K := K)) (by rfl) W.f_len (by decide +kernel) (pa_cons (pv 0) pa_nil)) (C8.pe_gc rfl W.c_MOST_EVENTS)))))) (pss_one ps_never) pss_nil)
      (pss_one (ps_for PassesOwn.never rfl (pi_enum (by rfl) W.f_enumerate (pa_cons (pv 0) pa_nil)) (pg_tupK (K := K) (n := 2) (pgs_cons (pg_name (i := 1) sc_need_events.nd rfl (by first | exact Or.inl rfl | exact Or.inr rfl)) (pgs_cons (pg_name (i := 2) sc_need_events.nd rfl (by first | exact Or.inl rfl | exact Or.inr rfl)) pgs_nil))) (pss_cons (ps_if (pt_not (pt_val (pe_cal c_is_name hr rfl (pa_cons (pv 2) pa_nil)))) (pss_one ps_never) pss_nil)
      (pss_one (ps_if (pt_cmpR (in_seqK (K := K)) (pv 2) (pe_slice sl_list (pv 0) po_none (po_some (pv 1))) (by rfl)) (pss_one ps_never) pss_nil)))))), ?_⟩
  · obtain ⟨a, ev, rfl, _⟩ := h; rfl
  · obtain ⟨a, ev, rfl, e, q⟩ := h
    have hpos : 1 ≤ ev.length := List.length_pos_iff.mpr e.ne
    have hle := e.le
    have hl : (ev.map V.str).length = ev.length := List.length_map ..
    refine ⟨_, rfl, a, _, rfl, e.at_, fun H1 s1 => ⟨true, rfl, _, rfl, a, _, rfl, .inl (sq (s1 _ _ e.at_)), _, _, rfl, rfl, true, bT (by omega), _, _, rfl, rfl, true, bT (by omega), ?_⟩⟩
    refine ⟨_, rfl, a, _, rfl, sq (s1 _ _ e.at_), for_it wk_enum (fun i σ H' => Same H H' ∧ ∃ u v, σ = [some (.ref a), u, v]) ⟨s1, _, _, rfl⟩ (fun i σ H' _ p => sq (p.1 _ _ e.at_)) (fun i v σ H2 H3 hi p y => ?_) fun σ H' p => q _ p.1⟩
    obtain ⟨s2, u, v, rfl⟩ := p
    obtain ⟨T, x, rfl, hT, rfl, hx⟩ := y
    rw [List.getElem?_map] at hx
    obtain ⟨x, hx2, rfl⟩ := Option.map_eq_some_iff.mp hx
    have hxm : x ∈ ev := List.mem_of_getElem? hx2
    have s3 := Same.new (o := .tup [.int (i : Nat), .str x]) s2 hT
    refine ⟨T, _, rfl, st upd_same, rfl, _, _, rfl, _, _, rfl, rfl, _, rfl, x, rfl, e.nm x hxm, fun H4 s4 => ⟨true, rfl, ?_⟩⟩
    have s5 := s3.trans s4
    refine ⟨_, rfl, _, rfl, _, rfl, _, rfl, a, _, rfl, sq (s5 _ _ e.at_), fun p hp => ⟨p, _, rfl, .inl (sq upd_same), rfl, ?_, false, ?_, Same.new s5 hp, _, _, rfl⟩⟩
    · rw [cut_take _ _ (by omega), ← List.map_take]
      exact flat_strs _
    · rw [cut_take _ _ (by omega), ← List.map_take, if_neg Bool.false_ne_true, inV_strs]
      exact bF (not_take e.nd hx2)
abbrev N_need_event : List Str := ["events", "name"]
theorem sc_need_event : FnScope N_need_event ["events", "name"] (defScope s_need_event) := ⟨rfl, rfl, rfl, by decide +kernel, rfl, by decide +kernel, by decide +kernel⟩
def sp_need_event : Sp := fun vs H Q _ => ∃ a ev x, vs = [.ref a, .str x] ∧ SqL' H a ev ∧ x ∈ ev ∧ NameOk x ∧ ∀ H', Same H H' → Q .non H'
theorem k_need_event (W : Ws K mg CP CT) (D : Def K mg "need_event" s_need_event) (c_is_name : Cal P w K mg base 1 "is_name" ["value"] sp_is_name) : Cal P w K mg base 2 "need_event" ["events", "name"] sp_need_event := by
  refine D.cal sc_need_event (fun _ _ _ _ _ _ us hl => match us, hl with | [_, _], _ => rfl) (fun vs H Q E h => ?_) fun f cdv A outer s H vs Q E hr h => ⟨_, (pss_one (ps_if (PW.pt (pw_or (pt_not (pt_val (pe_cal c_is_name hr rfl (pa_cons (pv 1) pa_nil)))) (pw_or1 (pt_cmpR (notIn_seqK (K := K)) (pv 1) (pv 0) (by rfl))))) (pss_one ps_never) pss_nil)), ?_⟩
  · obtain ⟨a, ev, x, rfl, _⟩ := h; rfl
  · obtain ⟨a, ev, x, rfl, e, hx, nx, q⟩ := h
    refine ⟨_, rfl, x, rfl, nx, fun H1 s1 => ⟨true, rfl, _, rfl, _, rfl, a, _, rfl, .inl (sq (s1 _ _ e)), rfl, flat_strs _, false, ?_, q _ s1⟩⟩
    rw [if_pos rfl, inV_strs, decide_eq_true hx]
    rfl
abbrev N_need_ties : List Str := ["events", "ties", "tie"]
theorem sc_need_ties : FnScope N_need_ties ["events", "ties"] (defScope s_need_ties) := ⟨rfl, rfl, rfl, by decide +kernel, rfl, by decide +kernel, by decide +kernel⟩
def sp_need_ties : Sp := fun vs H Q _ => ∃ a b ev ts, vs = [.ref a, .ref b] ∧ EvAt H a ev ∧ TiesAt H b ts ∧ ts.length ≤ 60 ∧ (∀ t ∈ ts, t.1 ∈ ev ∧ t.2.1 ∈ ev ∧ 0 ≤ t.2.2) ∧ ∀ H', Same H H' → Q .non H'
theorem k_need_ties (W : Ws K mg CP CT) (D : Def K mg "need_ties" s_need_ties) (c_is_list : Cal P w K mg base 1 "is_list" ["value"] sp_is_list) (c_need_event : Cal P w K mg base 2 "need_event" ["events", "name"] sp_need_event)
    (c_is_count : Cal P w K mg base 2 "is_count" ["value"] sp_is_count) : Cal P w K mg base 3 "need_ties" ["events", "ties"] sp_need_ties := by
  refine D.cal sc_need_ties (fun _ _ _ _ _ _ us hl => match us, hl with | [_, _], _ => rfl) (fun vs H Q E h => ?_) fun f cdv A outer s H vs Q E hr h => ⟨_, (pss_cons (ps_if (PW.pt (pw_or (pt_not (pt_val (pe_cal c_is_list hr rfl (pa_cons (pv 1) pa_nil)))) (pw_or1 (pt_cmpR op_gt (pe_callB (len_seqK (K := K)) (by rfl) W.f_len (by decide +kernel) (pa_cons (pv 1) pa_nil)) (C8.pe_gc rfl W.c_MOST_TIES) (nomark _))))) (pss_one ps_never) pss_nil)
      (pss_one (ps_for PassesOwn.never rfl (pi_listK (K := K) (pv 1)) (pg_name (i := 2) sc_need_ties.nd rfl (by first | exact Or.inl rfl | exact Or.inr rfl)) (pss_cons (ps_if (PW.pt (pw_or (pt_not (pt_val (pe_callB call_isi (by rfl) W.f_isinstance (by decide +kernel) (pa_cons (pv 2) (pa_cons (pe_bltn (v := .ty "tuple") (u := .type "tuple") rfl W.f_tuple (by decide +kernel) rfl) pa_nil))))) (pw_or1 (pt_cmpR op_ne (pe_callB (len_seqK (K := K)) (by rfl) W.f_len (by decide +kernel) (pa_cons (pv 2) pa_nil)) pe_int (by rfl))))) (pss_one ps_never) pss_nil)
      (pss_cons (ps_expr (pe_cal c_need_event hr rfl (pa_cons (pv 0) (pa_cons (pe_ix (ix_tupK (K := K)) (pv 2) pe_int (fun _ _ => rfl)) pa_nil))))
      (pss_cons (ps_expr (pe_cal c_need_event hr rfl (pa_cons (pv 0) (pa_cons (pe_ix (ix_tupK (K := K)) (pv 2) pe_int (fun _ _ => rfl)) pa_nil))))
      (pss_one (ps_if (pt_not (pt_val (pe_cal c_is_count hr rfl (pa_cons (pe_ix (ix_tupK (K := K)) (pv 2) pe_int (fun _ _ => rfl)) pa_nil)))) (pss_one ps_never) pss_nil)))))))), ?_⟩
  · obtain ⟨a, b, ev, ts, rfl, _⟩ := h; rfl
  · obtain ⟨a, b, ev, ts, rfl, e, ⟨as, hb, tt⟩, hle, ends, q⟩ := h
    have hlen : (as.map V.ref).length = ts.length := by rw [List.length_map, Paired.length tt]
    refine ⟨_, rfl, b, _, rfl, hb, fun H1 s1 => ⟨true, rfl, _, rfl, b, _, rfl, .inl (sq (s1 _ _ hb)), _, _, rfl, rfl, false, bF (by omega), ?_⟩⟩
    refine ⟨_, rfl, b, rfl, ⟨_, sq (s1 _ _ hb)⟩, for_it wk_list (fun i σ H' => Same H H' ∧ ∃ u, σ = [some (.ref a), some (.ref b), u]) ⟨s1, _, rfl⟩ (fun i σ H' _ p => sq (p.1 _ _ hb)) (fun i v σ H2 H3 hi p y => ?_) fun σ H' p => q _ p.1⟩
    obtain ⟨s2, u, rfl⟩ := p
    obtain ⟨rfl, hx⟩ := y
    rw [List.getElem?_map] at hx
    obtain ⟨p, hp, rfl⟩ := Option.map_eq_some_iff.mp hx
    obtain ⟨t, ht, hpt⟩ := paired_get tt hp
    obtain ⟨h1, h2, h3⟩ := ends t (List.mem_of_getElem? ht)
    have hp3 := s2 _ _ hpt
    refine ⟨_, rfl, _, _, _, _, true, rfl, .ty _, .base (.tup hp3), kit_ty (by decide +kernel), true, rfl, _, rfl, p, _, rfl, .inr (st hp3), rfl, false, rfl, ?_⟩
    refine ⟨_, rfl, _, rfl, p, _, 0, _, rfl, rfl, st hp3, rfl, a, ev, t.1, rfl, s2 _ _ e.at_, h1, e.nm _ h1, fun H4 s4 => ?_⟩
    have s5 := s2.trans s4
    refine ⟨_, rfl, _, rfl, p, _, 1, _, rfl, rfl, st (s5 _ _ hpt), rfl, a, ev, t.2.1, rfl, s5 _ _ e.at_, h2, e.nm _ h2, fun H6 s6 => ?_⟩
    have s7 := s5.trans s6
    exact ⟨_, rfl, p, _, 2, _, rfl, rfl, st (s7 _ _ hpt), rfl, _, rfl, true, bT h3, s7, _, rfl⟩
abbrev N_need_limits : List Str := ["events", "limits", "event", "limit"]
theorem sc_need_limits : FnScope N_need_limits ["events", "limits"] (defScope s_need_limits) := ⟨rfl, rfl, rfl, by decide +kernel, rfl, by decide +kernel, by decide +kernel⟩
def sp_need_limits : Sp := fun vs H Q _ => ∃ a b ev ls, vs = [.ref a, .ref b] ∧ EvAt H a ev ∧ LimAt H b ls ∧ (∀ p ∈ ls, p.1 ∈ ev ∧ 0 ≤ p.2) ∧ ∀ H', Same H H' → Q .non H'
theorem k_need_limits (W : Ws K mg CP CT) (D : Def K mg "need_limits" s_need_limits) (c_is_name : Cal P w K mg base 1 "is_name" ["value"] sp_is_name)
    (c_is_count : Cal P w K mg base 2 "is_count" ["value"] sp_is_count) : Cal P w K mg base 3 "need_limits" ["events", "limits"] sp_need_limits := by
  refine D.cal sc_need_limits (fun _ _ _ _ _ _ us hl => match us, hl with | [_, _], _ => rfl) (fun vs H Q E h => ?_) fun f cdv A outer s H vs Q E hr h => ⟨_, (pss_cons (ps_if (pt_not (pt_val (pe_callB call_isi (by rfl) W.f_isinstance (by decide +kernel) (pa_cons (pv 1) (pa_cons (pe_bltn (v := .ty "dict") (u := .type "dict") rfl W.f_dict (by decide +kernel) rfl) pa_nil))))) (pss_one ps_never) pss_nil)
      (pss_one (ps_lock (ps_for PassesOwn.never rfl (pi_items (pv 1)) (pg_tupK (K := K) (n := 2) (pgs_cons (pg_name (i := 2) sc_need_limits.nd rfl (by first | exact Or.inl rfl | exact Or.inr rfl)) (pgs_cons (pg_name (i := 3) sc_need_limits.nd rfl (by first | exact Or.inl rfl | exact Or.inr rfl)) pgs_nil))) (pss_one (ps_if (PW.pt (pw_or (pt_not (pt_val (pe_cal c_is_name hr rfl (pa_cons (pv 2) pa_nil)))) (pw_or (pt_cmpR (notIn_seqK (K := K)) (pv 2) (pv 0) (by rfl)) (pw_or1 (pt_not (pt_val (pe_cal c_is_count hr rfl (pa_cons (pv 3) pa_nil)))))))) (pss_one ps_never) pss_nil)))))), ?_⟩
  · obtain ⟨a, b, ev, ls, rfl, _⟩ := h; rfl
  · obtain ⟨a, b, ev, ls, rfl, e, hb, ends, q⟩ := h
    have hab : a ≠ b := fun z => by
      have h1 := e.at_
      rw [z, hb] at h1
      cases h1
    refine ⟨_, rfl, _, _, _, _, true, rfl, .ty _, .base (.dK hb), kit_ty (by decide +kernel), true, rfl, b, _, hb, trivial, fun od => ?_⟩
    have e0 := Same.lock (o := od) (u := .dK (kv V.int ls)) hab e.at_
    refine ⟨_, rfl, b, od, _, rfl, upd_same, for_it wk_items (fun i σ H' => Same (upd H b (.frz od (.dK (kv V.int ls)))) H' ∧ ∃ u v, σ = [some (.ref a), some (.ref b), u, v]) ⟨Same.refl _, _, _, rfl⟩ (fun i σ H' _ p => p.1 _ _ upd_same) (fun i v σ H2 H3 hi p y => ?_) fun σ H' p => ⟨p.1 _ _ upd_same, q _ (Same.unlock hb p.1)⟩⟩
    obtain ⟨s2, u, v, rfl⟩ := p
    obtain ⟨T, k, z, hk, rfl, hT, rfl⟩ := y
    obtain ⟨p, hp, rfl, rfl⟩ := kv_at _ hk
    obtain ⟨h1, h2⟩ := ends p (List.mem_of_getElem? hp)
    have s3 := Same.new (o := .tup [kV (Sum.inr p.1), .int p.2]) s2 hT
    refine ⟨T, _, rfl, st upd_same, rfl, _, _, rfl, _, _, rfl, rfl, _, rfl, p.1, rfl, e.nm _ h1, fun H4 s4 => ⟨true, rfl, ?_⟩⟩
    have s5 := s3.trans s4
    refine ⟨_, rfl, _, rfl, a, _, rfl, .inl (sq (s5 _ _ e0)), rfl, flat_strs _, false, ?_, _, rfl, _, rfl, true, bT h2, s5, _, _, rfl⟩
    show V.bl (!inV (.str p.1) (ev.map V.str)) = _
    rw [inV_strs, decide_eq_true h1]
    rfl
end
end Pk
end
section
set_option maxHeartbeats 1000000
namespace Pk
open PySem PySem.Spec PyProof.Rows L2
theorem ni_strs (x : Str) (xs : List Str) : V.bl (if true = true then !inV (.str x) (xs.map V.str) else inV (.str x) (xs.map V.str)) = .bl (!decide (x ∈ xs)) := by rw [if_pos rfl, inV_strs]
theorem in_strs (x : Str) (xs : List Str) : V.bl (if false = true then !inV (.str x) (xs.map V.str) else inV (.str x) (xs.map V.str)) = .bl (decide (x ∈ xs)) := by rw [if_neg Bool.false_ne_true, inV_strs]
section
variable {P : Program} {w : World} {K : PySem.W.Frag} {mg : Str → Option Value} {base : Heap} {CP CT : Addr}
/-- at d a dict: each event's list of the events behind it -/
structure NbAt (H : Hp) (d : Addr) (ev : List Str) (m : List (Str × Addr)) (nb : Str → List Str) : Prop where
  at_ : H d = some (.dK (kv V.ref m))
  keys : m.map (·.1) = ev
  ls : ∀ q ∈ m, H q.2 = some (.lst ((nb q.1).map V.str))
  le : ∀ q ∈ m, (nb q.1).length ≤ 60
  in_ : ∀ x, ∀ y ∈ nb x, y ∈ ev
theorem NbAt.get {H : Hp} {d : Addr} {ev : List Str} {m : List (Str × Addr)} {nb : Str → List Str} (n : NbAt H d ev m nb) {x : Str} (h : x ∈ ev) : ∃ a, lk m x = some a ∧ H a = some (.lst ((nb x).map V.str)) ∧ (nb x).length ≤ 60 := by
  cases q : lk m x with
  | none => exact absurd (n.keys ▸ h) (lk_none.mp q)
  | some a => exact ⟨a, rfl, n.ls _ (lk_mem q), n.le _ (lk_mem q)⟩
theorem NbAt.same {H H' : Hp} {d : Addr} {ev : List Str} {m : List (Str × Addr)} {nb : Str → List Str} (n : NbAt H d ev m nb) (s : Same H H') : NbAt H' d ev m nb :=
  ⟨s _ _ n.at_, n.keys, fun q hq => s _ _ (n.ls q hq), n.le, n.in_⟩
abbrev N_reached : List Str := ["behind", "begin", "found", "waiting", "event"]
theorem sc_reached : FnScope N_reached ["behind", "begin"] (defScope s_reached) := ⟨rfl, rfl, rfl, by decide +kernel, rfl, by decide +kernel, by decide +kernel⟩
def sp_reached : Sp := fun vs H Q _ => ∃ (d b : Addr) (ev : List Str) (m : List (Str × Addr)) (nb : Str → List Str) (begin : List Str) (S : Str → Prop), vs = [.ref d, .ref b] ∧ NbAt H d ev m nb ∧ H b = some (.lst (begin.map V.str)) ∧ ev.length ≤ 8 ∧ begin.length ≤ 60 ∧ (∀ y ∈ begin, y ∈ ev ∧ S y) ∧ (∀ x, S x → ∀ y ∈ nb x, S y) ∧
  ∀ (p : Addr) (r : List Str) H', Same H H' → H' p = some (.lst (r.map V.str)) → (∀ y ∈ r, S y) → Q (.ref p) H'
theorem k_reached (W : Ws K mg CP CT) (D : Def K mg "reached" s_reached) : Cal P w K mg base 1 "reached" ["behind", "begin"] sp_reached := by
  refine D.cal sc_reached (fun _ _ _ _ _ _ us hl => match us, hl with | [_, _], _ => rfl) (fun vs H Q E h => ?_) fun f cdv A outer s H vs Q E hr h => ⟨_, (pss_cons (ps_set (i := 2) sc_reached.nd rfl (by first | exact Or.inl rfl | exact Or.inr rfl) (pe_lst pa_nil))
      (pss_cons (ps_set (i := 3) sc_reached.nd rfl (by first | exact Or.inl rfl | exact Or.inr rfl) (pe_callTy call_list_of (by rfl) W.f_list (by decide +kernel) (pa_cons (pv 1) pa_nil)))
      (pss_cons (ps_while PassesOwn.never (pt_cmpR (op_neNil hr.units0) (pv 3) (pe_lst pa_nil) (by rfl)) (pss_cons (ps_set (i := 4) sc_reached.nd rfl (by first | exact Or.inl rfl | exact Or.inr rfl) (pe_bm0 PySem.F.plainAttrs_list PySem.F.slot_list_pop PySem.F.type_list_pop mt_pop (pv 3)))
      (pss_one (ps_if (pt_cmpR (notIn_seqK (K := K)) (pv 4) (pv 2) (by rfl)) (pss_cons (ps_expr (pe_bm PySem.F.plainAttrs_list PySem.F.slot_list_append PySem.F.type_list_append mt_append (pv 2) (pa_cons (pv 4) pa_nil)))
      (pss_one (ps_expr (pe_bm PySem.F.plainAttrs_list PySem.F.slot_list_extend PySem.F.type_list_extend mt_extend (pv 3) (pa_cons (pe_dget (hu_of hr) (pv 0) (pv 4) (fun _ _ => rfl)) pa_nil))))) pss_nil))))
      (pss_one (ps_ret (pv 2)))))), ?_⟩
  · obtain ⟨d, b, ev, m, nb, begin, S, rfl, _⟩ := h; rfl
  · obtain ⟨d, b, ev, m, nb, begin, S, rfl, n, hb, hev, hbl, hbS, hS, q⟩ := h
    refine ⟨Nat.zero_le _, fun pf hpf => ?_⟩
    have s1 := same_new (o := .lst []) hpf
    refine ⟨_, rfl, b, _, rfl, .inl (sq (s1 _ _ hb)), fun pw hpw => ?_⟩
    have hne : pw ≠ pf := fun z => by rw [z, upd_same] at hpw; cases hpw
    have hpw0 : H pw = none := by rw [upd_ne hne] at hpw; exact hpw
    refine ⟨fun m' σ H' => ∃ found waiting u, m' = (8 - found.length) * 61 + waiting.length ∧ Same H H' ∧ H' pf = some (.lst (found.map V.str)) ∧ H' pw = some (.lst (waiting.map V.str)) ∧ found.Nodup ∧ (∀ x ∈ found, x ∈ ev ∧ S x) ∧ (∀ x ∈ waiting, x ∈ ev ∧ S x) ∧
      waiting.length ≤ 60 * (found.length + 1) ∧ σ = [some (.ref d), some (.ref b), some (.ref pf), some (.ref pw), u], ⟨_, [], begin, _, rfl, Same.mut s1 hpw0, ?_, upd_same, List.nodup_nil, fun x hx => (by cases hx), hbS, (by simpa using hbl), rfl⟩, ?_⟩
    · rw [upd_ne hne.symm]
      exact upd_same
    rintro m' σ H' ⟨found, waiting, u, rfl, s2, h1, h2, nd, hf, hw, hlw, rfl⟩
    have hfl : found.length ≤ 8 := Nat.le_trans (nodup_len nd fun x hx => (hf x hx).1) hev
    refine ⟨_, rfl, Nat.zero_le _, fun pe hpe => ⟨pw, pe, _, rfl, rfl, sq (same_new hpe _ _ h2), sq upd_same, ?_⟩⟩
    have s3 := Same.new (o := .lst []) s2 hpe
    have g1 := same_new (o := .lst []) hpe _ _ h1
    have g2 := same_new (o := .lst []) hpe _ _ h2
    generalize upd H' pe (.lst []) = H3 at s3 g1 g2
    rcases List.eq_nil_or_concat waiting with e | ⟨init, x, e⟩
    · subst e
      exact ⟨false, rfl, _, rfl, q pf found H3 s3 g1 fun y hy => (hf y hy).2⟩
    · subst e
      simp only [List.concat_eq_append] at *
      have e1 : (!((init ++ [x]).map V.str).isEmpty) = true := by cases init <;> rfl
      refine ⟨true, by rw [e1], ?_⟩
      have e0 : ((init ++ [x]).map V.str)[((init ++ [x]).map V.str).length - 1]? = some (.str x) := by simp
      obtain ⟨hx1, hx2⟩ := hw x (by simp)
      have hwi : ∀ y ∈ init, y ∈ ev ∧ S y := fun y hy => hw y (List.mem_append_left _ hy)
      have hil : init.length + 1 ≤ 60 * (found.length + 1) := by simpa using hlw
      obtain ⟨ax, k1, k2, k3⟩ := n.get hx1
      refine ⟨_, fun σ' H' h => h, ?_⟩
      refine ⟨_, rfl, .inl ⟨rfl, _, sq g2⟩, pw, _, .str x, rfl, rfl, g2, e0, ?_⟩
      have e2 : ((init ++ [x]).map V.str).dropLast = init.map V.str := by simp
      rw [e2]
      have s4 := Same.mut (o := .lst (init.map V.str)) s3 hpw0
      have f1 : (upd H3 pw (.lst (init.map V.str))) pf = some (.lst (found.map V.str)) := by rw [upd_ne hne.symm]; exact g1
      have f2 : (upd H3 pw (.lst (init.map V.str))) pw = some (.lst (init.map V.str)) := upd_same
      generalize upd H3 pw (.lst (init.map V.str)) = H4 at s4 f1 f2
      refine ⟨_, rfl, _, rfl, pf, _, rfl, .inl (sq f1), rfl, flat_strs _, !decide (x ∈ found), ni_strs x found, ?_⟩
      by_cases hxf : x ∈ found
      · rw [decide_eq_true hxf]
        refine ⟨_, ?_, found, init, _, rfl, s4, f1, f2, nd, hf, hwi, by omega, rfl⟩
        simp
      · rw [decide_eq_false hxf]
        have nd2 : (found ++ [x]).Nodup := by
          rw [List.nodup_append]
          exact ⟨nd, by simp, fun a ha b hb => by
            have e : b = x := by simpa using hb
            rw [e]
            exact fun z => hxf (z ▸ ha)⟩
        have hf2 : ∀ y ∈ found ++ [x], y ∈ ev ∧ S y := fun y hy => by
          rcases List.mem_append.mp hy with h | h
          · exact hf y h
          · have e : y = x := by simpa using h
            rw [e]
            exact ⟨hx1, hx2⟩
        have hfl2 : (found ++ [x]).length ≤ 8 := Nat.le_trans (nodup_len nd2 fun x hx => (hf2 x hx).1) hev
        have hfl3 : found.length + 1 ≤ 8 := by simpa using hfl2
        refine ⟨_, rfl, .inl ⟨rfl, _, sq f1⟩, _, rfl, pf, _, _, rfl, rfl, f1, by rw [List.length_map]; exact sz_lt (by omega), ?_⟩
        have s5 := Same.mut (o := .lst (found.map V.str ++ [.str x])) s4 hpf
        have t1 : (upd H4 pf (.lst (found.map V.str ++ [.str x]))) pf = some (.lst ((found ++ [x]).map V.str)) := by rw [upd_same, List.map_append]; rfl
        have t2 : (upd H4 pf (.lst (found.map V.str ++ [.str x]))) pw = some (.lst (init.map V.str)) := by rw [upd_ne hne]; exact f2
        generalize upd H4 pf (.lst (found.map V.str ++ [.str x])) = H5 at s5 t1 t2
        refine ⟨_, rfl, .inl ⟨rfl, _, sq t2⟩, _, rfl, _, rfl, d, _, rfl, .inl ⟨_, Sum.inr x, .inl (s5 _ _ n.at_), rfl, by rw [kv_val, k1]; rfl⟩, pw, ax, _, _, rfl, rfl, t2, s5 _ _ k2, ?_, ?_⟩
        · rw [List.length_map, List.length_map]
          exact sz_le (by omega)
        · refine ⟨_, ?_, found ++ [x], init ++ nb x, _, rfl, Same.mut s5 hpw0, ?_, ?_, nd2, hf2, ?_, ?_, rfl⟩
          · simp only [List.length_append, List.length_cons, List.length_nil]
            omega
          · rw [upd_ne hne.symm]; exact t1
          · rw [upd_same, List.map_append]
          · intro y hy
            rcases List.mem_append.mp hy with h | h
            · exact hwi y h
            · exact ⟨n.in_ x y h, hS x hx2 y h⟩
          · simp only [List.length_append, List.length_cons, List.length_nil]
            omega
end
end Pk
end
section
set_option maxHeartbeats 1000000
namespace Pk
open PySem PySem.Spec PyProof.Rows L2
section
variable {P : Program} {w : World} {K : PySem.W.Frag} {mg : Str → Option Value} {base : Heap} {CP CT : Addr}
theorem map_at {α β : Type} {f : α → β} {xs : List α} {i : Nat} {y : β} (h : (xs.map f)[i]? = some y) : ∃ x, xs[i]? = some x ∧ y = f x := by
  rw [List.getElem?_map] at h
  obtain ⟨x, hx, e⟩ := Option.map_eq_some_iff.mp h
  exact ⟨x, hx, e.symm⟩
theorem take_succ {α : Type} {xs : List α} {i : Nat} {x : α} (h : xs[i]? = some x) : xs.take (i + 1) = xs.take i ++ [x] := by
  rw [List.take_add_one, h]
  rfl
abbrev N_need_no_ring : List Str := ["events", "ties", "behind", "earlier", "later", "lag", "found", "event"]
theorem sc_need_no_ring : FnScope N_need_no_ring ["events", "ties"] (defScope s_need_no_ring) := ⟨rfl, rfl, rfl, by decide +kernel, rfl, by decide +kernel, by decide +kernel⟩
def sp_need_no_ring : Sp := fun vs H Q _ => ∃ (a b : Addr) (ev : List Str) (ts : List Tie), vs = [.ref a, .ref b] ∧ EvAt H a ev ∧ TiesAt H b ts ∧ ts.length ≤ 60 ∧ (∀ t ∈ ts, t.1 ∈ ev ∧ t.2.1 ∈ ev ∧ 0 ≤ t.2.2) ∧ Pu.Acyc ts ∧ ∀ H', Same H H' → Q .non H'
theorem k_need_no_ring (W : Ws K mg CP CT) (D : Def K mg "need_no_ring" s_need_no_ring) (c_reached : Cal P w K mg base 1 "reached" ["behind", "begin"] sp_reached) : Cal P w K mg base 2 "need_no_ring" ["events", "ties"] sp_need_no_ring := by
  refine D.cal sc_need_no_ring (fun _ _ _ _ _ _ us hl => match us, hl with | [_, _], _ => rfl) (fun vs H Q E h => ?_) fun f cdv A outer s H vs Q E hr h => ⟨_, (pss_cons (ps_set (i := 2) sc_need_no_ring.nd rfl (by first | exact Or.inl rfl | exact Or.inr rfl) (giv_pe (giv_dK (own := [("event", 7)]) (g := (gName 7)) (tt := tYes) (by rfl) sc_need_no_ring.nd (pi_listK (K := K) (pv 0)) (blkOk_by (own := [("event", 7)]) (N := N_need_no_ring) (sc := defScope s_need_no_ring) (by decide +kernel)) (fun _ _ _ _ _ => (pg_name (i := 7) sc_need_no_ring.nd rfl (by first | exact Or.inl rfl | exact Or.inr rfl))) (fun _ _ _ _ _ => pts_nil) (fun _ _ _ _ _ => (pv 7)) (fun _ _ _ _ _ => (pe_lst pa_nil)))))
      (pss_cons (ps_for PassesOwn.never rfl (pi_listK (K := K) (pv 1)) (pg_tupK (K := K) (n := 3) (pgs_cons (pg_name (i := 3) sc_need_no_ring.nd rfl (by first | exact Or.inl rfl | exact Or.inr rfl)) (pgs_cons (pg_name (i := 4) sc_need_no_ring.nd rfl (by first | exact Or.inl rfl | exact Or.inr rfl)) (pgs_cons (pg_name (i := 5) sc_need_no_ring.nd rfl (by first | exact Or.inl rfl | exact Or.inr rfl)) pgs_nil)))) (pss_one (ps_if (pt_cmpR op_eq (pv 5) pe_int (nomark _)) (pss_one (ps_expr (pe_bm PySem.F.plainAttrs_list PySem.F.slot_list_append PySem.F.type_list_append mt_append (pe_dget (hu_of hr) (pv 2) (pv 3) (fun _ _ => rfl)) (pa_cons (pv 4) pa_nil)))) pss_nil)))
      (pss_cons (ps_setLc (i := 6) (own := [("event", 7)]) (g := (gName 7)) (tt := _) rfl sc_need_no_ring.nd rfl rfl (sw_true rfl rfl rfl (by decide +kernel)) (pi_listK (K := K) (pv 0)) (blkOk_by (own := [("event", 7)]) (N := N_need_no_ring) (sc := defScope s_need_no_ring) (by decide +kernel)) (fun _ _ _ _ _ => (pg_name (i := 7) sc_need_no_ring.nd rfl (by first | exact Or.inl rfl | exact Or.inr rfl))) (fun _ _ _ _ _ => (pts_one (pt_cmpR (in_seqK (K := K)) (pv 7) (pe_cal c_reached hr rfl (pa_cons (pv 2) (pa_cons (pe_dget (hu_of hr) (pv 2) (pv 7) (fun _ _ => rfl)) pa_nil))) (by rfl)))) (fun _ _ _ _ _ => (pv 7)))
      (pss_one (ps_if (pt_cmpR op_gt (pe_callB (len_seqK (K := K)) (by rfl) W.f_len (by decide +kernel) (pa_cons (pv 6) pa_nil)) pe_int (nomark _)) (pss_one ps_never) pss_nil))))), ?_⟩
  · obtain ⟨a, b, ev, ts, rfl, _⟩ := h; rfl
  obtain ⟨a, b, ev, ts, rfl, e, ⟨as, hb, tt⟩, hle, ends, ⟨R, irr, trn, hR⟩, q⟩ := h
  have evl := e.le
  -- behind
  refine ⟨_, rfl, a, rfl, ⟨_, sq e.at_⟩, fun D hD => dc_it wk_list (fun i H' => Same H H' ∧ ∃ m : List (Str × Addr), H' D = some (.dK (kv V.ref m)) ∧ m.map (·.1) = ev.take i ∧ (m.map (·.2)).Nodup ∧ ∀ q ∈ m, q.2 ≠ D ∧ H q.2 = none ∧ H' q.2 = some (.lst [])) ⟨same_new hD, [], upd_same, rfl, List.nodup_nil, fun q hq => by cases hq⟩
    (fun i H' _ p => sq (p.1 _ _ e.at_)) (fun i v H2 H3 hi p y => ?_) fun H1 p => ?_⟩
  · obtain ⟨s2, m, h1, h2, h3, h4⟩ := p
    obtain ⟨rfl, hx⟩ := y
    obtain ⟨x, hx', rfl⟩ := map_at hx
    have hxn : x ∉ m.map (·.1) := by rw [h2]; exact not_take e.nd hx'
    refine ⟨rfl, _, rfl, Nat.zero_le _, fun pe hpe => ?_⟩
    have hpD : pe ≠ D := fun z => by rw [z, h1] at hpe; cases hpe
    have t1 : (upd H3 pe (.lst [])) D = some (.dK (kv V.ref m)) := by rw [upd_ne hpD.symm]; exact h1
    have hml : m.length = i := by
      have := congrArg List.length h2
      rw [List.length_map, List.length_take] at this
      have := (List.getElem?_eq_some_iff.mp hx').1
      omega
    refine ⟨_, Sum.inr x, rfl, t1, by rw [kv_len]; exact sz_lt (by have := (List.getElem?_eq_some_iff.mp hx').1; omega), Same.mut (Same.new s2 hpe) hD, m ++ [(x, pe)], ?_, ?_, ?_, fun q hq => ?_⟩
    · rw [upd_same, kv_put, pt_new _ hxn]
    · rw [List.map_append, h2, take_succ hx']; rfl
    · rw [List.map_append, List.nodup_append]
      refine ⟨h3, by simp, fun u hu v hv => ?_⟩
      have e1 : v = pe := by simpa using hv
      obtain ⟨q, hq, rfl⟩ := List.mem_map.mp hu
      rw [e1]
      intro z
      have := (h4 q hq).2.2
      rw [z, hpe] at this
      cases this
    · rcases List.mem_append.mp hq with hq | hq
      · obtain ⟨k1, k2, k3⟩ := h4 q hq
        refine ⟨k1, k2, ?_⟩
        have : q.2 ≠ pe := fun z => by rw [z, hpe] at k3; cases k3
        rw [upd_ne k1, upd_ne this]
        exact k3
      · have e1 : q = (x, pe) := by simpa using hq
        rw [e1]
        refine ⟨hpD, Same.free s2 hpe, ?_⟩
        show (upd (upd H3 pe (.lst [])) D _) pe = _
        rw [upd_ne hpD]
        exact upd_same
  obtain ⟨s1, m, d1, d2, d3, d4⟩ := p
  rw [List.length_map, List.take_length] at d2
  have as_len : (as.map V.ref).length = ts.length := by rw [List.length_map, Paired.length tt]
  -- the ties
  refine ⟨_, rfl, b, rfl, ⟨_, sq (s1 _ _ hb)⟩, for_it wk_list (fun i σ H' => Same H H' ∧ H' D = some (.dK (kv V.ref m)) ∧ (∃ nb : Str → List Str, (∀ q ∈ m, H' q.2 = some (.lst ((nb q.1).map V.str))) ∧ (∀ x, (nb x).length ≤ i) ∧ ∀ x, ∀ y ∈ nb x, ∃ t ∈ ts, t.1 = x ∧ t.2.1 = y ∧ t.2.2 = 0) ∧
      ∃ u1 u2 u3 u4 u5, σ = [some (.ref a), some (.ref b), some (.ref D), u1, u2, u3, u4, u5]) ⟨s1, d1, ⟨fun _ => [], fun q hq => (d4 q hq).2.2, fun _ => Nat.zero_le _, fun x y hy => by cases hy⟩, _, _, _, _, _, rfl⟩
    (fun i σ H' _ p => sq (p.1 _ _ hb)) (fun i v σ H2 H3 hi p y => ?_) fun σ H' p => ?_⟩
  · obtain ⟨s2, g1, ⟨nb, n1, n2, n3⟩, u1, u2, u3, u4, u5, rfl⟩ := p
    obtain ⟨rfl, hx⟩ := y
    obtain ⟨pa, hp, rfl⟩ := map_at hx
    obtain ⟨t, ht, hpt⟩ := paired_get tt hp
    have htm := List.mem_of_getElem? ht
    obtain ⟨h1, h2, h3⟩ := ends t htm
    rw [as_len] at hi
    refine ⟨pa, _, rfl, st (s2 _ _ hpt), rfl, _, _, rfl, _, _, rfl, _, _, rfl, rfl, _, rfl, rfl, decide (t.2.2 = 0), ?_, ?_⟩
    · rw [dec_int]; rfl
    by_cases hz : t.2.2 = 0
    · rw [decide_eq_true hz]
      have hk : ∃ ax, lk m t.1 = some ax := by
        cases q : lk m t.1 with
        | none => exact absurd (d2 ▸ h1) (lk_none.mp q)
        | some ax => exact ⟨ax, rfl⟩
      obtain ⟨ax, hax⟩ := hk
      have hm := lk_mem hax
      have hl : H3 ax = some (.lst ((nb t.1).map V.str)) := n1 _ hm
      refine ⟨_, rfl, _, rfl, D, .ref ax, rfl, .inl ⟨_, Sum.inr t.1, .inl g1, rfl, by rw [kv_val, hax]; rfl⟩, .inl ⟨rfl, _, sq hl⟩, _, rfl, ax, _, .str t.2.1, rfl, rfl, hl, by rw [List.length_map]; exact sz_lt (by have := n2 t.1; omega), ?_⟩
      obtain ⟨k1, k2, _⟩ := d4 _ hm
      refine ⟨Same.mut s2 k2, ?_, ⟨fun x => if x = t.1 then nb x ++ [t.2.1] else nb x, fun q hq => ?_, fun x => ?_, fun x y hy => ?_⟩, _, _, _, _, _, rfl⟩
      · rw [upd_ne k1.symm]; exact g1
      · by_cases hq1 : q.1 = t.1
        · have e1 : q.2 = ax := by
            have nk : (m.map (·.1)).Nodup := by rw [d2]; exact e.nd
            have := lk_of nk (x := q.1) (v := q.2) hq
            rw [hq1, hax] at this
            exact (Option.some.inj this).symm
          rw [e1, upd_same]
          show some (HO.lst (List.map V.str (nb t.1) ++ [V.str t.2.1])) = some (HO.lst (List.map V.str (if q.1 = t.1 then nb q.1 ++ [t.2.1] else nb q.1)))
          rw [if_pos hq1, List.map_append, hq1]
          rfl
        · have hne : q.2 ≠ ax := fun z => by
            obtain ⟨i1, e1⟩ := List.getElem?_of_mem hq
            obtain ⟨i2, e2⟩ := List.getElem?_of_mem hm
            have f1 : (m.map (·.2))[i1]? = some ax := by rw [List.getElem?_map, e1]; exact congrArg some z
            have f2 : (m.map (·.2))[i2]? = some ax := by rw [List.getElem?_map, e2]; rfl
            obtain ⟨l1, e3⟩ := List.getElem?_eq_some_iff.mp f1
            obtain ⟨l2, e4⟩ := List.getElem?_eq_some_iff.mp f2
            have e5 : i1 = i2 := by
              rcases Nat.lt_trichotomy i1 i2 with h | h | h
              · exact absurd (e3.trans e4.symm) ((List.pairwise_iff_getElem.mp d3) i1 i2 l1 l2 h)
              · exact h
              · exact absurd (e4.trans e3.symm) ((List.pairwise_iff_getElem.mp d3) i2 i1 l2 l1 h)
            rw [e5, e2] at e1
            exact hq1 (congrArg Prod.fst (Option.some.inj e1)).symm
          rw [upd_ne hne]
          show H3 q.2 = some (HO.lst (List.map V.str (if q.1 = t.1 then nb q.1 ++ [t.2.1] else nb q.1)))
          rw [if_neg hq1]
          exact n1 q hq
      · show (if x = t.1 then nb x ++ [t.2.1] else nb x).length ≤ i + 1
        have := n2 x
        split
        · rw [List.length_append]
          show _ + 1 ≤ _
          omega
        · omega
      · have hy : y ∈ (if x = t.1 then nb x ++ [t.2.1] else nb x) := hy
        by_cases hx1 : x = t.1
        · rw [if_pos hx1] at hy
          rcases List.mem_append.mp hy with hy | hy
          · exact n3 x y hy
          · have e1 : y = t.2.1 := by simpa using hy
            exact ⟨t, htm, hx1.symm, e1.symm, hz⟩
        · rw [if_neg hx1] at hy
          exact n3 x y hy
    · rw [decide_eq_false hz]
      exact ⟨s2, g1, ⟨nb, n1, fun x => by have := n2 x; omega, n3⟩, _, _, _, _, _, rfl⟩
  obtain ⟨s2, g1, ⟨nb, n1, n2, n3⟩, u1, u2, u3, u4, u5, rfl⟩ := p
  have n2' : ∀ x, (nb x).length ≤ 60 := fun x => by
    have h := n2 x
    rw [as_len] at h
    omega
  have NB : NbAt H' D ev m nb := ⟨g1, d2, n1, fun q _ => n2' q.1, fun x y hy => by
    obtain ⟨t, ht, _, e2, _⟩ := n3 x y hy
    rw [← e2]
    exact (ends t ht).2.1⟩
  refine ⟨_, rfl, a, rfl, ⟨_, sq (s2 _ _ e.at_)⟩, fun F hF => lc_it wk_list (fun i H'' => Same H' H'' ∧ H'' F = some (.lst [])) ⟨same_new hF, upd_same⟩ (fun i H'' _ p => sq (p.1 _ _ (s2 _ _ e.at_))) (fun i v H3 H4 hi p y => ?_) fun H1 p => ?_⟩
  · obtain ⟨s3, f1⟩ := p
    obtain ⟨rfl, hx⟩ := y
    obtain ⟨x, hx', rfl⟩ := map_at hx
    have hxm := List.mem_of_getElem? hx'
    obtain ⟨ax, k1, k2, k3⟩ := NB.get hxm
    refine ⟨rfl, _, rfl, _, rfl, _, rfl, _, rfl, D, .ref ax, rfl, .inl ⟨_, Sum.inr x, .inl (s3 _ _ g1), rfl, by rw [kv_val, k1]; rfl⟩, D, ax, ev, m, nb, nb x, R x, rfl, NB.same s3, s3 _ _ k2, evl, k3, fun y hy => ?_, fun y hy z hz => ?_, fun p r H5 s5 hp hr' => ?_⟩
    · obtain ⟨t, ht, e1, e2, e3⟩ := n3 x y hy
      refine ⟨NB.in_ x y hy, ?_⟩
      rw [← e1, ← e2]
      exact hR t ht e3
    · obtain ⟨t, ht, e1, e2, e3⟩ := n3 y z hz
      refine trn x y z hy ?_
      rw [← e1, ← e2]
      exact hR t ht e3
    · refine ⟨p, _, rfl, .inl (sq hp), rfl, flat_strs _, decide (x ∈ r), in_strs x r, ?_⟩
      rw [decide_eq_false fun z => irr x (hr' x z)]
      exact ⟨Same.trans s3 s5, s5 _ _ f1⟩
  · obtain ⟨s3, f1⟩ := p
    exact ⟨_, rfl, F, _, rfl, .inl (sq f1), _, _, rfl, rfl, false, bF (by simp), q _ (Same.trans s2 s3)⟩
end
end Pk
end
section
set_option maxHeartbeats 1000000
namespace Pk
open PySem PySem.Spec PyProof.Rows L2
theorem putF_nil {f : Str} {v : V} : putF f v [] = [(f, v)] := rfl
theorem putF_ne {f g : Str} {v x : V} {r : List (Str × V)} (h : g ≠ f) : putF f v ((g, x) :: r) = (g, x) :: putF f v r := if_neg h
/-- a method of the class at C; the class's __init__ -/
def MDf (K : PySem.W.Frag) (C : Addr) (m qual : Str) (st : Stmt) : Prop := ∃ f fd, FunD K m qual (defArgs st) (defBody st) (defScope st) [] [] f fd ∧ Meth K C m f
def IDf (K : PySem.W.Frag) (C : Addr) (qual : Str) (st : Stmt) (dvs : List V) (kws : List (Str × V)) : Prop := ∃ f fd, FunD K "__init__" qual (defArgs st) (defBody st) (defScope st) dvs kws f fd ∧ Mk K C f
section
variable {P : Program} {w : World} {K : PySem.W.Frag} {mg : Str → Option Value} {base : Heap} {CP CT C : Addr} {k : Nat} {m qual : Str} {st : Stmt} {N ps : List Str} {sp : Sp}
theorem MDf.mal (D : MDf K C m qual st) (S : FnScope N ps (defScope st))
    (hb : ∀ (kV doc pm : Value) (an : Option Addr) (cdv ct : Value) (us : List Value), us.length = ps.length → bindArgs (PySem.W.fnOf m qual (defArgs st) (defBody st) (defScope st) .none kV doc pm an cdv ct) ⟨us, []⟩ = pure (ps.zip us))
    (len : ∀ vs H Q E, sp vs H Q E → vs.length = ps.length)
    (body : ∀ (f : Addr) (cdv : Value) (A : Around) (outer : List Env) (s : Shared) (H : Hp) (vs : List V) (Q : VK) (E : XK), Room k (A.deeper (envOfC qual (defScope st) s.heap.objs.size f cdv)) → sp vs H Q E →
      ∃ t, PSs (cxOf CX0 P w K mg base N qual (defScope st) f cdv A outer s H E).nox (defBody st) t ∧ t { nx := fun _ H' => Q .non H', rt := Q } (start N vs) H) : Mal P w K mg base (k + 1) C m ps sp := by
  obtain ⟨f, fd, F, hm⟩ := D
  exact ⟨f, fd, funD_ok F S len body, hm, F.bindsN hb⟩
/-- an object of a plan -/
def PlanAt (CP : Addr) (H : Hp) (p : Addr) (D : PD) : Prop := ∃ dx ae at_ al, H p = some (.ins CP dx [("own_events", .ref ae), ("own_ties", .ref at_), ("own_limits", .ref al)]) ∧ H ae = some (.lst (D.ev.map V.str)) ∧ TiesAt H at_ D.ties ∧ LimAt H al D.ls
theorem PlanAt.same {H H' : Hp} {p : Addr} {D : PD} (h : PlanAt CP H p D) (s : Same H H') : PlanAt CP H' p D :=
  let ⟨dx, ae, at_, al, h1, h2, h3, h4⟩ := h
  ⟨dx, ae, at_, al, s _ _ h1, s _ _ h2, h3.same s, s _ _ h4⟩
abbrev N_Plan_events : List Str := ["self"]
theorem sc_Plan_events : FnScope N_Plan_events ["self"] (defScope s_Plan_events) := ⟨rfl, rfl, rfl, by decide +kernel, rfl, by decide +kernel, by decide +kernel⟩
def sp_Plan_events (CP : Addr) : Sp := fun vs H Q _ => ∃ (p : Addr) (D : PD), vs = [.ref p] ∧ PlanAt CP H p D ∧ D.ev.length ≤ 8 ∧ ∀ l, H l = none → Q (.ref l) (upd H l (.lst (D.ev.map V.str)))
theorem k_Plan_events (W : Ws K mg CP CT) (D : MDf K CP "events" "Plan.events" s_Plan_events) : Mal P w K mg base 1 CP "events" ["self"] (sp_Plan_events CP) := by
  refine D.mal sc_Plan_events (fun _ _ _ _ _ _ us hl => match us, hl with | [_], _ => rfl) (fun vs H Q E h => ?_) fun f cdv A outer s H vs Q E hr h => ⟨_, (pss_one (ps_ret (pe_callTy call_list_of (by rfl) W.f_list (by decide +kernel) (pa_cons (pe_fld (pv 0) rfl) pa_nil)))), ?_⟩
  · obtain ⟨p, D, rfl, _⟩ := h; rfl
  obtain ⟨p, D, rfl, ⟨dx, ae, at_, al, h1, h2, h3, h4⟩, hl, q⟩ := h
  exact ⟨_, rfl, p, CP, dx, _, _, rfl, h1, W.cl_Plan, W.n_own_events, rfl, ae, _, rfl, .inl (sq h2), q⟩
abbrev N_Plan_ties : List Str := ["self"]
theorem sc_Plan_ties : FnScope N_Plan_ties ["self"] (defScope s_Plan_ties) := ⟨rfl, rfl, rfl, by decide +kernel, rfl, by decide +kernel, by decide +kernel⟩
def sp_Plan_ties (CP : Addr) : Sp := fun vs H Q _ => ∃ (p : Addr) (D : PD), vs = [.ref p] ∧ PlanAt CP H p D ∧ ∀ l H', Same H H' → H l = none → (∀ c, c ≠ l → H' c = H c) → TiesAt H' l D.ties → Q (.ref l) H'
theorem k_Plan_ties (W : Ws K mg CP CT) (D : MDf K CP "ties" "Plan.ties" s_Plan_ties) : Mal P w K mg base 1 CP "ties" ["self"] (sp_Plan_ties CP) := by
  refine D.mal sc_Plan_ties (fun _ _ _ _ _ _ us hl => match us, hl with | [_], _ => rfl) (fun vs H Q E h => ?_) fun f cdv A outer s H vs Q E hr h => ⟨_, (pss_one (ps_ret (pe_callTy call_list_of (by rfl) W.f_list (by decide +kernel) (pa_cons (pe_fld (pv 0) rfl) pa_nil)))), ?_⟩
  · obtain ⟨p, D, rfl, _⟩ := h; rfl
  obtain ⟨p, D, rfl, ⟨dx, ae, at_, al, h1, h2, ⟨as, h3, h5⟩, h4⟩, q⟩ := h
  exact ⟨_, rfl, p, CP, dx, _, _, rfl, h1, W.cl_Plan, W.n_own_ties, rfl, at_, _, rfl, .inl (sq h3), fun l hl => q l _ (same_new hl) hl (fun c hc => upd_ne hc) ⟨as, upd_same, Paired.mapP h5 fun _ _ z => same_new hl _ _ z⟩⟩
abbrev N_Plan_limits : List Str := ["self"]
theorem sc_Plan_limits : FnScope N_Plan_limits ["self"] (defScope s_Plan_limits) := ⟨rfl, rfl, rfl, by decide +kernel, rfl, by decide +kernel, by decide +kernel⟩
def sp_Plan_limits (CP : Addr) : Sp := fun vs H Q _ => ∃ (p : Addr) (D : PD), vs = [.ref p] ∧ PlanAt CP H p D ∧ ∀ l, H l = none → Q (.ref l) (upd H l (.dK (kv V.int D.ls)))
theorem k_Plan_limits (W : Ws K mg CP CT) (D : MDf K CP "limits" "Plan.limits" s_Plan_limits) : Mal P w K mg base 1 CP "limits" ["self"] (sp_Plan_limits CP) := by
  refine D.mal sc_Plan_limits (fun _ _ _ _ _ _ us hl => match us, hl with | [_], _ => rfl) (fun vs H Q E h => ?_) fun f cdv A outer s H vs Q E hr h => ⟨_, (pss_one (ps_ret (pe_callTy call_copyK (by rfl) W.f_dict (by decide +kernel) (pa_cons (pe_fld (pv 0) rfl) pa_nil)))), ?_⟩
  · obtain ⟨p, D, rfl, _⟩ := h; rfl
  obtain ⟨p, D, rfl, ⟨dx, ae, at_, al, h1, h2, h3, h4⟩, q⟩ := h
  exact ⟨_, rfl, p, CP, dx, _, _, rfl, h1, W.cl_Plan, W.n_own_limits, rfl, al, _, rfl, .inl h4, q⟩
abbrev N_need_plan : List Str := ["value"]
theorem sc_need_plan : FnScope N_need_plan ["value"] (defScope s_need_plan) := ⟨rfl, rfl, rfl, by decide +kernel, rfl, by decide +kernel, by decide +kernel⟩
def sp_need_plan (CP : Addr) : Sp := fun vs H Q _ => ∃ (p dx : Addr) (fs : List (Str × V)), vs = [.ref p] ∧ H p = some (.ins CP dx fs) ∧ Q .non H
theorem k_need_plan (W : Ws K mg CP CT) (D : Def K mg "need_plan" s_need_plan) : Cal P w K mg base 1 "need_plan" ["value"] (sp_need_plan CP) := by
  refine D.cal sc_need_plan (fun _ _ _ _ _ _ us hl => match us, hl with | [_], _ => rfl) (fun vs H Q E h => ?_) fun f cdv A outer s H vs Q E hr h => ⟨_, (pss_one (ps_if (pt_not (pt_val (pe_callB (C8.call_isC W.i_Plan) (by rfl) W.f_isinstance (by decide +kernel) (pa_cons (pv 0) (pa_cons (C8.pe_gc rfl W.c_Plan) pa_nil))))) (pss_one ps_never) pss_nil)), ?_⟩
  · obtain ⟨p, dx, fs, rfl, _⟩ := h; rfl
  obtain ⟨p, dx, fs, rfl, hp, q⟩ := h
  exact ⟨_, rfl, p, dx, fs, rfl, hp, true, rfl, q⟩
abbrev N_Plan_init : List Str := ["self", "events", "ties", "limits", "event"]
theorem sc_Plan_init : FnScope N_Plan_init ["self", "events", "ties", "limits"] (defScope s_Plan_init) := ⟨rfl, rfl, rfl, by decide +kernel, rfl, by decide +kernel, by decide +kernel⟩
def sp_Plan_init (CP : Addr) : Sp := fun vs H Q _ => ∃ (p dx a b c : Addr) (ev : List Str) (ts : List Tie) (ls : List (Str × Int)), vs = [.ref p, .ref a, .ref b, .ref c] ∧ H p = some (.ins CP dx []) ∧ H a = some (.lst (ev.map V.str)) ∧ TiesAt H b ts ∧ LimAt H c ls ∧ PdOk ⟨ev, ts, ls⟩ ∧
  ∀ H' ls', But p H H' → PlanAt CP H' p ⟨ev, ts, ls'⟩ → PdOk ⟨ev, ts, ls'⟩ → (∀ x, lk ls' x = lk ls x) → Q .non H'
theorem but_trans {p : Addr} {H H1 H2 : Hp} (a : But p H H1) (s : Same H1 H2) : But p H H2 := a.trans (But.of s)
theorem k_Plan_init (W : Ws K mg CP CT) {f : Addr} {fd : FuncData} {dvs : List V} {kws : List (Str × V)} (F : FunD K "__init__" "Plan.__init__" (defArgs s_Plan_init) (defBody s_Plan_init) (defScope s_Plan_init) dvs kws f fd)
    (c_need_events : Cal P w K mg base 2 "need_events" ["events"] sp_need_events) (c_need_ties : Cal P w K mg base 3 "need_ties" ["events", "ties"] sp_need_ties) (c_need_limits : Cal P w K mg base 3 "need_limits" ["events", "limits"] sp_need_limits)
    (c_need_no_ring : Cal P w K mg base 2 "need_no_ring" ["events", "ties"] sp_need_no_ring) : FnOk P w K mg base CX0 4 f fd ["self", "events", "ties", "limits"] (sp_Plan_init CP) := by
  refine funD_ok F sc_Plan_init (fun vs H Q E h => ?_) fun f cdv A outer s H vs Q E hr h => ⟨_, (pss_cons (ps_expr (pe_cal c_need_events hr rfl (pa_cons (pv 1) pa_nil)))
      (pss_cons (ps_expr (pe_cal c_need_ties hr rfl (pa_cons (pv 1) (pa_cons (pv 2) pa_nil))))
      (pss_cons (ps_if (pt_cmpR op_notN (pv 3) pe_non (nomark _)) (pss_one (ps_expr (pe_cal c_need_limits hr rfl (pa_cons (pv 1) (pa_cons (pv 3) pa_nil))))) pss_nil)
      (pss_cons (ps_expr (pe_cal c_need_no_ring hr rfl (pa_cons (pv 1) (pa_cons (pv 2) pa_nil))))
      (pss_cons (ps_fld (pv 0) (pe_callTy call_list_of (by rfl) W.f_list (by decide +kernel) (pa_cons (pv 1) pa_nil)) rfl)
      (pss_cons (ps_fld (pv 0) (pe_callTy call_list_of (by rfl) W.f_list (by decide +kernel) (pa_cons (pv 2) pa_nil)) rfl)
      (pss_one (ps_fld (pv 0) (giv_pe (giv_dK (own := [("event", 4)]) (g := (gName 4)) (tt := _) (by rfl) sc_Plan_init.nd (pi_listK (K := K) (pv 1)) (blkOk_by (own := [("event", 4)]) (N := N_Plan_init) (sc := defScope s_Plan_init) (by decide +kernel)) (fun _ _ _ _ _ => (pg_name (i := 4) sc_Plan_init.nd rfl (by first | exact Or.inl rfl | exact Or.inr rfl))) (fun _ _ _ _ _ => (pts_one (PW.pt (pw_and (pt_cmpR op_notN (pv 3) pe_non (nomark _)) (pw_and1 (pt_cmp (pc_din (hu_of hr) (pv 4) (pv 3)))))))) (fun _ _ _ _ _ => (pv 4)) (fun _ _ _ _ _ => (pe_dget (hu_of hr) (pv 3) (pv 4) (fun _ _ => rfl))))) rfl)))))))), ?_⟩
  · obtain ⟨p, dx, a, b, c, ev, ts, ls, rfl, _⟩ := h; rfl
  obtain ⟨p, dx, a, b, c, ev, ts, ls, rfl, hp, ha, hb, hc, ok, q⟩ := h
  have e : EvAt H a ev := ⟨ha, ok.ne, ok.le, ok.nd, ok.nm⟩
  refine ⟨_, rfl, a, ev, rfl, e, fun H1 s1 => ?_⟩
  refine ⟨_, rfl, _, rfl, a, b, ev, ts, rfl, e.same s1, hb.same s1, ok.tle, ok.ends, fun H2 s2 => ?_⟩
  have s2 := Same.trans s1 s2
  refine ⟨_, rfl, rfl, true, rfl, ?_⟩
  refine ⟨_, rfl, _, rfl, a, c, ev, ls, rfl, e.same s2, s2 _ _ hc, ok.lin, fun H3 s3 => ?_⟩
  have s3 := Same.trans s2 s3
  refine ⟨_, rfl, _, rfl, a, b, ev, ts, rfl, e.same s3, hb.same s3, ok.tle, ok.ends, ok.ac, fun H4 s4 => ?_⟩
  have s4 := Same.trans s3 s4
  have hp4 := s4 _ _ hp
  refine ⟨_, rfl, a, _, rfl, .inl (sq (s4 _ _ ha)), fun le hle => ⟨_, rfl, p, CP, dx, _, rfl, same_new hle _ _ hp4, W.cl_Plan, W.n_own_events, by decide, ?_⟩⟩
  rw [putF_nil]
  have n1 : le ≠ p := fun z => by rw [z, hp4] at hle; cases hle
  have na : a ≠ p := ne_of ha hp (by intro z; cases z)
  obtain ⟨as, hb1, hb2⟩ := hb
  have nb : b ≠ p := ne_of hb1 hp (by intro z; cases z)
  have nc : c ≠ p := ne_of hc hp (by intro z; cases z)
  have b5 : But p H (upd (upd H4 le (.lst (ev.map V.str))) p (.ins CP dx [("own_events", .ref le)])) := (But.of (Same.new s4 hle)).trans But.upd
  have g5 : (upd (upd H4 le (.lst (ev.map V.str))) p (.ins CP dx [("own_events", .ref le)])) p = some (.ins CP dx [("own_events", .ref le)]) := upd_same
  have e5 : (upd (upd H4 le (.lst (ev.map V.str))) p (.ins CP dx [("own_events", .ref le)])) le = some (.lst (ev.map V.str)) := by rw [upd_ne n1]; exact upd_same
  generalize upd (upd H4 le (.lst (ev.map V.str))) p (.ins CP dx [("own_events", .ref le)]) = H5 at b5 g5 e5 ⊢
  refine ⟨_, rfl, b, _, rfl, .inl (sq (b5 _ _ nb hb1)), fun lt hlt => ⟨_, rfl, p, CP, dx, _, rfl, same_new hlt _ _ g5, W.cl_Plan, W.n_own_ties, by show 1 < 1000; decide, ?_⟩⟩
  rw [putF_ne (f := "own_ties") (g := "own_events") (by decide +kernel), putF_nil]
  have n2 : lt ≠ p := fun z => by rw [z, g5] at hlt; cases hlt
  have b6 : But p H (upd (upd H5 lt (.lst (as.map V.ref))) p (.ins CP dx [("own_events", .ref le), ("own_ties", .ref lt)])) := (but_trans b5 (same_new hlt)).trans But.upd
  have g6 : (upd (upd H5 lt (.lst (as.map V.ref))) p (.ins CP dx [("own_events", .ref le), ("own_ties", .ref lt)])) p = some (.ins CP dx [("own_events", .ref le), ("own_ties", .ref lt)]) := upd_same
  have e6 : (upd (upd H5 lt (.lst (as.map V.ref))) p (.ins CP dx [("own_events", .ref le), ("own_ties", .ref lt)])) le = some (.lst (ev.map V.str)) := by rw [upd_ne n1]; exact same_new hlt _ _ e5
  have t6 : (upd (upd H5 lt (.lst (as.map V.ref))) p (.ins CP dx [("own_events", .ref le), ("own_ties", .ref lt)])) lt = some (.lst (as.map V.ref)) := by rw [upd_ne n2]; exact upd_same
  generalize upd (upd H5 lt (.lst (as.map V.ref))) p (.ins CP dx [("own_events", .ref le), ("own_ties", .ref lt)]) = H6 at b6 g6 e6 t6 ⊢
  refine ⟨_, rfl, a, rfl, ⟨_, sq (b6 _ _ na ha)⟩, fun D hD => dc_it wk_list (fun i H' => Same H6 H' ∧ ∃ ls' : List (Str × Int), H' D = some (.dK (kv V.int ls')) ∧ (ls'.map (·.1)).Nodup ∧ (∀ x, lk ls' x = if x ∈ ev.take i then lk ls x else none) ∧ ls'.length ≤ i)
    ⟨same_new hD, [], upd_same, List.nodup_nil, fun x => by simp [lk], Nat.le_refl _⟩ (fun i H' _ q => sq (q.1 _ _ (b6 _ _ na ha))) (fun i v H7 H8 hi q y => ?_) fun H7 q7 => ?_⟩
  · obtain ⟨s7, ls', h1, h2, h3, h4⟩ := q
    obtain ⟨rfl, hx⟩ := y
    obtain ⟨x, hx', rfl⟩ := map_at hx
    have hi' : i < ev.length := (List.getElem?_eq_some_iff.mp hx').1
    have el := ok.le
    have el : ev.length ≤ 8 := el
    have hc8 := s7 _ _ (b6 _ _ nc hc)
    have mem_s : ∀ y, y ∈ ev.take (i + 1) ↔ y ∈ ev.take i ∨ y = x := fun y => by rw [take_succ hx', List.mem_append, List.mem_singleton]
    refine ⟨rfl, _, rfl, rfl, true, rfl, _, rfl, _, rfl, c, (lk ls x).map V.int, rfl, .inl ⟨_, Sum.inr x, .inl hc8, rfl, (kv_val V.int x ls).symm⟩, _, rfl, ?_⟩
    cases hl : lk ls x with
    | none =>
      refine ⟨s7, ls', h1, h2, fun y => ?_, Nat.le_succ_of_le h4⟩
      rw [h3 y]
      by_cases hy : y ∈ ev.take i
      · rw [if_pos hy, if_pos ((mem_s y).mpr (.inl hy))]
      · rw [if_neg hy]
        by_cases e1 : y = x
        · rw [e1, hl]; simp
        · rw [if_neg fun z => ((mem_s y).mp z).elim hy e1]
    | some v =>
      refine ⟨_, rfl, _, rfl, _, rfl, c, .int v, rfl, .inl ⟨_, Sum.inr x, .inl hc8, rfl, by rw [kv_val, hl]; rfl⟩, _, Sum.inr x, rfl, h1, by rw [kv_len]; exact sz_lt (by omega), Same.mut s7 hD, pt ls' x v, by rw [upd_same, kv_put], pt_nodup h2, fun y => ?_, ?_⟩
      · rw [lk_pt, h3 y]
        by_cases e1 : y = x
        · rw [if_pos e1, e1, hl, if_pos ((mem_s x).mpr (.inr rfl))]
        · rw [if_neg e1]
          by_cases hy : y ∈ ev.take i
          · rw [if_pos hy, if_pos ((mem_s y).mpr (.inl hy))]
          · rw [if_neg hy, if_neg fun z => ((mem_s y).mp z).elim hy e1]
      · have := congrArg List.length (pt_keys ls' x v)
        rw [List.length_map] at this
        rw [this]
        split
        · rw [List.length_map]; omega
        · rw [List.length_append, List.length_map]
          show _ + 1 ≤ _
          omega
  · obtain ⟨s7, ls', h1, h2, h3, h4⟩ := q7
    have hin : ∀ x, lk ls' x = lk ls x := fun x => by
      rw [h3 x, List.length_map, List.take_length]
      by_cases hx : x ∈ ev
      · rw [if_pos hx]
      · rw [if_neg hx]
        cases hl : lk ls x with
        | none => rfl
        | some v => exact absurd (ok.lin _ (lk_mem hl)).1 hx
    have nD : D ≠ p := fun z => by rw [z, g6] at hD; cases hD
    have g7 := s7 _ _ g6
    refine ⟨_, rfl, p, CP, dx, _, rfl, g7, W.cl_Plan, W.n_own_limits, by show 2 < 1000; decide, ?_⟩
    rw [putF_ne (f := "own_limits") (g := "own_events") (by decide +kernel), putF_ne (f := "own_limits") (g := "own_ties") (by decide +kernel), putF_nil]
    refine q _ ls' ((but_trans b6 s7).trans But.upd) ⟨dx, le, lt, D, upd_same, by rw [upd_ne n1]; exact s7 _ _ e6, ⟨as, by rw [upd_ne n2]; exact s7 _ _ t6, ?_⟩, ?_⟩ ⟨ok.ne, ok.le, ok.nd, ok.nm, ok.tle, ok.ends, h2, ?_, ok.ac⟩ hin
    · exact Paired.mapP hb2 fun u t z => by
        have nu : u ≠ p := ne_of z hp (by intro q; cases q)
        rw [upd_ne nu]
        exact s7 _ _ (b6 _ _ nu z)
    · show upd _ _ _ D = _
      rw [upd_ne nD]
      exact h1
    · intro r hr'
      have := lk_of h2 (x := r.1) (v := r.2) hr'
      rw [hin] at this
      exact ok.lin _ (lk_mem this)
end
end Pk
end
section
set_option maxHeartbeats 1000000
namespace Pk
open PySem PySem.Spec PyProof.Rows L2
section
variable {P : Program} {w : World} {K : PySem.W.Frag} {mg : Str → Option Value} {base : Heap} {CP CT : Addr}
theorem Same.but {H H1 H2 : Hp} {a : Addr} (s : Same H H1) (h : H a = none) (b : But a H1 H2) : Same H H2 := fun c o e => b c o (fun z => by rw [z, h] at e; cases e) (s c o e)
/-- the rows of a plan at l -/
abbrev Row := Option Str × Option Str × Int
def RowsAt (H : Hp) (l : Addr) (rs : List Row) : Prop := ∃ as, H l = some (.lst (as.map V.ref)) ∧ Paired (fun q (r : Row) => ∃ t, H q = some (.tup [nV r.1, nV r.2.1, .int r.2.2, t])) as rs
theorem RowsAt.same {H H' : Hp} {l : Addr} {rs : List Row} (h : RowsAt H l rs) (s : Same H H') : RowsAt H' l rs :=
  let ⟨as, h1, h2⟩ := h
  ⟨as, s _ _ h1, Paired.mapP h2 fun _ _ ⟨t, z⟩ => ⟨t, s _ _ z⟩⟩
/-- the leads at a, the steps at b -/
structure LS (P : Program) (w : World) (H : Hp) (a b : Addr) (L : Pu.Tb Str) (c : Nat) : Prop where
  ne : a ≠ b
  ld : ∃ kvs, DP P w H a kvs ∧ kvs.length ≤ c ∧ ∀ i j, valV kvs (i, j) = (L i j).map V.int
  sp : ∃ kvs, DP P w H b kvs ∧ kvs.length ≤ c
theorem LS.same {H H' : Hp} {a b : Addr} {L : Pu.Tb Str} {c : Nat} (h : LS P w H a b L c) (s : Same H H') : LS P w H' a b L c :=
  let ⟨n, ⟨k, d, l, v⟩, ⟨k2, d2, l2⟩⟩ := h
  ⟨n, ⟨k, d.same s, l, v⟩, ⟨k2, d2.same s, l2⟩⟩
theorem dp_not {H : Hp} {a : Addr} {kvs : List ((Node × Node) × V)} (d : DP P w H a kvs) : ∀ ys, H a ≠ some (.tup ys) := fun ys e => by
  obtain ⟨o, h1, _, h2⟩ := d.there
  rw [h1] at e
  exact h2 ys (Option.some.inj e)
theorem LS.put_a {H : Hp} {a b : Addr} {L : Pu.Tb Str} {c : Nat} (h : LS P w H a b L c) (hc : c < 10000) (i j : Option Str) (v : Int) :
    ∃ kvs, DP P w H a kvs ∧ kvs.length < sizeLine ∧ ∀ H', DP P w H' a (putK kvs (i, j) (.int v)) → But a H H' → LS P w H' a b (Pu.updT L i j (some v)) (c + 1) := by
  obtain ⟨n, ⟨k, d, l, q⟩, ⟨k2, d2, l2⟩⟩ := h
  refine ⟨k, d, sz_lt (by omega), fun H' d' bt => ⟨n, ⟨_, d', by have := length_putK k (i, j) (.int v); omega, fun x y => ?_⟩, ⟨k2, d2.but n (dp_not d) bt, by omega⟩⟩⟩
  rw [valV_put, q]
  unfold Pu.updT
  by_cases e : x = i ∧ y = j
  · obtain ⟨rfl, rfl⟩ := e
    rw [if_pos rfl, if_pos ⟨rfl, rfl⟩]
    rfl
  · rw [if_neg e, if_neg (fun z => e ⟨congrArg Prod.fst z, congrArg Prod.snd z⟩)]
theorem LS.put_b {H : Hp} {a b : Addr} {L : Pu.Tb Str} {c : Nat} (h : LS P w H a b L c) (hc : c < 10000) (k0 : Node × Node) (v : V) :
    ∃ kvs, DP P w H b kvs ∧ kvs.length < sizeLine ∧ ∀ H', DP P w H' b (putK kvs k0 v) → But b H H' → LS P w H' a b L (c + 1) := by
  obtain ⟨n, ⟨k, d, l, q⟩, ⟨k2, d2, l2⟩⟩ := h
  exact ⟨k2, d2, sz_lt (by omega), fun H' d' bt => ⟨n, ⟨k, d.but n.symm (dp_not d2) bt, by omega, q⟩, ⟨_, d', by have := length_putK k2 k0 v; omega⟩⟩⟩
theorem LS.mono {H : Hp} {a b : Addr} {L : Pu.Tb Str} {c c' : Nat} (h : LS P w H a b L c) (l : c ≤ c') : LS P w H a b L c' :=
  let ⟨n, ⟨k, d, l1, v⟩, ⟨k2, d2, l2⟩⟩ := h
  ⟨n, ⟨k, d, by omega, v⟩, ⟨k2, d2, by omega⟩⟩
theorem updT_same (L : Pu.Tb Str) (i j : Option Str) : Pu.updT L i j (L i j) = L := by
  funext x y
  unfold Pu.updT
  split
  · rename_i h
    rw [h.1, h.2]
  · rfl
theorem put2 {D : Ends} {σ : L2.St} {H : Hp} {i2 i3 ie il iv iw : Nat} {a b : Addr} {L : Pu.Tb Str} {c : Nat} {e l : Node} {v : Int} {x : V} (h2 : σ[i2]? = some (some (.ref a))) (h3 : σ[i3]? = some (some (.ref b))) (he : σ[ie]? = some (some (nV e))) (hl : σ[il]? = some (some (nV l)))
    (hv : σ[iv]? = some (some (.int v))) (hw : σ[iw]? = some (some x)) (h : LS P w H a b L c) (hc : c < 9000) (k : ∀ H', (∀ G, Same G H → G a = none → G b = none → Same G H') → LS P w H' a b (Pu.updT L e l (some v)) (c + 2) → D.nx σ H') :
    tSeq (sPPut P w (tVar i2) (tTup (tCons (tVar ie) (tCons (tVar il) tNil))) (tVar iv)) (sPPut P w (tVar i3) (tTup (tCons (tVar ie) (tCons (tVar il) tNil))) (tVar iw)) D σ H := by
  refine ⟨_, hv, _, h2, _, he, _, hl, by show 2 ≤ sizeLine; decide, fun p hp => ?_⟩
  obtain ⟨kvs, d, hlen, q⟩ := (h.same (same_new (o := .tup [nV e, nV l]) hp)).put_a (by omega) e l v
  refine ⟨a, p, kvs, (e, l), rfl, rfl, d, upd_same, hlen, fun H' d' bt _ => ?_⟩
  have h' := q H' d' bt
  refine ⟨_, hw, _, h3, _, he, _, hl, by show 2 ≤ sizeLine; decide, fun p2 hp2 => ?_⟩
  obtain ⟨kvs2, d2, hlen2, q2⟩ := (h'.same (same_new (o := .tup [nV e, nV l]) hp2)).put_b (by omega) (e, l) x
  refine ⟨b, p2, kvs2, (e, l), rfl, rfl, d2, upd_same, hlen2, fun H'' d'' bt' _ => k H'' (fun G s ga gb => ?_) ((q2 H'' d'' bt').mono (by omega))⟩
  exact Same.but (Same.new (Same.but (Same.new s hp) ga bt) hp2) gb bt'
abbrev N_leads_of : List Str := ["nodes", "rows", "leads", "steps", "earlier", "later", "lag", "name", "middle", "lead", "node"]
theorem sc_leads_of : FnScope N_leads_of ["nodes", "rows"] (defScope s_leads_of) := ⟨rfl, rfl, rfl, by decide +kernel, rfl, by decide +kernel, by decide +kernel⟩
/-- what leads_of leaves -/
def sp_leads_of (P : Program) (w : World) : Sp := fun vs H Q _ => ∃ (n r : Addr) (ns : List Node) (rs : List Row), vs = [.ref n, .ref r] ∧ H n = some (.lst (ns.map nV)) ∧ RowsAt H r rs ∧ ns.length ≤ 9 ∧ ns.Nodup ∧ rs.length ≤ 80 ∧ (∀ x ∈ rs, x.1 ∈ ns ∧ x.2.1 ∈ ns) ∧
  ∀ t a b H', Same H H' → H' t = some (.tup [.ref a, .ref b]) → LS P w H' a b (Pu.leads ns rs) 5000 → Q (.ref t) H'
theorem k_leads_of (W : Ws K mg CP CT) (D : Def K mg "leads_of" s_leads_of) : Cal P w K mg base 1 "leads_of" ["nodes", "rows"] (sp_leads_of P w) := by
  refine D.cal sc_leads_of (fun _ _ _ _ _ _ us hl => match us, hl with | [_, _], _ => rfl) (fun vs H Q E h => ?_) fun f cdv A outer s H vs Q E hr h => ⟨_, (pss_cons (giv_set (i := 2) (giv_dcG (srvP P w) rfl rfl hr.units0 (own := [("node", 10)]) (g := (gName 10)) (tt := tYes) (by rfl) sc_leads_of.nd (pi_listK (K := K) (pv 0)) (blkOk_by (own := [("node", 10)]) (N := N_leads_of) (sc := defScope s_leads_of) (by decide +kernel)) (fun _ _ _ _ _ => (pg_name (i := 10) sc_leads_of.nd rfl (by first | exact Or.inl rfl | exact Or.inr rfl))) (fun _ _ _ _ _ => pts_nil) (fun _ _ _ _ _ => (pe_tup (pa_cons (pv 10) (pa_cons (pv 10) pa_nil)))) (fun _ _ _ _ _ => pe_int)) sc_leads_of.nd rfl rfl (swap_dict rfl rfl rfl (by decide +kernel)))
      (pss_cons (ps_set (i := 3) sc_leads_of.nd rfl (by first | exact Or.inl rfl | exact Or.inr rfl) pe_pnew)
      (pss_cons (ps_for PassesOwn.never rfl (pi_listK (K := K) (pv 1)) (pg_tupK (K := K) (n := 4) (pgs_cons (pg_name (i := 4) sc_leads_of.nd rfl (by first | exact Or.inl rfl | exact Or.inr rfl)) (pgs_cons (pg_name (i := 5) sc_leads_of.nd rfl (by first | exact Or.inl rfl | exact Or.inr rfl)) (pgs_cons (pg_name (i := 6) sc_leads_of.nd rfl (by first | exact Or.inl rfl | exact Or.inr rfl)) (pgs_cons (pg_name (i := 7) sc_leads_of.nd rfl (by first | exact Or.inl rfl | exact Or.inr rfl)) pgs_nil))))) (pss_one (ps_if (PW.pt (pw_or (pt_cmp (pc_pnotin (hu_of hr) (pe_tup (pa_cons (pv 4) (pa_cons (pv 5) pa_nil))) (pv 2))) (pw_or1 (pt_cmpR op_lt (pv 6) (pe_pget (hu_of hr) (pv 2) (pe_tup (pa_cons (pv 4) (pa_cons (pv 5) pa_nil))) (fun _ _ => rfl)) (nomark _))))) (pss_cons (ps_pput (hu_of hr) (pv 2) (pe_tup (pa_cons (pv 4) (pa_cons (pv 5) pa_nil))) (pv 6) rfl)
      (pss_one (ps_pput (hu_of hr) (pv 3) (pe_tup (pa_cons (pv 4) (pa_cons (pv 5) pa_nil))) (pv 7) rfl))) pss_nil)))
      (pss_cons (ps_for PassesOwn.never rfl (pi_listK (K := K) (pv 0)) (pg_name (i := 8) sc_leads_of.nd rfl (by first | exact Or.inl rfl | exact Or.inr rfl)) (pss_one (ps_for PassesOwn.never rfl (pi_listK (K := K) (pv 0)) (pg_name (i := 4) sc_leads_of.nd rfl (by first | exact Or.inl rfl | exact Or.inr rfl)) (pss_one (ps_for PassesOwn.never rfl (pi_listK (K := K) (pv 0)) (pg_name (i := 5) sc_leads_of.nd rfl (by first | exact Or.inl rfl | exact Or.inr rfl)) (pss_one (ps_if (PW.pt (pw_and (pt_cmp (pc_pin (hu_of hr) (pe_tup (pa_cons (pv 4) (pa_cons (pv 8) pa_nil))) (pv 2))) (pw_and1 (pt_cmp (pc_pin (hu_of hr) (pe_tup (pa_cons (pv 8) (pa_cons (pv 5) pa_nil))) (pv 2)))))) (pss_cons (ps_set (i := 9) sc_leads_of.nd rfl (by first | exact Or.inl rfl | exact Or.inr rfl) (pe_op op_add (pe_pget (hu_of hr) (pv 2) (pe_tup (pa_cons (pv 4) (pa_cons (pv 8) pa_nil))) (fun _ _ => rfl)) (pe_pget (hu_of hr) (pv 2) (pe_tup (pa_cons (pv 8) (pa_cons (pv 5) pa_nil))) (fun _ _ => rfl))))
      (pss_one (ps_if (PW.pt (pw_or (pt_cmp (pc_pnotin (hu_of hr) (pe_tup (pa_cons (pv 4) (pa_cons (pv 5) pa_nil))) (pv 2))) (pw_or1 (pt_cmpR op_lt (pv 9) (pe_pget (hu_of hr) (pv 2) (pe_tup (pa_cons (pv 4) (pa_cons (pv 5) pa_nil))) (fun _ _ => rfl)) (nomark _))))) (pss_cons (ps_pput (hu_of hr) (pv 2) (pe_tup (pa_cons (pv 4) (pa_cons (pv 5) pa_nil))) (pv 9) rfl)
      (pss_one (ps_pput (hu_of hr) (pv 3) (pe_tup (pa_cons (pv 4) (pa_cons (pv 5) pa_nil))) (pv 8) rfl))) pss_nil))) pss_nil)))))))
      (pss_one (ps_ret (pe_tup (pa_cons (pv 2) (pa_cons (pv 3) pa_nil))))))))), ?_⟩
  · obtain ⟨n, r, ns, rs, rfl, _⟩ := h; rfl
  obtain ⟨n, r, ns, rs, rfl, hn, hrs, hnl, hnd, hrl, hin, q⟩ := h
  -- the zeros
  refine ⟨_, rfl, n, rfl, ⟨_, sq hn⟩, fun a ha => dcG_it wk_list (fun i H' => Same H H' ∧ ∃ kvs, DP P w H' a kvs ∧ kvs.length ≤ i ∧ ∀ x y, valV kvs (x, y) = if x = y ∧ x ∈ ns.take i then some (.int 0) else none) ⟨same_new ha, [], DP.nil upd_same, Nat.le_refl _, fun x y => ?_⟩
    (fun i H' _ p => sq (p.1 _ _ hn)) (fun i v H2 H3 hi p y => ?_) fun H1 p => ?_⟩
  · rw [if_neg (by simp)]; rfl
  · obtain ⟨s2, kvs, d, hl, hv⟩ := p
    obtain ⟨rfl, hx⟩ := y
    obtain ⟨x, hx', rfl⟩ := map_at hx
    have hi' : i < ns.length := (List.getElem?_eq_some_iff.mp hx').1
    refine ⟨rfl, _, rfl, _, rfl, by show 2 ≤ sizeLine; decide, fun p hp => ⟨p, kvs, (x, x), rfl, d.same (same_new hp), upd_same, sz_lt (by omega), fun H' d' bt _ => ⟨Same.but (Same.new s2 hp) ha bt, _, d', ?_, fun u v => ?_⟩⟩⟩
    · have := length_putK kvs (x, x) (.int 0); omega
    · rw [valV_put, hv, take_succ hx']
      by_cases e : u = x ∧ v = x
      · obtain ⟨rfl, rfl⟩ := e
        rw [if_pos rfl, if_pos ⟨rfl, by simp⟩]
      · rw [if_neg (fun z => e ⟨congrArg Prod.fst z, congrArg Prod.snd z⟩)]
        by_cases e2 : u = v ∧ u ∈ ns.take i
        · rw [if_pos e2, if_pos ⟨e2.1, List.mem_append_left _ e2.2⟩]
        · rw [if_neg e2, if_neg]
          rintro ⟨rfl, h⟩
          rcases List.mem_append.mp h with h | h
          · exact e2 ⟨rfl, h⟩
          · have e3 : u = x := by simpa using h
            exact e ⟨e3, e3⟩
  obtain ⟨s1, kvs, d, hl, hv⟩ := p
  rw [List.length_map] at hl
  refine fun b hb => ?_
  have ls0 : LS P w (upd H1 b (oP P w b [])) a b (Pu.tab0 ns) 9 := by
    refine ⟨fun z => ?_, ⟨kvs, d.same (same_new hb), by omega, fun i j => ?_⟩, ⟨[], DP.nil upd_same, by simp⟩⟩
    · obtain ⟨o, h1, _⟩ := d.there
      rw [z, hb] at h1
      cases h1
    · rw [hv, List.length_map, List.take_length]
      unfold Pu.tab0
      split <;> rfl
  have hb0 : H b = none := Same.free s1 hb
  have s1 := Same.new (o := oP P w b []) s1 hb
  show tSeq _ _ _ _ (upd H1 b (oP P w b []))
  generalize upd H1 b (oP P w b []) = H2 at s1 ls0 ⊢
  obtain ⟨as, hr1, hr2⟩ := hrs
  have las : as.length = rs.length := Paired.length hr2
  -- the rows
  refine ⟨_, rfl, r, rfl, ⟨_, sq (s1 _ _ hr1)⟩, for_it wk_list (fun i σ H' => Same H H' ∧ LS P w H' a b ((rs.take i).foldl Pu.addRow (Pu.tab0 ns)) (9 + 2 * i) ∧ ∃ u4 u5 u6 u7 u8 u9 u10, σ = [some (.ref n), some (.ref r), some (.ref a), some (.ref b), u4, u5, u6, u7, u8, u9, u10]) ⟨s1, ls0, _, _, _, _, _, _, _, rfl⟩
    (fun i σ H' _ p => sq (p.1 _ _ hr1)) (fun i v σ H3 H4 hi p y => ?_) fun σ H3 p => ?_⟩
  · obtain ⟨s3, ls, u4, u5, u6, u7, u8, u9, u10, rfl⟩ := p
    obtain ⟨rfl, hx⟩ := y
    obtain ⟨pa, hp, rfl⟩ := map_at hx
    obtain ⟨t, ht, nm, hpt⟩ := paired_get hr2 hp
    rw [List.length_map, las] at hi
    have hp3 := s3 _ _ hpt
    have fold : (rs.take (i + 1)).foldl Pu.addRow (Pu.tab0 ns) = Pu.addRow ((rs.take i).foldl Pu.addRow (Pu.tab0 ns)) t := by rw [take_succ ht, List.foldl_append]; rfl
    generalize (rs.take i).foldl Pu.addRow (Pu.tab0 ns) = L at ls fold
    refine ⟨pa, _, rfl, st hp3, rfl, _, _, rfl, _, _, rfl, _, _, rfl, _, _, rfl, rfl, ?_⟩
    have done : ∀ G v, Same H G → LS P w G a b (Pu.updT L t.1 t.2.1 (some t.2.2)) v → v ≤ 9 + 2 * (i + 1) → Pu.addRow L t = Pu.updT L t.1 t.2.1 (some t.2.2) → LS P w G a b ((rs.take (i + 1)).foldl Pu.addRow (Pu.tab0 ns)) (9 + 2 * (i + 1)) := fun G v _ h1 h2 h3 => by
      rw [fold, h3]
      exact h1.mono h2
    refine ⟨_, rfl, _, rfl, by show 2 ≤ sizeLine; decide, fun p1 hp1 => ⟨_, rfl, ?_⟩⟩
    have s4 := Same.new (o := .tup [nV t.1, nV t.2.1]) s3 hp1
    have ls4 := ls.same (same_new (o := .tup [nV t.1, nV t.2.1]) hp1)
    have at1 : (upd H4 p1 (.tup [nV t.1, nV t.2.1])) p1 = some (.tup [nV t.1, nV t.2.1]) := upd_same
    generalize upd H4 p1 (.tup [nV t.1, nV t.2.1]) = H5 at s4 ls4 at1
    obtain ⟨nab, ⟨kvs, d, hl4, hv4⟩, sp4⟩ := ls4
    have ls4 : LS P w H5 a b L (9 + 2 * i) := ⟨nab, ⟨kvs, d, hl4, hv4⟩, sp4⟩
    cases hL : L t.1 t.2.1 with
    | none =>
      refine ⟨a, p1, kvs, (t.1, t.2.1), rfl, rfl, d, at1, true, by rw [hv4, hL]; rfl, ?_⟩
      refine put2 rfl rfl rfl rfl rfl rfl ls4 (by omega) fun H' hs' h' => ⟨hs' H s4 (by assumption) hb0, done H' _ (hs' H s4 ha hb0) h' (by omega) ?_, _, _, _, _, _, _, _, rfl⟩
      unfold Pu.addRow
      rw [hL]
      rfl
    | some v =>
      refine ⟨a, p1, kvs, (t.1, t.2.1), rfl, rfl, d, at1, false, by rw [hv4, hL]; rfl, ?_⟩
      refine ⟨_, rfl, _, rfl, _, rfl, _, rfl, by show 2 ≤ sizeLine; decide, fun p2 hp2 => ⟨a, p2, kvs, (t.1, t.2.1), .int v, rfl, rfl, d.same (same_new hp2), upd_same, by rw [hv4, hL]; rfl, _, _, rfl, rfl, decide (t.2.2 < v), rfl, ?_⟩⟩
      have s6 := Same.new (o := .tup [nV t.1, nV t.2.1]) s4 hp2
      have ls6 := ls4.same (same_new (o := .tup [nV t.1, nV t.2.1]) hp2)
      by_cases hlt : t.2.2 < v
      · rw [decide_eq_true hlt]
        refine put2 rfl rfl rfl rfl rfl rfl ls6 (by omega) fun H' hs' h' => ⟨hs' H s6 ha hb0, done H' _ (hs' H s6 ha hb0) h' (by omega) ?_, _, _, _, _, _, _, _, rfl⟩
        unfold Pu.addRow
        rw [hL]
        show Pu.updT L t.1 t.2.1 (if t.2.2 < v then some t.2.2 else some v) = _
        rw [if_pos hlt]
      · rw [decide_eq_false hlt]
        refine ⟨s6, ?_, _, _, _, _, _, _, _, rfl⟩
        rw [fold]
        have e : Pu.addRow L t = L := by
          unfold Pu.addRow
          rw [hL]
          show Pu.updT L t.1 t.2.1 (if t.2.2 < v then some t.2.2 else some v) = _
          rw [if_neg hlt, ← hL]
          exact updT_same L _ _
        rw [e]
        exact ls6.mono (by omega)
  obtain ⟨s3, ls3, u4, u5, u6, u7, u8, u9, u10, rfl⟩ := p
  rw [List.length_map, las, List.take_length] at ls3
  have ls3 := ls3.mono (c' := 200) (by omega)
  have q' : ∀ t a b H', Same H H' → H' t = some (.tup [.ref a, .ref b]) → LS P w H' a b (ns.foldl (Pu.pass ns) (rs.foldl Pu.addRow (Pu.tab0 ns))) 5000 → Q (.ref t) H' := q
  generalize rs.foldl Pu.addRow (Pu.tab0 ns) = L0 at ls3 q'
  have nsl : (ns.map nV).length = ns.length := List.length_map ..
  -- middles
  refine ⟨_, rfl, n, rfl, ⟨_, sq (s3 _ _ hn)⟩, for_it wk_list (fun i σ H' => Same H H' ∧ LS P w H' a b ((ns.take i).foldl (Pu.pass ns) L0) (200 + 200 * i) ∧ ∃ u4 u5 u6 u7 u8 u9 u10, σ = [some (.ref n), some (.ref r), some (.ref a), some (.ref b), u4, u5, u6, u7, u8, u9, u10]) ⟨s3, ls3, _, _, _, _, _, _, _, rfl⟩
    (fun i σ H' _ p => sq (p.1 _ _ hn)) (fun i v σ H4 H5 hi p y => ?_) fun σ H4 p => ?_⟩
  · obtain ⟨s4, ls4, u4, u5, u6, u7, u8, u9, u10, rfl⟩ := p
    obtain ⟨rfl, hx⟩ := y
    obtain ⟨m, hm, rfl⟩ := map_at hx
    rw [nsl] at hi
    have fold1 : (ns.take (i + 1)).foldl (Pu.pass ns) L0 = Pu.pass ns ((ns.take i).foldl (Pu.pass ns) L0) m := by rw [take_succ hm, List.foldl_append]; rfl
    generalize (ns.take i).foldl (Pu.pass ns) L0 = L1 at ls4 fold1
    refine ⟨_, rfl, n, rfl, ⟨_, sq (s4 _ _ hn)⟩, for_it wk_list (fun j σ H' => Same H H' ∧ LS P w H' a b (((ns.take j).flatMap fun x => ns.map fun y => (x, y)).foldl (Pu.relax m) L1) (200 + 200 * i + 20 * j) ∧ ∃ u4 u5 u6 u7 u9 u10, σ = [some (.ref n), some (.ref r), some (.ref a), some (.ref b), u4, u5, u6, u7, some (nV m), u9, u10]) ⟨s4, ls4, _, _, _, _, _, _, rfl⟩
      (fun i σ H' _ p => sq (p.1 _ _ hn)) (fun j v σ H6 H7 hj p y => ?_) fun σ H6 p => ?_⟩
    · obtain ⟨s6, ls6, v4, v5, v6, v7, v9, v10, rfl⟩ := p
      obtain ⟨rfl, hx⟩ := y
      obtain ⟨e, he, rfl⟩ := map_at hx
      rw [nsl] at hj
      have fold2 : ((ns.take (j + 1)).flatMap fun x => ns.map fun y => (x, y)).foldl (Pu.relax m) L1 = (ns.map fun y => (e, y)).foldl (Pu.relax m) (((ns.take j).flatMap fun x => ns.map fun y => (x, y)).foldl (Pu.relax m) L1) := by
        rw [take_succ he, List.flatMap_append, List.foldl_append, List.flatMap_singleton]
      generalize ((ns.take j).flatMap fun x => ns.map fun y => (x, y)).foldl (Pu.relax m) L1 = L2 at ls6 fold2
      refine ⟨_, rfl, n, rfl, ⟨_, sq (s6 _ _ hn)⟩, for_it wk_list (fun k σ H' => Same H H' ∧ LS P w H' a b (((ns.take k).map fun y => (e, y)).foldl (Pu.relax m) L2) (200 + 200 * i + 20 * j + 2 * k) ∧ ∃ u5 u6 u7 u9 u10, σ = [some (.ref n), some (.ref r), some (.ref a), some (.ref b), some (nV e), u5, u6, u7, some (nV m), u9, u10]) ⟨s6, ls6, _, _, _, _, _, rfl⟩
        (fun i σ H' _ p => sq (p.1 _ _ hn)) (fun k v σ H8 H9 hk p y => ?_) fun σ H8 p => ?_⟩
      · obtain ⟨s8, ls8, w5, w6, w7, w9, w10, rfl⟩ := p
        obtain ⟨rfl, hx⟩ := y
        obtain ⟨l, hl0, rfl⟩ := map_at hx
        rw [nsl] at hk
        have fold3 : ((ns.take (k + 1)).map fun y => (e, y)).foldl (Pu.relax m) L2 = Pu.relax m (((ns.take k).map fun y => (e, y)).foldl (Pu.relax m) L2) (e, l) := by
          rw [take_succ hl0, List.map_append, List.foldl_append]; rfl
        generalize ((ns.take k).map fun y => (e, y)).foldl (Pu.relax m) L2 = L at ls8 fold3
        show _
        -- nothing is stored
        have idle : ∀ G, Same H G → LS P w G a b L (200 + 200 * i + 20 * j + 2 * k) → Pu.relax m L (e, l) = L → LS P w G a b (((ns.take (k + 1)).map fun y => (e, y)).foldl (Pu.relax m) L2) (200 + 200 * i + 20 * j + 2 * (k + 1)) := fun G _ h1 h2 => by
          rw [fold3, h2]
          exact h1.mono (by omega)
        have stored_ : ∀ G v, LS P w G a b (Pu.updT L e l (some v)) (200 + 200 * i + 20 * j + 2 * k + 2) → Pu.relax m L (e, l) = Pu.updT L e l (some v) → LS P w G a b (((ns.take (k + 1)).map fun y => (e, y)).foldl (Pu.relax m) L2) (200 + 200 * i + 20 * j + 2 * (k + 1)) := fun G v h1 h2 => by
          rw [fold3, h2]
          exact h1.mono (by omega)
        refine ⟨_, rfl, _, rfl, by show 2 ≤ sizeLine; decide, fun p1 hp1 => ⟨_, rfl, ?_⟩⟩
        have s10 := Same.new (o := .tup [nV e, nV m]) s8 hp1
        have ls10 := ls8.same (same_new (o := .tup [nV e, nV m]) hp1)
        have at1 : (upd H9 p1 (.tup [nV e, nV m])) p1 = some (.tup [nV e, nV m]) := upd_same
        generalize upd H9 p1 (.tup [nV e, nV m]) = H10 at s10 ls10 at1
        obtain ⟨nab, ⟨kvs, d, hl4, hv4⟩, sp4⟩ := id ls10
        cases hu : L e m with
        | none =>
          refine ⟨a, p1, kvs, (e, m), rfl, rfl, d, at1, false, by rw [hv4, hu]; rfl, s10, idle _ s10 ls10 ?_, _, _, _, _, _, rfl⟩
          unfold Pu.relax
          simp only [hu, Pu.pl, Pu.mn_none]
          exact updT_same L _ _
        | some u =>
          refine ⟨a, p1, kvs, (e, m), rfl, rfl, d, at1, true, by rw [hv4, hu]; rfl, _, rfl, _, rfl, by show 2 ≤ sizeLine; decide, fun p2 hp2 => ⟨_, rfl, ?_⟩⟩
          have s11 := Same.new (o := .tup [nV m, nV l]) s10 hp2
          have ls11 := ls10.same (same_new (o := .tup [nV m, nV l]) hp2)
          have d11 := d.same (same_new (o := .tup [nV m, nV l]) hp2)
          have at2 : (upd H10 p2 (.tup [nV m, nV l])) p2 = some (.tup [nV m, nV l]) := upd_same
          generalize upd H10 p2 (.tup [nV m, nV l]) = H11 at s11 ls11 at2 d11
          cases hw : L m l with
          | none =>
            refine ⟨a, p2, kvs, (m, l), rfl, rfl, d11, at2, false, by rw [hv4, hw]; rfl, s11, idle _ s11 ls11 ?_, _, _, _, _, _, rfl⟩
            unfold Pu.relax
            simp only [hu, hw, Pu.pl, Pu.mn_none]
            exact updT_same L _ _
          | some u2 =>
            refine ⟨a, p2, kvs, (m, l), rfl, rfl, d11, at2, true, by rw [hv4, hw]; rfl, ?_⟩
            have hrel : Pu.relax m L (e, l) = Pu.updT L e l (Pu.mn (L e l) (some (u + u2))) := by
              unfold Pu.relax
              simp only [hu, hw, Pu.pl]
            refine ⟨_, rfl, _, rfl, _, rfl, by show 2 ≤ sizeLine; decide, fun p3 hp3 => ⟨a, p3, kvs, (e, m), .int u, rfl, rfl, d11.same (same_new hp3), upd_same, by rw [hv4, hu]; rfl, _, rfl, _, rfl, _, rfl, by show 2 ≤ sizeLine; decide, fun p4 hp4 => ?_⟩⟩
            have s12 := Same.new (o := .tup [nV e, nV m]) s11 hp3
            have ls12 := ls11.same (same_new (o := .tup [nV e, nV m]) hp3)
            have d12 := d11.same (same_new (o := .tup [nV e, nV m]) hp3)
            generalize upd H11 p3 (.tup [nV e, nV m]) = H12 at s12 ls12 d12 hp4 ⊢
            refine ⟨a, p4, kvs, (m, l), .int u2, rfl, rfl, d12.same (same_new hp4), upd_same, by rw [hv4, hw]; rfl, _, _, rfl, rfl, ?_⟩
            have s13 := Same.new (o := .tup [nV m, nV l]) s12 hp4
            have ls13 := ls12.same (same_new (o := .tup [nV m, nV l]) hp4)
            have d13 := d12.same (same_new (o := .tup [nV m, nV l]) hp4)
            generalize upd H12 p4 (.tup [nV m, nV l]) = H13 at s13 ls13 d13 ⊢
            refine ⟨_, rfl, _, rfl, by show 2 ≤ sizeLine; decide, fun p5 hp5 => ⟨_, rfl, ?_⟩⟩
            have s14 := Same.new (o := .tup [nV e, nV l]) s13 hp5
            have ls14 := ls13.same (same_new (o := .tup [nV e, nV l]) hp5)
            have d14 := d13.same (same_new (o := .tup [nV e, nV l]) hp5)
            have at5 : (upd H13 p5 (.tup [nV e, nV l])) p5 = some (.tup [nV e, nV l]) := upd_same
            generalize upd H13 p5 (.tup [nV e, nV l]) = H14 at s14 ls14 d14 at5
            cases hL : L e l with
            | none =>
              refine ⟨a, p5, kvs, (e, l), rfl, rfl, d14, at5, true, by rw [hv4, hL]; rfl, ?_⟩
              refine put2 rfl rfl rfl rfl rfl rfl ls14 (by omega) fun H' hs' h' => ⟨hs' H s14 ha hb0, stored_ H' _ h' ?_, _, _, _, _, _, rfl⟩
              rw [hrel, hL]
              rfl
            | some v =>
              refine ⟨a, p5, kvs, (e, l), rfl, rfl, d14, at5, false, by rw [hv4, hL]; rfl, ?_⟩
              refine ⟨_, rfl, _, rfl, _, rfl, _, rfl, by show 2 ≤ sizeLine; decide, fun p6 hp6 => ⟨a, p6, kvs, (e, l), .int v, rfl, rfl, d14.same (same_new hp6), upd_same, by rw [hv4, hL]; rfl, _, _, rfl, rfl, decide (u + u2 < v), rfl, ?_⟩⟩
              have s15 := Same.new (o := .tup [nV e, nV l]) s14 hp6
              have ls15 := ls14.same (same_new (o := .tup [nV e, nV l]) hp6)
              by_cases hlt : u + u2 < v
              · rw [decide_eq_true hlt]
                refine put2 rfl rfl rfl rfl rfl rfl ls15 (by omega) fun H' hs' h' => ⟨hs' H s15 ha hb0, stored_ H' _ h' ?_, _, _, _, _, _, rfl⟩
                rw [hrel, hL]
                show Pu.updT L e l (if u + u2 < v then some (u + u2) else some v) = _
                rw [if_pos hlt]
              · rw [decide_eq_false hlt]
                refine ⟨s15, idle _ s15 ls15 ?_, _, _, _, _, _, rfl⟩
                rw [hrel, hL]
                show Pu.updT L e l (if u + u2 < v then some (u + u2) else some v) = _
                rw [if_neg hlt, ← hL]
                exact updT_same L _ _
      · obtain ⟨s8, ls8, w5, w6, w7, w9, w10, rfl⟩ := p
        rw [nsl, List.take_length, ← fold2] at ls8
        exact ⟨s8, ls8.mono (by omega), _, _, _, _, _, _, rfl⟩
    · obtain ⟨s6, ls6, v4, v5, v6, v7, v9, v10, rfl⟩ := p
      rw [nsl, List.take_length] at ls6
      refine ⟨s6, ?_, _, _, _, _, _, _, _, rfl⟩
      rw [fold1]
      exact ls6.mono (by omega)
  · obtain ⟨s4, ls4, u4, u5, u6, u7, u8, u9, u10, rfl⟩ := p
    rw [nsl, List.take_length] at ls4
    exact ⟨_, rfl, _, rfl, by show 2 ≤ sizeLine; decide, fun t ht => q' t a b _ (Same.new s4 ht) upd_same ((ls4.same (same_new ht)).mono (by omega))⟩
end
end Pk
end
section
set_option maxHeartbeats 1000000
namespace Pk
open PySem PySem.Spec PyProof.Rows L2
section
variable {P : Program} {w : World} {K : PySem.W.Frag} {mg : Str → Option Value} {base : Heap} {CP CT : Addr}
theorem take_map {α β : Type} {f : α → β} {xs : List α} {i : Nat} {x : α} (h : xs[i]? = some x) : (xs.take (i + 1)).map f = (xs.take i).map f ++ [f x] := by
  rw [take_succ h, List.map_append]; rfl
abbrev RowR (H : Hp) : Addr → Row → Prop := fun q r => ∃ t, H q = some (.tup [nV r.1, nV r.2.1, .int r.2.2, t])
theorem rowR_same {H H' : Hp} {as : List Addr} {rs : List Row} (p : Paired (RowR H) as rs) (s : Same H H') : Paired (RowR H') as rs := Paired.mapP p fun _ _ ⟨t, z⟩ => ⟨t, s _ _ z⟩
theorem paired_app {α β : Type} {R : α → β → Prop} : ∀ {xs : List α} {ys : List β} {xs' : List α} {ys' : List β}, Paired R xs ys → Paired R xs' ys' → Paired R (xs ++ xs') (ys ++ ys')
  | _, _, _, _, .nil, q => q
  | _, _, _, _, .cons h t, q => .cons h (paired_app t q)
abbrev N_rows_of : List Str := ["plan", "found", "index", "earlier", "later", "lag", "event", "limit"]
theorem sc_rows_of : FnScope N_rows_of ["plan"] (defScope s_rows_of) := ⟨rfl, rfl, rfl, by decide +kernel, rfl, by decide +kernel, by decide +kernel⟩
def sp_rows_of (CP : Addr) : Sp := fun vs H Q _ => ∃ (p : Addr) (D : PD), vs = [.ref p] ∧ PlanAt CP H p D ∧ PdOk D ∧ ∀ l H', Same H H' → RowsAt H' l (Pu.rowsOf D.pl D.ls) → Q (.ref l) H'
theorem k_rows_of (W : Ws K mg CP CT) (D : Def K mg "rows_of" s_rows_of) (m_events : Mal P w K mg base 1 CP "events" ["self"] (sp_Plan_events CP)) (m_ties : Mal P w K mg base 1 CP "ties" ["self"] (sp_Plan_ties CP)) (m_limits : Mal P w K mg base 1 CP "limits" ["self"] (sp_Plan_limits CP)) :
    Cal P w K mg base 2 "rows_of" ["plan"] (sp_rows_of CP) := by
  refine D.cal sc_rows_of (fun _ _ _ _ _ _ us hl => match us, hl with | [_], _ => rfl) (fun vs H Q E h => ?_) fun f cdv A outer s H vs Q E hr h => ⟨_, (pss_cons (ps_setLc (i := 1) (own := [("index", 2), ("earlier", 3), ("later", 4), ("lag", 5)]) (g := _) (tt := tYes) rfl sc_rows_of.nd rfl rfl (sw_true rfl rfl rfl (by decide +kernel)) (pi_enum (by rfl) W.f_enumerate (pa_cons (pe_mal0 W.cl_Plan m_ties hr (H := fun hm F b hrm => pe_meth0 (pv 0) W.cl_Plan hm F hrm b .nil pass0)) pa_nil)) (blkOk_by (own := [("index", 2), ("earlier", 3), ("later", 4), ("lag", 5)]) (N := N_rows_of) (sc := defScope s_rows_of) (by decide +kernel)) (fun _ _ _ _ _ => (pg_tupK (K := K) (n := 2) (pgs_cons (pg_name (i := 2) sc_rows_of.nd rfl (by first | exact Or.inl rfl | exact Or.inr rfl)) (pgs_cons (pg_tupK (K := K) (n := 3) (pgs_cons (pg_name (i := 3) sc_rows_of.nd rfl (by first | exact Or.inl rfl | exact Or.inr rfl)) (pgs_cons (pg_name (i := 4) sc_rows_of.nd rfl (by first | exact Or.inl rfl | exact Or.inr rfl)) (pgs_cons (pg_name (i := 5) sc_rows_of.nd rfl (by first | exact Or.inl rfl | exact Or.inr rfl)) pgs_nil)))) pgs_nil)))) (fun _ _ _ _ _ => pts_nil) (fun _ _ _ _ _ => (pe_tup (pa_cons (pv 3) (pa_cons (pv 4) (pa_cons (pv 5) (pa_cons (pe_tup (pa_cons (C8.pe_gc rfl W.c_TIE) (pa_cons (pv 2) pa_nil))) pa_nil)))))))
      (pss_cons (ps_aug (i := 1) sc_rows_of.nd rfl (by first | exact Or.inl rfl | exact Or.inr rfl) (pe_lc (own := [("event", 6), ("limit", 7)]) (g := _) (tt := tYes) rfl sc_rows_of.nd (pi_items (pe_frz (pe_mal0 W.cl_Plan m_limits hr (H := fun hm F b hrm => pe_meth0 (pv 0) W.cl_Plan hm F hrm b .nil pass0)))) (blkOk_by (own := [("event", 6), ("limit", 7)]) (N := N_rows_of) (sc := defScope s_rows_of) (by decide +kernel)) (fun _ _ _ _ _ => (pg_tupK (K := K) (n := 2) (pgs_cons (pg_name (i := 6) sc_rows_of.nd rfl (by first | exact Or.inl rfl | exact Or.inr rfl)) (pgs_cons (pg_name (i := 7) sc_rows_of.nd rfl (by first | exact Or.inl rfl | exact Or.inr rfl)) pgs_nil)))) (fun _ _ _ _ _ => pts_nil) (fun _ _ _ _ _ => (pe_tup (pa_cons pe_non (pa_cons (pv 6) (pa_cons (pv 7) (pa_cons (pe_tup (pa_cons (C8.pe_gc rfl W.c_HOLD) (pa_cons (pv 6) pa_nil))) pa_nil))))))) iop_ext)
      (pss_one (ps_ret (pe_op op_cat (pv 1) (pe_lc (own := [("event", 6)]) (g := (gName 6)) (tt := tYes) rfl sc_rows_of.nd (pi_listK (K := K) (pe_mal0 W.cl_Plan m_events hr (H := fun hm F b hrm => pe_meth0 (pv 0) W.cl_Plan hm F hrm b .nil pass0))) (blkOk_by (own := [("event", 6)]) (N := N_rows_of) (sc := defScope s_rows_of) (by decide +kernel)) (fun _ _ _ _ _ => (pg_name (i := 6) sc_rows_of.nd rfl (by first | exact Or.inl rfl | exact Or.inr rfl))) (fun _ _ _ _ _ => pts_nil) (fun _ _ _ _ _ => (pe_tup (pa_cons (pv 6) (pa_cons pe_non (pa_cons pe_int (pa_cons (pe_tup (pa_cons (C8.pe_gc rfl W.c_NONE) (pa_cons (pv 6) pa_nil))) pa_nil)))))))))))), ?_⟩
  · obtain ⟨p, D, rfl, _⟩ := h; rfl
  obtain ⟨p, D, rfl, pa, ok, q⟩ := h
  obtain ⟨dx, ae, at_, al, hp, h2, h3, h4⟩ := id pa
  have l8 : D.ev.length ≤ 8 := ok.le
  have l60 : D.ties.length ≤ 60 := ok.tle
  have lls : D.ls.length ≤ 8 := Nat.le_trans (lim_len ok.lnd fun p hp => (ok.lin p hp).1) l8
  refine ⟨_, rfl, p, dx, _, rfl, hp, rfl, p, D, rfl, pa, fun l H1 s1 hl _ ht => ?_⟩
  obtain ⟨as, t1, t2⟩ := ht
  have las := Paired.length t2
  refine ⟨l, _, rfl, sq t1, fun F hF => lc_it wk_enum (fun i H' => Same H1 H' ∧ ∃ bs, H' F = some (.lst (bs.map V.ref)) ∧ Paired (RowR H') bs ((D.ties.take i).map fun t => (some t.1, some t.2.1, t.2.2))) ⟨same_new hF, [], upd_same, .nil⟩ (fun i H' _ p => sq (p.1 _ _ t1)) (fun i v H2 H3 hi p y => ?_) fun H2 p2 => ?_⟩
  · obtain ⟨s2, bs, f1, f2⟩ := p
    obtain ⟨T, x, rfl, hT, rfl, hx⟩ := y
    obtain ⟨q, hq, rfl⟩ := map_at hx
    obtain ⟨t, ht, hqt⟩ := paired_get t2 hq
    have lb := Paired.length f2
    rw [List.length_map, List.length_take] at lb
    have s3 := Same.new (o := .tup [.int (i : Nat), .ref q]) s2 hT
    refine ⟨T, _, rfl, st upd_same, rfl, _, _, rfl, _, _, rfl, q, _, rfl, st (s3 _ _ hqt), rfl, _, _, rfl, _, _, rfl, _, _, rfl, rfl, rfl, rfl, _, rfl, _, rfl, _, rfl, _, rfl, by show 2 ≤ sizeLine; decide, fun p1 hp1 => ⟨by show 4 ≤ sizeLine; decide, fun p2 hp2 => ?_⟩⟩
    have s5 := Same.new (o := .tup [.str t.1, .str t.2.1, .int t.2.2, .ref p1]) (Same.new (o := .tup [.str "tie", .int (i : Nat)]) s3 hp1) hp2
    have g5 := Same.new (o := .tup [.str t.1, .str t.2.1, .int t.2.2, .ref p1]) (Same.new (o := .tup [.str "tie", .int (i : Nat)]) (same_new (o := .tup [.int (i : Nat), .ref q]) hT) hp1) hp2
    have nF : p2 ≠ F := fun z => by
      have := Same.new (o := .tup [.str "tie", .int (i : Nat)]) (same_new (o := .tup [.int (i : Nat), .ref q]) hT) hp1 _ _ f1
      rw [z, this] at hp2
      cases hp2
    refine ⟨_, g5 _ _ f1, by rw [List.length_map]; exact sz_lt (by omega), Same.mut s5 hF, bs ++ [p2], by rw [upd_same, List.map_append]; rfl, ?_⟩
    rw [take_map ht]
    refine paired_app (Paired.mapP f2 fun u r ⟨z, hz⟩ => ⟨z, ?_⟩) (.cons ⟨.ref p1, ?_⟩ .nil)
    · have nu : u ≠ F := ne_of hz f1 (by intro e; cases e)
      rw [upd_ne nu]
      exact g5 _ _ hz
    · rw [upd_ne nF]
      exact upd_same
  obtain ⟨s2, bs, f1, f2⟩ := p2
  rw [List.length_map, las, List.take_length] at f2
  have s2 := Same.trans s1 s2
  have hF0 : H F = none := Same.free s1 hF
  have pa2 := pa.same s2
  -- the limits
  refine ⟨_, rfl, _, rfl, p, dx, _, rfl, s2 _ _ hp, rfl, p, D, rfl, pa2, fun l3 hl3 => ⟨l3, _, rfl, upd_same, trivial, fun o => ⟨l3, o, _, rfl, upd_same, ?_⟩⟩⟩
  rw [upd_upd]
  have s3 := Same.new (o := .frz o (.dK (kv V.int D.ls))) s2 hl3
  have f3 := same_new (o := .frz o (.dK (kv V.int D.ls))) hl3 _ _ f1
  have f4 := rowR_same f2 (same_new (o := .frz o (.dK (kv V.int D.ls))) hl3)
  have hl4 : (upd H2 l3 (.frz o (.dK (kv V.int D.ls)))) l3 = some (.frz o (.dK (kv V.int D.ls))) := upd_same
  generalize upd H2 l3 (.frz o (.dK (kv V.int D.ls))) = H3 at s3 f3 f4 hl4
  refine fun G hG => lc_it wk_items (fun i H' => Same H3 H' ∧ ∃ cs, H' G = some (.lst (cs.map V.ref)) ∧ Paired (RowR H') cs ((D.ls.take i).map fun t => (none, some t.1, t.2))) ⟨same_new hG, [], upd_same, .nil⟩ (fun i H' _ p => p.1 _ _ hl4) (fun i v H5 H6 hi p y => ?_) fun H5 p5 => ?_
  · obtain ⟨s5, cs, g1, g2⟩ := p
    obtain ⟨T, k, z, hk, rfl, hT, rfl⟩ := y
    obtain ⟨t, ht, rfl, rfl⟩ := kv_at _ hk
    have lb := Paired.length g2
    rw [List.length_map, List.length_take] at lb
    refine ⟨T, _, rfl, st upd_same, rfl, _, _, rfl, _, _, rfl, rfl, rfl, _, rfl, _, rfl, _, rfl, by show 2 ≤ sizeLine; decide, fun p1 hp1 => ⟨by show 4 ≤ sizeLine; decide, fun p2 hp2 => ?_⟩⟩
    have g5 := Same.new (o := .tup [.non, .str t.1, .int t.2, .ref p1]) (Same.new (o := .tup [.str "limit", .str t.1]) (same_new (o := .tup [.str t.1, .int t.2]) hT) hp1) hp2
    have nG : p2 ≠ G := fun z => by
      have := Same.new (o := .tup [.str "limit", .str t.1]) (same_new (o := .tup [.str t.1, .int t.2]) hT) hp1 _ _ g1
      have hp2 : (upd (upd H5 T (.tup [.str t.1, .int t.2])) p1 (.tup [.str "limit", .str t.1])) p2 = none := hp2
      rw [z, this] at hp2
      cases hp2
    refine ⟨_, g5 _ _ g1, by rw [List.length_map]; exact sz_lt (by omega), Same.mut (Same.trans s5 g5) hG, cs ++ [p2], by rw [upd_same, List.map_append]; rfl, ?_⟩
    rw [take_map ht]
    refine paired_app (Paired.mapP g2 fun u r ⟨z, hz⟩ => ⟨z, ?_⟩) (.cons ⟨.ref p1, ?_⟩ .nil)
    · have nu : u ≠ G := ne_of hz g1 (by intro e; cases e)
      rw [upd_ne nu]
      exact g5 _ _ hz
    · rw [upd_ne nG]
      exact upd_same
  obtain ⟨s5, cs, g1, g2⟩ := p5
  rw [kv_len, List.take_length] at g2
  have lb := Paired.length f4
  have lc := Paired.length g2
  rw [List.length_map] at lb lc
  have s5' := Same.trans s3 s5
  have f5 := s5 _ _ f3
  refine ⟨F, G, _, _, rfl, rfl, f5, g1, by rw [List.length_map, List.length_map]; exact sz_le (by omega), ?_⟩
  have s6 : Same H (upd H5 F (.lst (bs.map V.ref ++ cs.map V.ref))) := Same.mut s5' hF0
  have f6 : (upd H5 F (.lst (bs.map V.ref ++ cs.map V.ref))) F = some (.lst ((bs ++ cs).map V.ref)) := by rw [upd_same, List.map_append]
  have r6 : Paired (RowR (upd H5 F (.lst (bs.map V.ref ++ cs.map V.ref)))) (bs ++ cs) ((D.ties.map fun t => (some t.1, some t.2.1, t.2.2)) ++ D.ls.map fun t => (none, some t.1, t.2)) :=
    Paired.mapP (paired_app (rowR_same f4 s5) g2) fun u r ⟨z, hz⟩ => ⟨z, by
      rw [upd_ne (ne_of hz f5 (by intro e; cases e))]
      exact hz⟩
  generalize upd H5 F (.lst (bs.map V.ref ++ cs.map V.ref)) = H6 at s6 f6 r6
  have pa6 := pa.same s6
  -- the events
  refine ⟨_, rfl, _, rfl, p, dx, _, rfl, s6 _ _ hp, rfl, p, D, rfl, pa6, l8, fun l7 hl7 => ⟨l7, rfl, ⟨_, sq upd_same⟩, ?_⟩⟩
  have s7 := Same.new (o := .lst (D.ev.map V.str)) s6 hl7
  have f7 := same_new (o := .lst (D.ev.map V.str)) hl7 _ _ f6
  have r7 := rowR_same r6 (same_new (o := .lst (D.ev.map V.str)) hl7)
  have e7 : (upd H6 l7 (.lst (D.ev.map V.str))) l7 = some (.lst (D.ev.map V.str)) := upd_same
  generalize upd H6 l7 (.lst (D.ev.map V.str)) = H7 at s7 f7 r7 e7
  refine fun I hI => lc_it wk_list (fun i H' => Same H7 H' ∧ ∃ ds, H' I = some (.lst (ds.map V.ref)) ∧ Paired (RowR H') ds ((D.ev.take i).map fun x => (some x, none, 0))) ⟨same_new hI, [], upd_same, .nil⟩ (fun i H' _ p => sq (p.1 _ _ e7)) (fun i v H8 H9 hi p y => ?_) fun H8 p8 => ?_
  · obtain ⟨s8, ds, g1, g2⟩ := p
    obtain ⟨rfl, hx⟩ := y
    obtain ⟨x, hx', rfl⟩ := map_at hx
    have lb := Paired.length g2
    rw [List.length_map, List.length_take] at lb
    refine ⟨rfl, _, rfl, _, rfl, by show 2 ≤ sizeLine; decide, fun p1 hp1 => ⟨by show 4 ≤ sizeLine; decide, fun p2 hp2 => ?_⟩⟩
    have g5 := Same.new (o := .tup [.str x, .non, .int 0, .ref p1]) (same_new (o := .tup [.str "none", .str x]) hp1) hp2
    have nG : p2 ≠ I := fun z => by
      have := same_new (o := .tup [.str "none", .str x]) hp1 _ _ g1
      have hp2 : (upd H9 p1 (.tup [.str "none", .str x])) p2 = none := hp2
      rw [z, this] at hp2
      cases hp2
    refine ⟨_, g5 _ _ g1, by rw [List.length_map]; exact sz_lt (by omega), Same.mut (Same.trans s8 g5) hI, ds ++ [p2], by rw [upd_same, List.map_append]; rfl, ?_⟩
    rw [take_map hx']
    refine paired_app (Paired.mapP g2 fun u r ⟨z, hz⟩ => ⟨z, ?_⟩) (.cons ⟨.ref p1, ?_⟩ .nil)
    · have nu : u ≠ I := ne_of hz g1 (by intro e; cases e)
      rw [upd_ne nu]
      exact g5 _ _ hz
    · rw [upd_ne nG]
      exact upd_same
  obtain ⟨s8, ds, g1, g2⟩ := p8
  rw [List.length_map, List.take_length] at g2
  have ld := Paired.length g2
  rw [List.length_map] at ld
  refine ⟨F, I, _, _, rfl, rfl, s8 _ _ f7, g1, by rw [List.length_map, List.length_map, List.length_append]; exact sz_le (by omega), fun z hz => q z _ (Same.new (Same.trans s7 s8) hz) ⟨bs ++ cs ++ ds, by rw [upd_same, List.map_append (l₁ := bs ++ cs)], ?_⟩⟩
  exact rowR_same (paired_app (rowR_same r7 s8) g2) (same_new hz)
end
end Pk
end
section
set_option maxHeartbeats 1000000
namespace Pk
open PySem PySem.Spec PyProof.Rows L2
/-! ### lists of names compared -/
theorem name_strOk {x : Str} (h : NameOk x) : PyData.strOk x = true := by
  unfold PyData.strOk
  rw [← Array.all_toList, List.all_eq_true]
  intro c hc
  have h1 : c ∈ abc.cps.toList := h.2.2 c hc
  have h2 : ∀ c ∈ abc.cps.toList, decide (c < 0x110000) = true := by decide +kernel
  exact h2 c h1
theorem canLay_strs : ∀ {xs : List Str}, (∀ x ∈ xs, NameOk x) → PyData.canLayAll0 (xs.map PyData.str) = true
  | [], _ => rfl
  | x :: xs, h => by
    have h1 := name_strOk (h x (List.mem_cons_self ..))
    have h2 := canLay_strs (xs := xs) fun y hy => h y (List.mem_cons_of_mem _ hy)
    show (PyData.strOk x && PyData.canLayAll0 (xs.map PyData.str)) = true
    rw [h1, h2]
    rfl
theorem depth_strs : ∀ xs : List Str, PyData.depthAll (xs.map PyData.str) = 0
  | [] => rfl
  | x :: xs => by
    show max 0 (PyData.depthAll (xs.map PyData.str)) = 0
    rw [depth_strs xs]
    rfl
theorem shaped_strs {xs : List Str} (h : ∀ x ∈ xs, NameOk x) : SeqAt.shaped (.list (xs.map PyData.str)) = true := by
  show (PyData.canLayAll0 (xs.map PyData.str) && decide (PyData.depthAll (xs.map PyData.str) + 1 ≤ 64)) = true
  rw [canLay_strs h, depth_strs]
  rfl
theorem eqv_strs : ∀ xs ys : List Str, PyData.eqvAll (xs.map PyData.str) (ys.map PyData.str) = decide (xs = ys)
  | [], [] => rfl
  | [], _ :: _ => rfl
  | _ :: _, [] => rfl
  | x :: xs, y :: ys => by
    show ((x == y) && PyData.eqvAll (xs.map PyData.str) (ys.map PyData.str)) = _
    rw [eqv_strs xs ys]
    have e : (x == y) = decide (x = y) := rfl
    rw [e]
    by_cases h1 : x = y
    · subst h1
      by_cases h2 : xs = ys
      · subst h2; simp
      · simp [h2]
    · simp [h1]
theorem dp_strs {K : PySem.W.Frag} {H : Hp} : ∀ xs : List Str, DpAll K H (xs.map V.str) (xs.map PyData.str)
  | [] => .nil
  | x :: xs => .cons (.str x) (dp_strs xs)
def rNeS (K : PySem.W.Frag) : R2 := fun x y H Q => ∃ (a b : Addr) (xs ys : List Str), x = .ref a ∧ y = .ref b ∧ SqL K H a (xs.map V.str) ∧ SqL K H b (ys.map V.str) ∧ (∀ x ∈ xs, NameOk x) ∧ (∀ x ∈ ys, NameOk x) ∧ Q (.bl (!decide (xs = ys))) H
theorem op_neS {X : Cx} (hu : X.A.units + 64 < cLine) : OpR X (compareOp .NotEq) (rNeS X.K) := by
  intro pins s σ H x y v u Q I rx ry h
  obtain ⟨a, b, xs, ys, rfl, rfl, ha, hb, hx, hy, q⟩ := h
  refine op_neD hu pins s σ H _ _ v u Q I rx ry ⟨_, _, .lst ha (dp_strs xs), .lst hb (dp_strs ys), shaped_strs hx, shaped_strs hy, ?_⟩
  show Q (.bl (!PyData.eqvAll (xs.map PyData.str) (ys.map PyData.str))) H
  rw [eqv_strs]
  exact q
section
variable {P : Program} {w : World} {K : PySem.W.Frag} {mg : Str → Option Value} {base : Heap} {CP CT : Addr}
/-! ### the two makers -/
structure IPlan (P : Program) (w : World) (K : PySem.W.Frag) (mg : Str → Option Value) (base : Heap) (CP : Addr) : Prop where
  ex : ∃ (f : Addr) (fd : FuncData) (g : List Value → List Value → List Value), FnOk P w K mg base CX0 4 f fd ["self", "events", "ties", "limits"] (sp_Plan_init CP) ∧ Mk K CP f ∧ KBn K fd ["self", "events", "ties", "limits"] 3 ["limits"] g fun vs zs => vs ++ zs
theorem pe_plan {X : Cx} {CP : Addr} {a b c : Expr} {p pos kpos : Pos} {t : TA} {tk : TE} {j : Nat} (hm : X.mg "Plan" = some (.ref CP)) (i : IPlan X.prog X.w X.K X.mg X.base CP) (hr : Room j X.A) (ha : PA X [a, b] t) (hk : PE X c tk) (hg : Gl X "Plan" := by rfl) (hj : 5 ≤ j := by decide)
    (he : starEach [a, b] X.env = (false, eval a X.env) :: starEach [b] X.env := by rfl)
    (hall : (backToKw pos (keywordEach [⟨some "limits", c, kpos⟩] X.env)).all (·.1.isSome) = true := by rfl) (hks : (backToKw pos (keywordEach [⟨some "limits", c, kpos⟩] X.env)).filterMap (·.1) = ([("limits" : Str)] : List Str) := by rfl)
    (hpl : ((backTo pos (starEach [a, b] X.env)).any (·.1) || (backToKw pos (keywordEach [⟨some "limits", c, kpos⟩] X.env)).any (·.1.isNone)) = false := by rfl) :
    PE X (.Call (.Name "Plan" p) [a, b] [⟨some "limits", c, kpos⟩] pos) (tMakeK CP 2 1 (sp_Plan_init CP) (fun vs zs => vs ++ zs) E0 t (tCons tk tNil)) := by
  obtain ⟨f, fd, g, F, M, B⟩ := i.ex
  exact pe_makeK (n := 2) (ks := [("limits" : Str)]) M F (hr.mono hj) hg hm B pass0 ha (pk_cons hk pk_nil) hall hks (by decide) he hpl
/-- a new object stands beside what stood -/
theorem made_in {C : Addr} {H : Hp} {x dx : Addr} (hx : H x = none) (hdx : H dx = none) : Same H (upd (upd H dx (.own x)) x (.ins C dx [])) := fun y o e => by
  rw [upd_ne (ne_of_none e hx), upd_ne (ne_of_none e hdx)]
  exact e
theorem made_out {C : Addr} {H H' : Hp} {x dx : Addr} (hx : H x = none) (hdx : H dx = none) (bt : But x (upd (upd H dx (.own x)) x (.ins C dx [])) H') : Same H H' := fun y o e => bt y o (ne_of_none e hx) (made_in hx hdx y o e)
/-- a table of a plan's events -/
def TableAt (P : Program) (w : World) (CT : Addr) (H : Hp) (t : Addr) (ev : List Str) (L : Pu.Tb Str) : Prop :=
  ∃ dx ae al as, H t = some (.ins CT dx [("row_of_events", .ref ae), ("leads", .ref al), ("steps", .ref as)]) ∧ H ae = some (.lst (ev.map V.str)) ∧ ∃ kvs, DP P w H al kvs ∧ ∀ i j, valV kvs (i, j) = (L i j).map V.int
theorem TableAt.same {H H' : Hp} {t : Addr} {ev : List Str} {L : Pu.Tb Str} (h : TableAt P w CT H t ev L) (s : Same H H') : TableAt P w CT H' t ev L :=
  let ⟨dx, ae, al, as, h1, h2, kvs, d, h3⟩ := h
  ⟨dx, ae, al, as, s _ _ h1, s _ _ h2, kvs, d.same s, h3⟩
abbrev N_Table_init : List Str := ["self", "plan"]
theorem sc_Table_init : FnScope N_Table_init ["self", "plan"] (defScope s_Table_init) := ⟨rfl, rfl, rfl, by decide +kernel, rfl, by decide +kernel, by decide +kernel⟩
def sp_Table_init (P : Program) (w : World) (CP CT : Addr) : Sp := fun vs H Q _ => ∃ (t dx p : Addr) (D : PD), vs = [.ref t, .ref p] ∧ H t = some (.ins CT dx []) ∧ PlanAt CP H p D ∧ PdOk D ∧
  ∀ H' L, But t H H' → TableAt P w CT H' t D.ev L → Pu.Closed D.pl L → Q .non H'
theorem k_Table_init (W : Ws K mg CP CT) {f : Addr} {fd : FuncData} (F : FunD K "__init__" "Table.__init__" (defArgs s_Table_init) (defBody s_Table_init) (defScope s_Table_init) [] [] f fd)
    (c_need_plan : Cal P w K mg base 1 "need_plan" ["value"] (sp_need_plan CP)) (c_rows_of : Cal P w K mg base 2 "rows_of" ["plan"] (sp_rows_of CP)) (c_leads_of : Cal P w K mg base 1 "leads_of" ["nodes", "rows"] (sp_leads_of P w))
    (m_events : Mal P w K mg base 1 CP "events" ["self"] (sp_Plan_events CP)) : FnOk P w K mg base CX0 3 f fd ["self", "plan"] (sp_Table_init P w CP CT) := by
  refine funD_ok F sc_Table_init (fun vs H Q E h => ?_) fun f cdv A outer s H vs Q E hr h => ⟨_, (pss_cons (ps_expr (pe_cal c_need_plan hr rfl (pa_cons (pv 1) pa_nil)))
      (pss_cons (ps_fld (pv 0) (pe_mal0 W.cl_Plan m_events hr (H := fun hm F b hrm => pe_meth0 (pv 1) W.cl_Plan hm F hrm b .nil pass0)) rfl)
      (pss_one (ps_asg (pe_cal c_leads_of hr rfl (pa_cons (pe_lst (pa_cons pe_non (StX.pa_star (pe_fld (pv 0) rfl) pa_nil))) (pa_cons (pe_cal c_rows_of hr rfl (pa_cons (pv 1) pa_nil)) pa_nil))) (pg_tupK (K := K) (n := 2) (pgs_cons (pg_fld (pv 0)) (pgs_cons (pg_fld (pv 0)) pgs_nil))))))), ?_⟩
  · obtain ⟨t, dx, p, D, rfl, _⟩ := h; rfl
  obtain ⟨t, dx, p, D, rfl, ht, pa, ok, q⟩ := h
  obtain ⟨pdx, ae, at_, al, hp, h2, h3, h4⟩ := id pa
  have l8 : D.ev.length ≤ 8 := ok.le
  refine ⟨_, rfl, p, pdx, _, rfl, hp, _, rfl, p, pdx, _, rfl, hp, rfl, p, D, rfl, pa, l8, fun le hle => ⟨_, rfl, t, CT, dx, _, rfl, same_new hle _ _ ht, W.cl_Table, W.n_row_of_events, by decide, ?_⟩⟩
  rw [putF_nil]
  have n1 : le ≠ t := fun z => by rw [z, ht] at hle; cases hle
  have b1 : But t H (upd (upd H le (.lst (D.ev.map V.str))) t (.ins CT dx [("row_of_events", .ref le)])) := (But.of (same_new hle)).trans But.upd
  have g1 : (upd (upd H le (.lst (D.ev.map V.str))) t (.ins CT dx [("row_of_events", .ref le)])) t = some (.ins CT dx [("row_of_events", .ref le)]) := upd_same
  have e1 : (upd (upd H le (.lst (D.ev.map V.str))) t (.ins CT dx [("row_of_events", .ref le)])) le = some (.lst (D.ev.map V.str)) := by rw [upd_ne n1]; exact upd_same
  generalize upd (upd H le (.lst (D.ev.map V.str))) t (.ins CT dx [("row_of_events", .ref le)]) = H1 at b1 g1 e1 ⊢
  have np : p ≠ t := fun z => by
    rw [z, ht] at hp
    cases hp
  have pa1 : PlanAt CP H1 p D := by
    obtain ⟨as, h31, h32⟩ := h3
    refine ⟨pdx, ae, at_, al, b1 _ _ np hp, b1 _ _ (ne_of h2 ht (by intro z; cases z)) h2, ⟨as, b1 _ _ (ne_of h31 ht (by intro z; cases z)) h31, Paired.mapP h32 fun u y z => b1 _ _ (ne_of z ht (by intro z; cases z)) z⟩, b1 _ _ (ne_of h4 ht (by intro z; cases z)) h4⟩
  refine ⟨_, rfl, t, CT, dx, _, _, rfl, g1, W.cl_Table, W.n_row_of_events, rfl, le, _, rfl, .inr (sq e1), ?_⟩
  refine ⟨by rw [List.append_nil, List.length_cons, List.length_map]; exact sz_le (by omega), fun ln hln => ?_⟩
  have s2 := same_new (o := .lst (.non :: (D.ev.map V.str ++ []))) hln
  refine ⟨_, rfl, p, D, rfl, pa1.same s2, ok, fun lr H3 s3 hrows => ?_⟩
  have en : (.non :: (D.ev.map V.str ++ []) : List V) = (Pu.nodesOf D.pl).map nV := by
    rw [List.append_nil]
    show _ = nV none :: (D.ev.map some).map nV
    rw [List.map_map]
    rfl
  have wf := ok.wf
  have nd : ∀ x ∈ D.ev, some x ∈ Pu.nodesOf D.pl := fun x hx => List.mem_cons_of_mem _ (List.mem_map.mpr ⟨x, hx, rfl⟩)
  refine ⟨ln, lr, Pu.nodesOf D.pl, Pu.rowsOf D.pl D.ls, rfl, by rw [← en]; exact s3 _ _ upd_same, hrows, ?_, ?_, ?_, fun r hr' => ?_, fun tt a b H4 s4 htt hls => ?_⟩
  · show (D.ev.map some).length + 1 ≤ 9
    rw [List.length_map]; omega
  · show (none :: D.ev.map some).Nodup
    rw [List.nodup_cons]
    refine ⟨by simp, ?_⟩
    have := ok.nd
    exact List.Pairwise.map _ (fun a b h z => h (Option.some.inj z)) this
  · have h1 : D.ties.length ≤ 60 := ok.tle
    have h2 : D.ls.length ≤ 8 := Nat.le_trans (lim_len ok.lnd fun p hp => (ok.lin p hp).1) l8
    show ((D.ties.map _) ++ (D.ls.map _) ++ D.ev.map _).length ≤ 80
    rw [List.length_append, List.length_append, List.length_map, List.length_map, List.length_map]
    omega
  · rcases List.mem_append.mp hr' with h | h
    · rcases List.mem_append.mp h with h | h
      · obtain ⟨y, hy, rfl⟩ := List.mem_map.mp h
        exact ⟨nd _ (ok.ends y hy).1, nd _ (ok.ends y hy).2.1⟩
      · obtain ⟨y, hy, rfl⟩ := List.mem_map.mp h
        exact ⟨List.mem_cons_self .., nd _ (ok.lin y hy).1⟩
    · obtain ⟨y, hy, rfl⟩ := List.mem_map.mp h
      exact ⟨nd _ hy, List.mem_cons_self ..⟩
  · have s5 := Same.trans (Same.trans s2 s3) s4
    have g5 := s5 _ _ g1
    obtain ⟨nab, ⟨kvs, d, _, hv⟩, _⟩ := hls
    have nat : t ≠ a := fun z => by
      obtain ⟨o, h1, _⟩ := d.there
      have g6 := g5
      rw [z] at g6
      obtain ⟨es, h2, _⟩ := d
      rw [g6] at h2
      cases h2
    refine ⟨tt, _, rfl, st htt, rfl, _, _, rfl, _, rfl, t, CT, dx, _, rfl, g5, W.cl_Table, W.n_leads, by show 1 < 1000; decide, ?_⟩
    rw [putF_ne (f := "leads") (g := "row_of_events") (by decide +kernel), putF_nil]
    refine ⟨_, _, rfl, _, rfl, t, CT, dx, _, rfl, upd_same, W.cl_Table, W.n_steps, by show 2 < 1000; decide, rfl, ?_⟩
    rw [putF_ne (f := "steps") (g := "row_of_events") (by decide +kernel), putF_ne (f := "steps") (g := "leads") (by decide +kernel), putF_nil]
    rw [upd_upd]
    refine q _ (Pu.leads (Pu.nodesOf D.pl) (Pu.rowsOf D.pl D.ls)) ((b1.trans (But.of s5)).trans But.upd) ⟨dx, le, a, b, upd_same, by rw [upd_ne n1]; exact s5 _ _ e1, kvs, d.but nat (by intro ys z; rw [g5] at z; cases z) But.upd, hv⟩ ?_
    refine Pu.closed_of wf fun x m => ⟨fun e => lk_mem e, fun e => lk_of ok.lnd e⟩
/-- a table as the callers make it -/
structure ITable (P : Program) (w : World) (K : PySem.W.Frag) (mg : Str → Option Value) (base : Heap) (CP CT : Addr) : Prop where
  ex : ∃ (f : Addr) (fd : FuncData), FnOk P w K mg base CX0 3 f fd ["self", "plan"] (sp_Table_init P w CP CT) ∧ Mk K CT f ∧ Binds K fd ["self", "plan"] []
theorem pe_table {X : Cx} {CP CT : Addr} {a : Expr} {p pos : Pos} {t : TA} {j : Nat} (hm : X.mg "Table" = some (.ref CT)) (i : ITable X.prog X.w X.K X.mg X.base CP CT) (hr : Room j X.A) (ha : PA X [a] t) (hg : Gl X "Table" := by rfl) (hj : 4 ≤ j := by decide)
    (he : starEach [a] X.env = (false, eval a X.env) :: starEach [] X.env := by rfl) (hpl : (backTo pos (starEach [] X.env)).any (·.1) = false := by rfl) :
    PE X (.Call (.Name "Table" p) [a] [] pos) (tMake CT (sp_Table_init X.prog X.w CP CT) [] E0 t) := by
  obtain ⟨f, fd, F, M, B⟩ := i.ex
  exact pe_make M F (hr.mono hj) hg hm B .nil pass0 ha (by decide) he hpl
def oV : Option Int → V
  | none => .non
  | some i => .int i
theorem getD_oV (o : Option Int) : (o.map V.int).getD .non = oV o := by cases o <;> rfl
abbrev N_Table_lead : List Str := ["self", "earlier", "later"]
theorem sc_Table_lead : FnScope N_Table_lead ["self", "earlier", "later"] (defScope s_Table_lead) := ⟨rfl, rfl, rfl, by decide +kernel, rfl, by decide +kernel, by decide +kernel⟩
def sp_lead (P : Program) (w : World) (CT : Addr) : Sp := fun vs H Q _ => ∃ (t : Addr) (ev : List Str) (L : Pu.Tb Str) (e l : Str), vs = [.ref t, .str e, .str l] ∧ TableAt P w CT H t ev L ∧ e ∈ ev ∧ l ∈ ev ∧ (∀ x ∈ ev, NameOk x) ∧ ∀ H', Same H H' → Q (oV (L (some e) (some l))) H'
theorem k_lead (W : Ws K mg CP CT) (D : MDf K CT "lead" "Table.lead" s_Table_lead) (c_need_event : Cal P w K mg base 2 "need_event" ["events", "name"] sp_need_event) : Mal P w K mg base 3 CT "lead" ["self", "earlier", "later"] (sp_lead P w CT) := by
  refine D.mal sc_Table_lead (fun _ _ _ _ _ _ us hl => match us, hl with | [_, _, _], _ => rfl) (fun vs H Q E h => ?_) fun f cdv A outer s H vs Q E hr h => ⟨_, (pss_cons (ps_expr (pe_cal c_need_event hr rfl (pa_cons (pe_fld (pv 0) rfl) (pa_cons (pv 1) pa_nil))))
      (pss_cons (ps_expr (pe_cal c_need_event hr rfl (pa_cons (pe_fld (pv 0) rfl) (pa_cons (pv 2) pa_nil))))
      (pss_one (ps_ret (pe_pget1 (hu_of hr) (pe_fld (pv 0) rfl) (pe_tup (pa_cons (pv 1) (pa_cons (pv 2) pa_nil))) ⟨rfl, rfl, rfl, rfl⟩))))), ?_⟩
  · obtain ⟨t, ev, L, e, l, rfl, _⟩ := h; rfl
  obtain ⟨t, ev, L, e, l, rfl, ta, he, hl, nm, q⟩ := h
  obtain ⟨dx, ae, al, as, h1, h2, kvs, d, hv⟩ := ta
  refine ⟨_, rfl, t, CT, dx, _, _, rfl, h1, W.cl_Table, W.n_row_of_events, rfl, _, rfl, ae, ev, e, rfl, h2, he, nm e he, fun H1 s1 => ?_⟩
  refine ⟨_, rfl, t, CT, dx, _, _, rfl, s1 _ _ h1, W.cl_Table, W.n_row_of_events, rfl, _, rfl, ae, ev, l, rfl, s1 _ _ h2, hl, nm l hl, fun H2 s2 => ?_⟩
  have s2 := Same.trans s1 s2
  refine ⟨_, rfl, t, CT, dx, _, _, rfl, s2 _ _ h1, W.cl_Table, W.n_leads, rfl, al, kvs, rfl, d.same s2, _, rfl, _, rfl, by show 2 ≤ sizeLine; decide, fun p hp => ⟨p, kvs, (some e, some l), rfl, (d.same s2).same (same_new hp), upd_same, ?_⟩⟩
  show Q ((valV kvs (some e, some l)).getD .non) _
  rw [hv, getD_oV]
  exact q _ (Same.new s2 hp)
abbrev N_Table_most : List Str := ["self", "event"]
theorem sc_Table_most : FnScope N_Table_most ["self", "event"] (defScope s_Table_most) := ⟨rfl, rfl, rfl, by decide +kernel, rfl, by decide +kernel, by decide +kernel⟩
def sp_most (P : Program) (w : World) (CT : Addr) : Sp := fun vs H Q _ => ∃ (t : Addr) (ev : List Str) (L : Pu.Tb Str) (l : Str), vs = [.ref t, .str l] ∧ TableAt P w CT H t ev L ∧ l ∈ ev ∧ (∀ x ∈ ev, NameOk x) ∧ ∀ H', Same H H' → Q (oV (L none (some l))) H'
theorem k_most (W : Ws K mg CP CT) (D : MDf K CT "most" "Table.most" s_Table_most) (c_need_event : Cal P w K mg base 2 "need_event" ["events", "name"] sp_need_event) : Mal P w K mg base 3 CT "most" ["self", "event"] (sp_most P w CT) := by
  refine D.mal sc_Table_most (fun _ _ _ _ _ _ us hl => match us, hl with | [_, _], _ => rfl) (fun vs H Q E h => ?_) fun f cdv A outer s H vs Q E hr h => ⟨_, (pss_cons (ps_expr (pe_cal c_need_event hr rfl (pa_cons (pe_fld (pv 0) rfl) (pa_cons (pv 1) pa_nil))))
      (pss_one (ps_ret (pe_pget1 (hu_of hr) (pe_fld (pv 0) rfl) (pe_tup (pa_cons pe_non (pa_cons (pv 1) pa_nil))) ⟨rfl, rfl, rfl, rfl⟩)))), ?_⟩
  · obtain ⟨t, ev, L, l, rfl, _⟩ := h; rfl
  obtain ⟨t, ev, L, l, rfl, ta, hl, nm, q⟩ := h
  obtain ⟨dx, ae, al, as, h1, h2, kvs, d, hv⟩ := ta
  refine ⟨_, rfl, t, CT, dx, _, _, rfl, h1, W.cl_Table, W.n_row_of_events, rfl, _, rfl, ae, ev, l, rfl, h2, hl, nm l hl, fun H2 s2 => ?_⟩
  refine ⟨_, rfl, t, CT, dx, _, _, rfl, s2 _ _ h1, W.cl_Table, W.n_leads, rfl, al, kvs, rfl, d.same s2, _, rfl, by show 2 ≤ sizeLine; decide, fun p hp => ⟨p, kvs, (none, some l), rfl, (d.same s2).same (same_new hp), upd_same, ?_⟩⟩
  show Q ((valV kvs (none, some l)).getD .non) _
  rw [hv, getD_oV]
  exact q _ (Same.new s2 hp)
abbrev N_need_alike_events : List Str := ["one", "other"]
theorem sc_need_alike_events : FnScope N_need_alike_events ["one", "other"] (defScope s_need_alike_events) := ⟨rfl, rfl, rfl, by decide +kernel, rfl, by decide +kernel, by decide +kernel⟩
def sp_need_alike_events (CP : Addr) : Sp := fun vs H Q _ => ∃ (p r : Addr) (D D' : PD), vs = [.ref p, .ref r] ∧ PlanAt CP H p D ∧ PlanAt CP H r D' ∧ PdOk D ∧ D'.ev = D.ev ∧ ∀ H', Same H H' → Q .non H'
theorem k_need_alike_events (W : Ws K mg CP CT) (D : Def K mg "need_alike_events" s_need_alike_events) (c_need_plan : Cal P w K mg base 1 "need_plan" ["value"] (sp_need_plan CP)) (m_events : Mal P w K mg base 1 CP "events" ["self"] (sp_Plan_events CP)) :
    Cal P w K mg base 2 "need_alike_events" ["one", "other"] (sp_need_alike_events CP) := by
  refine D.cal sc_need_alike_events (fun _ _ _ _ _ _ us hl => match us, hl with | [_, _], _ => rfl) (fun vs H Q E h => ?_) fun f cdv A outer s H vs Q E hr h => ⟨_, (pss_cons (ps_expr (pe_cal c_need_plan hr rfl (pa_cons (pv 0) pa_nil)))
      (pss_cons (ps_expr (pe_cal c_need_plan hr rfl (pa_cons (pv 1) pa_nil)))
      (pss_one (ps_if (pt_cmpR (op_neS hr.units) (pe_mal0 W.cl_Plan m_events hr (H := fun hm F b hrm => pe_meth0 (pv 0) W.cl_Plan hm F hrm b .nil pass0)) (pe_mal0 W.cl_Plan m_events hr (H := fun hm F b hrm => pe_meth0 (pv 1) W.cl_Plan hm F hrm b .nil pass0)) (by rfl)) (pss_one ps_never) pss_nil)))), ?_⟩
  · obtain ⟨p, r, D, D', rfl, _⟩ := h; rfl
  obtain ⟨p, r, D, D', rfl, pa, pa', ok, ev, q⟩ := h
  obtain ⟨dx, a1, a2, a3, hp, _⟩ := id pa
  obtain ⟨dx', b1, b2, b3, hr', _⟩ := id pa'
  have l8 : D.ev.length ≤ 8 := ok.le
  refine ⟨_, rfl, p, dx, _, rfl, hp, _, rfl, r, dx', _, rfl, hr', ?_⟩
  refine ⟨_, rfl, p, dx, _, rfl, hp, rfl, p, D, rfl, pa, l8, fun l1 hl1 => ⟨_, rfl, r, dx', _, rfl, same_new hl1 _ _ hr', rfl, r, D', rfl, pa'.same (same_new hl1), by rw [ev]; exact l8, fun l2 hl2 => ?_⟩⟩
  exact ⟨l1, l2, D.ev, D'.ev, rfl, rfl, sq (same_new hl2 _ _ upd_same), sq upd_same, ok.nm, by rw [ev]; exact ok.nm, false, by rw [ev, decide_eq_true rfl]; rfl, q _ (Same.new (same_new hl1) hl2)⟩
abbrev N_breaches : List Str := ["one", "other", "table", "found", "earlier", "later", "lag", "lead", "event", "limit", "most"]
theorem sc_breaches : FnScope N_breaches ["one", "other"] (defScope s_breaches) := ⟨rfl, rfl, rfl, by decide +kernel, rfl, by decide +kernel, by decide +kernel⟩
/-- whoever is asked finds nothing: the table of one bears each tie and each limit of other -/
def sp_breaches (CP : Addr) : Sp := fun vs H Q _ => ∃ (p r : Addr) (D D' : PD), vs = [.ref p, .ref r] ∧ PlanAt CP H p D ∧ PlanAt CP H r D' ∧ PdOk D ∧ PdOk D' ∧ D'.ev = D.ev ∧ (∀ c, Pu.Mom D.pl c → Pu.Mom D'.pl c) ∧
  ∀ l H', Same H H' → H' l = some (.lst []) → Q (.ref l) H'
theorem k_breaches (W : Ws K mg CP CT) (D : Def K mg "breaches" s_breaches) (i_Table : ITable P w K mg base CP CT) (m_lead : Mal P w K mg base 3 CT "lead" ["self", "earlier", "later"] (sp_lead P w CT)) (m_most : Mal P w K mg base 3 CT "most" ["self", "event"] (sp_most P w CT))
    (m_ties : Mal P w K mg base 1 CP "ties" ["self"] (sp_Plan_ties CP)) (m_limits : Mal P w K mg base 1 CP "limits" ["self"] (sp_Plan_limits CP)) : Cal P w K mg base 5 "breaches" ["one", "other"] (sp_breaches CP) := by
  refine D.cal sc_breaches (fun _ _ _ _ _ _ us hl => match us, hl with | [_, _], _ => rfl) (fun vs H Q E h => ?_) fun f cdv A outer s H vs Q E hr h => ⟨_, (pss_cons (ps_set (i := 2) sc_breaches.nd rfl (by first | exact Or.inl rfl | exact Or.inr rfl) (pe_table W.g_Table i_Table hr (pa_cons (pv 0) pa_nil)))
      (pss_cons (ps_set (i := 3) sc_breaches.nd rfl (by first | exact Or.inl rfl | exact Or.inr rfl) (pe_lst pa_nil))
      (pss_cons (ps_for PassesOwn.never rfl (pi_listK (K := K) (pe_mal0 W.cl_Plan m_ties hr (H := fun hm F b hrm => pe_meth0 (pv 1) W.cl_Plan hm F hrm b .nil pass0))) (pg_tupK (K := K) (n := 3) (pgs_cons (pg_name (i := 4) sc_breaches.nd rfl (by first | exact Or.inl rfl | exact Or.inr rfl)) (pgs_cons (pg_name (i := 5) sc_breaches.nd rfl (by first | exact Or.inl rfl | exact Or.inr rfl)) (pgs_cons (pg_name (i := 6) sc_breaches.nd rfl (by first | exact Or.inl rfl | exact Or.inr rfl)) pgs_nil)))) (pss_cons (ps_set (i := 7) sc_breaches.nd rfl (by first | exact Or.inl rfl | exact Or.inr rfl) (pe_mal (pv 2) W.cl_Table m_lead hr (pa_cons (pv 4) (pa_cons (pv 5) pa_nil)) (H := fun hm F b hrm => pe_meth (pv 2) W.cl_Table hm F hrm b .nil pass0 (pa_cons (pv 4) (pa_cons (pv 5) pa_nil)))))
      (pss_one (ps_if (PW.pt (pw_or (pt_cmpR op_isN (pv 7) pe_non (nomark _)) (pw_or1 (pt_cmpR op_gt (pv 7) (pv 6) (nomark _))))) (pss_one (ps_never)) pss_nil))))
      (pss_cons (ps_for PassesOwn.never rfl (pi_items (pe_frz (pe_mal0 W.cl_Plan m_limits hr (H := fun hm F b hrm => pe_meth0 (pv 1) W.cl_Plan hm F hrm b .nil pass0)))) (pg_tupK (K := K) (n := 2) (pgs_cons (pg_name (i := 8) sc_breaches.nd rfl (by first | exact Or.inl rfl | exact Or.inr rfl)) (pgs_cons (pg_name (i := 9) sc_breaches.nd rfl (by first | exact Or.inl rfl | exact Or.inr rfl)) pgs_nil))) (pss_cons (ps_set (i := 10) sc_breaches.nd rfl (by first | exact Or.inl rfl | exact Or.inr rfl) (pe_mal (pv 2) W.cl_Table m_most hr (pa_cons (pv 8) pa_nil) (H := fun hm F b hrm => pe_meth (pv 2) W.cl_Table hm F hrm b .nil pass0 (pa_cons (pv 8) pa_nil))))
      (pss_one (ps_if (PW.pt (pw_or (pt_cmpR op_isN (pv 10) pe_non (nomark _)) (pw_or1 (pt_cmpR op_gt (pv 10) (pv 9) (nomark _))))) (pss_one (ps_never)) pss_nil))))
      (pss_one (ps_ret (pv 3))))))), ?_⟩
  · obtain ⟨p, r, D, D', rfl, _⟩ := h; rfl
  obtain ⟨p, r, D, D', rfl, pa, pa', ok, ok', ev, imp, q⟩ := h
  obtain ⟨dx', b1, b2, b3, hr', _⟩ := id pa'
  have wf := ok.wf
  refine ⟨_, rfl, fun t tdx0 ht htdx ne => ⟨t, tdx0, p, D, rfl, upd_same, pa.same (made_in ht htdx), ok, fun H1 L bt tb C => ⟨rfl, ?_⟩⟩⟩
  have s1 := made_out ht htdx bt
  obtain ⟨tdx, ta1, ta2, ta3, htb, _⟩ := id tb
  refine ⟨Nat.zero_le _, fun F hF => ?_⟩
  have s2 := Same.new (o := .lst []) s1 hF
  have tb2 := tb.same (same_new (o := .lst []) hF)
  have htb2 := same_new (o := .lst []) hF _ _ htb
  have f2 : (upd H1 F (.lst [])) F = some (.lst []) := upd_same
  have hF0 : H F = none := Same.free s1 hF
  generalize upd H1 F (.lst []) = H2 at s2 tb2 f2 htb2
  -- the ties
  refine ⟨_, rfl, r, dx', _, rfl, s2 _ _ hr', rfl, r, D', rfl, pa'.same s2, fun l H3 s3 hl _ hties => ?_⟩
  obtain ⟨as, h1, h2⟩ := hties
  have las := Paired.length h2
  have s3' := Same.trans s2 s3
  refine ⟨l, rfl, ⟨_, sq h1⟩, for_it wk_list (fun i σ H' => Same H3 H' ∧ ∃ u4 u5 u6 u7 u8 u9 u10, σ = [some (.ref p), some (.ref r), some (.ref t), some (.ref F), u4, u5, u6, u7, u8, u9, u10]) ⟨Same.refl _, _, _, _, _, _, _, _, rfl⟩ (fun i σ H' _ p => sq (p.1 _ _ h1)) (fun i v σ H4 H5 hi p y => ?_) fun σ H4 p4 => ?_⟩
  · obtain ⟨s4, u4, u5, u6, u7, u8, u9, u10, rfl⟩ := p
    obtain ⟨rfl, hx⟩ := y
    obtain ⟨pt, hp, rfl⟩ := map_at hx
    obtain ⟨t0, ht0, hpt⟩ := paired_get h2 hp
    have hm := List.mem_of_getElem? ht0
    obtain ⟨e1, e2, e3⟩ := ok'.ends t0 hm
    rw [ev] at e1 e2
    obtain ⟨v, hv, hle⟩ := Pu.lead_le wf C (e := t0.1) (l := t0.2.1) (g := t0.2.2) e1 e2 e3 fun c hc => (imp c hc).2.1 t0 hm
    have s4' := Same.trans s3 s4
    refine ⟨pt, _, rfl, st (s4 _ _ hpt), rfl, _, _, rfl, _, _, rfl, _, _, rfl, rfl, _, rfl, t, tdx, _, rfl, s4' _ _ htb2, rfl, _, rfl, _, rfl, t, D.ev, L, t0.1, t0.2.1, rfl, tb2.same s4', e1, e2, ok.nm, fun H6 s6 => ?_⟩
    rw [hv]
    refine ⟨_, rfl, rfl, false, rfl, _, rfl, _, rfl, _, _, rfl, rfl, false, bF (by omega), Same.trans s4 s6, _, _, _, _, _, _, _, rfl⟩
  obtain ⟨s4, u4, u5, u6, u7, u8, u9, u10, rfl⟩ := p4
  have s4' := Same.trans s3' s4
  have f4 := s4 _ _ (s3 _ _ f2)
  -- the limits
  refine ⟨_, rfl, r, dx', _, rfl, s4' _ _ hr', rfl, r, D', rfl, pa'.same s4', fun m hm => ⟨m, _, rfl, upd_same, trivial, fun o => ⟨m, o, _, rfl, upd_same, ?_⟩⟩⟩
  rw [upd_upd]
  have s5 := Same.new (o := .frz o (.dK (kv V.int D'.ls))) s4' hm
  have tb5 := (tb2.same (Same.trans s3 s4)).same (same_new (o := .frz o (.dK (kv V.int D'.ls))) hm)
  have htb5 := same_new (o := .frz o (.dK (kv V.int D'.ls))) hm _ _ (s4 _ _ (s3 _ _ htb2))
  have f5 := same_new (o := .frz o (.dK (kv V.int D'.ls))) hm _ _ f4
  have m5 : (upd H4 m (.frz o (.dK (kv V.int D'.ls)))) m = some (.frz o (.dK (kv V.int D'.ls))) := upd_same
  generalize upd H4 m (.frz o (.dK (kv V.int D'.ls))) = H5 at s5 tb5 f5 m5 htb5
  refine for_it wk_items (fun i σ H' => Same H5 H' ∧ ∃ u4 u5 u6 u7 u8 u9 u10, σ = [some (.ref p), some (.ref r), some (.ref t), some (.ref F), u4, u5, u6, u7, u8, u9, u10]) ⟨Same.refl _, _, _, _, _, _, _, _, rfl⟩ (fun i σ H' _ p => p.1 _ _ m5) (fun i v σ H6 H7 hi p y => ?_) fun σ H6 p6 => ?_
  · obtain ⟨s6, u4, u5, u6, u7, u8, u9, u10, rfl⟩ := p
    obtain ⟨T, k, z, hk, rfl, hT, rfl⟩ := y
    obtain ⟨x, hx, rfl, rfl⟩ := kv_at _ hk
    have hmx := List.mem_of_getElem? hx
    obtain ⟨e1, e2⟩ := ok'.lin x hmx
    have e1' := e1
    rw [ev] at e1
    obtain ⟨v, hv, hle⟩ := Pu.most_le wf C (l := x.1) (g := x.2) e1 e2 fun c hc => (imp c hc).2.2 x.1 e1' x.2 (lk_of ok'.lnd hmx)
    have s7 := Same.new (o := .tup [kV (Sum.inr x.1), .int x.2]) s6 hT
    refine ⟨T, _, rfl, st upd_same, rfl, _, _, rfl, _, _, rfl, rfl, _, rfl, t, tdx, _, rfl, s7 _ _ htb5, rfl, _, rfl, t, D.ev, L, x.1, rfl, tb5.same s7, e1, ok.nm, fun H8 s8 => ?_⟩
    rw [hv]
    refine ⟨_, rfl, rfl, false, rfl, _, rfl, _, rfl, _, _, rfl, rfl, false, bF (by omega), Same.trans s7 s8, _, _, _, _, _, _, _, rfl⟩
  · obtain ⟨s6, u4, u5, u6, u7, u8, u9, u10, rfl⟩ := p6
    exact ⟨_, rfl, q F _ (Same.trans s5 s6) (s6 _ _ f5)⟩
abbrev N_within : List Str := ["one", "other", "found", "counts"]
theorem sc_within : FnScope N_within ["one", "other"] (defScope s_within) := ⟨rfl, rfl, rfl, by decide +kernel, rfl, by decide +kernel, by decide +kernel⟩
def sp_within (CP : Addr) : Sp := fun vs H Q _ => ∃ (p r : Addr) (D D' : PD), vs = [.ref p, .ref r] ∧ PlanAt CP H p D ∧ PlanAt CP H r D' ∧ PdOk D ∧ PdOk D' ∧ D'.ev = D.ev ∧ (∀ c, Pu.Mom D.pl c → Pu.Mom D'.pl c) ∧ ∀ H', Same H H' → Q .non H'
theorem k_within (W : Ws K mg CP CT) (D : Def K mg "within" s_within) (c_need_alike_events : Cal P w K mg base 2 "need_alike_events" ["one", "other"] (sp_need_alike_events CP)) (c_breaches : Cal P w K mg base 5 "breaches" ["one", "other"] (sp_breaches CP)) :
    Cal P w K mg base 6 "within" ["one", "other"] (sp_within CP) := by
  refine D.cal sc_within (fun _ _ _ _ _ _ us hl => match us, hl with | [_, _], _ => rfl) (fun vs H Q E h => ?_) fun f cdv A outer s H vs Q E hr h => ⟨_, (pss_cons (ps_expr (pe_cal c_need_alike_events hr rfl (pa_cons (pv 0) (pa_cons (pv 1) pa_nil))))
      (pss_cons (ps_set (i := 2) sc_within.nd rfl (by first | exact Or.inl rfl | exact Or.inr rfl) pe_non)
      (pss_cons (ps_for PassesOwn.never rfl (pi_list (pe_cal c_breaches hr rfl (pa_cons (pv 0) (pa_cons (pv 1) pa_nil)))) (pg_name (i := 3) sc_within.nd rfl (Or.inl rfl)) pss_never)
      (pss_one (ps_ret (pv 2)))))), ?_⟩
  · obtain ⟨p, r, D, D', rfl, _⟩ := h; rfl
  obtain ⟨p, r, D, D', rfl, pa, pa', ok, ok', ev, imp, q⟩ := h
  refine ⟨_, rfl, _, rfl, p, r, D, D', rfl, pa, pa', ok, ev, fun H1 s1 => ?_⟩
  refine ⟨_, rfl, _, rfl, p, r, D, D', rfl, pa.same s1, pa'.same s1, ok, ok', ev, imp, fun l H2 s2 hl => ⟨l, rfl, ⟨_, sq hl⟩, for_it wk_list (fun i σ H' => Same H H' ∧ H' l = some (.lst []) ∧ ∃ u3, σ = [some (.ref p), some (.ref r), some .non, u3]) ⟨Same.trans s1 s2, hl, _, rfl⟩ (fun i σ H' _ p => sq p.2.1) (fun i v σ H4 H5 hi p y => absurd hi (Nat.not_lt_zero _)) fun σ H4 p4 => ?_⟩⟩
  obtain ⟨s4, _, u3, rfl⟩ := p4
  exact ⟨_, rfl, q _ s4⟩
end
end Pk
end
section
set_option maxHeartbeats 1000000
namespace Pk
open PySem PySem.Spec PyProof.Rows L2
def nI (k : Nat) : V := .int (k : Int)
/-- the ties at the places ks -/
def tiesIn (ts : List Tie) (ks : List Nat) : List Tie := ks.filterMap fun k => ts[k]?
theorem mem_tiesIn {ts : List Tie} {ks : List Nat} {t : Tie} : t ∈ tiesIn ts ks ↔ ∃ k ∈ ks, ts[k]? = some t := List.mem_filterMap
theorem tiesIn_sub {ts : List Tie} {ks : List Nat} {t : Tie} (h : t ∈ tiesIn ts ks) : t ∈ ts := by
  obtain ⟨k, _, h⟩ := mem_tiesIn.mp h
  exact List.mem_of_getElem? h
theorem mom_sub {ev : List Str} {ts ts' : List Tie} {lim : Str → Option Int} {c : Str → Int} (h : ∀ t ∈ ts', t ∈ ts) (m : Pu.Mom ⟨ev, ts, lim⟩ c) : Pu.Mom ⟨ev, ts', lim⟩ c := ⟨m.1, fun t ht => m.2.1 t (h t ht), m.2.2⟩
theorem mom_lim {ev : List Str} {ts : List Tie} {ls ls' : List (Str × Int)} {c : Str → Int} (h : ∀ x, lk ls' x = lk ls x) (m : Pu.Mom ⟨ev, ts, lk ls⟩ c) : Pu.Mom ⟨ev, ts, lk ls'⟩ c := ⟨m.1, m.2.1, fun x hx v hv => m.2.2 x hx v ((h x).symm.trans hv)⟩
theorem first_at {x : Nat} : ∀ {l : List Nat}, x ∈ l → ∃ j : Nat, l[j]? = some x ∧ ∀ m : Nat, m < j → l[m]? ≠ some x
  | [], h => by cases h
  | y :: l, h => by
    by_cases e : y = x
    · exact ⟨0, by rw [e]; rfl, fun m hm => absurd hm (Nat.not_lt_zero _)⟩
    · have h' : x ∈ l := (List.mem_cons.mp h).elim (fun z => absurd z.symm e) id
      obtain ⟨j, h1, h2⟩ := first_at h'
      refine ⟨j + 1, h1, fun m hm => ?_⟩
      cases m with
      | zero => exact fun z => e (Option.some.inj z)
      | succ m => exact h2 m (by omega)
theorem erase_map {α β : Type} (f : α → β) : ∀ (l : List α) (j : Nat), (l.map f).eraseIdx j = (l.eraseIdx j).map f
  | [], _ => rfl
  | _ :: _, 0 => rfl
  | a :: l, j + 1 => by
    show f a :: (l.map f).eraseIdx j = f a :: (l.eraseIdx j).map f
    rw [erase_map f l j]
theorem erase_at {x : Nat} {l : List Nat} {j : Nat} (nd : l.Nodup) (h : l[j]? = some x) : (l.eraseIdx j).Nodup ∧ ∀ y, y ∈ l.eraseIdx j ↔ y ∈ l ∧ y ≠ x := by
  induction l generalizing j with
  | nil => cases h
  | cons a l ih =>
    rw [List.nodup_cons] at nd
    cases j with
    | zero =>
      have e : a = x := Option.some.inj h
      subst e
      refine ⟨nd.2, fun y => ?_⟩
      show y ∈ l ↔ _
      constructor
      · intro hy
        exact ⟨List.mem_cons_of_mem _ hy, fun z => nd.1 (z ▸ hy)⟩
      · rintro ⟨hy, hne⟩
        exact (List.mem_cons.mp hy).elim (fun z => absurd z hne) id
    | succ j =>
      have h' : l[j]? = some x := h
      obtain ⟨i1, i2⟩ := ih nd.2 h'
      have hx := List.mem_of_getElem? h'
      show (a :: l.eraseIdx j).Nodup ∧ ∀ y, y ∈ a :: l.eraseIdx j ↔ _
      refine ⟨List.nodup_cons.mpr ⟨fun z => nd.1 ((i2 a).mp z).1, i1⟩, fun y => ?_⟩
      rw [List.mem_cons, List.mem_cons, i2]
      constructor
      · rintro (e | ⟨e1, e2⟩)
        · exact ⟨.inl e, fun z => nd.1 (by rw [← e, z]; exact hx)⟩
        · exact ⟨.inr e1, e2⟩
      · rintro ⟨e | e, e2⟩
        · exact .inl e
        · exact .inr ⟨e, e2⟩
section
variable {P : Program} {w : World} {K : PySem.W.Frag} {mg : Str → Option Value} {base : Heap} {CP CT : Addr}
abbrev TieR (H : Hp) : Addr → Tie → Prop := fun p t => H p = some (.tup [.str t.1, .str t.2.1, .int t.2.2])
abbrev N_follows : List Str := ["plan", "index", "kept", "ties", "earlier", "later", "lag", "rest", "lead", "other"]
theorem sc_follows : FnScope N_follows ["plan", "index", "kept"] (defScope s_follows) := ⟨rfl, rfl, rfl, by decide +kernel, rfl, by decide +kernel, by decide +kernel⟩
def sp_follows (CP : Addr) : Sp := fun vs H Q _ => ∃ (p k : Addr) (D : PD) (i : Nat) (t : Tie) (ks : List Nat), vs = [.ref p, .int (i : Int), .ref k] ∧ PlanAt CP H p D ∧ PdOk D ∧ D.ties[i]? = some t ∧ H k = some (.lst (ks.map nI)) ∧ (∀ k ∈ ks, k < D.ties.length) ∧ ks.length ≤ 60 ∧
  ∀ H' b, Same H H' → (b = true → ∀ c, Pu.Mom ⟨D.ev, tiesIn D.ties (ks.filter fun k => decide (k ≠ i)), lk D.ls⟩ c → c t.2.1 ≤ c t.1 + t.2.2) → Q (.bl b) H'
theorem k_follows (W : Ws K mg CP CT) (D : Def K mg "follows" s_follows) (i_Plan : IPlan P w K mg base CP) (i_Table : ITable P w K mg base CP CT) (m_lead : Mal P w K mg base 3 CT "lead" ["self", "earlier", "later"] (sp_lead P w CT))
    (m_ties : Mal P w K mg base 1 CP "ties" ["self"] (sp_Plan_ties CP)) (m_limits : Mal P w K mg base 1 CP "limits" ["self"] (sp_Plan_limits CP)) (m_events : Mal P w K mg base 1 CP "events" ["self"] (sp_Plan_events CP)) : Cal P w K mg base 6 "follows" ["plan", "index", "kept"] (sp_follows CP) := by
  refine D.cal sc_follows (fun _ _ _ _ _ _ us hl => match us, hl with | [_, _, _], _ => rfl) (fun vs H Q E h => ?_) fun f cdv A outer s H vs Q E hr h => ⟨_, (pss_cons (ps_set (i := 3) sc_follows.nd rfl (by first | exact Or.inl rfl | exact Or.inr rfl) (pe_mal0 W.cl_Plan m_ties hr (H := fun hm F b hrm => pe_meth0 (pv 0) W.cl_Plan hm F hrm b .nil pass0)))
      (pss_cons (ps_asg (pe_ix (ix_listK (K := K)) (pv 3) (pv 1) (fun _ _ => rfl)) (pg_tupK (K := K) (n := 3) (pgs_cons (pg_name (i := 4) sc_follows.nd rfl (by first | exact Or.inl rfl | exact Or.inr rfl)) (pgs_cons (pg_name (i := 5) sc_follows.nd rfl (by first | exact Or.inl rfl | exact Or.inr rfl)) (pgs_cons (pg_name (i := 6) sc_follows.nd rfl (by first | exact Or.inl rfl | exact Or.inr rfl)) pgs_nil)))))
      (pss_cons (ps_set (i := 7) sc_follows.nd rfl (by first | exact Or.inl rfl | exact Or.inr rfl) (pe_plan W.g_Plan i_Plan hr (pa_cons (pe_mal0 W.cl_Plan m_events hr (H := fun hm F b hrm => pe_meth0 (pv 0) W.cl_Plan hm F hrm b .nil pass0)) (pa_cons (pe_lc (own := [("other", 9)]) (g := (gName 9)) (tt := _) rfl sc_follows.nd (pi_listK (K := K) (pv 2)) (blkOk_by (own := [("other", 9)]) (N := N_follows) (sc := defScope s_follows) (by decide +kernel)) (fun _ _ _ _ _ => (pg_name (i := 9) sc_follows.nd rfl (by first | exact Or.inl rfl | exact Or.inr rfl))) (fun _ _ _ _ _ => (pts_one (pt_cmpR op_ne (pv 9) (pv 1) (nomark _)))) (fun _ _ _ _ _ => (pe_ix (ix_listK (K := K)) (pv 3) (pv 9) (fun _ _ => rfl)))) pa_nil)) (pe_mal0 W.cl_Plan m_limits hr (H := fun hm F b hrm => pe_meth0 (pv 0) W.cl_Plan hm F hrm b .nil pass0))))
      (pss_cons (ps_set (i := 8) sc_follows.nd rfl (by first | exact Or.inl rfl | exact Or.inr rfl) (pe_mal (pe_table W.g_Table i_Table hr (pa_cons (pv 7) pa_nil)) W.cl_Table m_lead hr (pa_cons (pv 4) (pa_cons (pv 5) pa_nil)) (H := fun hm F b hrm => pe_meth (pe_table W.g_Table i_Table hr (pa_cons (pv 7) pa_nil)) W.cl_Table hm F hrm b .nil pass0 (pa_cons (pv 4) (pa_cons (pv 5) pa_nil)))))
      (pss_one (ps_ret (pe_and (pe_cmpR op_notN (pv 8) pe_non (nomark _)) (pe_one (pe_cmpR op_le (pv 8) (pv 6) (nomark _)))))))))), ?_⟩
  · obtain ⟨p, k, D, i, t, ks, rfl, _⟩ := h; rfl
  obtain ⟨p, k, D, i, t, ks, rfl, pa, ok, ht, hk, hlt, hkl, q⟩ := h
  obtain ⟨dx, a1, a2, a3, hp, _⟩ := id pa
  have l8 : D.ev.length ≤ 8 := ok.le
  have htm := List.mem_of_getElem? ht
  obtain ⟨n1, n2, n3⟩ := ok.ends t htm
  refine ⟨_, rfl, p, dx, _, rfl, hp, rfl, p, D, rfl, pa, fun l H1 s1 hl0 hrest hties => ?_⟩
  obtain ⟨as, h1, h2⟩ := hties
  have las := Paired.length h2
  have hq : ∃ q, as[i]? = some q := ⟨as[i]'(by have := (List.getElem?_eq_some_iff.mp ht).1; omega), List.getElem?_eq_getElem _⟩
  obtain ⟨qa, hqa⟩ := hq
  obtain ⟨t', ht', hqt⟩ := paired_get h2 hqa
  have ett : t' = t := Option.some.inj (ht'.symm.trans ht)
  subst ett
  refine ⟨_, rfl, _, rfl, l, _, i, .ref qa, rfl, rfl, sq h1, atI_nat (by rw [List.getElem?_map, hqa]; rfl), qa, _, rfl, st hqt, rfl, _, _, rfl, _, _, rfl, _, _, rfl, rfl, ?_⟩
  -- the plan without it
  refine ⟨_, rfl, p, dx, _, rfl, s1 _ _ hp, rfl, p, D, rfl, pa.same s1, l8, fun le hle => ⟨_, rfl, k, rfl, ⟨_, sq (same_new hle _ _ (s1 _ _ hk))⟩, ?_⟩⟩
  have s2 := Same.new (o := .lst (D.ev.map V.str)) s1 hle
  have t2 := same_new (o := .lst (D.ev.map V.str)) hle _ _ h1
  have p2 : Paired (TieR (upd H1 le (.lst (D.ev.map V.str)))) as D.ties := Paired.mapP h2 fun _ _ z => same_new hle _ _ z
  have e2 : (upd H1 le (.lst (D.ev.map V.str))) le = some (.lst (D.ev.map V.str)) := upd_same
  generalize upd H1 le (.lst (D.ev.map V.str)) = H2 at s2 t2 p2 e2
  refine fun F hF => lc_it wk_list (fun j H' => Same H2 H' ∧ ∃ bs, H' F = some (.lst (bs.map V.ref)) ∧ Paired (TieR H') bs (tiesIn D.ties ((ks.take j).filter fun k => decide (k ≠ i))) ∧ bs.length ≤ j) ⟨same_new hF, [], upd_same, .nil, Nat.le_refl _⟩ (fun j H' _ p => sq (p.1 _ _ (s2 _ _ hk))) (fun j v H3 H4 hj p y => ?_) fun H3 p3 => ?_
  · obtain ⟨s3, bs, f1, f2, f3⟩ := p
    obtain ⟨rfl, hx⟩ := y
    obtain ⟨kk, hkk, rfl⟩ := map_at hx
    have hkm := List.mem_of_getElem? hkk
    have hklt := hlt kk hkm
    have hjl : j < ks.length := (List.getElem?_eq_some_iff.mp hkk).1
    have fil : (ks.take (j + 1)).filter (fun k => decide (k ≠ i)) = (ks.take j).filter (fun k => decide (k ≠ i)) ++ [kk].filter (fun k => decide (k ≠ i)) := by rw [take_succ hkk, List.filter_append]
    refine ⟨rfl, _, rfl, _, rfl, rfl, decide (kk ≠ i), ?_, ?_⟩
    · show V.bl (!decide (V.int (kk : Int) = V.int (i : Int))) = _
      rw [dec_int]
      by_cases e : kk = i
      · subst e; simp
      · have : ((kk : Int) == (i : Int)) = false := by simp; omega
        rw [this]
        simp [e]
    by_cases e : kk = i
    · have ed : decide (kk ≠ i) = false := by simp [e]
      rw [ed]
      refine ⟨s3, bs, f1, ?_, by omega⟩
      rw [fil, List.filter_cons, ed]
      simpa using f2
    · have ed : decide (kk ≠ i) = true := by simp [e]
      rw [ed]
      have hqk : as[kk]? = some (as[kk]'(by omega)) := List.getElem?_eq_getElem _
      obtain ⟨tk, htk, hpk⟩ := paired_get p2 hqk
      refine ⟨_, rfl, _, rfl, l, _, kk, .ref (as[kk]'(by omega)), rfl, rfl, sq (s3 _ _ t2), atI_nat (by rw [List.getElem?_map, hqk]; rfl), _, f1, by rw [List.length_map]; exact sz_lt (by omega), Same.mut s3 hF, bs ++ [as[kk]'(by omega)], by rw [upd_same, List.map_append]; rfl, ?_, by simp; omega⟩
      have nn : ∀ u y, TieR H4 u y → u ≠ F := fun u y z => ne_of z f1 (by intro e; cases e)
      rw [fil, List.filter_cons, ed]
      show Paired _ _ (tiesIn D.ties ((ks.take j).filter (fun k => decide (k ≠ i)) ++ [kk]))
      have et : tiesIn D.ties ((ks.take j).filter (fun k => decide (k ≠ i)) ++ [kk]) = tiesIn D.ties ((ks.take j).filter (fun k => decide (k ≠ i))) ++ [tk] := by
        unfold tiesIn
        rw [List.filterMap_append]
        simp [htk]
      rw [et]
      refine paired_app (Paired.mapP f2 fun u y z => ?_) (.cons ?_ .nil)
      · show upd _ _ _ u = _
        rw [upd_ne (nn u y z)]
        exact z
      · show upd _ _ _ _ = _
        rw [upd_ne (nn _ tk (s3 _ _ hpk))]
        exact s3 _ _ hpk
  obtain ⟨s3, bs, f1, f2, f3⟩ := p3
  rw [List.length_map, List.take_length] at f2
  rw [List.length_map] at f3
  have s3' := Same.trans s2 s3
  generalize hsub : tiesIn D.ties (ks.filter fun k => decide (k ≠ i)) = sub at f2 q
  have sub_in : ∀ y ∈ sub, y ∈ D.ties := fun y hy => by rw [← hsub] at hy; exact tiesIn_sub hy
  have okS : PdOk ⟨D.ev, sub, D.ls⟩ := ⟨ok.ne, ok.le, ok.nd, ok.nm, by
    have := Paired.length f2
    show sub.length ≤ 60
    omega, fun y hy => ok.ends y (sub_in y hy), ok.lnd, ok.lin, ok.ac.sub sub_in⟩
  refine ⟨_, rfl, p, dx, _, rfl, s3' _ _ hp, rfl, p, D, rfl, pa.same s3', fun lm hlm => ⟨rfl, rfl, fun rp rdx hrp hrdx ne => ?_⟩⟩
  have s4 := Same.new (o := .dK (kv V.int D.ls)) s3' hlm
  have s34 := same_new (o := .dK (kv V.int D.ls)) hlm
  have mi := made_in (C := CP) hrp hrdx
  refine ⟨rp, rdx, le, F, lm, D.ev, sub, D.ls, rfl, upd_same, mi _ _ (s34 _ _ (s3 _ _ e2)), ⟨bs, mi _ _ (s34 _ _ f1), Paired.mapP f2 fun _ _ z => mi _ _ (s34 _ _ z)⟩, mi _ _ upd_same, okS, fun H5 ls' bt pl ok' hls => ⟨rfl, ?_⟩⟩
  have s5 := Same.trans s4 (made_out hrp hrdx bt)
  -- its table
  refine ⟨_, rfl, fun tb tdx htb htdx ne2 => ⟨tb, tdx, rp, _, rfl, upd_same, pl.same (made_in htb htdx), ok', fun H6 L bt2 tab C => ⟨rfl, ?_⟩⟩⟩
  have s6 := Same.trans s5 (made_out htb htdx bt2)
  obtain ⟨tdx', ta1, ta2, ta3, htab, _⟩ := id tab
  refine ⟨tb, tdx', _, rfl, htab, rfl, _, rfl, _, rfl, tb, D.ev, L, t'.1, t'.2.1, rfl, tab, n1, n2, ok.nm, fun H7 s7 => ?_⟩
  have s7' := Same.trans s6 s7
  cases hL : L (some t'.1) (some t'.2.1) with
  | none => exact ⟨_, rfl, rfl, false, rfl, q _ false s7' fun z => by cases z⟩
  | some v =>
    refine ⟨_, rfl, rfl, true, rfl, _, rfl, _, rfl, _, _, rfl, rfl, q _ (decide (v ≤ t'.2.2)) s7' fun hb c mc => ?_⟩
    have hv : v ≤ t'.2.2 := of_decide_eq_true hb
    have := C.sound c (mom_lim hls mc) _ _ _ hL
    have : c t'.2.1 ≤ c t'.1 + v := this
    omega
abbrev N_fewest : List Str := ["plan", "kept", "index"]
theorem sc_fewest : FnScope N_fewest ["plan"] (defScope s_fewest) := ⟨rfl, rfl, rfl, by decide +kernel, rfl, by decide +kernel, by decide +kernel⟩
def sp_fewest (CP : Addr) : Sp := fun vs H Q _ => ∃ (p : Addr) (D : PD), vs = [.ref p] ∧ PlanAt CP H p D ∧ PdOk D ∧ ∀ l H' (ks : List Nat), Same H H' → H' l = some (.lst (ks.map nI)) → (∀ k ∈ ks, k < D.ties.length) → ks.length ≤ 60 → (∀ c, Pu.Mom ⟨D.ev, tiesIn D.ties ks, lk D.ls⟩ c → Pu.Mom D.pl c) → Q (.ref l) H'
theorem k_fewest (W : Ws K mg CP CT) (D : Def K mg "fewest" s_fewest) (c_need_plan : Cal P w K mg base 1 "need_plan" ["value"] (sp_need_plan CP)) (c_follows : Cal P w K mg base 6 "follows" ["plan", "index", "kept"] (sp_follows CP))
    (m_ties : Mal P w K mg base 1 CP "ties" ["self"] (sp_Plan_ties CP)) : Cal P w K mg base 7 "fewest" ["plan"] (sp_fewest CP) := by
  refine D.cal sc_fewest (fun _ _ _ _ _ _ us hl => match us, hl with | [_], _ => rfl) (fun vs H Q E h => ?_) fun f cdv A outer s H vs Q E hr h => ⟨_, (pss_cons (ps_expr (pe_cal c_need_plan hr rfl (pa_cons (pv 0) pa_nil)))
      (pss_cons (ps_set (i := 1) sc_fewest.nd rfl (by first | exact Or.inl rfl | exact Or.inr rfl) (pe_listRg (by rfl) (by rfl) W.f_list (prg_1 (by rfl) W.f_range (pe_callB (len_seqK (K := K)) (by rfl) W.f_len (by decide +kernel) (pa_cons (pe_mal0 W.cl_Plan m_ties hr (H := fun hm F b hrm => pe_meth0 (pv 0) W.cl_Plan hm F hrm b .nil pass0)) pa_nil)))))
      (pss_cons (ps_for PassesOwn.never rfl (pi_range3 (by rfl) W.f_range (pa_cons (pe_op op_sub (pe_callB (len_seqK (K := K)) (by rfl) W.f_len (by decide +kernel) (pa_cons (pe_mal0 W.cl_Plan m_ties hr (H := fun hm F b hrm => pe_meth0 (pv 0) W.cl_Plan hm F hrm b .nil pass0)) pa_nil)) pe_int) (pa_cons (pe_un un_neg pe_int) (pa_cons (pe_un un_neg pe_int) pa_nil)))) (pg_name (i := 2) sc_fewest.nd rfl (by first | exact Or.inl rfl | exact Or.inr rfl)) (pss_one (ps_if (pt_val (pe_cal c_follows hr rfl (pa_cons (pv 0) (pa_cons (pv 2) (pa_cons (pv 1) pa_nil))))) (pss_one (ps_expr (pe_bm PySem.F.plainAttrs_list PySem.F.slot_list_remove PySem.F.type_list_remove mt_remove (pv 1) (pa_cons (pv 2) pa_nil)))) pss_nil)))
      (pss_one (ps_ret (pv 1)))))), ?_⟩
  · obtain ⟨p, D, rfl, _⟩ := h; rfl
  obtain ⟨p, D, rfl, pa, ok, q⟩ := h
  obtain ⟨dx, a1, a2, a3, hp, _⟩ := id pa
  have l60 : D.ties.length ≤ 60 := ok.tle
  refine ⟨_, rfl, p, dx, _, rfl, hp, _, rfl, p, dx, _, rfl, hp, rfl, p, D, rfl, pa, fun l H1 s1 hl0 _ ⟨as, h1, h2⟩ => ⟨l, _, rfl, .inl (sq h1), ?_⟩⟩
  have las := Paired.length h2
  have ll : (as.map V.ref).length = D.ties.length := by rw [List.length_map, las]
  rw [ll]
  refine ⟨_, rfl, RgOk.of_le (by omega) (by omega) (by omega) (by omega), fun k hk => ?_⟩
  have erg : rgV 0 (D.ties.length : Int) = (List.range D.ties.length).map nI := by
    unfold rgV
    have : ((D.ties.length : Int) - 0).toNat = D.ties.length := by omega
    rw [this]
    apply List.map_congr_left
    intro x _
    show V.int (0 + (x : Int)) = V.int (x : Int)
    rw [Int.zero_add]
  rw [erg]
  have hk0 : H k = none := Same.free s1 hk
  have s2 := Same.new (o := .lst ((List.range D.ties.length).map nI)) s1 hk
  have k2 : (upd H1 k (.lst ((List.range D.ties.length).map nI))) k = some (.lst ((List.range D.ties.length).map nI)) := upd_same
  generalize upd H1 k (.lst ((List.range D.ties.length).map nI)) = H2 at s2 k2
  refine ⟨_, rfl, p, dx, _, rfl, s2 _ _ hp, rfl, p, D, rfl, pa.same s2, fun l2 H3 s3 _ _ ⟨as2, h3, h4⟩ => ⟨l2, _, rfl, .inl (sq h3), _, _, rfl, rfl, _, rfl, _, rfl, ?_⟩⟩
  have ll2 : (as2.map V.ref).length = D.ties.length := by rw [List.length_map, Paired.length h4]
  rw [ll2]
  have s3' := Same.trans s2 s3
  have rgc : RgC ((D.ties.length : Int) - 1) (-1) (-1) D.ties.length := by
    have h := RgC.neg (i := (D.ties.length : Int) - 1) (j := -1) (by omega) (by omega) (by omega) (by omega)
    have en : ((D.ties.length : Int) - 1 - -1).toNat = D.ties.length := by omega
    rw [en] at h
    exact h
  refine ⟨(D.ties.length : Int) - 1, -1, -1, D.ties.length, rfl, rgc, for_it wk_rngc (fun i σ H' => Same H H' ∧ (∃ ks : List Nat, H' k = some (.lst (ks.map nI)) ∧ ks.Nodup ∧ (∀ x ∈ ks, x < D.ties.length) ∧ (∀ x, x + i < D.ties.length → x ∈ ks) ∧ ks.length ≤ 60 ∧ ∀ c, Pu.Mom ⟨D.ev, tiesIn D.ties ks, lk D.ls⟩ c → Pu.Mom D.pl c) ∧ ∃ u, σ = [some (.ref p), some (.ref k), u])
    ⟨s3', ⟨List.range D.ties.length, s3 _ _ k2, List.nodup_range, fun x hx => List.mem_range.mp hx, fun x hx => List.mem_range.mpr (by omega), by rw [List.length_range]; exact l60, fun c mc => ⟨mc.1, fun t ht => ?_, mc.2.2⟩⟩, _, rfl⟩ (fun _ _ _ _ _ => trivial) (fun i v σ H4 H5 hi p y => ?_) fun σ H4 p4 => ?_⟩
  · obtain ⟨j, hj⟩ := List.getElem?_of_mem ht
    exact mc.2.1 t (mem_tiesIn.mpr ⟨j, List.mem_range.mpr (List.getElem?_eq_some_iff.mp hj).1, hj⟩)
  · obtain ⟨s4, ⟨ks, g1, g2, g3, g4, g5, g6⟩, u, rfl⟩ := p
    obtain ⟨rfl, rfl⟩ := y
    have ei : (D.ties.length : Int) - 1 + (i : Nat) * -1 = ((D.ties.length - 1 - i : Nat) : Int) := by omega
    rw [ei]
    generalize hm : D.ties.length - 1 - i = m
    have hm2 : m < D.ties.length := by omega
    have hin : m ∈ ks := g4 m (by omega)
    have ht : D.ties[m]? = some D.ties[m] := List.getElem?_eq_getElem hm2
    refine ⟨_, rfl, _, rfl, _, rfl, _, k, D, m, _, ks, rfl, pa.same s4, ok, ht, g1, g3, g5, fun H6 b s6 hb => ⟨b, rfl, ?_⟩⟩
    have s6' := Same.trans s4 s6
    have g1' := s6 _ _ g1
    cases b with
    | false => exact ⟨s6', ⟨ks, g1', g2, g3, fun x hx => g4 x (by omega), g5, g6⟩, _, rfl⟩
    | true =>
      obtain ⟨j, hj, hno⟩ := first_at hin
      obtain ⟨e1, e2⟩ := erase_at g2 hj
      have em : ks.map nI = (ks.map fun (k : Nat) => (k : Int)).map V.int := by rw [List.map_map]; rfl
      have em2 : ((ks.map fun (k : Nat) => (k : Int)).eraseIdx j).map V.int = (ks.eraseIdx j).map nI := by rw [erase_map, List.map_map]; rfl
      refine ⟨_, rfl, .inl ⟨rfl, _, sq g1'⟩, _, rfl, k, ks.map fun (k : Nat) => (k : Int), (m : Int), j, rfl, rfl, by rw [← em]; exact g1', by rw [List.getElem?_map, hj]; rfl, fun m' hm' z => ?_, ?_⟩
      · rw [List.getElem?_map] at z
        obtain ⟨y, hy, e⟩ := Option.map_eq_some_iff.mp z
        have e : y = m := by omega
        rw [e] at hy
        exact hno m' hm' hy
      · refine ⟨Same.mut s6' hk0, ⟨ks.eraseIdx j, by rw [upd_same, em2], e1, fun x hx => g3 x ((e2 x).mp hx).1, fun x hx => (e2 x).mpr ⟨g4 x (by omega), by omega⟩, by have := List.length_eraseIdx_le ks j; omega, fun c mc => g6 c ?_⟩, _, rfl⟩
        have hfil : ∀ t ∈ tiesIn D.ties (ks.filter fun k => decide (k ≠ m)), t ∈ tiesIn D.ties (ks.eraseIdx j) := fun t ht => by
          obtain ⟨x, hx, h⟩ := mem_tiesIn.mp ht
          obtain ⟨hx1, hx2⟩ := List.mem_filter.mp hx
          exact mem_tiesIn.mpr ⟨x, (e2 x).mpr ⟨hx1, of_decide_eq_true hx2⟩, h⟩
        have tie := hb rfl c (mom_sub hfil mc)
        refine ⟨mc.1, fun t ht0 => ?_, mc.2.2⟩
        obtain ⟨x, hx, h⟩ := mem_tiesIn.mp ht0
        by_cases ex : x = m
        · rw [ex] at h
          have : D.ties[m] = t := Option.some.inj (ht.symm.trans h)
          rw [← this]
          exact tie
        · exact mc.2.1 t (mem_tiesIn.mpr ⟨x, (e2 x).mpr ⟨hx, ex⟩, h⟩)
  · obtain ⟨s4, ⟨ks, g1, g2, g3, g4, g5, g6⟩, u, rfl⟩ := p4
    exact ⟨_, rfl, q k _ ks s4 g1 g3 g5 g6⟩
end
end Pk
end
section
set_option maxHeartbeats 1000000
namespace Pk
open PySem PySem.Spec PyProof.Rows L2
/-- the tie that plan_of writes for x, y -/
def keepT (mo : Str → Option Int) (le : Str → Str → Option Int) (x y : Str) : Option Tie :=
  if x = y then none else match le x y with
    | none => none
    | some v => match mo y with
      | none => some (x, y, v)
      | some m => if m ≤ v then none else some (x, y, v)
def rowT (mo : Str → Option Int) (le : Str → Str → Option Int) (ev : List Str) (x : Str) : List Tie := ev.filterMap (keepT mo le x)
theorem keepT_some {mo : Str → Option Int} {le : Str → Str → Option Int} {x y : Str} {t : Tie} (h : keepT mo le x y = some t) : x ≠ y ∧ ∃ v, le x y = some v ∧ t = (x, y, v) ∧ ∀ m, mo y = some m → v < m := by
  unfold keepT at h
  split at h
  · cases h
  · rename_i ne
    cases e : le x y with
    | none => rw [e] at h; cases h
    | some v =>
      rw [e] at h
      cases e2 : mo y with
      | none =>
        rw [e2] at h
        exact ⟨ne, v, rfl, (Option.some.inj h).symm, fun m z => by cases z⟩
      | some m =>
        rw [e2] at h
        simp only at h
        split at h
        · cases h
        · rename_i hmv
          exact ⟨ne, v, rfl, (Option.some.inj h).symm, fun m' z => by have : m = m' := Option.some.inj z; omega⟩
theorem keepT_or {mo : Str → Option Int} {le : Str → Str → Option Int} {x y : Str} {v : Int} (ne : x ≠ y) (e : le x y = some v) : keepT mo le x y = some (x, y, v) ∨ ∃ m, mo y = some m ∧ m ≤ v := by
  unfold keepT
  rw [if_neg ne, e]
  cases e2 : mo y with
  | none => exact .inl rfl
  | some m =>
    by_cases h : m ≤ v
    · exact .inr ⟨m, rfl, h⟩
    · exact .inl (if_neg h)
theorem filterMap_lt {α β : Type} {f : α → Option β} {x : α} : ∀ {l : List α}, x ∈ l → f x = none → (l.filterMap f).length + 1 ≤ l.length
  | [], h, _ => by cases h
  | a :: l, h, e => by
    rw [List.filterMap_cons]
    rcases List.mem_cons.mp h with z | z
    · rw [← z, e]
      have := List.length_filterMap_le f l
      simp only [List.length_cons]
      omega
    · have ih := filterMap_lt z e
      cases f a with
      | none => simp only [List.length_cons]; omega
      | some b => simp only [List.length_cons]; omega
theorem rowT_len (mo : Str → Option Int) (le : Str → Str → Option Int) {ev : List Str} {x : Str} (h : x ∈ ev) (l : ev.length ≤ 8) : (rowT mo le ev x).length ≤ 7 := by
  have := filterMap_lt (f := keepT mo le x) h (by unfold keepT; exact if_pos rfl)
  unfold rowT
  omega
/-- what the plan says, by the tables that it was made from -/
def Says (ev : List Str) (mo : Str → Option Int) (le : Str → Str → Option Int) (c : Str → Int) : Prop :=
  (∀ x ∈ ev, 0 ≤ c x) ∧ (∀ x ∈ ev, ∀ m, mo x = some m → c x ≤ m) ∧ ∀ x ∈ ev, ∀ y ∈ ev, ∀ v, x ≠ y → le x y = some v → c y ≤ c x + v
theorem says_of {ev : List Str} {mo : Str → Option Int} {le : Str → Str → Option Int} {c : Str → Int} {lim : Str → Option Int} (hl : ∀ x ∈ ev, lim x = mo x) (m : Pu.Mom ⟨ev, ev.flatMap (rowT mo le ev), lim⟩ c) : Says ev mo le c := by
  have lims : ∀ x ∈ ev, ∀ n, mo x = some n → c x ≤ n := fun x hx n hn => m.2.2 x hx n ((hl x hx).trans hn)
  refine ⟨m.1, lims, fun x hx y hy v ne e => ?_⟩
  rcases keepT_or (mo := mo) ne e with h | ⟨n, hn, hle⟩
  · exact m.2.1 (x, y, v) (List.mem_flatMap.mpr ⟨x, hx, List.mem_filterMap.mpr ⟨y, hy, h⟩⟩)
  · have h1 := lims y hy n hn
    have h2 : 0 ≤ c x := m.1 x hx
    omega
theorem says_to {ev : List Str} {mo : Str → Option Int} {le : Str → Str → Option Int} {c : Str → Int} {lim : Str → Option Int} {ts : List Tie} (hl : ∀ x ∈ ev, lim x = mo x) (hs : ∀ t ∈ ts, t ∈ ev.flatMap (rowT mo le ev)) (m : Says ev mo le c) : Pu.Mom ⟨ev, ts, lim⟩ c := by
  refine ⟨m.1, fun t ht => ?_, fun x hx n hn => m.2.1 x hx n ((hl x hx).symm.trans hn)⟩
  obtain ⟨x, hx, h⟩ := List.mem_flatMap.mp (hs t ht)
  obtain ⟨y, hy, h⟩ := List.mem_filterMap.mp h
  obtain ⟨ne, v, e, rfl, _⟩ := keepT_some h
  exact m.2.2 x hx y hy v ne e
section
variable {P : Program} {w : World} {K : PySem.W.Frag} {mg : Str → Option Value} {base : Heap} {CP CT : Addr}
abbrev spM (ev : List Str) (mo : Str → Option Int) : List V → Hp → VK → Prop := fun vs HZ Q => ∃ x, x ∈ ev ∧ vs = [.str x] ∧ ∀ H', Same HZ H' → Q (oV (mo x)) H'
abbrev spE (ev : List Str) (le : Str → Str → Option Int) : List V → Hp → VK → Prop := fun vs HZ Q => ∃ x y, x ∈ ev ∧ y ∈ ev ∧ vs = [.str x, .str y] ∧ ∀ H', Same HZ H' → Q (oV (le x y)) H'
abbrev N_plan_of : List Str := ["events", "most", "lead", "limits", "ties", "earlier", "later", "lag", "found", "event", "index"]
theorem sc_plan_of : FnScope N_plan_of ["events", "most", "lead"] (defScope s_plan_of) := ⟨rfl, rfl, rfl, by decide +kernel, rfl, by decide +kernel, by decide +kernel⟩
def sp_plan_of (P : Program) (w : World) (K : PySem.W.Frag) (mg : Str → Option Value) (base : Heap) (CP : Addr) : Sp := fun vs H Q _ => ∃ (a fm fl : Addr) (ev : List Str) (mo : Str → Option Int) (le : Str → Str → Option Int), vs = [.ref a, .ref fm, .ref fl] ∧ EvAt H a ev ∧
  FnP P w K mg base 4 H fm (spM ev mo) ∧ FnP P w K mg base 4 H fl (spE ev le) ∧ (∀ x ∈ ev, ∀ v, mo x = some v → 0 ≤ v) ∧ (∀ x ∈ ev, ∀ y ∈ ev, ∀ v, le x y = some v → 0 ≤ v) ∧
  (∃ R : Str → Str → Prop, (∀ x, ¬ R x x) ∧ (∀ x y z, R x y → R y z → R x z) ∧ ∀ x ∈ ev, ∀ y ∈ ev, x ≠ y → le x y = some 0 → (∀ m, mo y = some m → 0 < m) → R x y) ∧
  ∀ p H' D, Same H H' → PlanAt CP H' p D → PdOk D → D.ev = ev → (∀ c, Pu.Mom D.pl c ↔ Says ev mo le c) → Q (.ref p) H'
theorem k_plan_of (W : Ws K mg CP CT) (D : Def K mg "plan_of" s_plan_of) (i_Plan : IPlan P w K mg base CP) (c_fewest : Cal P w K mg base 7 "fewest" ["plan"] (sp_fewest CP)) : Cal P w K mg base 8 "plan_of" ["events", "most", "lead"] (sp_plan_of P w K mg base CP) := by
  refine D.cal sc_plan_of (fun _ _ _ _ _ _ us hl => match us, hl with | [_, _, _], _ => rfl) (fun vs H Q E h => ?_) fun f cdv A outer s H vs Q E hr h => ⟨_, (pss_cons (giv_set (i := 3) (giv_dK (own := [("event", 9)]) (g := (gName 9)) (tt := _) (by rfl) sc_plan_of.nd (pi_listK (K := K) (pv 0)) (blkOk_by (own := [("event", 9)]) (N := N_plan_of) (sc := defScope s_plan_of) (by decide +kernel)) (fun _ _ _ _ _ => (pg_name (i := 9) sc_plan_of.nd rfl (by first | exact Or.inl rfl | exact Or.inr rfl))) (fun _ _ _ _ _ => (pts_one (pt_cmpR op_notN (pe_fn (P := P) (w := w) (K := K) (mg := mg) (base := base) (k := 4) (i := 1) hr rfl (by first | exact Or.inl rfl | exact Or.inr (Or.inl rfl) | exact Or.inr (Or.inr rfl)) (pa_cons (pv 9) pa_nil)) pe_non (nomark _)))) (fun _ _ _ _ _ => (pv 9)) (fun _ _ _ _ _ => (pe_fn (P := P) (w := w) (K := K) (mg := mg) (base := base) (k := 4) (i := 1) hr rfl (by first | exact Or.inl rfl | exact Or.inr (Or.inl rfl) | exact Or.inr (Or.inr rfl)) (pa_cons (pv 9) pa_nil)))) sc_plan_of.nd rfl rfl (swap_dict rfl rfl rfl (by decide +kernel)))
      (pss_cons (ps_set (i := 4) sc_plan_of.nd rfl (by first | exact Or.inl rfl | exact Or.inr rfl) (pe_lst pa_nil))
      (pss_cons (ps_for PassesOwn.never rfl (pi_listK (K := K) (pv 0)) (pg_name (i := 5) sc_plan_of.nd rfl (by first | exact Or.inl rfl | exact Or.inr rfl)) (pss_one (ps_for PassesOwn.never rfl (pi_listK (K := K) (pv 0)) (pg_name (i := 6) sc_plan_of.nd rfl (by first | exact Or.inl rfl | exact Or.inr rfl)) (pss_cons (ps_set (i := 7) sc_plan_of.nd rfl (by first | exact Or.inl rfl | exact Or.inr rfl) (pe_fn (P := P) (w := w) (K := K) (mg := mg) (base := base) (k := 4) (i := 2) hr rfl (by first | exact Or.inl rfl | exact Or.inr (Or.inl rfl) | exact Or.inr (Or.inr rfl)) (pa_cons (pv 5) (pa_cons (pv 6) pa_nil))))
      (pss_one (ps_if (PW.pt (pw_and (pt_cmpR op_ne (pv 5) (pv 6) (nomark _)) (pw_and (pt_cmpR op_notN (pv 7) pe_non (nomark _)) (pw_and1 (pt_not (PW.pt (pw_and (pt_cmp (pc_din (hu_of hr) (pv 6) (pv 3))) (pw_and1 (pt_cmpR op_le (pe_dget (hu_of hr) (pv 3) (pv 6) (fun _ _ => rfl)) (pv 7) (nomark _)))))))))) (pss_one (ps_expr (pe_bm PySem.F.plainAttrs_list PySem.F.slot_list_append PySem.F.type_list_append mt_append (pv 4) (pa_cons (pe_tup (pa_cons (pv 5) (pa_cons (pv 6) (pa_cons (pv 7) pa_nil)))) pa_nil)))) pss_nil))))))
      (pss_cons (ps_set (i := 8) sc_plan_of.nd rfl (by first | exact Or.inl rfl | exact Or.inr rfl) (pe_plan W.g_Plan i_Plan hr (pa_cons (pv 0) (pa_cons (pv 4) pa_nil)) (pv 3)))
      (pss_one (ps_ret (pe_plan W.g_Plan i_Plan hr (pa_cons (pv 0) (pa_cons (pe_lc (own := [("index", 10)]) (g := (gName 10)) (tt := tYes) rfl sc_plan_of.nd (pi_listK (K := K) (pe_cal c_fewest hr rfl (pa_cons (pv 8) pa_nil))) (blkOk_by (own := [("index", 10)]) (N := N_plan_of) (sc := defScope s_plan_of) (by decide +kernel)) (fun _ _ _ _ _ => (pg_name (i := 10) sc_plan_of.nd rfl (by first | exact Or.inl rfl | exact Or.inr rfl))) (fun _ _ _ _ _ => pts_nil) (fun _ _ _ _ _ => (pe_ix (ix_listK (K := K)) (pv 4) (pv 10) (fun _ _ => rfl)))) pa_nil)) (pv 3)))))))), ?_⟩
  · obtain ⟨a, fm, fl, ev, mo, le, rfl, _⟩ := h; rfl
  obtain ⟨a, fm, fl, ev, mo, le, rfl, e, Fm, Fl, mo0, le0, ⟨R, irr, trn, hR⟩, q⟩ := h
  have l8 := e.le
  -- limits
  refine ⟨_, rfl, a, rfl, ⟨_, sq e.at_⟩, fun Ld hLd => dc_it wk_list (fun i H' => Same H H' ∧ ∃ ls : List (Str × Int), H' Ld = some (.dK (kv V.int ls)) ∧ (ls.map (·.1)).Nodup ∧ (∀ x, lk ls x = if x ∈ ev.take i then mo x else none) ∧ ls.length ≤ i) ⟨same_new hLd, [], upd_same, List.nodup_nil, fun x => by simp [lk], Nat.le_refl _⟩
    (fun i H' _ p => sq (p.1 _ _ e.at_)) (fun i v H2 H3 hi p y => ?_) fun H1 p1 => ?_⟩
  · obtain ⟨s2, ls, h1, h2, h3, h4⟩ := p
    obtain ⟨rfl, hx⟩ := y
    obtain ⟨x, hx', rfl⟩ := map_at hx
    have hxm := List.mem_of_getElem? hx'
    have hi' : i < ev.length := (List.getElem?_eq_some_iff.mp hx').1
    have mem_s : ∀ y, y ∈ ev.take (i + 1) ↔ y ∈ ev.take i ∨ y = x := fun y => by rw [take_succ hx', List.mem_append, List.mem_singleton]
    refine ⟨rfl, fm, H, _, rfl, Fm, s2, _, rfl, s2, x, hxm, rfl, fun H4 s4 => ?_⟩
    have s4' := Same.trans s2 s4
    cases hm : mo x with
    | none =>
      refine ⟨rfl, false, rfl, s4', ls, s4 _ _ h1, h2, fun y => ?_, Nat.le_succ_of_le h4⟩
      rw [h3 y]
      by_cases hy : y ∈ ev.take i
      · rw [if_pos hy, if_pos ((mem_s y).mpr (.inl hy))]
      · rw [if_neg hy]
        by_cases e1 : y = x
        · rw [e1, hm]; simp
        · rw [if_neg fun z => ((mem_s y).mp z).elim hy e1]
    | some v =>
      refine ⟨rfl, true, rfl, _, rfl, fm, H, _, rfl, Fm, s4', _, rfl, s4', x, hxm, rfl, fun H5 s5 => ?_⟩
      have s5' := Same.trans s4' s5
      rw [hm]
      refine ⟨_, Sum.inr x, rfl, s5 _ _ (s4 _ _ h1), by rw [kv_len]; exact sz_lt (by omega), Same.mut s5' hLd, pt ls x v, by rw [upd_same]; exact congrArg some (congrArg HO.dK (kv_put V.int ls x v)), pt_nodup h2, fun y => ?_, ?_⟩
      · rw [lk_pt, h3 y]
        by_cases e1 : y = x
        · rw [if_pos e1, e1, hm, if_pos ((mem_s x).mpr (.inr rfl))]
        · rw [if_neg e1]
          by_cases hy : y ∈ ev.take i
          · rw [if_pos hy, if_pos ((mem_s y).mpr (.inl hy))]
          · rw [if_neg hy, if_neg fun z => ((mem_s y).mp z).elim hy e1]
      · have := congrArg List.length (pt_keys ls x v)
        rw [List.length_map] at this
        rw [this]
        split
        · rw [List.length_map]; omega
        · rw [List.length_append, List.length_map]
          show _ + 1 ≤ _
          omega
  obtain ⟨s1, ls, d1, d2, d3, d4⟩ := p1
  rw [List.length_map] at d3 d4
  rw [List.take_length] at d3
  have d3' : ∀ x ∈ ev, lk ls x = mo x := fun x hx => by rw [d3 x, if_pos hx]
  have hin : ∀ p ∈ ls, p.1 ∈ ev ∧ 0 ≤ p.2 := fun p hp => by
    have h := lk_of d2 (x := p.1) (v := p.2) hp
    rw [d3 p.1] at h
    by_cases hx : p.1 ∈ ev
    · rw [if_pos hx] at h
      exact ⟨hx, mo0 _ hx _ h⟩
    · rw [if_neg hx] at h
      cases h
  -- ties
  refine ⟨Nat.zero_le _, fun Tl hTl => ?_⟩
  have hTl0 : H Tl = none := Same.free s1 hTl
  have s2 := Same.new (o := .lst []) s1 hTl
  have g2 := same_new (o := .lst []) hTl _ _ d1
  have t2 : (upd H1 Tl (.lst [])) Tl = some (.lst []) := upd_same
  have nLT : Ld ≠ Tl := ne_of_none d1 hTl
  generalize upd H1 Tl (.lst []) = H2 at s2 g2 t2
  refine ⟨_, rfl, a, rfl, ⟨_, sq (s2 _ _ e.at_)⟩, for_it wk_list (fun i σ H' => Same H H' ∧ H' Ld = some (.dK (kv V.int ls)) ∧ TiesAt H' Tl ((ev.take i).flatMap (rowT mo le ev)) ∧ ((ev.take i).flatMap (rowT mo le ev)).length ≤ 7 * i ∧ ∃ u5 u6 u7 u8 u9 u10, σ = [some (.ref a), some (.ref fm), some (.ref fl), some (.ref Ld), some (.ref Tl), u5, u6, u7, u8, u9, u10])
    ⟨s2, g2, ⟨[], t2, .nil⟩, Nat.zero_le _, _, _, _, _, _, _, rfl⟩ (fun i σ H' _ p => sq (p.1 _ _ e.at_)) (fun i v σ H3 H4 hi p y => ?_) fun σ H3 p3 => ?_⟩
  · obtain ⟨s3, g3, t3, l3, u5, u6, u7, u8, u9, u10, rfl⟩ := p
    obtain ⟨rfl, hx⟩ := y
    obtain ⟨x, hx', rfl⟩ := map_at hx
    have hxm := List.mem_of_getElem? hx'
    have hi' : i < ev.length := (List.getElem?_eq_some_iff.mp hx').1
    have hrow := rowT_len mo le hxm l8
    have fold : (ev.take (i + 1)).flatMap (rowT mo le ev) = (ev.take i).flatMap (rowT mo le ev) ++ rowT mo le ev x := by rw [take_succ hx', List.flatMap_append, List.flatMap_singleton]
    rw [fold]
    generalize (ev.take i).flatMap (rowT mo le ev) = ts at t3 l3
    refine ⟨_, rfl, a, rfl, ⟨_, sq (s3 _ _ e.at_)⟩, for_it wk_list (fun j σ H' => Same H H' ∧ H' Ld = some (.dK (kv V.int ls)) ∧ TiesAt H' Tl (ts ++ (ev.take j).filterMap (keepT mo le x)) ∧ ∃ u6 u7 u8 u9 u10, σ = [some (.ref a), some (.ref fm), some (.ref fl), some (.ref Ld), some (.ref Tl), some (.str x), u6, u7, u8, u9, u10])
      ⟨s3, g3, by simpa using t3, _, _, _, _, _, rfl⟩ (fun i σ H' _ p => sq (p.1 _ _ e.at_)) (fun j v σ H5 H6 hj p y => ?_) fun σ H5 p5 => ?_⟩
    · obtain ⟨s5, g5, t5, v6, v7, v8, v9, v10, rfl⟩ := p
      obtain ⟨rfl, hy⟩ := y
      obtain ⟨y, hy', rfl⟩ := map_at hy
      have hym := List.mem_of_getElem? hy'
      have fold2 : (ev.take (j + 1)).filterMap (keepT mo le x) = (ev.take j).filterMap (keepT mo le x) ++ (keepT mo le x y).toList := by
        rw [take_succ hy', List.filterMap_append]
        congr 1
      have jl : ((ev.take j).filterMap (keepT mo le x)).length ≤ 8 := Nat.le_trans (List.length_filterMap_le _ _) (Nat.le_trans (List.length_take_le _ _) (by have := (List.getElem?_eq_some_iff.mp hy').1; omega))
      refine ⟨fl, H, _, rfl, Fl, s5, _, rfl, _, rfl, s5, x, y, hxm, hym, rfl, fun H7 s7 => ?_⟩
      have s7' := Same.trans s5 s7
      have g7 := s7 _ _ g5
      have t7 := t5.same s7
      have idle : keepT mo le x y = none → TiesAt H7 Tl (ts ++ (ev.take (j + 1)).filterMap (keepT mo le x)) := fun h => by
        rw [fold2, h]
        simpa using t7
      refine ⟨_, rfl, _, rfl, rfl, !decide (x = y), by rw [dec_str]; rfl, ?_⟩
      by_cases exy : x = y
      · rw [decide_eq_true exy]
        exact ⟨s7', g7, idle (by unfold keepT; exact if_pos exy), _, _, _, _, _, rfl⟩
      rw [decide_eq_false exy]
      cases hle : le x y with
      | none =>
        exact ⟨_, rfl, rfl, false, rfl, s7', g7, idle (by unfold keepT; rw [if_neg exy, hle]), _, _, _, _, _, rfl⟩
      | some v =>
        -- the tie is written
        have write : ∀ H8, Same H H8 → H8 Ld = some (.dK (kv V.int ls)) → TiesAt H8 Tl (ts ++ (ev.take j).filterMap (keepT mo le x)) → keepT mo le x y = some (x, y, v) → ∀ tp, H8 tp = none → ∃ xs, (upd H8 tp (.tup [.str x, .str y, .int v])) Tl = some (.lst xs) ∧ xs.length < sizeLine ∧
            (Same H (upd (upd H8 tp (.tup [.str x, .str y, .int v])) Tl (.lst (xs ++ [.ref tp]))) ∧ (upd (upd H8 tp (.tup [.str x, .str y, .int v])) Tl (.lst (xs ++ [.ref tp]))) Ld = some (.dK (kv V.int ls)) ∧ TiesAt (upd (upd H8 tp (.tup [.str x, .str y, .int v])) Tl (.lst (xs ++ [.ref tp]))) Tl (ts ++ (ev.take (j + 1)).filterMap (keepT mo le x))) := fun H8 s8 g8 t8 hk tp htp => by
          obtain ⟨as, k1, k2⟩ := t8
          have la := Paired.length k2
          rw [List.length_append] at la
          refine ⟨as.map V.ref, same_new htp _ _ k1, by rw [List.length_map]; exact sz_lt (by omega), Same.mut (Same.new s8 htp) hTl0, by rw [upd_ne nLT]; exact same_new htp _ _ g8, as ++ [tp], by rw [upd_same, List.map_append]; rfl, ?_⟩
          rw [fold2, hk, ← List.append_assoc]
          have nT : tp ≠ Tl := fun z => by rw [z, k1] at htp; cases htp
          refine paired_app (Paired.mapP k2 fun u t z => ?_) (.cons ?_ .nil)
          · rw [upd_ne (ne_of z k1 (by intro q; cases q))]
            exact same_new htp _ _ z
          · rw [upd_ne nT]
            exact upd_same
        refine ⟨_, rfl, rfl, true, rfl, _, rfl, _, rfl, Ld, (mo y).map V.int, rfl, .inl ⟨_, Sum.inr y, .inl g7, rfl, by rw [kv_val, d3' y hym]⟩, _, rfl, ?_⟩
        cases hm : mo y with
        | none =>
          refine ⟨_, rfl, .inl ⟨rfl, _, sq (s7 _ _ t5.choose_spec.1)⟩, _, rfl, _, rfl, _, rfl, by show 3 ≤ sizeLine; decide, fun tp htp => ?_⟩
          obtain ⟨xs, w1, w2, w3, w4, w5⟩ := write H7 s7' g7 t7 (by unfold keepT; rw [if_neg exy, hle, hm]) tp htp
          exact ⟨Tl, xs, _, rfl, rfl, w1, w2, w3, w4, w5, _, _, _, _, _, rfl⟩
        | some m =>
          refine ⟨_, rfl, _, rfl, Ld, .int m, rfl, .inl ⟨_, Sum.inr y, .inl g7, rfl, by rw [kv_val, d3' y hym, hm]; rfl⟩, _, rfl, _, _, rfl, rfl, decide (m ≤ v), rfl, ?_⟩
          by_cases hmv : m ≤ v
          · rw [decide_eq_true hmv]
            exact ⟨s7', g7, idle (by unfold keepT; rw [if_neg exy, hle, hm]; exact if_pos hmv), _, _, _, _, _, rfl⟩
          · rw [decide_eq_false hmv]
            refine ⟨_, rfl, .inl ⟨rfl, _, sq (s7 _ _ t5.choose_spec.1)⟩, _, rfl, _, rfl, _, rfl, by show 3 ≤ sizeLine; decide, fun tp htp => ?_⟩
            obtain ⟨xs, w1, w2, w3, w4, w5⟩ := write H7 s7' g7 t7 (by unfold keepT; rw [if_neg exy, hle, hm]; exact if_neg hmv) tp htp
            exact ⟨Tl, xs, _, rfl, rfl, w1, w2, w3, w4, w5, _, _, _, _, _, rfl⟩
    · obtain ⟨s5, g5, t5, v6, v7, v8, v9, v10, rfl⟩ := p5
      rw [List.length_map, List.take_length] at t5
      exact ⟨s5, g5, t5, by rw [List.length_append]; omega, _, _, _, _, _, _, rfl⟩
  obtain ⟨s3, g3, t3, l3, u5, u6, u7, u8, u9, u10, rfl⟩ := p3
  rw [List.length_map, List.take_length] at t3 l3
  have tmem : ∀ t ∈ ev.flatMap (rowT mo le ev), t.1 ∈ ev ∧ t.2.1 ∈ ev ∧ 0 ≤ t.2.2 ∧ t.1 ≠ t.2.1 ∧ le t.1 t.2.1 = some t.2.2 ∧ ∀ m, mo t.2.1 = some m → t.2.2 < m := fun t ht => by
    obtain ⟨x, hx, h⟩ := List.mem_flatMap.mp ht
    obtain ⟨y, hy, h⟩ := List.mem_filterMap.mp h
    obtain ⟨ne, v, e, rfl, hm⟩ := keepT_some h
    exact ⟨hx, hy, le0 x hx y hy v e, ne, e, hm⟩
  have acT : Pu.Acyc (ev.flatMap (rowT mo le ev)) := ⟨R, irr, trn, fun t ht h0 => by
    obtain ⟨m1, m2, _, m4, m5, m6⟩ := tmem t ht
    exact hR _ m1 _ m2 m4 (by rw [m5, h0]) fun m hm => by have := m6 m hm; omega⟩
  have saysT : ∀ c, Pu.Mom ⟨ev, ev.flatMap (rowT mo le ev), lk ls⟩ c → Says ev mo le c := fun c => says_of d3'
  have saysB : ∀ c (ts : List Tie), (∀ t ∈ ts, t ∈ ev.flatMap (rowT mo le ev)) → Says ev mo le c → Pu.Mom ⟨ev, ts, lk ls⟩ c := fun c ts hs => says_to d3' hs
  generalize ev.flatMap (rowT mo le ev) = ts at t3 l3 tmem acT saysT saysB
  have ok1 : PdOk ⟨ev, ts, ls⟩ := ⟨e.ne, e.le, e.nd, e.nm, by show ts.length ≤ 60; omega, fun t ht => ⟨(tmem t ht).1, (tmem t ht).2.1, (tmem t ht).2.2.1⟩, d2, hin, acT⟩
  obtain ⟨as, k1, k2⟩ := t3
  have la := Paired.length k2
  -- the first plan
  refine ⟨_, rfl, _, rfl, _, rfl, rfl, rfl, fun pp pdx hpp hpdx ne => ⟨pp, pdx, a, Tl, Ld, ev, ts, ls, rfl, upd_same, made_in hpp hpdx _ _ (s3 _ _ e.at_), ⟨as, made_in hpp hpdx _ _ k1, Paired.mapP k2 fun _ _ z => made_in hpp hpdx _ _ z⟩, made_in hpp hpdx _ _ g3, ok1, fun H4 ls' bt pl ok' hls => ⟨rfl, ?_⟩⟩⟩
  have s34 := made_out hpp hpdx bt
  have s4 := Same.trans s3 s34
  refine ⟨_, rfl, _, rfl, pp, ⟨ev, ts, ls'⟩, rfl, pl, ok', fun kl H5 ks s45 hkl hks hkl60 himp => ⟨kl, rfl, ⟨_, sq hkl⟩, ?_⟩⟩
  have s35 := Same.trans s34 s45
  have s5 := Same.trans s4 s45
  have k5 := s35 _ _ k1
  refine fun F hF => lc_it wk_list (fun j H' => Same H5 H' ∧ ∃ bs, H' F = some (.lst (bs.map V.ref)) ∧ Paired (TieR H') bs (tiesIn ts (ks.take j)) ∧ bs.length ≤ j) ⟨same_new hF, [], upd_same, .nil, Nat.le_refl _⟩ (fun j H' _ p => sq (p.1 _ _ hkl)) (fun j v H6 H7 hj p y => ?_) fun H6 p6 => ?_
  · obtain ⟨s6, bs, f1, f2, f3⟩ := p
    obtain ⟨rfl, hx⟩ := y
    obtain ⟨kk, hkk, rfl⟩ := map_at hx
    have hklt : kk < ts.length := hks kk (List.mem_of_getElem? hkk)
    have hjl : j < ks.length := (List.getElem?_eq_some_iff.mp hkk).1
    have hqk : as[kk]? = some (as[kk]'(by omega)) := List.getElem?_eq_getElem _
    obtain ⟨tk, htk, hpk⟩ := paired_get k2 hqk
    refine ⟨rfl, _, rfl, _, rfl, Tl, _, kk, .ref (as[kk]'(by omega)), rfl, rfl, sq (s6 _ _ k5), atI_nat (by rw [List.getElem?_map, hqk]; rfl), _, f1, by rw [List.length_map]; exact sz_lt (by omega), Same.mut s6 hF, bs ++ [as[kk]'(by omega)], by rw [upd_same, List.map_append]; rfl, ?_, by simp; omega⟩
    have nn : ∀ u y, TieR H7 u y → u ≠ F := fun u y z => ne_of z f1 (by intro e; cases e)
    have et : tiesIn ts (ks.take (j + 1)) = tiesIn ts (ks.take j) ++ [tk] := by
      unfold tiesIn
      rw [take_succ hkk, List.filterMap_append]
      simp [htk]
    rw [et]
    have hpk7 := s6 _ _ (s35 _ _ hpk)
    refine paired_app (Paired.mapP f2 fun u y z => ?_) (.cons ?_ .nil)
    · show upd _ _ _ u = _
      rw [upd_ne (nn u y z)]
      exact z
    · show upd _ _ _ _ = _
      rw [upd_ne (nn _ tk hpk7)]
      exact hpk7
  obtain ⟨s6, bs, f1, f2, f3⟩ := p6
  rw [List.length_map] at f3
  rw [List.length_map, List.take_length] at f2
  have s6' := Same.trans s5 s6
  have lsub : (tiesIn ts ks).length ≤ 60 := by
    have := Paired.length f2
    omega
  have ok2 : PdOk ⟨ev, tiesIn ts ks, ls⟩ := ⟨e.ne, e.le, e.nd, e.nm, lsub, fun t ht => ok1.ends t (tiesIn_sub ht), d2, hin, acT.sub fun t ht => tiesIn_sub ht⟩
  refine ⟨_, rfl, rfl, rfl, fun p2 p2dx hp2 hp2dx ne2 => ⟨p2, p2dx, a, F, Ld, ev, tiesIn ts ks, ls, rfl, upd_same, made_in hp2 hp2dx _ _ (s6' _ _ e.at_), ⟨bs, made_in hp2 hp2dx _ _ f1, Paired.mapP f2 fun _ _ z => made_in hp2 hp2dx _ _ z⟩, made_in hp2 hp2dx _ _ (s6 _ _ (s35 _ _ g3)), ok2, fun H8 ls2 bt2 pl2 ok3 hls2 => ⟨rfl, ?_⟩⟩⟩
  refine q p2 H8 _ (Same.trans s6' (made_out hp2 hp2dx bt2)) pl2 ok3 rfl fun c => ⟨fun mc => ?_, fun sc => ?_⟩
  · have m1 : Pu.Mom ⟨ev, tiesIn ts ks, lk ls'⟩ c := mom_lim (fun x => by rw [hls x, hls2 x]) mc
    exact saysT c (mom_lim (fun x => (hls x).symm) (himp c m1))
  · exact mom_lim hls2 (saysB c _ (fun t ht => tiesIn_sub ht) sc)
end
end Pk
end
section
set_option maxHeartbeats 1000000
namespace Pk
open PySem PySem.Spec PyProof.Rows L2
/-- a def whose code object is known -/
def Def2 (K : PySem.W.Frag) (mg : Str → Option Value) (x : Str) (st : Stmt) (c : Addr) : Prop :=
  ∃ f fd, FunD K x x (defArgs st) (defBody st) (defScope st) [] [] f fd ∧ mg x = some (.ref f) ∧ fd.code = .ref c
theorem Def2.cal {P : Program} {w : World} {K : PySem.W.Frag} {mg : Str → Option Value} {base : Heap} {k : Nat} {x : Str} {st : Stmt} {N ps : List Str} {sp : Sp} {c : Addr} (D : Def2 K mg x st c) (S : FnScope N ps (defScope st))
    (hb : ∀ (kV doc pm : Value) (an : Option Addr) (cdv ct : Value) (us : List Value), us.length = ps.length → bindArgs (PySem.W.fnOf x x (defArgs st) (defBody st) (defScope st) .none kV doc pm an cdv ct) ⟨us, []⟩ = pure (ps.zip us))
    (len : ∀ vs H Q E, sp vs H Q E → vs.length = ps.length)
    (body : ∀ (f : Addr) (A : Around) (outer : List Env) (s : Shared) (H : Hp) (vs : List V) (Q : VK) (E : XK), Room k (A.deeper (envOfC x (defScope st) s.heap.objs.size f (.ref c))) → sp vs H Q E →
      ∃ t, PSs (cxOf CX0 P w K mg base N x (defScope st) f (.ref c) A outer s H E).nox (defBody st) t ∧ t { nx := fun _ H' => Q .non H', rt := Q } (start N vs) H) : Cal P w K mg base (k + 1) x ps sp := by
  obtain ⟨f, fd, F, hm, hc⟩ := D
  refine ⟨f, fd, ?_, hm, F.kp, F.bindsN hb⟩
  obtain ⟨oc, od, dV, kV, doc, pm, an, cdv, ct, osl, rfl, lk, hcd, _, _⟩ := F.ex
  have hc : cdv = .ref c := hc
  subst hc
  exact fn_of lk hcd S len fun A outer s H vs Q E hr h => by
    obtain ⟨t, a, b⟩ := body f A outer s H vs Q E hr h
    exact ⟨t, a.nox, b⟩
theorem tabs_same {T : List (Addr × Str)} {H H' : Hp} (t : LamX.Tabs T H) (s : Same H H') : LamX.Tabs T H' := t.ext s
/-- what stands, but tables -/
theorem extN_plan {CP : Addr} {H H' : Hp} {p : Addr} {D : PD} (h : PlanAt CP H p D) (s : LamX.ExtN H H') : PlanAt CP H' p D := by
  obtain ⟨dx, ae, at_, al, h1, h2, ⟨as, h3, h4⟩, h5⟩ := h
  exact ⟨dx, ae, at_, al, s _ _ h1 (fun _ z => by cases z), s _ _ h2 (fun _ z => by cases z), ⟨as, s _ _ h3 (fun _ z => by cases z), Paired.mapP h4 fun _ _ z => s _ _ z (fun _ q => by cases q)⟩, s _ _ h5 (fun _ z => by cases z)⟩
theorem extN_dp {P : Program} {w : World} {H H' : Hp} {a : Addr} {kvs : List ((Node × Node) × V)} (d : DP P w H a kvs) (s : LamX.ExtN H H') : DP P w H' a kvs := by
  obtain ⟨es, h1, h2⟩ := d
  exact ⟨es, s _ _ h1 (fun _ z => by unfold oP at z; cases z), Paired.mapP h2 fun p q z => ⟨z.1, z.2.1, s _ _ z.2.2 (fun _ y => by cases y)⟩⟩
theorem extN_table {P : Program} {w : World} {CT : Addr} {H H' : Hp} {t : Addr} {ev : List Str} {L : Pu.Tb Str} (h : TableAt P w CT H t ev L) (s : LamX.ExtN H H') : TableAt P w CT H' t ev L :=
  let ⟨dx, ae, al, as, h1, h2, kvs, d, h3⟩ := h
  ⟨dx, ae, al, as, s _ _ h1 (fun _ z => by cases z), s _ _ h2 (fun _ z => by cases z), kvs, extN_dp d s, h3⟩
/-- behind a call with a cell tracked meanwhile -/
theorem same_out {C : Addr} {o : HO} {H H' : Hp} (n : H C = none) (s : Same (upd H C o) H') : Same H (hid C H') := fun b u e => by
  have nb := ne_of_none e n
  rw [hid_ne nb]
  exact s b u (by rw [upd_ne nb]; exact e)
theorem same_in {C : Addr} {ob : Obj} {HZ H' : Hp} (e : HZ C = some (CelO C ob)) (s : Same (hid C HZ) H') : Same HZ (upd H' C (CelO C ob)) := fun b o q => by
  by_cases z : b = C
  · subst z
    rw [e] at q
    rw [upd_same]
    exact q
  · rw [upd_ne z]
    exact s b o (by rw [hid_ne z]; exact q)
theorem same_hid2 {C : Addr} {o : HO} {H HZ : Hp} (n : H C = none) (s : Same (upd H C o) HZ) : Same H (hid C HZ) := same_out n s
theorem plan_hid {CP C : Addr} {ob : Obj} {H : Hp} {p : Addr} {D : PD} (h : PlanAt CP H p D) (e : H C = some (CelO C ob)) : PlanAt CP (hid C H) p D := by
  have st : ∀ b o, H b = some o → o ≠ CelO C ob → hid C H b = some o := fun b o q n => by
    rw [hid_ne (fun z => by rw [z, e] at q; exact n (Option.some.inj q).symm)]
    exact q
  obtain ⟨dx, ae, at_, al, h1, h2, ⟨as, h3, h4⟩, h5⟩ := h
  exact ⟨dx, ae, at_, al, st _ _ h1 (by intro z; unfold CelO at z; cases z), st _ _ h2 (by intro z; unfold CelO at z; cases z), ⟨as, st _ _ h3 (by intro z; unfold CelO at z; cases z), Paired.mapP h4 fun _ _ z => st _ _ z (by intro y; unfold CelO at y; cases y)⟩, st _ _ h5 (by intro z; unfold CelO at z; cases z)⟩
section
variable {P : Program} {w : World} {K : PySem.W.Frag} {mg : Str → Option Value} {base : Heap} {CP CT : Addr} {T : List (Addr × Str)} {c Pt : Addr}
/-- the events among the seen ones -/
def seenOf (ev ns : List Str) : List Str := ev.filter fun x => decide (x ∈ ns)
theorem tm_var {i : Nat} : ∀ {σ : L2.St} {H : Hp} {Q Q' : VK}, tVar i σ H Q → (∀ v H, Q v H → Q' v H) → tVar i σ H Q' := fun ⟨v, h, q⟩ k => ⟨v, h, k v _ q⟩
abbrev N_seen : List Str := ["plan", "names", "at", "name", "table", "events", "event"]
theorem sc_seen : FnScope N_seen ["plan", "names"] (defScope s_seen) := ⟨rfl, rfl, rfl, by decide +kernel, rfl, by decide +kernel, by decide +kernel⟩
def sp_seen (CP : Addr) (T : List (Addr × Str)) : Sp := fun vs H Q _ => ∃ (p n : Addr) (D : PD) (ns : List Str), vs = [.ref p, .ref n] ∧ PlanAt CP H p D ∧ PdOk D ∧ H n = some (.lst (ns.map V.str)) ∧ ns ≠ [] ∧ ns.Nodup ∧ (∀ x ∈ ns, x ∈ D.ev) ∧ LamX.Tabs T H ∧
  ∀ r H' D', LamX.ExtN H H' → LamX.Tabs T H' → PlanAt CP H' r D' → PdOk D' → D'.ev = seenOf D.ev ns → (∀ c, Pu.Mom D'.pl c ↔ ∃ d, Pu.Mom D.pl d ∧ ∀ x ∈ seenOf D.ev ns, d x = c x) → Q (.ref r) H'
theorem k_seen (W : Ws K mg CP CT) (D : Def2 K mg "seen" s_seen c) (TB : LamX.TabB base mg c Pt) (hm : (Pt, ("seen.<locals>.<lambda>" : Str)) ∈ T) (hu : ∀ p ∈ T, p.1 = Pt → p.2 = ("seen.<locals>.<lambda>" : Str))
    (c_need_plan : Cal P w K mg base 1 "need_plan" ["value"] (sp_need_plan CP)) (c_is_list : Cal P w K mg base 1 "is_list" ["value"] sp_is_list) (c_need_event : Cal P w K mg base 2 "need_event" ["events", "name"] sp_need_event)
    (m_events : Mal P w K mg base 1 CP "events" ["self"] (sp_Plan_events CP)) (i_Table : ITable P w K mg base CP CT) (m_lead : Mal P w K mg base 3 CT "lead" ["self", "earlier", "later"] (sp_lead P w CT)) (m_most : Mal P w K mg base 3 CT "most" ["self", "event"] (sp_most P w CT))
    (c_plan_of : Cal P w K mg base 8 "plan_of" ["events", "most", "lead"] (sp_plan_of P w K mg base CP)) : Cal P w K mg base 9 "seen" ["plan", "names"] (sp_seen CP T) := by
  refine D.cal sc_seen (fun _ _ _ _ _ _ us hl => match us, hl with | [_, _], _ => rfl) (fun vs H Q E h => ?_) fun f A outer s H vs Q E hr h => ⟨_, (pss_cons (ps_expr (pe_cal c_need_plan hr rfl (pa_cons (pv 0) pa_nil)))
      (pss_cons (ps_if (PW.pt (pw_or (pt_not (pt_val (pe_cal c_is_list hr rfl (pa_cons (pv 1) pa_nil)))) (pw_or1 (pt_cmpR op_eq (pe_callB (len_seqK (K := K)) (by rfl) W.f_len (by decide +kernel) (pa_cons (pv 1) pa_nil)) pe_int (nomark _))))) (pss_one ps_never) pss_nil)
      (pss_cons (ps_for PassesOwn.never rfl (pi_enum (by rfl) W.f_enumerate (pa_cons (pv 1) pa_nil)) (pg_tupK (K := K) (n := 2) (pgs_cons (pg_name (i := 2) sc_seen.nd rfl (by first | exact Or.inl rfl | exact Or.inr rfl)) (pgs_cons (pg_name (i := 3) sc_seen.nd rfl (by first | exact Or.inl rfl | exact Or.inr rfl)) pgs_nil))) (pss_cons (ps_expr (pe_cal c_need_event hr rfl (pa_cons (pe_mal0 W.cl_Plan m_events hr (H := fun hm F b hrm => pe_meth0 (pv 0) W.cl_Plan hm F hrm b .nil pass0)) (pa_cons (pv 3) pa_nil))))
      (pss_one (ps_if (pt_cmpR (in_seqK (K := K)) (pv 3) (pe_slice sl_list (pv 1) po_none (po_some (pv 2))) (by rfl)) (pss_one ps_never) pss_nil))))
      (pss_cons (ps_set (i := 4) sc_seen.nd rfl (by first | exact Or.inl rfl | exact Or.inr rfl) (pe_table W.g_Table i_Table hr (pa_cons (pv 0) pa_nil)))
      (pss_cons (ps_setLc (i := 5) (own := [("event", 6)]) (g := (gName 6)) (tt := _) rfl sc_seen.nd rfl rfl (sw_true rfl rfl rfl (by decide +kernel)) (pi_listK (K := K) (pe_mal0 W.cl_Plan m_events hr (H := fun hm F b hrm => pe_meth0 (pv 0) W.cl_Plan hm F hrm b .nil pass0))) (blkOk_by (own := [("event", 6)]) (N := N_seen) (sc := defScope s_seen) (by decide +kernel)) (fun _ _ _ _ _ => (pg_name (i := 6) sc_seen.nd rfl (by first | exact Or.inl rfl | exact Or.inr rfl))) (fun _ _ _ _ _ => (pts_one (pt_cmpR (in_seqK (K := K)) (pv 6) (pv 1) (by rfl)))) (fun _ _ _ _ _ => (pv 6)))
      (pss_one (ps_ret (pe_two (T := T) (kl := 3) (i := 4) (cap := "table") (ps1 := ["event"]) (ps2 := ["earlier", "later"]) c_plan_of hr rfl (pv 5) TB rfl hm hu (lamP_by (by decide +kernel)) (lamP_by (by decide +kernel)) rfl rfl rfl (bd1 := fun _ _ _ _ _ us hl => match us, hl with | [_], _ => rfl) (bd2 := fun _ _ _ _ _ us hl => match us, hl with | [_, _], _ => rfl) (hb1 := fun A outer s H f c' C hr => (pe_mal (pv 1) W.cl_Table m_most hr (pa_cons (pv 0) pa_nil) (H := fun hm F b hrm => pe_meth (pv 1) W.cl_Table hm F hrm b .nil pass0 (pa_cons (pv 0) pa_nil)))) (hb2 := fun A outer s H f c' C hr => (pe_mal (pv 2) W.cl_Table m_lead hr (pa_cons (pv 0) (pa_cons (pv 1) pa_nil)) (H := fun hm F b hrm => pe_meth (pv 2) W.cl_Table hm F hrm b .nil pass0 (pa_cons (pv 0) (pa_cons (pv 1) pa_nil))))) (tmono := tm_var))))))))), ?_⟩
  · obtain ⟨p, n, D, ns, rfl, _⟩ := h; rfl
  obtain ⟨p, n, D, ns, rfl, pa, ok, hn, nne, nnd, nin, hT, q⟩ := h
  obtain ⟨dx, a1, a2, a3, hp, _⟩ := id pa
  have l8 : D.ev.length ≤ 8 := ok.le
  have nl8 : ns.length ≤ 8 := Nat.le_trans (nodup_len nnd nin) l8
  have hpos : 0 < ns.length := List.length_pos_iff.mpr nne
  have nsl : (ns.map V.str).length = ns.length := List.length_map ..
  refine ⟨_, rfl, p, dx, _, rfl, hp, ?_⟩
  refine ⟨_, rfl, n, _, rfl, hn, fun H1 s1 => ⟨true, rfl, _, rfl, n, _, rfl, .inl (sq (s1 _ _ hn)), rfl, false, ?_, ?_⟩⟩
  · rw [nsl, dec_int]
    have : ((ns.length : Int) == 0) = false := by simp; omega
    rw [this]
  refine ⟨_, rfl, n, _, rfl, sq (s1 _ _ hn), for_it wk_enum (fun i σ H' => Same H H' ∧ ∃ u2 u3 u4 u5 u6, σ = [some (.ref p), some (.ref n), u2, u3, u4, u5, u6]) ⟨s1, _, _, _, _, _, rfl⟩ (fun i σ H' _ p => sq (p.1 _ _ hn)) (fun i v σ H2 H3 hi p0 y => ?_) fun σ H2 p2 => ?_⟩
  · obtain ⟨s2, u2, u3, u4, u5, u6, rfl⟩ := p0
    obtain ⟨T0, x, rfl, hT0, rfl, hx⟩ := y
    obtain ⟨x, hx', rfl⟩ := map_at hx
    have hxm : x ∈ ns := List.mem_of_getElem? hx'
    have s3 := Same.new (o := .tup [.int (i : Nat), .str x]) s2 hT0
    refine ⟨T0, _, rfl, st upd_same, rfl, _, _, rfl, _, _, rfl, rfl, _, rfl, p, dx, _, rfl, s3 _ _ hp, rfl, p, D, rfl, pa.same s3, l8, fun le hle => ⟨_, rfl, le, D.ev, x, rfl, upd_same, nin x hxm, ok.nm x (nin x hxm), fun H4 s4 => ?_⟩⟩
    have s5 := Same.trans (Same.new (o := .lst (D.ev.map V.str)) s3 hle) s4
    refine ⟨_, rfl, _, rfl, _, rfl, _, rfl, n, _, rfl, sq (s5 _ _ hn), fun p1 hp1 => ⟨p1, _, rfl, .inl (sq upd_same), rfl, ?_, false, ?_, Same.new s5 hp1, _, _, _, _, _, rfl⟩⟩
    · rw [cut_take _ _ (by omega), ← List.map_take]
      exact flat_strs _
    · rw [cut_take _ _ (by omega), ← List.map_take]
      rw [in_strs]
      exact bF (not_take nnd hx')
  obtain ⟨s2, u2, u3, u4, u5, u6, rfl⟩ := p2
  -- the table
  refine ⟨_, rfl, fun t tdx ht htdx ne => ⟨t, tdx, p, D, rfl, upd_same, (pa.same s2).same (made_in ht htdx), ok, fun H3 L bt tab C0 => ⟨rfl, ?_⟩⟩⟩
  have s3 := Same.trans s2 (made_out ht htdx bt)
  -- the seen events
  refine ⟨_, rfl, p, dx, _, rfl, s3 _ _ hp, rfl, p, D, rfl, pa.same s3, l8, fun le hle => ⟨le, rfl, ⟨_, sq upd_same⟩, ?_⟩⟩
  have s4 := Same.new (o := .lst (D.ev.map V.str)) s3 hle
  have tab4 := tab.same (same_new (o := .lst (D.ev.map V.str)) hle)
  have e4 : (upd H3 le (.lst (D.ev.map V.str))) le = some (.lst (D.ev.map V.str)) := upd_same
  generalize upd H3 le (.lst (D.ev.map V.str)) = H4 at s4 tab4 e4
  refine fun F hF => lc_it wk_list (fun i H' => Same H4 H' ∧ H' F = some (.lst (((D.ev.take i).filter fun x => decide (x ∈ ns)).map V.str))) ⟨same_new hF, upd_same⟩ (fun i H' _ p => sq (p.1 _ _ e4)) (fun i v H5 H6 hi p y => ?_) fun H5 p5 => ?_
  · obtain ⟨s5, f1⟩ := p
    obtain ⟨rfl, hx⟩ := y
    obtain ⟨x, hx', rfl⟩ := map_at hx
    have hi' : i < D.ev.length := (List.getElem?_eq_some_iff.mp hx').1
    have fil : (D.ev.take (i + 1)).filter (fun x => decide (x ∈ ns)) = (D.ev.take i).filter (fun x => decide (x ∈ ns)) ++ [x].filter (fun x => decide (x ∈ ns)) := by rw [take_succ hx', List.filter_append]
    refine ⟨rfl, _, rfl, _, rfl, n, _, rfl, .inl (sq (s5 _ _ (s4 _ _ hn))), rfl, flat_strs _, decide (x ∈ ns), in_strs x ns, ?_⟩
    by_cases hxn : x ∈ ns
    · have ed : decide (x ∈ ns) = true := decide_eq_true hxn
      rw [ed]
      refine ⟨_, rfl, _, f1, ?_, Same.mut s5 hF, ?_⟩
      · rw [List.length_map]
        have := List.length_filter_le (fun x => decide (x ∈ ns)) (D.ev.take i)
        have := List.length_take_le i D.ev
        exact sz_lt (by omega)
      · rw [upd_same, fil, List.filter_cons, ed, List.map_append]
        rfl
    · have ed : decide (x ∈ ns) = false := decide_eq_false hxn
      rw [ed]
      refine ⟨s5, ?_⟩
      rw [fil, List.filter_cons, ed]
      simpa using f1
  obtain ⟨s5, f1⟩ := p5
  rw [List.length_map, List.take_length] at f1
  have tab5 := tab4.same s5
  have s5' := Same.trans s4 s5
  have hin : ∀ x ∈ seenOf D.ev ns, x ∈ D.ev := fun x hx => (List.mem_filter.mp hx).1
  have wf := ok.wf
  have evs : EvAt H5 F (seenOf D.ev ns) := by
    refine ⟨f1, fun z => ?_, ?_, ok.nd.sublist (List.filter_sublist), fun x hx => ok.nm x (hin x hx)⟩
    · obtain ⟨x, hx⟩ := List.exists_mem_of_ne_nil _ nne
      have : x ∈ seenOf D.ev ns := List.mem_filter.mpr ⟨nin x hx, decide_eq_true hx⟩
      rw [z] at this
      cases this
    · have := List.length_filter_le (fun x => decide (x ∈ ns)) D.ev
      exact Nat.le_trans this l8
  -- plan_of
  refine ⟨_, rfl, tabs_same hT s5', .ref t, rfl, fun H6 C f1 f2 ob x6 T6 nC F1 F2 => ?_⟩
  have tab6 := extN_table tab5 x6
  obtain ⟨tdx', b1, b2, b3, htab, _⟩ := id tab6
  have evs6 : EvAt H6 F (seenOf D.ev ns) := ⟨x6 _ _ evs.at_ (fun _ z => by cases z), evs.ne, evs.le, evs.nd, evs.nm⟩
  refine ⟨F, f1, f2, seenOf D.ev ns, fun x => L none (some x), fun x y => L (some x) (some y), rfl, evs6.same (same_new nC), F1.imp fun vs HZ Q sm h => ?_, F2.imp fun vs HZ Q sm h => ?_, fun x hx v hv => C0.nn _ _ _ hv, fun x hx y hy v hv => C0.nn _ _ _ hv, ?_, fun r H7 D' s7 pl ok' hev hiff => ?_⟩
  · obtain ⟨x, hx, rfl, k⟩ := h
    have sh := same_out nC sm
    refine ⟨rfl, _, rfl, t, tdx', _, rfl, sh _ _ htab, rfl, _, rfl, t, D.ev, L, x, rfl, tab6.same sh, hin x hx, ok.nm, fun H8 s8 => k _ (same_in (sm _ _ upd_same) s8)⟩
  · obtain ⟨x, y, hx, hy, rfl, k⟩ := h
    have sh := same_out nC sm
    refine ⟨rfl, _, rfl, t, tdx', _, rfl, sh _ _ htab, rfl, _, rfl, _, rfl, t, D.ev, L, x, y, rfl, tab6.same sh, hin x hx, hin y hy, ok.nm, fun H8 s8 => k _ (same_in (sm _ _ upd_same) s8)⟩
  · obtain ⟨R, r1, r2, r3⟩ := Pu.seen_ac wf ok.ac C0
    exact ⟨R, r1, r2, fun x hx y hy ne e m => r3 x (hin x hx) y (hin y hy) ne e m⟩
  · have cC := s7 _ _ upd_same
    refine ⟨cC, q r _ D' ?_ (tabs_same T6 (same_out nC s7)) (plan_hid pl cC) ok' hev fun c => (hiff c).trans ?_⟩
    · exact (LamX.ExtN.of s5').trans (x6.trans (LamX.ExtN.of (same_out nC s7)))
    · exact Pu.seen_iff wf C0 hin c
end
end Pk
end
section
set_option maxHeartbeats 1000000
namespace Pk
open PySem PySem.Spec PyProof.Rows L2
theorem putK_len {κ : Type} [DecidableEq κ] {kvs : List (κ × V)} {k : κ} {v : V} (h : (valV kvs k).isSome = true) : (putK kvs k v).length = kvs.length := by
  unfold putK
  rw [valV_any, if_pos h, List.length_map]
theorem putK_keys {κ : Type} [DecidableEq κ] {kvs : List (κ × V)} {k : κ} {v : V} (h : (valV kvs k).isSome = true) : (putK kvs k v).map (·.1) = kvs.map (·.1) := by
  unfold putK
  rw [valV_any, if_pos h, List.map_map]
  apply List.map_congr_left
  intro p _
  show (if p.1 = k then (p.1, v) else p).1 = p.1
  split <;> rfl
section
variable {P : Program} {w : World} {K : PySem.W.Frag} {mg : Str → Option Value} {base : Heap} {CP CT : Addr} {T : List (Addr × Str)} {c Pt : Addr}
/-- a list of logs at b -/
def LogsAt (H : Hp) (b : Addr) (logs : List (List Str)) : Prop := ∃ as, H b = some (.lst (as.map V.ref)) ∧ Paired (fun p (l : List Str) => H p = some (.lst (l.map V.str))) as logs
theorem LogsAt.same {H H' : Hp} {b : Addr} {logs : List (List Str)} (h : LogsAt H b logs) (s : Same H H') : LogsAt H' b logs :=
  let ⟨as, h1, h2⟩ := h
  ⟨as, s _ _ h1, Paired.mapP h2 fun _ _ z => s _ _ z⟩
abbrev N_need_logs : List Str := ["events", "logs", "log", "event"]
theorem sc_need_logs : FnScope N_need_logs ["events", "logs"] (defScope s_need_logs) := ⟨rfl, rfl, rfl, by decide +kernel, rfl, by decide +kernel, by decide +kernel⟩
def sp_need_logs : Sp := fun vs H Q _ => ∃ (a b : Addr) (ev : List Str) (logs : List (List Str)), vs = [.ref a, .ref b] ∧ EvAt H a ev ∧ LogsAt H b logs ∧ logs.length ≤ 80 ∧ (∀ l ∈ logs, l.length ≤ 200 ∧ ∀ x ∈ l, x ∈ ev) ∧ ∀ H', Same H H' → Q .non H'
theorem k_need_logs (W : Ws K mg CP CT) (D : Def K mg "need_logs" s_need_logs) (c_is_list : Cal P w K mg base 1 "is_list" ["value"] sp_is_list) (c_need_event : Cal P w K mg base 2 "need_event" ["events", "name"] sp_need_event) : Cal P w K mg base 3 "need_logs" ["events", "logs"] sp_need_logs := by
  refine D.cal sc_need_logs (fun _ _ _ _ _ _ us hl => match us, hl with | [_, _], _ => rfl) (fun vs H Q E h => ?_) fun f cdv A outer s H vs Q E hr h => ⟨_, (pss_cons (ps_if (PW.pt (pw_or (pt_not (pt_val (pe_cal c_is_list hr rfl (pa_cons (pv 1) pa_nil)))) (pw_or1 (pt_cmpR op_gt (pe_callB (len_seqK (K := K)) (by rfl) W.f_len (by decide +kernel) (pa_cons (pv 1) pa_nil)) (C8.pe_gc rfl W.c_MOST_LOGS) (nomark _))))) (pss_one ps_never) pss_nil)
      (pss_one (ps_for PassesOwn.never rfl (pi_listK (K := K) (pv 1)) (pg_name (i := 2) sc_need_logs.nd rfl (by first | exact Or.inl rfl | exact Or.inr rfl)) (pss_cons (ps_if (PW.pt (pw_or (pt_not (pt_val (pe_cal c_is_list hr rfl (pa_cons (pv 2) pa_nil)))) (pw_or1 (pt_cmpR op_gt (pe_callB (len_seqK (K := K)) (by rfl) W.f_len (by decide +kernel) (pa_cons (pv 2) pa_nil)) (C8.pe_gc rfl W.c_MOST_IN_LOG) (nomark _))))) (pss_one ps_never) pss_nil)
      (pss_one (ps_for PassesOwn.never rfl (pi_listK (K := K) (pv 2)) (pg_name (i := 3) sc_need_logs.nd rfl (by first | exact Or.inl rfl | exact Or.inr rfl)) (pss_one (ps_expr (pe_cal c_need_event hr rfl (pa_cons (pv 0) (pa_cons (pv 3) pa_nil))))))))))), ?_⟩
  · obtain ⟨a, b, ev, logs, rfl, _⟩ := h; rfl
  obtain ⟨a, b, ev, logs, rfl, e, ⟨as, hb, hl⟩, l80, each, q⟩ := h
  have la : (as.map V.ref).length = logs.length := by rw [List.length_map, Paired.length hl]
  refine ⟨_, rfl, b, _, rfl, hb, fun H1 s1 => ⟨true, rfl, _, rfl, b, _, rfl, .inl (sq (s1 _ _ hb)), _, _, rfl, rfl, false, bF (by omega), ?_⟩⟩
  refine ⟨_, rfl, b, rfl, ⟨_, sq (s1 _ _ hb)⟩, for_it wk_list (fun i σ H' => Same H H' ∧ ∃ u v, σ = [some (.ref a), some (.ref b), u, v]) ⟨s1, _, _, rfl⟩ (fun i σ H' _ p => sq (p.1 _ _ hb)) (fun i v σ H2 H3 hi p y => ?_) fun σ H' p => q _ p.1⟩
  obtain ⟨s2, u, v, rfl⟩ := p
  obtain ⟨rfl, hx⟩ := y
  obtain ⟨pl, hp, rfl⟩ := map_at hx
  obtain ⟨log, hlog, hpl⟩ := paired_get hl hp
  obtain ⟨l200, hin⟩ := each log (List.mem_of_getElem? hlog)
  have hpl3 := s2 _ _ hpl
  have ll : (log.map V.str).length = log.length := List.length_map ..
  refine ⟨_, rfl, pl, _, rfl, hpl3, fun H4 s4 => ⟨true, rfl, _, rfl, pl, _, rfl, .inl (sq (s4 _ _ hpl3)), _, _, rfl, rfl, false, bF (by omega), ?_⟩⟩
  have s4' := Same.trans s2 s4
  refine ⟨_, rfl, pl, rfl, ⟨_, sq (s4 _ _ hpl3)⟩, for_it wk_list (fun i σ H' => Same H H' ∧ ∃ v, σ = [some (.ref a), some (.ref b), some (.ref pl), v]) ⟨s4', _, rfl⟩ (fun i σ H' _ p => sq (p.1 _ _ hpl)) (fun i v σ H5 H6 hi p y => ?_) fun σ H' p => ?_⟩
  · obtain ⟨s5, v, rfl⟩ := p
    obtain ⟨rfl, hx⟩ := y
    obtain ⟨x, hx', rfl⟩ := map_at hx
    have hxm := hin x (List.mem_of_getElem? hx')
    exact ⟨_, rfl, _, rfl, a, ev, x, rfl, s5 _ _ e.at_, hxm, e.nm x hxm, fun H7 s7 => ⟨Same.trans s5 s7, _, rfl⟩⟩
  · obtain ⟨s5, v, rfl⟩ := p
    exact ⟨s5, _, _, rfl⟩
/-- leads of logs at a: for each node and each event one number -/
def LdAt (P : Program) (w : World) (H : Hp) (a : Addr) (ev : List Str) (F : Node → Str → Int) : Prop := ∃ kvs, DP P w H a kvs ∧ kvs.length ≤ 72 ∧ ∀ i ∈ none :: ev.map some, ∀ l ∈ ev, valV kvs (i, some l) = some (.int (F i l))
abbrev N_leads_in : List Str := ["events", "logs", "found", "log", "counts", "event", "earlier", "later"]
theorem sc_leads_in : FnScope N_leads_in ["events", "logs"] (defScope s_leads_in) := ⟨rfl, rfl, rfl, by decide +kernel, rfl, by decide +kernel, by decide +kernel⟩
def sp_leads_in (P : Program) (w : World) : Sp := fun vs H Q _ => ∃ (a b : Addr) (ev : List Str) (logs : List (List Str)), vs = [.ref a, .ref b] ∧ EvAt H a ev ∧ LogsAt H b logs ∧ (∀ l ∈ logs, ∀ x ∈ l, x ∈ ev) ∧ ∀ d H' F, Same H H' → LdAt P w H' d ev F → Pu.LogF ev logs F → Q (.ref d) H'
theorem k_leads_in (W : Ws K mg CP CT) (D : Def K mg "leads_in" s_leads_in) : Cal P w K mg base 1 "leads_in" ["events", "logs"] (sp_leads_in P w) := by
  refine D.cal sc_leads_in (fun _ _ _ _ _ _ us hl => match us, hl with | [_, _], _ => rfl) (fun vs H Q E h => ?_) fun f cdv A outer s H vs Q E hr h => ⟨_, (pss_cons (giv_set (i := 2) (giv_dcG2 (srvP P w) rfl rfl hr.units0 (own := [("earlier", 6), ("later", 7)]) (vs1 := [7]) (g := (gName 6)) (tt := tYes) (g1 := gName 7) (tt1 := tYes) (by rfl) sc_leads_in.nd (pi_listK (K := K) (pe_lst (pa_cons pe_non (StX.pa_star (pv 0) pa_nil)))) (blkOk_by (own := [("earlier", 6), ("later", 7)]) (N := N_leads_in) (sc := defScope s_leads_in) (by decide +kernel)) (by decide) (fun _ _ _ _ _ => (pg_name (i := 6) sc_leads_in.nd rfl (by first | exact Or.inl rfl | exact Or.inr rfl))) (fun _ _ _ _ _ => pts_nil) (fun _ _ _ _ _ => (pi_listK (K := K) (pv 0))) (fun _ _ _ _ _ => (pg_name (i := 7) sc_leads_in.nd rfl (by first | exact Or.inl rfl | exact Or.inr rfl))) (fun _ _ _ _ _ => pts_nil) (fun _ _ _ _ _ => (pe_tup (pa_cons (pv 6) (pa_cons (pv 7) pa_nil)))) (fun _ _ _ _ _ => pe_int)) sc_leads_in.nd rfl rfl (swap_dict rfl rfl rfl (by decide +kernel)))
      (pss_cons (ps_for PassesOwn.never rfl (pi_listK (K := K) (pv 1)) (pg_name (i := 3) sc_leads_in.nd rfl (by first | exact Or.inl rfl | exact Or.inr rfl)) (pss_cons (giv_set (i := 4) (giv_dcG (srvN P w) rfl rfl hr.units0 (own := [("event", 5)]) (g := (gName 5)) (tt := tYes) (by rfl) sc_leads_in.nd (pi_listK (K := K) (pe_lst (pa_cons pe_non (StX.pa_star (pv 0) pa_nil)))) (blkOk_by (own := [("event", 5)]) (N := N_leads_in) (sc := defScope s_leads_in) (by decide +kernel)) (fun _ _ _ _ _ => (pg_name (i := 5) sc_leads_in.nd rfl (by first | exact Or.inl rfl | exact Or.inr rfl))) (fun _ _ _ _ _ => pts_nil) (fun _ _ _ _ _ => (pv 5)) (fun _ _ _ _ _ => pe_int)) sc_leads_in.nd rfl rfl (swap_dict rfl rfl rfl (by decide +kernel)))
      (pss_one (ps_for PassesOwn.never rfl (pi_listK (K := K) (pv 3)) (pg_name (i := 5) sc_leads_in.nd rfl (by first | exact Or.inl rfl | exact Or.inr rfl)) (pss_cons (ps_naug (pv 4) (pv 5) pe_int in_add (fun _ _ _ => rfl))
      (pss_one (ps_lock (ps_for PassesOwn.never rfl (pi_nkeys (pv 4)) (pg_name (i := 6) sc_leads_in.nd rfl (by first | exact Or.inl rfl | exact Or.inr rfl)) (pss_one (ps_pput (hu_of hr) (pv 2) (pe_tup (pa_cons (pv 6) (pa_cons (pv 5) pa_nil))) (pe_callB (call_max2 rfl) (by rfl) W.f_max (by decide +kernel) (pa_cons (pe_pget (hu_of hr) (pv 2) (pe_tup (pa_cons (pv 6) (pa_cons (pv 5) pa_nil))) (fun _ _ => rfl)) (pa_cons (pe_op op_sub (pe_nget (pv 4) (pv 5) (fun _ _ => rfl)) (pe_nget (pv 4) (pv 6) (fun _ _ => rfl))) pa_nil))) rfl))))))))))
      (pss_one (ps_ret (pv 2))))), ?_⟩
  · obtain ⟨a, b, ev, logs, rfl, _⟩ := h; rfl
  obtain ⟨a, b, ev, logs, rfl, e, ⟨as, hb, hl⟩, each, q⟩ := h
  have l8 := e.le
  obtain ⟨ns, hns⟩ : ∃ ns : List Node, ns = none :: ev.map some := ⟨_, rfl⟩
  have nsl : ns.length = ev.length + 1 := by rw [hns, List.length_cons, List.length_map]
  have nsd : ns.Nodup := by
    rw [hns, List.nodup_cons]
    exact ⟨by simp, List.Pairwise.map _ (fun a b h z => h (Option.some.inj z)) e.nd⟩
  have en : (.non :: (ev.map V.str ++ []) : List V) = ns.map nV := by
    rw [List.append_nil, hns]
    show _ = nV none :: (ev.map some).map nV
    rw [List.map_map]
    rfl
  have szl : (.non :: (ev.map V.str ++ []) : List V).length ≤ sizeLine := by rw [en, List.length_map]; exact sz_le (by omega)
  have some_in : ∀ x ∈ ev, some x ∈ ns := fun x hx => by rw [hns]; exact List.mem_cons_of_mem _ (List.mem_map.mpr ⟨x, hx, rfl⟩)
  -- all zeros
  refine ⟨_, rfl, a, _, rfl, .inr (sq e.at_), szl, fun ln hln => ⟨ln, rfl, ⟨_, sq upd_same⟩, ?_⟩⟩
  rw [en]
  have s1 := same_new (o := .lst (ns.map nV)) hln
  have n1 : (upd H ln (.lst (ns.map nV))) ln = some (.lst (ns.map nV)) := upd_same
  generalize upd H ln (.lst (ns.map nV)) = H1 at s1 n1
  refine fun Dd hDd => it_gen wk_list (fun i H' => Same H1 H' ∧ ∃ kvs, DP P w H' Dd kvs ∧ kvs.length ≤ i * ev.length ∧ ∀ x ∈ ns.take i, ∀ l ∈ ev, valV kvs (x, some l) = some (.int 0)) ⟨same_new hDd, [], DP.nil upd_same, by simp, fun x hx => by simp at hx⟩
    (fun i H' _ p => sq (p.1 _ _ n1)) (fun i v H2 H3 hi p y => ?_) fun H2 p2 => ?_
  · obtain ⟨s2, kvs, d, hlen, hv⟩ := p
    obtain ⟨rfl, hx⟩ := y
    obtain ⟨x, hx', rfl⟩ := map_at hx
    have hi9 : i ≤ 8 := by rw [List.length_map, nsl] at hi; omega
    refine ⟨rfl, _, rfl, a, rfl, ⟨_, sq (s2 _ _ (s1 _ _ e.at_))⟩, it_gen wk_list (fun j H' => Same H1 H' ∧ ∃ kvs, DP P w H' Dd kvs ∧ kvs.length ≤ i * ev.length + j ∧ (∀ x ∈ ns.take i, ∀ l ∈ ev, valV kvs (x, some l) = some (.int 0)) ∧ ∀ l ∈ ev.take j, valV kvs (x, some l) = some (.int 0)) ⟨s2, kvs, d, hlen, hv, fun l hl => by simp at hl⟩
      (fun i H' _ p => sq (p.1 _ _ (s1 _ _ e.at_))) (fun j v H4 H5 hj p y => ?_) fun H4 p4 => ?_⟩
    · obtain ⟨s4, kvs, d, hlen, hv, hw⟩ := p
      obtain ⟨rfl, hy⟩ := y
      obtain ⟨l, hl', rfl⟩ := map_at hy
      have hj8 : j < ev.length := (List.getElem?_eq_some_iff.mp hl').1
      have hil : i * ev.length ≤ 8 * 8 := Nat.mul_le_mul hi9 l8
      refine ⟨rfl, _, rfl, _, rfl, by show 2 ≤ sizeLine; decide, fun p hp => ⟨p, kvs, (x, some l), rfl, d.same (same_new hp), upd_same, sz_lt (by omega), fun H' d' bt _ => ⟨Same.but (Same.new s4 hp) hDd bt, _, d', ?_, fun u hu m hm => ?_, fun m hm => ?_⟩⟩⟩
      · have := length_putK kvs (x, some l) (.int 0); omega
      · rw [valV_put]
        split
        · rfl
        · exact hv u hu m hm
      · rw [valV_put]
        split
        · rfl
        · rename_i hne
          rw [take_succ hl'] at hm
          rcases List.mem_append.mp hm with hm | hm
          · exact hw m hm
          · have e1 : m = l := by simpa using hm
            exact absurd (by rw [e1]) hne
    · obtain ⟨s4, kvs, d, hlen, hv, hw⟩ := p4
      rw [List.length_map] at hlen hw
      rw [List.take_length] at hw
      refine ⟨s4, kvs, d, by rw [Nat.add_mul]; omega, fun u hu m hm => ?_⟩
      rw [take_succ hx'] at hu
      rcases List.mem_append.mp hu with hu | hu
      · exact hv u hu m hm
      · have e1 : u = x := by simpa using hu
        rw [e1]
        exact hw m hm
  obtain ⟨s2, kvs0, d0, hlen0, hv0⟩ := p2
  rw [List.length_map] at hlen0 hv0
  rw [List.take_length] at hv0
  have hDd0 : H Dd = none := Same.free s1 hDd
  have s2' := Same.trans s1 s2
  have L0 : LdAt P w H2 Dd ev fun _ _ => 0 := ⟨kvs0, d0, by
    have h1 : ns.length ≤ 9 := by omega
    exact Nat.le_trans hlen0 (Nat.mul_le_mul h1 l8), fun i hi l hl => hv0 i (by rw [hns]; exact hi) l hl⟩
  have las : (as.map V.ref).length = logs.length := by rw [List.length_map, Paired.length hl]
  -- the logs
  refine ⟨_, rfl, b, rfl, ⟨_, sq (s2' _ _ hb)⟩, for_it wk_list (fun i σ H' => Same H H' ∧ (∃ F, LdAt P w H' Dd ev F ∧ Pu.LogF ev (logs.take i) F) ∧ ∃ u3 u4 u5 u6 u7, σ = [some (.ref a), some (.ref b), some (.ref Dd), u3, u4, u5, u6, u7]) ⟨s2', ⟨_, L0, Pu.logF_nil ev⟩, _, _, _, _, _, rfl⟩
    (fun i σ H' _ p => sq (p.1 _ _ hb)) (fun i v σ H3 H4 hi p y => ?_) fun σ H3 p3 => ?_⟩
  · obtain ⟨s3, ⟨F, LF, hF⟩, u3, u4, u5, u6, u7, rfl⟩ := p
    obtain ⟨rfl, hx⟩ := y
    obtain ⟨pl, hp, rfl⟩ := map_at hx
    obtain ⟨log, hlog, hpl⟩ := paired_get hl hp
    have hin := each log (List.mem_of_getElem? hlog)
    have tk1 : logs.take (i + 1) = logs.take i ++ [log] := take_succ hlog
    rw [tk1]
    generalize logs.take i = lg at hF
    -- counts
    refine ⟨_, rfl, a, _, rfl, .inr (sq (s3 _ _ e.at_)), szl, fun l2 hl2 => ⟨l2, rfl, ⟨_, sq upd_same⟩, ?_⟩⟩
    rw [en]
    have s4 := Same.new (o := .lst (ns.map nV)) s3 hl2
    have LF4 : LdAt P w (upd H4 l2 (.lst (ns.map nV))) Dd ev F := let ⟨k, d, x, y⟩ := LF; ⟨k, d.same (same_new hl2), x, y⟩
    have n4 : (upd H4 l2 (.lst (ns.map nV))) l2 = some (.lst (ns.map nV)) := upd_same
    generalize upd H4 l2 (.lst (ns.map nV)) = H5 at s4 LF4 n4
    refine fun C hC => dcG_it wk_list (fun i H' => Same H5 H' ∧ ∃ kvs : List (Node × V), H' C = some (oN P w C kvs) ∧ kvs.map (·.1) = ns.take i ∧ ∀ x ∈ ns.take i, valV kvs x = some (.int 0)) ⟨same_new hC, [], upd_same, rfl, fun x hx => by simp at hx⟩ (fun i H' _ p => sq (p.1 _ _ n4)) (fun i v H6 H7 hi p y => ?_) fun H6 p6 => ?_
    · obtain ⟨s6, kvs, h1, h2, h3⟩ := p
      obtain ⟨rfl, hx⟩ := y
      obtain ⟨x, hx', rfl⟩ := map_at hx
      have hnx : ¬ x ∈ kvs.map (·.1) := by rw [h2]; exact not_take nsd hx'
      have hvn : valV kvs x = none := by
        cases z : valV kvs x with
        | none => rfl
        | some u =>
          unfold valV at z
          obtain ⟨p, hp, _⟩ := Option.map_eq_some_iff.mp z
          have hp2 := List.find?_some hp
          exact absurd (List.mem_map.mpr ⟨p, List.mem_of_find?_eq_some hp, of_decide_eq_true hp2⟩) hnx
      have hput : putK kvs x (.int 0) = kvs ++ [(x, .int 0)] := by
        unfold putK
        rw [valV_any, hvn]
        rfl
      have hkl : kvs.length = i := by
        have := congrArg List.length h2
        rw [List.length_map, List.length_take] at this
        rw [List.length_map] at hi
        omega
      rw [List.length_map] at hi
      refine ⟨rfl, _, rfl, kvs, x, rfl, h1, sz_lt (by omega), Same.mut s6 hC, _, upd_same, ?_, fun u hu => ?_⟩
      · rw [hput, List.map_append, h2, take_succ hx']; rfl
      · rw [valV_put]
        split
        · rfl
        · rename_i hne
          rw [take_succ hx'] at hu
          rcases List.mem_append.mp hu with hu | hu
          · exact h3 u hu
          · exact absurd (by simpa using hu) hne
    obtain ⟨s6, kc, c1, c2, c3⟩ := p6
    rw [List.length_map, List.take_length] at c2 c3
    have hC0 : H C = none := Same.free s4 hC
    have s6' := Same.trans s4 s6
    have LF6 : LdAt P w H6 Dd ev F := let ⟨k, d, x, y⟩ := LF4; ⟨k, d.same s6, x, y⟩
    have nCD : C ≠ Dd := fun z => by
      obtain ⟨k, d, _⟩ := LF4
      obtain ⟨o, h1, _⟩ := d.there
      rw [← z, hC] at h1
      cases h1
    -- the log's events
    refine ⟨_, rfl, pl, rfl, ⟨_, sq (s6' _ _ hpl)⟩, for_it wk_list (fun j σ H' => Same H H' ∧ (∃ F, LdAt P w H' Dd ev F ∧ Pu.LogF ev (lg ++ [log.take j]) F) ∧ (∃ kvs : List (Node × V), H' C = some (oN P w C kvs) ∧ kvs.map (·.1) = ns ∧ ∀ x ∈ ns, valV kvs x = some (.int (Pu.cx (Pu.cnt (log.take j)) x))) ∧ ∃ u5 u6 u7, σ = [some (.ref a), some (.ref b), some (.ref Dd), some (.ref pl), some (.ref C), u5, u6, u7])
      ⟨s6', ⟨F, LF6, hF.start⟩, ⟨kc, c1, c2, fun x hx => by rw [c3 x hx]; rw [show log.take 0 = [] from rfl, Pu.cx_nil]⟩, _, _, _, rfl⟩ (fun i σ H' _ p => sq (p.1 _ _ hpl)) (fun j v σ H7 H8 hj p y => ?_) fun σ H7 p7 => ?_⟩
    · obtain ⟨s7, ⟨F, LF, hF⟩, ⟨kc, c1, c2, c3⟩, u5, u6, u7, rfl⟩ := p
      obtain ⟨rfl, hx⟩ := y
      obtain ⟨x, hx', rfl⟩ := map_at hx
      have hxe := hin x (List.mem_of_getElem? hx')
      have hxn := some_in x hxe
      have tk2 : log.take (j + 1) = log.take j ++ [x] := take_succ hx'
      rw [tk2]
      generalize log.take j = qq at hF c3
      have kcl : kc.length ≤ 9 := by
        have := congrArg List.length c2
        rw [List.length_map] at this
        omega
      -- counts[event] += 1
      refine ⟨_, rfl, _, rfl, C, kc, some x, .int (Pu.cx (Pu.cnt qq) (some x)), rfl, c1, rfl, c3 _ hxn, _, _, rfl, rfl, kc, c1, sz_lt (by omega), ?_⟩
      have s9 := Same.mut (o := oN P w C (putK kc (some x) (.int (Pu.cx (Pu.cnt qq) (some x) + 1)))) s7 hC0
      obtain ⟨kl, dl, ll, vl⟩ := LF
      have dl9 := dl.but nCD (by rw [c1]; intro ys z; unfold oN at z; cases z) (But.upd (H := H8) (b := C) (o := oN P w C (putK kc (some x) (.int (Pu.cx (Pu.cnt qq) (some x) + 1)))))
      have c9 : (upd H8 C (oN P w C (putK kc (some x) (.int (Pu.cx (Pu.cnt qq) (some x) + 1))))) C = some (oN P w C (putK kc (some x) (.int (Pu.cx (Pu.cnt qq) (some x) + 1)))) := upd_same
      have k9 : (putK kc (some x) (.int (Pu.cx (Pu.cnt qq) (some x) + 1))).map (·.1) = ns := by rw [putK_keys (by rw [c3 _ hxn]; rfl), c2]
      have v9 : ∀ y ∈ ns, valV (putK kc (some x) (.int (Pu.cx (Pu.cnt qq) (some x) + 1))) y = some (.int (Pu.cx (Pu.cnt (qq ++ [x])) y)) := fun y hy => by
        rw [valV_put]
        by_cases e1 : y = some x
        · rw [if_pos e1, e1]
          show some (V.int (Pu.cnt qq x + 1)) = some (V.int (Pu.cnt (qq ++ [x]) x))
          rw [Pu.cnt_snoc, if_pos rfl]
        · rw [if_neg e1, c3 y hy]
          cases y with
          | none => rfl
          | some y =>
            show some (V.int (Pu.cnt qq y)) = some (V.int (Pu.cnt (qq ++ [x]) y))
            rw [Pu.cnt_snoc, if_neg (fun z => e1 (by rw [z])), Int.add_zero]
      generalize putK kc (some x) (.int (Pu.cx (Pu.cnt qq) (some x) + 1)) = kc2 at s9 dl9 c9 k9 v9 ⊢
      show tLock _ _ _ (upd H8 C (oN P w C kc2))
      generalize upd H8 C (oN P w C kc2) = H9 at s9 dl9 c9 ⊢
      refine ⟨C, _, c9, trivial, fun od => ?_⟩
      have s10 : Same H (upd H9 C (.frz od (oN P w C kc2))) := Same.mut s9 hC0
      have dl10 := dl9.but nCD (by rw [c9]; intro ys z; unfold oN at z; cases z) (But.upd (H := H9) (b := C) (o := .frz od (oN P w C kc2)))
      have c10 : (upd H9 C (.frz od (oN P w C kc2))) C = some (.frz od (oN P w C kc2)) := upd_same
      generalize upd H9 C (.frz od (oN P w C kc2)) = H10 at s10 dl10 c10
      have kl2 : kc2.length = ns.length := by rw [← k9, List.length_map]
      refine ⟨_, rfl, C, od, kc2, rfl, c10, for_it wk_nkeys (fun j σ H' => Same H H' ∧ H' C = some (.frz od (oN P w C kc2)) ∧ (∃ kvs, DP P w H' Dd kvs ∧ kvs.length ≤ 72 ∧ (∀ i ∈ ns, ∀ l ∈ ev, l ≠ x → valV kvs (i, some l) = some (.int (F i l))) ∧
          (∀ i ∈ ns.take j, valV kvs (i, some x) = some (.int (if Pu.cnt (qq ++ [x]) x - Pu.cx (Pu.cnt (qq ++ [x])) i > F i x then Pu.cnt (qq ++ [x]) x - Pu.cx (Pu.cnt (qq ++ [x])) i else F i x))) ∧ ∀ i ∈ ns, i ∉ ns.take j → valV kvs (i, some x) = some (.int (F i x))) ∧
          ∃ u6 u7, σ = [some (.ref a), some (.ref b), some (.ref Dd), some (.ref pl), some (.ref C), some (.str x), u6, u7])
        ⟨s10, c10, ⟨kl, dl10, ll, fun i hi l hl _ => vl i (by rw [← hns]; exact hi) l hl, fun i hi => by simp at hi, fun i hi _ => vl i (by rw [← hns]; exact hi) x hxe⟩, _, _, rfl⟩ (fun i σ H' _ p => p.2.1) (fun m v σ H11 H12 hm p y => ?_) fun σ H11 p11 => ?_⟩
      · obtain ⟨s11, c11, ⟨kv, dv, lv, g1, g2, g3⟩, w6, w7, rfl⟩ := p
        obtain ⟨rfl, i, vi, hiv, rfl⟩ := y
        have hni : ns[m]? = some i := by rw [← k9, List.getElem?_map, hiv]; rfl
        have him := List.mem_of_getElem? hni
        have hin' : i ∉ ns.take m := not_take nsd hni
        have mem_s : ∀ y, y ∈ ns.take (m + 1) ↔ y ∈ ns.take m ∨ y = i := fun y => by rw [take_succ hni, List.mem_append, List.mem_singleton]
        have cur := g3 i him hin'
        have rd11 : ∀ {H'}, Same H12 H' → Rd H' C (oN P w C kc2) := fun s => .inr ⟨od, s _ _ c11⟩
        refine ⟨_, rfl, _, rfl, _, rfl, by show 2 ≤ sizeLine; decide, fun p1 hp1 => ⟨Dd, p1, kv, (i, some x), .int (F i x), rfl, rfl, dv.same (same_new hp1), upd_same, cur, _, rfl, _, rfl, C, kc2, some x, _, rfl, rd11 (same_new hp1), rfl, v9 _ hxn, _, rfl, _, rfl, C, kc2, i, _, rfl, rd11 (same_new hp1), rfl, v9 _ him, _, _, rfl, rfl, _, _, rfl, ?_⟩⟩
        have s13 := Same.new (o := .tup [nV i, .str x]) s11 hp1
        have d13 := dv.same (same_new (o := .tup [nV i, .str x]) hp1)
        have c13 := same_new (o := .tup [nV i, .str x]) hp1 _ _ c11
        refine ⟨_, rfl, _, rfl, _, rfl, by show 2 ≤ sizeLine; decide, fun p2 hp2 => ⟨Dd, p2, kv, (i, some x), rfl, rfl, d13.same (same_new hp2), upd_same, sz_lt (by omega), fun H' d' bt rest => ?_⟩⟩
        have s14 := Same.new (o := .tup [nV i, .str x]) s13 hp2
        refine ⟨Same.but s14 hDd0 bt, by rw [rest C nCD]; exact same_new hp2 _ _ c13, ⟨_, d', by rw [putK_len (by rw [cur]; rfl)]; exact lv, fun i' hi' l hl hne => ?_, fun i' hi' => ?_, fun i' hi' hno => ?_⟩, _, _, rfl⟩
        · rw [valV_put, if_neg (fun z => hne (Option.some.inj (congrArg Prod.snd z)))]
          exact g1 i' hi' l hl hne
        · rw [valV_put]
          by_cases e1 : i' = i
          · rw [if_pos (by rw [e1]), e1]
            rfl
          · rw [if_neg (fun z => e1 (congrArg Prod.fst z))]
            exact g2 i' (((mem_s i').mp hi').elim id fun z => absurd z e1)
        · have e1 : i' ≠ i := fun z => hno ((mem_s i').mpr (.inr z))
          rw [valV_put, if_neg (fun z => e1 (congrArg Prod.fst z))]
          exact g3 i' hi' fun z => hno ((mem_s i').mpr (.inl z))
      · obtain ⟨s11, c11, ⟨kv, dv, lv, g1, g2, g3⟩, w6, w7, rfl⟩ := p11
        rw [kl2, List.take_length] at g2
        refine ⟨c11, Same.mut s11 hC0, ⟨_, ⟨kv, dv.but nCD (by rw [c11]; intro ys z; cases z) But.upd, lv, fun i hi l hl => ?_⟩, hF.step x⟩, ⟨kc2, upd_same, k9, v9⟩, _, _, _, rfl⟩
        have hi' : i ∈ ns := by rw [hns]; exact hi
        show valV kv (i, some l) = some (.int (if l = x then _ else F i l))
        by_cases e1 : l = x
        · rw [if_pos e1, e1]
          exact g2 i hi'
        · rw [if_neg e1]
          exact g1 i hi' l hl e1
    · obtain ⟨s7, ⟨F, LF, hF⟩, _, u5, u6, u7, rfl⟩ := p7
      rw [List.length_map, List.take_length] at hF
      exact ⟨s7, ⟨F, LF, hF⟩, _, _, _, _, _, rfl⟩
  obtain ⟨s3, ⟨F, LF, hF⟩, u3, u4, u5, u6, u7, rfl⟩ := p3
  rw [las, List.take_length] at hF
  exact ⟨_, rfl, q Dd H3 F s3 LF hF⟩
end
end Pk
end
section
set_option maxHeartbeats 1000000
namespace Pk
open PySem PySem.Spec PyProof.Rows L2
section
variable {P : Program} {w : World} {K : PySem.W.Frag} {mg : Str → Option Value} {base : Heap} {CP CT : Addr} {T : List (Addr × Str)} {c Pt : Addr}
theorem tm_list {i : Nat} : ∀ {σ : L2.St} {H : Hp} {Q Q' : VK}, tCB (fun xs H Q => ∃ p ys, xs = [V.ref p] ∧ (SqL K H p ys ∨ SqT K H p ys) ∧ ∀ l, H l = none → Q (.ref l) (upd H l (.lst ys))) (tCons (tVar i) tNil) σ H Q → (∀ v H, Q v H → Q' v H) →
    tCB (fun xs H Q => ∃ p ys, xs = [V.ref p] ∧ (SqL K H p ys ∨ SqT K H p ys) ∧ ∀ l, H l = none → Q (.ref l) (upd H l (.lst ys))) (tCons (tVar i) tNil) σ H Q' := fun ⟨v, h, p, ys, a, b, q⟩ k => ⟨v, h, p, ys, a, b, fun l hl => k _ _ (q l hl)⟩
theorem extN_ld {H H' : Hp} {a : Addr} {ev : List Str} {F : Node → Str → Int} (h : LdAt P w H a ev F) (s : LamX.ExtN H H') : LdAt P w H' a ev F :=
  let ⟨k, d, x, y⟩ := h
  ⟨k, extN_dp d s, x, y⟩
abbrev N_learnt : List Str := ["events", "logs", "leads"]
theorem sc_learnt : FnScope N_learnt ["events", "logs"] (defScope s_learnt) := ⟨rfl, rfl, rfl, by decide +kernel, rfl, by decide +kernel, by decide +kernel⟩
def sp_learnt (CP : Addr) (T : List (Addr × Str)) : Sp := fun vs H Q _ => ∃ (a b : Addr) (ev : List Str) (logs : List (List Str)), vs = [.ref a, .ref b] ∧ EvAt H a ev ∧ LogsAt H b logs ∧ logs.length ≤ 80 ∧ (∀ l ∈ logs, l.length ≤ 200 ∧ ∀ x ∈ l, x ∈ ev) ∧ LamX.Tabs T H ∧
  ∀ r H' D' F, LamX.ExtN H H' → LamX.Tabs T H' → PlanAt CP H' r D' → PdOk D' → D'.ev = ev → Pu.LogF ev logs F → (∀ c, Pu.Mom D'.pl c ↔ Says ev (fun x => some (F none x)) (fun x y => some (F (some x) y)) c) → Q (.ref r) H'
theorem k_learnt (W : Ws K mg CP CT) (D : Def2 K mg "learnt" s_learnt c) (TB : LamX.TabB base mg c Pt) (hm : (Pt, ("learnt.<locals>.<lambda>" : Str)) ∈ T) (hu : ∀ p ∈ T, p.1 = Pt → p.2 = ("learnt.<locals>.<lambda>" : Str))
    (c_need_events : Cal P w K mg base 2 "need_events" ["events"] sp_need_events) (c_need_logs : Cal P w K mg base 3 "need_logs" ["events", "logs"] sp_need_logs) (c_leads_in : Cal P w K mg base 1 "leads_in" ["events", "logs"] (sp_leads_in P w))
    (c_plan_of : Cal P w K mg base 8 "plan_of" ["events", "most", "lead"] (sp_plan_of P w K mg base CP)) : Cal P w K mg base 9 "learnt" ["events", "logs"] (sp_learnt CP T) := by
  refine D.cal sc_learnt (fun _ _ _ _ _ _ us hl => match us, hl with | [_, _], _ => rfl) (fun vs H Q E h => ?_) fun f A outer s H vs Q E hr h => ⟨_, (pss_cons (ps_expr (pe_cal c_need_events hr rfl (pa_cons (pv 0) pa_nil)))
      (pss_cons (ps_expr (pe_cal c_need_logs hr rfl (pa_cons (pv 0) (pa_cons (pv 1) pa_nil))))
      (pss_cons (ps_set (i := 2) sc_learnt.nd rfl (by first | exact Or.inl rfl | exact Or.inr rfl) (pe_cal c_leads_in hr rfl (pa_cons (pv 0) (pa_cons (pv 1) pa_nil))))
      (pss_one (ps_ret (pe_two (T := T) (kl := 3) (i := 2) (cap := "leads") (ps1 := ["event"]) (ps2 := ["earlier", "later"]) c_plan_of hr rfl (pe_callTy call_list_of (by rfl) W.f_list (by decide +kernel) (pa_cons (pv 0) pa_nil)) TB rfl hm hu (lamP_by (by decide +kernel)) (lamP_by (by decide +kernel)) rfl rfl rfl (bd1 := fun _ _ _ _ _ us hl => match us, hl with | [_], _ => rfl) (bd2 := fun _ _ _ _ _ us hl => match us, hl with | [_, _], _ => rfl) (hb1 := fun A outer s H f c' C hr => (pe_pgetK (P := P) (w := w) (hu_of hr) (pv 1) (pe_tup (pa_cons pe_non (pa_cons (pv 0) pa_nil))) (fun _ _ => rfl))) (hb2 := fun A outer s H f c' C hr => (pe_pgetK (P := P) (w := w) (hu_of hr) (pv 2) (pe_tup (pa_cons (pv 0) (pa_cons (pv 1) pa_nil))) (fun _ _ => rfl))) (tmono := tm_list))))))), ?_⟩
  · obtain ⟨a, b, ev, logs, rfl, _⟩ := h; rfl
  obtain ⟨a, b, ev, logs, rfl, e, hl, l80, each, hT, q⟩ := h
  refine ⟨_, rfl, a, ev, rfl, e, fun H1 s1 => ⟨_, rfl, _, rfl, a, b, ev, logs, rfl, e.same s1, hl.same s1, l80, each, fun H2 s2 => ?_⟩⟩
  have s2 := Same.trans s1 s2
  refine ⟨_, rfl, _, rfl, a, b, ev, logs, rfl, e.same s2, hl.same s2, fun l hl => (each l hl).2, fun d H3 F s3 LF hF => ?_⟩
  have s3 := Same.trans s2 s3
  refine ⟨_, rfl, a, _, rfl, .inl (sq (s3 _ _ e.at_)), fun le hle => ?_⟩
  have s4 := Same.new (o := .lst (ev.map V.str)) s3 hle
  have LF4 : LdAt P w (upd H3 le (.lst (ev.map V.str))) d ev F := let ⟨k, d, x, y⟩ := LF; ⟨k, d.same (same_new hle), x, y⟩
  have e4 : (upd H3 le (.lst (ev.map V.str))) le = some (.lst (ev.map V.str)) := upd_same
  refine ⟨tabs_same hT s4, .ref d, rfl, fun H6 C f1 f2 ob x6 T6 nC F1 F2 => ?_⟩
  have LF6 := extN_ld LF4 x6
  obtain ⟨kvs, dp, lk72, hv⟩ := LF6
  have evs6 : EvAt H6 le ev := ⟨x6 _ _ e4 (fun _ z => by cases z), e.ne, e.le, e.nd, e.nm⟩
  have hsome : ∀ x ∈ ev, some x ∈ none :: ev.map some := fun x hx => List.mem_cons_of_mem _ (List.mem_map.mpr ⟨x, hx, rfl⟩)
  refine ⟨le, f1, f2, ev, fun x => some (F none x), fun x y => some (F (some x) y), rfl, evs6.same (same_new nC), F1.imp fun vs HZ Q sm h => ?_, F2.imp fun vs HZ Q sm h => ?_, fun x hx v hv' => ?_, fun x hx y hy v hv' => ?_, ?_, fun r H7 D' s7 pl ok' hev hiff => ?_⟩
  · obtain ⟨x, hx, rfl, k⟩ := h
    have sh := same_out nC sm
    refine ⟨rfl, _, rfl, _, rfl, by show 2 ≤ sizeLine; decide, fun tp htp => ⟨d, tp, kvs, (none, some x), _, rfl, rfl, (dp.same sh).same (same_new htp), upd_same, hv none (List.mem_cons_self ..) x hx, k _ (same_in (sm _ _ upd_same) (same_new htp))⟩⟩
  · obtain ⟨x, y, hx, hy, rfl, k⟩ := h
    have sh := same_out nC sm
    refine ⟨rfl, _, rfl, _, rfl, _, rfl, by show 2 ≤ sizeLine; decide, fun tp htp => ⟨d, tp, kvs, (some x, some y), _, rfl, rfl, (dp.same sh).same (same_new htp), upd_same, hv (some x) (hsome x hx) y hy, k _ (same_in (sm _ _ upd_same) (same_new htp))⟩⟩
  · cases hv'
    exact hF.nn none (List.mem_cons_self ..) x hx
  · cases hv'
    exact hF.nn (some x) (hsome x hx) y hy
  · obtain ⟨R, r1, r2, r3⟩ := Pu.logs_ac hF
    exact ⟨R, r1, r2, fun x hx y hy ne e m => r3 x hx y hy ne (Option.some.inj e) (m _ rfl)⟩
  · have cC := s7 _ _ upd_same
    exact ⟨cC, q r _ D' F ((LamX.ExtN.of s4).trans (x6.trans (LamX.ExtN.of (same_out nC s7)))) (tabs_same T6 (same_out nC s7)) (plan_hid pl cC) ok' hev hF hiff⟩
end
end Pk
end
section
set_option maxHeartbeats 1000000
namespace Pk
open PySem PySem.Spec PyProof.Rows L2
theorem castBM {X : Cx} {K : PySem.W.Frag} {e : Expr} {T : String} {r : V → List V → Hp → VK → Prop} {to : TE} {t : TA} (h : PE X e (tBM X.K T r to t)) (hK : X.K = K := by rfl) : PE X e (tBM K T r to t) := hK ▸ h
/-- the box of draws at b -/
def BoxAt (H : Hp) (b : Addr) (n : Nat) : Prop := ∃ b0 b1 b2 : Int, H b = some (.lst [.int b0, .int b1, .int b2]) ∧ 0 ≤ b0 ∧ 0 ≤ b1 ∧ b1 < 2147483629 ∧ 0 ≤ b2 ∧ b2 ≤ n
theorem BoxAt.mono {H : Hp} {b : Addr} {n m : Nat} (h : BoxAt H b n) (l : n ≤ m) : BoxAt H b m := let ⟨x, y, z, a, c, d, e, f, g⟩ := h; ⟨x, y, z, a, c, d, e, f, by omega⟩
theorem BoxAt.same {H H' : Hp} {b : Addr} {n : Nat} (h : BoxAt H b n) (s : Same H H') : BoxAt H' b n := let ⟨x, y, z, a, r⟩ := h; ⟨x, y, z, s _ _ a, r⟩
theorem BoxAt.ne {H : Hp} {b a : Addr} {n : Nat} {xs : List Str} (h : BoxAt H b n) (e : H a = some (.lst (xs.map V.str))) : a ≠ b := fun z => by
  obtain ⟨x, y, w, h1, _⟩ := h
  rw [z, h1] at e
  cases xs with
  | nil => cases e
  | cons x xs => cases e
theorem But.mut {b p : Addr} {H H' : Hp} {o : HO} (e : But b H H') (h : H p = none) : But b H (L2.upd H' p o) := fun c u n q => by
  rw [upd_ne (ne_of_none q h)]
  exact e c u n q
theorem But.new {b p : Addr} {H H' : Hp} {o : HO} (e : But b H H') (hb : p ≠ b) (h : H' p = none) : But b H (L2.upd H' p o) := e.mut (e.free hb h)
theorem BoxAt.upd {H : Hp} {b p : Addr} {n : Nat} {o : HO} (h : BoxAt H b n) (hp : p ≠ b) : BoxAt (L2.upd H p o) b n := let ⟨x, y, z, a, r⟩ := h; ⟨x, y, z, by rw [upd_ne hp.symm]; exact a, r⟩
theorem fresh_ne {H : Hp} {b p : Addr} {n : Nat} (h : BoxAt H b n) (hp : H p = none) : p ≠ b := fun z => by
  obtain ⟨x, y, w, h1, _⟩ := h
  rw [z, h1] at hp
  cases hp
section
variable {P : Program} {w : World} {K : PySem.W.Frag} {mg : Str → Option Value} {base : Heap} {CP CT : Addr}
abbrev N_law_cell : List Str := ["_law_script", "_law_k"]
theorem sc_law_cell : FnScope N_law_cell ["_law_script", "_law_k"] (defScope s_law_cell) := ⟨rfl, rfl, rfl, by decide +kernel, rfl, by decide +kernel, by decide +kernel⟩
def sp_cell (K : PySem.W.Frag) : Sp := fun vs H Q _ => ∃ (a : Addr) (ns : List Int) (k : Nat), vs = [.ref a, .int (k : Int)] ∧ SqL K H a (ns.map V.int) ∧ k < 100 ∧ ∀ z, Q (.int z) H
theorem k_law_cell (W : Ws K mg CP CT) (D : Def K mg "_law_cell" s_law_cell) : Cal P w K mg base 1 "_law_cell" ["_law_script", "_law_k"] (sp_cell K) := by
  refine D.cal sc_law_cell (fun _ _ _ _ _ _ us hl => match us, hl with | [_, _], _ => rfl) (fun vs H Q E h => ?_) fun f cdv A outer s H vs Q E hr h => ⟨_, (pss_cons (ps_if (pt_cmpR op_lt (pv 1) (pe_callB (len_seqK (K := K)) (by rfl) W.f_len (by decide +kernel) (pa_cons (pv 0) pa_nil)) (nomark _)) (pss_one (ps_ret (pe_ix (ix_listK (K := K)) (pv 0) (pv 1) (fun _ _ => rfl)))) pss_nil)
      (pss_one (ps_ret (pe_op op_add (pe_op op_mul pe_int (pv 1)) pe_int)))), ?_⟩
  · obtain ⟨a, ns, k, rfl, _⟩ := h; rfl
  obtain ⟨a, ns, k, rfl, ha, hk, q⟩ := h
  refine ⟨_, rfl, _, rfl, a, _, rfl, .inl ha, _, _, rfl, rfl, decide ((k : Int) < ((ns.map V.int).length : Nat)), rfl, ?_⟩
  by_cases h : (k : Int) < ((ns.map V.int).length : Nat)
  · rw [decide_eq_true h]
    have hk2 : k < ns.length := by rw [List.length_map] at h; omega
    exact ⟨_, rfl, _, rfl, a, _, k, .int ns[k], rfl, rfl, ha, atI_nat (by rw [List.getElem?_map, List.getElem?_eq_getElem hk2]; rfl), q _⟩
  · rw [decide_eq_false h]
    exact ⟨_, rfl, _, _, rfl, rfl, .inl ⟨by decide, by decide⟩, _, _, rfl, rfl, q _⟩
abbrev N_law_box : List Str := ["_law_cell_here"]
theorem sc_law_box : FnScope N_law_box ["_law_cell_here"] (defScope s_law_box) := ⟨rfl, rfl, rfl, by decide +kernel, rfl, by decide +kernel, by decide +kernel⟩
def sp_box : Sp := fun vs H Q _ => ∃ z : Int, vs = [.int z] ∧ ∀ b H', H b = none → Same H H' → BoxAt H' b 0 → Q (.ref b) H'
theorem k_law_box (W : Ws K mg CP CT) (D : Def K mg "_law_box" s_law_box) : Cal P w K mg base 1 "_law_box" ["_law_cell_here"] sp_box := by
  refine D.cal sc_law_box (fun _ _ _ _ _ _ us hl => match us, hl with | [_], _ => rfl) (fun vs H Q E h => ?_) fun f cdv A outer s H vs Q E hr h => ⟨_, (pss_one (ps_ret (pe_lst (pa_cons (pe_callB (call_max2 rfl) (by rfl) W.f_max (by decide +kernel) (pa_cons pe_int (pa_cons (pe_op op_sub (pv 0) (pe_op op_pow pe_int pe_int)) pa_nil))) (pa_cons (pe_op op_mod (pv 0) pe_int) (pa_cons pe_int pa_nil)))))), ?_⟩
  · obtain ⟨z, rfl, _⟩ := h; rfl
  obtain ⟨z, rfl, q⟩ := h
  refine ⟨_, rfl, _, _, rfl, rfl, ⟨by decide, by decide, by decide⟩, _, _, rfl, rfl, _, _, rfl, _, rfl, _, _, rfl, rfl, by show (0 : Int) < 2147483629; decide, by show 3 ≤ sizeLine; decide, fun b hb => q b _ hb (same_new hb) ⟨_, _, _, upd_same, ?_, ?_, ?_, Int.le_refl 0, Int.le_refl 0⟩⟩
  · split <;> omega
  · exact Int.emod_nonneg _ (by decide)
  · exact Int.emod_lt_of_pos _ (by decide)
abbrev N_law_take : List Str := ["_law_box_here", "_law_many", "_law_digit", "_law_number"]
theorem sc_law_take : FnScope N_law_take ["_law_box_here", "_law_many"] (defScope s_law_take) := ⟨rfl, rfl, rfl, by decide +kernel, rfl, by decide +kernel, by decide +kernel⟩
def sp_take : Sp := fun vs H Q _ => ∃ (b : Addr) (m : Int) (n : Nat), vs = [.ref b, .int m] ∧ 0 < m ∧ m ≤ 10000000000000 ∧ BoxAt H b n ∧ n < 100000 ∧ ∀ H' d, But b H H' → BoxAt H' b (n + 1) → 0 ≤ d → d < m → Q (.int d) H'
theorem k_law_take (W : Ws K mg CP CT) (D : Def K mg "_law_take" s_law_take) : Cal P w K mg base 1 "_law_take" ["_law_box_here", "_law_many"] sp_take := by
  refine D.cal sc_law_take (fun _ _ _ _ _ _ us hl => match us, hl with | [_, _], _ => rfl) (fun vs H Q E h => ?_) fun f cdv A outer s H vs Q E hr h => ⟨_, (pss_cons (ps_if (pt_cmpR op_gt (pe_ix (ix_listK (K := K)) (pv 0) pe_int (fun _ _ => rfl)) pe_int (nomark _)) (pss_cons (ps_set (i := 2) sc_law_take.nd rfl (by first | exact Or.inl rfl | exact Or.inr rfl) (pe_op op_mod (pe_ix (ix_listK (K := K)) (pv 0) pe_int (fun _ _ => rfl)) (pv 1)))
      (pss_cons (ps_asg (pe_op op_fdivW (pe_ix (ix_listK (K := K)) (pv 0) pe_int (fun _ _ => rfl)) (pv 1)) (pg_sub (pv 0) pe_int set_list))
      (pss_one (ps_ret (pv 2))))) pss_nil)
      (pss_cons (ps_asg (pe_op op_add (pe_ix (ix_listK (K := K)) (pv 0) pe_int (fun _ _ => rfl)) pe_int) (pg_sub (pv 0) pe_int set_list))
      (pss_cons (ps_set (i := 3) sc_law_take.nd rfl (by first | exact Or.inl rfl | exact Or.inr rfl) (pe_op op_mod (pe_op op_pow (pe_op op_add (pe_op op_add (pe_ix (ix_listK (K := K)) (pv 0) pe_int (fun _ _ => rfl)) (pe_op op_mul pe_int (pe_ix (ix_listK (K := K)) (pv 0) pe_int (fun _ _ => rfl)))) pe_int) pe_int) pe_int))
      (pss_cons (ps_set (i := 3) sc_law_take.nd rfl (by first | exact Or.inl rfl | exact Or.inr rfl) (pe_op op_mod (pe_op op_pow (pe_op op_add (pv 3) (pe_op op_mul pe_int (pe_ix (ix_listK (K := K)) (pv 0) pe_int (fun _ _ => rfl)))) pe_int) pe_int))
      (pss_one (ps_ret (pe_op op_mod (pe_op op_fdivW (pv 3) pe_int) (pv 1)))))))), ?_⟩
  · obtain ⟨b, m, n, rfl, _⟩ := h; rfl
  obtain ⟨b, m, n, rfl, m0, mle, ⟨b0, b1, b2, hb, h0, h1, h2, h3, h4⟩, hn, q⟩ := h
  have hmlog : CDivW b0 m := wide_div m0 (b := 64) (by omega) (by decide) (by decide)
  refine ⟨_, rfl, b, _, 0, _, rfl, rfl, sq hb, rfl, _, _, rfl, rfl, decide (0 < b0), rfl, ?_⟩
  by_cases hp : 0 < b0
  · rw [decide_eq_true hp]
    refine ⟨_, rfl, b, _, 0, _, rfl, rfl, sq hb, rfl, _, rfl, _, _, rfl, rfl, m0, _, rfl, b, _, 0, _, rfl, rfl, sq hb, rfl, _, rfl, _, _, rfl, rfl, hmlog, _, rfl, b, _, 0, 0, rfl, rfl, hb, rfl, _, rfl, ?_⟩
    refine q _ _ But.upd ⟨b0 / m, b1, b2, upd_same, Int.ediv_nonneg h0 (by omega), h1, h2, h3, by omega⟩ (Int.emod_nonneg _ (by omega)) (Int.emod_lt_of_pos _ m0)
  · rw [decide_eq_false hp]
    refine ⟨_, rfl, b, _, 2, _, rfl, rfl, sq hb, rfl, _, _, rfl, rfl, _, rfl, b, _, 2, 2, rfl, rfl, hb, rfl, ?_⟩
    have g1 : (upd H b (.lst ([V.int b0, .int b1, .int b2].set 2 (.int (b2 + 1))))) b = some (.lst [.int b0, .int b1, .int (b2 + 1)]) := upd_same
    generalize hH1 : upd H b (.lst ([V.int b0, .int b1, .int b2].set 2 (.int (b2 + 1)))) = H1 at g1 ⊢
    have bt : But b H H1 := hH1 ▸ But.upd
    refine ⟨_, rfl, b, _, 1, _, rfl, rfl, sq g1, rfl, _, rfl, b, _, 2, _, rfl, rfl, sq g1, rfl, _, _, rfl, rfl, .inl ⟨by decide, by decide⟩, _, _, rfl, rfl, _, _, rfl, rfl, _, _, rfl, rfl, ⟨by decide, by decide, by omega⟩, _, _, rfl, rfl, by show (0 : Int) < 2147483647; decide, ?_⟩
    have r0 : 0 ≤ (b1 + 7919 * (b2 + 1) + 43) ^ (5 : Int).toNat % 2147483647 := Int.emod_nonneg _ (by decide)
    have r1 : (b1 + 7919 * (b2 + 1) + 43) ^ (5 : Int).toNat % 2147483647 < 2147483647 := Int.emod_lt_of_pos _ (by decide)
    generalize (b1 + 7919 * (b2 + 1) + 43) ^ (5 : Int).toNat % 2147483647 = r at r0 r1 ⊢
    refine ⟨_, rfl, _, rfl, b, _, 2, _, rfl, rfl, sq g1, rfl, _, _, rfl, rfl, .inl ⟨by decide, by decide⟩, _, _, rfl, rfl, _, _, rfl, rfl, ⟨by decide, by decide, by omega⟩, _, _, rfl, rfl, by show (0 : Int) < 2147483587; decide, ?_⟩
    generalize (r + 104729 * (b2 + 1)) ^ (3 : Int).toNat % 2147483587 = r' 
    refine ⟨_, rfl, _, _, rfl, rfl, wide_div (by decide) (b := 64) (by decide) (by decide) (by decide), _, rfl, _, _, rfl, rfl, m0, ?_⟩
    exact q _ _ bt ⟨b0, b1, b2 + 1, g1, h0, h1, h2, by omega, by omega⟩ (Int.emod_nonneg _ (by omega)) (Int.emod_lt_of_pos _ m0)
theorem perm_erase {α : Type} {y : α} : ∀ {l : List α} {k : Nat}, l[k]? = some y → l.Perm (y :: l.eraseIdx k)
  | [], _, h => by cases h
  | a :: l, 0, h => by
    cases h
    exact .refl _
  | a :: l, k + 1, h => ((perm_erase (l := l) (k := k) h).cons a).trans (.swap y a _)
abbrev N_law_mixed : List Str := ["_law_box_here", "_law_some", "_law_left", "_law_k"]
theorem sc_law_mixed : FnScope N_law_mixed ["_law_box_here", "_law_some"] (defScope s_law_mixed) := ⟨rfl, rfl, rfl, by decide +kernel, rfl, by decide +kernel, by decide +kernel⟩
def sp_mixed : Sp := fun vs H Q _ => ∃ (b a : Addr) (n : Nat) (xs : List Str), vs = [.ref b, .ref a] ∧ BoxAt H b n ∧ n < 10000 ∧ H a = some (.lst (xs.map V.str)) ∧ xs.length ≤ 10 ∧ ∀ l H' (ys : List Str), But b H H' → BoxAt H' b (n + xs.length) → H' l = some (.lst (ys.map V.str)) → ys.Perm xs → Q (.ref l) H'
theorem k_law_mixed (W : Ws K mg CP CT) (D : Def K mg "_law_mixed" s_law_mixed) (c_law_take : Cal P w K mg base 1 "_law_take" ["_law_box_here", "_law_many"] sp_take) : Cal P w K mg base 2 "_law_mixed" ["_law_box_here", "_law_some"] sp_mixed := by
  refine D.cal sc_law_mixed (fun _ _ _ _ _ _ us hl => match us, hl with | [_, _], _ => rfl) (fun vs H Q E h => ?_) fun f cdv A outer s H vs Q E hr h => ⟨_, (pss_cons (ps_set (i := 2) sc_law_mixed.nd rfl (by first | exact Or.inl rfl | exact Or.inr rfl) (pe_callTy call_list_of (by rfl) W.f_list (by decide +kernel) (pa_cons (pv 1) pa_nil)))
      (pss_one (ps_ret (pe_lc (own := [("_law_k", 3)]) (g := (gName 3)) (tt := tYes) rfl sc_law_mixed.nd (pi_range1 (by rfl) W.f_range (pa_cons (pe_callB (len_seqK (K := K)) (by rfl) W.f_len (by decide +kernel) (pa_cons (pv 1) pa_nil)) pa_nil)) (blkOk_by (own := [("_law_k", 3)]) (N := N_law_mixed) (sc := defScope s_law_mixed) (by decide +kernel)) (fun _ _ _ _ _ => (pg_name (i := 3) sc_law_mixed.nd rfl (by first | exact Or.inl rfl | exact Or.inr rfl))) (fun _ _ _ _ _ => pts_nil) (fun _ _ _ _ _ => (castBM (K := K) (pe_bm PySem.F.plainAttrs_list PySem.F.slot_list_pop PySem.F.type_list_pop mt_popAt (pv 2) (pa_cons (pe_cal c_law_take hr rfl (pa_cons (pv 0) (pa_cons (pe_callB (len_seqK (K := K)) (by rfl) W.f_len (by decide +kernel) (pa_cons (pv 2) pa_nil)) pa_nil))) pa_nil)))))))), ?_⟩
  · obtain ⟨b, a, n, xs, rfl, _⟩ := h; rfl
  obtain ⟨b, a, n, xs, rfl, hb, hn, ha, hxl, q⟩ := h
  have nab := hb.ne ha
  refine ⟨_, rfl, a, _, rfl, .inl (sq ha), fun lf hlf => ?_⟩
  have nlf := fresh_ne hb hlf
  have xl : (xs.map V.str).length = xs.length := List.length_map ..
  refine ⟨_, rfl, a, _, rfl, .inl (sq (same_new hlf _ _ ha)), _, rfl, by omega, by omega, fun D hD => ?_⟩
  have nD : D ≠ b := fresh_ne (hb.upd nlf) hD
  have nDl : lf ≠ D := ne_of_none upd_same hD
  have hD0 : H D = none := by rw [upd_ne nDl.symm] at hD; exact hD
  rw [xl]
  refine lc_it wk_rng (fun i H' => But b H H' ∧ BoxAt H' b (n + i) ∧ ∃ ys zs : List Str, H' D = some (.lst (ys.map V.str)) ∧ H' lf = some (.lst (zs.map V.str)) ∧ (ys ++ zs).Perm xs ∧ ys.length = i) ⟨((But.refl b H).mut hlf).mut hD0, (hb.upd nlf).upd nD, [], xs, upd_same, by rw [upd_ne nDl]; exact upd_same, .refl _, rfl⟩ (fun _ _ _ _ => trivial) (fun i v H2 H3 hi p y => ?_) fun H2 p2 => ?_
  · obtain ⟨bt, bx, ys, zs, h1, h2, h3, h4⟩ := p
    obtain ⟨rfl, rfl⟩ := y
    have hlen := h3.length_eq
    rw [List.length_append] at hlen
    have i' : i < xs.length := by omega
    have zl : (zs.map V.str).length = zs.length := List.length_map ..
    refine ⟨rfl, _, rfl, .inl ⟨rfl, _, sq h2⟩, _, rfl, _, rfl, lf, _, rfl, .inl (sq h2), b, _, n + i, rfl, by omega, by omega, bx, by omega, fun H4 d bt4 bx4 d0 dlt => ?_⟩
    have h1' := bt4 _ _ nD h1
    have h2' := bt4 _ _ nlf h2
    have dn : (d.toNat : Int) = d := Int.toNat_of_nonneg d0
    have hd : d.toNat < zs.length := by omega
    have hz : zs[d.toNat]? = some zs[d.toNat] := List.getElem?_eq_getElem hd
    refine ⟨lf, _, d, d.toNat, .str zs[d.toNat], rfl, rfl, h2', by omega, by omega, ?_, by rw [List.getElem?_map, hz]; rfl, _, by rw [upd_ne nDl.symm]; exact h1', by rw [List.length_map]; exact sz_lt (by omega), ?_⟩
    · unfold seqIndex?
      have : ¬ d < 0 := by omega
      simp only [this, if_false]
      have c1 : (decide (0 ≤ d) && decide (d < ((zs.map V.str).length : Nat))) = true := by
        rw [Bool.and_eq_true, decide_eq_true_eq, decide_eq_true_eq]
        exact ⟨d0, dlt⟩
      rw [if_pos c1]
    · refine ⟨((bt.trans bt4).mut hlf).mut hD0, (BoxAt.upd (bx4.upd nlf) nD), ys ++ [zs[d.toNat]], zs.eraseIdx d.toNat, by rw [upd_same, List.map_append]; rfl, by rw [upd_ne nDl, upd_same, erase_map], ?_, by rw [List.length_append, h4]; rfl⟩
      rw [List.append_assoc]
      exact (List.Perm.append_left ys (perm_erase hz).symm).trans h3
  · obtain ⟨bt, bx, ys, zs, h1, h2, h3, h4⟩ := p2
    have hlen := h3.length_eq
    have e4 : ys.length = xs.length := by omega
    rw [List.length_append] at hlen
    have hz : zs = [] := List.length_eq_zero_iff.mp (by omega)
    rw [hz, List.append_nil] at h3
    exact q D H2 ys bt (bx.mono (by omega)) h1 h3
abbrev N_law_lag : List Str := ["_law_box_here"]
theorem sc_law_lag : FnScope N_law_lag ["_law_box_here"] (defScope s_law_lag) := ⟨rfl, rfl, rfl, by decide +kernel, rfl, by decide +kernel, by decide +kernel⟩
def sp_lag : Sp := fun vs H Q _ => ∃ (b : Addr) (n : Nat), vs = [.ref b] ∧ BoxAt H b n ∧ n < 10000 ∧ ∀ H' z, But b H H' → BoxAt H' b (n + 2) → 0 ≤ z → Q (.int z) H'
theorem k_law_lag (W : Ws K mg CP CT) (D : Def K mg "_law_lag" s_law_lag) (c_law_take : Cal P w K mg base 1 "_law_take" ["_law_box_here", "_law_many"] sp_take) : Cal P w K mg base 2 "_law_lag" ["_law_box_here"] sp_lag := by
  refine D.cal sc_law_lag (fun _ _ _ _ _ _ us hl => match us, hl with | [_], _ => rfl) (fun vs H Q E h => ?_) fun f cdv A outer s H vs Q E hr h => ⟨_, (pss_one (ps_ret (pe_ix (ix_listK (K := K)) (pe_lst (pa_cons pe_int (pa_cons pe_int (pa_cons pe_int (pa_cons pe_int (pa_cons pe_int (pa_cons pe_int (pa_cons pe_int (pa_cons (pe_op op_mul (pe_cal c_law_take hr rfl (pa_cons (pv 0) (pa_cons (pe_op op_pow pe_int pe_int) pa_nil))) (pe_op op_pow pe_int pe_int)) pa_nil))))))))) (pe_cal c_law_take hr rfl (pa_cons (pv 0) (pa_cons pe_int pa_nil))) (fun _ _ => rfl)))), ?_⟩
  · obtain ⟨b, n, rfl, _⟩ := h; rfl
  obtain ⟨b, n, rfl, hb, hn, q⟩ := h
  refine ⟨_, rfl, _, _, rfl, rfl, ⟨by decide, by decide, by decide⟩, b, _, n, rfl, by decide, by decide, hb, by omega, fun H1 d bt bx d0 dlt => ?_⟩
  have dlt : d < 10 ^ (12 : Int).toNat := dlt
  have e12 : (10 : Int) ^ (12 : Int).toNat = 1000000000000 := by decide
  rw [e12] at dlt
  refine ⟨_, _, rfl, rfl, ⟨by decide, by decide, by decide⟩, _, _, rfl, rfl, .inl ⟨by omega, by omega⟩, by show 8 ≤ sizeLine; decide, fun l hl => ?_⟩
  have nl := fresh_ne bx hl
  refine ⟨_, rfl, b, 8, n + 1, rfl, by decide, by decide, bx.upd nl, by omega, fun H2 d2 bt2 bx2 d20 d2lt => ?_⟩
  have g2 := bt2 _ _ nl (upd_same)
  have bt3 := (bt.new nl hl).trans bt2
  have e15 : (10 : Int) ^ (15 : Int).toNat = 1000000000000000 := by decide
  rw [e15] at g2
  have pos : 0 ≤ d * 1000000000000000 := Int.mul_nonneg d0 (by decide)
  have c8 : d2 = 0 ∨ d2 = 1 ∨ d2 = 2 ∨ d2 = 3 ∨ d2 = 4 ∨ d2 = 5 ∨ d2 = 6 ∨ d2 = 7 := by omega
  rcases c8 with rfl | rfl | rfl | rfl | rfl | rfl | rfl | rfl <;> exact ⟨l, _, _, _, rfl, rfl, sq g2, rfl, q _ _ bt3 (bx2.mono (by omega)) (by first | exact pos | decide)⟩
end
end Pk
end
section
set_option maxHeartbeats 1000000
namespace Pk
open PySem PySem.Spec PyProof.Rows L2
def StemOk (st : Str) : Prop := st.length ≤ 7 ∧ ∀ c ∈ st.cps.toList, c ∈ abc.cps.toList
theorem sum_perm {l l' : List Nat} (p : l.Perm l') : l.sum = l'.sum := by
  induction p with
  | nil => rfl
  | cons a _ ih => rw [List.sum_cons, List.sum_cons, ih]
  | swap a b l => rw [List.sum_cons, List.sum_cons, List.sum_cons, List.sum_cons]; omega
  | trans _ _ i1 i2 => exact i1.trans i2
theorem app_cps (i j : Str) : (i ++ j).cps.toList = i.cps.toList ++ j.cps.toList := by
  show (i.cps ++ j.cps).toList = _
  exact Array.toList_append
def sgOf (first step : Int) (k : Nat) : Nat := 97 + ((first + step * (k : Int)) % 26).toNat
theorem abc_at : ∀ n, n < 26 → abc.cps.toList[n]? = some (97 + n) := by decide +kernel
theorem abc_in {n : Nat} (h : n < 26) : 97 + n ∈ abc.cps.toList := List.mem_of_getElem? (abc_at n h)
/-- a name made of a stem and the sign c -/
def Made (st : Str) (c : Nat) (x : Str) : Prop := ∃ bs : List Nat, (bs = st.cps.toList ∨ bs = []) ∧ x.cps.toList.Perm (c :: bs)
theorem made_ne {st x : Str} {c c' : Nat} (h : Made st c x) (h' : Made st c' x) : c = c' := by
  obtain ⟨b1, e1, p1⟩ := h
  obtain ⟨b2, e2, p2⟩ := h'
  have l1 := p1.length_eq
  have l2 := p2.length_eq
  have eb : b1 = b2 := by
    rcases e1 with rfl | rfl <;> rcases e2 with rfl | rfl
    · rfl
    · simp only [List.length_cons, List.length_nil] at l1 l2
      exact List.length_eq_zero_iff.mp (by omega)
    · simp only [List.length_cons, List.length_nil] at l1 l2
      exact (List.length_eq_zero_iff.mp (by omega)).symm
    · rfl
  subst eb
  have s := sum_perm (p1.symm.trans p2)
  rw [List.sum_cons, List.sum_cons] at s
  omega
theorem made_ok {st x : Str} {c : Nat} (hs : StemOk st) (hc : c ∈ abc.cps.toList) (h : Made st c x) : NameOk x := by
  obtain ⟨bs, e, p⟩ := h
  have l := p.length_eq
  have hx : x.length = x.cps.toList.length := by show x.cps.size = _; simp
  have hb : bs.length ≤ 7 ∧ ∀ y ∈ bs, y ∈ abc.cps.toList := by
    rcases e with rfl | rfl
    · refine ⟨?_, hs.2⟩
      have := hs.1
      have h2 : st.length = st.cps.toList.length := by show st.cps.size = _; simp
      omega
    · exact ⟨Nat.zero_le _, fun y hy => by cases hy⟩
  rw [List.length_cons] at l
  refine ⟨by omega, by omega, fun y hy => ?_⟩
  rcases List.mem_cons.mp (p.mem_iff.mp hy) with z | z
  · rw [z]; exact hc
  · exact hb.2 y z
section
variable {P : Program} {w : World} {K : PySem.W.Frag} {mg : Str → Option Value} {base : Heap} {CP CT : Addr}
abbrev N_law_names : List Str := ["_law_box_here", "_law_many", "_law_letters", "_law_stem", "_law_first", "_law_step", "_law_way", "_law_found", "_law_k", "_law_sign"]
theorem sc_law_names : FnScope N_law_names ["_law_box_here", "_law_many"] (defScope s_law_names) := ⟨rfl, rfl, rfl, by decide +kernel, rfl, by decide +kernel, by decide +kernel⟩
def sp_names : Sp := fun vs H Q _ => ∃ (b : Addr) (m n : Nat), vs = [.ref b, .int (m : Int)] ∧ m ≤ 4 ∧ BoxAt H b n ∧ n < 10000 ∧ ∀ l H' (xs : List Str), But b H H' → BoxAt H' b (n + 4) → H' l = some (.lst (xs.map V.str)) → xs.length = m → xs.Nodup → (∀ x ∈ xs, NameOk x) → Q (.ref l) H'
theorem k_law_names (W : Ws K mg CP CT) (D : Def K mg "_law_names" s_law_names) (c_law_take : Cal P w K mg base 1 "_law_take" ["_law_box_here", "_law_many"] sp_take) : Cal P w K mg base 2 "_law_names" ["_law_box_here", "_law_many"] sp_names := by
  refine D.cal sc_law_names (fun _ _ _ _ _ _ us hl => match us, hl with | [_, _], _ => rfl) (fun vs H Q E h => ?_) fun f cdv A outer s H vs Q E hr h => ⟨_, (pss_cons (ps_set (i := 2) sc_law_names.nd rfl (by first | exact Or.inl rfl | exact Or.inr rfl) pe_str)
      (pss_cons (ps_set (i := 3) sc_law_names.nd rfl (by first | exact Or.inl rfl | exact Or.inr rfl) (pe_ix (ix_listK (K := K)) (pe_lst (pa_cons pe_str (pa_cons pe_str (pa_cons pe_str (pa_cons pe_str (pa_cons pe_str (pa_cons pe_str pa_nil))))))) (pe_cal c_law_take hr rfl (pa_cons (pv 0) (pa_cons pe_int pa_nil))) (fun _ _ => rfl)))
      (pss_cons (ps_par3 (i := 4) (j := 5) (l := 6) (by rfl) sc_law_names.nd rfl rfl rfl (by decide) (by decide) (by decide) rfl rfl rfl (pa_cons (pe_cal c_law_take hr rfl (pa_cons (pv 0) (pa_cons pe_int pa_nil))) (pa_cons (pe_ix (ix_listK (K := K)) (pe_lst (pa_cons pe_int (pa_cons pe_int (pa_cons pe_int (pa_cons pe_int (pa_cons pe_int (pa_cons pe_int pa_nil))))))) (pe_cal c_law_take hr rfl (pa_cons (pv 0) (pa_cons pe_int pa_nil))) (fun _ _ => rfl)) (pa_cons (pe_cal c_law_take hr rfl (pa_cons (pv 0) (pa_cons pe_int pa_nil))) pa_nil))) (by rfl))
      (pss_cons (ps_set (i := 7) sc_law_names.nd rfl (by first | exact Or.inl rfl | exact Or.inr rfl) (pe_lst pa_nil))
      (pss_cons (ps_for PassesOwn.never rfl (pi_range1 (by rfl) W.f_range (pa_cons (pv 1) pa_nil)) (pg_name (i := 8) sc_law_names.nd rfl (by first | exact Or.inl rfl | exact Or.inr rfl)) (pss_cons (ps_set (i := 9) sc_law_names.nd rfl (by first | exact Or.inl rfl | exact Or.inr rfl) (pe_ix ix_str (pv 2) (pe_op op_mod (pe_op op_add (pv 4) (pe_op op_mul (pv 5) (pv 8))) pe_int) (fun _ _ => rfl)))
      (pss_one (ps_expr (pe_bm PySem.F.plainAttrs_list PySem.F.slot_list_append PySem.F.type_list_append mt_append (pv 7) (pa_cons (pe_ix (ix_listK (K := K)) (pe_lst (pa_cons (pe_op op_add_str (pv 3) (pv 9)) (pa_cons (pe_op op_add_str (pv 9) (pv 3)) (pa_cons (pv 9) pa_nil)))) (pe_ifExp (pt_cmpR op_gt (pv 8) pe_int (nomark _)) (pv 6) pe_int) (fun _ _ => rfl)) pa_nil))))))
      (pss_one (ps_ret (pv 7)))))))), ?_⟩
  · obtain ⟨b, m, n, rfl, _⟩ := h; rfl
  obtain ⟨b, m, n, rfl, hm, hb, hn, q⟩ := h
  refine ⟨by show 6 ≤ sizeLine; decide, fun l0 hl0 => ?_⟩
  have n0 := fresh_ne hb hl0
  refine ⟨_, rfl, b, 6, n, rfl, by decide, by decide, hb.upd n0, by omega, fun H1 d bt1 bx1 d0 dlt => ?_⟩
  have g1 := bt1 _ _ n0 upd_same
  have bt1' : But b H H1 := ((But.refl b H).new n0 hl0).trans bt1
  have stem : ∃ st : Str, atI [V.str "", .str "a", .str "tie", .str "load", .str "limit", .str "zzzzzzz"] d = some (.str st) ∧ StemOk st := by
    have c6 : d = 0 ∨ d = 1 ∨ d = 2 ∨ d = 3 ∨ d = 4 ∨ d = 5 := by omega
    rcases c6 with rfl | rfl | rfl | rfl | rfl | rfl
    · exact ⟨"", rfl, by unfold StemOk; decide +kernel⟩
    · exact ⟨"a", rfl, by unfold StemOk; decide +kernel⟩
    · exact ⟨"tie", rfl, by unfold StemOk; decide +kernel⟩
    · exact ⟨"load", rfl, by unfold StemOk; decide +kernel⟩
    · exact ⟨"limit", rfl, by unfold StemOk; decide +kernel⟩
    · exact ⟨"zzzzzzz", rfl, by unfold StemOk; decide +kernel⟩
  obtain ⟨st, hst, hok⟩ := stem
  refine ⟨l0, _, d, .str st, rfl, rfl, sq g1, hst, ?_⟩
  refine ⟨_, rfl, b, 26, n + 1, rfl, by decide, by decide, bx1, by omega, fun H2 first bt2 bx2 f0 flt => ?_⟩
  refine ⟨by show 6 ≤ sizeLine; decide, fun l2 hl2 => ?_⟩
  have n2 := fresh_ne bx2 hl2
  refine ⟨_, rfl, b, 6, n + 2, rfl, by decide, by decide, bx2.upd n2, by omega, fun H3 d3 bt3 bx3 d30 d3lt => ?_⟩
  have g3 := bt3 _ _ n2 upd_same
  have bt3' : But b H H3 := ((bt1'.trans bt2).new n2 hl2).trans bt3
  have stp : ∃ step : Int, atI [V.int 1, .int 3, .int 5, .int 7, .int 9, .int 11] d3 = some (.int step) ∧ (step = 1 ∨ step = 3 ∨ step = 5 ∨ step = 7 ∨ step = 9 ∨ step = 11) := by
    have c6 : d3 = 0 ∨ d3 = 1 ∨ d3 = 2 ∨ d3 = 3 ∨ d3 = 4 ∨ d3 = 5 := by omega
    rcases c6 with rfl | rfl | rfl | rfl | rfl | rfl
    · exact ⟨1, rfl, by decide⟩
    · exact ⟨3, rfl, by decide⟩
    · exact ⟨5, rfl, by decide⟩
    · exact ⟨7, rfl, by decide⟩
    · exact ⟨9, rfl, by decide⟩
    · exact ⟨11, rfl, by decide⟩
  obtain ⟨step, hstep, hsv⟩ := stp
  refine ⟨l2, _, d3, .int step, rfl, rfl, sq g3, hstep, ?_⟩
  refine ⟨_, rfl, b, 3, n + 3, rfl, by decide, by decide, bx3, by omega, fun H4 way bt4 bx4 w0 wlt => ⟨_, _, _, rfl, ?_⟩⟩
  have bt4' := bt3'.trans bt4
  refine ⟨Nat.zero_le _, fun F hF => ?_⟩
  have nF := fresh_ne bx4 hF
  have hF0 : H F = none := bt4'.free nF hF
  refine ⟨_, rfl, _, rfl, by omega, by omega, for_it wk_rng (fun i σ H' => But b H H' ∧ BoxAt H' b (n + 4) ∧ (∃ xs : List Str, H' F = some (.lst (xs.map V.str)) ∧ xs.length = i ∧ ∀ j x, xs[j]? = some x → Made st (sgOf first step j) x) ∧ ∃ u8 u9, σ = [some (.ref b), some (.int m), some (.str abc), some (.str st), some (.int first), some (.int step), some (.int way), some (.ref F), u8, u9])
    ⟨bt4'.mut hF0, bx4.upd nF, ⟨[], upd_same, rfl, fun j x h => by simp at h⟩, _, _, rfl⟩ (fun _ _ _ _ _ => trivial) (fun i v σ H5 H6 hi p y => ?_) fun σ H5 p5 => ?_⟩
  · obtain ⟨bt, bx, ⟨xs, g, hl, hmade⟩, u8, u9, rfl⟩ := p
    obtain ⟨rfl, rfl⟩ := y
    have hi4 : i < 4 := by omega
    have i0 : (0 : Int) + (i : Int) = (i : Int) := Int.zero_add _
    rw [i0]
    have t0 : 0 ≤ (first + step * (i : Int)) % 26 := Int.emod_nonneg _ (by decide)
    have t1 : (first + step * (i : Int)) % 26 < 26 := Int.emod_lt_of_pos _ (by decide)
    have sl : -(2 ^ 64) < step ∧ step < 2 ^ 64 := by omega
    have sign : atI abc.cps.toList ((first + step * (i : Int)) % 26) = some (sgOf first step i) := by
      have e : (first + step * (i : Int)) % 26 = (((first + step * (i : Int)) % 26).toNat : Int) := (Int.toNat_of_nonneg t0).symm
      rw [e]
      exact atI_nat (abc_at _ (by omega))
    have cin : sgOf first step i ∈ abc.cps.toList := abc_in (by omega)
    refine ⟨_, rfl, _, rfl, _, rfl, _, rfl, _, _, rfl, rfl, .inl sl, _, _, rfl, rfl, _, _, rfl, rfl, by show (0 : Int) < 26; decide, abc, _, _, rfl, rfl, by decide +kernel, sign, ?_⟩
    have stl : st.length ≤ 7 := hok.1
    have sgl : (⟨#[sgOf first step i]⟩ : Str).length = 1 := rfl
    refine ⟨_, rfl, .inl ⟨rfl, _, sq g⟩, _, rfl, _, rfl, _, _, rfl, rfl, by rw [sgl]; exact sz_le (by omega), _, rfl, _, rfl, _, _, rfl, rfl, by rw [sgl]; exact sz_le (by omega), _, rfl, by show 3 ≤ sizeLine; decide, fun l6 hl6 => ?_⟩
    have n6 := fresh_ne bx hl6
    have g6 : (upd H6 l6 (.lst [.str (st ++ ⟨#[sgOf first step i]⟩), .str (⟨#[sgOf first step i]⟩ ++ st), .str ⟨#[sgOf first step i]⟩])) F = some (.lst (xs.map V.str)) := same_new hl6 _ _ g
    have m1 : Made st (sgOf first step i) (st ++ ⟨#[sgOf first step i]⟩) := ⟨_, .inl rfl, by rw [app_cps]; exact List.perm_append_comm⟩
    have m2 : Made st (sgOf first step i) (⟨#[sgOf first step i]⟩ ++ st) := ⟨_, .inl rfl, by rw [app_cps]; exact .refl _⟩
    have m3 : Made st (sgOf first step i) ⟨#[sgOf first step i]⟩ := ⟨[], .inr rfl, .refl _⟩
    have fin : ∀ x : Str, Made st (sgOf first step i) x → But b H (upd (upd H6 l6 (.lst [.str (st ++ ⟨#[sgOf first step i]⟩), .str (⟨#[sgOf first step i]⟩ ++ st), .str ⟨#[sgOf first step i]⟩])) F (.lst (xs.map V.str ++ [.str x]))) ∧
        BoxAt (upd (upd H6 l6 (.lst [.str (st ++ ⟨#[sgOf first step i]⟩), .str (⟨#[sgOf first step i]⟩ ++ st), .str ⟨#[sgOf first step i]⟩])) F (.lst (xs.map V.str ++ [.str x]))) b (n + 4) ∧ (∃ ys : List Str, (upd (upd H6 l6 (.lst [.str (st ++ ⟨#[sgOf first step i]⟩), .str (⟨#[sgOf first step i]⟩ ++ st), .str ⟨#[sgOf first step i]⟩])) F (.lst (xs.map V.str ++ [.str x]))) F = some (.lst (ys.map V.str)) ∧ ys.length = i + 1 ∧
          ∀ j y, ys[j]? = some y → Made st (sgOf first step j) y) := fun x hx => by
      refine ⟨(bt.new n6 hl6).mut hF0, (bx.upd n6).upd nF, xs ++ [x], by rw [upd_same, List.map_append]; rfl, by rw [List.length_append, hl]; rfl, fun j y hy => ?_⟩
      by_cases hj : j < xs.length
      · rw [List.getElem?_append_left hj] at hy
        exact hmade j y hy
      · have hj2 : j = xs.length := by
          have := (List.getElem?_eq_some_iff.mp hy).1
          rw [List.length_append] at this
          simp at this
          omega
        rw [hj2, List.getElem?_append_right (Nat.le_refl _), Nat.sub_self] at hy
        cases hy
        rw [hj2, hl]
        exact hx
    have xsz : (xs.map V.str).length < sizeLine := by rw [List.length_map]; exact sz_lt (by omega)
    refine ⟨_, rfl, _, _, rfl, rfl, decide ((0 : Int) < (i : Int)), rfl, ?_⟩
    by_cases hi0 : (0 : Int) < (i : Int)
    · rw [decide_eq_true hi0]
      have c3 : way = 0 ∨ way = 1 ∨ way = 2 := by omega
      rcases c3 with rfl | rfl | rfl
      · obtain ⟨a1, a2, a3⟩ := fin _ m1
        exact ⟨_, rfl, l6, _, 0, _, rfl, rfl, sq upd_same, rfl, F, _, _, rfl, rfl, g6, xsz, a1, a2, a3, _, _, rfl⟩
      · obtain ⟨a1, a2, a3⟩ := fin _ m2
        exact ⟨_, rfl, l6, _, 1, _, rfl, rfl, sq upd_same, rfl, F, _, _, rfl, rfl, g6, xsz, a1, a2, a3, _, _, rfl⟩
      · obtain ⟨a1, a2, a3⟩ := fin _ m3
        exact ⟨_, rfl, l6, _, 2, _, rfl, rfl, sq upd_same, rfl, F, _, _, rfl, rfl, g6, xsz, a1, a2, a3, _, _, rfl⟩
    · rw [decide_eq_false hi0]
      obtain ⟨a1, a2, a3⟩ := fin _ m1
      exact ⟨l6, _, 0, _, rfl, rfl, sq upd_same, rfl, F, _, _, rfl, rfl, g6, xsz, a1, a2, a3, _, _, rfl⟩
  · obtain ⟨bt, bx, ⟨xs, g, hl, hmade⟩, u8, u9, rfl⟩ := p5
    have hl : xs.length = m := by omega
    refine ⟨_, rfl, q F H5 xs bt bx g hl ?_ fun x hx => ?_⟩
    · refine List.pairwise_iff_getElem.mpr fun i j hi hj hij e => ?_
      have a1 := hmade i _ (List.getElem?_eq_getElem hi)
      have a2 := hmade j _ (List.getElem?_eq_getElem hj)
      rw [e] at a1
      have a3 := made_ne a1 a2
      unfold sgOf at a3
      have b1 : 0 ≤ (first + step * (i : Int)) % 26 := Int.emod_nonneg _ (by decide)
      have b2 : 0 ≤ (first + step * (j : Int)) % 26 := Int.emod_nonneg _ (by decide)
      have a4 : (first + step * (i : Int)) % 26 = (first + step * (j : Int)) % 26 := by omega
      have hj4 : j < 4 := by omega
      have ci : i = 0 ∨ i = 1 ∨ i = 2 := by omega
      have cj : j = 1 ∨ j = 2 ∨ j = 3 := by omega
      rcases hsv with rfl | rfl | rfl | rfl | rfl | rfl <;> rcases ci with rfl | rfl | rfl <;> rcases cj with rfl | rfl | rfl <;> omega
    · obtain ⟨j, hj⟩ := List.getElem?_of_mem hx
      refine made_ok hok (abc_in ?_) (hmade j x hj)
      have b1 : 0 ≤ (first + step * (j : Int)) % 26 := Int.emod_nonneg _ (by decide)
      have b2 : (first + step * (j : Int)) % 26 < 26 := Int.emod_lt_of_pos _ (by decide)
      omega
end
end Pk
end
section
set_option maxHeartbeats 1000000
namespace Pk
open PySem PySem.Spec PyProof.Rows L2
/-- the first place of x -/
def rk : List Str → Str → Nat
  | [], _ => 0
  | y :: ys, x => if y = x then 0 else rk ys x + 1
theorem rk_at : ∀ {ys : List Str} {x : Str}, x ∈ ys → ys[rk ys x]? = some x ∧ ∀ m, m < rk ys x → ∀ z, ys[m]? = some z → z ≠ x
  | [], _, h => by cases h
  | y :: ys, x, h => by
    unfold rk
    by_cases e : y = x
    · rw [if_pos e, e]
      exact ⟨rfl, fun m hm => absurd hm (Nat.not_lt_zero _)⟩
    · rw [if_neg e]
      have h' : x ∈ ys := (List.mem_cons.mp h).elim (fun z => absurd z.symm e) id
      obtain ⟨h1, h2⟩ := rk_at h'
      refine ⟨h1, fun m hm z hz => ?_⟩
      cases m with
      | zero =>
        have : y = z := Option.some.inj hz
        exact fun q => e (this.trans q)
      | succ m => exact h2 m (by omega) z hz
theorem atI_pos {α : Type} {xs : List α} {d : Int} {v : α} (h : 0 ≤ d) (e : xs[d.toNat]? = some v) : atI xs d = some v := by
  have ed : (d.toNat : Int) = d := Int.toNat_of_nonneg h
  rw [← ed]
  exact atI_nat e
/-- a model's lists -/
def ModAt (H : Hp) (M : Addr) (D : PD) : Prop := ∃ a t l, H M = some (.lst [.ref a, .ref t, .ref l]) ∧ H a = some (.lst (D.ev.map V.str)) ∧ TiesAt H t D.ties ∧ LimAt H l D.ls
theorem ModAt.same {H H' : Hp} {M : Addr} {D : PD} (h : ModAt H M D) (s : Same H H') : ModAt H' M D := let ⟨a, t, l, h1, h2, h3, h4⟩ := h; ⟨a, t, l, s _ _ h1, s _ _ h2, h3.same s, s _ _ h4⟩
/-- what stands but for the box -/
theorem box_not {H : Hp} {b p : Addr} {n : Nat} {o : HO} (h : BoxAt H b n) (e : H p = some o) (ne : ∀ x y z : Int, o ≠ .lst [.int x, .int y, .int z]) : p ≠ b := fun q => by
  obtain ⟨x, y, z, h1, _⟩ := h
  rw [q, h1] at e
  exact ne x y z (Option.some.inj e).symm
theorem TiesAt.but {H H' : Hp} {a b : Addr} {n : Nat} {ts : List Tie} (h : TiesAt H a ts) (bx : BoxAt H b n) (bt : But b H H') : TiesAt H' a ts := by
  obtain ⟨as, h1, h2⟩ := h
  refine ⟨as, bt _ _ (box_not bx h1 fun x y z e => ?_) h1, Paired.mapP h2 fun u t z => bt _ _ (box_not bx z (by intro x y w e; cases e)) z⟩
  cases as with
  | nil => cases e
  | cons u as => cases e
theorem ModAt.but {H H' : Hp} {M b : Addr} {n : Nat} {D : PD} (h : ModAt H M D) (bx : BoxAt H b n) (bt : But b H H') : ModAt H' M D := by
  obtain ⟨a, t, l, h1, h2, h3, h4⟩ := h
  exact ⟨a, t, l, bt _ _ (box_not bx h1 (by intro x y z e; cases e)) h1, bt _ _ (bx.ne h2) h2, h3.but bx bt, bt _ _ (box_not bx h4 (by intro x y z e; cases e)) h4⟩
section
variable {P : Program} {w : World} {K : PySem.W.Frag} {mg : Str → Option Value} {base : Heap} {CP CT : Addr}
abbrev N_law_model : List Str := ["_law_box_here", "_law_many", "_law_most", "_law_marks", "_law_order", "_law_cords", "_law_caps", "_law_k", "_law_one", "_law_other", "_law_lag_here", "_law_event"]
theorem sc_law_model : FnScope N_law_model ["_law_box_here", "_law_many", "_law_most"] (defScope s_law_model) := ⟨rfl, rfl, rfl, by decide +kernel, rfl, by decide +kernel, by decide +kernel⟩
def sp_model : Sp := fun vs H Q _ => ∃ (b : Addr) (m s n : Nat), vs = [.ref b, .int (m : Int), .int (s : Int)] ∧ 1 ≤ m ∧ m ≤ 4 ∧ s ≤ 8 ∧ BoxAt H b n ∧ n < 5000 ∧ ∀ M H' D, But b H H' → BoxAt H' b (n + 100) → ModAt H' M D → PdOk D → D.ev.length = m → D.ties.length ≤ s → Q (.ref M) H'
theorem k_law_model (W : Ws K mg CP CT) (D : Def K mg "_law_model" s_law_model) (c_law_take : Cal P w K mg base 1 "_law_take" ["_law_box_here", "_law_many"] sp_take) (c_law_names : Cal P w K mg base 2 "_law_names" ["_law_box_here", "_law_many"] sp_names)
    (c_law_mixed : Cal P w K mg base 2 "_law_mixed" ["_law_box_here", "_law_some"] sp_mixed) (c_law_lag : Cal P w K mg base 2 "_law_lag" ["_law_box_here"] sp_lag) : Cal P w K mg base 3 "_law_model" ["_law_box_here", "_law_many", "_law_most"] sp_model := by
  refine D.cal sc_law_model (fun _ _ _ _ _ _ us hl => match us, hl with | [_, _, _], _ => rfl) (fun vs H Q E h => ?_) fun f cdv A outer s H vs Q E hr h => ⟨_, (pss_cons (ps_set (i := 3) sc_law_model.nd rfl (by first | exact Or.inl rfl | exact Or.inr rfl) (pe_cal c_law_names hr rfl (pa_cons (pv 0) (pa_cons (pv 1) pa_nil))))
      (pss_cons (ps_par3 (i := 4) (j := 5) (l := 6) (by rfl) sc_law_model.nd rfl rfl rfl (by decide) (by decide) (by decide) rfl rfl rfl (pa_cons (pe_cal c_law_mixed hr rfl (pa_cons (pv 0) (pa_cons (pv 3) pa_nil))) (pa_cons (pe_lst pa_nil) (pa_cons pe_dnewK pa_nil))) (by rfl))
      (pss_cons (ps_for PassesOwn.never rfl (pi_range1 (by rfl) W.f_range (pa_cons (pe_cal c_law_take hr rfl (pa_cons (pv 0) (pa_cons (pe_op op_add (pv 2) pe_int) pa_nil))) pa_nil)) (pg_name (i := 7) sc_law_model.nd rfl (by first | exact Or.inl rfl | exact Or.inr rfl)) (pss_cons (ps_par (i := 8) (j := 9) (by rfl) sc_law_model.nd rfl rfl (by decide) rfl rfl (pa_cons (pe_ix (ix_listK (K := K)) (pv 3) (pe_cal c_law_take hr rfl (pa_cons (pv 0) (pa_cons (pv 1) pa_nil))) (fun _ _ => rfl)) (pa_cons (pe_ix (ix_listK (K := K)) (pv 3) (pe_cal c_law_take hr rfl (pa_cons (pv 0) (pa_cons (pv 1) pa_nil))) (fun _ _ => rfl)) pa_nil)) (by rfl))
      (pss_cons (ps_set (i := 10) sc_law_model.nd rfl (by first | exact Or.inl rfl | exact Or.inr rfl) (pe_cal c_law_lag hr rfl (pa_cons (pv 0) pa_nil)))
      (pss_cons (ps_if (PW.pt (pw_and (pt_cmpR op_eq (pv 10) pe_int (nomark _)) (pw_and1 (pt_cmpR op_ge (pe_bm PySem.F.plainAttrs_list PySem.F.slot_list_index PySem.F.type_list_index mt_index (pv 4) (pa_cons (pv 8) pa_nil)) (pe_bm PySem.F.plainAttrs_list PySem.F.slot_list_index PySem.F.type_list_index mt_index (pv 4) (pa_cons (pv 9) pa_nil)) (nomark _))))) (pss_one (ps_set (i := 10) sc_law_model.nd rfl (by first | exact Or.inl rfl | exact Or.inr rfl) pe_int)) pss_nil)
      (pss_one (ps_expr (pe_bm PySem.F.plainAttrs_list PySem.F.slot_list_append PySem.F.type_list_append mt_append (pv 5) (pa_cons (pe_tup (pa_cons (pv 8) (pa_cons (pv 9) (pa_cons (pv 10) pa_nil)))) pa_nil))))))))
      (pss_cons (ps_for PassesOwn.never rfl (pi_listK (K := K) (pe_cal c_law_mixed hr rfl (pa_cons (pv 0) (pa_cons (pv 3) pa_nil)))) (pg_name (i := 11) sc_law_model.nd rfl (by first | exact Or.inl rfl | exact Or.inr rfl)) (pss_one (ps_if (pt_cmpR op_eq (pe_cal c_law_take hr rfl (pa_cons (pv 0) (pa_cons pe_int pa_nil))) pe_int (nomark _)) (pss_one (ps_dput (hu_of hr) (pv 6) (pv 11) (pe_ix (ix_listK (K := K)) (pe_lst (pa_cons pe_int (pa_cons pe_int (pa_cons pe_int (pa_cons pe_int (pa_cons pe_int (pa_cons (pe_op op_mul (pe_cal c_law_take hr rfl (pa_cons (pv 0) (pa_cons (pe_op op_pow pe_int pe_int) pa_nil))) (pe_op op_pow pe_int pe_int)) pa_nil))))))) (pe_cal c_law_take hr rfl (pa_cons (pv 0) (pa_cons pe_int pa_nil))) (fun _ _ => rfl)) rfl)) pss_nil)))
      (pss_one (ps_ret (pe_lst (pa_cons (pv 3) (pa_cons (pv 5) (pa_cons (pv 6) pa_nil)))))))))), ?_⟩
  · obtain ⟨b, m, s, n, rfl, _⟩ := h; rfl
  obtain ⟨b, m, s, n, rfl, m1, m4, s8, hb, hn, q⟩ := h
  refine ⟨_, rfl, _, rfl, b, m, n, rfl, m4, hb, by omega, fun a H1 xs bt1 bx1 ga lx nd nm => ?_⟩
  have na := bx1.ne ga
  refine ⟨_, rfl, _, rfl, b, a, n + 4, xs, rfl, bx1, by omega, ga, by omega, fun o H2 ys bt2 bx2 go perm => ⟨Nat.zero_le _, fun t ht => fun l hl => ⟨_, _, _, rfl, ?_⟩⟩⟩
  have no := bx2.ne go
  have nt := fresh_ne bx2 ht
  have nl := fresh_ne (bx2.upd nt) hl
  have ntl : t ≠ l := ne_of_none upd_same hl
  have bt2' := bt1.trans bt2
  have ht0 : H t = none := bt2'.free nt ht
  have hl2 : H2 l = none := by rw [upd_ne ntl.symm] at hl; exact hl
  have hl0 : H l = none := bt2'.free nl hl2
  have ga2 := bt2 _ _ na ga
  have nat : a ≠ t := ne_of_none ga2 ht
  have nal : a ≠ l := ne_of_none ga2 hl2
  have not_ : o ≠ t := ne_of_none go ht
  have nol : o ≠ l := ne_of_none go hl2
  have bt3 : But b H (upd (upd H2 t (.lst [])) l (.dK [])) := (bt2'.mut ht0).mut hl0
  have bx3 : BoxAt (upd (upd H2 t (.lst [])) l (.dK [])) b (n + 8) := ((bx2.upd nt).upd nl).mono (by omega)
  have a3 : (upd (upd H2 t (.lst [])) l (.dK [])) a = some (.lst (xs.map V.str)) := by rw [upd_ne nal, upd_ne nat]; exact ga2
  have o3 : (upd (upd H2 t (.lst [])) l (.dK [])) o = some (.lst (ys.map V.str)) := by rw [upd_ne nol, upd_ne not_]; exact go
  have t3 : (upd (upd H2 t (.lst [])) l (.dK [])) t = some (.lst []) := by rw [upd_ne ntl]; exact upd_same
  have l3 : (upd (upd H2 t (.lst [])) l (.dK [])) l = some (.dK []) := upd_same
  generalize upd (upd H2 t (.lst [])) l (.dK []) = H3 at bt3 bx3 a3 o3 t3 l3
  have xsl : (xs.map V.str).length = xs.length := List.length_map ..
  have memy : ∀ x, x ∈ ys ↔ x ∈ xs := fun x => perm.mem_iff
  -- ties
  refine ⟨_, rfl, _, rfl, _, _, rfl, rfl, b, _, n + 8, rfl, by omega, by omega, bx3, by omega, fun H4 d4 bt4 bx4 d40 d4lt => ⟨d4, rfl, by omega, by omega, ?_⟩⟩
  have e4 : (d4.toNat : Int) = d4 := Int.toNat_of_nonneg d40
  refine for_it wk_rng (fun i σ H' => But b H H' ∧ BoxAt H' b (n + 9 + 4 * i) ∧ H' a = some (.lst (xs.map V.str)) ∧ H' o = some (.lst (ys.map V.str)) ∧ H' l = some (.dK []) ∧ (∃ ts : List Tie, TiesAt H' t ts ∧ ts.length = i ∧ ∀ y ∈ ts, y.1 ∈ xs ∧ y.2.1 ∈ xs ∧ 0 ≤ y.2.2 ∧ (y.2.2 = 0 → rk ys y.1 < rk ys y.2.1)) ∧
      ∃ u7 u8 u9 u10 u11, σ = [some (.ref b), some (.int m), some (.int s), some (.ref a), some (.ref o), some (.ref t), some (.ref l), u7, u8, u9, u10, u11])
    ⟨bt3.trans bt4, bx4, bt4 _ _ na a3, bt4 _ _ no o3, bt4 _ _ nl l3, ⟨[], ⟨[], bt4 _ _ nt t3, .nil⟩, rfl, fun y hy => by cases hy⟩, _, _, _, _, _, rfl⟩ (fun _ _ _ _ _ => trivial) (fun i v σ H5 H6 hi p y => ?_) fun σ H5 p5 => ?_
  · obtain ⟨bt, bx, a5, o5, l5, ⟨ts, t5, tl, tp⟩, u7, u8, u9, u10, u11, rfl⟩ := p
    obtain ⟨rfl, rfl⟩ := y
    refine ⟨_, rfl, _, rfl, _, rfl, b, _, _, rfl, by omega, by omega, bx, by omega, fun H7 d7 bt7 bx7 d70 d7lt => ?_⟩
    have hd7 : d7.toNat < xs.length := by omega
    have ed7 : (d7.toNat : Int) = d7 := Int.toNat_of_nonneg d70
    have a7 := bt7 _ _ na a5
    refine ⟨a, _, d7, .str xs[d7.toNat], rfl, rfl, sq a7, atI_pos d70 (by rw [List.getElem?_map, List.getElem?_eq_getElem hd7]; rfl), _, rfl, _, rfl, _, rfl, b, _, _, rfl, by omega, by omega, bx7, by omega, fun H8 d8 bt8 bx8 d80 d8lt => ?_⟩
    have hd8 : d8.toNat < xs.length := by omega
    have ed8 : (d8.toNat : Int) = d8 := Int.toNat_of_nonneg d80
    have a8 := bt8 _ _ na a7
    refine ⟨a, _, d8, .str xs[d8.toNat], rfl, rfl, sq a8, atI_pos d80 (by rw [List.getElem?_map, List.getElem?_eq_getElem hd8]; rfl), _, _, rfl, ?_⟩
    have x1 : xs[d7.toNat] ∈ xs := List.getElem_mem hd7
    have x2 : xs[d8.toNat] ∈ xs := List.getElem_mem hd8
    generalize xs[d7.toNat] = one at x1 ⊢
    generalize xs[d8.toNat] = other at x2 ⊢
    refine ⟨_, rfl, b, _, rfl, bx8, by omega, fun H9 z bt9 bx9 z0 => ?_⟩
    have bt' := ((bt.trans bt7).trans bt8).trans bt9
    have a9 := bt9 _ _ na a8
    have o9 := bt9 _ _ no (bt8 _ _ no (bt7 _ _ no o5))
    have l9 := bt9 _ _ nl (bt8 _ _ nl (bt7 _ _ nl l5))
    have t9 := ((t5.but bx bt7).but bx7 bt8).but bx8 bt9
    -- the tie written
    have fin : ∀ z' : Int, 0 ≤ z' → (z' = 0 → rk ys one < rk ys other) → ∀ tp, H9 tp = none → ∃ es, (upd H9 tp (.tup [.str one, .str other, .int z'])) t = some (.lst es) ∧ es.length < sizeLine ∧
        But b H (upd (upd H9 tp (.tup [.str one, .str other, .int z'])) t (.lst (es ++ [.ref tp]))) ∧ BoxAt (upd (upd H9 tp (.tup [.str one, .str other, .int z'])) t (.lst (es ++ [.ref tp]))) b (n + 9 + 4 * (i + 1)) ∧ (upd (upd H9 tp (.tup [.str one, .str other, .int z'])) t (.lst (es ++ [.ref tp]))) a = some (.lst (xs.map V.str)) ∧
        (upd (upd H9 tp (.tup [.str one, .str other, .int z'])) t (.lst (es ++ [.ref tp]))) o = some (.lst (ys.map V.str)) ∧ (upd (upd H9 tp (.tup [.str one, .str other, .int z'])) t (.lst (es ++ [.ref tp]))) l = some (.dK []) ∧
        ∃ ts : List Tie, TiesAt (upd (upd H9 tp (.tup [.str one, .str other, .int z'])) t (.lst (es ++ [.ref tp]))) t ts ∧ ts.length = i + 1 ∧ ∀ y ∈ ts, y.1 ∈ xs ∧ y.2.1 ∈ xs ∧ 0 ≤ y.2.2 ∧ (y.2.2 = 0 → rk ys y.1 < rk ys y.2.1) := fun z' z0' zr tp0 htp => by
      obtain ⟨as, k1, k2⟩ := t9
      have la := Paired.length k2
      have ntp := fresh_ne bx9 htp
      have ntt : tp0 ≠ t := fun z => by rw [z, k1] at htp; cases htp
      refine ⟨as.map V.ref, same_new htp _ _ k1, by rw [List.length_map]; exact sz_lt (by omega), (bt'.new ntp htp).mut ht0, ((bx9.upd ntp).upd nt).mono (by omega), by rw [upd_ne nat]; exact same_new htp _ _ a9, by rw [upd_ne not_]; exact same_new htp _ _ o9, by rw [upd_ne ntl.symm]; exact same_new htp _ _ l9,
        ts ++ [(one, other, z')], ⟨as ++ [tp0], by rw [upd_same, List.map_append]; rfl, paired_app (Paired.mapP k2 fun u y zz => ?_) (.cons ?_ .nil)⟩, by rw [List.length_append, tl]; rfl, fun y hy => ?_⟩
      · rw [upd_ne (ne_of zz k1 (by intro e; cases e))]
        exact same_new htp _ _ zz
      · rw [upd_ne ntt]
        exact upd_same
      · rcases List.mem_append.mp hy with hy | hy
        · exact tp y hy
        · have e1 : y = (one, other, z') := by simpa using hy
          rw [e1]
          exact ⟨x1, x2, z0', zr⟩
    refine ⟨_, rfl, rfl, decide (z = 0), by rw [dec_int]; rfl, ?_⟩
    obtain ⟨as9, k9, _⟩ := id t9
    have write : ∀ (D : Ends) (z' : Int), 0 ≤ z' → (z' = 0 → rk ys one < rk ys other) → (∀ H', But b H H' → BoxAt H' b (n + 9 + 4 * (i + 1)) → H' a = some (.lst (xs.map V.str)) → H' o = some (.lst (ys.map V.str)) → H' l = some (.dK []) →
        (∃ ts : List Tie, TiesAt H' t ts ∧ ts.length = i + 1 ∧ ∀ y ∈ ts, y.1 ∈ xs ∧ y.2.1 ∈ xs ∧ 0 ≤ y.2.2 ∧ (y.2.2 = 0 → rk ys y.1 < rk ys y.2.1)) → D.nx [some (.ref b), some (.int m), some (.int s), some (.ref a), some (.ref o), some (.ref t), some (.ref l), some (.int (0 + (i : Int))), some (.str one), some (.str other), some (.int z'), u11] H') →
        tDrop (tBM K "list" rAppend (tVar 5) (tCons (tTup (tCons (tVar 8) (tCons (tVar 9) (tCons (tVar 10) tNil)))) tNil)) D [some (.ref b), some (.int m), some (.int s), some (.ref a), some (.ref o), some (.ref t), some (.ref l), some (.int (0 + (i : Int))), some (.str one), some (.str other), some (.int z'), u11] H9 := fun D z' h1 h2 k => by
      refine ⟨_, rfl, .inl ⟨rfl, _, sq k9⟩, _, rfl, _, rfl, _, rfl, by show 3 ≤ sizeLine; decide, fun tp0 htp => ?_⟩
      obtain ⟨es, w1, w2, w3, w4, w5, w6, w7, w8⟩ := fin z' h1 h2 tp0 htp
      exact ⟨t, es, _, rfl, rfl, w1, w2, k _ w3 w4 w5 w6 w7 w8⟩
    by_cases hz : z = 0
    · rw [decide_eq_true hz]
      obtain ⟨r1, r2⟩ := rk_at ((memy one).mpr x1)
      obtain ⟨r3, r4⟩ := rk_at ((memy other).mpr x2)
      have ev1 : ∀ x y : Str, eqV (.str x) (.str y) = decide (x = y) := fun x y => by
        show (x == y) = _
        rfl
      refine ⟨_, rfl, .inl ⟨rfl, _, sq o9⟩, _, rfl, o, _, .str one, rk ys one, .str one, rfl, rfl, sq o9, rfl, flat_strs _, by rw [List.getElem?_map, r1]; rfl, by rw [ev1]; simp, fun m' z' hm' hz' => ?_, ?_⟩
      · obtain ⟨y, hy, rfl⟩ := map_at hz'
        rw [ev1]
        exact decide_eq_false (r2 m' hm' y hy)
      refine ⟨_, rfl, .inl ⟨rfl, _, sq o9⟩, _, rfl, o, _, .str other, rk ys other, .str other, rfl, rfl, sq o9, rfl, flat_strs _, by rw [List.getElem?_map, r3]; rfl, by rw [ev1]; simp, fun m' z' hm' hz' => ?_, ?_⟩
      · obtain ⟨y, hy, rfl⟩ := map_at hz'
        rw [ev1]
        exact decide_eq_false (r4 m' hm' y hy)
      refine ⟨_, _, rfl, rfl, decide (((rk ys other : Nat) : Int) ≤ ((rk ys one : Nat) : Int)), rfl, ?_⟩
      by_cases hle : ((rk ys other : Nat) : Int) ≤ ((rk ys one : Nat) : Int)
      · rw [decide_eq_true hle]
        exact write _ 1 (by decide) (by intro h; cases h) fun H' a1 a2 a3 a4 a5 a6 => ⟨a1, a2, a3, a4, a5, a6, _, _, _, _, _, rfl⟩
      · rw [decide_eq_false hle]
        exact write _ z z0 (fun _ => by omega) fun H' a1 a2 a3 a4 a5 a6 => ⟨a1, a2, a3, a4, a5, a6, _, _, _, _, _, rfl⟩
    · rw [decide_eq_false hz]
      exact write _ z z0 (fun h => absurd h hz) fun H' a1 a2 a3 a4 a5 a6 => ⟨a1, a2, a3, a4, a5, a6, _, _, _, _, _, rfl⟩
  obtain ⟨bt, bx, a5, o5, l5, ⟨ts, t5, tl, tp⟩, u7, u8, u9, u10, u11, rfl⟩ := p5
  have tl8 : ts.length ≤ s := by omega
  -- limits
  refine ⟨_, rfl, _, rfl, b, a, _, xs, rfl, bx, by omega, a5, by omega, fun zl H6 zs bt6 bx6 gz zperm => ⟨zl, rfl, ⟨_, sq gz⟩, ?_⟩⟩
  have nz := bx6.ne gz
  have zmem : ∀ x, x ∈ zs ↔ x ∈ xs := fun x => zperm.mem_iff
  have zlen := zperm.length_eq
  have znd : zs.Nodup := zperm.nodup_iff.mpr nd
  have l6 := bt6 _ _ nl l5
  have nzl : zl ≠ l := ne_of gz l6 (by intro e; cases e)
  refine for_it wk_list (fun i σ H' => But b H H' ∧ BoxAt H' b (n + 50 + 3 * i) ∧ H' a = some (.lst (xs.map V.str)) ∧ TiesAt H' t ts ∧ H' zl = some (.lst (zs.map V.str)) ∧ (∃ ls : List (Str × Int), LimAt H' l ls ∧ (ls.map (·.1)).Nodup ∧ (∀ y ∈ ls, y.1 ∈ xs ∧ 0 ≤ y.2) ∧ ls.length ≤ i) ∧
      ∃ u7 u8 u9 u10 u11, σ = [some (.ref b), some (.int m), some (.int s), some (.ref a), some (.ref o), some (.ref t), some (.ref l), u7, u8, u9, u10, u11])
    ⟨bt.trans bt6, bx6.mono (by omega), bt6 _ _ na a5, t5.but bx bt6, gz, ⟨[], l6, List.nodup_nil, (fun y hy => by cases hy), Nat.le_refl _⟩, _, _, _, _, _, rfl⟩ (fun i σ H' _ p => sq p.2.2.2.2.1) (fun i v σ H7 H8 hi p y => ?_) fun σ H7 p7 => ?_
  · obtain ⟨bt, bx, a7, t7, z7, ⟨ls, l7, lnd, lin, lle⟩, u7, u8, u9, u10, u11, rfl⟩ := p
    obtain ⟨rfl, hx⟩ := y
    obtain ⟨x, hx', rfl⟩ := map_at hx
    have hxm : x ∈ xs := (zmem x).mp (List.mem_of_getElem? hx')
    have hi4 : i < 4 := by have := (List.getElem?_eq_some_iff.mp hx').1; omega
    refine ⟨_, rfl, b, 4, _, rfl, by decide, by decide, bx, by omega, fun H9 d9 bt9 bx9 d90 d9lt => ⟨rfl, decide (d9 = 0), by rw [dec_int]; rfl, ?_⟩⟩
    have a9 := bt9 _ _ na a7
    have t9 := t7.but bx bt9
    have z9 := bt9 _ _ nz z7
    have l9 : LimAt H9 l ls := bt9 _ _ nl l7
    by_cases hd : d9 = 0
    · rw [decide_eq_true hd]
      refine ⟨_, rfl, _, _, rfl, rfl, ⟨by decide, by decide, by decide⟩, b, _, _, rfl, by decide, by decide, bx9, by omega, fun H10 d10 bt10 bx10 d100 d10lt => ?_⟩
      have e12 : (10 : Int) ^ (12 : Int).toNat = 1000000000000 := by decide
      rw [e12] at d10lt
      refine ⟨_, _, rfl, rfl, ⟨by decide, by decide, by decide⟩, _, _, rfl, rfl, .inl ⟨by omega, by omega⟩, by show 6 ≤ sizeLine; decide, fun lv hlv => ?_⟩
      have nlv := fresh_ne bx10 hlv
      refine ⟨_, rfl, b, 6, _, rfl, by decide, by decide, bx10.upd nlv, by omega, fun H11 d11 bt11 bx11 d110 d11lt => ?_⟩
      have g11 := bt11 _ _ nlv upd_same
      have btn : But b H10 H11 := ((But.refl b H10).new nlv hlv).trans bt11
      have bts := bt10.trans btn
      have e15 : (10 : Int) ^ (15 : Int).toNat = 1000000000000000 := by decide
      rw [e15] at g11
      have pos : 0 ≤ d10 * 1000000000000000 := Int.mul_nonneg d100 (by decide)
      have a11 := bts _ _ na a9
      have z11 := bts _ _ nz z9
      have l11 : LimAt H11 l ls := bts _ _ nl l9
      have t11 : TiesAt H11 t ts := by
        have h1 := t9.but bx9 bt10
        exact h1.but bx10 btn
      have bt11' := (bt.trans bt9).trans bts
      have fin : ∀ val : Int, 0 ≤ val → But b H (upd H11 l (.dK (kv V.int (pt ls x val)))) ∧ BoxAt (upd H11 l (.dK (kv V.int (pt ls x val)))) b (n + 50 + 3 * (i + 1)) ∧ (upd H11 l (.dK (kv V.int (pt ls x val)))) a = some (.lst (xs.map V.str)) ∧ TiesAt (upd H11 l (.dK (kv V.int (pt ls x val)))) t ts ∧ (upd H11 l (.dK (kv V.int (pt ls x val)))) zl = some (.lst (zs.map V.str)) ∧
          ∃ ls2 : List (Str × Int), LimAt (upd H11 l (.dK (kv V.int (pt ls x val)))) l ls2 ∧ (ls2.map (·.1)).Nodup ∧ (∀ y ∈ ls2, y.1 ∈ xs ∧ 0 ≤ y.2) ∧ ls2.length ≤ i + 1 := fun val v0 => by
        refine ⟨bt11'.mut hl0, (bx11.upd nl).mono (by omega), by rw [upd_ne nal]; exact a11, ?_, by rw [upd_ne nzl]; exact z11, pt ls x val, upd_same, pt_nodup lnd, fun y hy => ?_, ?_⟩
        · obtain ⟨as, k1, k2⟩ := t11
          exact ⟨as, by rw [upd_ne ntl]; exact k1, Paired.mapP k2 fun u y zz => by rw [upd_ne (ne_of zz l11 (by intro e; cases e))]; exact zz⟩
        · have hk := lk_of (pt_nodup (x := x) (v := val) lnd) (x := y.1) (v := y.2) hy
          rw [lk_pt] at hk
          by_cases e1 : y.1 = x
          · rw [if_pos e1] at hk
            have : val = y.2 := Option.some.inj hk
            rw [e1, ← this]
            exact ⟨hxm, v0⟩
          · rw [if_neg e1] at hk
            exact lin _ (lk_mem hk)
        · have := congrArg List.length (pt_keys ls x val)
          rw [List.length_map] at this
          rw [this]
          split
          · rw [List.length_map]; omega
          · rw [List.length_append, List.length_map]
            show _ + 1 ≤ _
            omega
      have put : ∀ val : Int, DPut H11 l (.str x) (.int val) (upd H11 l (.dK (kv V.int (pt ls x val)))) := fun val => .inl ⟨_, Sum.inr x, l11, rfl, by rw [kv_len]; exact sz_lt (by omega), by rw [← kv_put]⟩
      have c6 : d11 = 0 ∨ d11 = 1 ∨ d11 = 2 ∨ d11 = 3 ∨ d11 = 4 ∨ d11 = 5 := by omega
      rcases c6 with rfl | rfl | rfl | rfl | rfl | rfl
      · obtain ⟨f1, f2, f3, f4, f5, f6⟩ := fin 0 (by first | exact pos | decide)
        exact ⟨lv, _, _, _, rfl, rfl, sq g11, rfl, _, rfl, _, rfl, l, _, rfl, put _, f1, f2, f3, f4, f5, f6, _, _, _, _, _, rfl⟩
      · obtain ⟨f1, f2, f3, f4, f5, f6⟩ := fin 1 (by first | exact pos | decide)
        exact ⟨lv, _, _, _, rfl, rfl, sq g11, rfl, _, rfl, _, rfl, l, _, rfl, put _, f1, f2, f3, f4, f5, f6, _, _, _, _, _, rfl⟩
      · obtain ⟨f1, f2, f3, f4, f5, f6⟩ := fin 2 (by first | exact pos | decide)
        exact ⟨lv, _, _, _, rfl, rfl, sq g11, rfl, _, rfl, _, rfl, l, _, rfl, put _, f1, f2, f3, f4, f5, f6, _, _, _, _, _, rfl⟩
      · obtain ⟨f1, f2, f3, f4, f5, f6⟩ := fin 4 (by first | exact pos | decide)
        exact ⟨lv, _, _, _, rfl, rfl, sq g11, rfl, _, rfl, _, rfl, l, _, rfl, put _, f1, f2, f3, f4, f5, f6, _, _, _, _, _, rfl⟩
      · obtain ⟨f1, f2, f3, f4, f5, f6⟩ := fin 7 (by first | exact pos | decide)
        exact ⟨lv, _, _, _, rfl, rfl, sq g11, rfl, _, rfl, _, rfl, l, _, rfl, put _, f1, f2, f3, f4, f5, f6, _, _, _, _, _, rfl⟩
      · obtain ⟨f1, f2, f3, f4, f5, f6⟩ := fin (d10 * 1000000000000000) (by first | exact pos | decide)
        exact ⟨lv, _, _, _, rfl, rfl, sq g11, rfl, _, rfl, _, rfl, l, _, rfl, put _, f1, f2, f3, f4, f5, f6, _, _, _, _, _, rfl⟩
    · rw [decide_eq_false hd]
      exact ⟨bt.trans bt9, bx9.mono (by omega), a9, t9, z9, ⟨ls, l9, lnd, lin, by omega⟩, _, _, _, _, _, rfl⟩
  · obtain ⟨bt, bx, a7, t7, z7, ⟨ls, l7, lnd, lin, lle⟩, u7, u8, u9, u10, u11, rfl⟩ := p7
    have zl4 : (zs.map V.str).length ≤ 4 := by rw [List.length_map]; omega
    refine ⟨_, rfl, _, rfl, _, rfl, by show 3 ≤ sizeLine; decide, fun M hM => ?_⟩
    have nM := fresh_ne bx hM
    have hsx : xs ≠ [] := fun z => by rw [z] at lx; simp at lx; omega
    refine q M _ ⟨xs, ts, ls⟩ (bt.new nM hM) ((bx.upd nM).mono (by omega)) ⟨a, t, l, upd_same, same_new hM _ _ a7, t7.same (same_new hM), same_new hM _ _ l7⟩ ⟨hsx, by show xs.length ≤ 8; omega, nd, nm, by show ts.length ≤ 60; omega, fun y hy => ⟨(tp y hy).1, (tp y hy).2.1, (tp y hy).2.2.1⟩, lnd, lin, ?_⟩ lx tl8
    exact ⟨fun x y => rk ys x < rk ys y, fun x => Nat.lt_irrefl _, fun x y z h1 h2 => Nat.lt_trans h1 h2, fun y hy h0 => (tp y hy).2.2.2 h0⟩
end
end Pk
end
section
set_option maxHeartbeats 1000000
namespace Pk
open PySem PySem.Spec PyProof.Rows L2
/-! ### sorted lists of texts are one -/
theorem lt_anti : ∀ {a b : List Nat}, ltCps a b = false → ltCps b a = false → a = b
  | [], [], _, _ => rfl
  | [], _ :: _, h, _ => by cases h
  | _ :: _, [], _, h => by cases h
  | x :: a, y :: b, h1, h2 => by
    unfold ltCps at h1 h2
    simp only [Bool.or_eq_false_iff, decide_eq_false_iff_not, Bool.and_eq_false_iff, beq_eq_false_iff_ne] at h1 h2
    have e : x = y := by omega
    subst e
    rw [lt_anti (h1.2.resolve_left (fun z => z rfl)) (h2.2.resolve_left (fun z => z rfl))]
theorem lt_co : ∀ {a b c : List Nat}, ltCps c a = true → ltCps c b = true ∨ ltCps b a = true
  | [], _, [], h => by cases h
  | [], _, _ :: _, h => by cases h
  | x :: a, [], [], _ => .inr rfl
  | x :: a, y :: b, [], _ => .inl rfl
  | x :: a, [], z :: c, _ => .inr rfl
  | x :: a, y :: b, z :: c, h => by
    unfold ltCps at h ⊢
    simp only [Bool.or_eq_true, decide_eq_true_eq, Bool.and_eq_true, beq_iff_eq] at h ⊢
    rcases h with h | ⟨e, h⟩
    · rcases Nat.lt_or_ge z y with h1 | h1
      · exact .inl (.inl h1)
      · exact .inr (.inl (by omega))
    · subst e
      rcases Nat.lt_trichotomy z y with h1 | h1 | h1
      · exact .inl (.inl h1)
      · subst h1
        exact (lt_co h).elim (fun q => .inl (.inr ⟨rfl, q⟩)) fun q => .inr (.inr ⟨rfl, q⟩)
      · exact .inr (.inl h1)
def leS (a b : Str) : Prop := ltCps b.cps.toList a.cps.toList = false
theorem leS_trans {a b c : Str} (h : leS a b) (k : leS b c) : leS a c := by
  unfold leS at *
  cases q : ltCps c.cps.toList a.cps.toList with
  | false => rfl
  | true =>
    rcases lt_co (b := b.cps.toList) q with z | z
    · rw [k] at z; cases z
    · rw [h] at z; cases z
theorem leS_anti {a b : Str} (h : leS a b) (k : leS b a) : a = b := by
  have := lt_anti k h
  cases a
  cases b
  simpa using this
theorem rising_pair : ∀ {l : List Str} {p : Str}, risingS p l = true → (p :: l).Pairwise leS
  | [], p, _ => by simp
  | x :: l, p, h => by
    have h : (!ltCps x.cps.toList p.cps.toList && risingS x l) = true := h
    rw [Bool.and_eq_true, Bool.not_eq_true'] at h
    have ih := rising_pair h.2
    have hp : leS p x := h.1
    refine List.pairwise_cons.mpr ⟨fun y hy => ?_, ih⟩
    rcases List.mem_cons.mp hy with e | hy
    · rw [e]; exact hp
    · exact leS_trans hp ((List.pairwise_cons.mp ih).1 y hy)
theorem sorted_pair : ∀ {l : List Str}, sortedS l = true → l.Pairwise leS
  | [], _ => .nil
  | x :: l, h => rising_pair h
theorem sorted_eq : ∀ {ys zs : List Str}, ys.Pairwise leS → zs.Pairwise leS → ys.Perm zs → ys = zs
  | [], zs, _, _, p => (List.nil_perm.mp p).symm
  | y :: ys, [], _, _, p => by
    have := p.length_eq
    simp at this
  | y :: ys, z :: zs, h1, h2, p => by
    obtain ⟨a1, a2⟩ := List.pairwise_cons.mp h1
    obtain ⟨b1, b2⟩ := List.pairwise_cons.mp h2
    have e : y = z := by
      have m1 : y ∈ z :: zs := p.mem_iff.mp (List.mem_cons_self ..)
      have m2 : z ∈ y :: ys := p.mem_iff.mpr (List.mem_cons_self ..)
      rcases List.mem_cons.mp m1 with e | m1
      · exact e
      · rcases List.mem_cons.mp m2 with e | m2
        · exact e.symm
        · exact leS_anti (a1 z m2) (b1 y m1)
    subst e
    rw [sorted_eq a2 b2 (List.Perm.cons_inv p)]
theorem sortedS_eq {ys zs : List Str} (h1 : sortedS ys = true) (h2 : sortedS zs = true) (p : ys.Perm zs) : ys = zs := sorted_eq (sorted_pair h1) (sorted_pair h2) p
/-! ### dicts of counts -/
/-- the counts at C: a number for each event, in the events' order -/
structure CtAt (H : Hp) (C : Addr) (ev : List Str) (cs : List (Str × Int)) : Prop where
  at_ : H C = some (.dK (kv V.int cs))
  keys : cs.map (·.1) = ev
def cf (cs : List (Str × Int)) (x : Str) : Int := (lk cs x).getD 0
theorem CtAt.same {H H' : Hp} {C : Addr} {ev : List Str} {cs : List (Str × Int)} (h : CtAt H C ev cs) (s : Same H H') : CtAt H' C ev cs := ⟨s _ _ h.at_, h.keys⟩
theorem CtAt.get {H : Hp} {C : Addr} {ev : List Str} {cs : List (Str × Int)} (h : CtAt H C ev cs) {x : Str} (hx : x ∈ ev) : lk cs x = some (cf cs x) := by
  unfold cf
  cases q : lk cs x with
  | none => exact absurd (h.keys ▸ hx) (lk_none.mp q)
  | some v => rfl
theorem pt_ct {cs : List (Str × Int)} {ev : List Str} {x : Str} {v : Int} (h : cs.map (·.1) = ev) (hx : x ∈ ev) : (pt cs x v).map (·.1) = ev := by
  rw [pt_keys, h, if_pos hx]
theorem cf_pt (cs : List (Str × Int)) (x y : Str) (v : Int) : cf (pt cs x v) y = if y = x then v else cf cs y := by
  unfold cf
  rw [lk_pt]
  split <;> rfl
theorem cf_bump (cs : List (Str × Int)) (x : Str) : cf (pt cs x (cf cs x + 1)) = Pu.bump (cf cs) x := by
  funext y
  rw [cf_pt]
  unfold Pu.bump
  split
  · rename_i e; rw [e]
  · rfl
/-- zeros -/
def zs0 (ev : List Str) : List (Str × Int) := ev.map fun x => (x, 0)
theorem zs0_keys (ev : List Str) : (zs0 ev).map (·.1) = ev := by unfold zs0; rw [List.map_map]; exact List.map_id' ev
theorem cf_zs0 (ev : List Str) (x : Str) : cf (zs0 ev) x = 0 := by
  unfold cf zs0
  induction ev with
  | nil => rfl
  | cons y ev ih =>
    rw [List.map_cons, lk_cons]
    split
    · rfl
    · exact ih
theorem merge_new : ∀ {more acc : List (Str × Int)}, ((acc ++ more).map (·.1)).Nodup → mergeK (kv V.int acc) (kv V.int more) = kv V.int (acc ++ more)
  | [], acc, _ => by rw [List.append_nil]; rfl
  | p :: more, acc, nd => by
    have hp : p.1 ∉ acc.map (·.1) := by
      rw [List.map_append, List.nodup_append] at nd
      exact fun h => nd.2.2 _ h _ (List.mem_cons_self ..) rfl
    have e : acc ++ p :: more = (acc ++ [p]) ++ more := by rw [List.append_assoc]; rfl
    show mergeK (putK (kv V.int acc) (Sum.inr p.1) (.int p.2)) (kv V.int more) = _
    have e2 : putK (kv V.int acc) (Sum.inr p.1) (.int p.2) = kv V.int (pt acc p.1 p.2) := kv_put V.int acc p.1 p.2
    rw [e2, pt_new _ hp, e]
    exact merge_new (by rw [← e]; exact nd)
theorem merge_nil {ls : List (Str × Int)} (nd : (ls.map (·.1)).Nodup) : mergeK [] (kv V.int ls) = kv V.int ls := merge_new (acc := []) nd
section
variable {P : Program} {w : World} {K : PySem.W.Frag} {mg : Str → Option Value} {base : Heap} {CP CT : Addr}
abbrev N_law_plan : List Str := ["_law_model_here"]
theorem sc_law_plan : FnScope N_law_plan ["_law_model_here"] (defScope s_law_plan) := ⟨rfl, rfl, rfl, by decide +kernel, rfl, by decide +kernel, by decide +kernel⟩
def sp_lplan (CP : Addr) : Sp := fun vs H Q _ => ∃ (M : Addr) (D : PD), vs = [.ref M] ∧ ModAt H M D ∧ PdOk D ∧ ∀ p H' ls', Same H H' → PlanAt CP H' p ⟨D.ev, D.ties, ls'⟩ → PdOk ⟨D.ev, D.ties, ls'⟩ → (∀ x, lk ls' x = lk D.ls x) → Q (.ref p) H'
theorem k_law_plan (W : Ws K mg CP CT) (D : Def K mg "_law_plan" s_law_plan) (i_Plan : IPlan P w K mg base CP) : Cal P w K mg base 6 "_law_plan" ["_law_model_here"] (sp_lplan CP) := by
  refine D.cal sc_law_plan (fun _ _ _ _ _ _ us hl => match us, hl with | [_], _ => rfl) (fun vs H Q E h => ?_) fun f cdv A outer s H vs Q E hr h => ⟨_, (pss_one (ps_ret (pe_plan W.g_Plan i_Plan hr (pa_cons (pe_ix (ix_listK (K := K)) (pv 0) pe_int (fun _ _ => rfl)) (pa_cons (pe_ix (ix_listK (K := K)) (pv 0) pe_int (fun _ _ => rfl)) pa_nil)) (pe_ix (ix_listK (K := K)) (pv 0) pe_int (fun _ _ => rfl))))), ?_⟩
  · obtain ⟨M, D, rfl, _⟩ := h; rfl
  obtain ⟨M, D, rfl, ⟨a, t, l, hM, ha, ⟨as, ht, htt⟩, hl⟩, ok, q⟩ := h
  refine ⟨_, rfl, M, _, 0, .ref a, rfl, rfl, sq hM, rfl, _, rfl, M, _, 1, .ref t, rfl, rfl, sq hM, rfl, _, rfl, M, _, 2, .ref l, rfl, rfl, sq hM, rfl, rfl, rfl, fun p dx hp hdx ne => ⟨p, dx, a, t, l, D.ev, D.ties, D.ls, rfl, upd_same, made_in hp hdx _ _ ha, ⟨as, made_in hp hdx _ _ ht, Paired.mapP htt fun _ _ z => made_in hp hdx _ _ z⟩, made_in hp hdx _ _ hl, ok, fun H1 ls' bt pl ok' hls => ⟨rfl, ?_⟩⟩⟩
  exact q p H1 ls' (made_out hp hdx bt) pl ok' hls
abbrev N_law_read : List Str := ["_law_sheet"]
theorem sc_law_read : FnScope N_law_read ["_law_sheet"] (defScope s_law_read) := ⟨rfl, rfl, rfl, by decide +kernel, rfl, by decide +kernel, by decide +kernel⟩
def sp_read (CP : Addr) : Sp := fun vs H Q _ => ∃ (p : Addr) (D : PD), vs = [.ref p] ∧ PlanAt CP H p D ∧ D.ev.length ≤ 8 ∧ ∀ M H', Same H H' → ModAt H' M D → Q (.ref M) H'
theorem k_law_read (W : Ws K mg CP CT) (D : Def K mg "_law_read" s_law_read) (m_events : Mal P w K mg base 1 CP "events" ["self"] (sp_Plan_events CP)) (m_ties : Mal P w K mg base 1 CP "ties" ["self"] (sp_Plan_ties CP)) (m_limits : Mal P w K mg base 1 CP "limits" ["self"] (sp_Plan_limits CP)) :
    Cal P w K mg base 2 "_law_read" ["_law_sheet"] (sp_read CP) := by
  refine D.cal sc_law_read (fun _ _ _ _ _ _ us hl => match us, hl with | [_], _ => rfl) (fun vs H Q E h => ?_) fun f cdv A outer s H vs Q E hr h => ⟨_, (pss_one (ps_ret (pe_lst (pa_cons (pe_mal0 W.cl_Plan m_events hr (H := fun hm F b hrm => pe_meth0 (pv 0) W.cl_Plan hm F hrm b .nil pass0)) (pa_cons (pe_mal0 W.cl_Plan m_ties hr (H := fun hm F b hrm => pe_meth0 (pv 0) W.cl_Plan hm F hrm b .nil pass0)) (pa_cons (pe_mal0 W.cl_Plan m_limits hr (H := fun hm F b hrm => pe_meth0 (pv 0) W.cl_Plan hm F hrm b .nil pass0)) pa_nil)))))), ?_⟩
  · obtain ⟨p, D, rfl, _⟩ := h; rfl
  obtain ⟨p, D, rfl, pa, l8, q⟩ := h
  obtain ⟨dx, a1, a2, a3, hp, _⟩ := id pa
  refine ⟨_, rfl, p, dx, _, rfl, hp, rfl, p, D, rfl, pa, l8, fun a ha => ?_⟩
  have s1 := same_new (o := .lst (D.ev.map V.str)) ha
  refine ⟨_, rfl, p, dx, _, rfl, s1 _ _ hp, rfl, p, D, rfl, pa.same s1, fun t H2 s2 ht _ hties => ?_⟩
  have s2' := Same.trans s1 s2
  refine ⟨_, rfl, p, dx, _, rfl, s2' _ _ hp, rfl, p, D, rfl, pa.same s2', fun l hl => ⟨by show 3 ≤ sizeLine; decide, fun M hM => ?_⟩⟩
  have s3 := same_new (o := .dK (kv V.int D.ls)) hl
  refine q M _ (Same.new (Same.trans s2' s3) hM) ⟨a, t, l, upd_same, same_new hM _ _ (s3 _ _ (s2 _ _ upd_same)), (hties.same s3).same (same_new hM), same_new hM _ _ upd_same⟩
abbrev N_law_is_moment : List Str := ["_law_model_here", "_law_counts", "_law_marks", "_law_cords", "_law_caps", "_law_event", "_law_tie"]
theorem sc_law_is_moment : FnScope N_law_is_moment ["_law_model_here", "_law_counts"] (defScope s_law_is_moment) := ⟨rfl, rfl, rfl, by decide +kernel, rfl, by decide +kernel, by decide +kernel⟩
def sp_is_moment : Sp := fun vs H Q _ => ∃ (M C : Addr) (D : PD) (cs : List (Str × Int)), vs = [.ref M, .ref C] ∧ ModAt H M D ∧ PdOk D ∧ CtAt H C D.ev cs ∧ ∀ H' r, Same H H' → (r = true ↔ Pu.Mom D.pl (cf cs)) → Q (.bl r) H'
theorem k_law_is_moment (W : Ws K mg CP CT) (D : Def K mg "_law_is_moment" s_law_is_moment) : Cal P w K mg base 1 "_law_is_moment" ["_law_model_here", "_law_counts"] sp_is_moment := by
  refine D.cal sc_law_is_moment (fun _ _ _ _ _ _ us hl => match us, hl with | [_, _], _ => rfl) (fun vs H Q E h => ?_) fun f cdv A outer s H vs Q E hr h => ⟨_, (pss_cons (ps_asg (pv 0) (pg_unl rfl (pgs_cons (pg_name (i := 2) sc_law_is_moment.nd rfl (by first | exact Or.inl rfl | exact Or.inr rfl)) (pgs_cons (pg_name (i := 3) sc_law_is_moment.nd rfl (by first | exact Or.inl rfl | exact Or.inr rfl)) (pgs_cons (pg_name (i := 4) sc_law_is_moment.nd rfl (by first | exact Or.inl rfl | exact Or.inr rfl)) pgs_nil)))))
      (pss_cons (ps_if (PW.pt (pw_or (pt_cmpR (op_neS hr.units) (pe_callB (call_sortedD rfl) (by rfl) W.f_sorted (by decide +kernel) (pa_cons (pv 1) pa_nil)) (pe_callB cr_sortedS (by rfl) W.f_sorted (by decide +kernel) (pa_cons (pv 2) pa_nil)) (by rfl)) (pw_or1 (pt_cmpR op_lt (pe_callB (cr_min rfl) (by rfl) W.f_min (by decide +kernel) (pa_cons (pe_lc (own := [("_law_event", 5)]) (g := (gName 5)) (tt := tYes) rfl sc_law_is_moment.nd (pi_listK (K := K) (pv 2)) (blkOk_by (own := [("_law_event", 5)]) (N := N_law_is_moment) (sc := defScope s_law_is_moment) (by decide +kernel)) (fun _ _ _ _ _ => (pg_name (i := 5) sc_law_is_moment.nd rfl (by first | exact Or.inl rfl | exact Or.inr rfl))) (fun _ _ _ _ _ => pts_nil) (fun _ _ _ _ _ => (pe_dget (hu_of hr) (pv 1) (pv 5) (fun _ _ => rfl)))) pa_nil)) pe_int (nomark _))))) (pss_one (ps_ret pe_bl)) pss_nil)
      (pss_cons (ps_if (pt_cmpR (op_neNil hr.units0) (pe_lock (pe_lc (own := [("_law_event", 5)]) (g := (gName 5)) (tt := _) rfl sc_law_is_moment.nd (pi_keys (pv 4)) (blkOk_by (own := [("_law_event", 5)]) (N := N_law_is_moment) (sc := defScope s_law_is_moment) (by decide +kernel)) (fun _ _ _ _ _ => (pg_name (i := 5) sc_law_is_moment.nd rfl (by first | exact Or.inl rfl | exact Or.inr rfl))) (fun _ _ _ _ _ => (pts_one (pt_cmpR op_gt (pe_dget (hu_of hr) (pv 1) (pv 5) (fun _ _ => rfl)) (pe_dget (hu_of hr) (pv 4) (pv 5) (fun _ _ => rfl)) (nomark _)))) (fun _ _ _ _ _ => (pv 5)))) (pe_lst pa_nil) (by rfl)) (pss_one (ps_ret pe_bl)) pss_nil)
      (pss_one (ps_ret (pe_cmpR (op_eqNil hr.units0) (pe_lc (own := [("_law_tie", 6)]) (g := (gName 6)) (tt := _) rfl sc_law_is_moment.nd (pi_listK (K := K) (pv 3)) (blkOk_by (own := [("_law_tie", 6)]) (N := N_law_is_moment) (sc := defScope s_law_is_moment) (by decide +kernel)) (fun _ _ _ _ _ => (pg_name (i := 6) sc_law_is_moment.nd rfl (by first | exact Or.inl rfl | exact Or.inr rfl))) (fun _ _ _ _ _ => (pts_one (pt_cmpR op_gt (pe_dget (hu_of hr) (pv 1) (pe_ix (ix_tupK (K := K)) (pv 6) pe_int (fun _ _ => rfl)) (fun _ _ => rfl)) (pe_op op_add (pe_dget (hu_of hr) (pv 1) (pe_ix (ix_tupK (K := K)) (pv 6) pe_int (fun _ _ => rfl)) (fun _ _ => rfl)) (pe_ix (ix_tupK (K := K)) (pv 6) pe_int (fun _ _ => rfl))) (nomark _)))) (fun _ _ _ _ _ => (pv 6))) (pe_lst pa_nil) (by rfl))))))), ?_⟩
  · obtain ⟨M, C, D, cs, rfl, _⟩ := h; rfl
  obtain ⟨M, C, D, cs, rfl, ⟨a, t, l, hM, ha, ⟨as, ht, htt⟩, hl⟩, ok, ct, q⟩ := h
  have l8 : D.ev.length ≤ 8 := ok.le
  have hC := ct.at_
  have kk : (kv V.int cs).map (·.1) = D.ev.map Sum.inr := by
    unfold kv
    rw [List.map_map, ← ct.keys, List.map_map]
    rfl
  refine ⟨_, rfl, M, _, rfl, sq hM, rfl, _, _, rfl, _, _, rfl, _, _, rfl, rfl, ?_⟩
  refine ⟨_, rfl, C, _, D.ev, rfl, .inl hC, kk, by omega, fun ys p1 perm1 srt1 hp1 => ⟨_, rfl, a, D.ev, rfl, sq (same_new hp1 _ _ ha), by omega, fun zs p2 perm2 srt2 hp2 => ?_⟩⟩
  have eyz : ys = zs := sortedS_eq srt1 srt2 (perm1.trans perm2.symm)
  have s2 := Same.new (o := .lst (zs.map V.str)) (same_new (o := .lst (ys.map V.str)) hp1) hp2
  refine ⟨p1, p2, ys, zs, rfl, rfl, sq (same_new hp2 _ _ upd_same), sq upd_same, fun x hx => ok.nm x (perm1.mem_iff.mp hx), fun x hx => ok.nm x (perm2.mem_iff.mp hx), false, by rw [eyz, decide_eq_true rfl]; rfl, ?_⟩
  generalize upd (upd H p1 (.lst (ys.map V.str))) p2 (.lst (zs.map V.str)) = H2 at s2
  -- the least
  refine ⟨_, rfl, a, rfl, ⟨_, sq (s2 _ _ ha)⟩, fun F hF => lc_it wk_list (fun i H' => Same H2 H' ∧ H' F = some (.lst (((D.ev.take i).map (cf cs)).map V.int))) ⟨same_new hF, upd_same⟩ (fun i H' _ p => sq (p.1 _ _ (s2 _ _ ha))) (fun i v H3 H4 hi p y => ?_) fun H3 p3 => ?_⟩
  · obtain ⟨s3, f1⟩ := p
    obtain ⟨rfl, hx⟩ := y
    obtain ⟨x, hx', rfl⟩ := map_at hx
    have hxm := List.mem_of_getElem? hx'
    have hi8 : i < D.ev.length := (List.getElem?_eq_some_iff.mp hx').1
    refine ⟨rfl, _, rfl, _, rfl, C, .int (cf cs x), rfl, .inl ⟨_, Sum.inr x, .inl (s3 _ _ (s2 _ _ hC)), rfl, by rw [kv_val, ct.get hxm]; rfl⟩, _, f1, ?_, Same.mut s3 hF, ?_⟩
    · rw [List.length_map, List.length_map, List.length_take]
      exact sz_lt (by omega)
    · rw [upd_same, take_succ hx', List.map_append, List.map_append]
      rfl
  obtain ⟨s3, f1⟩ := p3
  rw [List.length_map, List.take_length] at f1
  have s3' := Same.trans s2 s3
  have hpos : 0 < (D.ev.map (cf cs)).length := by rw [List.length_map]; exact List.length_pos_iff.mpr ok.ne
  refine ⟨F, _, rfl, sq f1, hpos, fun mn hmn hle => ⟨_, _, rfl, rfl, decide (mn < 0), rfl, ?_⟩⟩
  by_cases hneg : mn < 0
  · rw [decide_eq_true hneg]
    refine q _ false s3' ⟨(fun z => by cases z), fun m => ?_⟩
    obtain ⟨x, hx, e⟩ := List.mem_map.mp hmn
    have := m.1 x hx
    omega
  rw [decide_eq_false hneg]
  have nn : ∀ x ∈ D.ev, 0 ≤ cf cs x := fun x hx => by
    have := hle (cf cs x) (List.mem_map.mpr ⟨x, hx, rfl⟩)
    omega
  -- the limits
  refine ⟨l, _, s3' _ _ hl, trivial, fun od => ?_⟩
  have nCl : C ≠ l ∨ C = l := Classical.em _ |>.symm
  have s4l : Same H3 (upd H3 l (.frz od (.dK (kv V.int D.ls)))) ∨ True := .inr trivial
  have keep : ∀ b o, b ≠ l → H b = some o → (upd H3 l (.frz od (.dK (kv V.int D.ls)))) b = some o := fun b o n e => by rw [upd_ne n]; exact s3' _ _ e
  have rdC : Rd (upd H3 l (.frz od (.dK (kv V.int D.ls)))) C (.dK (kv V.int cs)) := by
    by_cases e : C = l
    · refine .inr ⟨od, ?_⟩
      rw [e, upd_same]
      have h1 : LimAt H l D.ls := hl
      unfold LimAt at h1
      rw [← e, hC] at h1
      exact congrArg some (congrArg (HO.frz od) (Option.some.inj h1).symm)
    · exact .inl (keep _ _ e hC)
  have fl : (upd H3 l (.frz od (.dK (kv V.int D.ls)))) l = some (.frz od (.dK (kv V.int D.ls))) := upd_same
  have back : ∀ H', Same (upd H3 l (.frz od (.dK (kv V.int D.ls)))) H' → Same H (upd H' l (.dK (kv V.int D.ls))) := fun H' s => Same.trans s3' (Same.unlock (s3' _ _ hl) s)
  generalize upd H3 l (.frz od (.dK (kv V.int D.ls))) = H4 at rdC fl back keep
  have lls : D.ls.length ≤ 8 := Nat.le_trans (lim_len ok.lnd fun p hp => (ok.lin p hp).1) l8
  refine ⟨_, rfl, l, od, rfl, .inl ⟨_, fl, fun G hG => lc_it wk_keys (fun i H' => Same H4 H' ∧ ∃ bad : List Str, H' G = some (.lst (bad.map V.str)) ∧ bad.length ≤ i ∧ (bad = [] ↔ ∀ p ∈ D.ls.take i, cf cs p.1 ≤ p.2)) ⟨same_new hG, [], upd_same, Nat.le_refl _, by simp⟩ (fun i H' _ p => p.1 _ _ fl) (fun i v H5 H6 hi p y => ?_) fun H5 p5 => ?_⟩⟩
  · obtain ⟨s5, bad, g1, g2, g3⟩ := p
    obtain ⟨rfl, k, vv, hk, rfl⟩ := y
    obtain ⟨p0, hp0, rfl, rfl⟩ := kv_at _ hk
    obtain ⟨hin, h0⟩ := ok.lin p0 (List.mem_of_getElem? hp0)
    have hi8 : i < 8 := by have := (List.getElem?_eq_some_iff.mp hp0).1; omega
    refine ⟨rfl, _, rfl, _, rfl, C, .int (cf cs p0.1), rfl, .inl ⟨_, Sum.inr p0.1, Same.rd s5 rdC, rfl, by rw [kv_val, ct.get hin]; rfl⟩, _, rfl, _, rfl, l, .int p0.2, rfl, .inl ⟨_, Sum.inr p0.1, .inr ⟨od, s5 _ _ fl⟩, rfl, by rw [kv_val, lk_of ok.lnd (List.mem_of_getElem? hp0)]; rfl⟩, _, _, rfl, rfl, decide (p0.2 < cf cs p0.1), rfl, ?_⟩
    by_cases hb : p0.2 < cf cs p0.1
    · rw [decide_eq_true hb]
      refine ⟨_, rfl, _, g1, by rw [List.length_map]; exact sz_lt (by omega), Same.mut s5 hG, bad ++ [p0.1], by rw [upd_same, List.map_append]; rfl, by rw [List.length_append]; show _ + 1 ≤ _; omega, ⟨fun z => by simp at z, fun h => ?_⟩⟩
      have := h p0 (by rw [take_succ hp0]; exact List.mem_append_right _ (List.mem_singleton.mpr rfl))
      omega
    · rw [decide_eq_false hb]
      refine ⟨s5, bad, g1, by omega, g3.trans ⟨fun h p hp => ?_, fun h p hp => h p (by rw [take_succ hp0]; exact List.mem_append_left _ hp)⟩⟩
      rw [take_succ hp0] at hp
      rcases List.mem_append.mp hp with hp | hp
      · exact h p hp
      · have e1 : p = p0 := by simpa using hp
        rw [e1]; omega
  obtain ⟨s5, bad, g1, g2, g3⟩ := p5
  rw [kv_len, List.take_length] at g3
  refine ⟨s5 _ _ fl, Nat.zero_le _, fun e0 he0 => ?_⟩
  have s6 := back _ s5
  have nGl : G ≠ l := fun z => by rw [z, fl] at hG; cases hG
  have gG : (upd H5 l (.dK (kv V.int D.ls))) G = some (.lst (bad.map V.str)) := by rw [upd_ne nGl]; exact g1
  generalize upd H5 l (.dK (kv V.int D.ls)) = H6 at s6 gG he0
  refine ⟨G, e0, _, rfl, rfl, sq (same_new he0 _ _ gG), sq upd_same, !(bad.map V.str).isEmpty, rfl, ?_⟩
  have s7 := Same.new (o := .lst []) s6 he0
  have lims : bad = [] ↔ ∀ x ∈ D.ev, ∀ m, lk D.ls x = some m → cf cs x ≤ m := g3.trans ⟨fun h x _ m hm => h (x, m) (lk_mem hm), fun h p hp => h p.1 (ok.lin p hp).1 p.2 (lk_of ok.lnd hp)⟩
  cases bad with
  | cons x bad =>
    refine q _ false s7 ⟨(fun z => by cases z), fun m => ?_⟩
    have := lims.mpr m.2.2
    cases this
  | nil =>
  have lims := lims.mp rfl
  generalize upd H6 e0 (.lst []) = H7 at s7
  -- the ties
  have las := Paired.length htt
  refine ⟨_, rfl, t, rfl, ⟨_, sq (s7 _ _ ht)⟩, fun G2 hG2 => lc_it wk_list (fun i H' => Same H7 H' ∧ ∃ bs : List Addr, H' G2 = some (.lst (bs.map V.ref)) ∧ bs.length ≤ i ∧ (bs = [] ↔ ∀ y ∈ D.ties.take i, cf cs y.2.1 ≤ cf cs y.1 + y.2.2)) ⟨same_new hG2, [], upd_same, Nat.le_refl _, by simp⟩ (fun i H' _ p => sq (p.1 _ _ (s7 _ _ ht))) (fun i v H8 H9 hi p y => ?_) fun H8 p8 => ?_⟩
  · obtain ⟨s8, bs, g1, g2, g3⟩ := p
    obtain ⟨rfl, hx⟩ := y
    obtain ⟨pt0, hp0, rfl⟩ := map_at hx
    obtain ⟨ti, hti, hpt⟩ := paired_get htt hp0
    obtain ⟨m1, m2, m3⟩ := ok.ends ti (List.mem_of_getElem? hti)
    have s8' := Same.trans s7 s8
    have tp := s8' _ _ hpt
    have hi60 : i < 60 := by have := (List.getElem?_eq_some_iff.mp hti).1; have : D.ties.length ≤ 60 := ok.tle; omega
    refine ⟨rfl, _, rfl, _, rfl, pt0, _, 1, .str ti.2.1, rfl, rfl, st tp, rfl, C, .int (cf cs ti.2.1), rfl, .inl ⟨_, Sum.inr ti.2.1, .inl (s8' _ _ hC), rfl, by rw [kv_val, ct.get m2]; rfl⟩, _, rfl, _, rfl, pt0, _, 0, .str ti.1, rfl, rfl, st tp, rfl, C, .int (cf cs ti.1), rfl, .inl ⟨_, Sum.inr ti.1, .inl (s8' _ _ hC), rfl, by rw [kv_val, ct.get m1]; rfl⟩, _, rfl, pt0, _, 2, .int ti.2.2, rfl, rfl, st tp, rfl, _, _, rfl, rfl, _, _, rfl, rfl, decide (cf cs ti.1 + ti.2.2 < cf cs ti.2.1), rfl, ?_⟩
    by_cases hb : cf cs ti.1 + ti.2.2 < cf cs ti.2.1
    · rw [decide_eq_true hb]
      refine ⟨_, rfl, _, g1, by rw [List.length_map]; exact sz_lt (by omega), Same.mut s8 hG2, bs ++ [pt0], by rw [upd_same, List.map_append]; rfl, by rw [List.length_append]; show _ + 1 ≤ _; omega, ⟨fun z => by simp at z, fun h => ?_⟩⟩
      have := h ti (by rw [take_succ hti]; exact List.mem_append_right _ (List.mem_singleton.mpr rfl))
      omega
    · rw [decide_eq_false hb]
      refine ⟨s8, bs, g1, by omega, g3.trans ⟨fun h p hp => ?_, fun h p hp => h p (by rw [take_succ hti]; exact List.mem_append_left _ hp)⟩⟩
      rw [take_succ hti] at hp
      rcases List.mem_append.mp hp with hp | hp
      · exact h p hp
      · have e1 : p = ti := by simpa using hp
        rw [e1]; omega
  obtain ⟨s8, bs, g1, g2, g3⟩ := p8
  rw [List.length_map, las, List.take_length] at g3
  refine ⟨Nat.zero_le _, fun e2 he2 => ⟨G2, e2, _, rfl, rfl, sq (same_new he2 _ _ g1), sq upd_same, ?_⟩⟩
  have s9 := Same.new (o := .lst []) (Same.trans s7 s8) he2
  refine q _ _ s9 ?_
  cases bs with
  | nil => exact ⟨fun _ => ⟨nn, g3.mp rfl, lims⟩, fun _ => rfl⟩
  | cons x bs => exact ⟨(fun z => by cases z), fun m => by have := g3.mpr m.2.1; cases this⟩
end
end Pk
end
section
set_option maxHeartbeats 1000000
namespace Pk
open PySem PySem.Spec PyProof.Rows L2
/-- a list of pairs (text, int) at D -/
def PsAt (H : Hp) (D : Addr) (ls : List (Str × Int)) : Prop := ∃ ps, H D = some (.lst (ps.map V.ref)) ∧ Paired (fun p (q : Str × Int) => H p = some (.tup [.str q.1, .int q.2])) ps ls
theorem PsAt.nil {H : Hp} {D : Addr} : PsAt (upd H D (.lst [])) D [] := ⟨[], upd_same, .nil⟩
theorem PsAt.step {H : Hp} {D T : Addr} {ls : List (Str × Int)} {x : Str} {v : Int} (h : PsAt H D ls) (hT : H T = none) (hl : ls.length < 1000) : ∃ acc, (upd H T (.tup [.str x, .int v])) D = some (.lst acc) ∧ acc.length < sizeLine ∧
    PsAt (upd (upd H T (.tup [.str x, .int v])) D (.lst (acc ++ [.ref T]))) D (ls ++ [(x, v)]) := by
  obtain ⟨ps, h1, h2⟩ := h
  have la := Paired.length h2
  have n : T ≠ D := fun z => by rw [z, h1] at hT; cases hT
  refine ⟨ps.map V.ref, same_new hT _ _ h1, by rw [List.length_map]; exact sz_lt (by omega), ps ++ [T], by rw [upd_same, List.map_append]; rfl, paired_app (Paired.mapP h2 fun u y z => ?_) (.cons ?_ .nil)⟩
  · rw [upd_ne (ne_of z h1 (by intro e; cases e))]
    exact same_new hT _ _ z
  · rw [upd_ne n]
    exact upd_same
theorem pairs_kv {K : PySem.W.Frag} {H : Hp} : ∀ {ps : List Addr} {ls : List (Str × Int)}, Paired (fun p (q : Str × Int) => H p = some (.tup [.str q.1, .int q.2])) ps ls → Paired (fun p (q : Key × V) => SqT K H p [kV q.1, q.2]) ps (kv V.int ls)
  | _, _, .nil => .nil
  | _, _, .cons h t => .cons (st h) (pairs_kv t)
theorem zs0_take {ev : List Str} {i : Nat} {x : Str} (h : ev[i]? = some x) : zs0 (ev.take (i + 1)) = zs0 (ev.take i) ++ [(x, 0)] := by
  unfold zs0
  rw [take_succ h, List.map_append]
  rfl
/-- a row that can be run -/
def IsRun (D : PD) (row : List Str) : Prop := ∀ p r, p ++ r = row → Pu.Mom D.pl (Pu.cnt p)
theorem cnt_bump (row : List Str) (x : Str) : Pu.cnt (row ++ [x]) = Pu.bump (Pu.cnt row) x := by
  funext y
  rw [Pu.cnt_snoc]
  unfold Pu.bump
  split <;> omega
theorem isRun_nil {D : PD} (ok : PdOk D) : IsRun D [] := fun p r h => by
  have e := (List.append_eq_nil_iff.mp h).1
  rw [e]
  exact Pu.mom_zero ok.wf
theorem snoc_cases {p r row : List Str} {x : Str} (h : p ++ r = row ++ [x]) : (∃ r', p ++ r' = row) ∨ p = row ++ [x] := by
  rcases List.eq_nil_or_concat r with e | ⟨r', y, e⟩
  · rw [e, List.append_nil] at h
    exact .inr h
  · rw [e, List.concat_eq_append, ← List.append_assoc] at h
    exact .inl ⟨r', (List.append_inj' h rfl).1⟩
theorem isRun_snoc {D : PD} {row : List Str} {x : Str} (h : IsRun D row) (m : Pu.Mom D.pl (Pu.cnt (row ++ [x]))) : IsRun D (row ++ [x]) := fun p r e => by
  rcases snoc_cases e with ⟨r', e⟩ | e
  · exact h p r' e
  · rw [e]; exact m
theorem cf_nil (ev : List Str) : cf (zs0 ev) = Pu.cnt [] := by
  funext x
  rw [cf_zs0]
  rfl
theorem CtAt.put {H : Hp} {C : Addr} {ev : List Str} {cs : List (Str × Int)} (h : CtAt H C ev cs) (l : ev.length ≤ 8) (x : Str) (v : Int) : DPut H C (.str x) (.int v) (upd H C (.dK (kv V.int (pt cs x v)))) :=
  .inl ⟨_, Sum.inr x, h.at_, rfl, by have := congrArg List.length h.keys; rw [List.length_map] at this; rw [kv_len]; exact sz_lt (by omega), by rw [← kv_put]⟩
theorem CtAt.rd {H : Hp} {C : Addr} {ev : List Str} {cs : List (Str × Int)} (h : CtAt H C ev cs) : Rd H C (.dK (kv V.int cs)) := .inl h.at_
section
variable {P : Program} {w : World} {K : PySem.W.Frag} {mg : Str → Option Value} {base : Heap} {CP CT : Addr}
theorem zs0_len (ev : List Str) : (zs0 ev).length = ev.length := List.length_map ..
theorem take_len {α : Type} (xs : List α) (i : Nat) : (xs.take i).length ≤ i := by rw [List.length_take]; omega
abbrev N_law_is_run : List Str := ["_law_model_here", "_law_row", "_law_counts", "_law_event"]
theorem sc_law_is_run : FnScope N_law_is_run ["_law_model_here", "_law_row"] (defScope s_law_is_run) := ⟨rfl, rfl, rfl, by decide +kernel, rfl, by decide +kernel, by decide +kernel⟩
def sp_is_run : Sp := fun vs H Q _ => ∃ (M R : Addr) (D : PD) (row : List Str), vs = [.ref M, .ref R] ∧ ModAt H M D ∧ PdOk D ∧ H R = some (.lst (row.map V.str)) ∧ (∀ x ∈ row, x ∈ D.ev) ∧ ∀ H' r, Same H H' → (r = true ↔ IsRun D row) → Q (.bl r) H'
theorem k_law_is_run (W : Ws K mg CP CT) (D : Def K mg "_law_is_run" s_law_is_run) (c_law_is_moment : Cal P w K mg base 1 "_law_is_moment" ["_law_model_here", "_law_counts"] sp_is_moment) : Cal P w K mg base 2 "_law_is_run" ["_law_model_here", "_law_row"] sp_is_run := by
  refine D.cal sc_law_is_run (fun _ _ _ _ _ _ us hl => match us, hl with | [_, _], _ => rfl) (fun vs H Q E h => ?_) fun f cdv A outer s H vs Q E hr h => ⟨_, (pss_cons (ps_set (i := 2) sc_law_is_run.nd rfl (by first | exact Or.inl rfl | exact Or.inr rfl) (pe_callTy (call_dictP rfl) (by rfl) W.f_dict (by decide +kernel) (pa_cons (pe_lc (own := [("_law_event", 3)]) (g := (gName 3)) (tt := tYes) rfl sc_law_is_run.nd (pi_listK (K := K) (pe_ix (ix_listK (K := K)) (pv 0) pe_int (fun _ _ => rfl))) (blkOk_by (own := [("_law_event", 3)]) (N := N_law_is_run) (sc := defScope s_law_is_run) (by decide +kernel)) (fun _ _ _ _ _ => (pg_name (i := 3) sc_law_is_run.nd rfl (by first | exact Or.inl rfl | exact Or.inr rfl))) (fun _ _ _ _ _ => pts_nil) (fun _ _ _ _ _ => (pe_tup (pa_cons (pv 3) (pa_cons pe_int pa_nil))))) pa_nil)))
      (pss_cons (ps_for PassesOwn.never rfl (pi_listK (K := K) (pv 1)) (pg_name (i := 3) sc_law_is_run.nd rfl (by first | exact Or.inl rfl | exact Or.inr rfl)) (pss_cons (ps_dput (hu_of hr) (pv 2) (pv 3) (pe_op op_add (pe_dget (hu_of hr) (pv 2) (pv 3) (fun _ _ => rfl)) pe_int) rfl)
      (pss_one (ps_if (pt_not (pt_val (pe_cal c_law_is_moment hr rfl (pa_cons (pv 0) (pa_cons (pv 2) pa_nil))))) (pss_one (ps_ret pe_bl)) pss_nil))))
      (pss_one (ps_ret pe_bl)))), ?_⟩
  · obtain ⟨M, R, D, row, rfl, _⟩ := h; rfl
  obtain ⟨M, R, D, row, rfl, mo, ok, hR, hin, q⟩ := h
  obtain ⟨a, t, l, hM, ha, _⟩ := id mo
  have l8 : D.ev.length ≤ 8 := ok.le
  refine ⟨_, rfl, M, _, 0, .ref a, rfl, rfl, sq hM, rfl, a, rfl, ⟨_, sq ha⟩, fun F hF => lc_it wk_list (fun i H' => Same H H' ∧ PsAt H' F (zs0 (D.ev.take i))) ⟨same_new hF, .nil⟩ (fun i H' _ p => sq (p.1 _ _ ha)) (fun i v H2 H3 hi p y => ?_) fun H2 p2 => ?_⟩
  · obtain ⟨s2, f1⟩ := p
    obtain ⟨rfl, hx⟩ := y
    obtain ⟨x, hx', rfl⟩ := map_at hx
    refine ⟨rfl, _, rfl, by show 2 ≤ sizeLine; decide, fun T hT => ?_⟩
    obtain ⟨acc, w1, w2, w3⟩ := f1.step (x := x) (v := 0) hT (by rw [zs0_len]; have := take_len D.ev i; have := (List.getElem?_eq_some_iff.mp hx').1; omega)
    exact ⟨acc, w1, w2, Same.mut (Same.new s2 hT) hF, by rw [zs0_take hx']; exact w3⟩
  obtain ⟨s2, ps, f1, f2⟩ := p2
  rw [List.length_map, List.take_length] at f2
  refine ⟨F, ps, _, rfl, sq f1, pairs_kv f2, fun C hC => ?_⟩
  have hC0 : H C = none := s2.free hC
  rw [merge_nil (by rw [zs0_keys]; exact ok.nd)]
  refine ⟨_, rfl, R, rfl, ⟨_, sq ((Same.new s2 hC) _ _ hR)⟩, for_it wk_list (fun i σ H' => Same H H' ∧ (∃ cs, CtAt H' C D.ev cs ∧ cf cs = Pu.cnt (row.take i)) ∧ IsRun D (row.take i) ∧ ∃ u3, σ = [some (.ref M), some (.ref R), some (.ref C), u3])
    ⟨Same.new s2 hC, ⟨zs0 D.ev, ⟨upd_same, zs0_keys _⟩, by rw [List.take_zero]; exact cf_nil _⟩, by rw [List.take_zero]; exact isRun_nil ok, _, rfl⟩ (fun i σ H' _ p => sq (p.1 _ _ hR)) (fun i v σ H3 H4 hi p y => ?_) fun σ H3 p3 => ?_⟩
  · obtain ⟨s3, ⟨cs, ct, hcs⟩, run, u3, rfl⟩ := p
    obtain ⟨rfl, hx⟩ := y
    obtain ⟨x, hx', rfl⟩ := map_at hx
    have hxm := hin x (List.mem_of_getElem? hx')
    have cl : cs.length ≤ 8 := by have := congrArg List.length ct.keys; rw [List.length_map] at this; omega
    refine ⟨_, rfl, _, rfl, C, .int (cf cs x), rfl, .inl ⟨_, Sum.inr x, ct.rd, rfl, by rw [kv_val, ct.get hxm]; rfl⟩, _, _, rfl, rfl, _, rfl, _, rfl, C, _, rfl, ct.put l8 x _, ?_⟩
    have s4 : Same H (upd H4 C (.dK (kv V.int (pt cs x (cf cs x + 1))))) := Same.mut s3 hC0
    have e4 : cf (pt cs x (cf cs x + 1)) = Pu.cnt (row.take (i + 1)) := by rw [cf_bump, hcs, take_succ hx', cnt_bump]
    have ct4 : CtAt (upd H4 C (.dK (kv V.int (pt cs x (cf cs x + 1))))) C D.ev (pt cs x (cf cs x + 1)) := ⟨upd_same, pt_ct ct.keys hxm⟩
    generalize upd H4 C (.dK (kv V.int (pt cs x (cf cs x + 1)))) = H5 at s4 ct4
    refine ⟨_, rfl, _, rfl, M, C, D, _, rfl, mo.same s4, ok, ct4, fun H6 r s6 hr => ⟨r, rfl, ?_⟩⟩
    have s6' := Same.trans s4 s6
    rw [e4] at hr
    cases r with
    | true => exact ⟨s6', ⟨_, ct4.same s6, e4⟩, by
        rw [take_succ hx']
        exact isRun_snoc run (by rw [← take_succ hx']; exact hr.mp rfl), _, rfl⟩
    | false => exact q H6 false s6' ⟨(fun z => by cases z), fun h => hr.mpr (h _ (row.drop (i + 1)) (List.take_append_drop ..))⟩
  · obtain ⟨s3, _, run, u3, rfl⟩ := p3
    rw [List.length_map, List.take_length] at run
    exact q H3 true s3 ⟨fun _ => run, fun _ => rfl⟩
abbrev N_law_run : List Str := ["_law_box_here", "_law_model_here", "_law_many", "_law_counts", "_law_found", "_law_turn", "_law_event", "_law_more"]
theorem sc_law_run : FnScope N_law_run ["_law_box_here", "_law_model_here", "_law_many"] (defScope s_law_run) := ⟨rfl, rfl, rfl, by decide +kernel, rfl, by decide +kernel, by decide +kernel⟩
def sp_run : Sp := fun vs H Q _ => ∃ (b M : Addr) (m n : Nat) (D : PD), vs = [.ref b, .ref M, .int (m : Int)] ∧ BoxAt H b n ∧ n < 5000 ∧ m ≤ 100 ∧ ModAt H M D ∧ PdOk D ∧ ∀ F H' row, H F = none → But b H H' → BoxAt H' b (n + m) → H' F = some (.lst (row.map V.str)) → row.length ≤ m → (∀ x ∈ row, x ∈ D.ev) → IsRun D row → Q (.ref F) H'
theorem k_law_run (W : Ws K mg CP CT) (D : Def K mg "_law_run" s_law_run) (c_law_take : Cal P w K mg base 1 "_law_take" ["_law_box_here", "_law_many"] sp_take) (c_law_is_moment : Cal P w K mg base 1 "_law_is_moment" ["_law_model_here", "_law_counts"] sp_is_moment) : Cal P w K mg base 3 "_law_run" ["_law_box_here", "_law_model_here", "_law_many"] sp_run := by
  refine D.cal sc_law_run (fun _ _ _ _ _ _ us hl => match us, hl with | [_, _, _], _ => rfl) (fun vs H Q E h => ?_) fun f cdv A outer s H vs Q E hr h => ⟨_, (pss_cons (ps_par (i := 3) (j := 4) (by rfl) sc_law_run.nd rfl rfl (by decide) rfl rfl (pa_cons (pe_callTy (call_dictP rfl) (by rfl) W.f_dict (by decide +kernel) (pa_cons (pe_lc (own := [("_law_event", 6)]) (g := (gName 6)) (tt := tYes) rfl sc_law_run.nd (pi_listK (K := K) (pe_ix (ix_listK (K := K)) (pv 1) pe_int (fun _ _ => rfl))) (blkOk_by (own := [("_law_event", 6)]) (N := N_law_run) (sc := defScope s_law_run) (by decide +kernel)) (fun _ _ _ _ _ => (pg_name (i := 6) sc_law_run.nd rfl (by first | exact Or.inl rfl | exact Or.inr rfl))) (fun _ _ _ _ _ => pts_nil) (fun _ _ _ _ _ => (pe_tup (pa_cons (pv 6) (pa_cons pe_int pa_nil))))) pa_nil)) (pa_cons (pe_lst pa_nil) pa_nil)) (by rfl))
      (pss_cons (ps_for PassesOwn.never rfl (pi_range1 (by rfl) W.f_range (pa_cons (pv 2) pa_nil)) (pg_name (i := 5) sc_law_run.nd rfl (by first | exact Or.inl rfl | exact Or.inr rfl)) (pss_cons (ps_set (i := 6) sc_law_run.nd rfl (by first | exact Or.inl rfl | exact Or.inr rfl) (pe_ix (ix_listK (K := K)) (pe_ix (ix_listK (K := K)) (pv 1) pe_int (fun _ _ => rfl)) (pe_cal c_law_take hr rfl (pa_cons (pv 0) (pa_cons (pe_callB (len_seqK (K := K)) (by rfl) W.f_len (by decide +kernel) (pa_cons (pe_ix (ix_listK (K := K)) (pv 1) pe_int (fun _ _ => rfl)) pa_nil)) pa_nil))) (fun _ _ => rfl)))
      (pss_cons (ps_set (i := 7) sc_law_run.nd rfl (by first | exact Or.inl rfl | exact Or.inr rfl) (pe_callTy call_copyK (by rfl) W.f_dict (by decide +kernel) (pa_cons (pv 3) pa_nil)))
      (pss_cons (ps_dput (hu_of hr) (pv 7) (pv 6) (pe_op op_add (pe_dget (hu_of hr) (pv 7) (pv 6) (fun _ _ => rfl)) pe_int) rfl)
      (pss_one (ps_if (pt_val (pe_cal c_law_is_moment hr rfl (pa_cons (pv 1) (pa_cons (pv 7) pa_nil)))) (pss_cons (ps_set (i := 3) sc_law_run.nd rfl (by first | exact Or.inl rfl | exact Or.inr rfl) (pv 7))
      (pss_one (ps_expr (pe_bm PySem.F.plainAttrs_list PySem.F.slot_list_append PySem.F.type_list_append mt_append (pv 4) (pa_cons (pv 6) pa_nil))))) pss_nil))))))
      (pss_one (ps_ret (pv 4))))), ?_⟩
  · obtain ⟨b, M, m, n, D, rfl, _⟩ := h; rfl
  obtain ⟨b, M, m, n, D, rfl, bx, hn, hm, mo, ok, q⟩ := h
  obtain ⟨a, t, l, hM, ha, _⟩ := id mo
  have l8 : D.ev.length ≤ 8 := ok.le
  refine ⟨_, rfl, M, _, 0, .ref a, rfl, rfl, sq hM, rfl, a, rfl, ⟨_, sq ha⟩, fun F hF => lc_it wk_list (fun i H' => Same H H' ∧ PsAt H' F (zs0 (D.ev.take i))) ⟨same_new hF, .nil⟩ (fun i H' _ p => sq (p.1 _ _ ha)) (fun i v H2 H3 hi p y => ?_) fun H2 p2 => ?_⟩
  · obtain ⟨s2, f1⟩ := p
    obtain ⟨rfl, hx⟩ := y
    obtain ⟨x, hx', rfl⟩ := map_at hx
    refine ⟨rfl, _, rfl, by show 2 ≤ sizeLine; decide, fun T hT => ?_⟩
    obtain ⟨acc, w1, w2, w3⟩ := f1.step (x := x) (v := 0) hT (by rw [zs0_len]; have := take_len D.ev i; have := (List.getElem?_eq_some_iff.mp hx').1; omega)
    exact ⟨acc, w1, w2, Same.mut (Same.new s2 hT) hF, by rw [zs0_take hx']; exact w3⟩
  obtain ⟨s2, ps, f1, f2⟩ := p2
  rw [List.length_map, List.take_length] at f2
  refine ⟨F, ps, _, rfl, sq f1, pairs_kv f2, fun C hC => ?_⟩
  rw [merge_nil (by rw [zs0_keys]; exact ok.nd)]
  refine ⟨Nat.zero_le _, fun G hG => ⟨_, _, rfl, ?_⟩⟩
  have s3 := Same.new (o := .dK (kv V.int (zs0 D.ev))) s2 hC
  have s4 := Same.new (o := .lst []) s3 hG
  have nG : G ≠ b := fresh_ne (bx.same s3) hG
  have hG0 : H G = none := s3.free hG
  have nCG : C ≠ G := ne_of_none upd_same hG
  refine ⟨_, rfl, _, rfl, by omega, by omega, for_it wk_rng (fun i σ H' => But b H H' ∧ BoxAt H' b (n + i) ∧ (∃ C cs row, C ≠ G ∧ C ≠ b ∧ CtAt H' C D.ev cs ∧ cf cs = Pu.cnt row ∧ IsRun D row ∧ row.length ≤ i ∧ (∀ x ∈ row, x ∈ D.ev) ∧ H' G = some (.lst (row.map V.str)) ∧ ∃ u5 u6 u7, σ = [some (.ref b), some (.ref M), some (.int (m : Int)), some (.ref C), some (.ref G), u5, u6, u7]))
    ⟨But.of s4, bx.same s4, C, zs0 D.ev, [], nCG, fresh_ne (bx.same s2) hC, ⟨by rw [upd_ne nCG]; exact upd_same, zs0_keys _⟩, cf_nil _, isRun_nil ok, Nat.le_refl _, (fun x h => by cases h), upd_same, _, _, _, rfl⟩ (fun _ _ _ _ _ => trivial) (fun i v σ H5 H6 hi p y => ?_) fun σ H5 p5 => ?_⟩
  · obtain ⟨bt, bx5, C, cs, row, nCG, nCb, ct, hcs, run, rl, rin, g5, u5, u6, u7, rfl⟩ := p
    obtain ⟨rfl, rfl⟩ := y
    have mo5 := mo.but bx bt
    obtain ⟨a5, t5, l5, hM5, ha5, _⟩ := id mo5
    have pos : 0 < D.ev.length := List.length_pos_iff.mpr ok.ne
    refine ⟨_, rfl, M, _, 0, .ref a5, rfl, rfl, sq hM5, rfl, _, rfl, _, rfl, M, _, 0, .ref a5, rfl, rfl, sq hM5, rfl, a5, _, rfl, .inl (sq ha5), b, _, n + i, rfl, by rw [List.length_map]; omega, by rw [List.length_map]; omega, bx5, by omega, fun H7 d bt7 bx7 d0 dlt => ?_⟩
    rw [List.length_map] at dlt
    have hd : d.toNat < D.ev.length := by omega
    have ha7 := bt7 _ _ (bx5.ne ha5) ha5
    refine ⟨a5, _, d, .str D.ev[d.toNat], rfl, rfl, sq ha7, atI_pos d0 (by rw [List.getElem?_map, List.getElem?_eq_getElem hd]; rfl), ?_⟩
    have hx : D.ev[d.toNat] ∈ D.ev := List.getElem_mem hd
    generalize D.ev[d.toNat] = x at hx
    have bt7' := bt.trans bt7
    have ct7 : CtAt H7 C D.ev cs := ⟨bt7 _ _ nCb ct.at_, ct.keys⟩
    have g7 := bt7 _ _ nG g5
    have cl : cs.length ≤ 8 := by have := congrArg List.length ct.keys; rw [List.length_map] at this; omega
    refine ⟨_, rfl, C, _, rfl, ct7.rd, fun N hN => ?_⟩
    have nN := fresh_ne bx7 hN
    have nNG : G ≠ N := ne_of_none g7 hN
    have nNC : C ≠ N := ne_of_none ct7.at_ hN
    have hN0 : H N = none := bt7'.free nN hN
    have cn : CtAt (upd H7 N (.dK (kv V.int cs))) N D.ev cs := ⟨upd_same, ct.keys⟩
    refine ⟨_, rfl, _, rfl, N, .int (cf cs x), rfl, .inl ⟨_, Sum.inr x, cn.rd, rfl, by rw [kv_val, ct.get hx]; rfl⟩, _, _, rfl, rfl, _, rfl, _, rfl, N, _, rfl, cn.put l8 x _, ?_⟩
    rw [upd_upd]
    have bt8 : But b H (upd H7 N (.dK (kv V.int (pt cs x (cf cs x + 1))))) := bt7'.mut hN0
    have bx8 : BoxAt (upd H7 N (.dK (kv V.int (pt cs x (cf cs x + 1))))) b (n + (i + 1)) := bx7.upd nN
    have e8 : cf (pt cs x (cf cs x + 1)) = Pu.cnt (row ++ [x]) := by rw [cf_bump, hcs, cnt_bump]
    have cn8 : CtAt (upd H7 N (.dK (kv V.int (pt cs x (cf cs x + 1))))) N D.ev (pt cs x (cf cs x + 1)) := ⟨upd_same, pt_ct ct.keys hx⟩
    have ct8 : CtAt (upd H7 N (.dK (kv V.int (pt cs x (cf cs x + 1))))) C D.ev cs := ⟨by rw [upd_ne nNC]; exact ct7.at_, ct.keys⟩
    have g8 : (upd H7 N (.dK (kv V.int (pt cs x (cf cs x + 1))))) G = some (.lst (row.map V.str)) := by rw [upd_ne nNG]; exact g7
    generalize upd H7 N (.dK (kv V.int (pt cs x (cf cs x + 1)))) = H8 at bt8 bx8 cn8 ct8 g8
    refine ⟨_, rfl, _, rfl, M, N, D, _, rfl, mo.but bx bt8, ok, cn8, fun H9 r s9 hr => ⟨r, rfl, ?_⟩⟩
    have bt9 := bt8.trans (But.of s9)
    rw [e8] at hr
    cases r with
    | true =>
      have hm9 := isRun_snoc run (hr.mp rfl)
      refine ⟨_, rfl, _, rfl, .inl ⟨rfl, _, sq (s9 _ _ g8)⟩, _, rfl, G, _, _, rfl, rfl, s9 _ _ g8, by rw [List.length_map]; exact sz_lt (by omega), bt9.mut hG0, (bx8.same s9).upd nG, N, _, row ++ [x], nNG.symm, nN, ⟨by rw [upd_ne nNG.symm]; exact s9 _ _ cn8.at_, cn8.keys⟩, e8, hm9, by rw [List.length_append]; show _ + 1 ≤ _; omega, fun y hy => ?_, by rw [upd_same, List.map_append]; rfl, _, _, _, rfl⟩
      rcases List.mem_append.mp hy with hy | hy
      · exact rin y hy
      · rw [List.mem_singleton.mp hy]; exact hx
    | false => exact ⟨bt9, bx8.same s9, C, cs, row, nCG, nCb, ct8.same s9, hcs, run, by omega, rin, s9 _ _ g8, _, _, _, rfl⟩
  · obtain ⟨bt, bx5, C, cs, row, nCG, nCb, ct, hcs, run, rl, rin, g5, u5, u6, u7, rfl⟩ := p5
    exact ⟨_, rfl, q G H5 row hG0 bt (bx5.mono (by omega)) g5 (by omega) rin run⟩
end
end Pk
end
section
set_option maxHeartbeats 1000000
namespace Pk
open PySem PySem.Spec PyProof.Rows L2
section
variable {P : Program} {w : World} {K : PySem.W.Frag} {mg : Str → Option Value} {base : Heap} {CP CT : Addr}
def clip (t : Tie) : Tie := (t.1, t.2.1, if t.2.2 < 3 then t.2.2 else 2)
def cap3 (p : Str × Int) : Str × Int := (p.1, if p.2 < 3 then p.2 else 3)
theorem map_take_succ {α β : Type} {f : α → β} {xs : List α} {i : Nat} {x : α} (h : xs[i]? = some x) : (xs.take (i + 1)).map f = (xs.take i).map f ++ [f x] := by rw [take_succ h, List.map_append]; rfl
theorem cap3_keys (ls : List (Str × Int)) : (ls.map cap3).map (·.1) = ls.map (·.1) := by rw [List.map_map]; rfl
theorem small_ok {D : PD} (ok : PdOk D) : PdOk ⟨D.ev, D.ties.map clip, D.ls.map cap3⟩ := by
  refine ⟨ok.ne, ok.le, ok.nd, ok.nm, by show (D.ties.map clip).length ≤ 60; rw [List.length_map]; exact ok.tle, fun t ht => ?_, by rw [cap3_keys]; exact ok.lnd, fun p hp => ?_, ?_⟩
  · obtain ⟨u, hu, rfl⟩ := List.mem_map.mp ht
    obtain ⟨a, b, c⟩ := ok.ends u hu
    refine ⟨a, b, ?_⟩
    show 0 ≤ if u.2.2 < 3 then u.2.2 else 2
    split <;> omega
  · obtain ⟨u, hu, rfl⟩ := List.mem_map.mp hp
    obtain ⟨a, b⟩ := ok.lin u hu
    refine ⟨a, ?_⟩
    show 0 ≤ if u.2 < 3 then u.2 else 3
    split <;> omega
  · obtain ⟨R, r1, r2, r3⟩ := ok.ac
    refine ⟨R, r1, r2, fun t ht h0 => ?_⟩
    obtain ⟨u, hu, rfl⟩ := List.mem_map.mp ht
    refine r3 u hu ?_
    have h0 : (if u.2.2 < 3 then u.2.2 else 2) = 0 := h0
    split at h0
    · exact h0
    · cases h0
abbrev N_law_small : List Str := ["_law_box_here", "_law_many", "_law_marks", "_law_cords", "_law_caps", "_law_one", "_law_other", "_law_lag_here", "_law_event"]
theorem sc_law_small : FnScope N_law_small ["_law_box_here", "_law_many"] (defScope s_law_small) := ⟨rfl, rfl, rfl, by decide +kernel, rfl, by decide +kernel, by decide +kernel⟩
def sp_small : Sp := fun vs H Q _ => ∃ (b : Addr) (m n : Nat), vs = [.ref b, .int (m : Int)] ∧ 1 ≤ m ∧ m ≤ 4 ∧ BoxAt H b n ∧ n < 5000 ∧ ∀ M H' D, But b H H' → BoxAt H' b (n + 100) → ModAt H' M D → PdOk D → D.ev.length = m → Q (.ref M) H'
theorem k_law_small (W : Ws K mg CP CT) (D : Def K mg "_law_small" s_law_small) (c_law_model : Cal P w K mg base 3 "_law_model" ["_law_box_here", "_law_many", "_law_most"] sp_model) : Cal P w K mg base 4 "_law_small" ["_law_box_here", "_law_many"] sp_small := by
  refine D.cal sc_law_small (fun _ _ _ _ _ _ us hl => match us, hl with | [_, _], _ => rfl) (fun vs H Q E h => ?_) fun f cdv A outer s H vs Q E hr h => ⟨_, (pss_cons (ps_asg (pe_cal c_law_model hr rfl (pa_cons (pv 0) (pa_cons (pv 1) (pa_cons (pe_op op_mul pe_int (pv 1)) pa_nil)))) (pg_unl rfl (pgs_cons (pg_name (i := 2) sc_law_small.nd rfl (by first | exact Or.inl rfl | exact Or.inr rfl)) (pgs_cons (pg_name (i := 3) sc_law_small.nd rfl (by first | exact Or.inl rfl | exact Or.inr rfl)) (pgs_cons (pg_name (i := 4) sc_law_small.nd rfl (by first | exact Or.inl rfl | exact Or.inr rfl)) pgs_nil)))))
      (pss_cons (ps_setLc (i := 3) (own := [("_law_one", 5), ("_law_other", 6), ("_law_lag_here", 7)]) (g := _) (tt := tYes) rfl sc_law_small.nd rfl rfl (sw_true rfl rfl rfl (by decide +kernel)) (pi_listK (K := K) (pv 3)) (blkOk_by (own := [("_law_one", 5), ("_law_other", 6), ("_law_lag_here", 7)]) (N := N_law_small) (sc := defScope s_law_small) (by decide +kernel)) (fun _ _ _ _ _ => (pg_tupK (K := K) (n := 3) (pgs_cons (pg_name (i := 5) sc_law_small.nd rfl (by first | exact Or.inl rfl | exact Or.inr rfl)) (pgs_cons (pg_name (i := 6) sc_law_small.nd rfl (by first | exact Or.inl rfl | exact Or.inr rfl)) (pgs_cons (pg_name (i := 7) sc_law_small.nd rfl (by first | exact Or.inl rfl | exact Or.inr rfl)) pgs_nil))))) (fun _ _ _ _ _ => pts_nil) (fun _ _ _ _ _ => (pe_tup (pa_cons (pv 5) (pa_cons (pv 6) (pa_cons (pe_ifExp (pt_cmpR op_lt (pv 7) pe_int (nomark _)) (pv 7) pe_int) pa_nil))))))
      (pss_one (ps_ret (pe_lst (pa_cons (pv 2) (pa_cons (pv 3) (pa_cons (pe_callTy (call_dictP rfl) (by rfl) W.f_dict (by decide +kernel) (pa_cons (pe_lock (pe_lc (own := [("_law_event", 8)]) (g := (gName 8)) (tt := tYes) rfl sc_law_small.nd (pi_keys (pv 4)) (blkOk_by (own := [("_law_event", 8)]) (N := N_law_small) (sc := defScope s_law_small) (by decide +kernel)) (fun _ _ _ _ _ => (pg_name (i := 8) sc_law_small.nd rfl (by first | exact Or.inl rfl | exact Or.inr rfl))) (fun _ _ _ _ _ => pts_nil) (fun _ _ _ _ _ => (pe_tup (pa_cons (pv 8) (pa_cons (pe_callB (call_min2 rfl) (by rfl) W.f_min (by decide +kernel) (pa_cons pe_int (pa_cons (pe_dget (hu_of hr) (pv 4) (pv 8) (fun _ _ => rfl)) pa_nil))) pa_nil)))))) pa_nil)) pa_nil)))))))), ?_⟩
  · obtain ⟨b, m, n, rfl, _⟩ := h; rfl
  obtain ⟨b, m, n, rfl, m1, m4, bx0, hn, q⟩ := h
  refine ⟨_, rfl, _, rfl, _, rfl, _, _, rfl, rfl, .inl ⟨by omega, by omega⟩, b, m, 2 * m, n, rfl, m1, m4, by omega, bx0, hn, fun M H1 D bt bx mo ok hl htl => ?_⟩
  obtain ⟨a, t, l, hM, ha, ⟨as, ht, htt⟩, hlim⟩ := id mo
  have las := Paired.length htt
  have l8 : D.ev.length ≤ 8 := ok.le
  refine ⟨M, _, rfl, sq hM, rfl, _, _, rfl, _, _, rfl, _, _, rfl, rfl, ?_⟩
  -- the ties
  refine ⟨_, rfl, t, rfl, ⟨_, sq ht⟩, fun F hF => lc_it wk_list (fun i H' => Same H1 H' ∧ TiesAt H' F ((D.ties.take i).map clip)) ⟨same_new hF, [], upd_same, .nil⟩ (fun i H' _ p => sq (p.1 _ _ ht)) (fun i v H2 H3 hi p y => ?_) fun H2 p2 => ?_⟩
  · obtain ⟨s2, bs, f1, f2⟩ := p
    obtain ⟨rfl, hx⟩ := y
    obtain ⟨p0, hp0, rfl⟩ := map_at hx
    obtain ⟨ti, hti, hpt⟩ := paired_get htt hp0
    have lb := Paired.length f2
    rw [List.length_map] at lb
    have := take_len D.ties i
    have hi60 : i < 60 := by have := (List.getElem?_eq_some_iff.mp hti).1; have : D.ties.length ≤ 60 := ok.tle; omega
    refine ⟨p0, _, rfl, st (s2 _ _ hpt), rfl, _, _, rfl, _, _, rfl, _, _, rfl, rfl, rfl, _, rfl, _, rfl, _, rfl, _, _, rfl, rfl, decide (ti.2.2 < 3), rfl, ?_⟩
    have fin : ∀ z : Int, z = (clip ti).2.2 → ∀ T, H3 T = none → ∃ acc, (upd H3 T (.tup [.str ti.1, .str ti.2.1, .int z])) F = some (.lst acc) ∧ acc.length < sizeLine ∧ Same H1 (upd (upd H3 T (.tup [.str ti.1, .str ti.2.1, .int z])) F (.lst (acc ++ [.ref T]))) ∧
        TiesAt (upd (upd H3 T (.tup [.str ti.1, .str ti.2.1, .int z])) F (.lst (acc ++ [.ref T]))) F ((D.ties.take (i + 1)).map clip) := fun z hz T hT => by
      have n : T ≠ F := fun e => by rw [e, f1] at hT; cases hT
      refine ⟨bs.map V.ref, same_new hT _ _ f1, by rw [List.length_map]; exact sz_lt (by omega), Same.mut (Same.new s2 hT) hF, bs ++ [T], by rw [upd_same, List.map_append]; rfl, ?_⟩
      rw [map_take_succ hti]
      refine paired_app (Paired.mapP f2 fun u y zz => ?_) (.cons ?_ .nil)
      · rw [upd_ne (ne_of zz f1 (by intro e; cases e))]
        exact same_new hT _ _ zz
      · rw [upd_ne n, upd_same, hz]; rfl
    by_cases h3 : ti.2.2 < 3
    · rw [decide_eq_true h3]
      exact ⟨_, rfl, by show 3 ≤ sizeLine; decide, fin _ (if_pos h3).symm⟩
    · rw [decide_eq_false h3]
      exact ⟨by show 3 ≤ sizeLine; decide, fin _ (if_neg h3).symm⟩
  obtain ⟨s2, tA⟩ := p2
  rw [List.length_map, las, List.take_length] at tA
  refine ⟨_, rfl, _, rfl, ?_⟩
  -- the limits
  have hl2 : H2 l = some (.dK (kv V.int D.ls)) := s2 _ _ hlim
  refine ⟨l, _, hl2, trivial, fun od => ?_⟩
  have fl : (upd H2 l (.frz od (.dK (kv V.int D.ls)))) l = some (.frz od (.dK (kv V.int D.ls))) := upd_same
  have back : ∀ H', Same (upd H2 l (.frz od (.dK (kv V.int D.ls)))) H' → Same H2 (upd H' l (.dK (kv V.int D.ls))) := fun H' s => Same.unlock hl2 s
  generalize upd H2 l (.frz od (.dK (kv V.int D.ls))) = H4 at fl back
  have lls : D.ls.length ≤ 8 := Nat.le_trans (lim_len ok.lnd fun p hp => (ok.lin p hp).1) l8
  refine ⟨_, rfl, l, od, rfl, .inl ⟨_, fl, fun G hG => lc_it wk_keys (fun i H' => Same H4 H' ∧ PsAt H' G ((D.ls.take i).map cap3)) ⟨same_new hG, .nil⟩ (fun i H' _ p => p.1 _ _ fl) (fun i v H5 H6 hi p y => ?_) fun H5 p5 => ?_⟩⟩
  · obtain ⟨s5, f1⟩ := p
    obtain ⟨rfl, k, vv, hk, rfl⟩ := y
    obtain ⟨p0, hp0, rfl, rfl⟩ := kv_at _ hk
    refine ⟨rfl, _, rfl, _, rfl, _, rfl, l, .int p0.2, rfl, .inl ⟨_, Sum.inr p0.1, .inr ⟨od, s5 _ _ fl⟩, rfl, by rw [kv_val, lk_of ok.lnd (List.mem_of_getElem? hp0)]; rfl⟩, _, _, rfl, by show 2 ≤ sizeLine; decide, fun T hT => ?_⟩
    obtain ⟨acc, w1, w2, w3⟩ := f1.step (x := p0.1) (v := if p0.2 < 3 then p0.2 else 3) hT (by rw [List.length_map]; have := take_len D.ls i; have := (List.getElem?_eq_some_iff.mp hp0).1; omega)
    exact ⟨acc, w1, w2, Same.mut (Same.new s5 hT) hG, by rw [map_take_succ hp0]; exact w3⟩
  obtain ⟨s5, ps, g1, g2⟩ := p5
  rw [kv_len, List.take_length] at g2
  refine ⟨s5 _ _ fl, ?_⟩
  have s6 := back _ s5
  have nGl : G ≠ l := fun z => by rw [z, fl] at hG; cases hG
  have g3 : (upd H5 l (.dK (kv V.int D.ls))) G = some (.lst (ps.map V.ref)) := by rw [upd_ne nGl]; exact g1
  have g4 : Paired (fun p (q : Str × Int) => (upd H5 l (.dK (kv V.int D.ls))) p = some (.tup [.str q.1, .int q.2])) ps (D.ls.map cap3) := Paired.mapP g2 fun u y z => by
    rw [upd_ne (ne_of z (s5 _ _ fl) (by intro e; cases e))]
    exact z
  generalize upd H5 l (.dK (kv V.int D.ls)) = H6 at s6 g3 g4
  refine ⟨G, ps, _, rfl, sq g3, pairs_kv g4, fun L hL => ⟨by show 3 ≤ sizeLine; decide, fun N hN => ?_⟩⟩
  rw [merge_nil (by rw [cap3_keys]; exact ok.lnd)] at hN ⊢
  have s7 := Same.new (o := .dK (kv V.int (D.ls.map cap3))) s6 hL
  have s8 := Same.trans s2 (Same.new (o := .lst [.ref a, .ref F, .ref L]) s7 hN)
  have st7 := tA.same (Same.new (o := .lst [.ref a, .ref F, .ref L]) s7 hN)
  exact q N _ ⟨D.ev, D.ties.map clip, D.ls.map cap3⟩ (bt.trans (But.of s8)) (bx.same s8) ⟨a, F, L, upd_same, s8 _ _ ha, st7, same_new hN _ _ upd_same⟩ (small_ok ok) hl
/-- lists of texts in a list at E; none of them at one of X -/
def LsAt (H : Hp) (E : Addr) (X : List Addr) (rows : List (List Str)) : Prop := ∃ es, H E = some (.lst (es.map V.ref)) ∧ Paired (fun p (l : List Str) => H p = some (.lst (l.map V.str)) ∧ ∀ z ∈ X, p ≠ z) es rows
theorem LsAt.logs {H : Hp} {E : Addr} {X : List Addr} {rows : List (List Str)} (h : LsAt H E X rows) : LogsAt H E rows := let ⟨es, a, b⟩ := h; ⟨es, a, Paired.mapP b fun _ _ z => z.1⟩
abbrev N_law_lists : List Str := ["_law_marks", "_law_most", "_law_found", "_law_level_rows", "_law_turn", "_law_longer", "_law_row", "_law_event"]
theorem sc_law_lists : FnScope N_law_lists ["_law_marks", "_law_most"] (defScope s_law_lists) := ⟨rfl, rfl, rfl, by decide +kernel, rfl, by decide +kernel, by decide +kernel⟩
def sp_lists : Sp := fun vs H Q _ => ∃ (a : Addr) (m : Nat) (ev : List Str), vs = [.ref a, .int (m : Int)] ∧ m ≤ 4 ∧ H a = some (.lst (ev.map V.str)) ∧ ev.length ≤ 4 ∧ ∀ F H' rows, Same H H' → LogsAt H' F rows → (∀ r ∈ rows, r.length ≤ 4 ∧ ∀ x ∈ r, x ∈ ev) → Q (.ref F) H'
theorem k_law_lists (W : Ws K mg CP CT) (D : Def K mg "_law_lists" s_law_lists) : Cal P w K mg base 1 "_law_lists" ["_law_marks", "_law_most"] sp_lists := by
  refine D.cal sc_law_lists (fun _ _ _ _ _ _ us hl => match us, hl with | [_, _], _ => rfl) (fun vs H Q E h => ?_) fun f cdv A outer s H vs Q E hr h => ⟨_, (pss_cons (ps_par (i := 2) (j := 3) (by rfl) sc_law_lists.nd rfl rfl (by decide) rfl rfl (pa_cons (pe_lst (pa_cons (pe_lst pa_nil) pa_nil)) (pa_cons (pe_lst (pa_cons (pe_lst pa_nil) pa_nil)) pa_nil)) (by rfl))
      (pss_cons (ps_for PassesOwn.never rfl (pi_range1 (by rfl) W.f_range (pa_cons (pv 1) pa_nil)) (pg_name (i := 4) sc_law_lists.nd rfl (by first | exact Or.inl rfl | exact Or.inr rfl)) (pss_cons (ps_set (i := 5) sc_law_lists.nd rfl (by first | exact Or.inl rfl | exact Or.inr rfl) (pe_lst pa_nil))
      (pss_cons (ps_for PassesOwn.never rfl (pi_listK (K := K) (pv 3)) (pg_name (i := 6) sc_law_lists.nd rfl (by first | exact Or.inl rfl | exact Or.inr rfl)) (pss_one (ps_expr (pe_bm PySem.F.plainAttrs_list PySem.F.slot_list_extend PySem.F.type_list_extend mt_extend (pv 5) (pa_cons (pe_lc (own := [("_law_event", 7)]) (g := (gName 7)) (tt := tYes) rfl sc_law_lists.nd (pi_listK (K := K) (pv 0)) (blkOk_by (own := [("_law_event", 7)]) (N := N_law_lists) (sc := defScope s_law_lists) (by decide +kernel)) (fun _ _ _ _ _ => (pg_name (i := 7) sc_law_lists.nd rfl (by first | exact Or.inl rfl | exact Or.inr rfl))) (fun _ _ _ _ _ => pts_nil) (fun _ _ _ _ _ => (pe_op op_cat (pv 6) (pe_lst (pa_cons (pv 7) pa_nil))))) pa_nil)))))
      (pss_one (ps_par (i := 2) (j := 3) (by rfl) sc_law_lists.nd rfl rfl (by decide) rfl rfl (pa_cons (pe_op op_cat (pv 2) (pv 5)) (pa_cons (pv 5) pa_nil)) (by rfl))))))
      (pss_one (ps_ret (pv 2))))), ?_⟩
  · obtain ⟨a, m, ev, rfl, _⟩ := h; rfl
  obtain ⟨a, m, ev, rfl, hm, ha, l4, q⟩ := h
  refine ⟨Nat.zero_le _, fun e1 he1 => ⟨by show 1 ≤ sizeLine; decide, fun F hF => ⟨Nat.zero_le _, fun e2 he2 => ⟨by show 1 ≤ sizeLine; decide, fun G hG => ⟨_, _, rfl, ?_⟩⟩⟩⟩⟩
  have s1 := same_new (o := .lst []) he1
  have s2 := Same.new (o := .lst [.ref e1]) s1 hF
  have s3 := Same.new (o := .lst []) s2 he2
  have s4 := Same.new (o := .lst [.ref e2]) s3 hG
  have k4 := Same.new (o := .lst [.ref e2]) (same_new (o := .lst []) he2) hG
  have lF : LogsAt (upd (upd (upd (upd H e1 (.lst [])) F (.lst [.ref e1])) e2 (.lst [])) G (.lst [.ref e2])) F [[]] := ⟨[e1], k4 _ _ upd_same, .cons (k4 _ _ (same_new hF _ _ upd_same)) .nil⟩
  have lG : LogsAt (upd (upd (upd (upd H e1 (.lst [])) F (.lst [.ref e1])) e2 (.lst [])) G (.lst [.ref e2])) G [[]] := ⟨[e2], upd_same, .cons (same_new hG _ _ upd_same) .nil⟩
  generalize upd (upd (upd (upd H e1 (.lst [])) F (.lst [.ref e1])) e2 (.lst [])) G (.lst [.ref e2]) = H1 at s4 lF lG
  have all0 : ∀ r ∈ ([[]] : List (List Str)), r.length ≤ 0 ∧ ∀ x ∈ r, x ∈ ev := fun r hr => by
    rw [List.mem_singleton.mp hr]
    exact ⟨Nat.le_refl _, fun x h => by cases h⟩
  refine ⟨_, rfl, _, rfl, by omega, by omega, for_it wk_rng (fun i σ H' => Same H H' ∧ (∃ F G rows lev, LogsAt H' F rows ∧ LogsAt H' G lev ∧ (∀ r ∈ rows, r.length ≤ i ∧ ∀ x ∈ r, x ∈ ev) ∧ (∀ r ∈ lev, r.length ≤ i ∧ ∀ x ∈ r, x ∈ ev) ∧ lev.length ≤ 4 ^ i ∧ rows.length ≤ 1 + 256 * i ∧ ∃ u4 u5 u6 u7, σ = [some (.ref a), some (.int (m : Int)), some (.ref F), some (.ref G), u4, u5, u6, u7]))
    ⟨s4, F, G, _, _, lF, lG, all0, all0, Nat.le_refl _, Nat.le_refl _, _, _, _, _, rfl⟩ (fun _ _ _ _ _ => trivial) (fun i v σ H2 H3 hi p y => ?_) fun σ H2 p2 => ?_⟩
  · obtain ⟨s2, F, G, rows, lev, lF, lG, rF, rG, zG, zF, u4, u5, u6, u7, rfl⟩ := p
    obtain ⟨rfl, rfl⟩ := y
    have hi4 : i < 4 := by omega
    have p4 : 4 ^ (i + 1) ≤ 256 := by
      have c4 : i = 0 ∨ i = 1 ∨ i = 2 ∨ i = 3 := by omega
      rcases c4 with rfl | rfl | rfl | rfl <;> decide
    have e4 : 4 ^ (i + 1) = 4 ^ i * 4 := Nat.pow_succ ..
    obtain ⟨gs, gG, gp⟩ := id lG
    have gl := Paired.length gp
    refine ⟨Nat.zero_le _, fun N hN => ?_⟩
    have s3 := Same.new (o := .lst []) s2 hN
    have sN := same_new (o := .lst []) hN
    have hN0 := s2.free hN
    refine ⟨_, rfl, G, rfl, ⟨_, sq (sN _ _ gG)⟩, for_it wk_list (fun j σ H' => Same H3 H' ∧ (∃ new, LsAt H' N [N] new ∧ (∀ r ∈ new, r.length ≤ i + 1 ∧ ∀ x ∈ r, x ∈ ev) ∧ new.length ≤ 4 * j) ∧ ∃ u4 u6 u7, σ = [some (.ref a), some (.int (m : Int)), some (.ref F), some (.ref G), u4, some (.ref N), u6, u7])
      ⟨sN, ⟨[], ⟨[], upd_same, .nil⟩, (fun r h => by cases h), Nat.le_refl _⟩, _, _, _, rfl⟩ (fun j σ H' _ p => sq (p.1 _ _ gG)) (fun j v σ H4 H5 hj p y => ?_) fun σ H4 p4 => ?_⟩
    · obtain ⟨s4, ⟨new, ⟨ns, nN, np⟩, rN, zN⟩, u4, u6, u7, rfl⟩ := p
      obtain ⟨rfl, hx⟩ := y
      obtain ⟨g0, hg0, rfl⟩ := map_at hx
      obtain ⟨row, hrow, hgr⟩ := paired_get gp hg0
      obtain ⟨rl, rin⟩ := rG row (List.mem_of_getElem? hrow)
      have hj2 : j < 4 ^ i := by have := (List.getElem?_eq_some_iff.mp hrow).1; omega
      have nl := Paired.length np
      have s4' := Same.trans s2 s4
      refine ⟨_, rfl, .inl ⟨rfl, _, sq nN⟩, ?_⟩
      refine ⟨_, rfl, a, rfl, ⟨_, sq (s4' _ _ ha)⟩, fun E hE => lc_it wk_list (fun k H' => Same H5 H' ∧ (∃ new, LsAt H' E [E, N] new ∧ (∀ r ∈ new, r.length ≤ i + 1 ∧ ∀ x ∈ r, x ∈ ev) ∧ new.length = k)) ⟨same_new hE, [], ⟨[], upd_same, .nil⟩, (fun r h => by cases h), rfl⟩ (fun k H' _ p => sq (p.1 _ _ (s4' _ _ ha))) (fun k v H6 H7 hk p y => ?_) fun H6 p6 => ?_⟩
      · obtain ⟨s6, new6, ⟨es, eE, ep⟩, rE, zE⟩ := p
        obtain ⟨rfl, hx⟩ := y
        obtain ⟨x, hx', rfl⟩ := map_at hx
        have hxm := List.mem_of_getElem? hx'
        have el := Paired.length ep
        refine ⟨rfl, _, rfl, _, rfl, by show 1 ≤ sizeLine; decide, fun T hT => ⟨g0, T, row.map V.str, [.str x], rfl, rfl, same_new hT _ _ (s6 _ _ (s4 _ _ hgr)), upd_same, by rw [List.length_map]; exact sz_le (by show row.length + 1 ≤ _; omega), fun U hU => ?_⟩⟩
        have t1 := Same.new (o := .lst (row.map V.str ++ [.str x])) (same_new (o := .lst [.str x]) hT) hU
        have t0 := same_new (o := .lst [.str x]) hT
        have nUE : U ≠ E := fun z => by rw [z, t0 _ _ eE] at hU; cases hU
        have nUN : U ≠ N := fun z => by rw [z, t0 _ _ (s6 _ _ nN)] at hU; cases hU
        refine ⟨_, t1 _ _ eE, by rw [List.length_map]; have : k < (ev.map V.str).length := hk; rw [List.length_map] at this; exact sz_lt (by omega), Same.mut (Same.trans s6 t1) hE, new6 ++ [row ++ [x]], ⟨es ++ [U], by rw [upd_same, List.map_append]; rfl, paired_app (Paired.mapP ep fun u y z => ⟨?_, z.2⟩) (.cons ⟨?_, fun z hz => ?_⟩ .nil)⟩, fun r hr => ?_, by rw [List.length_append, zE]; rfl⟩
        · rw [upd_ne (z.2 E (List.mem_cons_self ..))]; exact t1 _ _ z.1
        · rw [upd_ne nUE, upd_same, List.map_append]; rfl
        · rcases List.mem_cons.mp hz with hz | hz
          · rw [hz]; exact nUE
          · rw [List.mem_singleton.mp hz]; exact nUN
        · rcases List.mem_append.mp hr with hr | hr
          · exact rE r hr
          · rw [List.mem_singleton.mp hr]
            refine ⟨by rw [List.length_append]; show _ + 1 ≤ _; omega, fun y hy => ?_⟩
            rcases List.mem_append.mp hy with hy | hy
            · exact rin y hy
            · rw [List.mem_singleton.mp hy]; exact hxm
      obtain ⟨s6, new6, ⟨es, eE, ep⟩, rE, zE⟩ := p6
      have el := Paired.length ep
      rw [List.length_map] at zE
      refine ⟨N, E, _, _, rfl, rfl, s6 _ _ nN, eE, by rw [List.length_map, List.length_map]; exact sz_le (by omega), Same.mut (Same.trans s4 s6) hN, ⟨new ++ new6, ⟨ns ++ es, by rw [upd_same, List.map_append], paired_app (Paired.mapP np fun u y z => ⟨?_, z.2⟩) (Paired.mapP ep fun u y z => ⟨?_, fun z' hz' => z.2 z' (List.mem_cons_of_mem _ hz')⟩)⟩, fun r hr => ?_, by rw [List.length_append]; omega⟩, _, _, _, rfl⟩
      · rw [upd_ne (z.2 N (List.mem_cons_self ..))]; exact s6 _ _ z.1
      · rw [upd_ne (z.2 N (List.mem_cons_of_mem _ (List.mem_cons_self ..)))]; exact z.1
      · rcases List.mem_append.mp hr with hr | hr
        · exact rN r hr
        · exact rE r hr
    · obtain ⟨s4, ⟨new, rw_, rN, zN⟩, u4, u6, u7, rfl⟩ := p4
      obtain ⟨ns, nN, np⟩ := rw_.logs
      obtain ⟨fs, fF, fp⟩ := lF.same s4
      have nl := Paired.length np
      have fl := Paired.length fp
      rw [List.length_map] at zN
      refine ⟨_, rfl, _, rfl, F, N, _, _, rfl, rfl, fF, nN, by rw [List.length_map, List.length_map]; exact sz_le (by omega), fun U hU => ⟨_, rfl, _, _, rfl, ?_⟩⟩
      have sU := same_new (o := .lst (fs.map V.ref ++ ns.map V.ref)) hU
      refine ⟨Same.trans s2 (Same.trans s4 sU), U, N, rows ++ new, new, ⟨fs ++ ns, by rw [upd_same, List.map_append], paired_app (Paired.mapP fp fun u y z => sU _ _ z) (Paired.mapP np fun u y z => sU _ _ z)⟩, rw_.logs.same sU, fun r hr => ?_, rN, by omega, by rw [List.length_append]; omega, _, _, _, _, rfl⟩
      rcases List.mem_append.mp hr with hr | hr
      · exact ⟨by have := (rF r hr).1; omega, (rF r hr).2⟩
      · exact rN r hr
  · obtain ⟨s2, F, G, rows, lev, lF, lG, rF, rG, zG, zF, u4, u5, u6, u7, rfl⟩ := p2
    exact ⟨_, rfl, q F H2 rows s2 lF fun r hr => ⟨by have := (rF r hr).1; omega, (rF r hr).2⟩⟩
end
end Pk
end
section
set_option maxHeartbeats 1000000
namespace Pk
open PySem PySem.Spec PyProof.Rows L2
/-! ### counts alike -/
theorem ct_canon {ev : List Str} : ∀ {cs : List (Str × Int)}, cs.map (·.1) = ev → ev.Nodup → ∀ f : Str → Int, (∀ p ∈ cs, f p.1 = p.2) → cs = ev.map fun x => (x, f x) := fun {cs} h _ f hf => by
  subst h
  rw [List.map_map]
  conv => lhs; rw [← List.map_id cs]
  refine List.map_congr_left fun p hp => ?_
  show p = (p.1, f p.1)
  rw [hf p hp]
theorem cf_of {cs : List (Str × Int)} (nd : (cs.map (·.1)).Nodup) {p : Str × Int} (h : p ∈ cs) : cf cs p.1 = p.2 := by
  unfold cf
  rw [lk_of nd (v := p.2) h]
  rfl
theorem ct_ext {ev : List Str} {cs cs' : List (Str × Int)} (h : cs.map (·.1) = ev) (h' : cs'.map (·.1) = ev) (nd : ev.Nodup) (e : ∀ x ∈ ev, cf cs x = cf cs' x) : cs = cs' := by
  rw [ct_canon h nd (cf cs) (fun p hp => cf_of (h ▸ nd) hp), ct_canon h' nd (cf cs') (fun p hp => cf_of (h' ▸ nd) hp)]
  exact List.map_congr_left fun x hx => by rw [e x hx]
theorem alike_ct {ev : List Str} {cs cs' : List (Str × Int)} (h : cs.map (·.1) = ev) (h' : cs'.map (·.1) = ev) (nd : ev.Nodup) : alikeK (kv V.int cs) (kv V.int cs') = decide (cs' = cs) := by
  have len : (kv V.int cs).length = (kv V.int cs').length := by
    rw [kv_len, kv_len]
    have a := congrArg List.length h
    have b := congrArg List.length h'
    rw [List.length_map] at a b
    omega
  unfold alikeK
  rw [beq_iff_eq.mpr len, Bool.true_and, Bool.eq_iff_iff, decide_eq_true_iff, List.all_eq_true]
  constructor
  · intro q
    refine ct_ext h' h nd fun x hx => ?_
    have hx' : x ∈ cs.map (·.1) := h ▸ hx
    obtain ⟨p, hp, rfl⟩ := List.mem_map.mp hx'
    have := of_decide_eq_true (q (Sum.inr p.1, V.int p.2) (List.mem_map.mpr ⟨p, hp, rfl⟩))
    have this : valV (kv V.int cs') (Sum.inr p.1) = some (V.int p.2) := this
    rw [kv_val] at this
    obtain ⟨v, hv, e⟩ := Option.map_eq_some_iff.mp this
    cases e
    rw [cf_of (h ▸ nd) hp]
    unfold cf
    rw [hv]
    rfl
  · intro e p hp
    obtain ⟨q, hq, rfl⟩ := List.mem_map.mp hp
    subst e
    refine decide_eq_true ?_
    show valV (kv V.int cs') (Sum.inr q.1) = some (V.int q.2)
    rw [kv_val, lk_of (h' ▸ nd) (v := q.2) hq]
    rfl
/-! ### pools of counts -/
structure Pool (D : PD) (hid : List Str) (vis : Str → Int) (css : List (List (Str × Int))) : Prop where
  nd : css.Nodup
  keys : ∀ cs ∈ css, cs.map (·.1) = D.ev
  mom : ∀ cs ∈ css, Pu.Mom D.pl (cf cs)
  lt : ∀ cs ∈ css, ∀ x ∈ D.ev, x ∈ hid → cf cs x < 9
  eq : ∀ cs ∈ css, ∀ x ∈ D.ev, x ∉ hid → cf cs x = vis x
def allc (vals : Str → List Int) : List Str → List (List (Str × Int))
  | [] => [[]]
  | x :: ev => (vals x).flatMap fun v => (allc vals ev).map fun r => (x, v) :: r
theorem flat_len {α β γ : Type} (L : List α) (f : γ → α → β) : ∀ vs : List γ, (vs.flatMap fun v => L.map (f v)).length = vs.length * L.length
  | [] => by rw [List.flatMap_nil, List.length_nil, List.length_nil, Nat.zero_mul]
  | v :: vs => by
    rw [List.flatMap_cons, List.length_append, List.length_map, flat_len L f vs, List.length_cons, Nat.succ_mul]
    omega
theorem allc_len {vals : Str → List Int} (h : ∀ x, (vals x).length ≤ 9) : ∀ ev : List Str, (allc vals ev).length ≤ 9 ^ ev.length
  | [] => Nat.le_refl _
  | x :: ev => by
    show ((vals x).flatMap fun v => (allc vals ev).map fun r => (x, v) :: r).length ≤ 9 ^ (ev.length + 1)
    rw [flat_len, Nat.pow_succ, Nat.mul_comm]
    exact Nat.mul_le_mul (allc_len h ev) (h x)
theorem allc_mem {vals : Str → List Int} : ∀ {cs : List (Str × Int)} {ev : List Str}, cs.map (·.1) = ev → (∀ p ∈ cs, p.2 ∈ vals p.1) → cs ∈ allc vals ev
  | [], _, h, _ => by subst h; exact List.mem_singleton.mpr rfl
  | p :: cs, _, h, hv => by
    subst h
    show p :: cs ∈ (vals p.1).flatMap fun v => (allc vals (cs.map (·.1))).map fun r => (p.1, v) :: r
    rw [List.mem_flatMap]
    exact ⟨p.2, hv p (List.mem_cons_self ..), List.mem_map.mpr ⟨cs, allc_mem rfl fun q hq => hv q (List.mem_cons_of_mem _ hq), rfl⟩⟩
theorem Pool.len {D : PD} {hid : List Str} {vis : Str → Int} {css : List (List (Str × Int))} (h : Pool D hid vis css) (ok : PdOk D) (l4 : D.ev.length ≤ 4) : css.length ≤ 6561 := by
  have h9 : ∀ x, (if x ∈ hid then ([0, 1, 2, 3, 4, 5, 6, 7, 8] : List Int) else [vis x]).length ≤ 9 := fun x => by split <;> simp
  have := nodup_len (l' := allc (fun x => if x ∈ hid then [0, 1, 2, 3, 4, 5, 6, 7, 8] else [vis x]) D.ev) h.nd fun cs hcs => allc_mem (h.keys cs hcs) fun p hp => by
    have hpe : p.1 ∈ D.ev := h.keys cs hcs ▸ List.mem_map.mpr ⟨p, hp, rfl⟩
    have e : cf cs p.1 = p.2 := cf_of ((h.keys cs hcs).symm ▸ ok.nd) hp
    show p.2 ∈ if p.1 ∈ hid then ([0, 1, 2, 3, 4, 5, 6, 7, 8] : List Int) else [vis p.1]
    by_cases hh : p.1 ∈ hid
    · rw [if_pos hh]
      have h1 := h.lt cs hcs _ hpe hh
      have h2 := (h.mom cs hcs).1 _ hpe
      rw [e] at h1 h2
      have : p.2 = 0 ∨ p.2 = 1 ∨ p.2 = 2 ∨ p.2 = 3 ∨ p.2 = 4 ∨ p.2 = 5 ∨ p.2 = 6 ∨ p.2 = 7 ∨ p.2 = 8 := by omega
      rcases this with e | e | e | e | e | e | e | e | e <;> rw [e] <;> simp
    · rw [if_neg hh]
      rw [← h.eq cs hcs _ hpe hh, e]
      exact List.mem_singleton.mpr rfl
  have h2 := allc_len h9 D.ev
  have h3 : 9 ^ D.ev.length ≤ 9 ^ 4 := Nat.pow_le_pow_right (by decide) l4
  have h4 : 9 ^ 4 = 6561 := by decide
  omega
theorem Pool.add {D : PD} {hid : List Str} {vis : Str → Int} {css : List (List (Str × Int))} {cs : List (Str × Int)} (h : Pool D hid vis css) (hn : cs ∉ css) (hk : cs.map (·.1) = D.ev) (hm : Pu.Mom D.pl (cf cs)) (hl : ∀ x ∈ D.ev, x ∈ hid → cf cs x < 9) (he : ∀ x ∈ D.ev, x ∉ hid → cf cs x = vis x) : Pool D hid vis (css ++ [cs]) := by
  have two : ∀ {p : List (Str × Int) → Prop}, (∀ c ∈ css, p c) → p cs → ∀ c ∈ css ++ [cs], p c := fun a b c hc => by
    rcases List.mem_append.mp hc with hc | hc
    · exact a c hc
    · rw [List.mem_singleton.mp hc]; exact b
  refine ⟨?_, two h.keys hk, two h.mom hm, two h.lt hl, two h.eq he⟩
  rw [List.nodup_append]
  exact ⟨h.nd, by simp, fun a ha b hb => by rw [List.mem_singleton.mp hb]; exact fun z => hn (z ▸ ha)⟩
theorem Pool.nil {D : PD} {hid : List Str} {vis : Str → Int} : Pool D hid vis [] := ⟨List.nodup_nil, (fun _ h => by cases h), (fun _ h => by cases h), (fun _ h => by cases h), fun _ h => by cases h⟩
/-- a list of counts at L -/
def StAt (H : Hp) (L : Addr) (ev : List Str) (css : List (List (Str × Int))) : Prop := ∃ ss, H L = some (.lst (ss.map V.ref)) ∧ Paired (fun p cs => CtAt H p ev cs) ss css
theorem StAt.same {H H' : Hp} {L : Addr} {ev : List Str} {css : List (List (Str × Int))} (h : StAt H L ev css) (s : Same H H') : StAt H' L ev css := let ⟨ss, a, b⟩ := h; ⟨ss, s _ _ a, Paired.mapP b fun _ _ z => z.same s⟩
theorem cts_upd {H : Hp} {a : Addr} {ev : List Str} {ss : List Addr} {css : List (List (Str × Int))} {xs : List V} {o : HO} (h : Paired (fun p cs => CtAt H p ev cs) ss css) (ha : H a = some (.lst xs)) : Paired (fun p cs => CtAt (upd H a o) p ev cs) ss css :=
  Paired.mapP h fun u y z => ⟨by rw [upd_ne (ne_of z.at_ ha (by intro e; cases e))]; exact z.at_, z.keys⟩
theorem StAt.push {H : Hp} {L N : Addr} {ev : List Str} {css : List (List (Str × Int))} {cs : List (Str × Int)} (h : StAt H L ev css) (hN : CtAt H N ev cs) : ∃ xs, H L = some (.lst xs) ∧ xs.length = css.length ∧ StAt (upd H L (.lst (xs ++ [.ref N]))) L ev (css ++ [cs]) := by
  obtain ⟨ss, a, b⟩ := h
  refine ⟨_, a, by rw [List.length_map]; exact Paired.length b, ss ++ [N], by rw [upd_same, List.map_append]; rfl, paired_app (cts_upd b a) (.cons ⟨?_, hN.keys⟩ .nil)⟩
  rw [upd_ne (ne_of hN.at_ a (by intro e; cases e))]
  exact hN.at_
theorem StAt.other {H : Hp} {L L' : Addr} {ev : List Str} {css : List (List (Str × Int))} {xs : List V} {o : HO} (h : StAt H L' ev css) (ha : H L = some (.lst xs)) (n : L' ≠ L) : StAt (upd H L o) L' ev css := let ⟨ss, a, b⟩ := h; ⟨ss, by rw [upd_ne n]; exact a, cts_upd b ha⟩
theorem CtAt.other {H : Hp} {L C : Addr} {ev : List Str} {cs : List (Str × Int)} {xs : List V} {o : HO} (h : CtAt H C ev cs) (ha : H L = some (.lst xs)) : CtAt (upd H L o) C ev cs := ⟨by rw [upd_ne (ne_of h.at_ ha (by intro e; cases e))]; exact h.at_, h.keys⟩
theorem zip_any {H : Hp} {ev : List Str} {N : Addr} {cs' : List (Str × Int)} (h' : cs'.map (·.1) = ev) (nd : ev.Nodup) : ∀ {ss : List Addr} {css : List (List (Str × Int))}, Paired (fun p cs => CtAt H p ev cs ∧ p ≠ N) ss css →
    ((ss.zip (css.map (kv V.int))).any fun p => decide (p.1 = N) || alikeK p.2 (kv V.int cs')) = decide (cs' ∈ css)
  | _, _, .nil => by simp
  | _, _, .cons (a := a) (b := b) h t => by
    rw [List.map_cons, List.zip_cons_cons, List.any_cons, zip_any h' nd t]
    show ((decide (a = N) || alikeK (kv V.int b) (kv V.int cs')) || _) = _
    rw [alike_ct h.1.keys h' nd, decide_eq_false h.2, Bool.false_or]
    by_cases e : cs' = b
    · simp [e]
    · simp [e]
theorem ints_kv (cs : List (Str × Int)) : ∀ p ∈ kv V.int cs, ∃ i, p.2 = V.int i := fun p hp => by
  obtain ⟨q, _, rfl⟩ := List.mem_map.mp hp
  exact ⟨q.2, rfl⟩
theorem kbs_of {H : Hp} {ev : List Str} {N : Addr} : ∀ {ss : List Addr} {css : List (List (Str × Int))}, Paired (fun p cs => CtAt H p ev cs ∧ p ≠ N) ss css → Paired (fun b (kb : List (Key × V)) => H b = some (.dK kb) ∧ ∀ p ∈ kb, ∃ i, p.2 = V.int i) ss (css.map (kv V.int))
  | _, _, .nil => .nil
  | _, _, .cons h t => .cons ⟨h.1.at_, ints_kv _⟩ (kbs_of t)
/-- the reading of: counts not in the list -/
theorem notin_st {K : PySem.W.Frag} {H : Hp} {L N : Addr} {ev : List Str} {css : List (List (Str × Int))} {cs' : List (Str × Int)} {Q : VK} (h : StAt H L ev css) (hN : H N = none) (h' : cs'.map (·.1) = ev) (nd : ev.Nodup)
    (q : Q (.bl (!decide (cs' ∈ css))) (upd H N (.dK (kv V.int cs')))) : rNotInK K (.ref N) (.ref L) (upd H N (.dK (kv V.int cs'))) Q := by
  obtain ⟨ss, a, b⟩ := h
  have s := same_new (o := .dK (kv V.int cs')) hN
  have b' : Paired (fun p cs => CtAt (upd H N (.dK (kv V.int cs'))) p ev cs ∧ p ≠ N) ss css := Paired.mapP b fun u y z => ⟨z.same s, fun e => by rw [e] at z; have := z.at_; rw [hN] at this; cases this⟩
  refine ⟨N, L, ss, _, css.map (kv V.int), rfl, rfl, sq (s _ _ a), upd_same, ints_kv _, kbs_of b', ?_⟩
  rw [zip_any h' nd b']
  exact q
def ClosedAt (D : PD) (hid : List Str) (css : List (List (Str × Int))) (cs : List (Str × Int)) : Prop := ∀ x ∈ hid, cf cs x + 1 < 9 → Pu.Mom D.pl (Pu.bump (cf cs) x) → ∃ cs' ∈ css, cf cs' = Pu.bump (cf cs) x
theorem ClosedAt.mono {D : PD} {hid : List Str} {css css' : List (List (Str × Int))} {cs : List (Str × Int)} (h : ClosedAt D hid css cs) (s : ∀ c ∈ css, c ∈ css') : ClosedAt D hid css' cs := fun x hx a b => let ⟨c, hc, e⟩ := h x hx a b; ⟨c, s c hc, e⟩
section
variable {P : Program} {w : World} {K : PySem.W.Frag} {mg : Str → Option Value} {base : Heap} {CP CT : Addr}
abbrev N_law_hidden : List Str := ["_law_model_here", "_law_states", "_law_hidden_here", "_law_found", "_law_waiting", "_law_counts", "_law_event", "_law_more"]
theorem sc_law_hidden : FnScope N_law_hidden ["_law_model_here", "_law_states", "_law_hidden_here"] (defScope s_law_hidden) := ⟨rfl, rfl, rfl, by decide +kernel, rfl, by decide +kernel, by decide +kernel⟩
def sp_hidden : Sp := fun vs H Q _ => ∃ (M S Hd : Addr) (D : PD) (hid : List Str) (vis : Str → Int) (css : List (List (Str × Int))), vs = [.ref M, .ref S, .ref Hd] ∧ ModAt H M D ∧ PdOk D ∧ D.ev.length ≤ 4 ∧ StAt H S D.ev css ∧ H Hd = some (.lst (hid.map V.str)) ∧ (∀ x ∈ hid, x ∈ D.ev) ∧ Pool D hid vis css ∧
  ∀ L H' css', Same H H' → StAt H' L D.ev css' → Pool D hid vis css' → (∀ c ∈ css, c ∈ css') → (∀ c ∈ css', ClosedAt D hid css' c) → (css = [] → css' = []) → Q (.ref L) H'
theorem k_law_hidden (W : Ws K mg CP CT) (D : Def K mg "_law_hidden" s_law_hidden) (c_law_is_moment : Cal P w K mg base 1 "_law_is_moment" ["_law_model_here", "_law_counts"] sp_is_moment) : Cal P w K mg base 2 "_law_hidden" ["_law_model_here", "_law_states", "_law_hidden_here"] sp_hidden := by
  refine D.cal sc_law_hidden (fun _ _ _ _ _ _ us hl => match us, hl with | [_, _, _], _ => rfl) (fun vs H Q E h => ?_) fun f cdv A outer s H vs Q E hr h => ⟨_, (pss_cons (ps_par (i := 3) (j := 4) (by rfl) sc_law_hidden.nd rfl rfl (by decide) rfl rfl (pa_cons (pe_callTy call_list_of (by rfl) W.f_list (by decide +kernel) (pa_cons (pv 1) pa_nil)) (pa_cons (pe_callTy call_list_of (by rfl) W.f_list (by decide +kernel) (pa_cons (pv 1) pa_nil)) pa_nil)) (by rfl))
      (pss_cons (ps_while PassesOwn.never (pt_cmpR (op_neNil hr.units0) (pv 4) (pe_lst pa_nil) (by rfl)) (pss_cons (ps_set (i := 5) sc_law_hidden.nd rfl (by first | exact Or.inl rfl | exact Or.inr rfl) (pe_bm0 PySem.F.plainAttrs_list PySem.F.slot_list_pop PySem.F.type_list_pop mt_pop (pv 4)))
      (pss_one (ps_for PassesOwn.never rfl (pi_listK (K := K) (pv 2)) (pg_name (i := 6) sc_law_hidden.nd rfl (by first | exact Or.inl rfl | exact Or.inr rfl)) (pss_cons (ps_set (i := 7) sc_law_hidden.nd rfl (by first | exact Or.inl rfl | exact Or.inr rfl) (pe_callTy call_copyK (by rfl) W.f_dict (by decide +kernel) (pa_cons (pv 5) pa_nil)))
      (pss_cons (ps_dput (hu_of hr) (pv 7) (pv 6) (pe_op op_add (pe_dget (hu_of hr) (pv 7) (pv 6) (fun _ _ => rfl)) pe_int) rfl)
      (pss_one (ps_if (PW.pt (pw_and (pt_cmpR op_lt (pe_dget (hu_of hr) (pv 7) (pv 6) (fun _ _ => rfl)) pe_int (nomark _)) (pw_and (pt_cmpR (op_notInK hr.units) (pv 7) (pv 3) (by rfl)) (pw_and1 (pt_val (pe_cal c_law_is_moment hr rfl (pa_cons (pv 0) (pa_cons (pv 7) pa_nil)))))))) (pss_cons (ps_expr (pe_bm PySem.F.plainAttrs_list PySem.F.slot_list_append PySem.F.type_list_append mt_append (pv 3) (pa_cons (pv 7) pa_nil)))
      (pss_one (ps_expr (pe_bm PySem.F.plainAttrs_list PySem.F.slot_list_append PySem.F.type_list_append mt_append (pv 4) (pa_cons (pv 7) pa_nil))))) pss_nil))))))))
      (pss_one (ps_ret (pv 3))))), ?_⟩
  · obtain ⟨M, S, Hd, D, hid, vis, css, rfl, _⟩ := h; rfl
  obtain ⟨M, S, Hd, D, hid, vis, css, rfl, mo, ok, l4, ⟨ss, hS, hss⟩, hH, hin, pool, q⟩ := h
  refine ⟨_, rfl, S, _, rfl, .inl (sq hS), fun pf hpf => ⟨_, rfl, S, _, rfl, .inl (sq (same_new hpf _ _ hS)), fun pw hpw => ⟨_, _, rfl, ?_⟩⟩⟩
  have s1 := same_new (o := .lst (ss.map V.ref)) hpf
  have s2 := Same.new (o := .lst (ss.map V.ref)) s1 hpw
  have npw : pf ≠ pw := ne_of_none upd_same hpw
  have hpw0 : H pw = none := s1.free hpw
  have cts2 : Paired (fun p cs => CtAt (upd (upd H pf (.lst (ss.map V.ref))) pw (.lst (ss.map V.ref))) p D.ev cs) ss css := Paired.mapP hss fun _ _ z => z.same s2
  have f2 : StAt (upd (upd H pf (.lst (ss.map V.ref))) pw (.lst (ss.map V.ref))) pf D.ev css := ⟨ss, by rw [upd_ne npw]; exact upd_same, cts2⟩
  have w2 : StAt (upd (upd H pf (.lst (ss.map V.ref))) pw (.lst (ss.map V.ref))) pw D.ev css := ⟨ss, upd_same, cts2⟩
  generalize upd (upd H pf (.lst (ss.map V.ref))) pw (.lst (ss.map V.ref)) = H2 at s2 f2 w2
  refine ⟨fun m' σ H' => ∃ fcs wcs u5 u6 u7, m' = 2 * (6561 - fcs.length) + wcs.length ∧ Same H H' ∧ StAt H' pf D.ev fcs ∧ StAt H' pw D.ev wcs ∧ Pool D hid vis fcs ∧ (∀ c ∈ css, c ∈ fcs) ∧ (∀ c ∈ wcs, c ∈ fcs) ∧ wcs.length ≤ fcs.length ∧ (∀ c ∈ fcs, c ∈ wcs ∨ ClosedAt D hid fcs c) ∧ (css = [] → fcs = []) ∧
    σ = [some (.ref M), some (.ref S), some (.ref Hd), some (.ref pf), some (.ref pw), u5, u6, u7], ⟨_, css, css, _, _, _, rfl, s2, f2, w2, pool, (fun _ h => h), (fun _ h => h), Nat.le_refl _, (fun _ h => .inl h), id, rfl⟩, ?_⟩
  rintro m' σ H' ⟨fcs, wcs, u5, u6, u7, rfl, s3, f3, w3, pool3, sub3, wsub, wle, cl3, emp3, rfl⟩
  obtain ⟨ws, hw, hws⟩ := id w3
  have wl := Paired.length hws
  refine ⟨_, rfl, Nat.zero_le _, fun pe hpe => ⟨pw, pe, _, rfl, rfl, sq (same_new hpe _ _ hw), sq upd_same, ?_⟩⟩
  have s4 := Same.new (o := .lst []) s3 hpe
  have sx := same_new (o := .lst []) hpe
  have f4 := f3.same sx
  have w4 := w3.same sx
  generalize upd H' pe (.lst []) = H4 at s4 f4 w4
  rcases List.eq_nil_or_concat wcs with e | ⟨wi, c0, e⟩
  · subst e
    have : ws = [] := List.length_eq_zero_iff.mp wl
    subst this
    exact ⟨false, rfl, _, rfl, q pf H4 fcs s4 f4 pool3 sub3 (fun c hc => (cl3 c hc).resolve_left (fun z => by cases z)) emp3⟩
  subst e
  simp only [List.concat_eq_append] at *
  have hne : css ≠ [] := fun z => by
    have := emp3 z
    have h0 := wsub c0 (by simp)
    rw [this] at h0
    cases h0
  obtain ⟨ws4, hw4, hws4⟩ := w4
  -- the last one
  rcases List.eq_nil_or_concat ws4 with e | ⟨wi4, C0, e⟩
  · subst e
    have := Paired.length hws4
    simp at this
  subst e
  simp only [List.concat_eq_append] at *
  have hsp : Paired (fun p cs => CtAt H4 p D.ev cs) wi4 wi ∧ CtAt H4 C0 D.ev c0 := by
    have spl : ∀ {xs : List Addr} {ys : List (List (Str × Int))}, Paired (fun p cs => CtAt H4 p D.ev cs) (xs ++ [C0]) (ys ++ [c0]) → Paired (fun p cs => CtAt H4 p D.ev cs) xs ys ∧ CtAt H4 C0 D.ev c0 := by
      intro xs
      induction xs with
      | nil =>
        intro ys h
        cases ys with
        | nil => cases h with | cons a b => exact ⟨.nil, a⟩
        | cons y ys =>
          have := Paired.length h
          simp at this
      | cons x xs ih =>
        intro ys h
        cases ys with
        | nil =>
          have := Paired.length h
          simp at this
        | cons y ys =>
          cases h with
          | cons a b => exact ⟨.cons a (ih b).1, (ih b).2⟩
    exact spl hws4
  obtain ⟨hwi, c0t⟩ := hsp
  have e1 : (!(ws.map V.ref).isEmpty) = true := by
    cases ws with
    | nil => simp at wl
    | cons x xs => rfl
  have m0 : c0 ∈ fcs := wsub c0 (by simp)
  have l8 : D.ev.length ≤ 8 := ok.le
  have wle : wi.length + 1 ≤ fcs.length := by simpa using wle
  refine ⟨true, by rw [e1], ?_⟩
  refine ⟨_, fun σ' H' h => h, ?_⟩
  refine ⟨_, rfl, .inl ⟨rfl, _, sq hw4⟩, pw, _, .ref C0, rfl, rfl, hw4, by simp, ?_⟩
  have e2 : ((wi4 ++ [C0]).map V.ref).dropLast = wi4.map V.ref := by simp
  rw [e2]
  have s5 := Same.mut (o := .lst (wi4.map V.ref)) s4 hpw0
  have f5 : StAt (upd H4 pw (.lst (wi4.map V.ref))) pf D.ev fcs := f4.other hw4 npw
  have w5 : StAt (upd H4 pw (.lst (wi4.map V.ref))) pw D.ev wi := ⟨wi4, upd_same, cts_upd hwi hw4⟩
  have c5 : CtAt (upd H4 pw (.lst (wi4.map V.ref))) C0 D.ev c0 := c0t.other hw4
  generalize upd H4 pw (.lst (wi4.map V.ref)) = H5 at s5 f5 w5 c5
  have hpf0 : H pf = none := hpf
  refine ⟨_, rfl, Hd, rfl, ⟨_, sq (s5 _ _ hH)⟩, for_it wk_list (fun j σ H' => Same H H' ∧ (∃ new, StAt H' pf D.ev (fcs ++ new) ∧ StAt H' pw D.ev (wi ++ new) ∧ Pool D hid vis (fcs ++ new) ∧ (∀ x ∈ hid.take j, cf c0 x + 1 < 9 → Pu.Mom D.pl (Pu.bump (cf c0) x) → ∃ cs' ∈ fcs ++ new, cf cs' = Pu.bump (cf c0) x)) ∧ CtAt H' C0 D.ev c0 ∧
      ∃ u6 u7, σ = [some (.ref M), some (.ref S), some (.ref Hd), some (.ref pf), some (.ref pw), some (.ref C0), u6, u7])
    ⟨s5, ⟨[], by rw [List.append_nil]; exact f5, by rw [List.append_nil]; exact w5, by rw [List.append_nil]; exact pool3, (fun x h => by simp at h)⟩, c5, _, _, rfl⟩ (fun j σ H' _ p => sq (p.1 _ _ hH)) (fun j v σ H6 H7 hj p y => ?_) fun σ H6 p6 => ?_⟩
  · obtain ⟨s6, ⟨new, f6, w6, p6, cl6⟩, c6, u6, u7, rfl⟩ := p
    obtain ⟨rfl, hx⟩ := y
    obtain ⟨x, hx', rfl⟩ := map_at hx
    have xh := List.mem_of_getElem? hx'
    have xe := hin x xh
    have n6 := p6.len ok l4
    rw [List.length_append] at n6
    refine ⟨_, rfl, C0, _, rfl, c6.rd, fun N hN => ?_⟩
    have cn : CtAt (upd H7 N (.dK (kv V.int c0))) N D.ev c0 := ⟨upd_same, c6.keys⟩
    refine ⟨_, rfl, _, rfl, N, .int (cf c0 x), rfl, .inl ⟨_, Sum.inr x, cn.rd, rfl, by rw [kv_val, c6.get xe]; rfl⟩, _, _, rfl, rfl, _, rfl, _, rfl, N, _, rfl, cn.put l8 x _, ?_⟩
    rw [upd_upd]
    have k1 : (pt c0 x (cf c0 x + 1)).map (·.1) = D.ev := pt_ct c6.keys xe
    have eb : cf (pt c0 x (cf c0 x + 1)) = Pu.bump (cf c0) x := cf_bump c0 x
    generalize pt c0 x (cf c0 x + 1) = c1 at k1 eb
    have sN := same_new (o := .dK (kv V.int c1)) hN
    have c1t : CtAt (upd H7 N (.dK (kv V.int c1))) N D.ev c1 := ⟨upd_same, k1⟩
    have e9 : cf c1 x = cf c0 x + 1 := by rw [eb]; exact Pu.bump_at _ _
    have skip : ∀ H8, Same (upd H7 N (.dK (kv V.int c1))) H8 → (cf c0 x + 1 < 9 → Pu.Mom D.pl (Pu.bump (cf c0) x) → ∃ cs' ∈ fcs ++ new, cf cs' = Pu.bump (cf c0) x) → Same H H8 ∧ (∃ new, StAt H8 pf D.ev (fcs ++ new) ∧ StAt H8 pw D.ev (wi ++ new) ∧ Pool D hid vis (fcs ++ new) ∧ (∀ x ∈ hid.take (j + 1), cf c0 x + 1 < 9 → Pu.Mom D.pl (Pu.bump (cf c0) x) → ∃ cs' ∈ fcs ++ new, cf cs' = Pu.bump (cf c0) x)) ∧ CtAt H8 C0 D.ev c0 := fun H8 s8 hc => by
      have sn8 := Same.trans sN s8
      refine ⟨Same.trans s6 sn8, ⟨new, f6.same sn8, w6.same sn8, p6, fun y hy => ?_⟩, c6.same sn8⟩
      rw [take_succ hx'] at hy
      rcases List.mem_append.mp hy with hy | hy
      · exact cl6 y hy
      · rw [List.mem_singleton.mp hy]; exact hc
    refine ⟨_, rfl, _, rfl, N, .int (cf c1 x), rfl, .inl ⟨_, Sum.inr x, c1t.rd, rfl, by rw [kv_val, c1t.get xe]; rfl⟩, _, _, rfl, rfl, decide (cf c1 x < 9), rfl, ?_⟩
    by_cases h9 : cf c1 x < 9
    · rw [decide_eq_true h9]
      refine ⟨_, rfl, _, rfl, notin_st f6 hN k1 ok.nd ?_⟩
      by_cases hm : c1 ∈ fcs ++ new
      · rw [decide_eq_true hm]
        obtain ⟨a1, a2, a3⟩ := skip _ (Same.refl _) fun _ _ => ⟨c1, hm, eb⟩
        exact ⟨false, rfl, a1, a2, a3, _, _, rfl⟩
      rw [decide_eq_false hm]
      refine ⟨true, rfl, ?_⟩
      refine ⟨_, rfl, _, rfl, M, N, D, _, rfl, mo.same (Same.trans s6 sN), ok, c1t, fun H8 r s8 hr => ⟨r, rfl, ?_⟩⟩
      cases r with
      | false =>
        obtain ⟨a1, a2, a3⟩ := skip _ s8 fun _ m => by
          have := hr.mpr (by rw [eb]; exact m)
          cases this
        exact ⟨a1, a2, a3, _, _, rfl⟩
      | true =>
        have hmom := hr.mp rfl
        have sn8 := Same.trans sN s8
        have cn8 := c1t.same s8
        obtain ⟨xs, x1, x2, x3⟩ := (f6.same sn8).push cn8
        have w9 := (w6.same sn8).other (o := .lst (xs ++ [.ref N])) x1 npw.symm
        have cn9 := cn8.other (o := .lst (xs ++ [.ref N])) x1
        have c9 := (c6.same sn8).other (o := .lst (xs ++ [.ref N])) x1
        have s9 := Same.mut (o := .lst (xs ++ [.ref N])) (Same.trans s6 sn8) hpf0
        obtain ⟨ys, y1, y2, y3⟩ := w9.push cn9
        refine ⟨_, rfl, .inl ⟨rfl, _, sq x1⟩, _, rfl, pf, xs, _, rfl, rfl, x1, by rw [x2, List.length_append]; exact sz_lt (by omega), ?_⟩
        refine ⟨_, rfl, .inl ⟨rfl, _, sq y1⟩, _, rfl, pw, ys, _, rfl, rfl, y1, by rw [y2, List.length_append]; exact sz_lt (by omega), Same.mut s9 hpw0, ⟨new ++ [c1], ?_, ?_, ?_, fun y hy => ?_⟩, c9.other y1, _, _, rfl⟩
        · rw [← List.append_assoc]; exact x3.other y1 npw
        · rw [← List.append_assoc]; exact y3
        · rw [← List.append_assoc]
          refine p6.add hm k1 hmom (fun y hy hh => ?_) fun y hy hh => ?_
          · rw [eb]
            unfold Pu.bump
            split
            · rename_i e; rw [e, ← e9]; exact h9
            · exact pool3.lt c0 m0 y hy hh
          · have ny : y ≠ x := fun e => hh (e ▸ xh)
            rw [eb, Pu.bump_ne _ ny]
            exact pool3.eq c0 m0 y hy hh
        · rw [take_succ hx'] at hy
          rw [← List.append_assoc]
          rcases List.mem_append.mp hy with hy | hy
          · intro h1 h2
            obtain ⟨c', hc', e⟩ := cl6 y hy h1 h2
            exact ⟨c', List.mem_append_left _ hc', e⟩
          · rw [List.mem_singleton.mp hy]
            exact fun _ _ => ⟨c1, List.mem_append_right _ (List.mem_singleton.mpr rfl), eb⟩
    · rw [decide_eq_false h9]
      obtain ⟨a1, a2, a3⟩ := skip _ (Same.refl _) fun h _ => by omega
      exact ⟨a1, a2, a3, _, _, rfl⟩
  · obtain ⟨s6, ⟨new, f6, w6, p6, cl6⟩, c6, u6, u7, rfl⟩ := p6
    rw [List.length_map, List.take_length] at cl6
    have n6 := p6.len ok l4
    rw [List.length_append] at n6
    refine ⟨_, ?_, fcs ++ new, wi ++ new, _, _, _, rfl, s6, f6, w6, p6, (fun c hc => List.mem_append_left _ (sub3 c hc)), (fun c hc => ?_), by rw [List.length_append, List.length_append]; omega, fun c hc => ?_, fun z => absurd z hne, rfl⟩
    · simp only [List.length_append, List.length_singleton]
      omega
    · rcases List.mem_append.mp hc with hc | hc
      · exact List.mem_append_left _ (wsub c (List.mem_append_left _ hc))
      · exact List.mem_append_right _ hc
    · rcases List.mem_append.mp hc with hc | hc
      · rcases cl3 c hc with h | h
        · rcases List.mem_append.mp h with h | h
          · exact .inl (List.mem_append_left _ h)
          · rw [List.mem_singleton.mp h]
            exact .inr cl6
        · exact .inr (h.mono fun _ z => List.mem_append_left _ z)
      · exact .inl (List.mem_append_right _ hc)
end
end Pk
end
section
set_option maxHeartbeats 1000000
namespace Pk
open PySem PySem.Spec PyProof.Rows L2
def hidOf (ev ns : List Str) : List Str := ev.filter fun x => !decide (x ∈ ns)
theorem hid_in {ev ns : List Str} {x : Str} (h : x ∈ hidOf ev ns) : x ∈ ev ∧ x ∉ ns := by
  obtain ⟨a, b⟩ := List.mem_filter.mp h
  refine ⟨a, fun z => ?_⟩
  rw [decide_eq_true z] at b
  cases b
theorem hid_not {ev ns : List Str} {x : Str} (hx : x ∈ ns) : x ∉ hidOf ev ns := fun h => (hid_in h).2 hx
theorem hid_take {ev ns : List Str} {i : Nat} {x : Str} (h : ev[i]? = some x) : hidOf (ev.take (i + 1)) ns = hidOf (ev.take i) ns ++ if x ∈ ns then [] else [x] := by
  unfold hidOf
  rw [take_succ h, List.filter_append]
  congr 1
  by_cases e : x ∈ ns <;> simp [e]
def Fof (D : PD) (css : List (List (Str × Int))) : (Str → Int) → Prop := fun c => ∃ cs ∈ css, ∀ x ∈ D.ev, cf cs x = c x
theorem Fof.resp {D : PD} {css : List (List (Str × Int))} : ∀ c d, (∀ x ∈ D.ev, c x = d x) → Fof D css c → Fof D css d := fun c d e ⟨cs, h, q⟩ => ⟨cs, h, fun x hx => (q x hx).trans (e x hx)⟩
theorem bump_ext {ev : List Str} {c d : Str → Int} (h : ∀ y ∈ ev, c y = d y) (x : Str) : ∀ y ∈ ev, Pu.bump c x y = Pu.bump d x y := fun y hy => by
  unfold Pu.bump
  rw [h y hy]
theorem Fof.closed {D : PD} (ok : PdOk D) {hid : List Str} (hin : ∀ x ∈ hid, x ∈ D.ev) {css : List (List (Str × Int))} (h : ∀ c ∈ css, ClosedAt D hid css c) : Pu.ClosedF D.pl hid (Fof D css) := fun c x ⟨cs, hcs, q⟩ hx h9 hm => by
  have q' : ∀ y ∈ D.ev, c y = cf cs y := fun y hy => (q y hy).symm
  obtain ⟨cs', h', e⟩ := h cs hcs x hx (by rw [q x (hin x hx)]; exact h9) (Pu.mom_congr ok.wf (bump_ext q' x) hm)
  exact ⟨cs', h', fun y hy => by rw [e]; exact bump_ext q x y hy⟩
theorem vis_of {D : PD} {hid p : List Str} {css : List (List (Str × Int))} (h : Pool D hid (Pu.cnt p) css) {cs : List (Str × Int)} (hc : cs ∈ css) : ∃ d, Pu.Mom D.pl d ∧ Pu.Vis D.pl hid p d := ⟨cf cs, h.mom cs hc, fun x hx hh => h.eq cs hc x hx hh⟩
theorem cond_take {D : PD} {hid p : List Str} {x : Str} (h : Pu.Cond D.pl hid (p ++ [x])) : Pu.Cond D.pl hid p := fun q r e => h q (r ++ [x]) (by rw [← e, List.append_assoc])
theorem notin_at {K : PySem.W.Frag} {H : Hp} {L N : Addr} {ev : List Str} {ss : List Addr} {css : List (List (Str × Int))} {cs' : List (Str × Int)} {Q : VK} (a : H L = some (.lst (ss.map V.ref))) (b : Paired (fun p cs => CtAt H p ev cs ∧ p ≠ N) ss css) (hN : CtAt H N ev cs') (nd : ev.Nodup)
    (q : Q (.bl (!decide (cs' ∈ css))) H) : rNotInK K (.ref N) (.ref L) H Q := by
  refine ⟨N, L, ss, _, css.map (kv V.int), rfl, rfl, sq a, hN.at_, ints_kv _, kbs_of b, ?_⟩
  rw [zip_any hN.keys nd b]
  exact q
section
variable {P : Program} {w : World} {K : PySem.W.Frag} {mg : Str → Option Value} {base : Heap} {CP CT : Addr}
abbrev N_law_fits : List Str := ["_law_model_here", "_law_names_here", "_law_row", "_law_hidden_here", "_law_states", "_law_event", "_law_after", "_law_counts", "_law_more"]
theorem sc_law_fits : FnScope N_law_fits ["_law_model_here", "_law_names_here", "_law_row"] (defScope s_law_fits) := ⟨rfl, rfl, rfl, by decide +kernel, rfl, by decide +kernel, by decide +kernel⟩
def sp_fits : Sp := fun vs H Q _ => ∃ (M Nm R : Addr) (D : PD) (ns row : List Str), vs = [.ref M, .ref Nm, .ref R] ∧ ModAt H M D ∧ PdOk D ∧ D.ev.length ≤ 4 ∧ H Nm = some (.lst (ns.map V.str)) ∧ H R = some (.lst (row.map V.str)) ∧ (∀ x ∈ row, x ∈ D.ev ∧ x ∈ ns) ∧ row.length ≤ 4 ∧
  ∀ H' r, Same H H' → (r = true ↔ Pu.Cond D.pl (hidOf D.ev ns) row) → Q (.bl r) H'
theorem k_law_fits (W : Ws K mg CP CT) (D : Def K mg "_law_fits" s_law_fits) (c_law_is_moment : Cal P w K mg base 1 "_law_is_moment" ["_law_model_here", "_law_counts"] sp_is_moment) (c_law_hidden : Cal P w K mg base 2 "_law_hidden" ["_law_model_here", "_law_states", "_law_hidden_here"] sp_hidden) :
    Cal P w K mg base 3 "_law_fits" ["_law_model_here", "_law_names_here", "_law_row"] sp_fits := by
  refine D.cal sc_law_fits (fun _ _ _ _ _ _ us hl => match us, hl with | [_, _, _], _ => rfl) (fun vs H Q E h => ?_) fun f cdv A outer s H vs Q E hr h => ⟨_, (pss_cons (ps_setLc (i := 3) (own := [("_law_event", 5)]) (g := (gName 5)) (tt := _) rfl sc_law_fits.nd rfl rfl (sw_true rfl rfl rfl (by decide +kernel)) (pi_listK (K := K) (pe_ix (ix_listK (K := K)) (pv 0) pe_int (fun _ _ => rfl))) (blkOk_by (own := [("_law_event", 5)]) (N := N_law_fits) (sc := defScope s_law_fits) (by decide +kernel)) (fun _ _ _ _ _ => (pg_name (i := 5) sc_law_fits.nd rfl (by first | exact Or.inl rfl | exact Or.inr rfl))) (fun _ _ _ _ _ => (pts_one (pt_cmpR (notIn_seqK (K := K)) (pv 5) (pv 1) (by rfl)))) (fun _ _ _ _ _ => (pv 5)))
      (pss_cons (ps_set (i := 4) sc_law_fits.nd rfl (by first | exact Or.inl rfl | exact Or.inr rfl) (pe_cal c_law_hidden hr rfl (pa_cons (pv 0) (pa_cons (pe_lst (pa_cons (pe_callTy (call_dictP rfl) (by rfl) W.f_dict (by decide +kernel) (pa_cons (pe_lc (own := [("_law_event", 5)]) (g := (gName 5)) (tt := tYes) rfl sc_law_fits.nd (pi_listK (K := K) (pe_ix (ix_listK (K := K)) (pv 0) pe_int (fun _ _ => rfl))) (blkOk_by (own := [("_law_event", 5)]) (N := N_law_fits) (sc := defScope s_law_fits) (by decide +kernel)) (fun _ _ _ _ _ => (pg_name (i := 5) sc_law_fits.nd rfl (by first | exact Or.inl rfl | exact Or.inr rfl))) (fun _ _ _ _ _ => pts_nil) (fun _ _ _ _ _ => (pe_tup (pa_cons (pv 5) (pa_cons pe_int pa_nil))))) pa_nil)) pa_nil)) (pa_cons (pv 3) pa_nil)))))
      (pss_cons (ps_for PassesOwn.never rfl (pi_listK (K := K) (pv 2)) (pg_name (i := 5) sc_law_fits.nd rfl (by first | exact Or.inl rfl | exact Or.inr rfl)) (pss_cons (ps_set (i := 6) sc_law_fits.nd rfl (by first | exact Or.inl rfl | exact Or.inr rfl) (pe_lst pa_nil))
      (pss_cons (ps_for PassesOwn.never rfl (pi_listK (K := K) (pv 4)) (pg_name (i := 7) sc_law_fits.nd rfl (by first | exact Or.inl rfl | exact Or.inr rfl)) (pss_cons (ps_set (i := 8) sc_law_fits.nd rfl (by first | exact Or.inl rfl | exact Or.inr rfl) (pe_callTy call_copyK (by rfl) W.f_dict (by decide +kernel) (pa_cons (pv 7) pa_nil)))
      (pss_cons (ps_dput (hu_of hr) (pv 8) (pv 5) (pe_op op_add (pe_dget (hu_of hr) (pv 8) (pv 5) (fun _ _ => rfl)) pe_int) rfl)
      (pss_one (ps_if (PW.pt (pw_and (pt_val (pe_cal c_law_is_moment hr rfl (pa_cons (pv 0) (pa_cons (pv 8) pa_nil)))) (pw_and1 (pt_cmpR (op_notInK hr.units) (pv 8) (pv 6) (by rfl))))) (pss_one (ps_expr (pe_bm PySem.F.plainAttrs_list PySem.F.slot_list_append PySem.F.type_list_append mt_append (pv 6) (pa_cons (pv 8) pa_nil)))) pss_nil)))))
      (pss_one (ps_set (i := 4) sc_law_fits.nd rfl (by first | exact Or.inl rfl | exact Or.inr rfl) (pe_cal c_law_hidden hr rfl (pa_cons (pv 0) (pa_cons (pv 6) (pa_cons (pv 3) pa_nil)))))))))
      (pss_one (ps_ret (pe_cmpR (op_neNil hr.units0) (pv 4) (pe_lst pa_nil) (by rfl))))))), ?_⟩
  · obtain ⟨M, Nm, R, D, ns, row, rfl, _⟩ := h; rfl
  obtain ⟨M, Nm, R, D, ns, row, rfl, mo, ok, l4, hN, hR, hin, rl, q⟩ := h
  obtain ⟨a, t, l, hM, ha, _⟩ := id mo
  have l8 : D.ev.length ≤ 8 := ok.le
  -- the hidden
  refine ⟨_, rfl, M, _, 0, .ref a, rfl, rfl, sq hM, rfl, a, rfl, ⟨_, sq ha⟩, fun X hX => lc_it wk_list (fun i H' => Same H H' ∧ H' X = some (.lst ((hidOf (D.ev.take i) ns).map V.str))) ⟨same_new hX, upd_same⟩ (fun i H' _ p => sq (p.1 _ _ ha)) (fun i v H2 H3 hi p y => ?_) fun H2 p2 => ?_⟩
  · obtain ⟨s2, f1⟩ := p
    obtain ⟨rfl, hx⟩ := y
    obtain ⟨x, hx', rfl⟩ := map_at hx
    have hi8 : i < D.ev.length := (List.getElem?_eq_some_iff.mp hx').1
    have hl : (hidOf (D.ev.take i) ns).length ≤ i := Nat.le_trans (List.length_filter_le ..) (take_len _ _)
    refine ⟨rfl, _, rfl, _, rfl, Nm, _, rfl, .inl (sq (s2 _ _ hN)), rfl, flat_strs _, !decide (x ∈ ns), ni_strs x ns, ?_⟩
    rw [hid_take hx']
    by_cases hxn : x ∈ ns
    · rw [decide_eq_true hxn, if_pos hxn, List.append_nil]
      exact ⟨s2, f1⟩
    · rw [decide_eq_false hxn, if_neg hxn]
      exact ⟨_, rfl, _, f1, by rw [List.length_map]; exact sz_lt (by omega), Same.mut s2 hX, by rw [upd_same, List.map_append]; rfl⟩
  obtain ⟨s2, fX⟩ := p2
  rw [List.length_map, List.take_length] at fX
  have hhid : ∀ x ∈ hidOf D.ev ns, x ∈ D.ev := fun x h => (hid_in h).1
  have hrow : ∀ x ∈ row, x ∈ D.ev ∧ x ∉ hidOf D.ev ns := fun x h => ⟨(hin x h).1, hid_not (hin x h).2⟩
  generalize hidOf D.ev ns = hid at fX hhid hrow q
  -- the first states
  have hM2 := s2 _ _ hM
  have ha2 := s2 _ _ ha
  refine ⟨_, rfl, _, rfl, M, _, 0, .ref a, rfl, rfl, sq hM2, rfl, a, rfl, ⟨_, sq ha2⟩, fun F hF => lc_it wk_list (fun i H' => Same H2 H' ∧ PsAt H' F (zs0 (D.ev.take i))) ⟨same_new hF, .nil⟩ (fun i H' _ p => sq (p.1 _ _ ha2)) (fun i v H3 H4 hi p y => ?_) fun H3 p3 => ?_⟩
  · obtain ⟨s3, f1⟩ := p
    obtain ⟨rfl, hx⟩ := y
    obtain ⟨x, hx', rfl⟩ := map_at hx
    refine ⟨rfl, _, rfl, by show 2 ≤ sizeLine; decide, fun T hT => ?_⟩
    obtain ⟨acc, w1, w2, w3⟩ := f1.step (x := x) (v := 0) hT (by rw [zs0_len]; have := take_len D.ev i; have := (List.getElem?_eq_some_iff.mp hx').1; omega)
    exact ⟨acc, w1, w2, Same.mut (Same.new s3 hT) hF, by rw [zs0_take hx']; exact w3⟩
  obtain ⟨s3, ps, f1, f2⟩ := p3
  rw [List.length_map, List.take_length] at f2
  refine ⟨F, ps, _, rfl, sq f1, pairs_kv f2, fun C hC => ⟨by show 1 ≤ sizeLine; decide, fun L0 hL0 => ⟨_, rfl, ?_⟩⟩⟩
  rw [merge_nil (by rw [zs0_keys]; exact ok.nd)] at hL0 ⊢
  have s4 := Same.new (o := .dK (kv V.int (zs0 D.ev))) s3 hC
  have s5 := Same.new (o := .lst [.ref C]) s4 hL0
  have c5 : StAt (upd (upd H3 C (.dK (kv V.int (zs0 D.ev)))) L0 (.lst [.ref C])) L0 D.ev [zs0 D.ev] := ⟨[C], upd_same, .cons ⟨same_new hL0 _ _ upd_same, zs0_keys _⟩ .nil⟩
  generalize upd (upd H3 C (.dK (kv V.int (zs0 D.ev)))) L0 (.lst [.ref C]) = H5 at s5 c5
  have s5' := Same.trans s2 s5
  have pool0 : Pool D hid (Pu.cnt []) [zs0 D.ev] := by
    refine ⟨by simp, fun c hc => ?_, fun c hc => ?_, fun c hc x hx hh => ?_, fun c hc x hx hh => ?_⟩ <;> rw [List.mem_singleton.mp hc]
    · exact zs0_keys _
    · rw [cf_nil]; exact Pu.mom_zero ok.wf
    · rw [cf_zs0]; decide
    · rw [cf_zs0]; rfl
  refine ⟨M, L0, X, D, hid, Pu.cnt [], [zs0 D.ev], rfl, mo.same s5', ok, l4, c5, s5 _ _ fX, hhid, pool0, fun S0 H6 css0 s6 st6 pool6 sub6 cl6 emp6 => ?_⟩
  have s6' := Same.trans s5 s6
  refine ⟨_, rfl, R, rfl, ⟨_, sq (s6' _ _ (s2 _ _ hR))⟩, for_it wk_list (fun i σ H' => Same H2 H' ∧ (∃ S css, StAt H' S D.ev css ∧ Pool D hid (Pu.cnt (row.take i)) css ∧ (∀ c ∈ css, ClosedAt D hid css c) ∧ (css ≠ [] → Pu.Cond D.pl hid (row.take i)) ∧ (Pu.Cond D.pl hid (row.take i) → Pu.Full D.pl hid (row.take i) (Fof D css)) ∧
      ∃ u5 u6 u7 u8, σ = [some (.ref M), some (.ref Nm), some (.ref R), some (.ref X), some (.ref S), u5, u6, u7, u8]))
    ⟨s6', S0, css0, st6, by rw [List.take_zero]; exact pool6, cl6, (fun _ => by
      rw [List.take_zero]
      intro p r e
      have ep := (List.append_eq_nil_iff.mp e).1
      rw [ep]
      exact ⟨_, Pu.mom_zero ok.wf, fun x _ _ => rfl⟩), (fun _ => by
      rw [List.take_zero]
      exact Pu.full_nil ok.wf ok.ac Fof.resp (Fof.closed ok hhid cl6) ⟨zs0 D.ev, sub6 _ (List.mem_singleton.mpr rfl), fun x _ => cf_zs0 _ _⟩), _, _, _, _, rfl⟩ (fun i σ H' _ p => sq (p.1 _ _ (s2 _ _ hR))) (fun i v σ H7 H8 hi p y => ?_) fun σ H7 p7 => ?_⟩
  · obtain ⟨s7, S, css, st, pool, cl, snd, cmp, u5, u6, u7, u8, rfl⟩ := p
    obtain ⟨rfl, hx⟩ := y
    obtain ⟨x, hx', rfl⟩ := map_at hx
    obtain ⟨xe, xh⟩ := hrow x (List.mem_of_getElem? hx')
    obtain ⟨ss, hS, hss⟩ := id st
    have sl := Paired.length hss
    have cl6561 := pool.len ok l4
    have et : row.take (i + 1) = row.take i ++ [x] := take_succ hx'
    refine ⟨Nat.zero_le _, fun A0 hA => ?_⟩
    have sA := same_new (o := .lst []) hA
    have nSA : S ≠ A0 := ne_of_none hS hA
    refine ⟨_, rfl, S, rfl, ⟨_, sq (sA _ _ hS)⟩, for_it wk_list (fun j σ H' => Same H8 H' ∧ (∃ aft, StAt H' A0 D.ev aft ∧ Pool D hid (Pu.cnt (row.take (i + 1))) aft ∧ aft.length ≤ j ∧ (∀ c ∈ css.take j, Pu.Mom D.pl (Pu.bump (cf c) x) → ∃ c' ∈ aft, cf c' = Pu.bump (cf c) x)) ∧
        ∃ u7 u8, σ = [some (.ref M), some (.ref Nm), some (.ref R), some (.ref X), some (.ref S), some (.str x), some (.ref A0), u7, u8])
      ⟨sA, ⟨[], ⟨[], upd_same, .nil⟩, .nil, Nat.le_refl _, (fun c h => by simp at h)⟩, _, _, rfl⟩ (fun j σ H' _ p => sq (p.1 _ _ hS)) (fun j v σ H9 H10 hj p y => ?_) fun σ H9 p9 => ?_⟩
    · obtain ⟨s9, ⟨aft, stA, poolA, lenA, clA⟩, u7, u8, rfl⟩ := p
      obtain ⟨rfl, hx⟩ := y
      obtain ⟨C0, hC0, rfl⟩ := map_at hx
      obtain ⟨c0, hc0, hct⟩ := paired_get hss hC0
      have m0 := List.mem_of_getElem? hc0
      have c9 := hct.same s9
      have nA := poolA.len ok l4
      refine ⟨_, rfl, C0, _, rfl, c9.rd, fun N hN => ?_⟩
      have cn : CtAt (upd H10 N (.dK (kv V.int c0))) N D.ev c0 := ⟨upd_same, c9.keys⟩
      refine ⟨_, rfl, _, rfl, N, .int (cf c0 x), rfl, .inl ⟨_, Sum.inr x, cn.rd, rfl, by rw [kv_val, c9.get xe]; rfl⟩, _, _, rfl, rfl, _, rfl, _, rfl, N, _, rfl, cn.put l8 x _, ?_⟩
      rw [upd_upd]
      have k1 : (pt c0 x (cf c0 x + 1)).map (·.1) = D.ev := pt_ct c9.keys xe
      have eb : cf (pt c0 x (cf c0 x + 1)) = Pu.bump (cf c0) x := cf_bump c0 x
      generalize pt c0 x (cf c0 x + 1) = c1 at k1 eb
      have sN := same_new (o := .dK (kv V.int c1)) hN
      have c1t : CtAt (upd H10 N (.dK (kv V.int c1))) N D.ev c1 := ⟨upd_same, k1⟩
      have skip : ∀ H', Same H10 H' → (Pu.Mom D.pl (Pu.bump (cf c0) x) → ∃ c' ∈ aft, cf c' = Pu.bump (cf c0) x) → Same H8 H' ∧ (∃ aft, StAt H' A0 D.ev aft ∧ Pool D hid (Pu.cnt (row.take (i + 1))) aft ∧ aft.length ≤ j + 1 ∧ (∀ c ∈ css.take (j + 1), Pu.Mom D.pl (Pu.bump (cf c) x) → ∃ c' ∈ aft, cf c' = Pu.bump (cf c) x)) := fun H' s' hc => by
        refine ⟨Same.trans s9 s', aft, stA.same s', poolA, by omega, fun c hc' => ?_⟩
        rw [take_succ hc0] at hc'
        rcases List.mem_append.mp hc' with h | h
        · exact clA c h
        · rw [List.mem_singleton.mp h]; exact hc
      refine ⟨_, rfl, _, rfl, M, N, D, _, rfl, (mo.same (Same.trans (Same.trans s2 s7) s9)).same sN, ok, c1t, fun H11 r s11 hr => ⟨r, rfl, ?_⟩⟩
      have s11' := Same.trans sN s11
      cases r with
      | false =>
        obtain ⟨a1, a2⟩ := skip _ s11' fun m => by
          have := hr.mpr (by rw [eb]; exact m)
          cases this
        exact ⟨a1, a2, _, _, rfl⟩
      | true =>
        have hmom := hr.mp rfl
        obtain ⟨as, hA0, has⟩ := id stA
        have cn11 := c1t.same s11
        have fr : Paired (fun p cs => CtAt H11 p D.ev cs ∧ p ≠ N) as aft := Paired.mapP has fun u y z => ⟨z.same s11', fun e => by rw [e] at z; have := z.at_; rw [hN] at this; cases this⟩
        refine ⟨_, rfl, _, rfl, notin_at (s11' _ _ hA0) fr cn11 ok.nd ?_⟩
        by_cases hm : c1 ∈ aft
        · rw [decide_eq_true hm]
          obtain ⟨a1, a2⟩ := skip _ s11' fun _ => ⟨c1, hm, eb⟩
          exact ⟨false, rfl, a1, a2, _, _, rfl⟩
        rw [decide_eq_false hm]
        refine ⟨true, rfl, ?_⟩
        obtain ⟨xs, x1, x2, x3⟩ := (stA.same s11').push cn11
        refine ⟨_, rfl, .inl ⟨rfl, _, sq x1⟩, _, rfl, A0, xs, _, rfl, rfl, x1, by rw [x2]; exact sz_lt (by omega), Same.mut (Same.trans s9 s11') hA, ⟨aft ++ [c1], x3, ?_, by rw [List.length_append]; show _ + 1 ≤ _; omega, fun c hc' => ?_⟩, _, _, rfl⟩
        · refine poolA.add hm k1 hmom (fun y hy hh => ?_) fun y hy hh => ?_
          · have ny : y ≠ x := fun e => xh (e ▸ hh)
            rw [eb, Pu.bump_ne _ ny]
            exact pool.lt c0 m0 y hy hh
          · rw [eb, et, cnt_bump]
            unfold Pu.bump
            rw [pool.eq c0 m0 y hy hh]
        · rw [take_succ hc0] at hc'
          rcases List.mem_append.mp hc' with h | h
          · intro m
            obtain ⟨c', hc', e⟩ := clA c h m
            exact ⟨c', List.mem_append_left _ hc', e⟩
          · rw [List.mem_singleton.mp h]
            exact fun _ => ⟨c1, List.mem_append_right _ (List.mem_singleton.mpr rfl), eb⟩
    · obtain ⟨s9, ⟨aft, stA, poolA, lenA, clA⟩, u7, u8, rfl⟩ := p9
      rw [List.length_map, sl, List.take_length] at clA
      rw [List.length_map, sl] at lenA
      have s9' := Same.trans s7 s9
      refine ⟨_, rfl, _, rfl, _, rfl, M, A0, X, D, hid, _, aft, rfl, mo.same (Same.trans s2 s9'), ok, l4, stA, s9' _ _ fX, hhid, poolA, fun S' H10 css' s10 st10 pool10 sub10 cl10 emp10 => ?_⟩
      refine ⟨Same.trans s9' s10, S', css', st10, pool10, cl10, fun ne => ?_, fun cd => ?_, _, _, _, _, rfl⟩
      · have neA : aft ≠ [] := fun z => ne (emp10 z)
        have neC : css ≠ [] := fun z => neA (List.length_eq_zero_iff.mp (by rw [z] at lenA; exact Nat.le_zero.mp lenA))
        have cd := snd neC
        intro p r e
        rw [et] at e
        rcases snoc_cases e with ⟨r', e'⟩ | e'
        · exact cd p r' e'
        · rw [e', ← et]
          obtain ⟨c, hc⟩ := List.exists_mem_of_ne_nil _ ne
          exact vis_of pool10 hc
      · rw [et] at cd ⊢
        refine Pu.full_snoc ok.wf ok.ac xe xh Fof.resp (Fof.closed ok hhid cl) (Fof.closed ok hhid cl10) (fun c ⟨cs, hcs, e⟩ hm => ?_) (cmp (cond_take cd)) (cond_take cd _ [] (List.append_nil _))
        obtain ⟨c', hc', e'⟩ := clA cs hcs (Pu.mom_congr ok.wf (bump_ext (fun y hy => (e y hy).symm) x) hm)
        exact ⟨c', sub10 c' hc', fun y hy => by rw [e']; exact bump_ext e x y hy⟩
  · obtain ⟨s7, S, css, st, pool, cl, snd, cmp, u5, u6, u7, u8, rfl⟩ := p7
    rw [List.length_map, List.take_length] at snd cmp
    obtain ⟨ss, hS, hss⟩ := id st
    have sl := Paired.length hss
    refine ⟨_, rfl, Nat.zero_le _, fun e0 he0 => ⟨S, e0, _, rfl, rfl, sq (same_new he0 _ _ hS), sq upd_same, ?_⟩⟩
    refine q _ _ (Same.trans s2 (Same.new s7 he0)) ⟨fun h => snd fun z => ?_, fun cd => ?_⟩
    · rw [z] at sl
      rw [List.length_eq_zero_iff.mp sl] at h
      cases h
    · obtain ⟨c, cs, hcs, _⟩ := Pu.full_some ok.wf (cmp cd) (by omega) (cd row [] (List.append_nil _))
      cases ss with
      | nil =>
        rw [List.length_eq_zero_iff.mp sl.symm] at hcs
        cases hcs
      | cons s0 ss => rfl
end
end Pk
end
section
set_option maxHeartbeats 1000000
namespace Pk
open PySem PySem.Spec PyProof.Rows L2
/-- kept: all but the box and the tables -/
def Fr (b : Addr) (H H' : Hp) : Prop := ∀ c o, c ≠ b → H c = some o → (∀ ps, o ≠ .tbl ps) → H' c = some o
theorem Fr.refl (b : Addr) (H : Hp) : Fr b H H := fun _ _ _ h _ => h
theorem Fr.trans {b : Addr} {H H1 H2 : Hp} (x : Fr b H H1) (y : Fr b H1 H2) : Fr b H H2 := fun c o n h t => y c o n (x c o n h t) t
theorem Fr.same {b : Addr} {H H' : Hp} (s : Same H H') : Fr b H H' := fun c o _ h _ => s c o h
theorem Fr.but {b : Addr} {H H' : Hp} (s : But b H H') : Fr b H H' := fun c o n h _ => s c o n h
theorem Fr.ext {b : Addr} {H H' : Hp} (s : LamX.ExtN H H') : Fr b H H' := fun c o _ h t => s c o h t
theorem list_fr {b p : Addr} {n : Nat} {H H' : Hp} {xs : List Str} (bx : BoxAt H b n) (s : Fr b H H') (h : H p = some (.lst (xs.map V.str))) : H' p = some (.lst (xs.map V.str)) := s _ _ (bx.ne h) h (fun _ z => by cases z)
theorem ModAt.fr {H H' : Hp} {M b : Addr} {n : Nat} {D : PD} (h : ModAt H M D) (bx : BoxAt H b n) (s : Fr b H H') : ModAt H' M D := by
  obtain ⟨a, t, l, h1, h2, ⟨as, h3, h4⟩, h5⟩ := h
  refine ⟨a, t, l, s _ _ (box_not bx h1 (by intro x y z e; cases e)) h1 (fun _ z => by cases z), list_fr bx s h2, ⟨as, s _ _ (box_not bx h3 fun x y z e => ?_) h3 (fun _ z => by cases z), Paired.mapP h4 fun u t z => s _ _ (box_not bx z (by intro x y w e; cases e)) z (fun _ z => by cases z)⟩, s _ _ (box_not bx h5 (by intro x y z e; cases e)) h5 (fun _ z => by cases z)⟩
  cases as with
  | nil => cases e
  | cons u as => cases e
theorem PlanAt.fr {CP : Addr} {H H' : Hp} {M b : Addr} {n : Nat} {D : PD} (h : PlanAt CP H M D) (bx : BoxAt H b n) (s : Fr b H H') : PlanAt CP H' M D := by
  obtain ⟨dx, a, t, l, h1, h2, ⟨as, h3, h4⟩, h5⟩ := h
  refine ⟨dx, a, t, l, s _ _ (box_not bx h1 (by intro x y z e; cases e)) h1 (fun _ z => by cases z), list_fr bx s h2, ⟨as, s _ _ (box_not bx h3 fun x y z e => ?_) h3 (fun _ z => by cases z), Paired.mapP h4 fun u t z => s _ _ (box_not bx z (by intro x y w e; cases e)) z (fun _ z => by cases z)⟩, s _ _ (box_not bx h5 (by intro x y z e; cases e)) h5 (fun _ z => by cases z)⟩
  cases as with
  | nil => cases e
  | cons u as => cases e
theorem BoxAt.ext {H H' : Hp} {b : Addr} {n : Nat} (h : BoxAt H b n) (s : LamX.ExtN H H') : BoxAt H' b n := let ⟨x, y, z, a, r⟩ := h; ⟨x, y, z, s _ _ a (fun _ z => by cases z), r⟩
theorem sql_fr {K : PySem.W.Frag} {H H' : Hp} {a b : Addr} {xs : List V} (h : SqL K H a xs) (hb : H b = none) (s : Fr b H H') : SqL K H' a xs := by
  rcases h with (h | ⟨o, h⟩) | h
  · exact .inl (.inl (s _ _ (ne_of_none h hb) h (fun _ z => by cases z)))
  · exact .inl (.inr ⟨o, s _ _ (ne_of_none h hb) h (fun _ z => by cases z)⟩)
  · exact .inr h
/-- what was there before the box stands -/
theorem same_box {b : Addr} {H H1 H' : Hp} (s : Same H H1) (hb : H b = none) (t : But b H1 H') : Same H H' := fun c o h => t c o (ne_of_none h hb) (s c o h)
theorem tabs_box {T : List (Addr × Str)} {b : Addr} {n : Nat} {H H' : Hp} (h : LamX.Tabs T H) (bx : BoxAt H b n) (t : But b H H') : LamX.Tabs T H' := fun p hp => by
  obtain ⟨ps, h1, h2, h3⟩ := h p hp
  refine ⟨ps, t _ _ (box_not bx h1 (by intro x y z e; cases e)) h1, h2, fun pos cv hc => ?_⟩
  obtain ⟨c, e1, e2⟩ := h3 pos cv hc
  exact ⟨c, e1, t _ _ (box_not bx e2 (by intro x y z e; unfold LamX.CodeO at e; cases e)) e2⟩
theorem Fr.mut {b p : Addr} {H H' : Hp} {o : HO} (e : Fr b H H') (h : H p = none) : Fr b H (L2.upd H' p o) := fun c u n q t => by
  rw [upd_ne (ne_of_none q h)]
  exact e c u n q t
theorem tabs_upd {T : List (Addr × Str)} {p : Addr} {H : Hp} {xs ys : List V} (h : LamX.Tabs T H) (e : H p = some (.lst xs)) : LamX.Tabs T (L2.upd H p (.lst ys)) := fun q hq => by
  obtain ⟨ps, h1, h2, h3⟩ := h q hq
  refine ⟨ps, by rw [upd_ne (ne_of h1 e (by intro z; cases z))]; exact h1, h2, fun pos cv hc => ?_⟩
  obtain ⟨c, e1, e2⟩ := h3 pos cv hc
  exact ⟨c, e1, by rw [upd_ne (ne_of e2 e (by intro z; unfold LamX.CodeO at z; cases z))]; exact e2⟩
/-! ### what the runs say -/
theorem vis_iff {D : PD} {ns q : List Str} {d : Str → Int} : Pu.Vis D.pl (hidOf D.ev ns) q d ↔ ∀ x ∈ seenOf D.ev ns, d x = Pu.cnt q x := by
  constructor
  · intro h x hx
    obtain ⟨a, b⟩ := List.mem_filter.mp hx
    exact h x a (hid_not (of_decide_eq_true b))
  · intro h x hx hn
    refine h x (List.mem_filter.mpr ⟨hx, ?_⟩)
    by_cases e : x ∈ ns
    · exact decide_eq_true e
    · exact absurd (List.mem_filter.mpr ⟨hx, by rw [decide_eq_false e]; rfl⟩) hn
theorem run_cond {D D' D8 : PD} {ns row : List Str} (epl : D'.pl = D.pl) (hiff : ∀ c, Pu.Mom D8.pl c ↔ ∃ d, Pu.Mom D'.pl d ∧ ∀ x ∈ seenOf D.ev ns, d x = c x) : IsRun D8 row ↔ Pu.Cond D.pl (hidOf D.ev ns) row := by
  constructor
  · intro h p r e
    obtain ⟨d, hd, hv⟩ := (hiff _).mp (h p r e)
    exact ⟨d, epl ▸ hd, vis_iff.mpr hv⟩
  · intro h p r e
    obtain ⟨d, hd, hv⟩ := h p r e
    exact (hiff _).mpr ⟨d, epl ▸ hd, vis_iff.mp hv⟩
theorem learnt_runs {ev : List Str} {D12 : PD} {logs : List (List Str)} {F : Option Str → Str → Int} (hF : Pu.LogF ev logs F) (hiff : ∀ c, Pu.Mom D12.pl c ↔ Says ev (fun x => some (F none x)) (fun x y => some (F (some x) y)) c) {log : List Str} (hl : log ∈ logs) : IsRun D12 log := fun p r e => by
  refine (hiff _).mpr ⟨fun x _ => Pu.cnt_nn p x, fun x hx m hm => ?_, fun x hx y hy v _ hv => ?_⟩
  · have := hF.ub log hl p r e none (List.mem_cons_self ..) x hx
    simp only [Pu.cx] at this
    have := Option.some.inj hm
    omega
  · have := hF.ub log hl p r e (some x) (List.mem_cons_of_mem _ (List.mem_map.mpr ⟨x, hx, rfl⟩)) y hy
    simp only [Pu.cx] at this
    have := Option.some.inj hv
    omega
theorem learnt_within {D D12 : PD} (ok : PdOk D) {logs : List (List Str)} {F : Option Str → Str → Int} (hF : Pu.LogF D.ev logs F) (hiff : ∀ c, Pu.Mom D12.pl c ↔ Says D.ev (fun x => some (F none x)) (fun x y => some (F (some x) y)) c)
    (runs : ∀ log ∈ logs, IsRun D log) (c : Str → Int) (m : Pu.Mom D12.pl c) : Pu.Mom D.pl c := by
  obtain ⟨h0, h1, h2⟩ := (hiff c).mp m
  refine ⟨h0, fun t ht => ?_, fun x hx n hn => ?_⟩
  · obtain ⟨m1, m2, m3⟩ := ok.ends t ht
    by_cases e : t.1 = t.2.1
    · rw [e]; omega
    · have h3 := h2 _ m1 _ m2 _ e rfl
      rcases hF.at_ (some t.1) (List.mem_cons_of_mem _ (List.mem_map.mpr ⟨_, m1, rfl⟩)) t.2.1 m2 with z | ⟨log, hl, p, r, e1, e2⟩
      · omega
      · have h4 := (runs log hl p r e1).2.1 t ht
        simp only [Pu.cx] at e2
        omega
  · have h3 := h1 x hx _ rfl
    have n0 := ok.wf.lims x n hn
    rcases hF.at_ none (List.mem_cons_self ..) x hx with z | ⟨log, hl, p, r, e1, e2⟩
    · omega
    · have h4 := (runs log hl p r e1).2.2 x hx n hn
      simp only [Pu.cx] at e2
      omega
section
variable {P : Program} {w : World} {K : PySem.W.Frag} {mg : Str → Option Value} {base : Heap} {CP CT : Addr} {T : List (Addr × Str)}
abbrev N_law : List Str := ["_law_script", "_law_k", "_law_box_here", "_law_model_here", "_law_names_here", "_law_sheet", "_law_told", "_law_row", "_law_rolls", "_law_found", "_law_turn", "_law_roll"]
theorem sc_law : FnScope N_law ["_law_script"] (defScope s_law) := ⟨rfl, rfl, rfl, by decide +kernel, rfl, by decide +kernel, by decide +kernel⟩
def sp_law (K : PySem.W.Frag) (T : List (Addr × Str)) : Sp := fun vs H Q _ => ∃ (a : Addr) (ns : List Int), vs = [.ref a] ∧ SqL K H a (ns.map V.int) ∧ LamX.Tabs T H ∧ ∀ H', Q (.bl true) H'
theorem k_law (W : Ws K mg CP CT) {f : Addr} {fd : FuncData} (F : FunD K "law" "law" (defArgs s_law) (defBody s_law) (defScope s_law) [] [] f fd) 
    (c_law_cell : Cal P w K mg base 1 "_law_cell" ["_law_script", "_law_k"] (sp_cell K)) (c_law_box : Cal P w K mg base 1 "_law_box" ["_law_cell_here"] sp_box) (c_law_take : Cal P w K mg base 1 "_law_take" ["_law_box_here", "_law_many"] sp_take)
    (c_law_small : Cal P w K mg base 4 "_law_small" ["_law_box_here", "_law_many"] sp_small) (c_law_mixed : Cal P w K mg base 2 "_law_mixed" ["_law_box_here", "_law_some"] sp_mixed) (c_law_plan : Cal P w K mg base 6 "_law_plan" ["_law_model_here"] (sp_lplan CP))
    (c_seen : Cal P w K mg base 9 "seen" ["plan", "names"] (sp_seen CP T)) (c_law_read : Cal P w K mg base 2 "_law_read" ["_law_sheet"] (sp_read CP)) (c_law_lists : Cal P w K mg base 1 "_law_lists" ["_law_marks", "_law_most"] sp_lists)
    (c_law_is_run : Cal P w K mg base 2 "_law_is_run" ["_law_model_here", "_law_row"] sp_is_run) (c_law_fits : Cal P w K mg base 3 "_law_fits" ["_law_model_here", "_law_names_here", "_law_row"] sp_fits) (c_law_run : Cal P w K mg base 3 "_law_run" ["_law_box_here", "_law_model_here", "_law_many"] sp_run)
    (c_learnt : Cal P w K mg base 9 "learnt" ["events", "logs"] (sp_learnt CP T)) (c_within : Cal P w K mg base 6 "within" ["one", "other"] (sp_within CP)) : FnOk P w K mg base CX0 10 f fd ["_law_script"] (sp_law K T) := by
  refine funD_ok F sc_law (fun vs H Q E h => ?_) fun f cdv A outer s H vs Q E hr h => ⟨_, (pss_cons (ps_for PassesOwn.never rfl (pi_range1 (by rfl) W.f_range (pa_cons (pe_callB (call_max2 rfl) (by rfl) W.f_max (by decide +kernel) (pa_cons pe_int (pa_cons (pe_callB (call_min2 rfl) (by rfl) W.f_min (by decide +kernel) (pa_cons pe_int (pa_cons (pe_callB (len_seqK (K := K)) (by rfl) W.f_len (by decide +kernel) (pa_cons (pv 0) pa_nil)) pa_nil))) pa_nil))) pa_nil)) (pg_name (i := 1) sc_law.nd rfl (by first | exact Or.inl rfl | exact Or.inr rfl)) (pss_cons (ps_set (i := 2) sc_law.nd rfl (by first | exact Or.inl rfl | exact Or.inr rfl) (pe_cal c_law_box hr rfl (pa_cons (pe_cal c_law_cell hr rfl (pa_cons (pv 0) (pa_cons (pv 1) pa_nil))) pa_nil)))
      (pss_cons (ps_set (i := 3) sc_law.nd rfl (by first | exact Or.inl rfl | exact Or.inr rfl) (pe_cal c_law_small hr rfl (pa_cons (pv 2) (pa_cons (pe_op op_add pe_int (pe_cal c_law_take hr rfl (pa_cons (pv 2) (pa_cons pe_int pa_nil)))) pa_nil))))
      (pss_cons (ps_set (i := 4) sc_law.nd rfl (by first | exact Or.inl rfl | exact Or.inr rfl) (pe_slice sl_list (pe_cal c_law_mixed hr rfl (pa_cons (pv 2) (pa_cons (pe_ix (ix_listK (K := K)) (pv 3) pe_int (fun _ _ => rfl)) pa_nil))) po_none (po_some (pe_callB (call_max2 rfl) (by rfl) W.f_max (by decide +kernel) (pa_cons pe_int (pa_cons (pe_op op_sub (pe_callB (len_seqK (K := K)) (by rfl) W.f_len (by decide +kernel) (pa_cons (pe_ix (ix_listK (K := K)) (pv 3) pe_int (fun _ _ => rfl)) pa_nil)) (pe_cal c_law_take hr rfl (pa_cons (pv 2) (pa_cons pe_int pa_nil)))) pa_nil))))))
      (pss_cons (ps_set (i := 5) sc_law.nd rfl (by first | exact Or.inl rfl | exact Or.inr rfl) (pe_cal c_law_plan hr rfl (pa_cons (pv 3) pa_nil)))
      (pss_cons (ps_set (i := 6) sc_law.nd rfl (by first | exact Or.inl rfl | exact Or.inr rfl) (pe_cal c_law_read hr rfl (pa_cons (pe_cal c_seen hr rfl (pa_cons (pv 5) (pa_cons (pv 4) pa_nil))) pa_nil)))
      (pss_cons (ps_for PassesOwn.never rfl (pi_listK (K := K) (pe_cal c_law_lists hr rfl (pa_cons (pe_ix (ix_listK (K := K)) (pv 6) pe_int (fun _ _ => rfl)) (pa_cons (pe_ifExp (pt_cmpR op_lt (pe_callB (len_seqK (K := K)) (by rfl) W.f_len (by decide +kernel) (pa_cons (pv 4) pa_nil)) pe_int (nomark _)) pe_int pe_int) pa_nil)))) (pg_name (i := 7) sc_law.nd rfl (by first | exact Or.inl rfl | exact Or.inr rfl)) (pss_one (ps_if (pt_cmpR op_ne (pe_cal c_law_is_run hr rfl (pa_cons (pv 6) (pa_cons (pv 7) pa_nil))) (pe_cal c_law_fits hr rfl (pa_cons (pv 3) (pa_cons (pv 4) (pa_cons (pv 7) pa_nil)))) (nomark _)) (pss_one (ps_ret pe_bl)) pss_nil)))
      (pss_cons (ps_setLc (i := 8) (own := [("_law_turn", 10)]) (g := (gName 10)) (tt := tYes) rfl sc_law.nd rfl rfl (sw_true rfl rfl rfl (by decide +kernel)) (pi_range1 (by rfl) W.f_range (pa_cons pe_int pa_nil)) (blkOk_by (own := [("_law_turn", 10)]) (N := N_law) (sc := defScope s_law) (by decide +kernel)) (fun _ _ _ _ _ => (pg_name (i := 10) sc_law.nd rfl (by first | exact Or.inl rfl | exact Or.inr rfl))) (fun _ _ _ _ _ => pts_nil) (fun _ _ _ _ _ => (pe_cal c_law_run hr rfl (pa_cons (pv 2) (pa_cons (pv 3) (pa_cons pe_int pa_nil))))))
      (pss_cons (ps_set (i := 9) sc_law.nd rfl (by first | exact Or.inl rfl | exact Or.inr rfl) (pe_cal c_learnt hr rfl (pa_cons (pe_ix (ix_listK (K := K)) (pv 3) pe_int (fun _ _ => rfl)) (pa_cons (pv 8) pa_nil))))
      (pss_cons (ps_if (pt_cmpR (op_neNil hr.units0) (pe_lc (own := [("_law_roll", 11)]) (g := (gName 11)) (tt := _) rfl sc_law.nd (pi_listK (K := K) (pv 8)) (blkOk_by (own := [("_law_roll", 11)]) (N := N_law) (sc := defScope s_law) (by decide +kernel)) (fun _ _ _ _ _ => (pg_name (i := 11) sc_law.nd rfl (by first | exact Or.inl rfl | exact Or.inr rfl))) (fun _ _ _ _ _ => (pts_one (pt_not (pt_val (pe_cal c_law_is_run hr rfl (pa_cons (pe_cal c_law_read hr rfl (pa_cons (pv 9) pa_nil)) (pa_cons (pv 11) pa_nil))))))) (fun _ _ _ _ _ => (pv 11))) (pe_lst pa_nil) (by rfl)) (pss_one (ps_ret pe_bl)) pss_nil)
      (pss_one (ps_if (pt_cmpR op_notN (pe_cal c_within hr rfl (pa_cons (pv 9) (pa_cons (pv 5) pa_nil))) pe_non (nomark _)) (pss_one (ps_ret pe_bl)) pss_nil))))))))))))
      (pss_one (ps_ret pe_bl))), ?_⟩
  · obtain ⟨a, ns, rfl, _⟩ := h; rfl
  obtain ⟨a, ns, rfl, hs, hT, q⟩ := h
  refine ⟨_, rfl, a, _, rfl, .inl hs, _, _, rfl, _, _, rfl, _, rfl, by split <;> split <;> omega, by split <;> split <;> omega, for_it wk_rng (fun i σ H' => SqL K H' a (ns.map V.int) ∧ LamX.Tabs T H' ∧ ∃ u1 u2 u3 u4 u5 u6 u7 u8 u9 u10 u11, σ = [some (.ref a), u1, u2, u3, u4, u5, u6, u7, u8, u9, u10, u11])
    ⟨hs, hT, _, _, _, _, _, _, _, _, _, _, _, rfl⟩ (fun _ _ _ _ _ => trivial) (fun i v σ H0 H1 hi p y => ?_) fun σ H0 p0 => ?_⟩
  rotate_left
  · obtain ⟨_, _, _, _, _, _, _, _, _, _, _, _, _, rfl⟩ := p0
    exact q H0
  obtain ⟨hs, hT, u1, u2, u3, u4, u5, u6, u7, u8, u9, u10, u11, rfl⟩ := p
  obtain ⟨rfl, rfl⟩ := y
  have hi6 : i < 100 := by
    revert hi
    split <;> split <;> omega
  have i0 : (0 : Int) + (i : Int) = (i : Int) := Int.zero_add _
  rw [i0]
  refine ⟨_, rfl, _, rfl, a, ns, i, rfl, hs, hi6, fun z => ⟨z, rfl, fun b H2 hb s2 bx2 => ?_⟩⟩
  have fr2 : Fr b H1 H2 := Fr.same s2
  have hT2 := tabs_same hT s2
  refine ⟨_, rfl, _, rfl, b, 4, 0, rfl, by decide, by decide, bx2, by omega, fun H3 d bt3 bx3 d0 dlt => ⟨_, _, rfl, rfl, ?_⟩⟩
  have dn : (((1 + d).toNat : Nat) : Int) = 1 + d := Int.toNat_of_nonneg (by omega)
  refine ⟨b, (1 + d).toNat, 0 + 1, by rw [dn]; rfl, by omega, by omega, bx3, by omega, fun M H4 D bt4 bx4 mo4 ok hl => ?_⟩
  have fr4 := (fr2.trans (Fr.but bt3)).trans (Fr.but bt4)
  have hT4 := tabs_box (tabs_box hT2 bx2 bt3) bx3 bt4
  have l4 : D.ev.length ≤ 4 := by omega
  have l8 : D.ev.length ≤ 8 := ok.le
  obtain ⟨ma, mt, ml, hM4, ha4, _⟩ := id mo4
  have nM := box_not bx4 hM4 (by intro x y z e; cases e)
  -- the seen names
  refine ⟨_, rfl, _, rfl, M, _, 0, .ref ma, rfl, rfl, sq hM4, rfl, b, ma, _, D.ev, rfl, bx4, by omega, ha4, by omega, fun mx H5 ys bt5 bx5 gy5 perm => ?_⟩
  have hM5 := bt5 _ _ nM hM4
  have ha5 := bt5 _ _ (bx4.ne ha4) ha4
  refine ⟨_, rfl, M, _, 0, .ref ma, rfl, rfl, sq hM5, rfl, ma, _, rfl, .inl (sq ha5), _, rfl, b, 3, _, rfl, by decide, by decide, bx5, by omega, fun H6 d6 bt6 bx6 d60 d6lt => ⟨_, _, rfl, rfl, _, _, rfl, _, rfl, mx, _, rfl, sq (bt6 _ _ (bx5.ne gy5) gy5), fun nm hnm => ?_⟩⟩
  have plen := perm.length_eq
  have ynd : ys.Nodup := perm.nodup_iff.mpr ok.nd
  have pos : 0 < D.ev.length := List.length_pos_iff.mpr ok.ne
  obtain ⟨j, hj, j1, jl⟩ : ∃ j : Nat, (if ((D.ev.map V.str).length : Int) - d6 > 1 then ((D.ev.map V.str).length : Int) - d6 else 1) = (j : Int) ∧ 1 ≤ j ∧ j ≤ (ys.map V.str).length := by
    rw [List.length_map, List.length_map, plen]
    split
    · exact ⟨((D.ev.length : Int) - d6).toNat, by omega, by omega, by omega⟩
    · exact ⟨1, rfl, Nat.le_refl _, by omega⟩
  rw [hj, cut_take _ _ jl, ← List.map_take]
  rw [List.length_map] at jl
  have hne : ys.take j ≠ [] := fun z => by
    have := congrArg List.length z
    rw [List.length_take, List.length_nil] at this
    omega
  have hnd : (ys.take j).Nodup := ynd.sublist (List.take_sublist ..)
  have hsub : ∀ x ∈ ys.take j, x ∈ D.ev := fun x hx => perm.mem_iff.mp (List.mem_of_mem_take hx)
  generalize ys.take j = names at hne hnd hsub
  have f7 := same_new (o := .lst (names.map V.str)) hnm
  have bx7 := bx6.same f7
  have fr47 := ((Fr.but bt5).trans (Fr.but bt6)).trans (Fr.same f7)
  have mo7 := mo4.fr bx4 fr47
  have hT7 := tabs_same (tabs_box (tabs_box hT4 bx4 bt5) bx5 bt6) f7
  have gn7 : (upd H6 nm (.lst (names.map V.str))) nm = some (.lst (names.map V.str)) := upd_same
  generalize upd H6 nm (.lst (names.map V.str)) = H7 at f7 bx7 fr47 mo7 hT7 gn7
  have fr7 := fr4.trans fr47
  refine ⟨_, rfl, M, D, rfl, mo7, ok, fun p H8 ls' s8 pl8 ok8 hls => ?_⟩
  have epl : PD.pl ⟨D.ev, D.ties, ls'⟩ = D.pl := by
    show (⟨D.ev, D.ties, lk ls'⟩ : Pu.Pl Str) = ⟨D.ev, D.ties, lk D.ls⟩
    rw [show lk ls' = lk D.ls from funext hls]
  have hev8 : PD.ev ⟨D.ev, D.ties, ls'⟩ = D.ev := rfl
  generalize hD8 : PD.mk D.ev D.ties ls' = D8 at pl8 ok8 epl hev8
  refine ⟨_, rfl, _, rfl, p, nm, D8, names, rfl, pl8, ok8, s8 _ _ gn7, hne, hnd, (fun x hx => by rw [hev8]; exact hsub x hx), tabs_same hT7 s8, fun r H9 D9 x9 T9 pl9 ok9 hev9 hiff9 => ?_⟩
  rw [hev8] at hev9 hiff9
  refine ⟨r, D9, rfl, pl9, ok9.le, fun Tl H10 s10 mo10 => ?_⟩
  have fr710 := ((Fr.same (b := b) s8).trans (Fr.ext x9)).trans (Fr.same s10)
  have bx10 := ((bx7.same s8).ext x9).same s10
  have moM := mo7.fr bx7 fr710
  have plp := pl8.fr (bx7.same s8) ((Fr.ext x9).trans (Fr.same s10))
  have gn10 := list_fr bx7 fr710 gn7
  have T10 := tabs_same T9 s10
  have fr10 := fr7.trans fr710
  clear fr710 x9 s8 pl8 mo7 mo4 pl9 fr47 bt3 bt4 bt5 bt6
  obtain ⟨ta, tt, tl, hTl, hta, _⟩ := id mo10
  have l9 : D9.ev.length ≤ 4 := by
    rw [hev9]
    exact Nat.le_trans (List.length_filter_le ..) l4
  have hin9 : ∀ x ∈ D9.ev, x ∈ D.ev ∧ x ∈ names := fun x hx => by
    rw [hev9] at hx
    obtain ⟨h1, h2⟩ := List.mem_filter.mp hx
    exact ⟨h1, of_decide_eq_true h2⟩
  refine ⟨_, rfl, Tl, _, 0, .ref ta, rfl, rfl, sq hTl, rfl, _, rfl, nm, _, rfl, .inl (sq gn10), _, _, rfl, rfl, decide _, rfl, ?_⟩
  by_cases hs3 : (((names.map V.str).length : Nat) : Int) < 3
  case' pos =>
    rw [decide_eq_true hs3]
    refine ⟨ta, 4, D9.ev, rfl, by decide, hta, l9, fun F H11 rows s11 lg11 rok => ?_⟩
  case' neg =>
    rw [decide_eq_false hs3]
    refine ⟨ta, 3, D9.ev, rfl, by decide, hta, l9, fun F H11 rows s11 lg11 rok => ?_⟩
  all_goals
    obtain ⟨rs, hF, hrs⟩ := lg11
    refine ⟨F, rfl, ⟨_, sq hF⟩, for_it wk_list (fun j' σ H' => Same H11 H' ∧ ∃ v7, σ = [some (.ref a), some (.int (i : Int)), some (.ref b), some (.ref M), some (.ref nm), some (.ref p), some (.ref Tl), v7, u8, u9, u10, u11]) ⟨Same.refl _, _, rfl⟩ (fun j' σ H' _ p => sq (p.1 _ _ hF)) (fun j' v σ H12 H13 hj' p' y => ?_) fun σ H12 p12 => ?_⟩
    · obtain ⟨s12, v7, rfl⟩ := p'
      obtain ⟨rfl, hx⟩ := y
      obtain ⟨R, hR, rfl⟩ := map_at hx
      obtain ⟨row, hrow, hgr⟩ := paired_get hrs hR
      obtain ⟨rl, rin⟩ := rok row (List.mem_of_getElem? hrow)
      have s1013 := Same.trans s11 s12
      refine ⟨_, rfl, _, rfl, Tl, R, D9, row, rfl, mo10.same s1013, ok9, s12 _ _ hgr, rin, fun H14 r1 s14 hr1 => ?_⟩
      refine ⟨_, rfl, _, rfl, _, rfl, M, nm, R, D, names, row, rfl, (moM.same s1013).same s14, ok, l4, s14 _ _ (s1013 _ _ gn10), s14 _ _ (s12 _ _ hgr), (fun x hx => hin9 x (rin x hx)), rl, fun H15 r2 s15 hr2 => ?_⟩
      have er : r1 = r2 := Bool.eq_iff_iff.mpr (hr1.trans ((run_cond epl hiff9).trans hr2.symm))
      subst er
      refine ⟨rfl, _, rfl, ?_⟩
      rw [decide_eq_true rfl]
      exact ⟨Same.trans s12 (Same.trans s14 s15), _, rfl⟩
    obtain ⟨s12, v7, rfl⟩ := p12
    have s1012 := Same.trans s11 s12
    have bx12 := bx10.same s1012
    have mo12 := moM.same s1012
    have pl12 := plp.same s1012
    have T12 := tabs_same T10 s1012
    have fr12 := fr10.trans (Fr.same s1012)
    have mD : D.ev.length ≤ 4 := l4
    refine ⟨3, rfl, by decide, by decide, fun RL hRL => lc_it wk_rng (fun k H' => Fr b H12 H' ∧ BoxAt H' b (200 + 12 * k) ∧ LamX.Tabs T H' ∧ ∃ lrows, LsAt H' RL [RL] lrows ∧ lrows.length = k ∧ ∀ l ∈ lrows, l.length ≤ 12 ∧ (∀ x ∈ l, x ∈ D.ev) ∧ IsRun D l)
      ⟨Fr.same (same_new hRL), (bx12.upd (fresh_ne bx12 hRL)).mono (by omega), tabs_same T12 (same_new hRL), [], ⟨[], upd_same, .nil⟩, rfl, fun l h => by cases h⟩ (fun _ _ _ _ => trivial) (fun k v H13 H14 hk p' y => ?_) fun H13 p13 => ?_⟩
    · obtain ⟨fr, bx, hTk, lrows, ⟨es, eR, ep⟩, lk, each⟩ := p'
      obtain ⟨rfl, rfl⟩ := y
      have nRb := fresh_ne bx12 hRL
      have el := Paired.length ep
      have hk3 : k < 3 := hk
      refine ⟨rfl, _, rfl, _, rfl, b, M, 12, _, D, rfl, bx, by omega, by decide, mo12.fr bx12 fr, ok, fun G H15 row hG bt bx' g rl rin run => ?_⟩
      have eR' := bt _ _ nRb eR
      have nG : G ≠ RL := fun z => by rw [z, eR] at hG; cases hG
      refine ⟨_, eR', by rw [List.length_map]; exact sz_lt (by omega), (fr.trans (Fr.but bt)).mut hRL, (bx'.upd nRb).mono (by omega), tabs_upd (tabs_box hTk bx bt) eR', lrows ++ [row], ⟨es ++ [G], by rw [upd_same, List.map_append]; rfl, paired_app (Paired.mapP ep fun u y z => ⟨?_, z.2⟩) (.cons ⟨?_, fun z hz => ?_⟩ .nil)⟩, by rw [List.length_append, lk]; rfl, fun l hl => ?_⟩
      · rw [upd_ne (z.2 RL (List.mem_singleton.mpr rfl))]
        exact bt _ _ (bx.ne z.1) z.1
      · rw [upd_ne nG]; exact g
      · rw [List.mem_singleton.mp hz]; exact nG
      · rcases List.mem_append.mp hl with hl | hl
        · exact each l hl
        · rw [List.mem_singleton.mp hl]; exact ⟨rl, rin, run⟩
    obtain ⟨fr13, bx13, T13, lrows, ls13, ll, each⟩ := p13
    have ll : lrows.length = 3 := ll
    have mo13 := mo12.fr bx12 fr13
    have pl13 := pl12.fr bx12 fr13
    obtain ⟨na, nt, nl, hM13, ha13, _⟩ := id mo13
    refine ⟨_, rfl, M, _, 0, .ref na, rfl, rfl, sq hM13, rfl, _, rfl, na, RL, D.ev, lrows, rfl, ⟨ha13, ok.ne, ok.le, ok.nd, ok.nm⟩, ls13.logs, by omega, fun l hl => ⟨by have := (each l hl).1; omega, (each l hl).2.1⟩, T13, fun fd H17 D17 F17 x17 T17 pl17 ok17 hev17 hF17 hiff17 => ?_⟩
    have bx17 := bx13.ext x17
    have pp17 := pl13.fr bx13 (Fr.ext x17)
    have ls17 : LogsAt H17 RL lrows := by
      obtain ⟨es, e1, e2⟩ := ls13.logs
      exact ⟨es, x17 _ _ e1 (fun _ z => by cases z), Paired.mapP e2 fun _ _ z => x17 _ _ z (fun _ q => by cases q)⟩
    obtain ⟨es, eR, ep⟩ := ls17
    refine ⟨_, rfl, RL, rfl, ⟨_, sq eR⟩, fun G hG => lc_it wk_list (fun k H' => Same H17 H' ∧ H' G = some (.lst [])) ⟨same_new hG, upd_same⟩ (fun k H' _ p => sq (p.1 _ _ eR)) (fun k v H18 H19 hk p' y => ?_) fun H18 p18 => ?_⟩
    · obtain ⟨s18, g18⟩ := p'
      obtain ⟨rfl, hx⟩ := y
      obtain ⟨R, hR, rfl⟩ := map_at hx
      obtain ⟨row, hrow, hgr⟩ := paired_get ep hR
      have hm := List.mem_of_getElem? hrow
      refine ⟨rfl, _, rfl, fd, D17, rfl, pl17.same s18, ok17.le, fun Tm H20 s20 mo20 => ⟨_, rfl, Tm, R, D17, row, rfl, mo20, ok17, s20 _ _ (s18 _ _ hgr), (fun x hx => by rw [hev17]; exact (each row hm).2.1 x hx), fun H21 r1 s21 hr1 => ⟨r1, rfl, ?_⟩⟩⟩
      have : r1 = true := hr1.mpr (learnt_runs hF17 hiff17 hm)
      subst this
      exact ⟨Same.trans s18 (Same.trans s20 s21), s21 _ _ (s20 _ _ g18)⟩
    obtain ⟨s18, g18⟩ := p18
    refine ⟨Nat.zero_le _, fun e0 he0 => ⟨G, e0, _, rfl, rfl, sq (same_new he0 _ _ g18), sq upd_same, _, rfl, ?_⟩⟩
    have s19 := Same.new (o := .lst []) s18 he0
    generalize upd H18 e0 (.lst []) = H19 at s19
    refine ⟨_, rfl, _, rfl, fd, p, D17, D8, rfl, pl17.same s19, pp17.same s19, ok17, ok8, by rw [hev8, hev17], (fun c m => epl ▸ learnt_within ok hF17 hiff17 (fun l hl => (each l hl).2.2) c m), fun H20 s20 => ⟨rfl, _, rfl, ?_⟩⟩
    have frE := ((fr12.trans fr13).trans (Fr.ext x17)).trans ((Fr.same s19).trans (Fr.same s20))
    exact ⟨sql_fr hs hb frE, tabs_same T17 (Same.trans s19 s20), _, _, _, _, _, _, _, _, _, _, _, rfl⟩
end
end Pk
end
section
set_option maxHeartbeats 0
namespace Pk
open PySem PySem.Spec PyProof.Rows L2
theorem code_at {K : PySem.W.Frag} {p : Str × Option Str} {x qual : Str} {params : Arguments} {body : List Stmt} {scope : Scope} {dvs : List V} {kws : List (Str × V)} {fd : FuncData} (F : FunD K x qual params body scope dvs kws (He.fAd K p) fd) : fd.code = .ref (He.codeOf K p) := by
  obtain ⟨oc, od, dV, kV, doc, pm, an, cdv, ct, osl, e, lk, hcd, _, _⟩ := F.ex
  obtain ⟨c, hc⟩ := He.codeIn_ref hcd
  have e2 : fd.code = .ref c := by
    rw [e]
    exact hc
  rw [e2, He.codeOf_eq lk e2]
theorem and_d {a b : Bool} (h : (a && b) = true) : a = true ∧ b = true := by cases a <;> cases b <;> simp_all
section
variable {K : PySem.W.Frag} {h : Heap} {mg : Str → Option Value} {w : World}
theorem factsL (X : K.In h) (G : h.Ns mainGlobals mg) (c : He.SaysX faL fnL [] tfL exL w h K) : Ws K mg (He.ga K "Plan") (He.ga K "Table") := by
  have d := c.t.d
  have m := c.more
  unfold exL at m
  obtain ⟨m1, m⟩ := and_d m
  obtain ⟨m2, m⟩ := and_d m
  obtain ⟨m3, m⟩ := and_d m
  obtain ⟨m4, m⟩ := and_d m
  obtain ⟨m5, m6⟩ := and_d m
  have gP := He.glo_ok X G (d.fact 40 (f := .glo "Plan") rfl)
  have gT := He.glo_ok X G (d.fact 41 (f := .glo "Table") rfl)
  have cP := He.cls_ok (d.fact 42 (f := .cls "Plan") rfl)
  have cT := He.cls_ok (d.fact 43 (f := .cls "Table") rfl)
  exact {
    f_isinstance := He.free_ok X G (d.fact 66 (f := .free "isinstance") rfl),
    f_int := He.free_ok X G (d.fact 67 (f := .free "int") rfl),
    f_bool := He.free_ok X G (d.fact 68 (f := .free "bool") rfl),
    f_str := He.free_ok X G (d.fact 69 (f := .free "str") rfl),
    f_list := He.free_ok X G (d.fact 70 (f := .free "list") rfl),
    f_tuple := He.free_ok X G (d.fact 71 (f := .free "tuple") rfl),
    f_dict := He.free_ok X G (d.fact 72 (f := .free "dict") rfl),
    f_len := He.free_ok X G (d.fact 73 (f := .free "len") rfl),
    f_all := He.free_ok X G (d.fact 74 (f := .free "all") rfl),
    f_enumerate := He.free_ok X G (d.fact 75 (f := .free "enumerate") rfl),
    f_range := He.free_ok X G (d.fact 76 (f := .free "range") rfl),
    f_max := He.free_ok X G (d.fact 77 (f := .free "max") rfl),
    f_min := He.free_ok X G (d.fact 78 (f := .free "min") rfl),
    f_sorted := He.free_ok X G (d.fact 79 (f := .free "sorted") rfl),
    n_own_events := He.noat_ok (d.fact 51 (f := .noat "Plan" "own_events") rfl),
    n_own_ties := He.noat_ok (d.fact 52 (f := .noat "Plan" "own_ties") rfl),
    n_own_limits := He.noat_ok (d.fact 53 (f := .noat "Plan" "own_limits") rfl),
    n_row_of_events := He.noat_ok (d.fact 54 (f := .noat "Table" "row_of_events") rfl),
    n_leads := He.noat_ok (d.fact 55 (f := .noat "Table" "leads") rfl),
    n_steps := He.noat_ok (d.fact 56 (f := .noat "Table" "steps") rfl),
    c_LETTERS := let ⟨t, e⟩ := He.str_ok X G (d.fact 57 (f := .str "LETTERS" "abcdefghijklmnopqrstuvwxyz") rfl); ⟨_, e, t, rfl⟩,
    c_MOST_LETTERS := let ⟨t, e⟩ := He.int_ok X G (d.fact 58 (f := .int "MOST_LETTERS" 8) rfl); ⟨_, e, t, rfl⟩,
    c_MOST_EVENTS := let ⟨t, e⟩ := He.int_ok X G (d.fact 59 (f := .int "MOST_EVENTS" 8) rfl); ⟨_, e, t, rfl⟩,
    c_MOST_TIES := let ⟨t, e⟩ := He.int_ok X G (d.fact 60 (f := .int "MOST_TIES" 60) rfl); ⟨_, e, t, rfl⟩,
    c_HOLD := let ⟨t, e⟩ := He.str_ok X G (d.fact 61 (f := .str "HOLD" "limit") rfl); ⟨_, e, t, rfl⟩,
    c_TIE := let ⟨t, e⟩ := He.str_ok X G (d.fact 62 (f := .str "TIE" "tie") rfl); ⟨_, e, t, rfl⟩,
    c_NONE := let ⟨t, e⟩ := He.str_ok X G (d.fact 63 (f := .str "NONE" "none") rfl); ⟨_, e, t, rfl⟩,
    c_MOST_LOGS := let ⟨t, e⟩ := He.int_ok X G (d.fact 64 (f := .int "MOST_LOGS" 80) rfl); ⟨_, e, t, rfl⟩,
    c_MOST_IN_LOG := let ⟨t, e⟩ := He.int_ok X G (d.fact 65 (f := .int "MOST_IN_LOG" 200) rfl); ⟨_, e, t, rfl⟩,
    g_Plan := gP,
    g_Table := gT,
    c_Plan := ⟨_, gP, rfl⟩,
    cl_Plan := cP,
    cl_Table := cT,
    i_Plan := ⟨cP, of_decide_eq_true m1, of_decide_eq_true m2, of_decide_eq_true m3, of_decide_eq_true m4, of_decide_eq_true m5⟩ }
theorem lawL {P : Program} {base : Heap} (X : K.In h) (G : h.Ns mainGlobals mg) (c : He.SaysX faL fnL [] tfL exL w h K) (TBs : LamX.TabB base mg (He.cT K ("seen", none)).1 (He.cT K ("seen", none)).2) (TBl : LamX.TabB base mg (He.cT K ("learnt", none)).1 (He.cT K ("learnt", none)).2) :
    ∀ fd, FunD K "law" "law" (defArgs s_law) (defBody s_law) (defScope s_law) [] [] (He.ga K "law") fd → FnOk P w K mg base CX0 10 (He.ga K "law") fd ["_law_script"] (sp_law K [((He.cT K ("seen", none)).2, ("seen.<locals>.<lambda>" : Str)), ((He.cT K ("learnt", none)).2, ("learnt.<locals>.<lambda>" : Str))]) := by
  have W := factsL X G c
  have d := c.t.d
  have m := c.more
  unfold exL at m
  have ne : (He.cT K ("seen", none)).2 ≠ (He.cT K ("learnt", none)).2 := by
    have m6 := (and_d (and_d (and_d (and_d (and_d m).2).2).2).2).2
    intro z
    rw [decide_eq_true z] at m6
    cases m6
  have hus : ∀ p ∈ [((He.cT K ("seen", none)).2, ("seen.<locals>.<lambda>" : Str)), ((He.cT K ("learnt", none)).2, ("learnt.<locals>.<lambda>" : Str))], p.1 = (He.cT K ("seen", none)).2 → p.2 = ("seen.<locals>.<lambda>" : Str) := fun p hp e => by
    rcases List.mem_cons.mp hp with z | z
    · rw [z]
    · rw [List.mem_singleton.mp z] at e
      exact absurd e.symm ne
  have hul : ∀ p ∈ [((He.cT K ("seen", none)).2, ("seen.<locals>.<lambda>" : Str)), ((He.cT K ("learnt", none)).2, ("learnt.<locals>.<lambda>" : Str))], p.1 = (He.cT K ("learnt", none)).2 → p.2 = ("learnt.<locals>.<lambda>" : Str) := fun p hp e => by
    rcases List.mem_cons.mp hp with z | z
    · rw [z] at e
      exact absurd e ne
    · rw [List.mem_singleton.mp z]
  have c_is_integer := k_is_integer (P := P) (w := w) (base := base) W (by
    obtain ⟨fd, F⟩ := d.def_ 0 (d := d_is_integer) rfl
    exact ⟨_, fd, F, He.glo_ok X G (d.fact 0 (f := .glo "is_integer") rfl)⟩) 
  have c_is_count := k_is_count (P := P) (w := w) (base := base) W (by
    obtain ⟨fd, F⟩ := d.def_ 1 (d := d_is_count) rfl
    exact ⟨_, fd, F, He.glo_ok X G (d.fact 1 (f := .glo "is_count") rfl)⟩) c_is_integer
  have c_is_name := k_is_name (P := P) (w := w) (base := base) W (by
    obtain ⟨fd, F⟩ := d.def_ 2 (d := d_is_name) rfl
    exact ⟨_, fd, F, He.glo_ok X G (d.fact 2 (f := .glo "is_name") rfl)⟩) 
  have c_is_list := k_is_list (P := P) (w := w) (base := base) W (by
    obtain ⟨fd, F⟩ := d.def_ 3 (d := d_is_list) rfl
    exact ⟨_, fd, F, He.glo_ok X G (d.fact 3 (f := .glo "is_list") rfl)⟩) 
  have c_need_events := k_need_events (P := P) (w := w) (base := base) W (by
    obtain ⟨fd, F⟩ := d.def_ 4 (d := d_need_events) rfl
    exact ⟨_, fd, F, He.glo_ok X G (d.fact 4 (f := .glo "need_events") rfl)⟩) c_is_list c_is_name
  have c_need_event := k_need_event (P := P) (w := w) (base := base) W (by
    obtain ⟨fd, F⟩ := d.def_ 5 (d := d_need_event) rfl
    exact ⟨_, fd, F, He.glo_ok X G (d.fact 5 (f := .glo "need_event") rfl)⟩) c_is_name
  have c_need_ties := k_need_ties (P := P) (w := w) (base := base) W (by
    obtain ⟨fd, F⟩ := d.def_ 6 (d := d_need_ties) rfl
    exact ⟨_, fd, F, He.glo_ok X G (d.fact 6 (f := .glo "need_ties") rfl)⟩) c_is_list c_need_event c_is_count
  have c_need_limits := k_need_limits (P := P) (w := w) (base := base) W (by
    obtain ⟨fd, F⟩ := d.def_ 7 (d := d_need_limits) rfl
    exact ⟨_, fd, F, He.glo_ok X G (d.fact 7 (f := .glo "need_limits") rfl)⟩) c_is_name c_is_count
  have c_reached := k_reached (P := P) (w := w) (base := base) W (by
    obtain ⟨fd, F⟩ := d.def_ 9 (d := d_reached) rfl
    exact ⟨_, fd, F, He.glo_ok X G (d.fact 9 (f := .glo "reached") rfl)⟩) 
  have c_need_no_ring := k_need_no_ring (P := P) (w := w) (base := base) W (by
    obtain ⟨fd, F⟩ := d.def_ 8 (d := d_need_no_ring) rfl
    exact ⟨_, fd, F, He.glo_ok X G (d.fact 8 (f := .glo "need_no_ring") rfl)⟩) c_reached
  have m_events := k_Plan_events (P := P) (w := w) (base := base) W (by
    obtain ⟨fd, F⟩ := d.def_ 11 (d := d_Plan_events) rfl
    exact ⟨_, fd, F, He.meth_ok (d.fact 46 (f := .meth "Plan" "events") rfl)⟩) 
  have m_ties := k_Plan_ties (P := P) (w := w) (base := base) W (by
    obtain ⟨fd, F⟩ := d.def_ 12 (d := d_Plan_ties) rfl
    exact ⟨_, fd, F, He.meth_ok (d.fact 47 (f := .meth "Plan" "ties") rfl)⟩) 
  have m_limits := k_Plan_limits (P := P) (w := w) (base := base) W (by
    obtain ⟨fd, F⟩ := d.def_ 13 (d := d_Plan_limits) rfl
    exact ⟨_, fd, F, He.meth_ok (d.fact 48 (f := .meth "Plan" "limits") rfl)⟩) 
  have c_need_plan := k_need_plan (P := P) (w := w) (base := base) W (by
    obtain ⟨fd, F⟩ := d.def_ 14 (d := d_need_plan) rfl
    exact ⟨_, fd, F, He.glo_ok X G (d.fact 10 (f := .glo "need_plan") rfl)⟩) 
  have i_Plan : IPlan P w K mg base (He.ga K "Plan") := by
    obtain ⟨fd, F⟩ := d.def_ 10 (d := d_Plan_init) rfl
    obtain ⟨its, mv, kb⟩ := FunD.kbinds (ps := ["self", "events", "ties", "limits"]) F 3 ["limits"] [] (fun us _ _ ws => us ++ ws) (by intro z; cases z) (by intro z; cases z) (fun _ h => by cases h) (fun a _ _ b => Vals.append a b) (fun T D doc pm an cdv ct us its mv ws hu hi hm hw => match us, ws, mv, its, hu, hw, hm, (show its.length = 1 from hi) with | [_, _, _], [_], [], [_], _, _, _, _ => ⟨_, rfl, rfl⟩)
    exact ⟨_, fd, _, k_Plan_init W F c_need_events c_need_ties c_need_limits c_need_no_ring, He.mkr_ok (d.fact 44 (f := .mkr "Plan") rfl), kb⟩
  have c_leads_of := k_leads_of (P := P) (w := w) (base := base) W (by
    obtain ⟨fd, F⟩ := d.def_ 16 (d := d_leads_of) rfl
    exact ⟨_, fd, F, He.glo_ok X G (d.fact 12 (f := .glo "leads_of") rfl)⟩) 
  have c_rows_of := k_rows_of (P := P) (w := w) (base := base) W (by
    obtain ⟨fd, F⟩ := d.def_ 15 (d := d_rows_of) rfl
    exact ⟨_, fd, F, He.glo_ok X G (d.fact 11 (f := .glo "rows_of") rfl)⟩) m_events m_ties m_limits
  have i_Table : ITable P w K mg base (He.ga K "Plan") (He.ga K "Table") := by
    obtain ⟨fd, F⟩ := d.def_ 17 (d := d_Table_init) rfl
    exact ⟨_, fd, k_Table_init W F c_need_plan c_rows_of c_leads_of m_events, He.mkr_ok (d.fact 45 (f := .mkr "Table") rfl), F.bindsN fun _ _ _ _ _ _ us hl => match us, hl with | [_, _], _ => rfl⟩
  have m_lead := k_lead (P := P) (w := w) (base := base) W (by
    obtain ⟨fd, F⟩ := d.def_ 18 (d := d_Table_lead) rfl
    exact ⟨_, fd, F, He.meth_ok (d.fact 49 (f := .meth "Table" "lead") rfl)⟩) c_need_event
  have m_most := k_most (P := P) (w := w) (base := base) W (by
    obtain ⟨fd, F⟩ := d.def_ 19 (d := d_Table_most) rfl
    exact ⟨_, fd, F, He.meth_ok (d.fact 50 (f := .meth "Table" "most") rfl)⟩) c_need_event
  have c_need_alike_events := k_need_alike_events (P := P) (w := w) (base := base) W (by
    obtain ⟨fd, F⟩ := d.def_ 20 (d := d_need_alike_events) rfl
    exact ⟨_, fd, F, He.glo_ok X G (d.fact 13 (f := .glo "need_alike_events") rfl)⟩) c_need_plan m_events
  have c_breaches := k_breaches (P := P) (w := w) (base := base) W (by
    obtain ⟨fd, F⟩ := d.def_ 21 (d := d_breaches) rfl
    exact ⟨_, fd, F, He.glo_ok X G (d.fact 14 (f := .glo "breaches") rfl)⟩) i_Table m_lead m_most m_ties m_limits
  have c_within := k_within (P := P) (w := w) (base := base) W (by
    obtain ⟨fd, F⟩ := d.def_ 22 (d := d_within) rfl
    exact ⟨_, fd, F, He.glo_ok X G (d.fact 15 (f := .glo "within") rfl)⟩) c_need_alike_events c_breaches
  have c_follows := k_follows (P := P) (w := w) (base := base) W (by
    obtain ⟨fd, F⟩ := d.def_ 23 (d := d_follows) rfl
    exact ⟨_, fd, F, He.glo_ok X G (d.fact 16 (f := .glo "follows") rfl)⟩) i_Plan i_Table m_lead m_ties m_limits m_events
  have c_fewest := k_fewest (P := P) (w := w) (base := base) W (by
    obtain ⟨fd, F⟩ := d.def_ 24 (d := d_fewest) rfl
    exact ⟨_, fd, F, He.glo_ok X G (d.fact 17 (f := .glo "fewest") rfl)⟩) c_need_plan c_follows m_ties
  have c_plan_of := k_plan_of (P := P) (w := w) (base := base) W (by
    obtain ⟨fd, F⟩ := d.def_ 26 (d := d_plan_of) rfl
    exact ⟨_, fd, F, He.glo_ok X G (d.fact 19 (f := .glo "plan_of") rfl)⟩) i_Plan c_fewest
  have c_seen := k_seen (P := P) (w := w) (base := base) (T := [((He.cT K ("seen", none)).2, ("seen.<locals>.<lambda>" : Str)), ((He.cT K ("learnt", none)).2, ("learnt.<locals>.<lambda>" : Str))]) W (by
    obtain ⟨fd, F⟩ := d.def_ 25 (d := d_seen) rfl
    exact ⟨_, fd, F, He.glo_ok X G (d.fact 18 (f := .glo "seen") rfl), code_at (p := ("seen", none)) F⟩) TBs (List.mem_cons_self ..)
    hus c_need_plan c_is_list c_need_event m_events i_Table m_lead m_most c_plan_of
  have c_need_logs := k_need_logs (P := P) (w := w) (base := base) W (by
    obtain ⟨fd, F⟩ := d.def_ 27 (d := d_need_logs) rfl
    exact ⟨_, fd, F, He.glo_ok X G (d.fact 20 (f := .glo "need_logs") rfl)⟩) c_is_list c_need_event
  have c_leads_in := k_leads_in (P := P) (w := w) (base := base) W (by
    obtain ⟨fd, F⟩ := d.def_ 28 (d := d_leads_in) rfl
    exact ⟨_, fd, F, He.glo_ok X G (d.fact 21 (f := .glo "leads_in") rfl)⟩) 
  have c_learnt := k_learnt (P := P) (w := w) (base := base) (T := [((He.cT K ("seen", none)).2, ("seen.<locals>.<lambda>" : Str)), ((He.cT K ("learnt", none)).2, ("learnt.<locals>.<lambda>" : Str))]) W (by
    obtain ⟨fd, F⟩ := d.def_ 29 (d := d_learnt) rfl
    exact ⟨_, fd, F, He.glo_ok X G (d.fact 22 (f := .glo "learnt") rfl), code_at (p := ("learnt", none)) F⟩) TBl (List.mem_cons_of_mem _ (List.mem_cons_self ..))
    hul c_need_events c_need_logs c_leads_in c_plan_of
  have c_law_cell := k_law_cell (P := P) (w := w) (base := base) W (by
    obtain ⟨fd, F⟩ := d.def_ 30 (d := d_law_cell) rfl
    exact ⟨_, fd, F, He.glo_ok X G (d.fact 23 (f := .glo "_law_cell") rfl)⟩) 
  have c_law_box := k_law_box (P := P) (w := w) (base := base) W (by
    obtain ⟨fd, F⟩ := d.def_ 31 (d := d_law_box) rfl
    exact ⟨_, fd, F, He.glo_ok X G (d.fact 24 (f := .glo "_law_box") rfl)⟩) 
  have c_law_take := k_law_take (P := P) (w := w) (base := base) W (by
    obtain ⟨fd, F⟩ := d.def_ 32 (d := d_law_take) rfl
    exact ⟨_, fd, F, He.glo_ok X G (d.fact 25 (f := .glo "_law_take") rfl)⟩) 
  have c_law_mixed := k_law_mixed (P := P) (w := w) (base := base) W (by
    obtain ⟨fd, F⟩ := d.def_ 33 (d := d_law_mixed) rfl
    exact ⟨_, fd, F, He.glo_ok X G (d.fact 26 (f := .glo "_law_mixed") rfl)⟩) c_law_take
  have c_law_lag := k_law_lag (P := P) (w := w) (base := base) W (by
    obtain ⟨fd, F⟩ := d.def_ 35 (d := d_law_lag) rfl
    exact ⟨_, fd, F, He.glo_ok X G (d.fact 28 (f := .glo "_law_lag") rfl)⟩) c_law_take
  have c_law_names := k_law_names (P := P) (w := w) (base := base) W (by
    obtain ⟨fd, F⟩ := d.def_ 34 (d := d_law_names) rfl
    exact ⟨_, fd, F, He.glo_ok X G (d.fact 27 (f := .glo "_law_names") rfl)⟩) c_law_take
  have c_law_model := k_law_model (P := P) (w := w) (base := base) W (by
    obtain ⟨fd, F⟩ := d.def_ 36 (d := d_law_model) rfl
    exact ⟨_, fd, F, He.glo_ok X G (d.fact 29 (f := .glo "_law_model") rfl)⟩) c_law_take c_law_names c_law_mixed c_law_lag
  have c_law_plan := k_law_plan (P := P) (w := w) (base := base) W (by
    obtain ⟨fd, F⟩ := d.def_ 37 (d := d_law_plan) rfl
    exact ⟨_, fd, F, He.glo_ok X G (d.fact 30 (f := .glo "_law_plan") rfl)⟩) i_Plan
  have c_law_read := k_law_read (P := P) (w := w) (base := base) W (by
    obtain ⟨fd, F⟩ := d.def_ 40 (d := d_law_read) rfl
    exact ⟨_, fd, F, He.glo_ok X G (d.fact 33 (f := .glo "_law_read") rfl)⟩) m_events m_ties m_limits
  have c_law_is_moment := k_law_is_moment (P := P) (w := w) (base := base) W (by
    obtain ⟨fd, F⟩ := d.def_ 39 (d := d_law_is_moment) rfl
    exact ⟨_, fd, F, He.glo_ok X G (d.fact 32 (f := .glo "_law_is_moment") rfl)⟩) 
  have c_law_is_run := k_law_is_run (P := P) (w := w) (base := base) W (by
    obtain ⟨fd, F⟩ := d.def_ 45 (d := d_law_is_run) rfl
    exact ⟨_, fd, F, He.glo_ok X G (d.fact 38 (f := .glo "_law_is_run") rfl)⟩) c_law_is_moment
  have c_law_run := k_law_run (P := P) (w := w) (base := base) W (by
    obtain ⟨fd, F⟩ := d.def_ 41 (d := d_law_run) rfl
    exact ⟨_, fd, F, He.glo_ok X G (d.fact 34 (f := .glo "_law_run") rfl)⟩) c_law_take c_law_is_moment
  have c_law_small := k_law_small (P := P) (w := w) (base := base) W (by
    obtain ⟨fd, F⟩ := d.def_ 38 (d := d_law_small) rfl
    exact ⟨_, fd, F, He.glo_ok X G (d.fact 31 (f := .glo "_law_small") rfl)⟩) c_law_model
  have c_law_lists := k_law_lists (P := P) (w := w) (base := base) W (by
    obtain ⟨fd, F⟩ := d.def_ 42 (d := d_law_lists) rfl
    exact ⟨_, fd, F, He.glo_ok X G (d.fact 35 (f := .glo "_law_lists") rfl)⟩) 
  have c_law_hidden := k_law_hidden (P := P) (w := w) (base := base) W (by
    obtain ⟨fd, F⟩ := d.def_ 43 (d := d_law_hidden) rfl
    exact ⟨_, fd, F, He.glo_ok X G (d.fact 36 (f := .glo "_law_hidden") rfl)⟩) c_law_is_moment
  have c_law_fits := k_law_fits (P := P) (w := w) (base := base) W (by
    obtain ⟨fd, F⟩ := d.def_ 44 (d := d_law_fits) rfl
    exact ⟨_, fd, F, He.glo_ok X G (d.fact 37 (f := .glo "_law_fits") rfl)⟩) c_law_is_moment c_law_hidden
  exact fun fd F => k_law W F c_law_cell c_law_box c_law_take c_law_small c_law_mixed c_law_plan c_seen c_law_read c_law_lists c_law_is_run c_law_fits c_law_run c_learnt c_within
end
end Pk
end
section
set_option maxHeartbeats 0
namespace Pk
open PySem PySem.Spec PyProof.Rows L2
theorem atL {w : World} {mg : Str → Option Value} {fa : Addr} {h : Heap} (Y : hkL.says w h) (G : h.Ns mainGlobals mg) (hfa : mg ("law" : Str) = some (.ref fa)) : ∃ K : PySem.W.Frag, K.In h ∧ LamX.LawAtS PySem.Challenge.rw_pileups_k92_whole_runs_and_what_is_seen w K CX0 10 63 "_law_script" mg fa h := by
  obtain ⟨K, X, c⟩ := Y
  obtain ⟨fd, F⟩ := c.t.d.def_ 46 (d := d_law) rfl
  have e := hfa.symm.trans (He.glo_ok X G (c.t.d.fact 39 (f := .glo "law") rfl))
  cases e
  have b := FunD.bindsA (ps := ["_law_script"]) F fun _ _ _ _ _ _ us hl => match us, hl with | [_], _ => rfl
  have two : ∀ {q : Addr × Addr → Prop}, q (He.cT K ("seen", none)) → q (He.cT K ("learnt", none)) → ∀ p ∈ [He.cT K ("seen", none), He.cT K ("learnt", none)], q p := fun a b p hp => by
    rcases List.mem_cons.mp hp with z | z
    · rw [z]; exact a
    · rw [List.mem_singleton.mp z]; exact b
  have m1 : (("seen", none) : He.Defn) ∈ tfL := List.mem_cons_self ..
  have m2 : (("learnt", none) : He.Defn) ∈ tfL := List.mem_cons_of_mem _ (List.mem_cons_self ..)
  have t1 : He.cT K ("seen", none) ∈ [He.cT K ("seen", none), He.cT K ("learnt", none)] := List.mem_cons_self ..
  have t2 : He.cT K ("learnt", none) ∈ [He.cT K ("seen", none), He.cT K ("learnt", none)] := List.mem_cons_of_mem _ (List.mem_cons_self ..)
  refine ⟨K, X, fd, [He.cT K ("seen", none), He.cT K ("learnt", none)], sp_law K [((He.cT K ("seen", none)).2, ("seen.<locals>.<lambda>" : Str)), ((He.cT K ("learnt", none)).2, ("learnt.<locals>.<lambda>" : Str))],
    two (q := fun p => h.get? p.2 = some { cls := .none, data := .fields #[] }) (c.empty _ m1) (c.empty _ m2), two (q := fun p => K.lookup p.2 = none) (c.out _ m1) (c.out _ m2), two (q := fun p => PySem.W.CodeHd h p.1 p.2) (PySem.W.codeHd_of_K X (c.hd _ m1)) (PySem.W.codeHd_of_K X (c.hd _ m2)), fun s u => b s [u] rfl,
    fun H a ns hl hb hS hq => ⟨a, ns, rfl, hq, fun p hp => ?_, fun _ => rfl⟩, fun base Xb Gb TB => lawL X G c (TB _ t1) (TB _ t2) fd F⟩
  rcases List.mem_cons.mp hp with z | z
  · rw [z]; exact LamX.TabS.nil (hS _ t1)
  · rw [List.mem_singleton.mp z]; exact LamX.TabS.nil (hS _ t2)
end Pk
open PySem PySem.W PySem.Calls PyProof.Rows
theorem PySem.Challenge.cw_pileups_k92_whole_runs_and_what_is_seen_holds : PySem.Challenge.rw_pileups_k92_whole_runs_and_what_is_seen.Holds := by
  w_on; o_law
  refine HandSHeadRun.head_any (r := OpenLaw.row PySem.Challenge.rw_pileups_k92_whole_runs_and_what_is_seen) (q := view (OpenLaw.row PySem.Challenge.rw_pileups_k92_whole_runs_and_what_is_seen).prog [74]) (H := Pk.hkL) (ob := Pk.obL) (M := 8000) (loose := Pk.looseL) (d := HandSHeadRun.topDef (OpenLaw.row PySem.Challenge.rw_pileups_k92_whole_runs_and_what_is_seen).prog 74) (kwd := []) Pk.obL_eq
    (by kernel_rfl) (fun s => by kernel_rfl) Pk.runL (by kernel_rfl) (by kernel_rfl) (by kernel_rfl) (by rfl) (by first | assumption | decide +kernel) (by decide +kernel) ⟨rfl, rfl, rfl, rfl, rfl, by decide +kernel⟩ ?hw ?hc
  case hw => w_witness2
  case hc =>
    refine LamX.walk_ofTsE (l := PySem.Challenge.rw_pileups_k92_whole_runs_and_what_is_seen) (n := 63) (k := 10) (x := "_law_script") (CX := fun _ => L2.CX0) rfl (by decide) (by kernel_rfl) ⟨rfl, by decide, by decide⟩ ?F (fun _ _ _ _ _ z => z)
    intro w mg fa h Y G hmg0
    have hmg : mg ("law" : PySem.Str) = some (.ref fa) := by
      have e : (HandSHeadRun.topDef (OpenLaw.row PySem.Challenge.rw_pileups_k92_whole_runs_and_what_is_seen).prog 74).name = ("law" : PySem.Str) := by kernel_rfl
      rw [← e]
      exact hmg0
    exact Pk.atL Y G hmg
end
