import PyProof.Rows.All
import HandS.ForMost
import HandS.RaiseMore
import KE.KTupSum
import HandS.ListItems
import OpenK.AllK
import HandS.Sort
import Wide.FinOn
import HandS.Deep
import HandS.Wide
import KE.DatumOrd
import HandS.HeadHook2
import Wide.All
import HandS.HeadHook1
import HandS.SetFor
import HandS.Head2
import PyProof.ReprRoads
import HandS.HeadEnd
import KE.KDictCopyH
import HandS.More
import KE.KIndexWalk
import HandS.Head3
import HandS.TupMul
import HandS.DictComp
import HandS.NoneIn
import KE.KRevSl
import KE.SortData
import HandS.Walk
import HandS.Head1
import HandS.HeadHook4
import KE.DataMinMax
import HandS.Star
import PyProof.MinMaxWalk
import KE.KStateDown
import HandS.Gcd
import PyProof.P3In
import HandS.Defaults
import PyProof.Rows.RuleB_bool
import KE.KIndexOf
import KE.GoesNew
import HandS.Flow
import HandS.Head0
import HandS.Conv
import KE.GoesEnumKw
import HandS.IsInst
import HandS.Style
import HandS.TupAny
import KE.KDictZip
import PySem.Challenge.RW_greenheld_k40_whole_rounds_of_shares
set_option Elab.async false
set_option linter.all false
set_option maxRecDepth 100000
set_option maxHeartbeats 0
noncomputable section
namespace GW
open PySem PySem.Spec PyProof.Rows L2
def top (i : Nat) : Stmt := PySem.Challenge.pw_greenheld_k40_whole_rounds_of_shares.main.body.getD i (.Pass ⟨0, 0, 0, 0⟩)
abbrev FP (K : PySem.W.Frag) (x : Str) (st : Stmt) (f : Addr) (fd : FuncData) : Prop := FunD K x x (defArgs st) (defBody st) (defScope st) [] [] f fd
abbrev st_do_cross : Stmt := top 2
abbrev st_clearance : Stmt := top 3
abbrev st_free_sets : Stmt := top 5
abbrev st_is_full : Stmt := top 6
abbrev st_stages : Stmt := top 7
abbrev st_clear_ticks : Stmt := top 8
abbrev st_need_of : Stmt := top 10
abbrev st_capacity_of : Stmt := top 11
abbrev st_is_above : Stmt := top 12
abbrev st_fraction : Stmt := top 14
abbrev st_added : Stmt := top 15
abbrev st_multiplied : Stmt := top 16
abbrev st_useful_plans : Stmt := top 18
abbrev st_choice_key : Stmt := top 19
abbrev st_leading_table : Stmt := top 20
abbrev st_leading_plans : Stmt := top 21
abbrev st_leading_capacities : Stmt := top 22
abbrev st_mixed_capacity : Stmt := top 23
abbrev st_frames_of : Stmt := top 24
abbrev st_round_counts : Stmt := top 25
abbrev st_spread_round : Stmt := top 26
abbrev st_greens : Stmt := top 28
abbrev st_lamps_at : Stmt := top 29
abbrev st_lamp_rows : Stmt := top 30
abbrev st_first_crossed : Stmt := top 31
abbrev st_first_early : Stmt := top 32
abbrev st_judge_lamps : Stmt := top 33
abbrev st__law_open_cells : Stmt := top 35
abbrev st__law_pick : Stmt := top 36
abbrev st__law_any_order : Stmt := top 37
abbrev st__law_common : Stmt := top 38
abbrev st__law_fraction : Stmt := top 39
abbrev st__law_times : Stmt := top 40
abbrev st__law_clearance : Stmt := top 41
abbrev st__law_stages : Stmt := top 42
abbrev st__law_crosses_one : Stmt := top 43
abbrev st__law_clearing : Stmt := top 44
abbrev st__law_draw_crossing : Stmt := top 45
abbrev st__law_one_crossing : Stmt := top 46
abbrev st__law_useful : Stmt := top 47
abbrev st__law_is_least : Stmt := top 48
abbrev st__law_leading : Stmt := top 49
abbrev st__law_draw_shares : Stmt := top 50
abbrev st__law_lamp_fault : Stmt := top 51
abbrev st_law : Stmt := top 52
def d_do_cross : He.DefD := ⟨("do_cross", none), "do_cross", "do_cross", defArgs st_do_cross, defBody st_do_cross, defScope st_do_cross, [], []⟩
def d_clearance : He.DefD := ⟨("clearance", none), "clearance", "clearance", defArgs st_clearance, defBody st_clearance, defScope st_clearance, [], []⟩
def d_free_sets : He.DefD := ⟨("free_sets", none), "free_sets", "free_sets", defArgs st_free_sets, defBody st_free_sets, defScope st_free_sets, [], []⟩
def d_is_full : He.DefD := ⟨("is_full", none), "is_full", "is_full", defArgs st_is_full, defBody st_is_full, defScope st_is_full, [], []⟩
def d_stages : He.DefD := ⟨("stages", none), "stages", "stages", defArgs st_stages, defBody st_stages, defScope st_stages, [], []⟩
def d_clear_ticks : He.DefD := ⟨("clear_ticks", none), "clear_ticks", "clear_ticks", defArgs st_clear_ticks, defBody st_clear_ticks, defScope st_clear_ticks, [], []⟩
def d_need_of : He.DefD := ⟨("need_of", none), "need_of", "need_of", defArgs st_need_of, defBody st_need_of, defScope st_need_of, [], []⟩
def d_capacity_of : He.DefD := ⟨("capacity_of", none), "capacity_of", "capacity_of", defArgs st_capacity_of, defBody st_capacity_of, defScope st_capacity_of, [], []⟩
def d_is_above : He.DefD := ⟨("is_above", none), "is_above", "is_above", defArgs st_is_above, defBody st_is_above, defScope st_is_above, [], []⟩
def d_fraction : He.DefD := ⟨("fraction", none), "fraction", "fraction", defArgs st_fraction, defBody st_fraction, defScope st_fraction, [], []⟩
def d_added : He.DefD := ⟨("added", none), "added", "added", defArgs st_added, defBody st_added, defScope st_added, [], []⟩
def d_multiplied : He.DefD := ⟨("multiplied", none), "multiplied", "multiplied", defArgs st_multiplied, defBody st_multiplied, defScope st_multiplied, [], []⟩
def d_useful_plans : He.DefD := ⟨("useful_plans", none), "useful_plans", "useful_plans", defArgs st_useful_plans, defBody st_useful_plans, defScope st_useful_plans, [], []⟩
def d_choice_key : He.DefD := ⟨("choice_key", none), "choice_key", "choice_key", defArgs st_choice_key, defBody st_choice_key, defScope st_choice_key, [], []⟩
def d_leading_table : He.DefD := ⟨("leading_table", none), "leading_table", "leading_table", defArgs st_leading_table, defBody st_leading_table, defScope st_leading_table, [], []⟩
def d_leading_plans : He.DefD := ⟨("leading_plans", none), "leading_plans", "leading_plans", defArgs st_leading_plans, defBody st_leading_plans, defScope st_leading_plans, [], []⟩
def d_leading_capacities : He.DefD := ⟨("leading_capacities", none), "leading_capacities", "leading_capacities", defArgs st_leading_capacities, defBody st_leading_capacities, defScope st_leading_capacities, [], []⟩
def d_mixed_capacity : He.DefD := ⟨("mixed_capacity", none), "mixed_capacity", "mixed_capacity", defArgs st_mixed_capacity, defBody st_mixed_capacity, defScope st_mixed_capacity, [], []⟩
def d_frames_of : He.DefD := ⟨("frames_of", none), "frames_of", "frames_of", defArgs st_frames_of, defBody st_frames_of, defScope st_frames_of, [], []⟩
def d_round_counts : He.DefD := ⟨("round_counts", none), "round_counts", "round_counts", defArgs st_round_counts, defBody st_round_counts, defScope st_round_counts, [], []⟩
def d_spread_round : He.DefD := ⟨("spread_round", none), "spread_round", "spread_round", defArgs st_spread_round, defBody st_spread_round, defScope st_spread_round, [], []⟩
def d_greens : He.DefD := ⟨("greens", none), "greens", "greens", defArgs st_greens, defBody st_greens, defScope st_greens, [], []⟩
def d_lamps_at : He.DefD := ⟨("lamps_at", none), "lamps_at", "lamps_at", defArgs st_lamps_at, defBody st_lamps_at, defScope st_lamps_at, [], []⟩
def d_lamp_rows : He.DefD := ⟨("lamp_rows", none), "lamp_rows", "lamp_rows", defArgs st_lamp_rows, defBody st_lamp_rows, defScope st_lamp_rows, [], []⟩
def d_first_crossed : He.DefD := ⟨("first_crossed", none), "first_crossed", "first_crossed", defArgs st_first_crossed, defBody st_first_crossed, defScope st_first_crossed, [], []⟩
def d_first_early : He.DefD := ⟨("first_early", none), "first_early", "first_early", defArgs st_first_early, defBody st_first_early, defScope st_first_early, [], []⟩
def d_judge_lamps : He.DefD := ⟨("judge_lamps", none), "judge_lamps", "judge_lamps", defArgs st_judge_lamps, defBody st_judge_lamps, defScope st_judge_lamps, [], []⟩
def d__law_open_cells : He.DefD := ⟨("_law_open_cells", none), "_law_open_cells", "_law_open_cells", defArgs st__law_open_cells, defBody st__law_open_cells, defScope st__law_open_cells, [], []⟩
def d__law_pick : He.DefD := ⟨("_law_pick", none), "_law_pick", "_law_pick", defArgs st__law_pick, defBody st__law_pick, defScope st__law_pick, [], []⟩
def d__law_any_order : He.DefD := ⟨("_law_any_order", none), "_law_any_order", "_law_any_order", defArgs st__law_any_order, defBody st__law_any_order, defScope st__law_any_order, [], []⟩
def d__law_common : He.DefD := ⟨("_law_common", none), "_law_common", "_law_common", defArgs st__law_common, defBody st__law_common, defScope st__law_common, [], []⟩
def d__law_fraction : He.DefD := ⟨("_law_fraction", none), "_law_fraction", "_law_fraction", defArgs st__law_fraction, defBody st__law_fraction, defScope st__law_fraction, [], []⟩
def d__law_times : He.DefD := ⟨("_law_times", none), "_law_times", "_law_times", defArgs st__law_times, defBody st__law_times, defScope st__law_times, [], []⟩
def d__law_clearance : He.DefD := ⟨("_law_clearance", none), "_law_clearance", "_law_clearance", defArgs st__law_clearance, defBody st__law_clearance, defScope st__law_clearance, [], []⟩
def d__law_crosses_one : He.DefD := ⟨("_law_crosses_one", none), "_law_crosses_one", "_law_crosses_one", defArgs st__law_crosses_one, defBody st__law_crosses_one, defScope st__law_crosses_one, [], []⟩
def d__law_stages : He.DefD := ⟨("_law_stages", none), "_law_stages", "_law_stages", defArgs st__law_stages, defBody st__law_stages, defScope st__law_stages, [], []⟩
def d__law_clearing : He.DefD := ⟨("_law_clearing", none), "_law_clearing", "_law_clearing", defArgs st__law_clearing, defBody st__law_clearing, defScope st__law_clearing, [], []⟩
def d__law_draw_crossing : He.DefD := ⟨("_law_draw_crossing", none), "_law_draw_crossing", "_law_draw_crossing", defArgs st__law_draw_crossing, defBody st__law_draw_crossing, defScope st__law_draw_crossing, [], []⟩
def d__law_one_crossing : He.DefD := ⟨("_law_one_crossing", none), "_law_one_crossing", "_law_one_crossing", defArgs st__law_one_crossing, defBody st__law_one_crossing, defScope st__law_one_crossing, [], []⟩
def d__law_useful : He.DefD := ⟨("_law_useful", none), "_law_useful", "_law_useful", defArgs st__law_useful, defBody st__law_useful, defScope st__law_useful, [], []⟩
def d__law_is_least : He.DefD := ⟨("_law_is_least", none), "_law_is_least", "_law_is_least", defArgs st__law_is_least, defBody st__law_is_least, defScope st__law_is_least, [], []⟩
def d__law_leading : He.DefD := ⟨("_law_leading", none), "_law_leading", "_law_leading", defArgs st__law_leading, defBody st__law_leading, defScope st__law_leading, [], []⟩
def d__law_draw_shares : He.DefD := ⟨("_law_draw_shares", none), "_law_draw_shares", "_law_draw_shares", defArgs st__law_draw_shares, defBody st__law_draw_shares, defScope st__law_draw_shares, [], []⟩
def d__law_lamp_fault : He.DefD := ⟨("_law_lamp_fault", none), "_law_lamp_fault", "_law_lamp_fault", defArgs st__law_lamp_fault, defBody st__law_lamp_fault, defScope st__law_lamp_fault, [], []⟩
def d_law : He.DefD := ⟨("law", none), "law", "law", defArgs st_law, defBody st_law, defScope st_law, [], []⟩
def dfs : List He.DefD := [d_do_cross, d_clearance, d_free_sets, d_is_full, d_stages, d_clear_ticks, d_need_of, d_capacity_of, d_is_above, d_fraction, d_added, d_multiplied, d_useful_plans, d_choice_key, d_leading_table, d_leading_plans, d_leading_capacities, d_mixed_capacity, d_frames_of, d_round_counts, d_spread_round, d_greens, d_lamps_at, d_lamp_rows, d_first_crossed, d_first_early, d_judge_lamps, d__law_open_cells, d__law_pick, d__law_any_order, d__law_common, d__law_fraction, d__law_times, d__law_clearance, d__law_crosses_one, d__law_stages, d__law_clearing, d__law_draw_crossing, d__law_one_crossing, d__law_useful, d__law_is_least, d__law_leading, d__law_draw_shares, d__law_lamp_fault, d_law]
def fcs : List He.Fa := [.glo "do_cross", .glo "clearance", .glo "free_sets", .glo "is_full", .glo "stages", .glo "clear_ticks", .glo "need_of", .glo "capacity_of", .glo "is_above", .glo "fraction", .glo "added", .glo "multiplied", .glo "useful_plans", .glo "choice_key", .glo "leading_table", .glo "leading_plans", .glo "leading_capacities", .glo "mixed_capacity", .glo "frames_of", .glo "round_counts", .glo "spread_round", .glo "greens", .glo "lamps_at", .glo "lamp_rows", .glo "first_crossed", .glo "first_early", .glo "judge_lamps", .glo "_law_open_cells", .glo "_law_pick", .glo "_law_any_order", .glo "_law_common", .glo "_law_fraction", .glo "_law_times", .glo "_law_clearance", .glo "_law_crosses_one", .glo "_law_stages", .glo "_law_clearing", .glo "_law_draw_crossing", .glo "_law_one_crossing", .glo "_law_useful", .glo "_law_is_least", .glo "_law_leading", .glo "_law_draw_shares", .glo "_law_lamp_fault", .glo "law", .free "abs", .free "all", .free "any", .free "enumerate", .free "int", .free "len", .free "list", .free "max", .free "range", .free "sorted", .free "sum", .free "tuple", .free "zip"]
abbrev Rr : PySem.W.OpenRow := PySem.W.OpenLaw.row PySem.Challenge.rw_greenheld_k40_whole_rounds_of_shares
def exG (K : PySem.W.Frag) : Bool := He.eqO (PySem.W.nsIn K mainGlobals "gcd") (some (some (.builtin "math.gcd")))
abbrev hk : PySem.W.Hook := He.hookX 4 fcs dfs [] [] exG
def ob (s : PySem.W.SharedT) : He.AlX := He.obsX 4 fcs dfs [] [] exG (HandSHeadRun.getT s)
theorem ob_eq (s : PySem.W.SharedT) : ob s = hk.obs s.abs := He.obsX_eq (HandSHeadRun.getT_eq s)
def loose : List Str := [("do_cross" : Str), ("clearance" : Str), ("free_sets" : Str), ("is_full" : Str), ("stages" : Str), ("clear_ticks" : Str), ("need_of" : Str), ("capacity_of" : Str), ("is_above" : Str), ("fraction" : Str), ("added" : Str), ("multiplied" : Str), ("useful_plans" : Str), ("choice_key" : Str), ("leading_table" : Str), ("leading_plans" : Str), ("leading_capacities" : Str), ("mixed_capacity" : Str), ("frames_of" : Str), ("round_counts" : Str), ("spread_round" : Str), ("greens" : Str), ("lamps_at" : Str), ("lamp_rows" : Str), ("first_crossed" : Str), ("first_early" : Str), ("judge_lamps" : Str), ("_law_open_cells" : Str), ("_law_pick" : Str), ("_law_any_order" : Str), ("_law_common" : Str), ("_law_fraction" : Str), ("_law_times" : Str), ("_law_clearance" : Str), ("_law_stages" : Str), ("_law_crosses_one" : Str), ("_law_clearing" : Str), ("_law_draw_crossing" : Str), ("_law_one_crossing" : Str), ("_law_useful" : Str), ("_law_is_least" : Str), ("_law_leading" : Str), ("_law_draw_shares" : Str), ("_law_lamp_fault" : Str)]
theorem run (w : World) : HandSHeadRun.RunEqI Rr (PySem.W.view Rr.prog [0, 52]) hk ob 6580 loose w := by
  unfold HandSHeadRun.RunEqI
  kernel_rfl
end GW
end

namespace GH
open PySem PySem.Spec PyProof.Rows L2

abbrev Sg := L2.St
inductive D where
  | non | bl (b : Bool) | int (i : Int) | str (s : Str) | tup (ds : List D) | lst (ds : List D)
  | rng (lo hi : Int) | src | dct (ks : List Key) (ds : List D) | dtt (ks : List (List Key)) (ds : List D)
  /-- a new tuple of ints, known to have no dict -/
  | tpx (is : List Int)

abbrev AP := Addr → Prop

mutual
def Rp (p : Addr) (W : AP) (H : Hp) : D → V → Prop
  | .non, v => v = .non
  | .bl b, v => v = .bl b
  | .int i, v => v = .int i
  | .str s, v => v = .str s
  | .tup ds, v => ∃ a vs, v = .ref a ∧ ¬ W a ∧ H a = some (.tup vs) ∧ Rps p W H ds vs
  | .lst ds, v => ∃ a vs, v = .ref a ∧ ¬ W a ∧ H a = some (.lst vs) ∧ Rps p W H ds vs
  | .rng lo hi, v => ∃ a, v = .ref a ∧ ¬ W a ∧ H a = some (.rng lo hi)
  | .src, v => v = .ref p
  | .dct ks ds, v => ∃ a kvs, v = .ref a ∧ ¬ W a ∧ Rd H a (.dK kvs) ∧ kvs.map (·.1) = ks ∧ Rps p W H ds (kvs.map (·.2))
  | .dtt ks ds, v => ∃ a kvs, v = .ref a ∧ ¬ W a ∧ Rd H a (.dT kvs) ∧ kvs.map (·.1) = ks ∧ Rps p W H ds (kvs.map (·.2))
  | .tpx is, v => ∃ a o, v = .ref a ∧ ¬ W a ∧ H a = some (.frz o (.tup (is.map V.int))) ∧ o.dict = none
def Rps (p : Addr) (W : AP) (H : Hp) : List D → List V → Prop
  | [], vs => vs = []
  | d :: ds, vs => ∃ v r, vs = v :: r ∧ Rp p W H d v ∧ Rps p W H ds r
end

def Ev (W : AP) (H : Hp) (W' : AP) (H' : Hp) : Prop := ∀ a o, H a = some o → ¬ W a → H' a = some o ∧ ¬ W' a
theorem Ev.refl {W : AP} {H : Hp} : Ev W H W H := fun _ _ h n => ⟨h, n⟩
theorem Ev.rd {W W' : AP} {H H' : Hp} {a : Addr} {u : HO} (e : Ev W H W' H') (h : Rd H a u) (n : ¬ W a) : Rd H' a u ∧ ¬ W' a := by
  rcases h with h | ⟨o, h⟩
  · exact ⟨.inl (e a _ h n).1, (e a _ h n).2⟩
  · exact ⟨.inr ⟨o, (e a _ h n).1⟩, (e a _ h n).2⟩
theorem Ev.trans {W W1 W2 : AP} {H H1 H2 : Hp} (a : Ev W H W1 H1) (b : Ev W1 H1 W2 H2) : Ev W H W2 H2 := fun c o h n => b c o (a c o h n).1 (a c o h n).2
def NoTup (o : HO) : Prop := ∀ xs, o ≠ .tup xs
def WT (W : AP) (H : Hp) : Prop := ∀ a, W a → ∃ o, H a = some o ∧ NoTup o
theorem WT.same {W : AP} {H H' : Hp} (w : WT W H) (s : Same H H') : WT W H' := fun a h => let ⟨o, e, n⟩ := w a h; ⟨o, s a o e, n⟩
theorem WT.tup {W : AP} {H : Hp} {a : Addr} {xs : List V} (w : WT W H) (h : H a = some (.tup xs)) : ¬ W a := fun z => by
  obtain ⟨o, e, n⟩ := w a z
  rw [h] at e; cases e; exact n _ rfl
theorem WT.new {W : AP} {H : Hp} {a : Addr} (w : WT W H) (n : H a = none) : ¬ W a := fun h => by
  obtain ⟨o, e, _⟩ := w a h
  rw [n] at e; cases e
theorem Ev.same {W : AP} {H H' : Hp} (s : Same H H') : Ev W H W H' := fun a o h n => ⟨s a o h, n⟩
theorem Ev.less {W W' : AP} {H : Hp} (h : ∀ a, W' a → W a) : Ev W H W' H := fun a o e n => ⟨e, fun z => n (h a z)⟩
theorem same_new {H : Hp} {p : Addr} {o : HO} (h : H p = none) : Same H (upd H p o) := fun b x e => by
  rw [upd_ne (ne_of_none e h)]; exact e

mutual
theorem Rp.ev {p : Addr} {W W' : AP} {H H' : Hp} (e : Ev W H W' H') : ∀ (d : D) (v : V), Rp p W H d v → Rp p W' H' d v
  | .non, _, h => h
  | .bl _, _, h => h
  | .int _, _, h => h
  | .str _, _, h => h
  | .src, _, h => h
  | .tup ds, _, ⟨a, vs, h1, h2, h3, h4⟩ => ⟨a, vs, h1, (e a _ h3 h2).2, (e a _ h3 h2).1, Rps.ev e ds vs h4⟩
  | .lst ds, _, ⟨a, vs, h1, h2, h3, h4⟩ => ⟨a, vs, h1, (e a _ h3 h2).2, (e a _ h3 h2).1, Rps.ev e ds vs h4⟩
  | .rng _ _, _, ⟨a, h1, h2, h3⟩ => ⟨a, h1, (e a _ h3 h2).2, (e a _ h3 h2).1⟩
  | .dct _ ds, _, ⟨a, kvs, h1, h2, h3, h4, h5⟩ => ⟨a, kvs, h1, (e.rd h3 h2).2, (e.rd h3 h2).1, h4, Rps.ev e ds _ h5⟩
  | .dtt _ ds, _, ⟨a, kvs, h1, h2, h3, h4, h5⟩ => ⟨a, kvs, h1, (e.rd h3 h2).2, (e.rd h3 h2).1, h4, Rps.ev e ds _ h5⟩
  | .tpx _, _, ⟨a, o, h1, h2, h3, h4⟩ => ⟨a, o, h1, (e a _ h3 h2).2, (e a _ h3 h2).1, h4⟩
theorem Rps.ev {p : Addr} {W W' : AP} {H H' : Hp} (e : Ev W H W' H') : ∀ (ds : List D) (vs : List V), Rps p W H ds vs → Rps p W' H' ds vs
  | [], _, h => h
  | d :: ds, _, ⟨v, r, h1, h2, h3⟩ => ⟨v, r, h1, Rp.ev e d v h2, Rps.ev e ds r h3⟩
end

section
variable {p : Addr} {W : AP} {H H' : Hp}
theorem Rps.nil : Rps p W H [] [] := by unfold Rps; rfl
theorem Rps.cons {d : D} {v : V} {ds : List D} {vs : List V} (h : Rp p W H d v) (t : Rps p W H ds vs) : Rps p W H (d :: ds) (v :: vs) := by
  unfold Rps; exact ⟨v, vs, rfl, h, t⟩
theorem Rps.length : ∀ {ds : List D} {vs : List V}, Rps p W H ds vs → ds.length = vs.length
  | [], _, h => by unfold Rps at h; rw [h]; rfl
  | d :: ds, _, h => by
    unfold Rps at h
    obtain ⟨v, r, rfl, _, h3⟩ := h
    simp [Rps.length h3]
theorem Rps.get : ∀ {ds : List D} {vs : List V} {i : Nat} {d : D}, Rps p W H ds vs → ds[i]? = some d → ∃ v, vs[i]? = some v ∧ Rp p W H d v
  | [], _, _, _, _, e => by simp at e
  | d :: ds, _, 0, _, h, e => by
    unfold Rps at h
    obtain ⟨v, r, rfl, h2, h3⟩ := h
    simp at e; subst e
    exact ⟨v, rfl, h2⟩
  | d :: ds, _, i + 1, _, h, e => by
    unfold Rps at h
    obtain ⟨v, r, rfl, h2, h3⟩ := h
    obtain ⟨u, q1, q2⟩ := Rps.get (i := i) h3 (by simpa using e)
    exact ⟨u, by simpa using q1, q2⟩
theorem Rps.append : ∀ {ds es : List D} {vs us : List V}, Rps p W H ds vs → Rps p W H es us → Rps p W H (ds ++ es) (vs ++ us)
  | [], _, _, _, h, t => by unfold Rps at h; rw [h]; exact t
  | d :: ds, _, _, _, h, t => by
    unfold Rps at h
    obtain ⟨v, r, rfl, h2, h3⟩ := h
    exact .cons h2 (Rps.append h3 t)
theorem Rps.of_get : ∀ {ds : List D} {vs : List V}, ds.length = vs.length → (∀ (i : Nat) (d : D) (v : V), ds[i]? = some d → vs[i]? = some v → Rp p W H d v) → Rps p W H ds vs
  | [], [], _, _ => .nil
  | [], _ :: _, h, _ => by simp at h
  | _ :: _, [], h, _ => by simp at h
  | d :: ds, v :: vs, h, f => .cons (f 0 d v rfl rfl) (Rps.of_get (by simpa using h) fun i d v h1 h2 => f (i + 1) d v (by simpa using h1) (by simpa using h2))
theorem Rps.take {ds : List D} {vs : List V} (n : Nat) (h : Rps p W H ds vs) : Rps p W H (ds.take n) (vs.take n) := by
  refine Rps.of_get (by simp [h.length]) fun i d v h1 h2 => ?_
  rw [List.getElem?_take] at h1 h2
  split at h1
  · rename_i hi
    rw [if_pos hi] at h2
    obtain ⟨u, q1, q2⟩ := h.get h1
    rw [h2] at q1; cases q1; exact q2
  · cases h1
theorem Rps.drop {ds : List D} {vs : List V} (n : Nat) (h : Rps p W H ds vs) : Rps p W H (ds.drop n) (vs.drop n) := by
  refine Rps.of_get (by simp [h.length]) fun i d v h1 h2 => ?_
  rw [List.getElem?_drop] at h1 h2
  obtain ⟨u, q1, q2⟩ := h.get h1
  rw [h2] at q1; cases q1; exact q2
theorem Rps.set {ds : List D} {vs : List V} {d : D} {v : V} (n : Nat) (h : Rps p W H ds vs) (r : Rp p W H d v) : Rps p W H (ds.set n d) (vs.set n v) := by
  have hl := h.length
  refine Rps.of_get (by simp [hl]) fun i d' v' h1 h2 => ?_
  by_cases e : n = i
  · subst e
    by_cases hn : n < ds.length
    · rw [List.getElem?_set_self hn] at h1
      rw [List.getElem?_set_self (by omega)] at h2
      cases h1; cases h2; exact r
    · rw [List.getElem?_eq_none (by simpa using hn)] at h1; cases h1
  · rw [List.getElem?_set_ne e] at h1 h2
    obtain ⟨u, q1, q2⟩ := h.get h1
    rw [h2] at q1; cases q1; exact q2
end

structure Src where
  cells : List Int
  left : Int
  mixed : Int
  turn : Int
def kCells : Key := .inr "cells"
def kLeft : Key := .inr "left"
def kMixed : Key := .inr "mixed"
def kTurn : Key := .inr "turn"
structure SrcOk (p c : Addr) (H : Hp) (s : Src) : Prop where
  d : H p = some (.dK [(kCells, .ref c), (kLeft, .int s.left), (kMixed, .int s.mixed), (kTurn, .int s.turn)])
  l : H c = some (.lst (s.cells.map V.int))
theorem SrcOk.ne {p c : Addr} {H : Hp} {s : Src} (h : SrcOk p c H s) : p ≠ c := ne_of h.d h.l (by intro z; cases z)
theorem SrcOk.same {p c : Addr} {H H' : Hp} {s : Src} (h : SrcOk p c H s) (e : Same H H') : SrcOk p c H' s := ⟨e _ _ h.d, e _ _ h.l⟩

inductive Sl where
  | val (d : D) | own (ds : List D) | ownK (ks : List Key) (ds : List D) | ownT (ks : List (List Key)) (ds : List D)
def Sl.isOwn : Sl → Bool
  | .val _ => false
  | _ => true
structure S where
  env : List (Option Sl)
  src : Src
def OwnR (p : Addr) (W : AP) (H : Hp) : Sl → HO → Prop
  | .val _, _ => False
  | .own ds, o => ∃ vs, o = .lst vs ∧ Rps p W H ds vs
  | .ownK ks ds, o => ∃ kvs, o = .dK kvs ∧ kvs.map (·.1) = ks ∧ Rps p W H ds (kvs.map (·.2))
  | .ownT ks ds, o => ∃ kvs, o = .dT kvs ∧ kvs.map (·.1) = ks ∧ Rps p W H ds (kvs.map (·.2))
theorem OwnR.noTup {p : Addr} {W : AP} {H : Hp} : ∀ {sl : Sl} {o : HO}, OwnR p W H sl o → NoTup o
  | .val _, _, h => False.elim h
  | .own _, _, ⟨_, h, _⟩ => fun _ z => by rw [h] at z; cases z
  | .ownK _ _, _, ⟨_, h, _⟩ => fun _ z => by rw [h] at z; cases z
  | .ownT _ _, _, ⟨_, h, _⟩ => fun _ z => by rw [h] at z; cases z
theorem OwnR.ev {p : Addr} {W W' : AP} {H H' : Hp} (e : Ev W H W' H') : ∀ (sl : Sl) (o : HO), OwnR p W H sl o → OwnR p W' H' sl o
  | .val _, _, h => h
  | .own _, _, ⟨vs, h1, h2⟩ => ⟨vs, h1, Rps.ev e _ _ h2⟩
  | .ownK _ _, _, ⟨kvs, h1, h2, h3⟩ => ⟨kvs, h1, h2, Rps.ev e _ _ h3⟩
  | .ownT _ _, _, ⟨kvs, h1, h2, h3⟩ => ⟨kvs, h1, h2, Rps.ev e _ _ h3⟩
def OwnA (env : List (Option Sl)) (σ : Sg) : AP := fun a => ∃ (i : Nat) (sl : Sl), env[i]? = some (some sl) ∧ sl.isOwn = true ∧ σ[i]? = some (some (.ref a))
structure Bs where
  p : Addr
  c : Addr
  Wc : AP
  H0 : Hp
def Bs.W (B : Bs) (env : List (Option Sl)) (σ : Sg) : AP := fun a => B.Wc a ∨ OwnA env σ a
def Bs.plus (B : Bs) (a : Addr) : Bs := { B with Wc := fun b => B.Wc b ∨ b = a }
structure StOk (B : Bs) (σ : Sg) (H : Hp) (s : S) : Prop where
  len : s.env.length = σ.length
  val : ∀ (i : Nat) (d : D), s.env[i]? = some (some (.val d)) → ∃ v, σ[i]? = some (some v) ∧ Rp B.p (B.W s.env σ) H d v
  own : ∀ (i : Nat) (sl : Sl), s.env[i]? = some (some sl) → sl.isOwn = true → ∃ a o, σ[i]? = some (some (.ref a)) ∧ H a = some o ∧ OwnR B.p (B.W s.env σ) H sl o ∧ B.H0 a = none ∧ ¬ B.Wc a
  sep : ∀ (i j : Nat) (sl sl' : Sl) (a : Addr), s.env[i]? = some (some sl) → sl.isOwn = true → s.env[j]? = some (some sl') → sl'.isOwn = true → σ[i]? = some (some (.ref a)) → σ[j]? = some (some (.ref a)) → i = j
  src : SrcOk B.p B.c H s.src
  keep : ∀ a o, B.H0 a = some o → a ≠ B.p → a ≠ B.c → H a = some o
  wc : WT B.Wc H
  wp : B.Wc B.p
  wcc : B.Wc B.c
section
variable {B : Bs} {σ : Sg} {H H' : Hp} {s : S}
theorem StOk.wt (k : StOk B σ H s) : WT (B.W s.env σ) H := fun a h => by
  rcases h with h | ⟨i, sl, e1, e2, e3⟩
  · exact k.wc a h
  · obtain ⟨b, o, q1, q2, q3, _⟩ := k.own i sl e1 e2
    rw [e3] at q1; cases q1
    exact ⟨o, q2, q3.noTup⟩
theorem StOk.same (k : StOk B σ H s) (e : Same H H') : StOk B σ H' s where
  len := k.len
  val := fun i d h => let ⟨v, h1, h2⟩ := k.val i d h; ⟨v, h1, h2.ev (Ev.same e)⟩
  own := fun i sl h ho => let ⟨a, o, h1, h2, h3, h4⟩ := k.own i sl h ho; ⟨a, o, h1, e _ _ h2, h3.ev (Ev.same e), h4⟩
  sep := k.sep
  src := k.src.same e
  keep := fun a o h h1 h2 => e _ _ (k.keep a o h h1 h2)
  wc := k.wc.same e
  wp := k.wp
  wcc := k.wcc
theorem StOk.new (k : StOk B σ H s) {a : Addr} (h : H a = none) : B.H0 a = none := by
  cases q : B.H0 a with
  | none => rfl
  | some o =>
    by_cases e1 : a = B.p
    · subst e1; rw [k.src.d] at h; cases h
    · by_cases e2 : a = B.c
      · subst e2; rw [k.src.l] at h; cases h
      · rw [k.keep a o q e1 e2] at h; cases h
end

def M (α : Type) := S → Option (α × S)
def ret {α : Type} (a : α) : M α := fun s => some (a, s)
def fail {α : Type} : M α := fun _ => none
def bnd {α β : Type} (m : M α) (f : α → M β) : M β := fun s => match m s with
  | some (a, s1) => f a s1
  | none => none
def lift {α : Type} (o : Option α) : M α := fun s => match o with
  | some a => some (a, s)
  | none => none
theorem bnd_some {α β : Type} {m : M α} {f : α → M β} {s s2 : S} {b : β} (h : bnd m f s = some (b, s2)) : ∃ a s1, m s = some (a, s1) ∧ f a s1 = some (b, s2) := by
  unfold bnd at h
  split at h
  · rename_i a s1 e; exact ⟨a, s1, e, h⟩
  · cases h
theorem bnd_eq {α β : Type} {m : M α} {f : α → M β} {s s1 : S} {a : α} (h : m s = some (a, s1)) : bnd m f s = f a s1 := by unfold bnd; rw [h]
theorem lift_some {α : Type} {o : Option α} {s s2 : S} {b : α} (h : lift o s = some (b, s2)) : o = some b ∧ s2 = s := by
  unfold lift at h
  split at h
  · cases h; exact ⟨rfl, rfl⟩
  · cases h
theorem ret_some {α : Type} {a b : α} {s s2 : S} (h : ret a s = some (b, s2)) : b = a ∧ s2 = s := by
  unfold ret at h; cases h; exact ⟨rfl, rfl⟩

def tI (B : Bs) (m : M D) : TE := fun σ H Q => ∃ s d s', StOk B σ H s ∧ m s = some (d, s') ∧
  ∀ v H', StOk B σ H' s' → Ev (B.W s.env σ) H (B.W s'.env σ) H' → Rp B.p (B.W s'.env σ) H' d v → Q v H'
def tA (B : Bs) (m : M (List D)) : TA := fun σ H Q => ∃ s ds s', StOk B σ H s ∧ m s = some (ds, s') ∧
  ∀ vs H', StOk B σ H' s' → Ev (B.W s.env σ) H (B.W s'.env σ) H' → Rps B.p (B.W s'.env σ) H' ds vs → Q vs H'
def tT (B : Bs) (m : M Bool) : TT := fun σ H Q => ∃ s b s', StOk B σ H s ∧ m s = some (b, s') ∧
  ∀ H', StOk B σ H' s' → Ev (B.W s.env σ) H (B.W s'.env σ) H' → Q b H'
def tL (B : Bs) (m : M (List D)) : TE := fun σ H Q => ∃ s ds s', StOk B σ H s ∧ m s = some (ds, s') ∧
  ∀ a vs H', StOk (B.plus a) σ H' s' → Ev (B.W s.env σ) H ((B.plus a).W s'.env σ) H' → B.H0 a = none → ¬ (B.W s'.env σ) a → H' a = some (.lst vs) → Rps B.p ((B.plus a).W s'.env σ) H' ds vs → Q (.ref a) H'
structure SE (X : Cx) (e : Expr) (m : M D) : Prop where
  pe : ∀ B, PE X e (tI B m)
structure SA (X : Cx) (es : List Expr) (m : M (List D)) : Prop where
  pa : ∀ B, PA X es (tA B m)
structure ST (X : Cx) (e : Expr) (m : M Bool) : Prop where
  pt : ∀ B, PT X e (tT B m)
structure SL (X : Cx) (e : Expr) (m : M (List D)) : Prop where
  pe : ∀ B, PE X e (tL B m)

theorem PE.imp {X : Cx} {e : Expr} {t t' : TE} (h : PE X e t) (f : ∀ σ H Q, t' σ H Q → t σ H Q) : PE X e t' := ⟨fun pins s σ H Q I q => h.run pins s σ H Q I (f _ _ _ q)⟩
theorem PT.imp {X : Cx} {e : Expr} {t t' : TT} (h : PT X e t) (f : ∀ σ H Q, t' σ H Q → t σ H Q) : PT X e t' := ⟨fun pins s σ H Q I q => h.run pins s σ H Q I (f _ _ _ q)⟩
theorem PA.imp {X : Cx} {e : List Expr} {t t' : TA} (h : PA X e t) (f : ∀ σ H Q, t' σ H Q → t σ H Q) : PA X e t' := ⟨fun pos pins s σ H Q I q => h.run pos pins s σ H Q I (f _ _ _ q)⟩
theorem PS.imp {X : Cx} {e : Stmt} {t t' : TS} (h : PS X e t) (f : ∀ D σ H, t' D σ H → t D σ H) : PS X e t' := ⟨fun pins s σ H D I q => h.run pins s σ H D I (f _ _ _ q)⟩
theorem PSs.imp {X : Cx} {e : List Stmt} {t t' : TS} (h : PSs X e t) (f : ∀ D σ H, t' D σ H → t D σ H) : PSs X e t' := ⟨fun pins s σ H D I q => h.run pins s σ H D I (f _ _ _ q)⟩

theorem tI.bind {B : Bs} {σ : Sg} {H : Hp} {β : Type} {m : M D} {f : D → M β} {s s2 : S} {b : β} {Q : VK} (k : StOk B σ H s) (h : bnd m f s = some (b, s2))
    (g : ∀ d s1 v H1, m s = some (d, s1) → f d s1 = some (b, s2) → StOk B σ H1 s1 → Ev (B.W s.env σ) H (B.W s1.env σ) H1 → Rp B.p (B.W s1.env σ) H1 d v → Q v H1) : tI B m σ H Q := by
  obtain ⟨d, s1, h1, h2⟩ := bnd_some h
  exact ⟨s, d, s1, k, h1, fun v H1 k1 e1 r1 => g d s1 v H1 h1 h2 k1 e1 r1⟩
theorem tA.bind {B : Bs} {σ : Sg} {H : Hp} {β : Type} {m : M (List D)} {f : List D → M β} {s s2 : S} {b : β} {Q : List V → Hp → Prop} (k : StOk B σ H s) (h : bnd m f s = some (b, s2))
    (g : ∀ ds s1 vs H1, m s = some (ds, s1) → f ds s1 = some (b, s2) → StOk B σ H1 s1 → Ev (B.W s.env σ) H (B.W s1.env σ) H1 → Rps B.p (B.W s1.env σ) H1 ds vs → Q vs H1) : tA B m σ H Q := by
  obtain ⟨d, s1, h1, h2⟩ := bnd_some h
  exact ⟨s, d, s1, k, h1, fun v H1 k1 e1 r1 => g d s1 v H1 h1 h2 k1 e1 r1⟩
theorem tT.bind {B : Bs} {σ : Sg} {H : Hp} {β : Type} {m : M Bool} {f : Bool → M β} {s s2 : S} {b : β} {Q : Bool → Hp → Prop} (k : StOk B σ H s) (h : bnd m f s = some (b, s2))
    (g : ∀ d s1 H1, m s = some (d, s1) → f d s1 = some (b, s2) → StOk B σ H1 s1 → Ev (B.W s.env σ) H (B.W s1.env σ) H1 → Q d H1) : tT B m σ H Q := by
  obtain ⟨d, s1, h1, h2⟩ := bnd_some h
  exact ⟨s, d, s1, k, h1, fun H1 k1 e1 => g d s1 H1 h1 h2 k1 e1⟩

def eVar (i : Nat) : M D := fun s => match s.env[i]? with
  | some (some (.val d)) => some (d, s)
  | _ => none
def eFrz (i : Nat) : M D := fun s => match s.env[i]? with
  | some (some (.val d)) => some (d, s)
  | some (some (.own ds)) => some (.lst ds, { s with env := s.env.set i (some (.val (.lst ds))) })
  | some (some (.ownK ks ds)) => some (.dct ks ds, { s with env := s.env.set i (some (.val (.dct ks ds))) })
  | some (some (.ownT ks ds)) => some (.dtt ks ds, { s with env := s.env.set i (some (.val (.dtt ks ds))) })
  | _ => none
section
variable {X : Cx}
theorem s_var {i : Nat} {x : Str} {pos : Pos} (h : PE X (.Name x pos) (tVar i)) : SE X (.Name x pos) (eVar i) := ⟨fun B => PE.imp h fun σ H Q ⟨s, d, s', k, e, q⟩ => by
  unfold eVar at e
  split at e
  · rename_i d' hd
    cases e
    obtain ⟨v, h1, h2⟩ := k.val i d hd
    exact ⟨v, h1, q v H k Ev.refl h2⟩
  · cases e⟩
theorem StOk.freeze {B : Bs} {σ : Sg} {H : Hp} {s : S} {i : Nat} {sl : Sl} {d : D} {a : Addr} (k : StOk B σ H s) (hi : s.env[i]? = some (some sl)) (ho : sl.isOwn = true) (ha : σ[i]? = some (some (.ref a)))
    (r : Rp B.p (B.W (s.env.set i (some (.val d))) σ) H d (.ref a)) : StOk B σ H { s with env := s.env.set i (some (.val d)) } ∧ Ev (B.W s.env σ) H (B.W (s.env.set i (some (.val d))) σ) H := by
  have hlt : i < s.env.length := (List.getElem?_eq_some_iff.mp hi).1
  have sub : ∀ b, B.W (s.env.set i (some (.val d))) σ b → B.W s.env σ b := fun b hb => by
    rcases hb with hb | ⟨j, sl', e1, e2, e3⟩
    · exact .inl hb
    · by_cases hj : i = j
      · subst hj
        rw [List.getElem?_set_self hlt] at e1
        cases e1; cases e2
      · rw [List.getElem?_set_ne hj] at e1
        exact .inr ⟨j, sl', e1, e2, e3⟩
  have ev : Ev (B.W s.env σ) H (B.W (s.env.set i (some (.val d))) σ) H := Ev.less sub
  refine ⟨⟨by simpa using k.len, fun j d' h => ?_, fun j sl' h h' => ?_, fun j1 j2 sl1 sl2 b h1 o1 h2 o2 q1 q2 => ?_, k.src, k.keep, k.wc, k.wp, k.wcc⟩, ev⟩
  · by_cases hj : i = j
    · subst hj
      have h : (s.env.set i (some (.val d)))[i]? = _ := h
      rw [List.getElem?_set_self hlt] at h
      cases h
      exact ⟨_, ha, r⟩
    · have h : (s.env.set i (some (.val d)))[j]? = _ := h
      rw [List.getElem?_set_ne hj] at h
      obtain ⟨v, h1, h2⟩ := k.val j d' h
      exact ⟨v, h1, h2.ev ev⟩
  · have h : (s.env.set i (some (.val d)))[j]? = _ := h
    by_cases hj : i = j
    · subst hj
      rw [List.getElem?_set_self hlt] at h
      cases h; cases h'
    · rw [List.getElem?_set_ne hj] at h
      obtain ⟨b, o, h1, h2, h3, h4⟩ := k.own j sl' h h'
      exact ⟨b, o, h1, h2, h3.ev ev, h4⟩
  · have h1 : (s.env.set i (some (.val d)))[j1]? = _ := h1
    have h2 : (s.env.set i (some (.val d)))[j2]? = _ := h2
    by_cases e1 : i = j1
    · subst e1
      rw [List.getElem?_set_self hlt] at h1
      cases h1; cases o1
    · by_cases e2 : i = j2
      · subst e2
        rw [List.getElem?_set_self hlt] at h2
        cases h2; cases o2
      · rw [List.getElem?_set_ne e1] at h1
        rw [List.getElem?_set_ne e2] at h2
        exact k.sep j1 j2 sl1 sl2 b h1 o1 h2 o2 q1 q2
theorem StOk.unguard {B : Bs} {σ : Sg} {H : Hp} {s : S} {i : Nat} {sl : Sl} {d : D} {a : Addr} (k : StOk B σ H s) (hi : s.env[i]? = some (some sl)) (ho : sl.isOwn = true) (ha : σ[i]? = some (some (.ref a))) (hc : ¬ B.Wc a) :
    ¬ B.W (s.env.set i (some (.val d))) σ a := by
  have hlt : i < s.env.length := (List.getElem?_eq_some_iff.mp hi).1
  rintro (h | ⟨j, sl', e1, e2, e3⟩)
  · exact hc h
  · by_cases hj : i = j
    · subst hj
      rw [List.getElem?_set_self hlt] at e1
      cases e1; cases e2
    · rw [List.getElem?_set_ne hj] at e1
      exact hj (k.sep i j sl sl' a hi ho e1 e2 ha e3)
theorem s_frz {i : Nat} {x : Str} {pos : Pos} (h : PE X (.Name x pos) (tVar i)) : SE X (.Name x pos) (eFrz i) := ⟨fun B => PE.imp h fun σ H Q ⟨s, d, s', k, e, q⟩ => by
  unfold eFrz at e
  split at e
  · rename_i d' hd
    cases e
    obtain ⟨v, h1, h2⟩ := k.val i d hd
    exact ⟨v, h1, q v H k Ev.refl h2⟩
  · rename_i ds hd
    cases e
    obtain ⟨a, o, h1, h2, ⟨vs, rfl, h3⟩, h4, h5⟩ := k.own i _ hd rfl
    have un := k.unguard (d := .lst ds) hd rfl h1 h5
    have r : Rp B.p (B.W (s.env.set i (some (.val (.lst ds)))) σ) H (.lst ds) (.ref a) := ⟨a, vs, rfl, un, h2, Rps.ev (Ev.less fun b hb => ?_) _ _ h3⟩
    · obtain ⟨k', ev⟩ := k.freeze hd rfl h1 r
      exact ⟨_, h1, q _ H k' ev r⟩
    · rcases hb with hb | ⟨j, sl', e1, e2, e3⟩
      · exact .inl hb
      · by_cases hj : i = j
        · subst hj
          rw [List.getElem?_set_self (List.getElem?_eq_some_iff.mp hd).1] at e1
          cases e1; cases e2
        · rw [List.getElem?_set_ne hj] at e1
          exact .inr ⟨j, sl', e1, e2, e3⟩
  · rename_i ks ds hd
    cases e
    obtain ⟨a, o, h1, h2, ⟨vs, rfl, h6, h3⟩, h4, h5⟩ := k.own i _ hd rfl
    have un := k.unguard (d := .dct ks ds) hd rfl h1 h5
    have r : Rp B.p (B.W (s.env.set i (some (.val (.dct ks ds)))) σ) H (.dct ks ds) (.ref a) := ⟨a, vs, rfl, un, .inl h2, h6, Rps.ev (Ev.less fun b hb => ?_) _ _ h3⟩
    · obtain ⟨k', ev⟩ := k.freeze hd rfl h1 r
      exact ⟨_, h1, q _ H k' ev r⟩
    · rcases hb with hb | ⟨j, sl', e1, e2, e3⟩
      · exact .inl hb
      · by_cases hj : i = j
        · subst hj
          rw [List.getElem?_set_self (List.getElem?_eq_some_iff.mp hd).1] at e1
          cases e1; cases e2
        · rw [List.getElem?_set_ne hj] at e1
          exact .inr ⟨j, sl', e1, e2, e3⟩
  · rename_i ks ds hd
    cases e
    obtain ⟨a, o, h1, h2, ⟨vs, rfl, h6, h3⟩, h4, h5⟩ := k.own i _ hd rfl
    have un := k.unguard (d := .dtt ks ds) hd rfl h1 h5
    have r : Rp B.p (B.W (s.env.set i (some (.val (.dtt ks ds)))) σ) H (.dtt ks ds) (.ref a) := ⟨a, vs, rfl, un, .inl h2, h6, Rps.ev (Ev.less fun b hb => ?_) _ _ h3⟩
    · obtain ⟨k', ev⟩ := k.freeze hd rfl h1 r
      exact ⟨_, h1, q _ H k' ev r⟩
    · rcases hb with hb | ⟨j, sl', e1, e2, e3⟩
      · exact .inl hb
      · by_cases hj : i = j
        · subst hj
          rw [List.getElem?_set_self (List.getElem?_eq_some_iff.mp hd).1] at e1
          cases e1; cases e2
        · rw [List.getElem?_set_ne hj] at e1
          exact .inr ⟨j, sl', e1, e2, e3⟩
  · cases e⟩
def D.flat : D → Option V
  | .non => some .non
  | .bl b => some (.bl b)
  | .int i => some (.int i)
  | .str s => some (.str s)
  | _ => none
theorem Rp.flat {p : Addr} {W : AP} {H : Hp} {d : D} {v : V} (h : d.flat = some v) : Rp p W H d v := by
  cases d <;> simp [D.flat] at h <;> subst h <;> simp [Rp]
def eC (d : D) : M D := ret d
theorem s_cst {e : Expr} {d : D} {v : V} (h : PE X e (tC v)) (hd : d.flat = some v := by rfl) : SE X e (eC d) := ⟨fun B => PE.imp h fun σ H Q ⟨s, d', s', k, e, q⟩ => by
  obtain ⟨rfl, rfl⟩ := ret_some e
  exact q v H k Ev.refl (Rp.flat hd)⟩
theorem s_int {i j pos} : SE X (.Constant (.int i) j pos) (eC (.int i)) := s_cst pe_int
theorem s_bl {b j pos} : SE X (.Constant (.bool b) j pos) (eC (.bl b)) := s_cst pe_bl
theorem s_non {j pos} : SE X (.Constant .none j pos) (eC .non) := s_cst pe_non
theorem s_str {x j pos} : SE X (.Constant (.str x) j pos) (eC (.str x)) := s_cst pe_str
end
end GH

namespace GH
open PySem PySem.Spec PyProof.Rows L2

theorem tuple_mul1 (l : Addr) (items : Array Value) (n : Nat) (dd : Option Addr) (sl : Array (Option Value)) (x : Int) (u : Tok) (c0 : (decide (x < -(2 ^ 63)) || decide (x ≥ 2 ^ 63)) = false) (c1 : (items.isEmpty || x == 1) = true) :
    Meets (Builtin.«tuple.__mul__» ⟨[.ref l, .int x u], []⟩) (fun _ R s => s.heap.get? l = some { cls := .type "tuple", dict := dd, data := .seq items n, slots := sl } ∧
      R (.ok (.ret (Value.ref l))) s) :=
  .of_wp fun prog w A R s h => by
    obtain ⟨hp, g, d, tk, os⟩ := s
    obtain ⟨hl, h⟩ := h
    have f1 := AutoSeq1.idx_int
    have hT : Shared.TypeIs ⟨hp, g, d, tk, os⟩ (.ref l) "tuple" := ⟨_, hl, rfl⟩
    wp_walk using wpAny_loadPart' hl, wpAny_typeOf hT
    repeat (first
      | (refine wpAny_ite_false (decide_eq_false (by rw [c0]; exact Bool.false_ne_true)) ?_; wp_walk using wpAny_loadPart' hl, wpAny_typeOf hT)
      | (refine wpAny_ite_true (decide_eq_true c1) ?_; wp_walk using wpAny_loadPart' hl, wpAny_typeOf hT)
      | (refine wpAny_ite_true (by rfl) ?_; wp_walk using wpAny_loadPart' hl, wpAny_typeOf hT))
    exact ⟨_, rfl, h⟩
theorem tuple_mul0 (l : Addr) (items : Array Value) (n : Nat) (dd : Option Addr) (sl : Array (Option Value)) (x : Int) (u : Tok) (c0 : (decide (x < -(2 ^ 63)) || decide (x ≥ 2 ^ 63)) = false) (c1 : (items.isEmpty || x == 1) = false) (c2 : (decide (x ≤ 0) || items.isEmpty) = true) :
    Meets (Builtin.«tuple.__mul__» ⟨[.ref l, .int x u], []⟩) (fun _ R s => s.heap.get? l = some { cls := .type "tuple", dict := dd, data := .seq items n, slots := sl } ∧
      R (.ok (.ret (Value.ref s.heap.objs.size))) { s with heap := s.heap.push { cls := Value.type "tuple", data := Data.seq #[] }, toks := s.toks }) :=
  .of_wp fun prog w A R s h => by
    obtain ⟨hp, g, d, tk, os⟩ := s
    obtain ⟨hl, h⟩ := h
    have f1 := AutoSeq1.idx_int
    wp_walk using wpAny_loadPart' hl
    repeat (first
      | (refine wpAny_ite_false (decide_eq_false (by rw [c0]; exact Bool.false_ne_true)) ?_; wp_walk using wpAny_loadPart' hl)
      | (refine wpAny_ite_false (decide_eq_false (by rw [c1]; exact Bool.false_ne_true)) ?_; wp_walk using wpAny_loadPart' hl)
      | (refine wpAny_ite_true (decide_eq_true c2) ?_; wp_walk using wpAny_loadPart' hl))
    exact ⟨_, rfl, h⟩
def rRepA (K : PySem.W.Frag) : R2 := fun x y H Q => ∃ l k xs, x = .ref l ∧ y = .int k ∧ SqT K H l xs ∧ -(2 ^ 63) ≤ k ∧ k ≤ 1000 ∧ xs.length ≤ 1000 ∧ ((xs = [] ∨ k = 1) → Q (.ref l) H) ∧ (¬ (xs = [] ∨ k = 1) → ∀ p, H p = none → Q (.ref p) (upd H p (.tup (List.replicate k.toNat xs).flatten)))
theorem op_repA {X : Cx} : OpR X (binaryOp .Mult) (rRepA X.K) := by
  intro pins s σ H x y v u Q I rx ry h
  obtain ⟨l, k, xs, rfl, rfl, hT, h1, h2, hz, q1, q2⟩ := h
  by_cases hbig : xs ≠ [] ∧ 2 ≤ k
  · exact op_repT pins s σ H _ _ v u Q I rx ry ⟨l, k, xs, rfl, rfl, hT, hbig.1, hbig.2, h2, hz, q2 (fun z => by rcases z with z | z; exact hbig.1 z; omega)⟩
  cases rx
  obtain ⟨t, rfl⟩ := ry
  have hT' := hT
  obtain ⟨its, r, ⟨⟨cls, dd, data, sl⟩, ho, hc, n, hd⟩, hs⟩ := I.tuple hT'
  simp only at hc hd
  subst hc hd
  have hle : its.length = xs.length := r.length.symm
  have hemp : its.toArray.isEmpty = decide (xs = []) := by
    cases its with
    | nil =>
      have : xs = [] := List.eq_nil_of_length_eq_zero (by rw [← hle]; rfl)
      rw [this]; rfl
    | cons a b =>
      have : xs ≠ [] := fun e => by rw [e] at hle; simp at hle
      rw [decide_eq_false this]; rfl
  have c0 : (decide (k < -(2 ^ 63)) || decide (k ≥ 2 ^ 63)) = false := by
    rw [decide_eq_false (by omega), decide_eq_false (by omega)] <;> rfl
  by_cases hsame : xs = [] ∨ k = 1
  · have c1 : (its.toArray.isEmpty || k == 1) = true := by
      rw [hemp]
      rcases hsame with z | z
      · rw [decide_eq_true z]; rfl
      · rw [z, Bool.or_eq_true]; exact .inr rfl
    refine wpAny_binaryOp_repeat_ref (T := "tuple") (U := "int") (by decide) ⟨_, ho, rfl⟩ (fun s' => typeIs_int s' k t) noFill_tuple_mul F.fills_int_mul F.slot_int_rmul repeat_tuple F.slot_int_index.lookup
      (call_meets F.slot_int_rmul (typeIs_int s k t) F.entry_int_rmul (F.args_int_rmul_2 _ _) (int_rmul_tuple k t l its.toArray n dd sl)
        ⟨ho, rfl, ⟨_, ho, rfl⟩, call_meets F.slot_tuple_mul ⟨_, ho, rfl⟩ F.entry_tuple_mul (F.args_tuple_mul_2 _ _) (tuple_mul1 l its.toArray n dd sl k t c0 c1) ⟨ho, ?_⟩⟩)
    exact ⟨.ref l, H, I, rfl, q1 hsame⟩
  · have hne : xs ≠ [] := fun z => hsame (.inl z)
    have hk : k ≤ 0 := by
      by_cases z : 2 ≤ k
      · exact absurd ⟨hne, z⟩ hbig
      · have : k ≠ 1 := fun z => hsame (.inr z)
        omega
    have c1 : (its.toArray.isEmpty || k == 1) = false := by
      rw [hemp, decide_eq_false hne, Bool.false_or]
      exact beq_eq_false_iff_ne.mpr (by omega)
    have c2 : (decide (k ≤ 0) || its.toArray.isEmpty) = true := by rw [decide_eq_true hk]; rfl
    refine wpAny_binaryOp_repeat_ref (T := "tuple") (U := "int") (by decide) ⟨_, ho, rfl⟩ (fun s' => typeIs_int s' k t) noFill_tuple_mul F.fills_int_mul F.slot_int_rmul repeat_tuple F.slot_int_index.lookup
      (call_meets F.slot_int_rmul (typeIs_int s k t) F.entry_int_rmul (F.args_int_rmul_2 _ _) (int_rmul_tuple k t l its.toArray n dd sl)
        ⟨ho, rfl, ⟨_, ho, rfl⟩, call_meets F.slot_tuple_mul ⟨_, ho, rfl⟩ F.entry_tuple_mul (F.args_tuple_mul_2 _ _) (tuple_mul0 l its.toArray n dd sl k t c0 c1 c2) ⟨ho, ?_⟩⟩)
    have hz0 : (List.replicate k.toNat xs).flatten = [] := by rw [show k.toNat = 0 by omega]; rfl
    have q3 := q2 hsame
    rw [hz0] at q3
    refine ⟨.ref s.heap.objs.size, _, I.laid (t' := s.toks) (o := .tup []) (fun b ob q => Heap.get?_push_of_some _ q) (Nat.le_refl _) ?_, rfl, q3 _ (I.hok.fresh (Nat.le_refl _))⟩
    exact ⟨by simp, [], .nil, IsTup.new _ _⟩
def rB (f : D → D → Option D) : R2 := fun x y H Q => ∃ p W dx dy d, WT W H ∧ Rp p W H dx x ∧ Rp p W H dy y ∧ f dx dy = some d ∧ ∀ v H', Same H H' → Rp p W H' d v → Q v H'
def rC (g : List D → Option D) : List V → Hp → VK → Prop := fun vs H Q => ∃ p W ds d, WT W H ∧ Rps p W H ds vs ∧ g ds = some d ∧ ∀ v H', Same H H' → Rp p W H' d v → Q v H'
def rCL (g : List D → Option (List D)) : List V → Hp → VK → Prop := fun vs H Q => ∃ p W ds es, WT W H ∧ Rps p W H ds vs ∧ g ds = some es ∧
  ∀ a us H', Same H H' → H a = none → H' a = some (.lst us) → Rps p W H es us → Q (.ref a) H'

section
variable {p : Addr} {W : AP} {H : Hp}
theorem rps1 {d : D} {vs : List V} (h : Rps p W H [d] vs) : ∃ v, vs = [v] ∧ Rp p W H d v := by
  simp only [Rps] at h
  obtain ⟨v, r, rfl, h1, rfl⟩ := h
  exact ⟨v, rfl, h1⟩
theorem rps2 {d e : D} {vs : List V} (h : Rps p W H [d, e] vs) : ∃ v u, vs = [v, u] ∧ Rp p W H d v ∧ Rp p W H e u := by
  simp only [Rps] at h
  obtain ⟨v, r, rfl, h1, u, r', rfl, h2, rfl⟩ := h
  exact ⟨v, u, rfl, h1, h2⟩
theorem rp_int {i : Int} {v : V} (h : Rp p W H (.int i) v) : v = .int i := by simpa only [Rp] using h
theorem rp_bl {i : Bool} {v : V} (h : Rp p W H (.bl i) v) : v = .bl i := by simpa only [Rp] using h
theorem rp_str {i : Str} {v : V} (h : Rp p W H (.str i) v) : v = .str i := by simpa only [Rp] using h
theorem rp_non {v : V} (h : Rp p W H .non v) : v = .non := by simpa only [Rp] using h
theorem rp_lst {ds : List D} {v : V} (h : Rp p W H (.lst ds) v) : ∃ a vs, v = .ref a ∧ ¬ W a ∧ H a = some (.lst vs) ∧ Rps p W H ds vs := by simpa only [Rp] using h
theorem rp_tup {ds : List D} {v : V} (h : Rp p W H (.tup ds) v) : ∃ a vs, v = .ref a ∧ ¬ W a ∧ H a = some (.tup vs) ∧ Rps p W H ds vs := by simpa only [Rp] using h
theorem rp_rng {lo hi : Int} {v : V} (h : Rp p W H (.rng lo hi) v) : ∃ a, v = .ref a ∧ ¬ W a ∧ H a = some (.rng lo hi) := by simpa only [Rp] using h
theorem rp_dct {ks : List Key} {ds : List D} {v : V} (h : Rp p W H (.dct ks ds) v) : ∃ a kvs, v = .ref a ∧ ¬ W a ∧ Rd H a (.dK kvs) ∧ kvs.map (·.1) = ks ∧ Rps p W H ds (kvs.map (·.2)) := by simpa only [Rp] using h
theorem rp_dtt {ks : List (List Key)} {ds : List D} {v : V} (h : Rp p W H (.dtt ks ds) v) : ∃ a kvs, v = .ref a ∧ ¬ W a ∧ Rd H a (.dT kvs) ∧ kvs.map (·.1) = ks ∧ Rps p W H ds (kvs.map (·.2)) := by simpa only [Rp] using h
theorem Rp.mkInt (i : Int) : Rp p W H (.int i) (.int i) := by simp [Rp]
theorem Rp.mkBl (i : Bool) : Rp p W H (.bl i) (.bl i) := by simp [Rp]
theorem Rp.mkStr (i : Str) : Rp p W H (.str i) (.str i) := by simp [Rp]
theorem Rp.mkNon : Rp p W H .non .non := by simp [Rp]
theorem Rp.mkTup {ds : List D} {vs : List V} {a : Addr} (n : ¬ W a) (h : H a = some (.tup vs)) (r : Rps p W H ds vs) : Rp p W H (.tup ds) (.ref a) := by
  simp only [Rp]; exact ⟨a, vs, rfl, n, h, r⟩
theorem Rp.mkLst {ds : List D} {vs : List V} {a : Addr} (n : ¬ W a) (h : H a = some (.lst vs)) (r : Rps p W H ds vs) : Rp p W H (.lst ds) (.ref a) := by
  simp only [Rp]; exact ⟨a, vs, rfl, n, h, r⟩
theorem Rp.newTup {ds : List D} {vs : List V} {a : Addr} (w : WT W H) (n : H a = none) (r : Rps p W H ds vs) : Rp p W (upd H a (.tup vs)) (.tup ds) (.ref a) :=
  .mkTup (w.new n) upd_same (r.ev (Ev.same (same_new n)))
theorem Rp.newLst {ds : List D} {vs : List V} {a : Addr} (w : WT W H) (n : H a = none) (r : Rps p W H ds vs) : Rp p W (upd H a (.lst vs)) (.lst ds) (.ref a) :=
  .mkLst (w.new n) upd_same (r.ev (Ev.same (same_new n)))
end

def toInts : List D → Option (List Int)
  | [] => some []
  | .int i :: r => (toInts r).map (i :: ·)
  | _ => none
def toBls : List D → Option (List Bool)
  | [] => some []
  | .bl i :: r => (toBls r).map (i :: ·)
  | _ => none
theorem toInts_eq : ∀ {ds : List D} {ns : List Int}, toInts ds = some ns → ds = ns.map D.int
  | [], _, h => by simp [toInts] at h; subst h; rfl
  | d :: r, ns, h => by
    cases d <;> simp [toInts] at h
    obtain ⟨ms, h1, rfl⟩ := h
    rw [toInts_eq h1]; rfl
theorem toBls_eq : ∀ {ds : List D} {ns : List Bool}, toBls ds = some ns → ds = ns.map D.bl
  | [], _, h => by simp [toBls] at h; subst h; rfl
  | d :: r, ns, h => by
    cases d <;> simp [toBls] at h
    obtain ⟨ms, h1, rfl⟩ := h
    rw [toBls_eq h1]; rfl
@[simp] theorem toInts_map (ns : List Int) : toInts (ns.map D.int) = some ns := by
  induction ns with
  | nil => rfl
  | cons n r ih => simp [toInts, ih]
theorem rps_ints {p : Addr} {W : AP} {H : Hp} : ∀ {ns : List Int} {vs : List V}, Rps p W H (ns.map D.int) vs → vs = ns.map V.int
  | [], _, h => by simpa [Rps] using h
  | n :: r, _, h => by
    rw [List.map_cons] at h
    simp only [Rps] at h
    obtain ⟨v, t, rfl, h1, h2⟩ := h
    rw [h1, rps_ints h2]; rfl
theorem rps_bls {p : Addr} {W : AP} {H : Hp} : ∀ {ns : List Bool} {vs : List V}, Rps p W H (ns.map D.bl) vs → vs = ns.map V.bl
  | [], _, h => by simpa [Rps] using h
  | n :: r, _, h => by
    rw [List.map_cons] at h
    simp only [Rps] at h
    obtain ⟨v, t, rfl, h1, h2⟩ := h
    rw [h1, rps_bls h2]; rfl
theorem ints_rps {p : Addr} {W : AP} {H : Hp} : ∀ {ns : List Int}, Rps p W H (ns.map D.int) (ns.map V.int)
  | [] => .nil
  | n :: _ => .cons (.mkInt n) ints_rps

def addD : D → D → Option D
  | .int a, .int b => some (.int (a + b))
  | .str a, .str b => if a.length + b.length ≤ sizeLine then some (.str (a ++ b)) else none
  | .tup a, .tup b => if a.length + b.length ≤ sizeLine then some (.tup (a ++ b)) else none
  | .lst a, .lst b => if a.length + b.length ≤ sizeLine then some (.lst (a ++ b)) else none
  | _, _ => none
def subD : D → D → Option D
  | .int a, .int b => some (.int (a - b))
  | _, _ => none
instance (i j : Int) : Decidable (CDivN i j) := by unfold CDivN; infer_instance
instance (i j : Int) : Decidable (CMulW i j) := by unfold CMulW; infer_instance
instance (i j : Int) : Decidable (CMul i j) := by unfold CMul; infer_instance
instance (i j : Int) : Decidable (CDivW i j) := by unfold CDivW; infer_instance
def mulD : D → D → Option D
  | .int a, .int b => if CMul a b then some (.int (a * b)) else if CMulW a b then some (.int (a * b)) else none
  | .tup a, .int k => if -(2 ^ 63) ≤ k ∧ k ≤ 1000 ∧ a.length ≤ 1000 then some (.tup (List.replicate k.toNat a).flatten) else none
  | .lst a, .int k => if -(2 ^ 63) ≤ k ∧ k < 2 ^ 63 ∧ a.length * k.toNat ≤ sizeLine then some (.lst (List.replicate k.toNat a).flatten) else none
  | _, _ => none
def modD : D → D → Option D
  | .int a, .int b => if b ≠ 0 then some (.int (a.fmod b)) else none
  | _, _ => none
def fdivD : D → D → Option D
  | .int a, .int b => if CDivN a b then some (.int (a.fdiv b)) else if CDivW a b then some (.int (a / b)) else none
  | _, _ => none

section
variable {X : Cx}
abbrev OpD (X : Cx) (g : Value → Value → Sem Value) (f : D → D → Option D) : Prop := OpR X g (rB f)
theorem OpR.imp {g : Value → Value → Sem Value} {r r' : R2} (h : OpR X g r) (f : ∀ x y H Q, r' x y H Q → r x y H Q) : OpR X g r' := fun pins s σ H x y v u Q I rx ry q => h pins s σ H x y v u Q I rx ry (f _ _ _ _ q)
theorem CallR.imp {g : Value} {r r' : List V → Hp → VK → Prop} (h : CallR X g r) (f : ∀ vs H Q, r' vs H Q → r vs H Q) : CallR X g r' := fun pins s σ H xs us Q I rx q => h pins s σ H xs us Q I rx (f _ _ _ q)
theorem opD_cases {g : Value → Value → Sem Value} {f : D → D → Option D} (h : ∀ dx dy d p W, f dx dy = some d → OpR X g (fun x y H Q => WT W H ∧ Rp p W H dx x ∧ Rp p W H dy y ∧ ∀ v H', Same H H' → Rp p W H' d v → Q v H')) : OpD X g f := by
  intro pins s σ H x y v u Q I rx ry ⟨p, W, dx, dy, d, hw, hx, hy, he, hq⟩
  exact h dx dy d p W he pins s σ H x y v u Q I rx ry ⟨hw, hx, hy, hq⟩
theorem od_add : OpD X (binaryOp .Add) addD := opD_cases fun dx dy d p W he => by
  unfold addD at he
  split at he
  · cases he
    refine OpR.imp op_add fun x y H Q ⟨hw, hx, hy, hq⟩ => ⟨_, _, rp_int hx, rp_int hy, hq _ _ (Same.refl H) (.mkInt _)⟩
  · split at he
    · cases he
      rename_i hl
      refine OpR.imp op_add_str fun x y H Q ⟨hw, hx, hy, hq⟩ => ⟨_, _, rp_str hx, rp_str hy, hl, hq _ _ (Same.refl H) (.mkStr _)⟩
    · cases he
  · split at he
    · cases he
      rename_i as bs hl
      refine OpR.imp op_catA fun x y H Q ⟨hw, hx, hy, hq⟩ => ?_
      obtain ⟨a, vs, rfl, na, ha, ra⟩ := rp_tup hx
      obtain ⟨b, us, rfl, nb, hb, rb⟩ := rp_tup hy
      refine ⟨a, b, vs, us, rfl, rfl, SqT.of ha, SqT.of hb, by rw [← ra.length, ← rb.length]; exact hl, fun e => ?_, fun e1 e2 => ?_, fun e1 e2 q nq => ?_⟩
      · subst e
        have : as = [] := List.eq_nil_of_length_eq_zero (by simpa using ra.length)
        subst this
        exact hq _ _ (Same.refl H) (.mkTup nb hb (by simpa using rb))
      · subst e2
        have : bs = [] := List.eq_nil_of_length_eq_zero (by simpa using rb.length)
        subst this
        exact hq _ _ (Same.refl H) (.mkTup na ha (by simpa using ra))
      · exact hq _ _ (same_new nq) (.newTup hw nq (ra.append rb))
    · cases he
  · split at he
    · cases he
      rename_i as bs hl
      refine OpR.imp op_cat fun x y H Q ⟨hw, hx, hy, hq⟩ => ?_
      obtain ⟨a, vs, rfl, na, ha, ra⟩ := rp_lst hx
      obtain ⟨b, us, rfl, nb, hb, rb⟩ := rp_lst hy
      exact ⟨a, b, vs, us, rfl, rfl, ha, hb, by rw [← ra.length, ← rb.length]; exact hl, fun q nq => hq _ _ (same_new nq) (.newLst hw nq (ra.append rb))⟩
    · cases he
  · cases he
theorem od_sub : OpD X (binaryOp .Sub) subD := opD_cases fun dx dy d p W he => by
  unfold subD at he
  split at he
  · cases he
    refine OpR.imp op_sub fun x y H Q ⟨hw, hx, hy, hq⟩ => ⟨_, _, rp_int hx, rp_int hy, hq _ _ (Same.refl H) (.mkInt _)⟩
  · cases he
theorem rps_rep {p : Addr} {W : AP} {H : Hp} {ds : List D} {vs : List V} (r : Rps p W H ds vs) : ∀ n, Rps p W H (List.replicate n ds).flatten (List.replicate n vs).flatten
  | 0 => by simpa using Rps.nil
  | n + 1 => by
    rw [List.replicate_succ, List.replicate_succ, List.flatten_cons, List.flatten_cons]
    exact r.append (rps_rep r n)
theorem od_mul : OpD X (binaryOp .Mult) mulD := opD_cases fun dx dy d p W he => by
  unfold mulD at he
  split at he
  · split at he
    · cases he
      rename_i hl
      refine OpR.imp op_mul fun x y H Q ⟨hw, hx, hy, hq⟩ => ⟨_, _, rp_int hx, rp_int hy, hl, hq _ _ (Same.refl H) (.mkInt _)⟩
    · split at he
      · cases he
        rename_i hl
        refine OpR.imp op_mulW fun x y H Q ⟨hw, hx, hy, hq⟩ => ⟨_, _, rp_int hx, rp_int hy, hl, hq _ _ (Same.refl H) (.mkInt _)⟩
      · cases he
  · split at he
    · cases he
      rename_i as k hl
      refine OpR.imp op_repA fun x y H Q ⟨hw, hx, hy, hq⟩ => ?_
      obtain ⟨a, vs, rfl, na, ha, ra⟩ := rp_tup hx
      refine ⟨a, k, vs, rfl, rp_int hy, SqT.of ha, hl.1, hl.2.1, by rw [← ra.length]; exact hl.2.2, fun z => ?_, fun _ q nq => hq _ _ (same_new nq) (.newTup hw nq (rps_rep ra _))⟩
      have e : (List.replicate k.toNat as).flatten = as := by
        rcases z with z | z
        · have : as = [] := List.eq_nil_of_length_eq_zero (by rw [ra.length, z]; rfl)
          rw [this]; simp
        · rw [z]; simp
      rw [e] at hq
      exact hq _ _ (Same.refl H) hx
    · cases he
  · split at he
    · cases he
      rename_i as k hl
      refine OpR.imp op_rep fun x y H Q ⟨hw, hx, hy, hq⟩ => ?_
      obtain ⟨a, vs, rfl, na, ha, ra⟩ := rp_lst hx
      refine ⟨a, k, vs, rfl, rp_int hy, ha, hl.1, hl.2.1, by rw [← ra.length]; exact hl.2.2, fun q nq => hq _ _ (same_new nq) (.newLst hw nq (rps_rep ra _))⟩
    · cases he
  · cases he
theorem od_mod : OpD X (binaryOp .Mod) modD := opD_cases fun dx dy d p W he => by
  unfold modD at he
  split at he
  · split at he
    · cases he
      rename_i hl
      refine OpR.imp op_modN fun x y H Q ⟨hw, hx, hy, hq⟩ => ⟨_, _, rp_int hx, rp_int hy, hl, hq _ _ (Same.refl H) (.mkInt _)⟩
    · cases he
  · cases he
theorem od_fdiv : OpD X (binaryOp .FloorDiv) fdivD := opD_cases fun dx dy d p W he => by
  unfold fdivD at he
  split at he
  · split at he
    · cases he
      rename_i hl
      refine OpR.imp op_fdivN fun x y H Q ⟨hw, hx, hy, hq⟩ => ⟨_, _, rp_int hx, rp_int hy, hl, hq _ _ (Same.refl H) (.mkInt _)⟩
    · split at he
      · cases he
        rename_i hl
        refine OpR.imp op_fdivW fun x y H Q ⟨hw, hx, hy, hq⟩ => ⟨_, _, rp_int hx, rp_int hy, hl, hq _ _ (Same.refl H) (.mkInt _)⟩
      · cases he
  · cases he

def ltD : D → D → Option D
  | .int a, .int b => some (.bl (decide (a < b)))
  | _, _ => none
def leD : D → D → Option D
  | .int a, .int b => some (.bl (decide (a ≤ b)))
  | _, _ => none
def gtD : D → D → Option D
  | .int a, .int b => some (.bl (decide (b < a)))
  | _, _ => none
def geD : D → D → Option D
  | .int a, .int b => some (.bl (decide (b ≤ a)))
  | _, _ => none
theorem od_lt : OpD X (compareOp .Lt) ltD := opD_cases fun dx dy d p W he => by
  unfold ltD at he
  split at he
  · cases he
    exact OpR.imp op_lt fun x y H Q ⟨hw, hx, hy, hq⟩ => ⟨_, _, rp_int hx, rp_int hy, hq _ _ (Same.refl H) (.mkBl _)⟩
  · cases he
theorem od_le : OpD X (compareOp .LtE) leD := opD_cases fun dx dy d p W he => by
  unfold leD at he
  split at he
  · cases he
    exact OpR.imp op_le fun x y H Q ⟨hw, hx, hy, hq⟩ => ⟨_, _, rp_int hx, rp_int hy, hq _ _ (Same.refl H) (.mkBl _)⟩
  · cases he
theorem od_gt : OpD X (compareOp .Gt) gtD := opD_cases fun dx dy d p W he => by
  unfold gtD at he
  split at he
  · cases he
    exact OpR.imp op_gt fun x y H Q ⟨hw, hx, hy, hq⟩ => ⟨_, _, rp_int hx, rp_int hy, hq _ _ (Same.refl H) (.mkBl _)⟩
  · cases he
theorem od_ge : OpD X (compareOp .GtE) geD := opD_cases fun dx dy d p W he => by
  unfold geD at he
  split at he
  · cases he
    exact OpR.imp op_ge fun x y H Q ⟨hw, hx, hy, hq⟩ => ⟨_, _, rp_int hx, rp_int hy, hq _ _ (Same.refl H) (.mkBl _)⟩
  · cases he

mutual
def D.py : D → PyData
  | .non => .none
  | .bl b => .bool b
  | .int i => .int i
  | .str s => .str s
  | .tup ds => .tuple (D.pys ds)
  | .lst ds => .list (D.pys ds)
  | .rng _ _ => .dict []
  | .src => .dict []
  | .dct _ _ => .dict []
  | .dtt _ _ => .dict []
  | .tpx is => .tuple (is.map PyData.int)
def D.pys : List D → List PyData
  | [] => []
  | d :: ds => d.py :: D.pys ds
end
theorem pys_map : ∀ ds : List D, D.pys ds = ds.map D.py
  | [] => by simp [D.pys]
  | d :: ds => by simp [D.pys, pys_map ds]
theorem dp_ints {K : PySem.W.Frag} {H : Hp} : ∀ is : List Int, DpAll K H (is.map V.int) (is.map PyData.int)
  | [] => .nil
  | i :: r => .cons (.int i) (dp_ints r)
mutual
theorem Rp.dp {p : Addr} {W : AP} {H : Hp} {K : PySem.W.Frag} : ∀ (d : D) (v : V), Rp p W H d v → d.py.canLay0 = true → Dp K H v d.py
  | .non, _, h, _ => by rw [rp_non h]; exact .non
  | .bl _, _, h, _ => by rw [rp_bl h]; exact .bl _
  | .int _, _, h, _ => by rw [rp_int h]; exact .int _
  | .str _, _, h, _ => by rw [rp_str h]; exact .str _
  | .tup ds, _, h, hc => by
    obtain ⟨a, vs, rfl, n, ha, r⟩ := rp_tup h
    simp only [D.py, PyData.canLay0] at hc ⊢
    exact .tup (SqT.of ha) (Rps.dp ds vs r hc)
  | .lst ds, _, h, hc => by
    obtain ⟨a, vs, rfl, n, ha, r⟩ := rp_lst h
    simp only [D.py, PyData.canLay0] at hc ⊢
    exact .lst (SqL.of ha) (Rps.dp ds vs r hc)
  | .rng _ _, _, _, hc => by simp [D.py, PyData.canLay0] at hc
  | .src, _, _, hc => by simp [D.py, PyData.canLay0] at hc
  | .dct _ _, _, _, hc => by simp [D.py, PyData.canLay0] at hc
  | .dtt _ _, _, _, hc => by simp [D.py, PyData.canLay0] at hc
  | .tpx is, _, h, hc => by
    obtain ⟨a, o, rfl, n, ha, _⟩ := h
    simp only [D.py]
    exact .tup (.inl (.inr ⟨o, ha⟩)) (dp_ints is)
theorem Rps.dp {p : Addr} {W : AP} {H : Hp} {K : PySem.W.Frag} : ∀ (ds : List D) (vs : List V), Rps p W H ds vs → PyData.canLayAll0 (D.pys ds) = true → DpAll K H vs (D.pys ds)
  | [], _, h, _ => by
    simp only [Rps] at h; subst h
    simp only [D.pys]; exact .nil
  | d :: ds, _, h, hc => by
    simp only [Rps] at h
    obtain ⟨v, r, rfl, h1, h2⟩ := h
    simp only [D.pys, PyData.canLayAll0, Bool.and_eq_true] at hc ⊢
    exact .cons (Rp.dp d v h1 hc.1) (Rps.dp ds r h2 hc.2)
end
def eqD (a b : D) : Option D := if SeqAt.shaped a.py = true ∧ SeqAt.shaped b.py = true then some (.bl (PyData.eqv a.py b.py)) else none
def neD (a b : D) : Option D := if SeqAt.shaped a.py = true ∧ SeqAt.shaped b.py = true then some (.bl (!PyData.eqv a.py b.py)) else none
theorem od_eq (hu : X.A.units + 64 < cLine) : OpD X (compareOp .Eq) eqD := opD_cases fun dx dy d p W he => by
  unfold eqD at he
  split at he
  · cases he
    rename_i hs
    exact OpR.imp (op_eqD hu) fun x y H Q ⟨hw, hx, hy, hq⟩ => ⟨_, _, hx.dp _ _ (SeqAt.canLay_of_shaped hs.1), hy.dp _ _ (SeqAt.canLay_of_shaped hs.2), hs.1, hs.2, hq _ _ (Same.refl H) (.mkBl _)⟩
  · cases he
theorem od_ne (hu : X.A.units + 64 < cLine) : OpD X (compareOp .NotEq) neD := opD_cases fun dx dy d p W he => by
  unfold neD at he
  split at he
  · cases he
    rename_i hs
    exact OpR.imp (op_neD hu) fun x y H Q ⟨hw, hx, hy, hq⟩ => ⟨_, _, hx.dp _ _ (SeqAt.canLay_of_shaped hs.1), hy.dp _ _ (SeqAt.canLay_of_shaped hs.2), hs.1, hs.2, hq _ _ (Same.refl H) (.mkBl _)⟩
  · cases he

def notND : D → D → Option D
  | .non, .non => some (.bl false)
  | _, .non => some (.bl true)
  | _, _ => none
theorem Rp.isNon {p : Addr} {W : AP} {H : Hp} {d : D} {v : V} (h : Rp p W H d v) : decide (v = .non) = (match d with | .non => true | _ => false) := by
  cases d <;> simp only [Rp] at h
  case non => subst h; rfl
  case bl => subst h; rfl
  case int => subst h; rfl
  case str => subst h; rfl
  case src => subst h; rfl
  all_goals
    obtain ⟨a, h⟩ := h
    first
      | (obtain ⟨rfl, _⟩ := h; rfl)
      | (obtain ⟨_, rfl, _⟩ := h; rfl)
theorem od_notN : OpD X (compareOp .IsNot) notND := opD_cases fun dx dy d p W he => by
  unfold notND at he
  split at he
  · cases he
    exact OpR.imp op_notN fun x y H Q ⟨hw, hx, hy, hq⟩ => ⟨rp_non hy, by rw [hx.isNon]; exact hq _ _ (Same.refl H) (.mkBl _)⟩
  · cases he
    rename_i hn
    refine OpR.imp op_notN fun x y H Q ⟨hw, hx, hy, hq⟩ => ⟨rp_non hy, ?_⟩
    rw [hx.isNon]
    cases dx <;> first | exact hq _ _ (Same.refl H) (.mkBl _) | exact absurd rfl (hn rfl) | exact absurd rfl hn | simp at hn
  · cases he
end
end GH

namespace GH
open PySem PySem.Spec PyProof.Rows L2

section
variable {X : Cx} {a b c e : Expr} {es : List Expr} {pos : Pos} {ma mb mc m : M D} {ms : M (List D)}

def eBin (f : D → D → Option D) (ma mb : M D) : M D := bnd ma fun x => bnd mb fun y => lift (f x y)
theorem bin_go {B : Bs} {f : D → D → Option D} {σ : Sg} {H : Hp} {Q : VK} (h : tI B (eBin f ma mb) σ H Q) : tOp (rB f) (tI B ma) (tI B mb) σ H Q := by
  obtain ⟨s, d, s', k, e, q⟩ := h
  refine tI.bind k e fun dx s1 x H1 h1 e1 k1 ev1 r1 => ?_
  refine tI.bind k1 e1 fun dy s2 y H2 h2 e2 k2 ev2 r2 => ?_
  obtain ⟨e3, rfl⟩ := lift_some e2
  exact ⟨B.p, _, dx, dy, d, k2.wt, r1.ev ev2, r2, e3, fun v H' sm r => q v H' (k2.same sm) ((ev1.trans ev2).trans (Ev.same sm)) r⟩
theorem s_bin {op : Operator} {f : D → D → Option D} (ho : OpD X (binaryOp op) f) (ha : SE X a ma) (hb : SE X b mb) : SE X (.BinOp a op b pos) (eBin f ma mb) :=
  ⟨fun B => PE.imp (pe_op ho (ha.pe B) (hb.pe B)) fun σ H Q h => bin_go h⟩
theorem s_cmp {op : CmpOp} {f : D → D → Option D} (ho : OpD X (compareOp op) f) (ha : SE X a ma) (hb : SE X b mb) (hm : behindInMarks op b = false := by first | exact nobehind _ (by decide) (by decide) | rfl) : SE X (.Compare a [op] [b] pos) (eBin f ma mb) :=
  ⟨fun B => PE.imp (pe_cmpR ho (ha.pe B) (hb.pe B) hm) fun σ H Q h => bin_go h⟩
def tst (m : M D) : M Bool := bnd m fun d => match d with
  | .bl b => ret b
  | _ => fail
theorem t_cmp {op : CmpOp} {f : D → D → Option D} (ho : OpD X (compareOp op) f) (ha : SE X a ma) (hb : SE X b mb) (hm : behindInMarks op b = false := by first | exact nobehind _ (by decide) (by decide) | rfl) : ST X (.Compare a [op] [b] pos) (tst (eBin f ma mb)) :=
  ⟨fun B => PT.imp (pt_cmpR ho (ha.pe B) (hb.pe B) hm) fun σ H Q ⟨s, b', s', k, e, q⟩ => by
    obtain ⟨d, s1, h1, h2⟩ := bnd_some e
    cases d <;> simp only [fail] at h2 <;> try (cases h2; done)
    obtain ⟨rfl, rfl⟩ := ret_some h2
    refine bin_go ⟨s, _, _, k, h1, fun v H' k' ev r => ⟨_, rp_bl r, q H' k' ev⟩⟩⟩
def truD : D → Option Bool
  | .non => some false
  | .bl b => some b
  | .int i => some (i != 0)
  | .str y => if y.length ≤ sizeLine then some ((y.length : Int) != 0) else none
  | .lst ds => some (!ds.isEmpty)
  | .tup ds => some (!ds.isEmpty)
  | _ => none
theorem isEmpty_len {α β : Type} {l : List α} {l' : List β} (h : l.length = l'.length) : l.isEmpty = l'.isEmpty := by
  cases l <;> cases l' <;> simp at h ⊢
theorem Rp.tru {p : Addr} {W : AP} {H : Hp} {K : PySem.W.Frag} {d : D} {v : V} {k : Bool} (r : Rp p W H d v) (h : truD d = some k) : TruV K v H k := by
  cases d <;> simp only [truD] at h
  case non => cases h; rw [rp_non r]; rfl
  case bl => cases h; rw [rp_bl r]; rfl
  case int => cases h; rw [rp_int r]; rfl
  case str =>
    split at h
    · cases h; rename_i hl; rw [rp_str r]; exact ⟨hl, rfl⟩
    · cases h
  case tup =>
    cases h
    obtain ⟨a, vs, rfl, _, ha, rs⟩ := rp_tup r
    exact .inr (.inl ⟨vs, SqT.of ha, by rw [isEmpty_len rs.length]⟩)
  case lst =>
    cases h
    obtain ⟨a, vs, rfl, _, ha, rs⟩ := rp_lst r
    exact .inl ⟨vs, SqL.of ha, by rw [isEmpty_len rs.length]⟩
  all_goals cases h
def tru (m : M D) : M Bool := bnd m fun d => lift (truD d)
theorem t_of (ha : SE X a ma) (he : ∀ whole, isTrue a X.env whole = (do let v ← whole; standAt a.pos; holding [v] (truthy v)) := by intro _; rfl) : ST X a (tru ma) :=
  ⟨fun B => PT.imp (pt_truth (ha.pe B) he) fun σ H Q ⟨s, b', s', k, e, q⟩ => by
    refine tI.bind k e fun dx s1 x H1 h1 e1 k1 ev1 r1 => ?_
    obtain ⟨e3, rfl⟩ := lift_some e1
    exact ⟨b', r1.tru e3, q H1 k1 ev1⟩⟩
structure SW (X : Cx) (e : Expr) (m : M Bool) : Prop where
  pw : ∀ B, PW X e (tT B m)
theorem PW.imp {X : Cx} {e : Expr} {t t' : TT} (h : PW X e t) (f : ∀ σ H Q, t' σ H Q → t σ H Q) : PW X e t' := ⟨fun wh pins s σ H Q I q => h.run wh pins s σ H Q I (f _ _ _ q)⟩
theorem SW.t {e : Expr} {m : M Bool} (h : SW X e m) : ST X e m := ⟨fun B => (h.pw B).pt⟩
def tAnd2 (m n : M Bool) : M Bool := bnd m fun b => if b = true then n else ret false
def tOr2 (m n : M Bool) : M Bool := bnd m fun b => if b = true then ret true else n
def tNot1 (m : M Bool) : M Bool := bnd m fun b => ret (!b)
theorem w_and1 {m : M Bool} (h : ST X a m) : SW X (.BoolOp .And [a] pos) m := ⟨fun B => pw_and1 (h.pt B)⟩
theorem w_or1 {m : M Bool} (h : ST X a m) : SW X (.BoolOp .Or [a] pos) m := ⟨fun B => pw_or1 (h.pt B)⟩
theorem w_and {m n : M Bool} (ha : ST X a m) (hb : SW X (.BoolOp .And (b :: es) pos) n) : SW X (.BoolOp .And (a :: b :: es) pos) (tAnd2 m n) :=
  ⟨fun B => PW.imp (pw_and (ha.pt B) (hb.pw B)) fun σ H Q ⟨s, b', s', k, e, q⟩ => by
    refine tT.bind k e fun d s1 H1 h1 e1 k1 ev1 => ?_
    cases d with
    | true => exact ⟨s1, b', s', k1, e1, fun H2 k2 ev2 => q H2 k2 (ev1.trans ev2)⟩
    | false =>
      obtain ⟨rfl, rfl⟩ := ret_some e1
      exact q H1 k1 ev1⟩
theorem w_or {m n : M Bool} (ha : ST X a m) (hb : SW X (.BoolOp .Or (b :: es) pos) n) : SW X (.BoolOp .Or (a :: b :: es) pos) (tOr2 m n) :=
  ⟨fun B => PW.imp (pw_or (ha.pt B) (hb.pw B)) fun σ H Q ⟨s, b', s', k, e, q⟩ => by
    refine tT.bind k e fun d s1 H1 h1 e1 k1 ev1 => ?_
    cases d with
    | false => exact ⟨s1, b', s', k1, e1, fun H2 k2 ev2 => q H2 k2 (ev1.trans ev2)⟩
    | true =>
      obtain ⟨rfl, rfl⟩ := ret_some e1
      exact q H1 k1 ev1⟩
theorem t_not {m : M Bool} (ha : ST X a m) : ST X (.UnaryOp .Not a pos) (tNot1 m) :=
  ⟨fun B => PT.imp (pt_not (ha.pt B)) fun σ H Q ⟨s, b', s', k, e, q⟩ => by
    refine tT.bind k e fun d s1 H1 h1 e1 k1 ev1 => ?_
    obtain ⟨rfl, rfl⟩ := ret_some e1
    exact q H1 k1 ev1⟩
def eAnd (ma mb : M D) : M D := bnd ma fun x => bnd (lift (truD x)) fun b => if b = true then mb else ret x
def eOr (ma mb : M D) : M D := bnd ma fun x => bnd (lift (truD x)) fun b => if b = true then ret x else mb
theorem s_one {op} (h : SE X a ma) : SE X (.BoolOp op [a] pos) ma := ⟨fun B => pe_one (h.pe B)⟩
theorem s_and (ha : SE X a ma) (hb : SE X (.BoolOp .And (b :: es) pos) mb) : SE X (.BoolOp .And (a :: b :: es) pos) (eAnd ma mb) :=
  ⟨fun B => PE.imp (pe_andT (ha.pe B) (hb.pe B)) fun σ H Q ⟨s, d, s', k, e, q⟩ => by
    refine tI.bind k e fun dx s1 x H1 h1 e1 k1 ev1 r1 => ?_
    obtain ⟨t, s2, e2, e3⟩ := bnd_some e1
    obtain ⟨e4, rfl⟩ := lift_some e2
    refine ⟨t, r1.tru e4, ?_⟩
    cases t with
    | true => exact ⟨s2, d, s', k1, e3, fun v H2 k2 ev2 r2 => q v H2 k2 (ev1.trans ev2) r2⟩
    | false =>
      obtain ⟨rfl, rfl⟩ := ret_some e3
      exact q x H1 k1 ev1 r1⟩
theorem s_or (ha : SE X a ma) (hb : SE X (.BoolOp .Or (b :: es) pos) mb) : SE X (.BoolOp .Or (a :: b :: es) pos) (eOr ma mb) :=
  ⟨fun B => PE.imp (pe_orT (ha.pe B) (hb.pe B)) fun σ H Q ⟨s, d, s', k, e, q⟩ => by
    refine tI.bind k e fun dx s1 x H1 h1 e1 k1 ev1 r1 => ?_
    obtain ⟨t, s2, e2, e3⟩ := bnd_some e1
    obtain ⟨e4, rfl⟩ := lift_some e2
    refine ⟨t, r1.tru e4, ?_⟩
    cases t with
    | false => exact ⟨s2, d, s', k1, e3, fun v H2 k2 ev2 r2 => q v H2 k2 (ev1.trans ev2) r2⟩
    | true =>
      obtain ⟨rfl, rfl⟩ := ret_some e3
      exact q x H1 k1 ev1 r1⟩
def eIf (t : M Bool) (ma mb : M D) : M D := bnd t fun b => if b = true then ma else mb
theorem s_if {t : M Bool} (hc : ST X c t) (ha : SE X a ma) (hb : SE X b mb) : SE X (.IfExp c a b pos) (eIf t ma mb) :=
  ⟨fun B => PE.imp (pe_ifExp (hc.pt B) (ha.pe B) (hb.pe B)) fun σ H Q ⟨s, d, s', k, e, q⟩ => by
    refine tT.bind k e fun t s1 H1 h1 e1 k1 ev1 => ?_
    cases t with
    | true => exact ⟨s1, d, s', k1, e1, fun v H2 k2 ev2 r2 => q v H2 k2 (ev1.trans ev2) r2⟩
    | false => exact ⟨s1, d, s', k1, e1, fun v H2 k2 ev2 r2 => q v H2 k2 (ev1.trans ev2) r2⟩⟩
def negD : D → Option D
  | .int i => some (.int (-i))
  | _ => none
def eUn (f : D → Option D) (ma : M D) : M D := bnd ma fun x => lift (f x)
theorem s_neg (ha : SE X a ma) : SE X (.UnaryOp .USub a pos) (eUn negD ma) :=
  ⟨fun B => PE.imp (pe_un un_neg (ha.pe B)) fun σ H Q ⟨s, d, s', k, e, q⟩ => by
    refine tI.bind k e fun dx s1 x H1 h1 e1 k1 ev1 r1 => ?_
    obtain ⟨e3, rfl⟩ := lift_some e1
    cases dx <;> simp only [negD] at e3 <;> cases e3
    exact ⟨_, rp_int r1, q _ H1 k1 ev1 (.mkInt _)⟩⟩

def aNil : M (List D) := ret []
def aCons (m : M D) (ms : M (List D)) : M (List D) := bnd m fun d => bnd ms fun ds => ret (d :: ds)
def seqD : D → Option (List D)
  | .tup ds => some ds
  | .lst ds => some ds
  | .tpx is => some (is.map D.int)
  | _ => none
def aStar (m : M D) (ms : M (List D)) : M (List D) := bnd m fun d => bnd (lift (seqD d)) fun xs => bnd ms fun ds => ret (xs ++ ds)
theorem a_nil : SA X [] aNil := ⟨fun B => PA.imp pa_nil fun σ H Q ⟨s, d, s', k, e, q⟩ => by
  obtain ⟨rfl, rfl⟩ := ret_some e
  exact q [] H k Ev.refl .nil⟩
theorem a_cons (ha : SE X e m) (hr : SA X es ms) (hs : starEach (e :: es) X.env = (false, eval e X.env) :: starEach es X.env := by rfl) : SA X (e :: es) (aCons m ms) :=
  ⟨fun B => PA.imp (pa_cons (ha.pe B) (hr.pa B) hs) fun σ H Q ⟨s, d, s', k, e, q⟩ => by
    refine tI.bind k e fun dx s1 x H1 h1 e1 k1 ev1 r1 => ?_
    refine tA.bind k1 e1 fun ds s2 vs H2 h2 e2 k2 ev2 r2 => ?_
    obtain ⟨rfl, rfl⟩ := ret_some e2
    exact q _ H2 k2 (ev1.trans ev2) (.cons (r1.ev ev2) r2)⟩
theorem a_star {sp : Pos} (ha : SE X e m) (hr : SA X es ms) (hs : starEach (.Starred e sp :: es) X.env = (true, eval e X.env) :: starEach es X.env := by rfl) : SA X (.Starred e sp :: es) (aStar m ms) :=
  ⟨fun B => PA.imp (StX.pa_star (ha.pe B) (hr.pa B) hs) fun σ H Q ⟨s, d, s', k, e, q⟩ => by
    refine tI.bind k e fun dx s1 x H1 h1 e1 k1 ev1 r1 => ?_
    obtain ⟨xs, s2, e2, e3⟩ := bnd_some e1
    obtain ⟨e2, rfl⟩ := lift_some e2
    have go : ∀ a vs, x = .ref a → SqT X.K H1 a vs ∨ SqL X.K H1 a vs → Rps B.p (B.W s2.env σ) H1 xs vs → StX.tStar X.K (fun σ H Q => Q x H) (tA B ms) σ H1 Q := fun a vs ex ha r => by
      refine ⟨a, vs, ex, ha, ?_⟩
      refine tA.bind k1 e3 fun ds s3 us H3 h3 e4 k3 ev3 r3 => ?_
      obtain ⟨rfl, rfl⟩ := ret_some e4
      exact q _ H3 k3 (ev1.trans ev3) ((r.ev ev3).append r3)
    cases dx <;> simp only [seqD] at e2 <;> cases e2
    · obtain ⟨a, vs, rfl, _, ha, r⟩ := rp_tup r1
      exact go a vs rfl (.inl (SqT.of ha)) r
    · obtain ⟨a, vs, rfl, _, ha, r⟩ := rp_lst r1
      exact go a vs rfl (.inr (SqL.of ha)) r
    · obtain ⟨a, o, rfl, _, ha, _⟩ := r1
      exact go a _ rfl (.inl (.inl (.inr ⟨o, ha⟩))) ints_rps⟩

def eTup (ms : M (List D)) : M D := bnd ms fun ds => if ds.length ≤ sizeLine then ret (.tup ds) else fail
theorem s_tup {x1} (h : SA X es ms) : SE X (.Tuple es x1 pos) (eTup ms) :=
  ⟨fun B => PE.imp (pe_tup (h.pa B)) fun σ H Q ⟨s, d, s', k, e, q⟩ => by
    refine tA.bind k e fun ds s1 vs H1 h1 e1 k1 ev1 r1 => ?_
    split at e1
    · rename_i hl
      obtain ⟨rfl, rfl⟩ := ret_some e1
      exact ⟨by rw [← r1.length]; exact hl, fun p np => q _ _ (k1.same (same_new np)) (ev1.trans (Ev.same (same_new np))) (.newTup k1.wt np r1)⟩
    · cases e1⟩
theorem StOk.plus {B : Bs} {σ : Sg} {H : Hp} {s : S} {a : Addr} {o : HO} (k : StOk B σ H s) (n : H a = none) (nt : NoTup o := by intro _ z; cases z) : StOk (B.plus a) σ (upd H a o) s ∧ Ev (B.W s.env σ) H ((B.plus a).W s.env σ) (upd H a o) := by
  have sm : Same H (upd H a o) := same_new n
  have ne : ∀ b x, H b = some x → b ≠ a := fun b x h => ne_of_none h n
  have ev : Ev (B.W s.env σ) H ((B.plus a).W s.env σ) (upd H a o) := fun b x h hn => ⟨sm b x h, by
    rintro ((z | z) | z)
    · exact hn (.inl z)
    · exact ne b x h z
    · exact hn (.inr z)⟩
  refine ⟨⟨k.len, fun i d h => ?_, fun i sl h ho => ?_, k.sep, k.src.same sm, fun b x h h1 h2 => sm b x (k.keep b x h h1 h2), fun b h => ?_, .inl k.wp, .inl k.wcc⟩, ev⟩
  · obtain ⟨v, h1, h2⟩ := k.val i d h
    exact ⟨v, h1, h2.ev ev⟩
  · obtain ⟨b, x, h1, h2, h3, h4, h5⟩ := k.own i sl h ho
    refine ⟨b, x, h1, sm _ _ h2, h3.ev ev, h4, ?_⟩
    rintro (z | z)
    · exact h5 z
    · exact ne b x h2 z
  · rcases h with z | z
    · obtain ⟨x, h1, h2⟩ := k.wc b z
      exact ⟨x, sm _ _ h1, h2⟩
    · subst z
      exact ⟨o, upd_same, nt⟩
theorem l_disp (h : SA X es ms) : SL X (.List es pos) (bnd ms fun ds => if ds.length ≤ sizeLine then ret ds else fail) :=
  ⟨fun B => PE.imp (pe_lst (h.pa B)) fun σ H Q ⟨s, d, s', k, e, q⟩ => by
    refine tA.bind k e fun ds s1 vs H1 h1 e1 k1 ev1 r1 => ?_
    split at e1
    · rename_i hl
      obtain ⟨rfl, rfl⟩ := ret_some e1
      refine ⟨by rw [← r1.length]; exact hl, fun p np => ?_⟩
      obtain ⟨kp, ev⟩ := k1.plus (o := .lst vs) np
      exact q p vs _ kp (ev1.trans ev) (k1.new np) (k1.wt.new np) upd_same (r1.ev ev)
    · cases e1⟩
end
end GH

namespace GH
open PySem PySem.Spec PyProof.Rows L2

theorem StOk.set {B : Bs} {σ : Sg} {H : Hp} {s : S} {i : Nat} {d : D} {v : V} (k : StOk B σ H s) (hi : i < s.env.length) (r : Rp B.p (B.W s.env σ) H d v) :
    StOk B (σ.set i (some v)) H { s with env := s.env.set i (some (.val d)) } ∧ Ev (B.W s.env σ) H (B.W (s.env.set i (some (.val d))) (σ.set i (some v))) H := by
  have hiσ : i < σ.length := by rw [← k.len]; exact hi
  have sub : ∀ b, B.W (s.env.set i (some (.val d))) (σ.set i (some v)) b → B.W s.env σ b := fun b hb => by
    rcases hb with hb | ⟨j, sl', e1, e2, e3⟩
    · exact .inl hb
    · by_cases hj : i = j
      · subst hj
        rw [List.getElem?_set_self hi] at e1
        cases e1; cases e2
      · rw [List.getElem?_set_ne hj] at e1 e3
        exact .inr ⟨j, sl', e1, e2, e3⟩
  have ev : Ev (B.W s.env σ) H (B.W (s.env.set i (some (.val d))) (σ.set i (some v))) H := Ev.less sub
  refine ⟨⟨by simpa using k.len, fun j d' h => ?_, fun j sl' h h' => ?_, fun j1 j2 sl1 sl2 b h1 o1 h2 o2 q1 q2 => ?_, k.src, k.keep, k.wc, k.wp, k.wcc⟩, ev⟩
  · by_cases hj : i = j
    · subst hj
      have h : (s.env.set i (some (.val d)))[i]? = _ := h
      rw [List.getElem?_set_self hi] at h
      cases h
      exact ⟨v, List.getElem?_set_self hiσ, r.ev ev⟩
    · have h : (s.env.set i (some (.val d)))[j]? = _ := h
      rw [List.getElem?_set_ne hj] at h ⊢
      obtain ⟨v, h1, h2⟩ := k.val j d' h
      exact ⟨v, h1, h2.ev ev⟩
  · have h : (s.env.set i (some (.val d)))[j]? = _ := h
    by_cases hj : i = j
    · subst hj
      rw [List.getElem?_set_self hi] at h
      cases h; cases h'
    · rw [List.getElem?_set_ne hj] at h ⊢
      obtain ⟨b, o, h1, h2, h3, h4⟩ := k.own j sl' h h'
      exact ⟨b, o, h1, h2, h3.ev ev, h4⟩
  · have h1 : (s.env.set i (some (.val d)))[j1]? = _ := h1
    have h2 : (s.env.set i (some (.val d)))[j2]? = _ := h2
    by_cases e1 : i = j1
    · subst e1
      rw [List.getElem?_set_self hi] at h1
      cases h1; cases o1
    · by_cases e2 : i = j2
      · subst e2
        rw [List.getElem?_set_self hi] at h2
        cases h2; cases o2
      · rw [List.getElem?_set_ne e1] at h1 q1
        rw [List.getElem?_set_ne e2] at h2 q2
        exact k.sep j1 j2 sl1 sl2 b h1 o1 h2 o2 q1 q2

def tG (B : Bs) (is : List Nat) (g : D → M Unit) : TG := fun v σ H Q => ∃ s d s', StOk B σ H s ∧ Rp B.p (B.W s.env σ) H d v ∧ g d s = some ((), s') ∧
  ∀ σ', StOk B σ' H s' → Ev (B.W s.env σ) H (B.W s'.env σ') H → (∀ vs : List Nat, (∀ i ∈ is, i ∈ vs) → wipe σ' vs = wipe σ vs) → Q σ' H
def tGs (B : Bs) (is : List Nat) (g : List D → M Unit) : TGs := fun vs σ H Q => ∃ s ds s', StOk B σ H s ∧ Rps B.p (B.W s.env σ) H ds vs ∧ g ds s = some ((), s') ∧
  ∀ σ', StOk B σ' H s' → Ev (B.W s.env σ) H (B.W s'.env σ') H → (∀ vs : List Nat, (∀ i ∈ is, i ∈ vs) → wipe σ' vs = wipe σ vs) → Q σ' H
structure SG (X : Cx) (tg : Expr) (is : List Nat) (g : D → M Unit) : Prop where
  pg : ∀ B, PG X tg (tG B is g)
structure SGs (X : Cx) (tg : List Expr) (is : List Nat) (g : List D → M Unit) : Prop where
  pg : ∀ B, PGs X tg (tGs B is g)
theorem PG.imp {X : Cx} {e : Expr} {t t' : TG} (h : PG X e t) (f : ∀ v σ H Q, t' v σ H Q → t v σ H Q) : PG X e t' := ⟨fun pins s σ H v u Q I r q => h.run pins s σ H v u Q I r (f _ _ _ _ q)⟩
theorem PGs.imp {X : Cx} {e : List Expr} {t t' : TGs} (h : PGs X e t) (f : ∀ v σ H Q, t' v σ H Q → t v σ H Q) : PGs X e t' := ⟨fun pins s σ H v u Q I r q => h.run pins s σ H v u Q I r (f _ _ _ _ q)⟩
theorem wipe_set_mem {σ : Sg} {i : Nat} {v : Option V} : ∀ {vs : List Nat}, i ∈ vs → wipe (σ.set i v) vs = wipe σ vs
  | [], h => by simp at h
  | j :: vs, h => by
    unfold wipe
    by_cases e : i ∈ vs
    · rw [wipe_set_mem e]
    · have hj : i = j := by
        rcases List.mem_cons.mp h with h | h
        · exact h
        · exact absurd h e
      subst hj
      have : ∀ (vs : List Nat), i ∉ vs → (wipe (σ.set i v) vs).set i none = (wipe σ vs).set i none := fun vs => by
        induction vs with
        | nil => intro _; unfold wipe; rw [List.set_set]
        | cons w ws ih =>
          intro hn
          have h1 : i ≠ w := fun q => hn (q ▸ List.mem_cons_self)
          have h2 : i ∉ ws := fun q => hn (List.mem_cons_of_mem _ q)
          unfold wipe
          rw [List.set_comm _ _ (Ne.symm h1), ih h2, List.set_comm _ _ h1]
      exact this vs e
def gN (i : Nat) : D → M Unit := fun d s => if i < s.env.length then some ((), { s with env := s.env.set i (some (.val d)) }) else none
def gNil : List D → M Unit
  | [] => ret ()
  | _ => fail
def gCons (g : D → M Unit) (gs : List D → M Unit) : List D → M Unit
  | d :: r => bnd (g d) fun _ => gs r
  | [] => fail
def gT (gs : List D → M Unit) : D → M Unit
  | .tup ds => gs ds
  | _ => fail
section
variable {X : Cx} {e : Expr} {es : List Expr} {pos : Pos}
theorem g_name {i : Nat} {x : Str} (hN : X.N.Nodup) (hi : X.N[i]? = some x) (hx : Loc X.env.scope x) (hf : X.fn x = true ∨ X.env.scope.names.lookup x = some .local := by first | exact .inl rfl | exact .inr rfl | assumption) : SG X (.Name x pos) [i] (gN i) :=
  ⟨fun B => PG.imp (pg_name hN hi hx hf) fun v σ H Q ⟨s, d, s', k, r, e, q⟩ => by
    unfold gN at e
    split at e
    · rename_i hl
      cases e
      obtain ⟨k', ev⟩ := k.set hl r
      exact q _ k' ev fun vs h => wipe_set_mem (h i (by simp))
    · cases e⟩
theorem gs_nil : SGs X [] [] gNil := ⟨fun B => PGs.imp pgs_nil fun v σ H Q ⟨s, ds, s', k, r, e, q⟩ => by
  cases ds with
  | nil =>
    simp only [Rps] at r
    simp only [gNil, ret] at e
    cases e
    exact ⟨r, q σ k Ev.refl fun _ _ => rfl⟩
  | cons d ds => simp [gNil, fail] at e⟩
theorem gs_cons {is js : List Nat} {g : D → M Unit} {gs : List D → M Unit} (h1 : SG X e is g) (h2 : SGs X es js gs) (hs : (assignEach (e :: es) X.env).map (·.2) = assign e X.env :: (assignEach es X.env).map (·.2) := by rfl) : SGs X (e :: es) (is ++ js) (gCons g gs) :=
  ⟨fun B => PGs.imp (pgs_cons (h1.pg B) (h2.pg B) hs) fun vs σ H Q ⟨s, ds, s', k, r, e, q⟩ => by
    cases ds with
    | nil => simp [gCons, fail] at e
    | cons d ds =>
      simp only [Rps] at r
      obtain ⟨v, rest, rfl, r1, r2⟩ := r
      obtain ⟨_, s1, e1, e2⟩ := bnd_some e
      refine ⟨v, rest, rfl, s, d, s1, k, r1, e1, fun σ1 k1 ev1 w1 => ⟨s1, ds, s', k1, r2.ev ev1, e2, fun σ2 k2 ev2 w2 => q σ2 k2 (ev1.trans ev2) fun vs h => ?_⟩⟩
      rw [w2 vs fun i hi => h i (List.mem_append_right _ hi), w1 vs fun i hi => h i (List.mem_append_left _ hi)]⟩
theorem g_tup {is : List Nat} {k n : Nat} {gs : List D → M Unit} (hc : X.calm = true) (h : SGs X es is gs) (hn : (assignEach es X.env).length = n := by rfl) (hst : (assignEach es X.env).findIdx? (·.1) = none := by rfl)
    (hl : ∀ ds s, ds.length ≠ n → gs ds s = none) : SG X (.Tuple es k pos) is (gT gs) :=
  ⟨fun B => PG.imp (pg_tup (k := k) (pos := pos) hc (h.pg B) hn hst) fun v σ H Q ⟨s, d, s', k, r, e, q⟩ => by
    cases d <;> simp only [gT] at e <;> try (simp [fail] at e; done)
    rename_i ds
    obtain ⟨a, vs, rfl, _, ha, rs⟩ := rp_tup r
    have hlen : ds.length = n := by
      by_cases z : ds.length = n
      · exact z
      · rw [hl ds s z] at e; cases e
    exact ⟨a, vs, rfl, SqT.of ha, by rw [← rs.length]; exact hlen, s, ds, s', k, rs, e, q⟩⟩
end
theorem gNil_len : ∀ ds s, ds.length ≠ 0 → gNil ds s = none
  | [], _, h => absurd rfl h
  | _ :: _, _, _ => rfl
theorem gCons_len {g : D → M Unit} {gs : List D → M Unit} {n : Nat} (h : ∀ ds s, ds.length ≠ n → gs ds s = none) : ∀ ds s, ds.length ≠ n + 1 → gCons g gs ds s = none
  | [], _, _ => rfl
  | d :: ds, s, hn => by
    show bnd (g d) (fun _ => gs ds) s = none
    unfold bnd
    split
    · exact h ds _ (by simpa using hn)
    · rfl

def WalkD (p : Addr) (W : AP) (H : Hp) (J : It) (ds : List D) : Prop := ∀ W2 H2, Ev W H W2 H2 → WT W2 H2 →
  (∀ i, i < ds.length → J.go i H2) ∧ J.stop ds.length H2 ∧ ∀ i d x H3, ds[i]? = some d → J.yld i H2 x H3 → Same H2 H3 ∧ Rp p W2 H3 d x
def tIt (B : Bs) (m : M (List D)) : TI := fun σ H R => ∃ s ds s', StOk B σ H s ∧ m s = some (ds, s') ∧
  ∀ J H', StOk B σ H' s' → Ev (B.W s.env σ) H (B.W s'.env σ) H' → WalkD B.p (B.W s'.env σ) H' J ds → R J H'
structure SI (X : Cx) (tg iter : Expr) (m : M (List D)) : Prop where
  pi : ∀ B, PI X tg iter (tIt B m)
theorem PI.imp {X : Cx} {tg e : Expr} {t t' : TI} (h : PI X tg e t) (f : ∀ σ H Q, t' σ H Q → t σ H Q) : PI X tg e t' := ⟨fun pins s σ H R I q => h.run pins s σ H R I (f _ _ _ q)⟩
theorem rp_get {p : Addr} {W : AP} {H : Hp} {ds : List D} {vs : List V} {i : Nat} {d : D} {x : V} (r : Rps p W H ds vs) (h : ds[i]? = some d) (hx : vs[i]? = some x) : Rp p W H d x := by
  obtain ⟨v, h1, h2⟩ := r.get h
  rw [hx] at h1; cases h1; exact h2
theorem walk_of {p : Addr} {W : AP} {H : Hp} {J : It} {vs : List V} {ds : List D} {G : Hp → Prop} (w : Walk J vs.length G (YAt vs)) (r : Rps p W H ds vs) (g : ∀ W2 H2, Ev W H W2 H2 → G H2) : WalkD p W H J ds := fun W2 H2 ev wt => by
  have hl := r.length
  refine ⟨fun i hi => w.goes i H2 (by omega) (g W2 H2 ev), by rw [hl]; exact w.stops H2 (g W2 H2 ev), fun i d x H3 hd y => ?_⟩
  obtain ⟨e, hx⟩ := w.yields i H2 x H3 (by have := (List.getElem?_eq_some_iff.mp hd).1; omega) (g W2 H2 ev) y
  subst e
  exact ⟨Same.refl _, rp_get (r.ev ev) hd hx⟩
def iSeq (m : M D) : M (List D) := bnd m fun d => lift (seqD d)
def lstD : D → Option (List D)
  | .lst ds => some ds
  | _ => none
def tupD : D → Option (List D)
  | .tup ds => some ds
  | .tpx is => some (is.map D.int)
  | _ => none
def iLst (m : M D) : M (List D) := bnd m fun d => lift (lstD d)
def iTup (m : M D) : M (List D) := bnd m fun d => lift (tupD d)
section
variable {X : Cx} {tg e a b : Expr} {m ma mb : M D}
theorem i_lst (h : SE X e m) : SI X tg e (iLst m) := ⟨fun B => PI.imp (pi_list (h.pe B)) fun σ H R ⟨s, ds, s', k, e, q⟩ => by
  refine tI.bind k e fun d s1 v H1 h1 e1 k1 ev1 r1 => ?_
  obtain ⟨e3, rfl⟩ := lift_some e1
  cases d <;> simp only [lstD] at e3 <;> cases e3
  obtain ⟨a, vs, rfl, na, ha, rs⟩ := rp_lst r1
  exact ⟨a, rfl, ⟨vs, SqL.of ha⟩, q _ H1 k1 ev1 (walk_of walk_list rs fun W2 H2 ev => SqL.of (ev a _ ha na).1)⟩⟩
theorem i_tup (h : SE X e m) : SI X tg e (iTup m) := ⟨fun B => PI.imp (pi_tup (h.pe B)) fun σ H R ⟨s, ds, s', k, e, q⟩ => by
  refine tI.bind k e fun d s1 v H1 h1 e1 k1 ev1 r1 => ?_
  obtain ⟨e3, rfl⟩ := lift_some e1
  cases d <;> simp only [tupD] at e3 <;> cases e3
  · obtain ⟨a, vs, rfl, na, ha, rs⟩ := rp_tup r1
    exact ⟨a, rfl, ⟨vs, SqT.of ha⟩, q _ H1 k1 ev1 (walk_of walk_tup rs fun W2 H2 ev => SqT.of (ev a _ ha na).1)⟩
  · obtain ⟨a, o, rfl, na, ha, _⟩ := r1
    exact ⟨a, rfl, ⟨_, .inl (.inr ⟨o, ha⟩)⟩, q _ H1 k1 ev1 (walk_of walk_tup ints_rps fun W2 H2 ev => .inl (.inr ⟨o, (ev a _ ha na).1⟩))⟩⟩
def tOr (t u : TI) : TI := fun σ H R => t σ H R ∨ u σ H R
theorem pi_or {t u : TI} (h : PI X tg e t) (h' : PI X tg e u) : PI X tg e (tOr t u) := ⟨fun pins s σ H R I q => q.elim (h.run pins s σ H R I) (h'.run pins s σ H R I)⟩
theorem i_seq (h : SE X e m) : SI X tg e (iSeq m) := ⟨fun B => PI.imp (pi_or ((i_lst h).pi B) ((i_tup h).pi B)) fun σ H R ⟨s, ds, s', k, e, q⟩ => by
  obtain ⟨d, s1, h1, h2⟩ := bnd_some e
  obtain ⟨e3, rfl⟩ := lift_some h2
  cases d <;> simp only [seqD] at e3 <;> cases e3
  · exact .inr ⟨s, ds, s', k, by unfold iTup bnd; rw [h1]; rfl, q⟩
  · exact .inl ⟨s, ds, s', k, by unfold iLst bnd; rw [h1]; rfl, q⟩
  · exact .inr ⟨s, _, s', k, by unfold iTup bnd; rw [h1]; rfl, q⟩⟩
def rngL (lo hi : Int) : List D := (List.range (hi - lo).toNat).map fun i => .int (lo + (i : Nat))
def okR (i : Int) : Prop := -(2 ^ 62) ≤ i ∧ i < 2 ^ 62
instance (i : Int) : Decidable (okR i) := by unfold okR; infer_instance
def iRg1 (m : M D) : M (List D) := bnd m fun d => match d with
  | .int j => if okR j then ret (rngL 0 j) else fail
  | _ => fail
def iRg2 (ma mb : M D) : M (List D) := bnd ma fun d => bnd mb fun e => match d, e with
  | .int i, .int j => if okR i ∧ okR j then ret (rngL i j) else fail
  | _, _ => fail
theorem walk_rng {p : Addr} {W : AP} {H : Hp} {lo hi : Int} : WalkD p W H (Itr lo (hi - lo).toNat) (rngL lo hi) := fun W2 H2 ev wt => by
  have hl : (rngL lo hi).length = (hi - lo).toNat := by simp [rngL]
  refine ⟨fun i h => walk_range.goes i H2 (by omega) trivial, by rw [hl]; exact walk_range.stops H2 trivial, fun i d x H3 hd y => ?_⟩
  obtain ⟨e, hx⟩ := walk_range.yields i H2 x H3 (by have := (List.getElem?_eq_some_iff.mp hd).1; omega) trivial y
  subst e
  subst hx
  refine ⟨Same.refl _, ?_⟩
  unfold rngL at hd
  rw [List.getElem?_map] at hd
  have hi' : i < (hi - lo).toNat := by
    have := (List.getElem?_eq_some_iff.mp (show ((List.range (hi - lo).toNat).map fun i => D.int (lo + (i : Nat)))[i]? = some d by rw [List.getElem?_map]; exact hd)).1
    simpa using this
  rw [List.getElem?_range hi'] at hd
  cases hd
  exact .mkInt _
theorem i_rg1 {p pos : Pos} (hg : Gl X "range") (hm : X.mg "range" = none) (ha : SE X a ma) (hn : starEach [a] X.env = (false, eval a X.env) :: starEach [] X.env := by rfl) (hs : starEach [a] X.env = [(false, eval a X.env)] := by rfl) : SI X tg (.Call (.Name "range" p) [a] [] pos) (iRg1 ma) :=
  ⟨fun B => PI.imp (pi_range1 hg hm (pa_cons (ha.pe B) pa_nil hn) hs) fun σ H R ⟨s, ds, s', k, e, q⟩ => by
    refine tI.bind k e fun d s1 v H1 h1 e1 k1 ev1 r1 => ?_
    cases d <;> simp only [fail] at e1 <;> try (cases e1; done)
    split at e1
    · rename_i j hj
      obtain ⟨rfl, rfl⟩ := ret_some e1
      refine ⟨j, by rw [rp_int r1], hj.1, hj.2, q _ H1 k1 ev1 ?_⟩
      have := walk_rng (p := B.p) (W := B.W s'.env σ) (H := H1) (lo := 0) (hi := j)
      simpa using this
    · cases e1⟩
theorem i_rg2 {p pos : Pos} (hg : Gl X "range") (hm : X.mg "range" = none) (ha : SE X a ma) (hb : SE X b mb) (hn : starEach [a, b] X.env = (false, eval a X.env) :: starEach [b] X.env := by rfl) (hn2 : starEach [b] X.env = (false, eval b X.env) :: starEach [] X.env := by rfl)
    (hs : starEach [a, b] X.env = [(false, eval a X.env), (false, eval b X.env)] := by rfl) (hs2 : starEach [b] X.env = [(false, eval b X.env)] := by rfl) : SI X tg (.Call (.Name "range" p) [a, b] [] pos) (iRg2 ma mb) :=
  ⟨fun B => PI.imp (pi_range2 hg hm (pa_cons (ha.pe B) (pa_cons (hb.pe B) pa_nil hn2) hn) hs hs2) fun σ H R ⟨s, ds, s', k, e, q⟩ => by
    refine tI.bind k e fun d s1 v H1 h1 e1 k1 ev1 r1 => ?_
    refine tI.bind k1 e1 fun d2 s2 v2 H2 h2 e2 k2 ev2 r2 => ?_
    cases d <;> cases d2 <;> (try simp only [fail] at e2) <;> try (cases e2; done)
    split at e2
    · rename_i i j hj
      obtain ⟨rfl, rfl⟩ := ret_some e2
      exact ⟨i, j, by rw [rp_int r1, rp_int r2], ⟨hj.1.1, hj.1.2, hj.2.1, hj.2.2⟩, q _ H2 k2 (ev1.trans ev2) walk_rng⟩
    · cases e2⟩
end

def wipeE (env : List (Option Sl)) : List Nat → List (Option Sl)
  | [] => env
  | v :: vs => (wipeE env vs).set v none
theorem wipeE_len (env : List (Option Sl)) : ∀ vs, (wipeE env vs).length = env.length
  | [] => rfl
  | v :: vs => by unfold wipeE; rw [List.length_set, wipeE_len env vs]
theorem wipeE_get {env : List (Option Sl)} {i : Nat} : ∀ {vs : List Nat}, i ∉ vs → (wipeE env vs)[i]? = env[i]?
  | [], _ => rfl
  | v :: vs, h => by
    unfold wipeE
    rw [List.getElem?_set_ne (by rintro rfl; exact h List.mem_cons_self), wipeE_get fun z => h (List.mem_cons_of_mem _ z)]
theorem wipe_get {σ : Sg} {i : Nat} : ∀ {vs : List Nat}, i ∉ vs → (wipe σ vs)[i]? = σ[i]?
  | [], _ => rfl
  | v :: vs, h => by
    unfold wipe
    rw [List.getElem?_set_ne (by rintro rfl; exact h List.mem_cons_self), wipe_get fun z => h (List.mem_cons_of_mem _ z)]
theorem wipeE_some {env : List (Option Sl)} {i : Nat} {x : Sl} : ∀ {vs : List Nat}, (wipeE env vs)[i]? = some (some x) → env[i]? = some (some x) ∧ i ∉ vs
  | [], h => ⟨h, by simp⟩
  | v :: vs, h => by
    unfold wipeE at h
    by_cases hi : v = i
    · subst hi
      by_cases hv : v < (wipeE env vs).length
      · rw [List.getElem?_set_self hv] at h; cases h
      · rw [List.getElem?_eq_none (by simpa using hv)] at h; cases h
    · rw [List.getElem?_set_ne hi] at h
      obtain ⟨h1, h2⟩ := wipeE_some h
      exact ⟨h1, by simp only [List.mem_cons, not_or]; exact ⟨fun e => hi e.symm, h2⟩⟩
theorem wipe_wipe (σ : Sg) (vs : List Nat) : wipe (wipe σ vs) vs = wipe σ vs := by
  have h : ∀ (us : List Nat), (∀ u ∈ us, u ∈ vs) → wipe (wipe σ vs) us = wipe σ vs := fun us => by
    induction us with
    | nil => intro _; rfl
    | cons u us ih =>
      intro hu
      show (wipe (wipe σ vs) us).set u none = wipe σ vs
      rw [ih fun w hw => hu w (List.mem_cons_of_mem _ hw)]
      have hm := hu u List.mem_cons_self
      have set0 : ∀ (ws : List Nat), u ∈ ws → (wipe σ ws).set u none = wipe σ ws := fun ws => by
        induction ws with
        | nil => intro z; simp at z
        | cons w ws ih2 =>
          intro z
          unfold wipe
          by_cases e : w = u
          · subst e; rw [List.set_set]
          · have : u ∈ ws := by
              rcases List.mem_cons.mp z with z | z
              · exact absurd z.symm e
              · exact z
            rw [List.set_comm _ _ e, ih2 this]
      exact set0 vs hm
  exact h vs fun _ z => z
theorem W_wipe {B : Bs} {env : List (Option Sl)} {σ : Sg} {vs : List Nat} : ∀ b, B.W (wipeE env vs) (wipe σ vs) b → B.W env σ b := fun b hb => by
  rcases hb with hb | ⟨j, sl', e1, e2, e3⟩
  · exact .inl hb
  · exact .inr ⟨j, sl', (wipeE_some e1).1, e2, (wipe_some e3).1⟩
theorem StOk.wipe {B : Bs} {σ : Sg} {H : Hp} {s : S} (k : StOk B σ H s) (vs : List Nat) : StOk B (wipe σ vs) H { s with env := wipeE s.env vs } where
  len := by rw [wipe_length]; exact (wipeE_len _ _).trans k.len
  val := fun i d h => by
    obtain ⟨h1, h2⟩ := wipeE_some h
    obtain ⟨v, h3, h4⟩ := k.val i d h1
    exact ⟨v, by rw [wipe_get h2]; exact h3, h4.ev (Ev.less W_wipe)⟩
  own := fun i sl h ho => by
    obtain ⟨h1, h2⟩ := wipeE_some h
    obtain ⟨a, o, h3, h4, h5, h6⟩ := k.own i sl h1 ho
    exact ⟨a, o, by rw [wipe_get h2]; exact h3, h4, h5.ev (Ev.less W_wipe), h6⟩
  sep := fun i j sl sl' a h1 o1 h2 o2 q1 q2 => k.sep i j sl sl' a (wipeE_some h1).1 o1 (wipeE_some h2).1 o2 (wipe_some q1).1 (wipe_some q2).1
  src := k.src
  keep := k.keep
  wc := k.wc
  wp := k.wp
  wcc := k.wcc
def Bs.plusO (B : Bs) (a : Addr) (o : HO) : Bs := { B with Wc := fun b => B.Wc b ∨ b = a, H0 := upd B.H0 a o }
theorem StOk.grow {B : Bs} {σ : Sg} {H : Hp} {s : S} {a : Addr} {o o' : HO} (k : StOk (B.plusO a o) σ H s) (h1 : a ≠ B.p) (h2 : a ≠ B.c) (nt : NoTup o' := by intro _ z; cases z) : StOk (B.plusO a o') σ (upd H a o') s ∧ Ev ((B.plus a).W s.env σ) H ((B.plus a).W s.env σ) (upd H a o') := by
  have ev : Ev ((B.plus a).W s.env σ) H ((B.plus a).W s.env σ) (upd H a o') := fun b x e n => by
    have : b ≠ a := fun z => n (.inl (.inr z))
    exact ⟨by rw [upd_ne this]; exact e, n⟩
  refine ⟨⟨k.len, fun i d h => ?_, fun i sl h ho => ?_, k.sep, ⟨?_, ?_⟩, fun b x e n1 n2 => ?_, fun b h => ?_, k.wp, k.wcc⟩, ev⟩
  · obtain ⟨v, q1, q2⟩ := k.val i d h
    exact ⟨v, q1, Rp.ev ev _ _ q2⟩
  · obtain ⟨b, x, q1, q2, q3, q4, q5⟩ := k.own i sl h ho
    have hb : b ≠ a := fun z => q5 (.inr z)
    refine ⟨b, x, q1, by rw [upd_ne hb]; exact q2, OwnR.ev ev _ _ q3, ?_, q5⟩
    have q4 : upd B.H0 a o b = none := q4
    show upd B.H0 a o' b = none
    rw [upd_ne hb] at q4 ⊢; exact q4
  · show upd H a o' B.p = _
    rw [upd_ne (Ne.symm h1)]; exact k.src.d
  · show upd H a o' B.c = _
    rw [upd_ne (Ne.symm h2)]; exact k.src.l
  · have e : upd B.H0 a o' b = some x := e
    by_cases z : b = a
    · subst z; rw [upd_same] at e ⊢; exact e
    · rw [upd_ne z] at e ⊢
      exact k.keep b x (by show upd B.H0 a o b = _; rw [upd_ne z]; exact e) n1 n2
  · by_cases z : b = a
    · subst z; exact ⟨o', upd_same, nt⟩
    · rw [upd_ne z]; exact k.wc b h
theorem StOk.begin {B : Bs} {σ : Sg} {H : Hp} {s : S} {a : Addr} {o : HO} (k : StOk B σ H s) (n : H a = none) (nt : NoTup o := by intro _ z; cases z) : StOk (B.plusO a o) σ (upd H a o) s ∧ Ev (B.W s.env σ) H ((B.plus a).W s.env σ) (upd H a o) := by
  obtain ⟨k', ev⟩ := k.plus (o := o) n nt
  refine ⟨⟨k'.len, k'.val, fun i sl h ho => ?_, k'.sep, k'.src, fun b x e n1 n2 => ?_, k'.wc, k'.wp, k'.wcc⟩, ev⟩
  · obtain ⟨b, x, q1, q2, q3, q4, q5⟩ := k'.own i sl h ho
    exact ⟨b, x, q1, q2, q3, by show upd B.H0 a o b = none; rw [upd_ne (fun z => q5 (.inr z))]; exact q4, q5⟩
  · have e : upd B.H0 a o b = some x := e
    by_cases z : b = a
    · subst z; rw [upd_same] at e ⊢; exact e
    · rw [upd_ne z] at e
      exact k'.keep b x e n1 n2
theorem StOk.finish {B : Bs} {σ : Sg} {H : Hp} {s : S} {a : Addr} {o : HO} (k : StOk (B.plusO a o) σ H s) (n : B.H0 a = none) : StOk (B.plus a) σ H s where
  len := k.len
  val := k.val
  own := fun i sl h ho => by
    obtain ⟨b, x, q1, q2, q3, q4, q5⟩ := k.own i sl h ho
    have q4 : upd B.H0 a o b = none := q4
    rw [upd_ne (fun z => q5 (.inr z))] at q4
    exact ⟨b, x, q1, q2, q3, q4, q5⟩
  sep := k.sep
  src := k.src
  keep := fun b x e n1 n2 => k.keep b x (by show upd B.H0 a o b = _; rw [upd_ne (ne_of_none e n)]; exact e) n1 n2
  wc := k.wc
  wp := k.wp
  wcc := k.wcc

def cStep (vs : List Nat) (g : D → M Unit) (c : M Bool) (el : M D) (d : D) : M (Option D) := fun s =>
  (bnd (g d) fun _ => bnd c fun b => if b = true then bnd el fun y => ret (some y) else ret none) { s with env := wipeE s.env vs }
def compF (vs : List Nat) (g : D → M Unit) (c : M Bool) (el : M D) : List D → M (List D)
  | [] => ret []
  | d :: r => bnd (cStep vs g c el d) fun o => bnd (compF vs g c el r) fun ys => ret (o.toList ++ ys)
def restE (env0 env : List (Option Sl)) : List Nat → List (Option Sl)
  | [] => env
  | v :: vs => (restE env0 env vs).set v (match env0[v]? with
    | some (some (.val d)) => some (.val d)
    | _ => none)
def eComp (vs : List Nat) (g : D → M Unit) (c : M Bool) (el : M D) (it : M (List D)) : M (List D) := bnd it fun ds s1 =>
  if ds.length ≤ sizeLine then (match compF vs g c el ds s1 with
    | some (ys, sn) => some (ys, { sn with env := restE s1.env sn.env vs })
    | none => none) else none
theorem restE_len (env0 env : List (Option Sl)) : ∀ vs, (restE env0 env vs).length = env.length
  | [] => rfl
  | v :: vs => by unfold restE; rw [List.length_set, restE_len env0 env vs]
theorem restE_get {env0 env : List (Option Sl)} {i : Nat} {x : Sl} : ∀ {vs : List Nat}, (restE env0 env vs)[i]? = some (some x) → (i ∉ vs ∧ env[i]? = some (some x)) ∨ (i ∈ vs ∧ env0[i]? = some (some x) ∧ ∃ d, x = .val d)
  | [], h => .inl ⟨by simp, h⟩
  | v :: vs, h => by
    unfold restE at h
    by_cases hi : v = i
    · subst hi
      by_cases hv : v < (restE env0 env vs).length
      · rw [List.getElem?_set_self hv] at h
        split at h
        · rename_i d hd
          cases h
          exact .inr ⟨List.mem_cons_self, hd, d, rfl⟩
        · cases h
      · rw [List.getElem?_eq_none (by simpa using hv)] at h; cases h
    · rw [List.getElem?_set_ne hi] at h
      rcases restE_get h with ⟨h1, h2⟩ | ⟨h1, h2⟩
      · exact .inl ⟨by simp only [List.mem_cons, not_or]; exact ⟨fun e => hi e.symm, h1⟩, h2⟩
      · exact .inr ⟨List.mem_cons_of_mem _ h1, h2⟩
def tIx (m : M D) : TE := fun σ H Q => ∃ B, tI B m σ H Q
def tTx (m : M Bool) : TT := fun σ H Q => ∃ B, tT B m σ H Q
def tGx (is : List Nat) (g : D → M Unit) : TG := fun v σ H Q => ∃ B, tG B is g v σ H Q
theorem SE.px {X : Cx} {e : Expr} {m : M D} (h : SE X e m) : PE X e (tIx m) := ⟨fun pins s σ H Q I ⟨B, q⟩ => (h.pe B).run pins s σ H Q I q⟩
theorem SG.px {X : Cx} {e : Expr} {is : List Nat} {g : D → M Unit} (h : SG X e is g) : PG X e (tGx is g) := ⟨fun pins s σ H v u Q I r ⟨B, q⟩ => (h.pg B).run pins s σ H v u Q I r q⟩
structure SF (X : Cx) (ifs : List Expr) (m : M Bool) : Prop where
  pt : PTs X ifs (tTx m)
theorem f_nil {X : Cx} : SF X [] (ret true) := ⟨⟨fun pins s σ H Q I ⟨B, s0, b, s1, k, e, q⟩ => by
  obtain ⟨rfl, rfl⟩ := ret_some e
  exact pts_nil.run pins s σ H Q I (q H k Ev.refl)⟩⟩
theorem f_one {X : Cx} {c : Expr} {m : M Bool} (h : ST X c m) : SF X [c] m := ⟨⟨fun pins s σ H Q I ⟨B, q⟩ => (pts_one (h.pt B)).run pins s σ H Q I q⟩⟩

theorem lc_go {B : Bs} {vs is : List Nat} {g : D → M Unit} {c : M Bool} {el : M D} {it : M (List D)} {σ : Sg} {H : Hp} {Q : VK} (hin : ∀ i ∈ is, i ∈ vs) (h : tL B (eComp vs g c el it) σ H Q) :
    tLc (tIt B it) (tGx is g) (tTx c) (tIx el) vs σ H Q := by
  obtain ⟨s, out, sE, k, e, q⟩ := h
  obtain ⟨ds, s1, e1, e2⟩ := bnd_some e
  refine ⟨s, ds, s1, k, e1, fun J H1 k1 ev1 wk => ?_⟩
  split at e2
  case isFalse => cases e2
  rename_i hsz
  split at e2
  case h_2 => cases e2
  rename_i ys sn eF
  cases e2
  intro A nA
  have nA0 := k1.new nA
  have hAp : A ≠ B.p := fun z => by subst z; rw [k1.src.d] at nA; cases nA
  have hAc : A ≠ B.c := fun z => by subst z; rw [k1.src.l] at nA; cases nA
  obtain ⟨kb, evb⟩ := k1.begin (o := .lst []) nA
  have kw := kb.wipe vs
  have evw : Ev (B.W s1.env σ) H1 ((B.plus A).W (wipeE s1.env vs) (wipe σ vs)) (upd H1 A (.lst [])) := evb.trans (Ev.less (W_wipe (B := B.plus A)))
  refine ⟨fun i m Hh => m = ds.length - i ∧ i ≤ ds.length ∧ ∃ si acc zs rest, StOk (B.plusO A (.lst acc)) (wipe σ vs) Hh { si with env := wipeE si.env vs } ∧ Ev (B.W s1.env σ) H1 ((B.plus A).W (wipeE si.env vs) (wipe σ vs)) Hh ∧
    Hh A = some (.lst acc) ∧ Rps B.p ((B.plus A).W (wipeE si.env vs) (wipe σ vs)) Hh zs acc ∧ acc.length ≤ i ∧ compF vs g c el (ds.drop i) si = some (rest, sn) ∧ out = zs ++ rest,
    ⟨ds.length, by simp, Nat.zero_le _, s1, [], [], out, kw, evw, upd_same, .nil, Nat.le_refl _, eF, rfl⟩, ?_⟩
  rintro i m Hh ⟨rfl, hi, si, acc, zs, rest, ki, evi, hA, ri, hlen, eR, rfl⟩
  obtain ⟨w1, w2, w3⟩ := wk _ _ evi ki.wt
  by_cases hlt : i < ds.length
  · refine .inr ⟨w1 i hlt, _, fun H' hN => ⟨ds.length - (i + 1), by omega, hN⟩, fun x H' y => ?_⟩
    have hd : ds[i]? = some ds[i] := List.getElem?_eq_getElem hlt
    obtain ⟨sm, rx⟩ := w3 i _ x H' hd y
    rw [List.drop_eq_getElem_cons hlt] at eR
    obtain ⟨o, s2, eS, eR⟩ := bnd_some eR
    obtain ⟨rs, s3, eR2, e3⟩ := bnd_some eR
    obtain ⟨e4, rfl⟩ := ret_some e3
    obtain ⟨_, s4, eg, eS⟩ := bnd_some eS
    obtain ⟨b, s5, ec, eS⟩ := bnd_some eS
    have k1' := ki.same sm
    have ev' : Ev (B.W s1.env σ) H1 ((B.plus A).W (wipeE si.env vs) (wipe σ vs)) H' := evi.trans (Ev.same sm)
    refine ⟨B.plusO A (.lst acc), { si with env := wipeE si.env vs }, ds[i], s4, k1', rx, eg, fun σ2 k2 ev2 wp => ?_⟩
    have hw : wipe σ2 vs = wipe σ vs := by rw [wp vs hin, wipe_wipe]
    refine ⟨hw, B.plusO A (.lst acc), s4, b, s5, k2, ec, fun H3 k3 ev3 => ?_⟩
    have evA : Ev ((B.plus A).W (wipeE si.env vs) (wipe σ vs)) H' ((B.plus A).W s5.env σ2) H3 := Ev.trans ev2 ev3
    have smA : Ev ((B.plus A).W (wipeE si.env vs) (wipe σ vs)) Hh ((B.plus A).W (wipeE si.env vs) (wipe σ vs)) H' := Ev.same sm
    cases b with
    | true =>
      obtain ⟨y', s6, ee, eS⟩ := bnd_some eS
      obtain ⟨rfl, rfl⟩ := ret_some eS
      refine ⟨B.plusO A (.lst acc), s5, y', s2, k3, ee, fun v H4 k4 ev4 r4 => ?_⟩
      have hA4 : H4 A = some (.lst acc) := k4.keep A _ upd_same hAp hAc
      have kw4 := k4.wipe vs
      rw [hw] at kw4
      obtain ⟨kg, evg⟩ := kw4.grow (o' := .lst (acc ++ [v])) hAp hAc
      have wl : Ev ((B.plus A).W s2.env σ2) H4 ((B.plus A).W (wipeE s2.env vs) (wipe σ vs)) H4 := by
        rw [← hw]; exact Ev.less (W_wipe (B := B.plus A))
      have evT : Ev ((B.plus A).W (wipeE si.env vs) (wipe σ vs)) Hh ((B.plus A).W (wipeE s2.env vs) (wipe σ vs)) (upd H4 A (.lst (acc ++ [v]))) :=
        smA.trans (evA.trans (Ev.trans ev4 (wl.trans evg)))
      refine ⟨acc, hA4, by omega, rfl, hlt, s2, acc ++ [v], zs ++ [y'], rs, kg, evi.trans evT, upd_same, ?_, by simp; omega, eR2, by rw [e4]; simp⟩
      exact (ri.ev evT).append (.cons (Rp.ev (wl.trans evg) _ _ r4) .nil)
    | false =>
      obtain ⟨rfl, rfl⟩ := ret_some eS
      have kw3 := k3.wipe vs
      rw [hw] at kw3
      have wl : Ev ((B.plus A).W s2.env σ2) H3 ((B.plus A).W (wipeE s2.env vs) (wipe σ vs)) H3 := by
        rw [← hw]; exact Ev.less (W_wipe (B := B.plus A))
      have evT : Ev ((B.plus A).W (wipeE si.env vs) (wipe σ vs)) Hh ((B.plus A).W (wipeE s2.env vs) (wipe σ vs)) H3 := smA.trans (evA.trans wl)
      have hA3 : H3 A = some (.lst acc) := k3.keep A _ upd_same hAp hAc
      exact ⟨rfl, hlt, s2, acc, zs, rs, kw3, evi.trans evT, hA3, ri.ev evT, by omega, eR2, by rw [e4]; simp⟩
  · have hn : i = ds.length := by omega
    subst hn
    rw [List.drop_length] at eR
    obtain ⟨rfl, e5⟩ := ret_some eR
    subst e5
    refine .inl ⟨w2, ?_⟩
    have kf := ki.finish nA0
    have sub : ∀ b, (B.plus A).W (restE s1.env sn.env vs) σ b → (B.plus A).W (wipeE sn.env vs) (wipe σ vs) b := fun b hb => by
      rcases hb with hb | ⟨j, sl, h1, h2, h3⟩
      · exact .inl hb
      · rcases restE_get h1 with ⟨n1, h4⟩ | ⟨_, _, d, rfl⟩
        · exact .inr ⟨j, sl, by rw [wipeE_get n1]; exact h4, h2, by rw [wipe_get n1]; exact h3⟩
        · cases h2
    have evf : Ev ((B.plus A).W (wipeE sn.env vs) (wipe σ vs)) Hh ((B.plus A).W (restE s1.env sn.env vs) σ) Hh := Ev.less sub
    have kR : StOk (B.plus A) σ Hh { sn with env := restE s1.env sn.env vs } := by
      refine ⟨?_, fun j d h => ?_, fun j sl h ho => ?_, fun j1 j2 sl1 sl2 b h1 o1 h2 o2 q1 q2 => ?_, kf.src, kf.keep, kf.wc, kf.wp, kf.wcc⟩
      · have := kf.len
        rw [wipe_length] at this
        show (restE s1.env sn.env vs).length = _
        rw [restE_len, ← this]
        exact (wipeE_len _ _).symm
      · rcases restE_get h with ⟨n1, h4⟩ | ⟨n1, h4, _⟩
        · obtain ⟨v, h5, h6⟩ := kf.val j d (by show (wipeE sn.env vs)[j]? = _; rw [wipeE_get n1]; exact h4)
          rw [wipe_get n1] at h5
          exact ⟨v, h5, h6.ev evf⟩
        · obtain ⟨v, h5, h6⟩ := k1.val j d h4
          exact ⟨v, h5, Rp.ev (evi.trans evf) _ _ h6⟩
      · rcases restE_get h with ⟨n1, h4⟩ | ⟨_, _, d, rfl⟩
        · obtain ⟨b, o, h5, h6, h7, h8⟩ := kf.own j sl (by show (wipeE sn.env vs)[j]? = _; rw [wipeE_get n1]; exact h4) ho
          rw [wipe_get n1] at h5
          exact ⟨b, o, h5, h6, h7.ev evf, h8⟩
        · cases ho
      · rcases restE_get h1 with ⟨n1, h4⟩ | ⟨_, _, d, rfl⟩
        · rcases restE_get h2 with ⟨n2, h5⟩ | ⟨_, _, d, rfl⟩
          · exact kf.sep j1 j2 sl1 sl2 b (by show (wipeE sn.env vs)[j1]? = _; rw [wipeE_get n1]; exact h4) o1 (by show (wipeE sn.env vs)[j2]? = _; rw [wipeE_get n2]; exact h5) o2 (by rw [wipe_get n1]; exact q1) (by rw [wipe_get n2]; exact q2)
          · cases o2
        · cases o1
    refine q A acc Hh kR (ev1.trans (evi.trans evf)) nA0 ?_ hA (by simpa using ri.ev evf)
    rintro (z | ⟨j, sl, h1, h2, h3⟩)
    · obtain ⟨o, ho, _⟩ := k1.wc A z
      rw [nA] at ho; cases ho
    · obtain ⟨b, o, h5, _, _, _, h8⟩ := kR.own j sl h1 h2
      rw [h3] at h5; cases h5
      exact h8 (.inr rfl)
end GH

namespace GH
open PySem PySem.Spec PyProof.Rows L2

inductive Out where
  | nx | ret (d : D) | brk | cnt
def Post (B : Bs) (D : Ends) (W0 : AP) (H0 : Hp) : Out → S → Prop
  | .nx, s' => ∀ σ' H', StOk B σ' H' s' → Ev W0 H0 (B.W s'.env σ') H' → D.nx σ' H'
  | .brk, s' => ∀ σ' H', StOk B σ' H' s' → Ev W0 H0 (B.W s'.env σ') H' → D.bk σ' H'
  | .cnt, s' => ∀ σ' H', StOk B σ' H' s' → Ev W0 H0 (B.W s'.env σ') H' → D.ct σ' H'
  | .ret d, s' => ∀ v σ' H', StOk B σ' H' s' → Ev W0 H0 (B.W s'.env σ') H' → Rp B.p (B.W s'.env σ') H' d v → D.rt v H'
theorem Post.ev {B : Bs} {D : Ends} {W0 W1 : AP} {H0 H1 : Hp} {s' : S} (e : Ev W0 H0 W1 H1) : ∀ {o : Out}, Post B D W0 H0 o s' → Post B D W1 H1 o s'
  | .nx, h => fun σ' H' k e' => h σ' H' k (e.trans e')
  | .brk, h => fun σ' H' k e' => h σ' H' k (e.trans e')
  | .cnt, h => fun σ' H' k e' => h σ' H' k (e.trans e')
  | .ret _, h => fun v σ' H' k e' r => h v σ' H' k (e.trans e') r
def tS (B : Bs) (m : M Out) : TS := fun D σ H => ∃ s o s', StOk B σ H s ∧ m s = some (o, s') ∧ Post B D (B.W s.env σ) H o s'
structure SS (X : Cx) (st : Stmt) (m : M Out) : Prop where
  ps : ∀ B, PS X st (tS B m)
structure SSs (X : Cx) (st : List Stmt) (m : M Out) : Prop where
  ps : ∀ B, PSs X st (tS B m)

section
variable {X : Cx} {st : Stmt} {rest : List Stmt} {e c a b : Expr} {pos : Pos} {m n : M Out} {me ma mb : M D} {mt : M Bool}
def sNx : M Out := ret .nx
def sSeq (m n : M Out) : M Out := bnd m fun o => match o with
  | .nx => n
  | o => ret o
theorem ss_nil : SSs X [] sNx := ⟨fun B => PSs.imp pss_nil fun D σ H ⟨s, o, s', k, e, q⟩ => by
  obtain ⟨rfl, rfl⟩ := ret_some e
  exact q σ H k Ev.refl⟩
theorem ss_cons (h1 : SS X st m) (h2 : SSs X rest n) : SSs X (st :: rest) (sSeq m n) := ⟨fun B => PSs.imp (pss_cons (h1.ps B) (h2.ps B)) fun D σ H ⟨s, o, s', k, e, q⟩ => by
  obtain ⟨o1, s1, e1, e2⟩ := bnd_some e
  refine ⟨s, o1, s1, k, e1, ?_⟩
  cases o1 with
  | nx => exact fun σ' H' k' ev => ⟨s1, o, s', k', e2, q.ev ev⟩
  | ret d => obtain ⟨rfl, rfl⟩ := ret_some e2; exact q
  | brk => obtain ⟨rfl, rfl⟩ := ret_some e2; exact q
  | cnt => obtain ⟨rfl, rfl⟩ := ret_some e2; exact q⟩
theorem ss_one (h1 : SS X st m) : SSs X [st] m := ⟨fun B => pss_one (h1.ps B)⟩
def sRet (m : M D) : M Out := bnd m fun d => ret (.ret d)
theorem s_ret (h : SE X e me) : SS X (.Return (some e) pos) (sRet me) := ⟨fun B => PS.imp (ps_ret (h.pe B)) fun D σ H ⟨s, o, s', k, e, q⟩ => by
  refine tI.bind k e fun d s1 v H1 h1 e1 k1 ev1 r1 => ?_
  obtain ⟨rfl, rfl⟩ := ret_some e1
  exact q v σ H1 k1 ev1 r1⟩
def sIf (t : M Bool) (m n : M Out) : M Out := bnd t fun b => if b = true then m else n
theorem s_ifS {p q : List Stmt} (hc : ST X c mt) (ha : SSs X p m) (hb : SSs X q n) : SS X (.If c p q pos) (sIf mt m n) := ⟨fun B => PS.imp (ps_if (hc.pt B) (ha.ps B) (hb.ps B)) fun D σ H ⟨s, o, s', k, e, q⟩ => by
  refine tT.bind k e fun t s1 H1 h1 e1 k1 ev1 => ?_
  cases t with
  | true => exact ⟨s1, o, s', k1, e1, q.ev ev1⟩
  | false => exact ⟨s1, o, s', k1, e1, q.ev ev1⟩⟩
def sExpr (m : M D) : M Out := bnd m fun _ => ret .nx
theorem s_expr (h : SE X e me) (hs : swapsWith e none pos.line X.env = pure false := by rfl) : SS X (.Expr e pos) (sExpr me) := ⟨fun B => PS.imp (ps_expr (h.pe B) hs) fun D σ H ⟨s, o, s', k, e, q⟩ => by
  refine tI.bind k e fun d s1 v H1 h1 e1 k1 ev1 r1 => ?_
  obtain ⟨rfl, rfl⟩ := ret_some e1
  exact q σ H1 k1 ev1⟩

def sAsg (m : M D) (g : D → M Unit) : M Out := bnd m fun d => bnd (g d) fun _ => ret .nx
theorem asg_go {B : Bs} {Dn : Ends} {σ : Sg} {H : Hp} {is : List Nat} {g : D → M Unit} {t : TE} {u : TG} (ht : ∀ σ H Q, tI B me σ H Q → t σ H Q) (hu : ∀ v σ H Q, tG B is g v σ H Q → u v σ H Q) (h : tS B (sAsg me g) Dn σ H) : tAsg t u Dn σ H := by
  obtain ⟨s, o, s', k, e, q⟩ := h
  obtain ⟨d, s1, e1, e2⟩ := bnd_some e
  refine ht _ _ _ ⟨s, d, s1, k, e1, fun v H1 k1 ev1 r1 => ?_⟩
  obtain ⟨_, s2, e3, e4⟩ := bnd_some e2
  obtain ⟨rfl, rfl⟩ := ret_some e4
  exact hu _ _ _ _ ⟨s1, d, s', k1, r1, e3, fun σ' k2 ev2 _ => q σ' H1 k2 (ev1.trans ev2)⟩
theorem tG_name {B : Bs} {i : Nat} : ∀ v σ H Q, tG B [i] (gN i) v σ H Q → gName i v σ H Q := fun v σ H Q ⟨s, d, s', k, r, e, q⟩ => by
  unfold gN at e
  split at e
  · rename_i hl
    cases e
    obtain ⟨k', ev⟩ := k.set hl r
    exact q _ k' ev fun vs h => wipe_set_mem (h i (by simp))
  · cases e
def sSet (i : Nat) (m : M D) : M Out := sAsg m (gN i)
theorem s_set {i : Nat} {x : Str} {pos' : Pos} (hN : X.N.Nodup) (hi : X.N[i]? = some x) (hx : Loc X.env.scope x) (he : SE X e me) (hs : swapsWith e (some (.Name x pos')) pos.line X.env = pure false := by rfl)
    (hf : X.fn x = true ∨ X.env.scope.names.lookup x = some .local := by first | exact .inl rfl | exact .inr rfl | assumption) : SS X (.Assign [.Name x pos'] e pos) (sSet i me) :=
  ⟨fun B => PS.imp (ps_set hN hi hx (he.pe B) hs hf) fun D σ H h => asg_go (fun _ _ _ z => z) tG_name h⟩

def eLst (ml : M (List D)) : M D := bnd ml fun ds => ret (.lst ds)
theorem tL_tI {B : Bs} {ml : M (List D)} {σ : Sg} {H : Hp} {Q : VK} (h : tI B (eLst ml) σ H Q) : tL B ml σ H Q := by
  obtain ⟨s, d, s', k, e, q⟩ := h
  obtain ⟨ds, s1, e1, e2⟩ := bnd_some e
  obtain ⟨rfl, rfl⟩ := ret_some e2
  refine ⟨s, ds, s', k, e1, fun a vs H' k' ev n nw ha r => ?_⟩
  have ev2 : Ev ((B.plus a).W s'.env σ) H' (B.W s'.env σ) H' := Ev.less fun b hb => hb.elim (fun z => .inl (.inl z)) fun z => .inr z
  refine q _ H' ⟨k'.len, fun i d h => ?_, fun i sl h ho => ?_, k'.sep, k'.src, k'.keep, fun b h => k'.wc b (.inl h), ?_, ?_⟩ (ev.trans ev2) (.mkLst nw ha (r.ev ev2))
  · obtain ⟨v, h1, h2⟩ := k'.val i d h
    exact ⟨v, h1, Rp.ev ev2 _ _ h2⟩
  · obtain ⟨b, o, h1, h2, h3, h4, h5⟩ := k'.own i sl h ho
    exact ⟨b, o, h1, h2, OwnR.ev ev2 _ _ h3, h4, fun z => h5 (.inl z)⟩
  · exact k.wp
  · exact k.wcc
theorem s_ofL {ml : M (List D)} (h : SL X e ml) : SE X e (eLst ml) := ⟨fun B => PE.imp (h.pe B) fun σ H Q z => tL_tI z⟩
theorem StOk.putOwnS {B : Bs} {σ : Sg} {H : Hp} {s : S} {i : Nat} {a : Addr} {o : HO} {sl : Sl} (k : StOk (B.plus a) σ H s) (hi : i < s.env.length) (hso : sl.isOwn = true) (n : B.H0 a = none) (nc : ¬ B.W s.env σ a) (wp : B.Wc B.p) (wcc : B.Wc B.c) (ha : H a = some o) (r : OwnR B.p ((B.plus a).W s.env σ) H sl o) :
    StOk B (σ.set i (some (.ref a))) H { s with env := s.env.set i (some sl) } ∧ Ev ((B.plus a).W s.env σ) H (B.W (s.env.set i (some sl)) (σ.set i (some (.ref a)))) H := by
  have hiσ : i < σ.length := by rw [← k.len]; exact hi
  have sub : ∀ b, B.W (s.env.set i (some sl)) (σ.set i (some (.ref a))) b → (B.plus a).W s.env σ b := fun b hb => by
    rcases hb with hb | ⟨j, sl', e1, e2, e3⟩
    · exact .inl (.inl hb)
    · by_cases hj : i = j
      · subst hj
        rw [List.getElem?_set_self hiσ] at e3
        cases e3
        exact .inl (.inr rfl)
      · rw [List.getElem?_set_ne hj] at e1 e3
        exact .inr ⟨j, sl', e1, e2, e3⟩
  have ev : Ev ((B.plus a).W s.env σ) H (B.W (s.env.set i (some sl)) (σ.set i (some (.ref a)))) H := Ev.less sub
  have other : ∀ j sl b, i ≠ j → s.env[j]? = some (some sl) → sl.isOwn = true → σ[j]? = some (some (.ref b)) → b ≠ a := fun j sl b _ h1 h2 h3 z => by
    obtain ⟨b', o, q1, _, _, _, q5⟩ := k.own j sl h1 h2
    rw [h3] at q1; cases q1
    exact q5 (.inr z)
  refine ⟨⟨by simpa using k.len, fun j d' h => ?_, fun j sl' h h' => ?_, fun j1 j2 sl1 sl2 b h1 o1 h2 o2 q1 q2 => ?_, k.src, k.keep, fun b h => k.wc b (.inl h), wp, wcc⟩, ev⟩
  · have h : (s.env.set i (some sl))[j]? = _ := h
    by_cases hj : i = j
    · subst hj
      rw [List.getElem?_set_self hi] at h
      cases h; cases hso
    · rw [List.getElem?_set_ne hj] at h ⊢
      obtain ⟨v, h1, h2⟩ := k.val j d' h
      exact ⟨v, h1, Rp.ev ev _ _ h2⟩
  · have h : (s.env.set i (some sl))[j]? = _ := h
    by_cases hj : i = j
    · subst hj
      rw [List.getElem?_set_self hi] at h
      cases h
      exact ⟨a, _, List.getElem?_set_self hiσ, ha, OwnR.ev ev _ _ r, n, fun z => nc (.inl z)⟩
    · rw [List.getElem?_set_ne hj] at h ⊢
      obtain ⟨b, o, h1, h2, h3, h4, h5⟩ := k.own j sl' h h'
      exact ⟨b, o, h1, h2, OwnR.ev ev _ _ h3, h4, fun z => h5 (.inl z)⟩
  · have h1 : (s.env.set i (some sl))[j1]? = _ := h1
    have h2 : (s.env.set i (some sl))[j2]? = _ := h2
    by_cases e1 : i = j1
    · subst e1
      by_cases e2 : i = j2
      · exact e2
      · rw [List.getElem?_set_self hiσ] at q1
        cases q1
        rw [List.getElem?_set_ne e2] at h2 q2
        exact absurd rfl (other j2 sl2 _ e2 h2 o2 q2)
    · by_cases e2 : i = j2
      · subst e2
        rw [List.getElem?_set_self hiσ] at q2
        cases q2
        rw [List.getElem?_set_ne e1] at h1 q1
        exact absurd rfl (other j1 sl1 _ e1 h1 o1 q1)
      · rw [List.getElem?_set_ne e1] at h1 q1
        rw [List.getElem?_set_ne e2] at h2 q2
        exact k.sep j1 j2 sl1 sl2 b h1 o1 h2 o2 q1 q2
theorem StOk.putOwn {B : Bs} {σ : Sg} {H : Hp} {s : S} {i : Nat} {a : Addr} {vs : List V} {ds : List D} (k : StOk (B.plus a) σ H s) (hi : i < s.env.length) (n : B.H0 a = none) (nc : ¬ B.W s.env σ a) (wp : B.Wc B.p) (wcc : B.Wc B.c) (ha : H a = some (.lst vs)) (r : Rps B.p ((B.plus a).W s.env σ) H ds vs) :
    StOk B (σ.set i (some (.ref a))) H { s with env := s.env.set i (some (.own ds)) } ∧ Ev ((B.plus a).W s.env σ) H (B.W (s.env.set i (some (.own ds))) (σ.set i (some (.ref a)))) H :=
  k.putOwnS (sl := .own ds) hi rfl n nc wp wcc ha ⟨vs, rfl, r⟩
def oN (i : Nat) : List D → M Unit := fun ds s => if i < s.env.length then some ((), { s with env := s.env.set i (some (.own ds)) }) else none
def sOwn (i : Nat) (ml : M (List D)) : M Out := bnd ml fun ds => bnd (oN i ds) fun _ => ret .nx
theorem own_go {B : Bs} {Dn : Ends} {σ : Sg} {H : Hp} {i : Nat} {ml : M (List D)} {t : TE} (ht : ∀ σ H Q, tL B ml σ H Q → t σ H Q) (h : tS B (sOwn i ml) Dn σ H) : tAsg t (gName i) Dn σ H := by
  obtain ⟨s, o, s', k, e, q⟩ := h
  obtain ⟨ds, s1, e1, e2⟩ := bnd_some e
  refine ht _ _ _ ⟨s, ds, s1, k, e1, fun a vs H1 k1 ev1 n nc ha r => ?_⟩
  obtain ⟨_, s2, e3, e4⟩ := bnd_some e2
  obtain ⟨rfl, rfl⟩ := ret_some e4
  unfold oN at e3
  split at e3
  · rename_i hl
    cases e3
    obtain ⟨k2, ev2⟩ := k1.putOwn hl n nc k.wp k.wcc ha r
    exact q _ H1 k2 (ev1.trans ev2)
  · cases e3
theorem s_own {i : Nat} {x : Str} {pos' : Pos} {ml : M (List D)} (hN : X.N.Nodup) (hi : X.N[i]? = some x) (hx : Loc X.env.scope x) (he : SL X e ml) (hs : swapsWith e (some (.Name x pos')) pos.line X.env = pure false := by rfl)
    (hf : X.fn x = true ∨ X.env.scope.names.lookup x = some .local := by first | exact .inl rfl | exact .inr rfl | assumption) : SS X (.Assign [.Name x pos'] e pos) (sOwn i ml) :=
  ⟨fun B => PS.imp (ps_set hN hi hx (he.pe B) hs hf) fun D σ H h => own_go (fun _ _ _ z => z) h⟩

section
variable {elt tg iter : Expr} {ifs : List Expr} {scope : Scope} {own : List (Str × Nat)} {g : D → M Unit} {mc : M Bool} {el : M D} {it : M (List D)} {is : List Nat}
structure CompOk (X : Cx) (elt tg : Expr) (ifs : List Expr) (scope : Scope) (own : List (Str × Nat)) (is : List Nat) (g : D → M Unit) (mc : M Bool) (el : M D) : Prop where
  calm : X.calm = true
  nd : X.N.Nodup
  ok : BlkOk X.N X.env.scope scope own
  sub : ∀ i ∈ is, i ∈ own.map (·.2)
  hg : ∀ (s : Shared) (H : Hp) (C : Addr) (cl : List (Str × Addr)) (fp : List Addr), SG (X.blk s H scope (compEnvC scope cl C X.env) fp) tg is g
  ht : ∀ (s : Shared) (H : Hp) (C : Addr) (cl : List (Str × Addr)) (fp : List Addr), SF (X.blk s H scope (compEnvC scope cl C X.env) fp) ifs mc
  he : ∀ (s : Shared) (H : Hp) (C : Addr) (cl : List (Str × Addr)) (fp : List Addr), SE (X.blk s H scope (compEnvC scope cl C X.env) fp) elt el
theorem l_comp (C : CompOk X elt tg ifs scope own is g mc el) (hi : SI X tg iter it) (hs : ∀ x, foldedSetIterable iter X.env x = pure x := by intro _; rfl) :
    SL X (.ListComp elt [⟨tg, iter, ifs, 0⟩] scope pos) (eComp (own.map (·.2)) g mc el it) :=
  ⟨fun B => PE.imp (pe_lc C.calm C.nd (hi.pi B) C.ok (fun s H c cl fp => (C.hg s H c cl fp).px) (fun s H c cl fp => (C.ht s H c cl fp).pt) (fun s H c cl fp => (C.he s H c cl fp).px) hs) fun σ H Q h => lc_go C.sub h⟩
theorem s_setLc {i : Nat} {y : Str} {py cpos : Pos} (hy : X.N[i]? = some y) (hyl : X.env.scope.names.lookup y = some .local) (hsw : swapsWith (.ListComp elt [⟨tg, iter, ifs, 0⟩] scope cpos) (some (.Name y py)) pos.line X.env = pure true)
    (C : CompOk X elt tg ifs scope own is g mc el) (hi : SI X tg iter it) (hs : ∀ x, foldedSetIterable iter X.env x = pure x := by intro _; rfl) :
    SS X (.Assign [.Name y py] (.ListComp elt [⟨tg, iter, ifs, 0⟩] scope cpos) pos) (sSet i (eLst (eComp (own.map (·.2)) g mc el it))) :=
  ⟨fun B => PS.imp (ps_setLc C.calm C.nd hy hyl hsw (hi.pi B) C.ok (fun s H c cl fp => (C.hg s H c cl fp).px) (fun s H c cl fp => (C.ht s H c cl fp).pt) (fun s H c cl fp => (C.he s H c cl fp).px) hs) fun D σ H h =>
    asg_go (fun _ _ _ z => lc_go C.sub (tL_tI z)) tG_name h⟩
end

def forM (g : D → M Unit) (b : M Out) : List D → M Out
  | [] => ret .nx
  | d :: r => bnd (g d) fun _ => bnd b fun o => match o with
    | .nx => forM g b r
    | .cnt => forM g b r
    | .brk => ret .nx
    | .ret d => ret (.ret d)
def sFor (it : M (List D)) (g : D → M Unit) (b : M Out) : M Out := bnd it fun ds => forM g b ds
theorem s_for {tg iter : Expr} {body : List Stmt} {it : M (List D)} {is : List Nat} {g : D → M Unit} (hp : PassesOwn (model X.prog X.w) X.A X.env X.xe) (hc : X.calm = true) (hi : SI X tg iter it) (hg : SG X tg is g) (hb : SSs X body m)
    (hs : ∀ x, foldedSetIterable iter X.env x = pure x := by intro _; rfl) : SS X (.For tg iter body [] pos) (sFor it g m) := ⟨fun B => PS.imp (ps_for hp hc (hi.pi B) (hg.pg B) (hb.ps B) hs) fun D σ H ⟨s, o, s', k, e, q⟩ => by
  obtain ⟨ds, s1, e1, e2⟩ := bnd_some e
  refine ⟨s, ds, s1, k, e1, fun J H1 k1 ev1 wk => ?_⟩
  refine ⟨fun i mm σi Hi => mm = ds.length - i ∧ i ≤ ds.length ∧ ∃ si, StOk B σi Hi si ∧ Ev (B.W s1.env σ) H1 (B.W si.env σi) Hi ∧ forM g m (ds.drop i) si = some (o, s'), ⟨ds.length, by simp, Nat.zero_le _, s1, k1, Ev.refl, e2⟩, ?_⟩
  rintro i mm σi Hi ⟨rfl, hi, si, ki, evi, eR⟩
  obtain ⟨w1, w2, w3⟩ := wk _ _ evi ki.wt
  by_cases hlt : i < ds.length
  · refine .inr ⟨w1 i hlt, _, fun σ' H' hN => ⟨ds.length - (i + 1), by omega, hN⟩, fun x H' y => ?_⟩
    obtain ⟨sm, rx⟩ := w3 i _ x H' (List.getElem?_eq_getElem hlt) y
    rw [List.drop_eq_getElem_cons hlt] at eR
    obtain ⟨_, s2, eg, eR⟩ := bnd_some eR
    obtain ⟨o2, s3, eb, eR⟩ := bnd_some eR
    refine ⟨si, ds[i], s2, ki.same sm, rx, eg, fun σ2 k2 ev2 _ => ⟨s2, o2, s3, k2, eb, ?_⟩⟩
    have evA : Ev (B.W s1.env σ) H1 (B.W s2.env σ2) H' := evi.trans ((Ev.same sm).trans ev2)
    cases o2 with
    | nx => exact fun σ' H'' k' ev' => ⟨rfl, hlt, s3, k', evA.trans ev', eR⟩
    | cnt => exact fun σ' H'' k' ev' => ⟨rfl, hlt, s3, k', evA.trans ev', eR⟩
    | brk => obtain ⟨rfl, rfl⟩ := ret_some eR; exact fun σ' H'' k' ev' => q σ' H'' k' (ev1.trans (evA.trans ev'))
    | ret d => obtain ⟨rfl, rfl⟩ := ret_some eR; exact fun v σ' H'' k' ev' r => q v σ' H'' k' (ev1.trans (evA.trans ev')) r
  · have hn : i = ds.length := by omega
    subst hn
    rw [List.drop_length] at eR
    obtain ⟨rfl, rfl⟩ := ret_some eR
    exact .inl ⟨w2, q σi Hi ki (ev1.trans evi)⟩⟩

def whF (c : M Bool) (b : M Out) : Nat → M Out
  | 0 => fail
  | n + 1 => bnd c fun t => if t = true then bnd b fun o => match o with
      | .nx => whF c b n
      | .cnt => whF c b n
      | .brk => ret .nx
      | .ret d => ret (.ret d)
    else ret .nx
open Classical in
noncomputable def sWhile (c : M Bool) (b : M Out) : M Out := fun s => if h : ∃ n r, whF c b n s = some r then some h.choose_spec.choose else none
theorem whF_mono {c : M Bool} {b : M Out} : ∀ {n k : Nat} {s : S} {r : Out × S}, whF c b n s = some r → whF c b (n + k) s = some r
  | 0, _, _, _, h => by simp [whF, fail] at h
  | n + 1, k, s, r, h => by
    rw [show n + 1 + k = (n + k) + 1 by omega]
    obtain ⟨o, s'⟩ := r
    obtain ⟨t, s1, hc, h⟩ := bnd_some h
    refine (bnd_eq hc).trans ?_
    cases t with
    | false => exact h
    | true =>
      obtain ⟨o2, s2, hb, h⟩ := bnd_some h
      refine (bnd_eq hb).trans ?_
      cases o2 with
      | nx => exact whF_mono (n := n) h
      | cnt => exact whF_mono (n := n) h
      | brk => exact h
      | ret d => exact h
theorem sWhile_of {c : M Bool} {b : M Out} {n : Nat} {s : S} {r : Out × S} (h : whF c b n s = some r) : sWhile c b s = some r := by
  have ex : ∃ n r, whF c b n s = some r := ⟨n, r, h⟩
  unfold sWhile
  rw [dif_pos ex]
  have h1 := whF_mono (k := n) ex.choose_spec.choose_spec
  have h2 := whF_mono (k := ex.choose) h
  rw [Nat.add_comm] at h2
  rw [h2] at h1
  exact h1.symm ▸ rfl
theorem sWhile_some {c : M Bool} {b : M Out} {s : S} {r : Out × S} (h : sWhile c b s = some r) : ∃ n, whF c b n s = some r := by
  unfold sWhile at h
  split at h
  · rename_i ex
    have e : ex.choose_spec.choose = r := Option.some.inj h
    rw [← e]
    exact ⟨ex.choose, ex.choose_spec.choose_spec⟩
  · cases h
theorem s_while {body : List Stmt} (hp : PassesOwn (model X.prog X.w) X.A X.env X.xe) (hc : ST X c mt) (hb : SSs X body m) : SS X (.While c body [] pos) (sWhile mt m) := ⟨fun B => PS.imp (ps_while hp (hc.pt B) (hb.ps B)) fun D σ H ⟨s, o, s', k, e, q⟩ => by
  obtain ⟨n, e⟩ := sWhile_some e
  refine ⟨fun j σi Hi => ∃ si, StOk B σi Hi si ∧ Ev (B.W s.env σ) H (B.W si.env σi) Hi ∧ whF mt m j si = some (o, s'), ⟨n, s, k, Ev.refl, e⟩, ?_⟩
  rintro j σi Hi ⟨si, ki, evi, eR⟩
  cases j with
  | zero => simp [whF, fail] at eR
  | succ j =>
    obtain ⟨t, s1, ec, eR⟩ := bnd_some eR
    refine ⟨si, t, s1, ki, ec, fun H1 k1 ev1 => ?_⟩
    cases t with
    | false =>
      obtain ⟨rfl, rfl⟩ := ret_some eR
      rw [if_neg (by decide)]
      exact q σi H1 k1 (evi.trans ev1)
    | true =>
      obtain ⟨o2, s2, eb, eR⟩ := bnd_some eR
      rw [if_pos rfl]
      refine ⟨_, fun σ' H' hN => ⟨j, Nat.lt_succ_self _, hN⟩, s1, o2, s2, k1, eb, ?_⟩
      have evA := evi.trans ev1
      cases o2 with
      | nx => exact fun σ' H'' k' ev' => ⟨s2, k', evA.trans ev', eR⟩
      | cnt => exact fun σ' H'' k' ev' => ⟨s2, k', evA.trans ev', eR⟩
      | brk => obtain ⟨rfl, rfl⟩ := ret_some eR; exact fun σ' H'' k' ev' => q σ' H'' k' (evA.trans ev')
      | ret d => obtain ⟨rfl, rfl⟩ := ret_some eR; exact fun v σ' H'' k' ev' r => q v σ' H'' k' (evA.trans ev') r⟩
end
end GH

namespace GH
open PySem PySem.Spec PyProof.Rows L2

abbrev FnSem := List D → Src → Option (D × Src)
def spOf (n : Nat) (g : FnSem) : Sp := fun vs H Q _ => ∃ p c Wc ds s0 d s1, Wc p ∧ Wc c ∧ WT Wc H ∧ SrcOk p c H s0 ∧ Rps p Wc H ds vs ∧ ds.length = n ∧ g ds s0 = some (d, s1) ∧
  ∀ v H', (∀ a o, H a = some o → a ≠ p → a ≠ c → H' a = some o) → SrcOk p c H' s1 → Rp p Wc H' d v → Q v H'
structure RG (k : Nat) (A : Around) : Prop where
  r : Room k A
  g : A.guards = some []
theorem RG.mono {j k : Nat} {A : Around} (h : RG k A) (l : j ≤ k) : RG j A := ⟨h.r.mono l, h.g⟩
theorem RG.deeper {k : Nat} {A : Around} (h : RG (k + 1) A) (env : Env) : RG k (A.deeper env) := ⟨h.r.deeper env, h.g⟩
def FnG (P : Program) (w : World) (K : PySem.W.Frag) (mg : Str → Option Value) (base : Heap) (k : Nat) (f : Addr) (n : Nat) (g : FnSem) : Prop :=
  ∀ (A : Around) (outer : List Env) (s : Shared) (H : Hp) (us : List Value) (vs : List V) (Q : VK) (E : XK), RG k A → Env0 P w K mg base A outer s H → Vals vs us → spOf n g vs H Q E →
    codeAny (model P w) A (.call (.ref f) ⟨us, []⟩) (CR CX0 outer P w H s Q E) s
structure Fn (P : Program) (w : World) (K : PySem.W.Frag) (mg : Str → Option Value) (base : Heap) (k : Nat) (x : Str) (n : Nat) (g : FnSem) : Prop where
  ok : ∃ f : Addr, mg x = some (.ref f) ∧ PySem.W.keepIn K (.ref f) = true ∧ FnG P w K mg base k f n g
theorem spOf_imp {n : Nat} {g g' : FnSem} (h : ∀ ds s r, g' ds s = some r → g ds s = some r) {vs : List V} {H : Hp} {Q : VK} {E : XK} (q : spOf n g' vs H Q E) : spOf n g vs H Q E := by
  obtain ⟨p, c, Wc, ds, s0, d, s1, h1, h2, h3, h4, h5, h6, h7, h8⟩ := q
  exact ⟨p, c, Wc, ds, s0, d, s1, h1, h2, h3, h4, h5, h6, h _ _ _ h7, h8⟩
theorem Fn.imp {P : Program} {w : World} {K : PySem.W.Frag} {mg : Str → Option Value} {base : Heap} {k n : Nat} {x : Str} {g g' : FnSem} (F : Fn P w K mg base k x n g) (h : ∀ ds s r, g' ds s = some r → g ds s = some r) : Fn P w K mg base k x n g' := by
  obtain ⟨f, h1, h2, h3⟩ := F.ok
  exact ⟨f, h1, h2, fun A outer s H us vs Q E hr he hv q => h3 A outer s H us vs Q E hr he hv (spOf_imp h q)⟩
theorem Fn.mono {P : Program} {w : World} {K : PySem.W.Frag} {mg : Str → Option Value} {base : Heap} {j k n : Nat} {x : Str} {g : FnSem} (F : Fn P w K mg base j x n g) (h : j ≤ k) : Fn P w K mg base k x n g := by
  obtain ⟨f, h1, h2, h3⟩ := F.ok
  exact ⟨f, h1, h2, fun A outer s H us vs Q E hr he hv q => h3 A outer s H us vs Q E (hr.mono h) he hv q⟩

theorem StOk.called {B : Bs} {σ : Sg} {H H' : Hp} {s : S} {c' : Src} (k : StOk B σ H s) (kp : ∀ a o, H a = some o → a ≠ B.p → a ≠ B.c → H' a = some o) (sk : SrcOk B.p B.c H' c') :
    StOk B σ H' { s with src := c' } ∧ Ev (B.W s.env σ) H (B.W s.env σ) H' := by
  have ev : Ev (B.W s.env σ) H (B.W s.env σ) H' := fun a o h n => ⟨kp a o h (fun z => n (.inl (z ▸ k.wp))) (fun z => n (.inl (z ▸ k.wcc))), n⟩
  refine ⟨⟨k.len, fun i d h => ?_, fun i sl h ho => ?_, k.sep, sk, fun a o h n1 n2 => kp a o (k.keep a o h n1 n2) n1 n2, fun a h => ?_, k.wp, k.wcc⟩, ev⟩
  · obtain ⟨v, h1, h2⟩ := k.val i d h
    exact ⟨v, h1, h2.ev ev⟩
  · obtain ⟨a, o, h1, h2, h3, h4, h5⟩ := k.own i sl h ho
    exact ⟨a, o, h1, kp a o h2 (fun z => h5 (z ▸ k.wp)) (fun z => h5 (z ▸ k.wcc)), h3.ev ev, h4, h5⟩
  · by_cases e1 : a = B.p
    · subst e1; exact ⟨_, sk.d, by intro _ z; cases z⟩
    · by_cases e2 : a = B.c
      · subst e2; exact ⟨_, sk.l, by intro _ z; cases z⟩
      · obtain ⟨o, ho, nt⟩ := k.wc a h
        exact ⟨o, kp a o ho e1 e2, nt⟩
def eFn (g : FnSem) (ms : M (List D)) : M D := bnd ms fun ds s => match g ds s.src with
  | some (d, c) => some (d, { s with src := c })
  | none => none
def aLen (n : Nat) (ms : M (List D)) : Prop := ∀ s ds s', ms s = some (ds, s') → ds.length = n
theorem aLen_nil : aLen 0 aNil := fun s ds s' h => by obtain ⟨rfl, rfl⟩ := ret_some h; rfl
theorem aLen_cons {n : Nat} {m : M D} {ms : M (List D)} (h : aLen n ms) : aLen (n + 1) (aCons m ms) := fun s ds s' e => by
  obtain ⟨d, s1, h1, h2⟩ := bnd_some e
  obtain ⟨r, s2, h3, h4⟩ := bnd_some h2
  obtain ⟨rfl, rfl⟩ := ret_some h4
  simp [h _ _ _ h3]

section
variable {X : Cx} {e : Expr} {es : List Expr} {pos p : Pos} {ms : M (List D)}
theorem run_g {k n : Nat} {f : Addr} {g : FnSem} {pins : List (Addr × Obj)} {σ : Sg} {H : Hp} {s : Shared} {Q : VK} {us : List Value} {vs : List V} (F : FnG X.prog X.w X.K X.mg X.base k f n g) (hr : RG k X.A) (I : Inv X pins σ H s) (r : Vals vs us) (h : spOf n g vs H Q E0) :
    wpAny (model X.prog X.w) X.A (call (.ref f) us) (EP X pins σ Q) X.xe s := by
  refine wpAny_call (codeAny_mono (F X.A X.stack s H us vs Q E0 hr I.env0 r h) fun res s' hq => ?_)
  cases res with
  | error e => exact False.elim hq
  | ok fl =>
    cases fl with
    | ret u => exact I.after hq
    | next => exact False.elim hq
    | brk => exact False.elim hq
    | cont => exact False.elim hq
theorem s_fn {k n : Nat} {x : Str} {g : FnSem} (F : Fn X.prog X.w X.K X.mg X.base k x n g) (hr : RG k X.A) (hg : Gl X x) (ha : SA X (e :: es) ms) (hl : aLen n ms) (hdb : (x == ("__debug__" : Str)) = false := by decide)
    (he : starEach (e :: es) X.env = (false, eval e X.env) :: starEach es X.env := by rfl) (hpl : (backTo pos (starEach es X.env)).any (·.1) = false := by rfl) : SE X (.Call (.Name x p) (e :: es) [] pos) (eFn g ms) := ⟨fun B => by
  obtain ⟨f, h1, h2, h3⟩ := F.ok
  refine ⟨fun pins sh σ H Q I ⟨s, d, s', k, e, q⟩ => ?_⟩
  refine wpAny_Call_Name_kw (ld_glob I hg h1 ?_ hdb)
  have hw : tA B ms σ H (fun vs Ha => spOf n g vs Ha Q E0) := by
    refine tA.bind k e fun ds s1 vs Ha q1 e1 k1 ev1 r1 => ?_
    split at e1
    · rename_i d' c' eg
      cases e1
      refine ⟨B.p, B.c, B.W s1.env σ, ds, s1.src, d, c', .inl k1.wp, .inl k1.wcc, k1.wt, k1.src, r1, hl _ _ _ q1, eg, fun v H' kp sk r => ?_⟩
      obtain ⟨k2, ev2⟩ := k1.called kp sk
      exact q v H' k2 (ev1.trans ev2) r
    · cases e1
  exact PySem.W.callWith_K (h₀ := X.base) I.ok.mod.kin h2 (thn ((ha.pa B).run pos pins sh σ H _ I hw) fun us s1 ⟨vs, H1, I1, r, q⟩ => ⟨I1.kIn, run_g h3 hr I1 r q⟩) he hpl⟩
end
def fnOf (n : Nat) (m : M Out) : FnSem := fun ds c => match m ⟨ds.map (fun d => some (Sl.val d)) ++ List.replicate (n - ds.length) none, c⟩ with
  | some (.ret d, s) => some (d, s.src)
  | some (.nx, s) => some (.non, s.src)
  | _ => none
theorem start_ok {p c : Addr} {Wc : AP} {H : Hp} {ds : List D} {vs : List V} {N : List Str} {s0 : Src} (h1 : Wc p) (h2 : Wc c) (h3 : WT Wc H) (h4 : SrcOk p c H s0) (h5 : Rps p Wc H ds vs) (hl : vs.length ≤ N.length) :
    StOk ⟨p, c, Wc, H⟩ (L2.start N vs) H ⟨ds.map (fun d => some (Sl.val d)) ++ List.replicate (N.length - ds.length) none, s0⟩ := by
  have hlen := h5.length
  have get : ∀ (i : Nat) (sl : Sl), (ds.map (fun d => some (Sl.val d)) ++ List.replicate (N.length - ds.length) none)[i]? = some (some sl) → ∃ d, ds[i]? = some d ∧ sl = Sl.val d := fun i sl h => by
    by_cases hi : i < ds.length
    · rw [List.getElem?_append_left (by simpa using hi), List.getElem?_map, List.getElem?_eq_getElem hi] at h
      cases h
      exact ⟨_, List.getElem?_eq_getElem hi, rfl⟩
    · rw [List.getElem?_append_right (by simpa using Nat.le_of_not_lt hi), List.getElem?_replicate] at h
      split at h <;> cases h
  have noW : ∀ b, (⟨p, c, Wc, H⟩ : Bs).W (ds.map (fun d => some (Sl.val d)) ++ List.replicate (N.length - ds.length) none) (L2.start N vs) b → Wc b := fun b hb => by
    rcases hb with hb | ⟨i, sl, e1, e2, _⟩
    · exact hb
    · obtain ⟨d, _, rfl⟩ := get i sl e1
      cases e2
  refine ⟨?_, fun i d h => ?_, fun i sl h ho => ?_, fun i j sl sl' a h ho => ?_, h4, fun a o h _ _ => h, h3, h1, h2⟩
  · unfold L2.start
    simp only [List.length_append, List.length_map, List.length_replicate]
    omega
  · obtain ⟨d', hd, e⟩ := get i _ h
    cases e
    obtain ⟨v, q1, q2⟩ := h5.get hd
    refine ⟨v, ?_, q2.ev (Ev.less noW)⟩
    unfold L2.start
    rw [List.getElem?_append_left (by simpa using (List.getElem?_eq_some_iff.mp q1).1), List.getElem?_map, q1]
    rfl
  · obtain ⟨d, _, rfl⟩ := get i sl h
    cases ho
  · obtain ⟨d, _, rfl⟩ := get i sl h
    cases ho
theorem fn_body {P : Program} {w : World} {K : PySem.W.Frag} {mg : Str → Option Value} {base : Heap} {x : Str} {params : Arguments} {code : List Stmt} {scope : Scope} {f : Addr} {fd : FuncData} {N ps : List Str} {k : Nat} {m : M Out}
    (F : FunD K x x params code scope [] [] f fd) (hm : mg x = some (.ref f)) (hb : Binds K fd ps []) (S : FnScope N ps scope) (hN : ps.length ≤ N.length)
    (body : ∀ (cdv : Value) (A : Around) (outer : List Env) (s : Shared) (H : Hp), RG k (A.deeper (envOfC x scope s.heap.objs.size f cdv)) →
      SSs (cxOf CX0 P w K mg base N x scope f cdv A outer s H E0).nox code m) : Fn P w K mg base (k + 1) x ps.length (fnOf N.length m) := by
  obtain ⟨oc, od, dV, kV, doc, pm, an, cdv, ct, osl, efd, lk, hcd, _, _⟩ := F.ex
  subst efd
  refine ⟨f, hm, F.kp, fun A outer s H us vs Q E hr e0 r h => ?_⟩
  have hl : vs.length = ps.length := by
    obtain ⟨p, c, Wc, ds, s0, d, s1, _, _, _, _, h5, h6, _⟩ := h
    rw [← h6, h5.length]
  have KX : K.In s.heap := e0.mod.kin.keeps fun b o e => (e0.bs b o e).1
  refine StX.run_bnd (G := fun xs H2 => xs = vs ∧ H2 = H) (E := E) lk hcd S hr.r e0 (fun A' Ex Q' hq => ?_) fun s2 H2 xs ⟨ex, eH⟩ hr2 => ?_
  · have bb := hb s us KX (by rw [List.append_nil, ← r.length, hl])
    rw [List.append_nil] at bb
    exact bb _ _ _ _ (hq s H vs us e0 Un.refl rfl (fun _ _ z => z) r hl ⟨rfl, rfl⟩)
  · subst ex
    subst eH
    obtain ⟨p, c, Wc, ds, s0, d, s1, h1, h2, h3, h4, h5, h6, h7, h8⟩ := h
    refine ⟨_, PSs.nox ((body cdv A outer s2 H2 ⟨hr2, hr.g⟩).ps ⟨p, c, Wc, H2⟩), ?_⟩
    unfold fnOf at h7
    split at h7
    · rename_i d' s' em
      cases h7
      refine ⟨_, _, _, start_ok h1 h2 h3 h4 h5 (by rw [← h5.length, h6]; exact hN), em, fun v σ' H' k' ev r => ?_⟩
      exact h8 v H' (fun a o e n1 n2 => k'.keep a o e n1 n2) k'.src (r.ev (Ev.less fun b hb => .inl hb))
    · rename_i s' em
      cases h7
      refine ⟨_, _, _, start_ok h1 h2 h3 h4 h5 (by rw [← h5.length, h6]; exact hN), em, fun σ' H' k' ev => ?_⟩
      exact h8 .non H' (fun a o e n1 n2 => k'.keep a o e n1 n2) k'.src .mkNon
    · cases h7
end GH

namespace GH
open PySem PySem.Spec PyProof.Rows L2

def eCall (g : List D → Option D) (ms : M (List D)) : M D := bnd ms fun ds => lift (g ds)
def eCallL (g : List D → Option (List D)) (ms : M (List D)) : M (List D) := bnd ms fun ds => lift (g ds)
section
variable {X : Cx} {e a b : Expr} {es : List Expr} {pos p : Pos} {ms : M (List D)} {ma mb m : M D}
abbrev CallD (X : Cx) (f : Value) (g : List D → Option D) : Prop := CallR X f (rC g)
abbrev CallL (X : Cx) (f : Value) (g : List D → Option (List D)) : Prop := CallR X f (rCL g)
theorem call_go {B : Bs} {g : List D → Option D} {σ : Sg} {H : Hp} {Q : VK} (h : tI B (eCall g ms) σ H Q) : tCB (rC g) (tA B ms) σ H Q := by
  obtain ⟨s, d, s', k, e, q⟩ := h
  refine tA.bind k e fun ds s1 vs H1 h1 e1 k1 ev1 r1 => ?_
  obtain ⟨e3, rfl⟩ := lift_some e1
  exact ⟨B.p, _, ds, d, k1.wt, r1, e3, fun v H' sm r => q v H' (k1.same sm) (ev1.trans (Ev.same sm)) r⟩
theorem s_callB {id : String} {x : Str} {g : List D → Option D} (hc : CallD X (.builtin id) g) (hg : Gl X x) (hm : X.mg x = none) (hv : bootBuiltins x = some (.builtin id)) (ha : SA X (e :: es) ms) (hn : x ≠ "__name__" := by decide) (hdb : (x == ("__debug__" : Str)) = false := by decide)
    (he : starEach (e :: es) X.env = (false, eval e X.env) :: starEach es X.env := by rfl) (hpl : (backTo pos (starEach es X.env)).any (·.1) = false := by rfl) : SE X (.Call (.Name x p) (e :: es) [] pos) (eCall g ms) :=
  ⟨fun B => PE.imp (pe_callB hc hg hm hv (ha.pa B) hn hdb he hpl) fun σ H Q h => call_go h⟩
theorem s_callT {T : String} {x : Str} {g : List D → Option D} (hc : CallD X (.type T) g) (hg : Gl X x) (hm : X.mg x = none) (hv : bootBuiltins x = some (.type T)) (ha : SA X (e :: es) ms) (hn : x ≠ "__name__" := by decide) (hdb : (x == ("__debug__" : Str)) = false := by decide)
    (he : starEach (e :: es) X.env = (false, eval e X.env) :: starEach es X.env := by rfl) (hpl : (backTo pos (starEach es X.env)).any (·.1) = false := by rfl) : SE X (.Call (.Name x p) (e :: es) [] pos) (eCall g ms) :=
  ⟨fun B => PE.imp (pe_callTy hc hg hm hv (ha.pa B) hn hdb he hpl) fun σ H Q h => call_go h⟩
theorem StOk.newList {B : Bs} {σ : Sg} {H H' : Hp} {s : S} {a : Addr} {vs : List V} {ds : List D} (k : StOk B σ H s) (sm : Same H H') (n : H a = none) (ha : H' a = some (.lst vs)) (r : Rps B.p (B.W s.env σ) H ds vs) :
    StOk (B.plus a) σ H' s ∧ Ev (B.W s.env σ) H ((B.plus a).W s.env σ) H' ∧ Rps B.p ((B.plus a).W s.env σ) H' ds vs := by
  have ev : Ev (B.W s.env σ) H ((B.plus a).W s.env σ) H' := fun b x h hn => ⟨sm b x h, by
    rintro ((z | z) | z)
    · exact hn (.inl z)
    · exact ne_of_none h n z
    · exact hn (.inr z)⟩
  refine ⟨⟨k.len, fun i d h => ?_, fun i sl h ho => ?_, k.sep, k.src.same sm, fun b x h h1 h2 => sm b x (k.keep b x h h1 h2), fun b h => ?_, .inl k.wp, .inl k.wcc⟩, ev, r.ev ev⟩
  · obtain ⟨v, h1, h2⟩ := k.val i d h
    exact ⟨v, h1, h2.ev ev⟩
  · obtain ⟨b, x, h1, h2, h3, h4, h5⟩ := k.own i sl h ho
    refine ⟨b, x, h1, sm _ _ h2, h3.ev ev, h4, ?_⟩
    rintro (z | z)
    · exact h5 z
    · exact ne_of_none h2 n z
  · rcases h with z | z
    · obtain ⟨x, h1, nt⟩ := k.wc b z
      exact ⟨x, sm _ _ h1, nt⟩
    · subst z
      exact ⟨_, ha, by intro _ z; cases z⟩
theorem callL_go {B : Bs} {g : List D → Option (List D)} {σ : Sg} {H : Hp} {Q : VK} (h : tL B (eCallL g ms) σ H Q) : tCB (rCL g) (tA B ms) σ H Q := by
  obtain ⟨s, d, s', k, e, q⟩ := h
  refine tA.bind k e fun ds s1 vs H1 h1 e1 k1 ev1 r1 => ?_
  obtain ⟨e3, rfl⟩ := lift_some e1
  refine ⟨B.p, _, ds, d, k1.wt, r1, e3, fun a us H' sm n ha r => ?_⟩
  obtain ⟨kp, ev2, r2⟩ := k1.newList sm n ha r
  exact q a us H' kp (ev1.trans ev2) (k1.new n) (k1.wt.new n) ha r2
theorem l_callB {id : String} {x : Str} {g : List D → Option (List D)} (hc : CallL X (.builtin id) g) (hg : Gl X x) (hm : X.mg x = none) (hv : bootBuiltins x = some (.builtin id)) (ha : SA X (e :: es) ms) (hn : x ≠ "__name__" := by decide) (hdb : (x == ("__debug__" : Str)) = false := by decide)
    (he : starEach (e :: es) X.env = (false, eval e X.env) :: starEach es X.env := by rfl) (hpl : (backTo pos (starEach es X.env)).any (·.1) = false := by rfl) : SL X (.Call (.Name x p) (e :: es) [] pos) (eCallL g ms) :=
  ⟨fun B => PE.imp (pe_callB hc hg hm hv (ha.pa B) hn hdb he hpl) fun σ H Q h => callL_go h⟩
theorem l_callT {T : String} {x : Str} {g : List D → Option (List D)} (hc : CallL X (.type T) g) (hg : Gl X x) (hm : X.mg x = none) (hv : bootBuiltins x = some (.type T)) (ha : SA X (e :: es) ms) (hn : x ≠ "__name__" := by decide) (hdb : (x == ("__debug__" : Str)) = false := by decide)
    (he : starEach (e :: es) X.env = (false, eval e X.env) :: starEach es X.env := by rfl) (hpl : (backTo pos (starEach es X.env)).any (·.1) = false := by rfl) : SL X (.Call (.Name x p) (e :: es) [] pos) (eCallL g ms) :=
  ⟨fun B => PE.imp (pe_callTy hc hg hm hv (ha.pa B) hn hdb he hpl) fun σ H Q h => callL_go h⟩

theorem callD_cases {f : Value} {g : List D → Option D} (h : ∀ ds d p W, g ds = some d → CallR X f (fun vs H Q => WT W H ∧ Rps p W H ds vs ∧ ∀ v H', Same H H' → Rp p W H' d v → Q v H')) : CallD X f g := by
  intro pins s σ H xs us Q I r ⟨p, W, ds, d, hw, hx, he, hq⟩
  exact h ds d p W he pins s σ H xs us Q I r ⟨hw, hx, hq⟩
def lenG : List D → Option D
  | [.lst ds] => some (.int ds.length)
  | [.tup ds] => some (.int ds.length)
  | [.tpx is] => some (.int is.length)
  | [.str s] => if s.length ≤ sizeLine then some (.int s.length) else none
  | _ => none
theorem c_len : CallD X (.builtin "len") lenG := callD_cases fun ds d p W he => by
  unfold lenG at he
  split at he
  · cases he
    refine CallR.imp call_len fun vs H Q ⟨hw, hx, hq⟩ => ?_
    obtain ⟨v, rfl, r⟩ := rps1 hx
    obtain ⟨a, us, rfl, _, ha, rs⟩ := rp_lst r
    exact ⟨_, us.length, rfl, .inl ⟨us, SqL.of ha, rfl⟩, by rw [← rs.length]; exact hq _ _ (Same.refl H) (.mkInt _)⟩
  · cases he
    refine CallR.imp call_len fun vs H Q ⟨hw, hx, hq⟩ => ?_
    obtain ⟨v, rfl, r⟩ := rps1 hx
    obtain ⟨a, us, rfl, _, ha, rs⟩ := rp_tup r
    exact ⟨_, us.length, rfl, .inr ⟨us, SqT.of ha, rfl⟩, by rw [← rs.length]; exact hq _ _ (Same.refl H) (.mkInt _)⟩
  · rename_i is
    cases he
    refine CallR.imp call_len fun vs H Q ⟨hw, hx, hq⟩ => ?_
    obtain ⟨v, rfl, r⟩ := rps1 hx
    obtain ⟨a, o, rfl, _, ha, _⟩ := r
    exact ⟨_, (is.map V.int).length, rfl, .inr ⟨_, .inl (.inr ⟨o, ha⟩), rfl⟩, by rw [List.length_map]; exact hq _ _ (Same.refl H) (.mkInt _)⟩
  · split at he
    · rename_i hl
      cases he
      refine CallR.imp call_len fun vs H Q ⟨hw, hx, hq⟩ => ?_
      obtain ⟨v, rfl, r⟩ := rps1 hx
      rw [rp_str r]
      exact ⟨_, _, rfl, ⟨hl, rfl⟩, hq _ _ (Same.refl H) (.mkInt _)⟩
    · cases he
  · cases he
def intG : List D → Option D
  | [.int i] => some (.int i)
  | [.bl k] => some (.int (if k then 1 else 0))
  | _ => none
theorem c_int : CallD X (.type "int") intG := callD_cases fun ds d p W he => by
  unfold intG at he
  split at he
  · cases he
    refine CallR.imp call_int1 fun vs H Q ⟨hw, hx, hq⟩ => ?_
    obtain ⟨v, rfl, r⟩ := rps1 hx
    exact .inl ⟨_, by rw [rp_int r], hq _ _ (Same.refl H) (.mkInt _)⟩
  · cases he
    refine CallR.imp call_int1 fun vs H Q ⟨hw, hx, hq⟩ => ?_
    obtain ⟨v, rfl, r⟩ := rps1 hx
    exact .inr ⟨_, by rw [rp_bl r], hq _ _ (Same.refl H) (.mkInt _)⟩
  · cases he
def absG : List D → Option D
  | [.int i] => some (.int (if i < 0 then -i else i))
  | _ => none
theorem c_abs : CallD X (.builtin "abs") absG := callD_cases fun ds d p W he => by
  unfold absG at he
  split at he
  · cases he
    refine CallR.imp call_abs fun vs H Q ⟨hw, hx, hq⟩ => ?_
    obtain ⟨v, rfl, r⟩ := rps1 hx
    exact ⟨_, by rw [rp_int r], hq _ _ (Same.refl H) (.mkInt _)⟩
  · cases he
def tupG : List D → Option D
  | [.lst ds] => some (.tup ds)
  | [.tup ds] => some (.tup ds)
  | _ => none
theorem c_tup : CallD X (.type "tuple") tupG := callD_cases fun ds d p W he => by
  unfold tupG at he
  split at he
  · cases he
    refine CallR.imp call_tuple_of fun vs H Q ⟨hw, hx, hq⟩ => ?_
    obtain ⟨v, rfl, r⟩ := rps1 hx
    obtain ⟨a, us, rfl, _, ha, rs⟩ := rp_lst r
    exact ⟨a, us, rfl, .inl ⟨SqL.of ha, fun l hl => hq _ _ (same_new hl) (.newTup hw hl rs)⟩⟩
  · cases he
    refine CallR.imp call_tuple_of fun vs H Q ⟨hw, hx, hq⟩ => ?_
    obtain ⟨v, rfl, r⟩ := rps1 hx
    obtain ⟨a, us, rfl, na, ha, rs⟩ := rp_tup r
    exact ⟨a, us, rfl, .inr ⟨SqT.of ha, hq _ _ (Same.refl H) (.mkTup na ha rs)⟩⟩
  · cases he
def lstG : List D → Option (List D)
  | [.lst ds] => some ds
  | [.tup ds] => some ds
  | _ => none
theorem c_lst : CallL X (.type "list") lstG := by
  intro pins s σ H xs us Q I r ⟨p, W, ds, es, hw, hx, he, hq⟩
  unfold lstG at he
  split at he
  · cases he
    obtain ⟨v, rfl, r'⟩ := rps1 hx
    obtain ⟨a, ws, rfl, _, ha, rs⟩ := rp_lst r'
    exact call_list_of pins s σ H _ us Q I r ⟨a, ws, rfl, .inl (SqL.of ha), fun l hl => hq l ws _ (same_new hl) hl upd_same rs⟩
  · cases he
    obtain ⟨v, rfl, r'⟩ := rps1 hx
    obtain ⟨a, ws, rfl, _, ha, rs⟩ := rp_tup r'
    exact call_list_of pins s σ H _ us Q I r ⟨a, ws, rfl, .inr (SqT.of ha), fun l hl => hq l ws _ (same_new hl) hl upd_same rs⟩
  · cases he
def sumG : List D → Option D
  | [.lst ds] => (toInts ds).map fun ns => .int ns.sum
  | [.tup ds] => (toInts ds).map fun ns => .int ns.sum
  | _ => none
theorem sum_tup (hc : X.calm = true) : CallR X (.builtin "sum") (fun vs H Q => ∃ (a : Addr) (ns : List Int), vs = [V.ref a] ∧ SqT X.K H a (ns.map V.int) ∧ Q (.int ns.sum) H) := by
  intro pins s σ H vs us Q I r ⟨a, ns, e, hs, q⟩
  subst e
  obtain ⟨its, rv, hl, _⟩ := I.tuple hs
  rw [Vals.ref1 r]
  have hi := rv.ints
  obtain ⟨xs, hx⟩ := hi.allInts.items
  have hn := hi.numsOf
  have hl : s.heap.IsTuple a its.toArray := hl
  rw [show numsOf its = numsOf its.toArray.toList from rfl, hx] at hn
  rw [nums_intItems] at hn
  rw [hx] at hl
  refine PySem.W.ktm_sumG (I.ok.hd hc) hl fun h' tk t' hk => ?_
  rw [preSum_eq, List.take_of_length_le (by simp), hn]
  exact ⟨.int _, H, I.kept (t' := tk) hk, ⟨_, rfl⟩, q⟩
theorem c_sum (hc : X.calm = true) : CallD X (.builtin "sum") sumG := callD_cases fun ds d p W he => by
  unfold sumG at he
  split at he
  · rename_i es
    obtain ⟨ns, h1, rfl⟩ := Option.map_eq_some_iff.mp he
    have := toInts_eq h1
    subst this
    refine CallR.imp (cr_sum hc) fun vs H Q ⟨hw, hx, hq⟩ => ?_
    obtain ⟨v, rfl, r⟩ := rps1 hx
    obtain ⟨a, us, rfl, _, ha, rs⟩ := rp_lst r
    rw [rps_ints rs] at ha
    exact ⟨a, ns, rfl, SqL.of ha, hq _ _ (Same.refl H) (.mkInt _)⟩
  · rename_i es
    obtain ⟨ns, h1, rfl⟩ := Option.map_eq_some_iff.mp he
    have := toInts_eq h1
    subst this
    refine CallR.imp (sum_tup hc) fun vs H Q ⟨hw, hx, hq⟩ => ?_
    obtain ⟨v, rfl, r⟩ := rps1 hx
    obtain ⟨a, us, rfl, _, ha, rs⟩ := rp_tup r
    rw [rps_ints rs] at ha
    exact ⟨a, ns, rfl, SqT.of ha, hq _ _ (Same.refl H) (.mkInt _)⟩
  · cases he
def maxL : List Int → Int
  | [] => 0
  | [x] => x
  | x :: r => if maxL r > x then maxL r else x
theorem maxL_spec : ∀ {ns : List Int}, ns ≠ [] → maxL ns ∈ ns ∧ ∀ y ∈ ns, y ≤ maxL ns
  | [], h => absurd rfl h
  | [x], _ => ⟨by simp [maxL], by simp [maxL]⟩
  | x :: y :: r, _ => by
    obtain ⟨h1, h2⟩ := maxL_spec (ns := y :: r) (by simp)
    unfold maxL
    split
    · refine ⟨List.mem_cons_of_mem _ h1, fun z hz => ?_⟩
      rcases List.mem_cons.mp hz with rfl | hz
      · omega
      · exact h2 z hz
    · refine ⟨List.mem_cons_self, fun z hz => ?_⟩
      rcases List.mem_cons.mp hz with rfl | hz
      · exact Int.le_refl _
      · have := h2 z hz; omega
def maxG : List D → Option D
  | [.int i, .int j] => some (.int (if j > i then j else i))
  | [.lst ds] => (toInts ds).bind fun ns => if ns ≠ [] then some (.int (maxL ns)) else none
  | [.tup ds] => (toInts ds).bind fun ns => if ns ≠ [] then some (.int (maxL ns)) else none
  | _ => none
theorem maxOf_int (x : Int) : ∀ xs : List Int, PySem.W.maxOf x xs ∈ x :: xs ∧ ∀ y ∈ x :: xs, y ≤ PySem.W.maxOf x xs := fun xs => by
  unfold PySem.W.maxOf
  induction xs generalizing x with
  | nil => exact ⟨by simp, by simp⟩
  | cons y t ih =>
    rw [List.foldl_cons]
    have hlt : PySem.W.DatumOrd.lt x y = decide (x < y) := by first | rfl | simp [PySem.W.DatumOrd.lt]
    rw [hlt]
    obtain ⟨h1, h2⟩ := ih (if decide (x < y) = true then y else x)
    have hx : x ≤ (if decide (x < y) = true then y else x) ∧ y ≤ (if decide (x < y) = true then y else x) ∧ ((if decide (x < y) = true then y else x) = x ∨ (if decide (x < y) = true then y else x) = y) := by
      by_cases h : x < y
      · rw [decide_eq_true h, if_pos rfl]; omega
      · rw [decide_eq_false h, if_neg (by decide)]; omega
    generalize (if decide (x < y) = true then y else x) = z at h1 h2 hx ⊢
    obtain ⟨a, b, c⟩ := hx
    have hz := h2 z List.mem_cons_self
    refine ⟨?_, fun w hw => ?_⟩
    · rcases List.mem_cons.mp h1 with e | e
      · rw [e]; rcases c with c | c <;> rw [c] <;> simp
      · exact List.mem_cons_of_mem _ (List.mem_cons_of_mem _ e)
    · rcases List.mem_cons.mp hw with e | e
      · subst e; omega
      · rcases List.mem_cons.mp e with e | e
        · subst e; omega
        · exact h2 w (List.mem_cons_of_mem _ e)
theorem max_tup (hc : X.calm = true) (hu : X.A.units + 1 < cLine) : CallR X (.builtin "max") (fun vs H Q => ∃ (a : Addr) (ns : List Int), vs = [V.ref a] ∧ SqT X.K H a (ns.map V.int) ∧ ns ≠ [] ∧ ∀ m, m ∈ ns → (∀ y, y ∈ ns → y ≤ m) → Q (.int m) H) := by
  intro pins s σ H vs us Q I r ⟨a, ns, e, hs, hne, q⟩
  subst e
  obtain ⟨its, rv, hl, _⟩ := I.tuple hs
  rw [Vals.ref1 r]
  have hi := rv.ints
  have hl : s.heap.IsTuple a its.toArray := hl
  cases ns with
  | nil => exact absurd rfl hne
  | cons x xs =>
    refine PySem.W.max_tuple_datum (α := Int) (I.ok.hd hc) hl (x := x) (xs := xs) (PySem.W.HoldAll.of_ints hi) (by exact hu) fun i v h' tk hv hh hk => ?_
    obtain ⟨as, hr⟩ := hh
    have : ∃ t, v = .int (PySem.W.maxOf x xs) t := by
      have hr : Reads h' v (.int (PySem.W.maxOf x xs)) as := hr
      cases hr with
      | int n t => exact ⟨t, rfl⟩
    obtain ⟨t, rfl⟩ := this
    obtain ⟨m1, m2⟩ := maxOf_int x xs
    exact ⟨.int _, H, I.kept (t' := tk) hk, ⟨_, rfl⟩, q _ m1 m2⟩
theorem c_max (hc : X.calm = true) (hu : X.A.units + 1 < cLine) : CallD X (.builtin "max") maxG := callD_cases fun ds d p W he => by
  unfold maxG at he
  split at he
  · cases he
    refine CallR.imp (call_max2 hc) fun vs H Q ⟨hw, hx, hq⟩ => ?_
    obtain ⟨v, u, rfl, r1, r2⟩ := rps2 hx
    exact ⟨_, _, by rw [rp_int r1, rp_int r2], hq _ _ (Same.refl H) (.mkInt _)⟩
  · obtain ⟨ns, h1, h2⟩ := Option.bind_eq_some_iff.mp he
    split at h2
    · rename_i hne
      cases h2
      have := toInts_eq h1
      subst this
      refine CallR.imp (cr_max hc) fun vs H Q ⟨hw, hx, hq⟩ => ?_
      obtain ⟨v, rfl, r⟩ := rps1 hx
      obtain ⟨a, us, rfl, _, ha, rs⟩ := rp_lst r
      rw [rps_ints rs] at ha
      refine ⟨a, ns, rfl, SqL.of ha, List.length_pos_iff.mpr hne, fun m hm1 hm2 => ?_⟩
      obtain ⟨q1, q2⟩ := maxL_spec hne
      have : m = maxL ns := Int.le_antisymm (q2 m hm1) (hm2 _ q1)
      subst this
      exact hq _ _ (Same.refl H) (.mkInt _)
    · cases h2
  · obtain ⟨ns, h1, h2⟩ := Option.bind_eq_some_iff.mp he
    split at h2
    · rename_i hne
      cases h2
      have := toInts_eq h1
      subst this
      refine CallR.imp (max_tup hc hu) fun vs H Q ⟨hw, hx, hq⟩ => ?_
      obtain ⟨v, rfl, r⟩ := rps1 hx
      obtain ⟨a, us, rfl, _, ha, rs⟩ := rp_tup r
      rw [rps_ints rs] at ha
      refine ⟨a, ns, rfl, SqT.of ha, hne, fun m hm1 hm2 => ?_⟩
      obtain ⟨q1, q2⟩ := maxL_spec hne
      have : m = maxL ns := Int.le_antisymm (q2 m hm1) (hm2 _ q1)
      subst this
      exact hq _ _ (Same.refl H) (.mkInt _)
    · cases h2
  · cases he
def anyG : List D → Option D
  | [.lst ds] => (toBls ds).map fun ns => .bl (ns.any id)
  | _ => none
def allG : List D → Option D
  | [.lst ds] => (toBls ds).map fun ns => .bl (ns.all id)
  | _ => none
theorem c_any (hc : X.calm = true) : CallD X (.builtin "any") anyG := callD_cases fun ds d p W he => by
  unfold anyG at he
  split at he
  · obtain ⟨ns, h1, rfl⟩ := Option.map_eq_some_iff.mp he
    have := toBls_eq h1
    subst this
    refine CallR.imp (cr_any hc) fun vs H Q ⟨hw, hx, hq⟩ => ?_
    obtain ⟨v, rfl, r⟩ := rps1 hx
    obtain ⟨a, us, rfl, _, ha, rs⟩ := rp_lst r
    rw [rps_bls rs] at ha
    exact ⟨a, ns, rfl, SqL.of ha, hq _ _ (Same.refl H) (.mkBl _)⟩
  · cases he
theorem c_all (hc : X.calm = true) : CallD X (.builtin "all") allG := callD_cases fun ds d p W he => by
  unfold allG at he
  split at he
  · obtain ⟨ns, h1, rfl⟩ := Option.map_eq_some_iff.mp he
    have := toBls_eq h1
    subst this
    refine CallR.imp (cr_all hc) fun vs H Q ⟨hw, hx, hq⟩ => ?_
    obtain ⟨v, rfl, r⟩ := rps1 hx
    obtain ⟨a, us, rfl, _, ha, rs⟩ := rp_lst r
    rw [rps_bls rs] at ha
    exact ⟨a, ns, rfl, SqL.of ha, hq _ _ (Same.refl H) (.mkBl _)⟩
  · cases he

instance (i j : Int) : Decidable (RgOk i j) := by unfold RgOk; infer_instance
def okSort (ds : List PyData) : Bool := ds.all (fun a => ds.all fun b => PySem.W.alike a b) && ((ds.all fun a => match a with | .tuple (_ :: _) => true | _ => false) || ds.all fun a => match a with | .none => false | .tuple _ => false | _ => true) && (ds.all fun a => decide (a.depth ≤ 60)) && PyData.canLayAll0 ds
def srtG : List D → Option (List D)
  | [.lst ds] => if okSort (D.pys ds) = true ∧ ds.length ≤ sizeLine then some (ds.mergeSort (PySem.W.dataLe false D.py)) else none
  | [.tup ds] => if okSort (D.pys ds) = true ∧ ds.length ≤ sizeLine ∧ False then some ds else none
  | _ => none
theorem vals_zip : ∀ {vs : List V} {us : List Value} {ds : List D}, Vals vs us → ds.length = vs.length → PySem.W.EachIs (fun u (b : D × V) => RelV b.2 u) us (ds.zip vs)
  | _, _, [], .nil, _ => .nil
  | _, _, _ :: _, .nil, h => by simp at h
  | _, _, [], .cons _ _, h => by simp at h
  | _, _, d :: ds, .cons r t, h => .cons r (vals_zip t (by simpa using h))
theorem reads_zip {p : Addr} {W : AP} {pins : List (Addr × Obj)} {σ : Sg} {H : Hp} {s : Shared} (I : Inv X pins σ H s) : ∀ {vs : List V} {us : List Value} {ds : List D}, Vals vs us → Rps p W H ds vs → PyData.canLayAll0 (D.pys ds) = true →
    PySem.W.EachIs (fun u (b : D × V) => ∃ as, Reads s.heap u b.1.py as) us (ds.zip vs)
  | _, _, [], .nil, _, _ => .nil
  | _, _, _ :: _, .nil, h, _ => by simp [Rps] at h
  | _, _, [], .cons _ _, h, _ => by simp [Rps] at h
  | _, _, d :: ds, .cons r t, h, hc => by
    simp only [Rps] at h
    obtain ⟨v, r', e, h1, h2⟩ := h
    cases e
    simp only [D.pys, PyData.canLayAll0, Bool.and_eq_true] at hc
    exact .cons (Dp.reads I _ _ _ (h1.dp _ _ hc.1) r) (reads_zip I t h2 hc.2)
theorem vals_of_each : ∀ {bs : List (D × V)} {us : List Value}, PySem.W.EachIs (fun u (b : D × V) => RelV b.2 u) us bs → Vals (bs.map (·.2)) us
  | _, _, .nil => .nil
  | _, _, .cons r t => .cons r (vals_of_each t)
theorem zip_fst {α β : Type} : ∀ {xs : List α} {ys : List β}, xs.length = ys.length → (xs.zip ys).map (·.1) = xs
  | [], [], _ => rfl
  | _ :: _, [], h => by simp at h
  | [], _ :: _, _ => rfl
  | x :: xs, y :: ys, h => by simp [zip_fst (xs := xs) (ys := ys) (by simpa using h)]
theorem c_srt {k : Nat} (hr : RG k X.A) : CallL X (.builtin "sorted") srtG := by
  intro pins s σ H xs us Q I r ⟨p, W, ds, es, hw, hx, he, hq⟩
  unfold srtG at he
  split at he
  · rename_i ds
    split at he
    · rename_i hk
      cases he
      obtain ⟨hk, hsz⟩ := hk
      obtain ⟨v, rfl, r'⟩ := rps1 hx
      obtain ⟨a, ws, rfl, _, ha, rs⟩ := rp_lst r'
      obtain ⟨u0, rfl, r0⟩ := r.one
      cases r0
      obtain ⟨its, rv, pl, hz⟩ := I.list (SqL.of ha)
      unfold okSort at hk
      simp only [Bool.and_eq_true, Bool.or_eq_true] at hk
      obtain ⟨⟨⟨hal, hst⟩, hdp⟩, hcl⟩ := hk
      have hl := rs.length
      have AL : PySem.W.AllAlike (D.pys ds) := fun d hd d' hd' => List.all_eq_true.mp (List.all_eq_true.mp hal d hd) d' hd'
      have emap : (ds.zip ws).map (fun b => b.1.py) = D.pys ds := by
        rw [pys_map, ← zip_fst hl, List.map_map]
        · rw [zip_fst hl]; rfl
      have hS : PySem.W.Sortable (D.pys ds) := by
        rcases hst with z | z
        · refine .inl fun d hd => ?_
          have := List.all_eq_true.mp z d hd
          split at this
          · exact ⟨_, _, rfl⟩
          · cases this
        · refine .inr fun d hd => ?_
          have := List.all_eq_true.mp z d hd
          cases d <;> simp at this ⊢
      refine PySem.W.sorted_data (R := fun u (b : D × V) => RelV b.2 u) (enc := fun b => b.1.py) pl.isList (vals_zip rv hl) (reads_zip I rv rs hcl) (by rw [emap]; exact AL) (by rw [emap]; exact hS) ?_ (fun b hb => ?_) fun out ho eo => ?_
      · rw [List.length_zip, hl, Nat.min_self, ← hl]; exact hsz
      · have hd : b.1.py ∈ D.pys ds := by rw [← emap]; exact List.mem_map.mpr ⟨b, hb, rfl⟩
        have := of_decide_eq_true (List.all_eq_true.mp hdp _ hd)
        have := hr.r.units
        omega
      · have rv' := vals_of_each eo
        obtain ⟨ep, he'⟩ := PyProof.Rows.sortedAll_at s.heap its out.toArray
        have perm : ((ds.zip ws).mergeSort (PySem.W.dataLe false fun b => b.1.py)).Perm (ds.zip ws) := List.mergeSort_perm _ _
        have hlen : (((ds.zip ws).mergeSort (PySem.W.dataLe false fun b => b.1.py)).map (·.2)).length ≤ sizeLine := by
          rw [List.length_map, perm.length_eq, List.length_zip, hl, Nat.min_self, ← hl]; exact hsz
        have hn : H (s.heap.objs.size + 1) = none := I.hok.fresh (Nat.le_succ _)
        refine ⟨.ref (s.heap.objs.size + 1), upd H (s.heap.objs.size + 1) (.lst (((ds.zip ws).mergeSort (PySem.W.dataLe false fun b => b.1.py)).map (·.2))), I.laid (t' := s.toks) (fun _ _ => PyProof.Rows.sortedAll_old) (Nat.le_succ _) ⟨hlen, out, ep, rv', he'⟩, rfl, ?_⟩
        refine hq _ _ _ (same_new hn) hn upd_same ?_
        have e1 : ds.mergeSort (PySem.W.dataLe false D.py) = ((ds.zip ws).mergeSort (PySem.W.dataLe false fun b => b.1.py)).map (·.1) := by
          have q := List.map_mergeSort (f := fun b : D × V => b.1) (r := PySem.W.dataLe false fun b : D × V => b.1.py) (s := PySem.W.dataLe false D.py) (l := ds.zip ws) fun a _ b _ => rfl
          rw [zip_fst hl] at q
          exact q.symm
        rw [e1]
        have each : ∀ bs : List (D × V), (∀ b ∈ bs, Rp p W H b.1 b.2) → Rps p W H (bs.map (·.1)) (bs.map (·.2)) := fun bs => by
          induction bs with
          | nil => intro _; exact .nil
          | cons b bs ih => intro h; exact .cons (h b List.mem_cons_self) (ih fun x hx => h x (List.mem_cons_of_mem _ hx))
        refine each _ fun b hb => ?_
        have hb' := perm.mem_iff.mp hb
        obtain ⟨i, hi⟩ := List.mem_iff_getElem?.mp hb'
        rw [List.getElem?_zip_eq_some] at hi
        exact rp_get rs hi.1 hi.2
    · cases he
  · split at he
    · rename_i hk; exact absurd hk.2.2 id
    · cases he
  · cases he

def ixD : D → D → Option D
  | .lst ds, .int i => atI ds i
  | .tup ds, .int i => atI ds i
  | .str z, .int i => if z.length ≤ sizeLine then (atI z.cps.toList i).map fun c => .str ⟨#[c]⟩ else none
  | _, _ => none
theorem rps_atI {p : Addr} {W : AP} {H : Hp} {ds : List D} {vs : List V} {i : Int} {d : D} (r : Rps p W H ds vs) (h : atI ds i = some d) : ∃ v, atI vs i = some v ∧ Rp p W H d v := by
  unfold atI at h ⊢
  rw [r.length] at h
  obtain ⟨j, h1, h2⟩ := Option.bind_eq_some_iff.mp h
  obtain ⟨v, h3, h4⟩ := r.get h2
  exact ⟨v, by rw [h1]; exact h3, h4⟩
theorem ixr : IxR X (rB ixD) := by
  intro value slice pins s σ H x y v u Q I rx ry ⟨p, W, dx, dy, d, hw, hx, hy, he, hq⟩ hs
  unfold ixD at he
  split at he
  · obtain ⟨a, vs, rfl, _, ha, rs⟩ := rp_lst hx
    obtain ⟨w', h1, h2⟩ := rps_atI rs he
    exact ix_list value slice pins s σ H _ _ v u Q I rx ry ⟨a, vs, _, w', rfl, rp_int hy, SqL.of ha, h1, hq _ _ (Same.refl H) h2⟩ hs
  · obtain ⟨a, vs, rfl, _, ha, rs⟩ := rp_tup hx
    obtain ⟨w', h1, h2⟩ := rps_atI rs he
    exact ix_tup value slice pins s σ H _ _ v u Q I rx ry ⟨a, vs, _, w', rfl, rp_int hy, SqT.of ha, h1, hq _ _ (Same.refl H) h2⟩ hs
  · split at he
    · rename_i hl
      obtain ⟨c, h1, rfl⟩ := Option.map_eq_some_iff.mp he
      exact ix_str value slice pins s σ H _ _ v u Q I rx ry ⟨_, _, c, rp_str hx, rp_int hy, hl, h1, hq _ _ (Same.refl H) (.mkStr _)⟩ hs
    · cases he
  · cases he
theorem s_ix (ha : SE X a ma) (hb : SE X b mb) (hs : PlainIx b := by exact fun _ _ => rfl) : SE X (.Subscript a b pos) (eBin ixD ma mb) :=
  ⟨fun B => PE.imp (pe_ix ixr (ha.pe B) (hb.pe B) hs) fun σ H Q h => bin_go h⟩

def cutL {α : Type} (xs : List α) (lo hi : Option Int) : List α := (xs.drop (HT.sIx xs.length 0 lo)).take (HT.sIx xs.length xs.length hi - HT.sIx xs.length 0 lo)
theorem rps_cut {p : Addr} {W : AP} {H : Hp} {ds : List D} {vs : List V} (r : Rps p W H ds vs) (lo hi : Option Int) : Rps p W H (cutL ds lo hi) (cutV vs lo hi) := by
  unfold cutL cutV
  rw [r.length]
  exact (r.drop _).take _
def slD (lo hi : Option Int) : D → Option D
  | .lst ds => some (.lst (cutL ds lo hi))
  | .tup ds => some (.tup (cutL ds lo hi))
  | _ => none
def rSl : V → Option Int → Option Int → Hp → VK → Prop := fun x lo hi H Q => ∃ p W dx d, WT W H ∧ Rp p W H dx x ∧ slD lo hi dx = some d ∧ ∀ v H', Same H H' → Rp p W H' d v → Q v H'
theorem slr : L2.SlR X rSl := by
  intro pins s σ H x v vl vu lo hi sl Q I rx hs pl pu ⟨p, W, dx, d, hw, hx, he, hq⟩
  unfold slD at he
  split at he
  · cases he
    obtain ⟨a, vs, rfl, _, ha, rs⟩ := rp_lst hx
    exact sl_list pins s σ H _ v vl vu lo hi sl Q I rx hs pl pu ⟨a, vs, rfl, SqL.of ha, fun q nq => hq _ _ (same_new nq) (.newLst hw nq (rps_cut rs lo hi))⟩
  · cases he
    rename_i ds
    obtain ⟨a, vs, rfl, na, ha, rs⟩ := rp_tup hx
    refine sl_tupA pins s σ H _ v vl vu lo hi sl Q I rx hs pl pu ⟨a, vs, rfl, SqT.of ha, fun ⟨z1, z2⟩ => ?_, fun _ q nq => hq _ _ (same_new nq) (.newTup hw nq (rps_cut rs lo hi))⟩
    have e : cutL ds lo hi = ds := by
      unfold cutL
      rw [rs.length, z1, z2]
      simp only [Nat.sub_zero, List.drop_zero]
      rw [← rs.length, List.take_length]
    rw [e] at hq
    exact hq _ _ (Same.refl H) (.mkTup na ha rs)
  · cases he
def tO (B : Bs) (m : M (Option Int)) : TO := fun σ H Q => ∃ s d s', StOk B σ H s ∧ m s = some (d, s') ∧ ∀ H', StOk B σ H' s' → Ev (B.W s.env σ) H (B.W s'.env σ) H' → Q d H'
structure SO (X : Cx) (e : Option Expr) (m : M (Option Int)) : Prop where
  po : ∀ B, PO X e (tO B m)
theorem PO.imp {e : Option Expr} {t t' : TO} (h : PO X e t) (f : ∀ σ H Q, t' σ H Q → t σ H Q) : PO X e t' := ⟨fun pins s σ H Q I q => h.run pins s σ H Q I (f _ _ _ q)⟩
def oNo : M (Option Int) := ret none
def oAt (m : M D) : M (Option Int) := bnd m fun d => match d with
  | .int i => ret (some i)
  | _ => fail
theorem o_no : SO X none oNo := ⟨fun B => PO.imp po_none fun σ H Q ⟨s, d, s', k, e, q⟩ => by
  obtain ⟨rfl, rfl⟩ := ret_some e
  exact q H k Ev.refl⟩
theorem o_at (h : SE X e m) : SO X (some e) (oAt m) := ⟨fun B => PO.imp (po_some (h.pe B)) fun σ H Q ⟨s, d, s', k, e, q⟩ => by
  refine tI.bind k e fun dx s1 v H1 h1 e1 k1 ev1 r1 => ?_
  cases dx <;> simp only [fail] at e1 <;> try (cases e1; done)
  obtain ⟨rfl, rfl⟩ := ret_some e1
  exact ⟨_, rp_int r1, q H1 k1 ev1⟩⟩
def eSl (m : M D) (lo hi : M (Option Int)) : M D := bnd m fun d => bnd lo fun l => bnd hi fun h => lift (slD l h d)
theorem s_slice {lo hi : Option Expr} {ml mh : M (Option Int)} {p2 : Pos} (ha : SE X a ma) (hl : SO X lo ml) (hh : SO X hi mh) : SE X (.Subscript a (.Slice lo hi none p2) pos) (eSl ma ml mh) :=
  ⟨fun B => PE.imp (pe_slice slr (ha.pe B) (hl.po B) (hh.po B)) fun σ H Q ⟨s, d, s', k, e, q⟩ => by
    refine tI.bind k e fun dx s1 v H1 h1 e1 k1 ev1 r1 => ?_
    obtain ⟨l, s2, e2, e3⟩ := bnd_some e1
    refine ⟨s1, l, s2, k1, e2, fun H2 k2 ev2 => ?_⟩
    obtain ⟨h, s3, e4, e5⟩ := bnd_some e3
    refine ⟨s2, h, s3, k2, e4, fun H3 k3 ev3 => ?_⟩
    obtain ⟨e6, rfl⟩ := lift_some e5
    exact ⟨B.p, _, dx, d, k3.wt, r1.ev (ev2.trans ev3), e6, fun v H' sm r => q v H' (k3.same sm) ((ev1.trans (ev2.trans ev3)).trans (Ev.same sm)) r⟩⟩
end
end GH

namespace GH
open PySem PySem.Spec PyProof.Rows L2

def CN (k : Bool) (a : Addr) (items : Array Value) (h : Heap) : Prop := match k with
  | true => h.IsList a items
  | false => h.IsTuple a items
def ITr (k : Bool) (it a : Addr) (i : Nat) (h : Heap) : Prop := match k with
  | true => h.IsListIter it a i
  | false => h.IsTupleIter it a i
def itO (k : Bool) (a : Addr) : Obj := match k with
  | true => { cls := .type "list_iterator", data := .fields #[.ref a, .int 0 0] }
  | false => { cls := .type "tuple_iterator", data := .fields #[.ref a, .int 0 0] }
theorem beg (k : Bool) (a : Addr) (items : Array Value) : Begins (.ref a) (itO k a) (CN k a items) := by
  cases k with
  | true => exact begins_list a items
  | false => exact begins_tuple a items
theorem itO_at {k : Bool} {it a : Addr} {h : Heap} (e : h.get? it = some (itO k a)) : ITr k it a 0 h := by
  cases k with
  | true => exact ⟨_, e, rfl, rfl⟩
  | false => exact ⟨_, e, rfl, rfl⟩
theorem draws (prog : Program) (w : World) (A : Around) (hh : A.handled = none) (k : Bool) (it a : Addr) (hne : a ≠ it) (items : Array Value) :
    Draws prog w A it [it, a] items.size (fun i v => items[i]? = some v) (fun i h => ITr k it a i h ∧ CN k a items h) := by
  cases k with
  | true => exact Draws.list hh it a hne items
  | false => exact Draws.tuple hh it a hne items
theorem ITr.obj {k : Bool} {it a : Addr} {i : Nat} {h : Heap} (x : ITr k it a i h) : ∃ o, h.get? it = some o ∧ ∀ v, o.data ≠ .cell v := by
  cases k with
  | true =>
    obtain ⟨o, e, _, d⟩ := x
    exact ⟨o, e, fun v q => by rw [d] at q; cases q⟩
  | false =>
    obtain ⟨o, e, _, d⟩ := x
    exact ⟨o, e, fun v q => by rw [d] at q; cases q⟩
theorem ITr.keep {k : Bool} {it a : Addr} {i : Nat} {h h' : Heap} (x : ITr k it a i h) (kp : ∀ o, h.get? it = some o → h'.get? it = some o) : ITr k it a i h' := by
  cases k with
  | true => exact Heap.IsListIter.at x kp
  | false => exact Heap.IsTupleIter.at x kp
def SqA (K : PySem.W.Frag) (H : Hp) (k : Bool) (a : Addr) (xs : List V) : Prop := match k with
  | true => SqL K H a xs
  | false => SqT K H a xs
theorem SqA.cn {X : Cx} {pins : List (Addr × Obj)} {σ : Sg} {H : Hp} {s : Shared} {k : Bool} {a : Addr} {xs : List V} (I : Inv X pins σ H s) (h : SqA X.K H k a xs) : ∃ its : List Value, Vals xs its ∧ CN k a its.toArray s.heap ∧ xs.length ≤ sizeLine := by
  cases k with
  | true =>
    obtain ⟨its, r, p, z⟩ := I.list h
    exact ⟨its, r, p.isList, z⟩
  | false =>
    obtain ⟨its, r, p, z⟩ := I.tuple h
    exact ⟨its, r, p, z⟩
theorem CN.lt {k : Bool} {a : Addr} {items : Array Value} {h : Heap} (x : CN k a items h) : a < h.objs.size := by
  cases k with
  | true => obtain ⟨o, e, _⟩ := x; exact Heap.lt_size e
  | false => obtain ⟨o, e, _⟩ := x; exact Heap.lt_size e
def ItN (n : Nat) (C : Hp → Prop) (row : Nat → List V) : It :=
  ⟨fun i H => i < n ∧ C H, fun i H v H' => ∃ T, v = .ref T ∧ H T = none ∧ H' = upd H T (.tup (row i)), fun i H => n ≤ i ∧ C H⟩
theorem newTup_ok {X : Cx} {pins : List (Addr × Obj)} {σ : Sg} {H : Hp} {s : Shared} {fp : List Addr} {T : Addr} {row : List V} {us : List Value} {h' : Heap} {tk : Nat} (I : Inv X pins σ H s) (hf : ∀ b ∈ fp, FpOk X pins H b)
    (hk : ∀ b o, b ∉ fp → s.heap.get? b = some o → h'.get? b = some o) (hT : s.heap.objs.size ≤ T) (hI : h'.IsTuple T us.toArray) (hl : row.length ≤ sizeLine) (r : Vals row us) :
    Inv X pins σ (upd H T (.tup row)) { s with heap := h', toks := tk } :=
  I.turnedNew (t' := tk) (ch := fp) hk hf hT ⟨hl, us, r, hI⟩

theorem turn_en {P : Program} {w : World} {K : PySem.W.Frag} {elts : List Expr} {kk : Nat} {tpos : Pos} {k : Bool} {a e it : Addr} {xs : List V} (hei : e ≠ it) :
    Turn P w K (.Tuple elts kk tpos) (ItN xs.length (fun H => SqA K H k a xs) fun i => [.int ((i : Nat) : Int), (xs[i]?).getD .non]) [e, it] e (fun i h => (∃ old, IsEnum h e it ((0 : Int) + (i : Nat)) old) ∧ ITr k it a i h) where
  mem := by simp
  obj := fun i h st b hb => by
    obtain ⟨⟨old, he⟩, hi⟩ := st
    rcases List.mem_cons.mp hb with q | hb
    · subst q; exact ⟨_, he, fun v q => nomatch q⟩
    · obtain rfl : b = it := List.mem_singleton.mp hb
      exact hi.obj
  keep := fun i h h' st k' => ⟨let ⟨old, he⟩ := st.1; ⟨old, k' e (by simp) _ he⟩, st.2.keep fun o q => k' it (by simp) o q⟩
  item := by
    intro X hP hw hK hc i pins s σ H E I hf st hg
    subst hP hw hK
    obtain ⟨hlt, hA⟩ := hg
    obtain ⟨its, rv, cn, hz⟩ := hA.cn I
    have hsz : its.toArray.size = xs.length := by rw [List.size_toArray]; exact rv.length.symm
    have ha : a ≠ e := fun z => by
      have := (hf e (by simp)).1
      subst z
      cases k with
      | true =>
        rcases hA with (q | ⟨o, q⟩) | ⟨o, _, _, q, _⟩
        · rw [this] at q; cases q
        · rw [this] at q; cases q
        · obtain ⟨o', e', d⟩ := let ⟨⟨old, he⟩, _⟩ := st; (⟨_, he, rfl⟩ : ∃ o, s.heap.get? a = some o ∧ o.cls = Value.type "enumerate")
          obtain ⟨o2, e2, c2, _⟩ := cn
          rw [e'] at e2; cases e2
          rw [d] at c2; exact absurd c2 (by decide)
      | false =>
        rcases hA with (q | ⟨o, q⟩) | ⟨o, _, _, q, _⟩
        · rw [this] at q; cases q
        · rw [this] at q; cases q
        · obtain ⟨o', e', d⟩ := let ⟨⟨old, he⟩, _⟩ := st; (⟨_, he, rfl⟩ : ∃ o, s.heap.get? a = some o ∧ o.cls = Value.type "enumerate")
          obtain ⟨o2, e2, c2, _⟩ := cn
          rw [e'] at e2; cases e2
          rw [d] at c2; exact absurd c2 (by decide)
    have hai : a ≠ it := fun z => by
      subst z
      obtain ⟨o, e1, _⟩ := st.2.obj
      cases k with
      | true =>
        obtain ⟨o1, q1, c1, _⟩ := st.2
        obtain ⟨o2, q2, c2, _⟩ := cn
        rw [q1] at q2; cases q2
        rw [c1] at c2; exact absurd c2 (by decide)
      | false =>
        obtain ⟨o1, q1, c1, _⟩ := st.2
        obtain ⟨o2, q2, c2, _⟩ := cn
        rw [q1] at q2; cases q2
        rw [c1] at c2; exact absurd c2 (by decide)
    have D := draws X.prog X.w X.A.in1 (I.ok.hd hc) k it a hai its.toArray
    have W := GoesN.enumFrom (elts := elts) (x1 := kk) (pos := tpos) 0 D e hei (by simp [hei, Ne.symm ha]) (by simp)
    refine W.goes i s _ E (by rw [hsz]; exact hlt) ⟨st.1, st.2, cn⟩ fun v h' tk hY st' hk htk => ?_
    obtain ⟨T, t, x, rfl, hT, hx, hI⟩ := hY
    have hx' : its[i]? = some x := by simpa using hx
    obtain ⟨y, hy⟩ : ∃ y, xs[i]? = some y := ⟨_, List.getElem?_eq_getElem hlt⟩
    obtain ⟨u, hu, ru⟩ := rv.get hy
    rw [hx'] at hu; cases hu
    have I1 := newTup_ok (us := [.int (0 + (i : Int)) t, x]) (row := [V.int ((i : Nat) : Int), (xs[i]?).getD .non]) (tk := tk) I hf (fun b o hb q => hk b o hb q) hT hI (by show 2 ≤ sizeLine; decide)
      (.cons ⟨t, by rw [Int.zero_add]⟩ (.cons (by rw [hy]; exact ru) .nil))
    refine ⟨.ref T, _, I1, rfl, ⟨T, rfl, I.hok.fresh hT, rfl⟩, ⟨st'.1, st'.2.1⟩, fun b hb => ?_⟩
    have hbl : b < s.heap.objs.size := by
      rcases List.mem_cons.mp hb with q | hb
      · subst q; obtain ⟨⟨old, he⟩, _⟩ := st; exact Heap.lt_size he
      · obtain rfl : b = it := List.mem_singleton.mp hb
        obtain ⟨o, e1, _⟩ := st.2.obj; exact Heap.lt_size e1
    rw [upd_ne (Nat.ne_of_lt (Nat.lt_of_lt_of_le hbl hT))]
    exact (hf b hb).1
  done := by
    intro X hP hw hK hc i pins s σ H E I hf st hg
    subst hP hw hK
    obtain ⟨hlt, hA⟩ := hg
    obtain ⟨its, rv, cn, hz⟩ := hA.cn I
    have hsz : its.length = xs.length := rv.length.symm
    obtain ⟨⟨old, he⟩, hi⟩ := st
    cases k with
    | true =>
      refine wpAny_pyNext_enum_endD (n := i) (fp := [it, a]) (P := fun j v => its.toArray[j]? = some v ∧ j < i) (St := fun j h => j = i ∧ h.IsListIter it a j ∧ h.IsList a its.toArray) ⟨?_, ?_, ?_, ?_⟩ he ⟨rfl, hi, cn⟩ fun h' hx => ⟨rfl, I.turnedL (t' := s.toks) (ch := [e, it]) (fun b o hb q => hx b o (fun z => hb (by simp [z])) q) hf⟩
      · exact fun _ _ st => let ⟨o, ho, _⟩ := st.2.1; ⟨o, ho⟩
      · exact fun _ _ _ st hk => ⟨st.1, st.2.1.at fun o e => hk it (by simp) o e, st.2.2.at fun o e => hk a (by simp) o e⟩
      · exact fun j _ _ _ hj st => absurd st.1 (Nat.ne_of_lt hj)
      · exact fun s' Q E' st hE => wpAny_nextOf_list_end (I.ok.hd hc) st.2.1 st.2.2 (by simp; omega) hE
    | false =>
      refine wpAny_pyNext_enum_endD (n := i) (fp := [it, a]) (P := fun j v => its.toArray[j]? = some v ∧ j < i) (St := fun j h => j = i ∧ h.IsTupleIter it a j ∧ h.IsTuple a its.toArray) ⟨?_, ?_, ?_, ?_⟩ he ⟨rfl, hi, cn⟩ fun h' hx => ⟨rfl, I.turnedL (t' := s.toks) (ch := [e, it]) (fun b o hb q => hx b o (fun z => hb (by simp [z])) q) hf⟩
      · exact fun _ _ st => let ⟨o, ho, _⟩ := st.2.1; ⟨o, ho⟩
      · exact fun _ _ _ st hk => ⟨st.1, st.2.1.at fun o e => hk it (by simp) o e, st.2.2.at fun o e => hk a (by simp) o e⟩
      · exact fun j _ _ _ hj st => absurd st.1 (Nat.ne_of_lt hj)
      · exact fun s' Q E' st hE => wpAny_nextOf_tuple_end (I.ok.hd hc) st.2.1 st.2.2 (by simp; omega) hE
  self := fun A i s Q E st h => let ⟨⟨old, he⟩, _⟩ := st; wpAny_pyIter_enum he h
def ItZ (n : Nat) (C : Hp → Prop) (row : Nat → List V) : It :=
  ⟨fun i H => i < n ∧ C H, fun i H v H' => ∃ T, v = .ref T ∧ H T = none ∧ H' = upd H T (.tup (row i)), fun i H => i = n ∧ C H⟩
theorem turn_z2 {P : Program} {w : World} {K : PySem.W.Frag} {elts : List Expr} {kk N : Nat} {tpos : Pos} {k1 k2 : Bool} {a1 a2 : Addr} {x1 x2 : List V} (h1 : a1 < N) (h2 : a2 < N) :
    Turn P w K (.Tuple elts kk tpos) (ItZ (min x1.length x2.length) (fun H => SqA K H k1 a1 x1 ∧ SqA K H k2 a2 x2) fun i => [(x1[i]?).getD .non, (x2[i]?).getD .non]) [N + 4, N + 2, N + 3, N, N + 1] (N + 4) (fun i h => IsZip h (N + 4) (N + 2) (N + 3) .none ∧ IsTupOf2 h (N + 2) (.ref N) (.ref (N + 1)) ∧ (∃ b1 b2, IsTupOf2 h (N + 3) b1 b2) ∧ ITr k1 N a1 i h ∧ ITr k2 (N + 1) a2 i h) where
  mem := by simp
  obj := fun i h st b hb => by
    obtain ⟨hz, hT, ⟨c1, c2, hO⟩, q1, q2⟩ := st
    simp only [List.mem_cons, List.not_mem_nil, or_false] at hb
    rcases hb with e | e | e | e | e
    · rw [e]; exact ⟨_, hz, fun v q => nomatch q⟩
    · rw [e]; exact ⟨_, hT, fun v q => nomatch q⟩
    · rw [e]; exact ⟨_, hO, fun v q => nomatch q⟩
    · rw [e]; exact q1.obj
    · rw [e]; exact q2.obj
  keep := fun i h h' st k' => by
    obtain ⟨hz, hT, ⟨c1, c2, hO⟩, q1, q2⟩ := st
    exact ⟨k' _ (by simp) _ hz, k' _ (by simp) _ hT, ⟨c1, c2, k' _ (by simp) _ hO⟩, q1.keep fun o q => k' _ (by simp) o q, q2.keep fun o q => k' _ (by simp) o q⟩
  item := by
    intro X hP hw hK hc i pins s σ H E I hf st hg
    subst hP hw hK
    obtain ⟨hlt, hA1, hA2⟩ := hg
    obtain ⟨its1, rv1, cn1, hz1⟩ := hA1.cn I
    have hs1 : its1.toArray.size = x1.length := by rw [List.size_toArray]; exact rv1.length.symm
    have D1 := draws X.prog X.w X.A.in1 (I.ok.hd hc) k1 N a1 (Nat.ne_of_lt h1) its1.toArray
    obtain ⟨its2, rv2, cn2, hz2⟩ := hA2.cn I
    have hs2 : its2.toArray.size = x2.length := by rw [List.size_toArray]; exact rv2.length.symm
    have D2 := draws X.prog X.w X.A.in1 (I.ok.hd hc) k2 (N + 1) a2 (Nat.ne_of_lt (Nat.lt_of_lt_of_le h2 (Nat.le_add_right N 1))) its2.toArray
    have sub : ∀ {b : Addr}, b ∈ ([N + 4, N + 3, N, N + 1] : List Addr) → b ∈ ([N + 4, N + 2, N + 3, N, N + 1] : List Addr) := fun {b} z => by
      simp only [List.mem_cons, List.not_mem_nil, or_false] at z
      rcases z with e | e | e | e <;> simp [e]
    have W := GoesN.zip2 (elts := elts) (x1 := kk) (pos := tpos) (zip_sep2 (N := N) (fp1 := [a1]) (fp2 := [a2]) (fun b hb => by obtain rfl := List.mem_singleton.mp hb; exact h1) (fun b hb => by obtain rfl := List.mem_singleton.mp hb; exact h2)) D1 D2
    refine W.goes i s _ E (by rw [hs1, hs2]; exact hlt) ⟨st.1, st.2.1, st.2.2.1, ⟨st.2.2.2.1, cn1⟩, ⟨st.2.2.2.2, cn2⟩⟩ fun v h' tk hY st' hk htk => ?_
    obtain ⟨T, u1, u2, rfl, hT, hx1, hx2, hI⟩ := hY
    have hx1' : its1[i]? = some u1 := by simpa using hx1
    obtain ⟨y1, hy1⟩ : ∃ y, x1[i]? = some y := ⟨_, List.getElem?_eq_getElem (show i < x1.length by omega)⟩
    obtain ⟨w1, hw1, ru1⟩ := rv1.get hy1
    rw [hx1'] at hw1; cases hw1
    have hx2' : its2[i]? = some u2 := by simpa using hx2
    obtain ⟨y2, hy2⟩ : ∃ y, x2[i]? = some y := ⟨_, List.getElem?_eq_getElem (show i < x2.length by omega)⟩
    obtain ⟨w2, hw2, ru2⟩ := rv2.get hy2
    rw [hx2'] at hw2; cases hw2
    have I1 := newTup_ok (us := [u1, u2]) (row := [(x1[i]?).getD V.non, (x2[i]?).getD V.non]) (tk := tk) I hf (fun b o hb q => hk b o (fun z => hb (sub z)) q) hT hI (by show 2 ≤ sizeLine; decide)
      (.cons (by rw [hy1]; exact ru1) (.cons (by rw [hy2]; exact ru2) .nil))
    refine ⟨.ref T, _, I1, rfl, ⟨T, rfl, I.hok.fresh hT, rfl⟩, ⟨st'.1, st'.2.1, st'.2.2.1, st'.2.2.2.1.1, st'.2.2.2.2.1⟩, fun b hb => ?_⟩
    have hbl : b < s.heap.objs.size := by
      obtain ⟨hz, hT, ⟨c1, c2, hO⟩, q1, q2⟩ := st
      simp only [List.mem_cons, List.not_mem_nil, or_false] at hb
      rcases hb with e | e | e | e | e
      · rw [e]; exact Heap.lt_size hz
      · rw [e]; exact Heap.lt_size hT
      · rw [e]; exact Heap.lt_size hO
      · rw [e]; obtain ⟨o, e1, _⟩ := q1.obj; exact Heap.lt_size e1
      · rw [e]; obtain ⟨o, e1, _⟩ := q2.obj; exact Heap.lt_size e1
    rw [upd_ne (Nat.ne_of_lt (Nat.lt_of_lt_of_le hbl hT))]
    exact (hf b hb).1
  done := by
    intro X hP hw hK hc i pins s σ H E I hf st hg
    subst hP hw hK
    obtain ⟨hlt, hA1, hA2⟩ := hg
    subst hlt
    obtain ⟨its1, rv1, cn1, hz1⟩ := hA1.cn I
    have hs1 : its1.toArray.size = x1.length := by rw [List.size_toArray]; exact rv1.length.symm
    have D1 := draws X.prog X.w X.A.in1 (I.ok.hd hc) k1 N a1 (Nat.ne_of_lt h1) its1.toArray
    obtain ⟨its2, rv2, cn2, hz2⟩ := hA2.cn I
    have hs2 : its2.toArray.size = x2.length := by rw [List.size_toArray]; exact rv2.length.symm
    have D2 := draws X.prog X.w X.A.in1 (I.ok.hd hc) k2 (N + 1) a2 (Nat.ne_of_lt (Nat.lt_of_lt_of_le h2 (Nat.le_add_right N 1))) its2.toArray
    have sub : ∀ {b : Addr}, b ∈ ([N + 4, N + 3, N, N + 1] : List Addr) → b ∈ ([N + 4, N + 2, N + 3, N, N + 1] : List Addr) := fun {b} z => by
      simp only [List.mem_cons, List.not_mem_nil, or_false] at z
      rcases z with e | e | e | e <;> simp [e]
    have W := GoesN.zip2 (elts := elts) (x1 := kk) (pos := tpos) (zip_sep2 (N := N) (fp1 := [a1]) (fp2 := [a2]) (fun b hb => by obtain rfl := List.mem_singleton.mp hb; exact h1) (fun b hb => by obtain rfl := List.mem_singleton.mp hb; exact h2)) D1 D2
    refine W.stops s _ E (by rw [hs1, hs2]; exact ⟨st.1, st.2.1, st.2.2.1, ⟨st.2.2.2.1, cn1⟩, ⟨st.2.2.2.2, cn2⟩⟩) fun h' tk hk htk => ?_
    exact I.turnedL (fun b o hb q => hk b o (fun z => hb (sub z)) q) hf
  self := fun A i s Q E st h => wpAny_pyIter_zip st.1 h
end GH

namespace GH
open PySem PySem.Spec PyProof.Rows L2

theorem meets_enum1 {v : Value} {o : Obj} {C : Heap → Prop} (B : Begins v o C) :
    Meets (Builtin.«enumerate.__new__» ⟨[.type "enumerate", v], []⟩) (fun _ R s => C s.heap ∧
      R (.ok (.ret (.ref (s.heap.push o).objs.size))) { s with heap := (s.heap.push o).push { cls := .type "enumerate", data := .fields #[.none, .bool false, .ref s.heap.objs.size, rawInt 0, .none, .none] } }) :=
  .of_wp fun prog w A R s h => by
    obtain ⟨hp, g, d, tk, os⟩ := s
    obtain ⟨h1, h⟩ := h
    have hsub := sub_enumerate
    have q1 : ∀ {A2 : Around} {E2 : Value → Shared → Prop} {Q2 : Value → Shared → Prop}, Q2 (.ref hp.objs.size) ⟨hp.push o, g, d, tk, os⟩ → wpAny (model prog w) A2 (pyIter v) Q2 E2 ⟨hp, g, d, tk, os⟩ :=
      fun q => B.iter prog w _ _ ⟨hp, g, d, tk, os⟩ _ h1 q
    wp_walk using q1
    refine wpAny_stack_any fun st => wpAny_pure ?_
    split
    · rename_i c _ _ _ _ _
      cases (c == Value.type "enumerate")
      · wp_walk using q1
        exact ⟨_, rfl, h⟩
      · wp_walk using q1
        exact ⟨_, rfl, h⟩
    · wp_walk using q1
      exact ⟨_, rfl, h⟩
theorem enum1_begins {prog : Program} {w : World} {A : Around} {E : Value → Shared → Prop} {s : Shared} {v : Value} {o : Obj} {C : Heap → Prop} {Q : Value → Shared → Prop} (B : Begins v o C) (h1 : C s.heap)
    (h : ∀ h', IsEnum h' (s.heap.objs.size + 1) s.heap.objs.size 0 .none → h'.get? s.heap.objs.size = some o → (∀ b o2, s.heap.get? b = some o2 → h'.get? b = some o2) → Q (.ref (s.heap.objs.size + 1)) { s with heap := h' }) :
    wpAny (model prog w) A (call (.type "enumerate") [v]) Q E s := by
  refine callType_new F.called_enumerate (by decide) (F.typeCall_enumerate_1 _) (F.newCall_enumerate_1 _) (fun obj => F.args_object_init_2 obj _) F.entry_enumerate_new (meets_enum1 B) ⟨h1, ?_⟩
  have hz : (s.heap.push o).objs.size = s.heap.objs.size + 1 := Heap.size_push ..
  show _ ∧ _
  rw [hz]
  have he : IsEnum ((s.heap.push o).push { cls := .type "enumerate", data := .fields #[.none, .bool false, .ref s.heap.objs.size, rawInt 0, .none, .none] }) (s.heap.objs.size + 1) s.heap.objs.size 0 .none := by
    have q := Heap.get?_push_size (s.heap.push o) (o := { cls := .type "enumerate", data := .fields #[.none, .bool false, .ref s.heap.objs.size, rawInt 0, .none, .none] }) rfl
    rw [hz] at q; exact q
  exact ⟨⟨_, he, rfl⟩, h _ he (Heap.get?_push_of_some _ (Heap.get?_push_size _ B.free)) fun b o2 x => Heap.get?_push_of_some _ (Heap.get?_push_of_some _ x)⟩

def enumF : Nat → List D → List D
  | _, [] => []
  | i, d :: r => .tup [.int (i : Nat), d] :: enumF (i + 1) r
theorem enumF_get : ∀ (ds : List D) (k i : Nat), (enumF k ds)[i]? = ds[i]?.map fun d => .tup [.int ((k + i : Nat) : Int), d]
  | [], _, _ => by simp [enumF]
  | d :: r, k, 0 => by simp [enumF]
  | d :: r, k, i + 1 => by
    simp only [enumF, List.getElem?_cons_succ]
    rw [enumF_get r (k + 1) i]
    rw [show k + 1 + i = k + (i + 1) by omega]
theorem enumF_len : ∀ (ds : List D) (k : Nat), (enumF k ds).length = ds.length
  | [], _ => rfl
  | _ :: r, k => by simp [enumF, enumF_len r]
def zipF2 : List D → List D → List D
  | a :: as, b :: bs => .tup [a, b] :: zipF2 as bs
  | _, _ => []
theorem zipF2_len : ∀ (as bs : List D), (zipF2 as bs).length = min as.length bs.length
  | [], _ => by simp [zipF2]
  | _ :: _, [] => by simp [zipF2]
  | a :: as, b :: bs => by simp [zipF2, zipF2_len as bs]
theorem zipF2_get : ∀ {as bs : List D} {i : Nat} {d : D}, (zipF2 as bs)[i]? = some d → ∃ a b, as[i]? = some a ∧ bs[i]? = some b ∧ d = .tup [a, b]
  | [], _, _, _, h => by simp [zipF2] at h
  | _ :: _, [], _, _, h => by simp [zipF2] at h
  | a :: as, b :: bs, 0, d, h => by simp [zipF2] at h; exact ⟨a, b, rfl, rfl, h.symm⟩
  | a :: as, b :: bs, i + 1, d, h => by
    simp only [zipF2, List.getElem?_cons_succ] at h
    obtain ⟨x, y, h1, h2, h3⟩ := zipF2_get h
    exact ⟨x, y, by simpa using h1, by simpa using h2, h3⟩
theorem rp_seq {p : Addr} {W : AP} {H : Hp} {d : D} {v : V} {ds : List D} (r : Rp p W H d v) (h : seqD d = some ds) : ∃ k a vs o, v = .ref a ∧ ¬ W a ∧ H a = some o ∧ Rps p W H ds vs ∧ ∀ (K : PySem.W.Frag) (H' : Hp), H' a = some o → SqA K H' k a vs := by
  cases d <;> simp only [seqD] at h <;> cases h
  · obtain ⟨a, vs, rfl, n, ha, rs⟩ := rp_tup r
    exact ⟨false, a, vs, _, rfl, n, ha, rs, fun K H' h => SqT.of h⟩
  · obtain ⟨a, vs, rfl, n, ha, rs⟩ := rp_lst r
    exact ⟨true, a, vs, _, rfl, n, ha, rs, fun K H' h => SqL.of h⟩
  · obtain ⟨a, o, rfl, n, ha, _⟩ := r
    exact ⟨false, a, _, _, rfl, n, ha, ints_rps, fun K H' h => .inl (.inr ⟨o, h⟩)⟩
theorem getD_rp {p : Addr} {W : AP} {H : Hp} {ds : List D} {vs : List V} {i : Nat} {d : D} (r : Rps p W H ds vs) (h : ds[i]? = some d) : Rp p W H d ((vs[i]?).getD .non) := by
  obtain ⟨v, h1, h2⟩ := r.get h
  rw [h1]; exact h2

section
variable {X : Cx} {e a b c : Expr} {elts : List Expr} {kk : Nat} {tpos p pos : Pos} {m ma mb mc : M D}
def iEnum (m : M D) : M (List D) := bnd m fun d => bnd (lift (seqD d)) fun ds => ret (enumF 0 ds)
theorem i_enum (hg : Gl X "enumerate") (hm : X.mg "enumerate" = none) (ha : SE X e m) (hn : starEach [e] X.env = (false, eval e X.env) :: starEach [] X.env := by rfl) (hs : starEach [e] X.env = [(false, eval e X.env)] := by rfl) :
    SI X (.Tuple elts kk tpos) (.Call (.Name "enumerate" p) [e] [] pos) (iEnum m) := ⟨fun B => ⟨fun pins sh σ H R I ⟨s, ds, s', k, ee, q⟩ => by
  refine Call_ (ld_blt I hg hm boot_enumerate (PyProof.Rows.callWith_type1 (thn ((pa_cons (ha.pe B) pa_nil hn).run pos pins sh σ H (fun vs H1 => ∃ v, vs = [v] ∧ ∃ d s1 es, StOk B σ H1 s1 ∧ Ev (B.W s.env σ) H (B.W s1.env σ) H1 ∧ Rp B.p (B.W s1.env σ) H1 d v ∧ seqD d = some es ∧ ds = enumF 0 es ∧ s' = s1) I ?_) fun us s1 ⟨vs, H1, I1, r1, q1⟩ => ?_) hs rfl))
  · refine tI.bind k ee fun d s1 v H1 h1 e1 k1 ev1 r1 => ?_
    obtain ⟨es, s2, e2, e3⟩ := bnd_some e1
    obtain ⟨e4, rfl⟩ := lift_some e2
    obtain ⟨rfl, rfl⟩ := ret_some e3
    exact ⟨v, rfl, d, _, es, k1, ev1, r1, e4, rfl, rfl⟩
  · obtain ⟨v, rfl, d, sx, es, k1, ev1, rv, hd, rfl, rfl⟩ := q1
    obtain ⟨u, rfl, ru⟩ := r1.one
    obtain ⟨kd, ad, vs, o, rfl, nw, hH, rs, fs⟩ := rp_seq rv hd
    cases ru
    obtain ⟨its, rvs, cn, hz⟩ := (fs X.K H1 hH).cn I1
    refine enum1_begins (beg kd ad its.toArray) cn fun h' he hit hk => wpAny_pyIter_enum he ?_
    have I2 : Inv X pins σ H1 { s1 with heap := h' } := I1.kept (t' := s1.toks) hk
    refine ⟨s1.heap.objs.size + 1, [s1.heap.objs.size + 1, s1.heap.objs.size], _, _, H1, rfl, I2, turn_en (k := kd) (a := ad) (xs := vs) (Nat.succ_ne_self _), ⟨⟨.none, he⟩, itO_at hit⟩, fun b hb => ?_, ?_⟩
    · simp only [List.mem_cons, List.not_mem_nil, or_false] at hb
      have hle : s1.heap.objs.size ≤ b := by
        rcases hb with z | z
        · rw [z]; exact Nat.le_add_right _ _
        · rw [z]; exact Nat.le_refl _
      exact I1.fpOk hle (I1.hok.fresh hle)
    · refine q _ H1 k1 ev1 fun W2 H2 ev wt => ?_
      have hH2 := (ev ad o hH nw).1
      have hlen := rs.length
      refine ⟨fun i hi => ⟨by rw [enumF_len] at hi; omega, fs _ _ hH2⟩, ⟨by rw [enumF_len]; omega, fs _ _ hH2⟩, fun i d' x H3 hd' y => ?_⟩
      obtain ⟨T, rfl, nT, rfl⟩ := y
      rw [enumF_get] at hd'
      obtain ⟨d0, h0, rfl⟩ := Option.map_eq_some_iff.mp hd'
      refine ⟨same_new nT, .newTup wt nT (.cons (by simpa using Rp.mkInt _) (.cons (getD_rp (rs.ev ev) h0) .nil))⟩⟩⟩
def iZip2 (ma mb : M D) : M (List D) := bnd ma fun a => bnd mb fun b => bnd (lift (seqD a)) fun as => bnd (lift (seqD b)) fun bs => ret (zipF2 as bs)
theorem i_zip2 (hg : Gl X "zip") (hm : X.mg "zip" = none) (ha : SE X a ma) (hb : SE X b mb) (hn : starEach [a, b] X.env = (false, eval a X.env) :: starEach [b] X.env := by rfl) (hn2 : starEach [b] X.env = (false, eval b X.env) :: starEach [] X.env := by rfl)
    (hpl : (backTo pos (starEach [b] X.env)).any (·.1) = false := by rfl) : SI X (.Tuple elts kk tpos) (.Call (.Name "zip" p) [a, b] [] pos) (iZip2 ma mb) := ⟨fun B => ⟨fun pins sh σ H R I ⟨s, ds, s', k, ee, q⟩ => by
  refine Call_ (ld_blt I hg hm PyProof.Rows.boot_zip (PyProof.Rows.callWith_type1 (thn ((pa_cons (ha.pe B) (pa_cons (hb.pe B) pa_nil hn2) hn).run pos pins sh σ H (fun vs H1 => ∃ v1 v2, vs = [v1, v2] ∧ ∃ d1 d2 s1 es1 es2, StOk B σ H1 s1 ∧ Ev (B.W s.env σ) H (B.W s1.env σ) H1 ∧ Rp B.p (B.W s1.env σ) H1 d1 v1 ∧ Rp B.p (B.W s1.env σ) H1 d2 v2 ∧ seqD d1 = some es1 ∧ seqD d2 = some es2 ∧ ds = zipF2 es1 es2 ∧ s' = s1) I ?_) fun us s1 ⟨vs, H1, I1, r1, q1⟩ => ?_) hn hpl))
  · refine tI.bind k ee fun d1 s1 v1 H1 h1 e1 k1 ev1 r1 => ?_
    refine tI.bind k1 e1 fun d2 s2 v2 H2 h2 e2 k2 ev2 r2 => ?_
    obtain ⟨es1, s3, e3, e4⟩ := bnd_some e2
    obtain ⟨e5, rfl⟩ := lift_some e3
    obtain ⟨es2, s4, e6, e7⟩ := bnd_some e4
    obtain ⟨e8, rfl⟩ := lift_some e6
    obtain ⟨rfl, rfl⟩ := ret_some e7
    exact ⟨v1, v2, rfl, d1, d2, _, es1, es2, k2, ev1.trans ev2, r1.ev ev2, r2, e5, e8, rfl, rfl⟩
  · obtain ⟨v1, v2, rfl, d1, d2, sx, es1, es2, k1, ev1, rv1, rv2, hd1, hd2, rfl, rfl⟩ := q1
    obtain ⟨u1, u2, rfl, ru1, ru2⟩ := r1.two
    obtain ⟨kd1, a1, vs1, o1, rfl, nw1, hH1, rs1, fs1⟩ := rp_seq rv1 hd1
    obtain ⟨kd2, a2, vs2, o2, rfl, nw2, hH2, rs2, fs2⟩ := rp_seq rv2 hd2
    cases ru1
    cases ru2
    obtain ⟨its1, rvs1, cn1, hz1⟩ := (fs1 X.K H1 hH1).cn I1
    obtain ⟨its2, rvs2, cn2, hz2⟩ := (fs2 X.K H1 hH2).cn I1
    refine zip_begins2 (beg kd1 a1 its1.toArray) (beg kd2 a2 its2.toArray) cn1 cn2 fun h' hz hT hO i1 i2 hsz hk => wpAny_pyIter_zip hz ?_
    have I2 : Inv X pins σ H1 { s1 with heap := h' } := I1.kept (t' := s1.toks) hk
    refine ⟨s1.heap.objs.size + 4, _, _, _, H1, rfl, I2, turn_z2 (k1 := kd1) (k2 := kd2) (a1 := a1) (a2 := a2) (x1 := vs1) (x2 := vs2) cn1.lt cn2.lt, ⟨hz, hT, ⟨_, _, hO⟩, itO_at i1, itO_at i2⟩, fun b hb => ?_, ?_⟩
    · simp only [List.mem_cons, List.not_mem_nil, or_false] at hb
      have hle : s1.heap.objs.size ≤ b := by
        rcases hb with z | z | z | z | z <;> rw [z] <;> first | exact Nat.le_add_right _ _ | exact Nat.le_refl _
      exact I1.fpOk hle (I1.hok.fresh hle)
    · refine q _ H1 k1 ev1 fun W2 H2 ev wt => ?_
      have g1 := (ev a1 o1 hH1 nw1).1
      have g2 := (ev a2 o2 hH2 nw2).1
      have l1 := rs1.length
      have l2 := rs2.length
      refine ⟨fun i hi => ⟨by rw [zipF2_len] at hi; omega, fs1 _ _ g1, fs2 _ _ g2⟩, ⟨by rw [zipF2_len]; omega, fs1 _ _ g1, fs2 _ _ g2⟩, fun i d' x H3 hd' y => ?_⟩
      obtain ⟨T, rfl, nT, rfl⟩ := y
      obtain ⟨x1, x2, h1, h2, rfl⟩ := zipF2_get hd'
      exact ⟨same_new nT, .newTup wt nT (.cons (getD_rp (rs1.ev ev) h1) (.cons (getD_rp (rs2.ev ev) h2) .nil))⟩⟩⟩
end
end GH

namespace GH
open PySem PySem.Spec PyProof.Rows L2

theorem W_own {B : Bs} {env : List (Option Sl)} {σ : Sg} {i : Nat} {sl sl' : Sl} (hi : env[i]? = some (some sl)) (ho : sl.isOwn = true) (ho' : sl'.isOwn = true) (b : Addr) : B.W (env.set i (some sl')) σ b ↔ B.W env σ b := by
  have hlt : i < env.length := (List.getElem?_eq_some_iff.mp hi).1
  constructor
  · rintro (h | ⟨j, x, e1, e2, e3⟩)
    · exact .inl h
    · by_cases hj : i = j
      · subst hj
        exact .inr ⟨i, sl, hi, ho, e3⟩
      · rw [List.getElem?_set_ne hj] at e1
        exact .inr ⟨j, x, e1, e2, e3⟩
  · rintro (h | ⟨j, x, e1, e2, e3⟩)
    · exact .inl h
    · by_cases hj : i = j
      · subst hj
        exact .inr ⟨i, sl', List.getElem?_set_self hlt, ho', e3⟩
      · exact .inr ⟨j, x, by rw [List.getElem?_set_ne hj]; exact e1, e2, e3⟩
theorem StOk.wr {B : Bs} {σ : Sg} {H : Hp} {s : S} {i : Nat} {sl sl' : Sl} {a : Addr} {o : HO} (k : StOk B σ H s) (hi : s.env[i]? = some (some sl)) (ho : sl.isOwn = true) (ho' : sl'.isOwn = true) (ha : σ[i]? = some (some (.ref a)))
    (r : OwnR B.p (B.W s.env σ) H sl' o) : StOk B σ (upd H a o) { s with env := s.env.set i (some sl') } ∧ Ev (B.W s.env σ) H (B.W (s.env.set i (some sl')) σ) (upd H a o) := by
  have hlt : i < s.env.length := (List.getElem?_eq_some_iff.mp hi).1
  have wa : B.W s.env σ a := .inr ⟨i, sl, hi, ho, ha⟩
  obtain ⟨a', o', q1, q2, q3, q4, q5⟩ := k.own i sl hi ho
  rw [ha] at q1; cases q1
  have hp : a ≠ B.p := fun z => q5 (z ▸ k.wp)
  have hc : a ≠ B.c := fun z => q5 (z ▸ k.wcc)
  have ev : Ev (B.W s.env σ) H (B.W (s.env.set i (some sl')) σ) (upd H a o) := fun b x h n => by
    have : b ≠ a := fun z => n (z ▸ wa)
    exact ⟨by rw [upd_ne this]; exact h, fun z => n ((W_own hi ho ho' b).mp z)⟩
  refine ⟨⟨by simpa using k.len, fun j d' h => ?_, fun j x h h' => ?_, fun j1 j2 sl1 sl2 b h1 o1 h2 o2 q1 q2 => ?_, ⟨by rw [upd_ne (Ne.symm hp)]; exact k.src.d, by rw [upd_ne (Ne.symm hc)]; exact k.src.l⟩, fun b x e n1 n2 => ?_, fun b h => ?_, k.wp, k.wcc⟩, ev⟩
  · have h : (s.env.set i (some sl'))[j]? = _ := h
    by_cases hj : i = j
    · subst hj
      rw [List.getElem?_set_self hlt] at h
      cases h; cases ho'
    · rw [List.getElem?_set_ne hj] at h
      obtain ⟨v, h1, h2⟩ := k.val j d' h
      exact ⟨v, h1, h2.ev ev⟩
  · have h : (s.env.set i (some sl'))[j]? = _ := h
    by_cases hj : i = j
    · subst hj
      rw [List.getElem?_set_self hlt] at h
      cases h
      exact ⟨a, o, ha, upd_same, r.ev ev, q4, q5⟩
    · rw [List.getElem?_set_ne hj] at h
      obtain ⟨b, x', h1, h2, h3, h4⟩ := k.own j x h h'
      have : b ≠ a := fun z => hj (k.sep i j sl x a hi ho h h' ha (z ▸ h1))
      exact ⟨b, x', h1, by rw [upd_ne this]; exact h2, h3.ev ev, h4⟩
  · have h1 : (s.env.set i (some sl'))[j1]? = _ := h1
    have h2 : (s.env.set i (some sl'))[j2]? = _ := h2
    have g : ∀ (j : Nat) (x : Sl), (s.env.set i (some sl'))[j]? = some (some x) → x.isOwn = true → ∃ y : Sl, s.env[j]? = some (some y) ∧ y.isOwn = true := fun j x h hx => by
      by_cases hj : i = j
      · subst hj; exact ⟨sl, hi, ho⟩
      · rw [List.getElem?_set_ne hj] at h; exact ⟨x, h, hx⟩
    obtain ⟨y1, e1, e2⟩ := g j1 sl1 h1 o1
    obtain ⟨y2, e3, e4⟩ := g j2 sl2 h2 o2
    exact k.sep j1 j2 y1 y2 b e1 e2 e3 e4 q1 q2
  · have : b ≠ a := fun z => by subst z; rw [q4] at e; cases e
    rw [upd_ne this]; exact k.keep b x e n1 n2
  · by_cases z : b = a
    · subst z; exact ⟨o, upd_same, r.noTup⟩
    · rw [upd_ne z]; exact k.wc b h
theorem StOk.ownL {B : Bs} {σ : Sg} {H : Hp} {s : S} {i : Nat} {ds : List D} (k : StOk B σ H s) (hi : s.env[i]? = some (some (.own ds))) : ∃ a vs, σ[i]? = some (some (.ref a)) ∧ H a = some (.lst vs) ∧ Rps B.p (B.W s.env σ) H ds vs := by
  obtain ⟨a, o, h1, h2, ⟨vs, rfl, h3⟩, h4, h5⟩ := k.own i _ hi rfl
  exact ⟨a, vs, h1, h2, h3⟩

def D.isFlat : D → Bool
  | .non => true
  | .bl _ => true
  | .int _ => true
  | .str _ => true
  | _ => false
theorem D.isFlat_rp {d : D} (h : d.isFlat = true) {p : Addr} {W W' : AP} {H H' : Hp} {v : V} (r : Rp p W H d v) : Rp p W' H' d v := by
  cases d <;> simp [D.isFlat] at h <;> simpa [Rp] using r
def Sl.bor : Sl → D
  | .val d => d
  | .own ds => .lst ds
  | .ownK ks ds => .dct ks ds
  | .ownT ks ds => .dtt ks ds
def borSl (t : Bool) : Option Sl → Option Sl
  | some (.val d) => some (.val d)
  | some sl => if t = true then some (.val sl.bor) else none
  | none => none
def borE (is : List Nat) (env : List (Option Sl)) : List (Option Sl) := env.mapIdx fun j x => borSl (is.contains j) x
def eBor (is : List Nat) (m : M D) : M D := fun s => match m ⟨borE is s.env, s.src⟩ with
  | some (d, s') => if d.isFlat = true then some (d, ⟨s.env, s'.src⟩) else none
  | none => none
def tBor (is : List Nat) (m : M Bool) : M Bool := fun s => match m ⟨borE is s.env, s.src⟩ with
  | some (d, s') => some (d, ⟨s.env, s'.src⟩)
  | none => none
def Bs.bor (B : Bs) (is : List Nat) (env : List (Option Sl)) (σ : Sg) (H : Hp) : Bs :=
  { B with Wc := fun b => B.W env σ b ∧ ¬ ∃ i sl, i ∈ is ∧ env[i]? = some (some sl) ∧ sl.isOwn = true ∧ σ[i]? = some (some (.ref b)), H0 := H }
theorem borE_get {is : List Nat} {env : List (Option Sl)} {j : Nat} {x : Sl} (h : (borE is env)[j]? = some (some x)) : (∃ d, x = .val d ∧ env[j]? = some (some (.val d))) ∨ (∃ sl, env[j]? = some (some sl) ∧ sl.isOwn = true ∧ j ∈ is ∧ x = .val sl.bor) := by
  unfold borE at h
  rw [List.getElem?_mapIdx] at h
  obtain ⟨y, h1, h2⟩ := Option.map_eq_some_iff.mp h
  cases y with
  | none => simp [borSl] at h2
  | some sl =>
    by_cases hj : is.contains j = true
    · have hm : j ∈ is := by simpa using hj
      rw [hj] at h2
      cases sl <;> simp only [borSl, if_pos] at h2 <;> cases h2
      · exact .inl ⟨_, rfl, h1⟩
      · exact .inr ⟨_, h1, rfl, hm, rfl⟩
      · exact .inr ⟨_, h1, rfl, hm, rfl⟩
      · exact .inr ⟨_, h1, rfl, hm, rfl⟩
    · have hf : is.contains j = false := by simpa using hj
      rw [hf] at h2
      cases sl <;> simp only [borSl, Bool.false_eq_true, if_false] at h2 <;> cases h2
      · exact .inl ⟨_, rfl, h1⟩
theorem StOk.bor {B : Bs} {σ : Sg} {H : Hp} {s : S} (k : StOk B σ H s) (is : List Nat) : StOk (B.bor is s.env σ H) σ H ⟨borE is s.env, s.src⟩ := by
  have noOwn : ∀ b, ¬ OwnA (borE is s.env) σ b := fun b ⟨i, sl, h1, h2, _⟩ => by
    rcases borE_get h1 with ⟨d, rfl, _⟩ | ⟨_, _, _, _, rfl⟩ <;> cases h2
  have sub : ∀ b, (B.bor is s.env σ H).W (borE is s.env) σ b → B.W s.env σ b := fun b hb => by
    rcases hb with hb | hb
    · exact hb.1
    · exact absurd hb (noOwn b)
  have fresh : ∀ (i : Nat) (sl : Sl) (b : Addr), s.env[i]? = some (some sl) → sl.isOwn = true → σ[i]? = some (some (.ref b)) → ¬ B.Wc b := fun i sl b h1 h2 h3 => by
    obtain ⟨b', o, q1, _, _, _, q5⟩ := k.own i sl h1 h2
    rw [h3] at q1; cases q1; exact q5
  refine ⟨by show (borE is s.env).length = _; unfold borE; rw [List.length_mapIdx]; exact k.len, fun i d h => ?_, fun i sl h ho => ?_, fun i j sl sl' a h ho => ?_, k.src, fun a o h _ _ => h, fun a h => k.wt a h.1,
    ⟨.inl k.wp, fun ⟨i, sl, _, h1, h2, h3⟩ => fresh i sl _ h1 h2 h3 k.wp⟩, ⟨.inl k.wcc, fun ⟨i, sl, _, h1, h2, h3⟩ => fresh i sl _ h1 h2 h3 k.wcc⟩⟩
  · rcases borE_get h with ⟨d', e, h1⟩ | ⟨sl, h1, ho, hm, e⟩
    · cases e
      obtain ⟨v, q1, q2⟩ := k.val i d h1
      exact ⟨v, q1, q2.ev (Ev.less sub)⟩
    · cases e
      obtain ⟨a, o, q1, q2, q3, q4, q5⟩ := k.own i sl h1 ho
      have na : ¬ (B.bor is s.env σ H).W (borE is s.env) σ a := by
        rintro (z | z)
        · exact z.2 ⟨i, sl, hm, h1, ho, q1⟩
        · exact noOwn a z
      refine ⟨_, q1, ?_⟩
      have q3' := OwnR.ev (Ev.less (H := H) sub) sl o q3
      cases sl with
      | val d => cases ho
      | own ds => obtain ⟨vs, rfl, r⟩ := q3'; exact .mkLst na q2 r
      | ownK ks ds => obtain ⟨kvs, rfl, r1, r⟩ := q3'; simp only [Sl.bor, Rp]; exact ⟨a, kvs, rfl, na, .inl q2, r1, r⟩
      | ownT ks ds => obtain ⟨kvs, rfl, r1, r⟩ := q3'; simp only [Sl.bor, Rp]; exact ⟨a, kvs, rfl, na, .inl q2, r1, r⟩
  · rcases borE_get h with ⟨d', e, h1⟩ | ⟨_, _, _, _, e⟩ <;> cases e <;> cases ho
  · rcases borE_get h with ⟨d', e, h1⟩ | ⟨_, _, _, _, e⟩ <;> cases e <;> cases ho
theorem StOk.unbor {B : Bs} {σ : Sg} {H H' : Hp} {s s' : S} {is : List Nat} (k : StOk B σ H s) (k' : StOk (B.bor is s.env σ H) σ H' s') : StOk B σ H' ⟨s.env, s'.src⟩ ∧ Ev (B.W s.env σ) H (B.W s.env σ) H' :=
  k.called (fun a o h n1 n2 => k'.keep a o h n1 n2) k'.src
section
variable {X : Cx} {e : Expr} {m : M D} {mt : M Bool} {is : List Nat}
theorem s_bor (h : SE X e m) : SE X e (eBor is m) := ⟨fun B => ⟨fun pins sh σ H Q I ⟨s, d, s', k, e, q⟩ => by
  unfold eBor at e
  split at e
  · rename_i d1 s1 em
    split at e
    · rename_i hd
      cases e
      refine (h.pe (B.bor is s.env σ H)).run pins sh σ H Q I ⟨_, d, s1, k.bor is, em, fun v H' k' ev r => ?_⟩
      obtain ⟨k2, ev2⟩ := k.unbor k'
      exact q v H' k2 ev2 (D.isFlat_rp hd r)
    · cases e
  · cases e⟩⟩
theorem t_bor (h : ST X e mt) : ST X e (tBor is mt) := ⟨fun B => ⟨fun pins sh σ H Q I ⟨s, d, s', k, e, q⟩ => by
  unfold tBor at e
  split at e
  · rename_i d1 s1 em
    cases e
    refine (h.pt (B.bor is s.env σ H)).run pins sh σ H Q I ⟨_, d, s1, k.bor is, em, fun H' k' ev => ?_⟩
    obtain ⟨k2, ev2⟩ := k.unbor k'
    exact q H' k2 ev2
  · cases e⟩⟩
end

section
variable {X : Cx} {e b : Expr} {es : List Expr} {x : Str} {i : Nat} {pos p apos cpos : Pos} {m mb : M D}
theorem StOk.slot {B : Bs} {σ : Sg} {H : Hp} {s : S} {i : Nat} {sl : Sl} (k : StOk B σ H s) (hi : s.env[i]? = some (some sl)) : ∃ v, σ[i]? = some (some v) := by
  by_cases ho : sl.isOwn = true
  · obtain ⟨a, _, h, _⟩ := k.own i sl hi ho; exact ⟨_, h⟩
  · cases sl with
    | val d => obtain ⟨v, h, _⟩ := k.val i d hi; exact ⟨v, h⟩
    | own _ => exact absurd rfl ho
    | ownK _ _ => exact absurd rfl ho
    | ownT _ _ => exact absurd rfl ho
def putL (i : Nat) (f : List D → Option (List D)) : M Unit := fun s => match s.env[i]? with
  | some (some (.own ds)) => (match f ds with
    | some ds' => some ((), ⟨s.env.set i (some (.own ds')), s.src⟩)
    | none => none)
  | _ => none
def ownHere (i : Nat) : M Unit := fun s => match s.env[i]? with
  | some (some (.own _)) => some ((), s)
  | _ => none
def appL (d : D) (ds : List D) : Option (List D) := if ds.length < sizeLine then some (ds ++ [d]) else none
def eApp (i : Nat) (m : M D) : M D := bnd (ownHere i) fun _ => bnd m fun d => bnd (putL i (appL d)) fun _ => ret .non
theorem own_here {i : Nat} {s s' : S} {u : Unit} (h : ownHere i s = some (u, s')) : s' = s ∧ ∃ ds, s.env[i]? = some (some (.own ds)) := by
  unfold ownHere at h
  split at h
  · rename_i ds hd; cases h; exact ⟨rfl, ds, hd⟩
  · cases h
theorem put_L {i : Nat} {f : List D → Option (List D)} {s s' : S} {u : Unit} (h : putL i f s = some (u, s')) : ∃ ds ds', s.env[i]? = some (some (.own ds)) ∧ f ds = some ds' ∧ s' = ⟨s.env.set i (some (.own ds')), s.src⟩ := by
  unfold putL at h
  split at h
  · rename_i ds hd
    split at h
    · rename_i ds' hf; cases h; exact ⟨ds, ds', hd, hf, rfl⟩
    · cases h
  · cases h
theorem s_append (hx : PE X (.Name x p) (tVar i)) (ha : SE X e m)
    (hbase : attributeBase (.Name x p) "append" X.env (eval (.Name x p) X.env) = eval (.Name x p) X.env := by rfl)
    (hfew : ((backTo cpos (starEach [e] X.env)).all (fun x => !x.1) && (backToKw cpos (keywordEach [] X.env)).all (fun x => x.1.isSome)
      && decide ([e].length + ([] : List Keyword).length + (if ([] : List Keyword).isEmpty then 0 else 1) < 30)) = true := by rfl)
    (hline : (apos.endLine == cpos.line) = true := by rfl) (hs : starEach [e] X.env = (false, eval e X.env) :: starEach [] X.env := by rfl) (hpl : (backTo cpos (starEach [] X.env)).any (·.1) = false := by rfl) :
    SE X (.Call (.Attribute (.Name x p) "append" apos) [e] [] cpos) (eApp i m) := ⟨fun B => by
  refine PE.imp (pe_bm PySem.F.plainAttrs_list PySem.F.slot_list_append PySem.F.type_list_append mt_append hx (pa_cons (ha.pe B) pa_nil hs) hbase hfew hline hs hpl) fun σ H Q ⟨s, d, s', k, e, q⟩ => ?_
  obtain ⟨_, s0, e0, e9⟩ := bnd_some e
  obtain ⟨rfl, ds0, h0⟩ := own_here e0
  obtain ⟨a, vs, q1, q2, q3⟩ := k.ownL h0
  refine ⟨_, q1, .inl ⟨rfl, vs, SqL.of q2⟩, ?_⟩
  refine tI.bind k e9 fun dy s1 u H1 h1 e1 k1 ev1 r1 => ?_
  obtain ⟨_, s2, e2, e3⟩ := bnd_some e1
  obtain ⟨ds, ds', hsl, hf, rfl⟩ := put_L e2
  obtain ⟨rfl, rfl⟩ := ret_some e3
  unfold appL at hf
  split at hf
  · rename_i hz
    cases hf
    obtain ⟨a', us, p1, p2, p3⟩ := k1.ownL hsl
    rw [q1] at p1; cases p1
    obtain ⟨k2, ev2⟩ := k1.wr (sl' := .own (ds ++ [dy])) (o := .lst (us ++ [u])) hsl rfl rfl q1 ⟨_, rfl, p3.append (.cons r1 .nil)⟩
    refine ⟨a, us, u, rfl, rfl, p2, by rw [← p3.length]; exact hz, q _ _ k2 (ev1.trans ev2) .mkNon⟩
  · cases hf⟩

def popAtL (d : D) (ds : List D) : Option (D × List D) := match d with
  | .int j => (ixN ds.length j).bind fun n => if ds.length ≤ sizeLine then ds[n]?.map fun y => (y, ds.eraseIdx n) else none
  | _ => none
def ePopAt (i : Nat) (m : M D) : M D := bnd (ownHere i) fun _ => bnd m fun d s => match s.env[i]? with
  | some (some (.own ds)) => (match popAtL d ds with
    | some (d, ds') => some (d, ⟨s.env.set i (some (.own ds')), s.src⟩)
    | none => none)
  | _ => none
theorem Rps.erase {p : Addr} {W : AP} {H : Hp} : ∀ {ds : List D} {vs : List V} (n : Nat), Rps p W H ds vs → Rps p W H (ds.eraseIdx n) (vs.eraseIdx n)
  | [], _, _, h => by simp only [Rps] at h; subst h; exact .nil
  | d :: ds, _, 0, h => by
    simp only [Rps] at h
    obtain ⟨v, r, rfl, h1, h2⟩ := h
    exact h2
  | d :: ds, _, n + 1, h => by
    simp only [Rps] at h
    obtain ⟨v, r, rfl, h1, h2⟩ := h
    exact .cons h1 (h2.erase n)
theorem s_popAt (hx : PE X (.Name x p) (tVar i)) (ha : SE X e m)
    (hbase : attributeBase (.Name x p) "pop" X.env (eval (.Name x p) X.env) = eval (.Name x p) X.env := by rfl)
    (hfew : ((backTo cpos (starEach [e] X.env)).all (fun x => !x.1) && (backToKw cpos (keywordEach [] X.env)).all (fun x => x.1.isSome)
      && decide ([e].length + ([] : List Keyword).length + (if ([] : List Keyword).isEmpty then 0 else 1) < 30)) = true := by rfl)
    (hline : (apos.endLine == cpos.line) = true := by rfl) (hs : starEach [e] X.env = (false, eval e X.env) :: starEach [] X.env := by rfl) (hpl : (backTo cpos (starEach [] X.env)).any (·.1) = false := by rfl) :
    SE X (.Call (.Attribute (.Name x p) "pop" apos) [e] [] cpos) (ePopAt i m) := ⟨fun B => by
  refine PE.imp (pe_bm PySem.F.plainAttrs_list PySem.F.slot_list_pop PySem.F.type_list_pop mt_popAt hx (pa_cons (ha.pe B) pa_nil hs) hbase hfew hline hs hpl) fun σ H Q ⟨s, d, s', k, e, q⟩ => ?_
  obtain ⟨_, s0, e0, e9⟩ := bnd_some e
  obtain ⟨rfl, ds0, h0⟩ := own_here e0
  obtain ⟨a, vs, q1, q2, q3⟩ := k.ownL h0
  refine ⟨_, q1, .inl ⟨rfl, vs, SqL.of q2⟩, ?_⟩
  refine tI.bind k e9 fun dy s1 u H1 h1 e1 k1 ev1 r1 => ?_
  split at e1
  · rename_i ds hsl
    split at e1
    · rename_i d' ds' hf
      cases e1
      unfold popAtL at hf
      split at hf
      · rename_i j
        obtain ⟨n, hn, hf⟩ := Option.bind_eq_some_iff.mp hf
        split at hf
        · rename_i hz
          obtain ⟨y, hy, e2⟩ := Option.map_eq_some_iff.mp hf
          cases e2
          obtain ⟨a', us, p1, p2, p3⟩ := k1.ownL hsl
          rw [q1] at p1; cases p1
          obtain ⟨w, h3, h4⟩ := p3.get hy
          obtain ⟨k2, ev2⟩ := k1.wr (sl' := .own (ds.eraseIdx n)) (o := .lst (us.eraseIdx n)) hsl rfl rfl q1 ⟨_, rfl, p3.erase n⟩
          obtain ⟨z1, z2, z3, z4⟩ := ixN_seq hn
          have hs := line63
          exact ⟨a, us, j, n, w, rfl, by rw [rp_int r1], p2, by omega, by omega, by rw [← p3.length]; exact z1, h3, q _ _ k2 (ev1.trans ev2) (h4.ev ev2)⟩
        · cases hf
      · cases hf
    · cases e1
  · cases e1⟩
def setL (dy d : D) (ds : List D) : Option (List D) := match dy with
  | .int j => (ixN ds.length j).map fun n => ds.set n d
  | _ => none
def rGetL : V → V → Hp → VK → Prop := fun o i H Q => ∃ p xs k j v, o = .ref p ∧ i = .int k ∧ H p = some (.lst xs) ∧ ixN xs.length k = some j ∧ xs[j]? = some v ∧ Q v H
theorem get_list : PGet X rGetL := by
  intro pins s σ H o i ov iv Q I ro ri h
  obtain ⟨p, xs, k, j, z, rfl, rfl, hp, hj, hz, q⟩ := h
  cases ro
  obtain ⟨t, rfl⟩ := ri
  obtain ⟨its, n, r, ho, hsz⟩ := I.lst hp
  obtain ⟨h1, h2, h3, h4⟩ := ixN_seq hj
  obtain ⟨w, ew, rw'⟩ := r.get hz
  have hl := r.length
  have hn := line63
  have fin : EP X pins σ Q w s := ⟨z, H, I, rw', q⟩
  have hL : s.heap.IsList p its.toArray := ⟨_, ho, rfl, _, rfl⟩
  by_cases h0 : 0 ≤ k
  · have hk : k.toNat = j := by
      rw [seqIndex_of h0 h4] at h1
      exact Option.some.inj h1
    exact wpAny_getItem_list hL h0 (by omega) (by rw [hk]; simpa using ew) fin
  · have hk : (k + (its.toArray.size : Int)).toNat = j := by
      rw [seqIndex_neg (by omega) h3] at h1
      rw [List.size_toArray, ← hl]
      exact Option.some.inj h1
    exact wpAny_getItem_list_neg hL (by omega) (by rw [List.size_toArray] <;> omega) (by omega) (by rw [hk]; simpa using ew) fin
def ownGet (i : Nat) (dy : D) : M D := fun s => match s.env[i]? with
  | some (some (.own ds)) => (match dy with
    | .int j => (match atI ds j with
      | some y => some (y, s)
      | none => none)
    | _ => none)
  | _ => none
theorem own_get {i : Nat} {dy y : D} {s s' : S} (h : ownGet i dy s = some (y, s')) : s' = s ∧ ∃ ds j, s.env[i]? = some (some (.own ds)) ∧ dy = .int j ∧ atI ds j = some y := by
  unfold ownGet at h
  split at h
  · rename_i ds hd
    split at h
    · rename_i j
      split at h
      · rename_i z hz; cases h; exact ⟨rfl, ds, j, hd, rfl, hz⟩
      · cases h
    · cases h
  · cases h
def augI (f : Int → Int → Int) : D → D → Option D
  | .int x, .int y => some (.int (f x y))
  | _, _ => none
def sAugIx (i : Nat) (f : Int → Int → Int) (mb me : M D) : M Out := bnd (ownHere i) fun _ => bnd mb fun dy => bnd (ownGet i dy) fun old => bnd me fun d => bnd (lift (augI f old d)) fun z => bnd (putL i (setL dy z)) fun _ => ret .nx
theorem augI_some {f : Int → Int → Int} {x y z : D} (h : augI f x y = some z) : ∃ i j, x = .int i ∧ y = .int j ∧ z = .int (f i j) := by
  unfold augI at h
  split at h
  · cases h; exact ⟨_, _, rfl, rfl, rfl⟩
  · cases h
theorem s_augIx {op : Operator} {f : Int → Int → Int} {tpos : Pos} {me : M D} (hx : PE X (.Name x p) (tVar i)) (hb : SE X b mb) (he : SE X e me) (ho : PIp X op (ipI f))
    (ha : ∀ ov iv new, augStore b ov iv new = (do holding [new, ov, iv] (setItem ov iv new); release [new, ov, iv] []; pure .next) := by intros; rfl) : SS X (.AugAssign (.Subscript (.Name x p) b tpos) op e pos) (sAugIx i f mb me) := ⟨fun B => by
  refine PS.imp (ps_augS hx (hb.pe B) get_list (he.pe B) ho set_list ha) fun D σ H ⟨s, o, s', k, e, q⟩ => ?_
  obtain ⟨_, s0, e0, e9⟩ := bnd_some e
  obtain ⟨rfl, ds0, h0⟩ := own_here e0
  obtain ⟨a, vs, q1, q2, q3⟩ := k.ownL h0
  refine ⟨_, q1, ?_⟩
  refine tI.bind k e9 fun dy s1 u H1 h1 e1 k1 ev1 r1 => ?_
  obtain ⟨old, s2, e2, e3⟩ := bnd_some e1
  obtain ⟨rfl, ds, j, hsl, rfl, hy⟩ := own_get e2
  obtain ⟨a', us, p1, p2, p3⟩ := k1.ownL hsl
  rw [q1] at p1; cases p1
  unfold atI at hy
  obtain ⟨n, hn, hy⟩ := Option.bind_eq_some_iff.mp hy
  obtain ⟨w, h3, h4⟩ := p3.get hy
  refine ⟨a, us, j, n, w, rfl, rp_int r1, p2, by rw [← p3.length]; exact hn, h3, ?_⟩
  refine tI.bind k1 e3 fun d s3 v H3 h5 e5 k3 ev3 r3 => ?_
  obtain ⟨z, s4, e6, e7⟩ := bnd_some e5
  obtain ⟨e11, rfl⟩ := lift_some e6
  obtain ⟨xi, yi, rfl, rfl, rfl⟩ := augI_some e11
  obtain ⟨_, s5, e8, e10⟩ := bnd_some e7
  obtain ⟨ds3, ds', hsl3, hf, rfl⟩ := put_L e8
  obtain ⟨rfl, rfl⟩ := ret_some e10
  unfold setL at hf
  obtain ⟨n', hn', rfl⟩ := Option.map_eq_some_iff.mp hf
  obtain ⟨a', us3, g1, g2, g3⟩ := k3.ownL hsl3
  rw [q1] at g1; cases g1
  obtain ⟨k4, ev4⟩ := k3.wr (sl' := .own (ds3.set n' (.int (f xi yi)))) (o := .lst (us3.set n' (.int (f xi yi)))) hsl3 rfl rfl q1 ⟨_, rfl, g3.set n' (.mkInt _)⟩
  exact ⟨xi, yi, rp_int h4, rp_int r3, a, us3, j, n', rfl, rp_int r1, g2, by rw [← g3.length]; exact hn', q σ _ k4 (ev1.trans (ev3.trans ev4))⟩⟩
end
end GH

namespace GH
open PySem PySem.Spec PyProof.Rows L2

def PendR (σ : Sg) (H : Hp) (s : S) (Bf : Bs) : Bs → List Sl → List V → Prop
  | B, [], vs => vs = [] ∧ Bf = B
  | B, .val d :: r, vs => ∃ v t, vs = v :: t ∧ Rp Bf.p (Bf.W s.env σ) H d v ∧ PendR σ H s Bf B r t
  | B, sl :: r, vs => ∃ a o t, vs = .ref a :: t ∧ B.H0 a = none ∧ ¬ B.Wc a ∧ OwnR Bf.p (Bf.W s.env σ) H sl o ∧ PendR σ H s Bf (B.plusO a o) r t
theorem PendR.base {σ : Sg} {H : Hp} {s : S} {Bf : Bs} : ∀ {l : List Sl} {B : Bs} {us : List V}, PendR σ H s Bf B l us → Bf.p = B.p ∧ Bf.c = B.c ∧ (∀ b o, B.H0 b = some o → Bf.H0 b = some o) ∧ (∀ b, B.Wc b → Bf.Wc b)
  | [], _, _, h => by rw [h.2]; exact ⟨rfl, rfl, fun _ _ z => z, fun _ z => z⟩
  | .val _ :: _, _, _, ⟨_, _, _, _, h⟩ => h.base
  | .own _ :: _, B, _, ⟨a, us, _, _, n, _, _, h⟩ => let ⟨h1, h2, h3, h4⟩ := h.base; ⟨h1, h2, fun b o z => h3 b o (by
      show upd B.H0 a _ b = _
      rw [upd_ne (ne_of_none z n)]; exact z), fun b z => h4 b (.inl z)⟩
  | .ownK _ _ :: _, B, _, ⟨a, us, _, _, n, _, _, h⟩ => let ⟨h1, h2, h3, h4⟩ := h.base; ⟨h1, h2, fun b o z => h3 b o (by
      show upd B.H0 a _ b = _
      rw [upd_ne (ne_of_none z n)]; exact z), fun b z => h4 b (.inl z)⟩
  | .ownT _ _ :: _, B, _, ⟨a, us, _, _, n, _, _, h⟩ => let ⟨h1, h2, h3, h4⟩ := h.base; ⟨h1, h2, fun b o z => h3 b o (by
      show upd B.H0 a _ b = _
      rw [upd_ne (ne_of_none z n)]; exact z), fun b z => h4 b (.inl z)⟩
theorem StOk.pin {B : Bs} {σ : Sg} {H : Hp} {s : S} {a : Addr} {o : HO} (k : StOk (B.plus a) σ H s) (h : H a = some o) : StOk (B.plusO a o) σ H s where
  len := k.len
  val := k.val
  own := fun i sl h ho => by
    obtain ⟨b, x, q1, q2, q3, q4, q5⟩ := k.own i sl h ho
    exact ⟨b, x, q1, q2, q3, by show upd B.H0 a o b = none; rw [upd_ne (fun z => q5 (.inr z))]; exact q4, q5⟩
  sep := k.sep
  src := k.src
  keep := fun b x e n1 n2 => by
    have e : upd B.H0 a o b = some x := e
    by_cases z : b = a
    · subst z; rw [upd_same] at e; cases e; exact h
    · rw [upd_ne z] at e; exact k.keep b x e n1 n2
  wc := k.wc
  wp := k.wp
  wcc := k.wcc
def tP (B : Bs) (m : M (List Sl)) : TA := fun σ H Q => ∃ s sls s', StOk B σ H s ∧ m s = some (sls, s') ∧
  ∀ vs H' Bf, StOk Bf σ H' s' → Ev (B.W s.env σ) H (Bf.W s'.env σ) H' → PendR σ H' s' Bf B sls vs → Q vs H'
structure SP (X : Cx) (es : List Expr) (m : M (List Sl)) : Prop where
  pa : ∀ B, PA X es (tP B m)
def pNil : M (List Sl) := ret []
def pVal (m : M D) (ms : M (List Sl)) : M (List Sl) := bnd m fun d => bnd ms fun r => ret (.val d :: r)
def pOwn (ml : M (List D)) (ms : M (List Sl)) : M (List Sl) := bnd ml fun ds => bnd ms fun r => ret (.own ds :: r)
section
variable {X : Cx} {e : Expr} {es : List Expr} {m : M D} {ml : M (List D)} {ms : M (List Sl)}
theorem p_nil : SP X [] pNil := ⟨fun B => PA.imp pa_nil fun σ H Q ⟨s, d, s', k, e, q⟩ => by
  obtain ⟨rfl, rfl⟩ := ret_some e
  exact q [] H B k Ev.refl ⟨rfl, rfl⟩⟩
theorem p_val (ha : SE X e m) (hr : SP X es ms) (hs : starEach (e :: es) X.env = (false, eval e X.env) :: starEach es X.env := by rfl) : SP X (e :: es) (pVal m ms) :=
  ⟨fun B => PA.imp (pa_cons (ha.pe B) (hr.pa B) hs) fun σ H Q ⟨s, d, s', k, e, q⟩ => by
    refine tI.bind k e fun dx s1 x H1 h1 e1 k1 ev1 r1 => ?_
    obtain ⟨r, s2, e2, e3⟩ := bnd_some e1
    obtain ⟨rfl, rfl⟩ := ret_some e3
    refine ⟨s1, r, s', k1, e2, fun vs H' Bf k2 ev2 pr => q _ H' Bf k2 (ev1.trans ev2) ⟨x, vs, rfl, ?_, pr⟩⟩
    rw [pr.base.1]
    exact r1.ev ev2⟩
theorem p_own (ha : SL X e ml) (hr : SP X es ms) (hs : starEach (e :: es) X.env = (false, eval e X.env) :: starEach es X.env := by rfl) : SP X (e :: es) (pOwn ml ms) :=
  ⟨fun B => ⟨fun pos pins sh σ H Q I h => by
    -- the base of what follows hangs on the new list's address
    refine (pa_cons (t := fun σ H Q => ∃ B', tP B' ms σ H Q) (ha.pe B) ⟨fun pos pins sh σ H Q I ⟨B', h⟩ => (hr.pa B').run pos pins sh σ H Q I h⟩ hs).run pos pins sh σ H Q I ?_
    obtain ⟨s, d, s', k, e, q⟩ := h
    obtain ⟨ds, s1, e1, e2⟩ := bnd_some e
    refine ⟨s, ds, s1, k, e1, fun a vs H1 k1 ev1 n nw hA r1 => ?_⟩
    obtain ⟨r, s2, e3, e4⟩ := bnd_some e2
    obtain ⟨rfl, rfl⟩ := ret_some e4
    refine ⟨B.plusO a (.lst vs), s1, r, s', k1.pin hA, e3, fun us H' Bf k2 ev2 pr => q _ H' Bf k2 (Ev.trans ev1 ev2) ⟨a, .lst vs, us, rfl, n, fun z => nw (.inl z), ⟨vs, rfl, ?_⟩, pr⟩⟩
    rw [pr.base.1]
    exact Rps.ev ev2 _ _ r1⟩⟩

def putAll : List Nat → List Sl → List (Option Sl) → Option (List (Option Sl))
  | [], [], env => some env
  | i :: is, sl :: r, env => if i < env.length then (putAll is r env).map fun env' => env'.set i (some sl) else none
  | _, _, _ => none
def setAll : List Nat → List V → Sg → Sg
  | i :: is, v :: vs, σ => (setAll is vs σ).set i (some v)
  | _, _, σ => σ
theorem putAll_len : ∀ {is : List Nat} {l : List Sl} {env env' : List (Option Sl)}, putAll is l env = some env' → env'.length = env.length
  | [], [], _, _, h => by cases h; rfl
  | i :: is, sl :: r, env, env', h => by
    unfold putAll at h
    split at h
    · obtain ⟨e1, h1, rfl⟩ := Option.map_eq_some_iff.mp h
      rw [List.length_set, putAll_len h1]
    · cases h
  | [], _ :: _, _, _, h => by simp [putAll] at h
  | _ :: _, [], _, _, h => by simp [putAll] at h
theorem put_all1 {σ : Sg} {H : Hp} {s : S} {Bf : Bs} (kf : StOk Bf σ H s) {is : List Nat} {r : List Sl} {B : Bs} {us t : List V} {env' : List (Option Sl)} {i : Nat} {sl : Sl} {a : Addr} {o : HO} (ho : sl.isOwn = true) (e0 : us = .ref a :: t) (n : B.H0 a = none) (nc : ¬ B.Wc a) (r1 : OwnR Bf.p (Bf.W s.env σ) H sl o)
    (ih : ∀ e1, putAll is r s.env = some e1 → StOk (B.plusO a o) (setAll is t σ) H ⟨e1, s.src⟩ ∧ Ev (Bf.W s.env σ) H ((B.plusO a o).W e1 (setAll is t σ)) H)
    (hb : Bf.p = (B.plusO a o).p ∧ Bf.c = (B.plusO a o).c ∧ (∀ b x, (B.plusO a o).H0 b = some x → Bf.H0 b = some x) ∧ (∀ b, (B.plusO a o).Wc b → Bf.Wc b)) (wp : B.Wc B.p) (wc : B.Wc B.c) (e : putAll (i :: is) (sl :: r) s.env = some env') :
    StOk B (setAll (i :: is) us σ) H ⟨env', s.src⟩ ∧ Ev (Bf.W s.env σ) H (B.W env' (setAll (i :: is) us σ)) H := by
  subst e0
  unfold putAll at e
  split at e
  · rename_i hl
    obtain ⟨e1, h1, rfl⟩ := Option.map_eq_some_iff.mp e
    obtain ⟨k, ev⟩ := ih e1 h1
    have hA : H a = some o := kf.keep a _ (hb.2.2.1 a _ upd_same) (by rw [hb.1]; exact fun z => nc (z ▸ wp)) (by rw [hb.2.1]; exact fun z => nc (z ▸ wc))
    have kk := k.finish n
    obtain ⟨k2, ev2⟩ := kk.putOwnS (i := i) (a := a) (o := o) (sl := sl) (by show i < e1.length; rw [putAll_len h1]; exact hl) ho n (by
      rintro (z | ⟨j, sl, z1, z2, z3⟩)
      · exact nc z
      · obtain ⟨b, o, y1, _, _, _, y5⟩ := kk.own j sl z1 z2
        rw [z3] at y1; cases y1
        exact y5 (.inr rfl)) wp wc hA (by
      have : Bf.p = B.p := hb.1
      rw [← this]; exact OwnR.ev ev _ _ r1)
    exact ⟨k2, Ev.trans ev ev2⟩
  · cases e
theorem put_all {σ : Sg} {H : Hp} {s : S} {Bf : Bs} (kf : StOk Bf σ H s) : ∀ {is : List Nat} {l : List Sl} {B : Bs} {us : List V} {env' : List (Option Sl)}, PendR σ H s Bf B l us → B.Wc B.p → B.Wc B.c → putAll is l s.env = some env' →
    StOk B (setAll is us σ) H ⟨env', s.src⟩ ∧ Ev (Bf.W s.env σ) H (B.W env' (setAll is us σ)) H
  | [], [], _, _, _, h, _, _, e => by
    obtain ⟨rfl, rfl⟩ := h
    cases e
    exact ⟨kf, Ev.refl⟩
  | i :: is, .val d :: r, B, _, env', ⟨v, t, e1, r1, h⟩, wp, wc, e => by
    subst e1
    unfold putAll at e
    split at e
    · rename_i hl
      obtain ⟨e1, h1, rfl⟩ := Option.map_eq_some_iff.mp e
      obtain ⟨k, ev⟩ := put_all kf h wp wc h1
      obtain ⟨k2, ev2⟩ := k.set (d := d) (v := v) (i := i) (by rw [putAll_len h1]; exact hl) (by rw [← h.base.1]; exact r1.ev ev)
      exact ⟨k2, ev.trans ev2⟩
    · cases e
  | i :: is, .own ds :: r, B, _, env', ⟨a, us, t, e1, n, nc, r1, h⟩, wp, wc, e => put_all1 kf rfl e1 n nc r1 (fun e1 h1 => put_all kf h (.inl wp) (.inl wc) h1) h.base wp wc e
  | i :: is, .ownK ks ds :: r, B, _, env', ⟨a, us, t, e1, n, nc, r1, h⟩, wp, wc, e => put_all1 kf rfl e1 n nc r1 (fun e1 h1 => put_all kf h (.inl wp) (.inl wc) h1) h.base wp wc e
  | i :: is, .ownT ks ds :: r, B, _, env', ⟨a, us, t, e1, n, nc, r1, h⟩, wp, wc, e => put_all1 kf rfl e1 n nc r1 (fun e1 h1 => put_all kf h (.inl wp) (.inl wc) h1) h.base wp wc e
  | [], _ :: _, _, _, _, _, _, _, e => by simp [putAll] at e
  | _ :: _, [], _, _, _, _, _, _, e => by simp [putAll] at e
theorem PendR.length {σ : Sg} {H : Hp} {s : S} {Bf : Bs} : ∀ {l : List Sl} {B : Bs} {us : List V}, PendR σ H s Bf B l us → us.length = l.length
  | [], _, _, h => by rw [h.1]; rfl
  | .val _ :: _, _, _, ⟨_, _, e, _, h⟩ => by rw [e]; simp [h.length]
  | .own _ :: _, _, _, ⟨_, _, _, e, _, _, _, h⟩ => by rw [e]; simp [h.length]
  | .ownK _ _ :: _, _, _, ⟨_, _, _, e, _, _, _, h⟩ => by rw [e]; simp [h.length]
  | .ownT _ _ :: _, _, _, ⟨_, _, _, e, _, _, _, h⟩ => by rw [e]; simp [h.length]
def sPar (is : List Nat) (ms : M (List Sl)) : M Out := bnd ms fun sls s => match putAll is sls s.env with
  | some env => some (.nx, ⟨env, s.src⟩)
  | none => none
theorem putAll_ilen : ∀ {is : List Nat} {l : List Sl} {env env' : List (Option Sl)}, putAll is l env = some env' → l.length = is.length
  | [], [], _, _, _ => rfl
  | i :: is, sl :: r, env, env', h => by
    unfold putAll at h
    split at h
    · obtain ⟨e1, h1, rfl⟩ := Option.map_eq_some_iff.mp h
      simp [putAll_ilen h1]
    · cases h
  | [], _ :: _, _, _, h => by simp [putAll] at h
  | _ :: _, [], _, _, h => by simp [putAll] at h
theorem par_go {B : Bs} {Dn : Ends} {σ : Sg} {H : Hp} {is : List Nat} (h : tS B (sPar is ms) Dn σ H) : tP B ms σ H fun vs H1 => vs.length = is.length ∧ ∀ H2, Same H1 H2 → Dn.nx (setAll is vs σ) H2 := by
  obtain ⟨s, o, s', k, e, q⟩ := h
  obtain ⟨sls, s1, e1, e2⟩ := bnd_some e
  split at e2
  · rename_i env he
    cases e2
    refine ⟨s, sls, s1, k, e1, fun vs H' Bf k1 ev1 pr => ⟨by rw [pr.length, putAll_ilen he], fun H2 sm => ?_⟩⟩
    obtain ⟨k2, ev2⟩ := put_all k1 pr k.wp k.wcc he
    exact q _ H2 (k2.same sm) (ev1.trans (ev2.trans (Ev.same sm)))
  · cases e2
theorem TP.imp {B : Bs} {σ : Sg} {H : Hp} {Q Q' : List V → Hp → Prop} (h : tP B ms σ H Q) (f : ∀ vs H', Q vs H' → Q' vs H') : tP B ms σ H Q' := by
  obtain ⟨s, sls, s', k, e, q⟩ := h
  exact ⟨s, sls, s', k, e, fun vs H' Bf k1 ev1 pr => f _ _ (q vs H' Bf k1 ev1 pr)⟩
theorem s_par2 {pos : Pos} {i j : Nat} {x y : Str} {a b : Expr} {px py pt : Pos} {kt k2 pt2} (hc : X.calm = true) (hN : X.N.Nodup) (hi : X.N[i]? = some x) (hj : X.N[j]? = some y) (hij : i ≠ j)
    (hx : X.env.scope.names.lookup x = some .local) (hy : X.env.scope.names.lookup y = some .local) (ha : SP X [a, b] ms)
    (hw : swappedStores [.Tuple [.Name x px, .Name y py] kt pt] (.Tuple [a, b] k2 pt2) X.env = pure (some [x, y]))
    (hs : swapsWithSole [.Tuple [.Name x px, .Name y py] kt pt] (.Tuple [a, b] k2 pt2) pos.line X.env = pure false := by rfl) :
    SS X (.Assign [.Tuple [.Name x px, .Name y py] kt pt] (.Tuple [a, b] k2 pt2) pos) (sPar [i, j] ms) := ⟨fun B => PS.imp (ps_par hc hN hi hj hij hx hy (ha.pa B) hw hs) fun D σ H h => by
  refine TP.imp (par_go h) fun vs H1 ⟨hl, q⟩ => ?_
  match vs, hl with
  | [v, w], _ =>
    refine ⟨v, w, rfl, ?_⟩
    have q := q H1 (Same.refl _)
    simp only [setAll] at q
    rw [List.set_comm _ _ (Ne.symm hij)] at q
    exact q⟩
def gNames : List Nat → TGs
  | [] => L2.gNil
  | i :: is => L2.gCons (gName i) (gNames is)
theorem gNames_of : ∀ {is : List Nat} {vs : List V} {σ : Sg} {H : Hp} {Q : Sg → Hp → Prop}, is.Nodup → vs.length = is.length → Q (setAll is vs σ) H → gNames is vs σ H Q
  | [], [], _, _, _, _, _, q => ⟨rfl, q⟩
  | i :: is, v :: vs, σ, H, Q, nd, hl, q => by
    refine ⟨v, vs, rfl, ?_⟩
    have nd' := List.nodup_cons.mp nd
    refine gNames_of nd'.2 (by simpa using hl) ?_
    have : ∀ (js : List Nat) (us : List V), i ∉ js → setAll js us (σ.set i (some v)) = (setAll js us σ).set i (some v) := fun js => by
      induction js with
      | nil => intro us _; cases us <;> rfl
      | cons j js ih =>
        intro us hn
        cases us with
        | nil => rfl
        | cons u us =>
          simp only [setAll]
          rw [ih us (fun z => hn (List.mem_cons_of_mem _ z)), List.set_comm _ _ (fun z : i = j => hn (by rw [z]; exact List.mem_cons_self))]
    rw [this is vs nd'.1]
    exact q
  | [], _ :: _, _, _, _, _, hl, _ => by simp at hl
  | _ :: _, [], _, _, _, _, hl, _ => by simp at hl
theorem s_parT {pos : Pos} {is : List Nat} {tgs es : List Expr} {pt : Pos} {kt k2 pt2} (hc : X.calm = true) (nd : is.Nodup) (ht : PGs X tgs (gNames is)) (ha : SP X es ms) (hn : (assignEach tgs X.env).length = is.length := by rfl) (hst : (assignEach tgs X.env).findIdx? (·.1) = none := by rfl) (hz : is.length ≤ 30 := by decide)
    (hs : swapsWithSole [.Tuple tgs kt pt] (.Tuple es k2 pt2) pos.line X.env = pure false := by rfl) (hw : swappedStores [.Tuple tgs kt pt] (.Tuple es k2 pt2) X.env = pure none := by rfl)
    (h1 : (assignEach [.Tuple tgs kt pt] X.env).map (·.2) = [assign (.Tuple tgs kt pt) X.env] := by rfl) :
    SS X (.Assign [.Tuple tgs kt pt] (.Tuple es k2 pt2) pos) (sPar is ms) := ⟨fun B => PS.imp (ps_asg (pe_tup (ha.pa B)) (pg_tup hc ht hn hst) hs hw h1) fun D σ H h => by
  refine TP.imp (par_go h) fun vs H1 ⟨hl, q⟩ => ⟨by have := line63; unfold sizeLine at *; omega, fun p np => ?_⟩
  refine ⟨p, vs, rfl, SqT.of upd_same, hl, gNames_of nd hl (q _ (same_new np))⟩⟩
theorem pgs_name {is : List Nat} {i : Nat} {x : Str} {tgs : List Expr} {p : Pos} (hN : X.N.Nodup) (hi : X.N[i]? = some x) (hx : Loc X.env.scope x) (h : PGs X tgs (gNames is)) (hs : (assignEach (.Name x p :: tgs) X.env).map (·.2) = assign (.Name x p) X.env :: (assignEach tgs X.env).map (·.2) := by rfl) (hf : X.fn x = true ∨ X.env.scope.names.lookup x = some .local := by first | exact .inl rfl | exact .inr rfl | assumption) : PGs X (.Name x p :: tgs) (gNames (i :: is)) :=
  pgs_cons (pg_name hN hi hx hf) h hs
theorem pgs_none : PGs X [] (gNames []) := L2.pgs_nil

end
end GH

namespace GH
open PySem PySem.Spec PyProof.Rows L2

section
variable {X : Cx}
def okIn (x : D) (ds : List D) : Prop := SeqAt.shaped x.py = true ∧ (SeqAt.shaped (PyData.list (D.pys ds)) = true ∧ PyData.canLayAll0 (D.pys ds) = true)
instance (x : D) (ds : List D) : Decidable (okIn x ds) := by unfold okIn; infer_instance
def memD (x : D) (ds : List D) : Bool := (D.pys ds).any fun z => PyData.eqv z x.py
def inD (x y : D) : Option D := match x, y with
  | .int i, .rng lo hi => some (.bl (decide (lo ≤ i ∧ i < hi)))
  | x, .lst ds => if okIn x ds then some (.bl (memD x ds)) else none
  | x, .tup ds => if okIn x ds then some (.bl (memD x ds)) else none
  | _, _ => none
def ninD (x y : D) : Option D := match x, y with
  | x, .lst ds => if okIn x ds then some (.bl (!memD x ds)) else none
  | x, .tup ds => if okIn x ds then some (.bl (!memD x ds)) else none
  | _, _ => none
theorem in_go {neg : Bool} {x : D} {ds : List D} {p : Addr} {W : AP} (hu : X.A.units + 65 < cLine) (h : okIn x ds) (tup : Bool) : OpR X (compareOp (if neg then .NotIn else .In)) (fun u v H Q => WT W H ∧ Rp p W H x u ∧ Rp p W H (if tup then .tup ds else .lst ds) v ∧ Q (.bl (if neg then !memD x ds else memD x ds)) H) := by
  intro pins s σ H u v uv vv Q I ru rv ⟨hw, hx, hy, q⟩
  obtain ⟨as, r1⟩ := Dp.reads I x.py u uv (hx.dp _ _ (SeqAt.canLay_of_shaped h.1)) ru
  cases tup with
  | false =>
    obtain ⟨bs, r2⟩ := Dp.reads I (.list (D.pys ds)) v vv (by
      have := hy.dp (K := X.K) (.lst ds) v (by simp only [D.py]; exact SeqAt.canLay_of_shaped h.2.1)
      simpa only [D.py] using this) rv
    cases neg with
    | false => exact SeqAt.in_list_reads r2 r1 h.2.2 (SeqAt.canLay_of_shaped h.1) (room_in_shaped h.1 hu) ⟨.bl _, H, I, rfl, q⟩
    | true => exact SeqAt.notIn_list_reads r2 r1 h.2.2 (SeqAt.canLay_of_shaped h.1) (room_in_shaped h.1 hu) ⟨.bl _, H, I, rfl, q⟩
  | true =>
    obtain ⟨bs, r2⟩ := Dp.reads I (.tuple (D.pys ds)) v vv (by
      have := hy.dp (K := X.K) (.tup ds) v (by simp only [D.py, PyData.canLay0]; exact h.2.2)
      simpa only [D.py] using this) rv
    cases neg with
    | false => exact SeqAt.in_tuple_reads r2 r1 h.2.2 (SeqAt.canLay_of_shaped h.1) (room_in_shaped h.1 hu) ⟨.bl _, H, I, rfl, q⟩
    | true => exact SeqAt.notIn_tuple_reads r2 r1 h.2.2 (SeqAt.canLay_of_shaped h.1) (room_in_shaped h.1 hu) ⟨.bl _, H, I, rfl, q⟩
theorem od_in (hu : X.A.units + 65 < cLine) : OpD X (compareOp .In) inD := opD_cases fun dx dy d p W he => by
  unfold inD at he
  split at he
  · cases he
    refine OpR.imp op_in_rng fun x y H Q ⟨hw, hx, hy, hq⟩ => ?_
    obtain ⟨a, rfl, _, ha⟩ := rp_rng hy
    exact ⟨_, a, _, _, rp_int hx, rfl, ha, hq _ _ (Same.refl H) (.mkBl _)⟩
  · split at he
    · cases he
      rename_i hk
      exact OpR.imp (in_go (neg := false) (p := p) (W := W) hu hk false) fun x y H Q ⟨hw, hx, hy, hq⟩ => ⟨hw, hx, hy, hq _ _ (Same.refl H) (.mkBl _)⟩
    · cases he
  · split at he
    · cases he
      rename_i hk
      exact OpR.imp (in_go (neg := false) (p := p) (W := W) hu hk true) fun x y H Q ⟨hw, hx, hy, hq⟩ => ⟨hw, hx, hy, hq _ _ (Same.refl H) (.mkBl _)⟩
    · cases he
  · cases he
theorem od_nin (hu : X.A.units + 65 < cLine) : OpD X (compareOp .NotIn) ninD := opD_cases fun dx dy d p W he => by
  unfold ninD at he
  split at he
  · split at he
    · cases he
      rename_i hk
      exact OpR.imp (in_go (neg := true) (p := p) (W := W) hu hk false) fun x y H Q ⟨hw, hx, hy, hq⟩ => ⟨hw, hx, hy, hq _ _ (Same.refl H) (.mkBl _)⟩
    · cases he
  · split at he
    · cases he
      rename_i hk
      exact OpR.imp (in_go (neg := true) (p := p) (W := W) hu hk true) fun x y H Q ⟨hw, hx, hy, hq⟩ => ⟨hw, hx, hy, hq _ _ (Same.refl H) (.mkBl _)⟩
    · cases he
  · cases he

variable {a b c e : Expr} {es : List Expr} {pos p : Pos} {ma mb mc m : M D} {ms : M (List D)}
def eChain (f g : D → D → Option D) (ma mb mc : M D) : M D := bnd ma fun x => bnd mb fun y => bnd (lift (f x y)) fun z => match z with
  | .bl true => bnd mc fun w => lift (g y w)
  | .bl false => ret (.bl false)
  | _ => fail
theorem chain_go {B : Bs} {f g : D → D → Option D} {σ : Sg} {H : Hp} {Q : VK} (h : tI B (eChain f g ma mb mc) σ H Q) : tChain (rB f) (rB g) (tI B ma) (tI B mb) (tI B mc) σ H Q := by
  obtain ⟨s, d, s', k, e, q⟩ := h
  refine tI.bind k e fun dx s1 x H1 h1 e1 k1 ev1 r1 => ?_
  refine tI.bind k1 e1 fun dy s2 y H2 h2 e2 k2 ev2 r2 => ?_
  obtain ⟨z, s3, e3, e4⟩ := bnd_some e2
  obtain ⟨e5, rfl⟩ := lift_some e3
  refine ⟨B.p, _, dx, dy, z, k2.wt, r1.ev ev2, r2, e5, fun v H3 sm r3 => ?_⟩
  have k3 := k2.same sm
  have ev3 := (ev1.trans ev2).trans (Ev.same (W := B.W s3.env σ) sm)
  split at e4
  · refine ⟨true, rp_bl r3, ?_⟩
    rw [if_pos rfl]
    refine tI.bind k3 e4 fun dw s4 w H4 h4 e6 k4 ev4 r4 => ?_
    obtain ⟨e7, rfl⟩ := lift_some e6
    exact ⟨B.p, _, dy, dw, d, k4.wt, (r2.ev (Ev.same sm)).ev ev4, r4, e7, fun v H' sm r => q v H' (k4.same sm) ((ev3.trans ev4).trans (Ev.same sm)) r⟩
  · refine ⟨false, rp_bl r3, ?_⟩
    rw [if_neg (by decide)]
    obtain ⟨rfl, rfl⟩ := ret_some e4
    exact q _ H3 k3 ev3 (.mkBl _)
  · cases e4
theorem t_chain {op op' : CmpOp} {f g : D → D → Option D} (ho : OpD X (compareOp op) f) (ho' : OpD X (compareOp op') g) (ha : SE X a ma) (hb : SE X b mb) (hc : SE X c mc) (hm : lastMarks [op, op'] [b, c] = false := by with_unfolding_all rfl) : ST X (.Compare a [op, op'] [b, c] pos) (tst (eChain f g ma mb mc)) :=
  ⟨fun B => PT.imp (pt_chain ho ho' (ha.pe B) (hb.pe B) (hc.pe B) hm) fun σ H Q ⟨s, b', s', k, e, q⟩ => by
    obtain ⟨d, s1, h1, h2⟩ := bnd_some e
    cases d <;> simp only [fail] at h2 <;> try (cases h2; done)
    obtain ⟨rfl, rfl⟩ := ret_some h2
    refine chain_go ⟨s, _, _, k, h1, fun v H' k' ev r => ⟨_, rp_bl r, q H' k' ev⟩⟩⟩

def tyD : D → Option String
  | .non => some "NoneType"
  | .bl _ => some "bool"
  | .int _ => some "int"
  | .str _ => some "str"
  | .tup _ => some "tuple"
  | .lst _ => some "list"
  | .dct _ _ => some "dict"
  | _ => none
theorem Rp.ty {p : Addr} {W : AP} {H : Hp} {K : PySem.W.Frag} {d : D} {v : V} {t : String} (r : Rp p W H d v) (h : tyD d = some t) : TyX K H v (.type t) := by
  cases d <;> simp only [tyD] at h <;> cases h
  · rw [rp_non r]; exact .base .non
  · rw [rp_bl r]; exact .base (.bl _)
  · rw [rp_int r]; exact .base (.int _)
  · rw [rp_str r]; exact .base (.str _)
  · obtain ⟨a, vs, rfl, _, ha, _⟩ := rp_tup r; exact .base (.tup ha)
  · obtain ⟨a, vs, rfl, _, ha, _⟩ := rp_lst r; exact .base (.lst ha)
  · simp only [Rp] at r
    obtain ⟨a, kvs, rfl, _, ha, _⟩ := r
    rcases ha with ha | ⟨o, ha⟩
    · exact .base (.dK ha)
    · exact .fDict ha
def okRepr (d : D) : Prop := d.py.canLay0 = true ∧ d.py.showable = true ∧ d.py.hasDict = false ∧ d.py.depth ≤ 60 ∧ d.py.shown.length ≤ sizeLine
instance (d : D) : Decidable (okRepr d) := by unfold okRepr; infer_instance
def sAug (i : Nat) (f : Int → Int → Int) (m : M D) : M Out := fun s0 => match s0.env[i]? with
  | some (some (.val x)) => bnd m (fun d => bnd (lift (augI f x d)) fun z => bnd (gN i z) fun _ => ret .nx) s0
  | _ => none
theorem s_aug {op : Operator} {f : Int → Int → Int} {i : Nat} {x : Str} {pos' : Pos} (hN : X.N.Nodup) (hi : X.N[i]? = some x) (hx : Loc X.env.scope x) (he : SE X e m) (ho : PIp X op (ipI f)) (hf : X.fn x = true ∨ X.env.scope.names.lookup x = some .local := by first | exact .inl rfl | exact .inr rfl | assumption) : SS X (.AugAssign (.Name x pos') op e pos) (sAug i f m) :=
  ⟨fun B => PS.imp (ps_aug hN hi hx (he.pe B) ho hf) fun D σ H ⟨s, o, s', k, e, q⟩ => by
    unfold sAug at e
    split at e
    · rename_i dx hd
      obtain ⟨v, h1, h2⟩ := k.val i dx hd
      refine ⟨v, h1, ?_⟩
      refine tI.bind k e fun d s1 u H1 h3 e1 k1 ev1 r1 => ?_
      obtain ⟨z, s2, e2, e3⟩ := bnd_some e1
      obtain ⟨e4, rfl⟩ := lift_some e2
      obtain ⟨xi, yi, rfl, rfl, rfl⟩ := augI_some e4
      refine ⟨xi, yi, rp_int h2, rp_int r1, ?_⟩
      obtain ⟨_, s3, e5, e6⟩ := bnd_some e3
      obtain ⟨rfl, rfl⟩ := ret_some e6
      unfold gN at e5
      split at e5
      · rename_i hl
        cases e5
        obtain ⟨k', ev⟩ := k1.set hl (.mkInt (f xi yi))
        exact q _ H1 k' (ev1.trans ev)
      · cases e5
    · cases e⟩

end
end GH

namespace GH
open PySem PySem.Spec PyProof.Rows L2

section
variable {prog : Program} {w : World} {A : Around} {E : Value → Shared → Prop} {s : Shared}
end
section
variable {X : Cx} {e : Expr} {pos : Pos} {m : M D}
def cOut (vs vs1 : List Nat) (g : D → M Unit) (c : M Bool) (it1 : M (List D)) (g1 : D → M Unit) (c1 : M Bool) (el : M D) (d : D) : M (List D) := fun s =>
  (bnd (g d) fun _ => bnd c fun b => if b = true then bnd it1 (fun ds1 => compF vs1 g1 c1 el ds1) else ret []) { s with env := wipeE s.env vs }
def outF (vs : List Nat) (f : D → M (List D)) : List D → M (List D)
  | [] => ret []
  | d :: r => bnd (f d) fun ys => bnd (outF vs f r) fun zs => ret (ys ++ zs)
def eComp2 (vs vs1 : List Nat) (g : D → M Unit) (c : M Bool) (it1 : M (List D)) (g1 : D → M Unit) (c1 : M Bool) (el : M D) (it : M (List D)) : M (List D) := bnd it fun ds s1 =>
  match outF vs (cOut vs vs1 g c it1 g1 c1 el) ds s1 with
    | some (ys, sn) => if ys.length ≤ sizeLine then some (ys, { sn with env := restE s1.env sn.env vs }) else none
    | none => none
def tItx (m : M (List D)) : TI := fun σ H R => ∃ B, tIt B m σ H R
theorem SI.px {tg : Expr} {it : M (List D)} (h : SI X tg e it) : PI X tg e (tItx it) := ⟨fun pins s σ H Q I ⟨B, q⟩ => (h.pi B).run pins s σ H Q I q⟩
theorem lc2_go {B : Bs} {vs vs1 is is1 : List Nat} {g g1 : D → M Unit} {c c1 : M Bool} {el : M D} {it it1 : M (List D)} {σ : Sg} {H : Hp} {Q : VK} (hin : ∀ i ∈ is, i ∈ vs) (hin1 : ∀ i ∈ is1, i ∈ vs1) (hsub : ∀ i ∈ vs1, i ∈ vs) (h : tL B (eComp2 vs vs1 g c it1 g1 c1 el it) σ H Q) :
    tLc2 (tIt B it) (tGx is g) (tTx c) (tItx it1) (tGx is1 g1) (tTx c1) (tIx el) vs vs1 σ H Q := by
  obtain ⟨s, out, sE, k, e, q⟩ := h
  obtain ⟨ds, s1, e1, e2⟩ := bnd_some e
  refine ⟨s, ds, s1, k, e1, fun J H1 k1 ev1 wk => ?_⟩
  split at e2
  case h_2 => cases e2
  rename_i ys sn eF
  split at e2
  case isFalse => cases e2
  rename_i hsz
  cases e2
  intro A nA
  have nA0 := k1.new nA
  have hAp : A ≠ B.p := fun z => by subst z; rw [k1.src.d] at nA; cases nA
  have hAc : A ≠ B.c := fun z => by subst z; rw [k1.src.l] at nA; cases nA
  obtain ⟨kb, evb⟩ := k1.begin (o := .lst []) nA
  have kw := kb.wipe vs
  have evw : Ev (B.W s1.env σ) H1 ((B.plus A).W (wipeE s1.env vs) (wipe σ vs)) (upd H1 A (.lst [])) := evb.trans (Ev.less (W_wipe (B := B.plus A)))
  refine ⟨fun i m Hh => m = ds.length - i ∧ i ≤ ds.length ∧ ∃ si acc zs rest, StOk (B.plusO A (.lst acc)) (wipe σ vs) Hh { si with env := wipeE si.env vs } ∧ Ev (B.W s1.env σ) H1 ((B.plus A).W (wipeE si.env vs) (wipe σ vs)) Hh ∧
    Hh A = some (.lst acc) ∧ Rps B.p ((B.plus A).W (wipeE si.env vs) (wipe σ vs)) Hh zs acc ∧ outF vs (cOut vs vs1 g c it1 g1 c1 el) (ds.drop i) si = some (rest, sn) ∧ out = zs ++ rest,
    ⟨ds.length, by simp, Nat.zero_le _, s1, [], [], out, kw, evw, upd_same, .nil, eF, rfl⟩, ?_⟩
  rintro i m Hh ⟨rfl, hi, si, acc, zs, rest, ki, evi, hA, ri, eR, eOut⟩
  obtain ⟨w1, w2, w3⟩ := wk _ _ evi ki.wt
  by_cases hlt : i < ds.length
  · refine .inr ⟨w1 i hlt, _, fun H' hN => ⟨ds.length - (i + 1), by omega, hN⟩, fun x H' y => ?_⟩
    have hd : ds[i]? = some ds[i] := List.getElem?_eq_getElem hlt
    obtain ⟨sm, rx⟩ := w3 i _ x H' hd y
    rw [List.drop_eq_getElem_cons hlt] at eR
    obtain ⟨o, s2, eS, eR⟩ := bnd_some eR
    obtain ⟨rs, s3, eR2, e3⟩ := bnd_some eR
    obtain ⟨e4, rfl⟩ := ret_some e3
    obtain ⟨_, s4, eg, eS⟩ := bnd_some eS
    obtain ⟨b, s5, ec, eS⟩ := bnd_some eS
    have k1' := ki.same sm
    have ev' : Ev (B.W s1.env σ) H1 ((B.plus A).W (wipeE si.env vs) (wipe σ vs)) H' := evi.trans (Ev.same sm)
    refine ⟨B.plusO A (.lst acc), { si with env := wipeE si.env vs }, ds[i], s4, k1', rx, eg, fun σ2 k2 ev2 wp => ?_⟩
    have hw : wipe σ2 vs = wipe σ vs := by rw [wp vs hin, wipe_wipe]
    refine ⟨hw, B.plusO A (.lst acc), s4, b, s5, k2, ec, fun H3 k3 ev3 => ?_⟩
    have evA : Ev ((B.plus A).W (wipeE si.env vs) (wipe σ vs)) H' ((B.plus A).W s5.env σ2) H3 := Ev.trans ev2 ev3
    have smA : Ev ((B.plus A).W (wipeE si.env vs) (wipe σ vs)) Hh ((B.plus A).W (wipeE si.env vs) (wipe σ vs)) H' := Ev.same sm
    have evB : Ev ((B.plus A).W (wipeE si.env vs) (wipe σ vs)) Hh ((B.plus A).W s5.env σ2) H3 := smA.trans evA
    cases b with
    | true =>
      obtain ⟨ds1, s6, ei, eS⟩ := bnd_some eS
      refine ⟨B.plusO A (.lst acc), s5, ds1, s6, k3, ei, fun J1 H4 k4 ev4 wk1 => ?_⟩
      have evC : Ev ((B.plus A).W (wipeE si.env vs) (wipe σ vs)) Hh ((B.plus A).W s6.env σ2) H4 := evB.trans ev4
      have hA4 : H4 A = some (.lst acc) := k4.keep A _ upd_same hAp hAc
      have kw4 := k4.wipe vs1
      have evD : Ev ((B.plus A).W s6.env σ2) H4 ((B.plus A).W (wipeE s6.env vs1) (wipe σ2 vs1)) H4 := Ev.less (W_wipe (B := B.plus A))
      refine ⟨fun j m Hj => m = ds1.length - j ∧ j ≤ ds1.length ∧ ∃ sj accj zsj restj, StOk (B.plusO A (.lst accj)) (wipe σ2 vs1) Hj { sj with env := wipeE sj.env vs1 } ∧ Ev ((B.plus A).W s6.env σ2) H4 ((B.plus A).W (wipeE sj.env vs1) (wipe σ2 vs1)) Hj ∧
        Hj A = some (.lst accj) ∧ Rps B.p ((B.plus A).W (wipeE sj.env vs1) (wipe σ2 vs1)) Hj zsj accj ∧ compF vs1 g1 c1 el (ds1.drop j) sj = some (restj, s2) ∧ out = zsj ++ restj ++ rs,
        ⟨ds1.length, by simp, Nat.zero_le _, s6, acc, zs, o, kw4, evD, hA4, ri.ev (evC.trans evD), eS, by rw [eOut, e4, List.append_assoc]⟩, ?_⟩
      rintro j m Hj ⟨rfl, hj, sj, accj, zsj, restj, kj, evj, hAj, rj, eRj, eOutj⟩
      obtain ⟨u1, u2, u3⟩ := wk1 _ _ evj kj.wt
      by_cases hltj : j < ds1.length
      · refine .inr ⟨u1 j hltj, _, fun H' hN => ⟨ds1.length - (j + 1), by omega, hN⟩, fun x1 Hj' yj => ?_⟩
        have hdj : ds1[j]? = some ds1[j] := List.getElem?_eq_getElem hltj
        obtain ⟨smj, rxj⟩ := u3 j _ x1 Hj' hdj yj
        rw [List.drop_eq_getElem_cons hltj] at eRj
        obtain ⟨oj, s7, eSj, eRj⟩ := bnd_some eRj
        obtain ⟨rsj, s8, eRj2, e8⟩ := bnd_some eRj
        obtain ⟨e9, rfl⟩ := ret_some e8
        obtain ⟨_, s9, egj, eSj⟩ := bnd_some eSj
        obtain ⟨bj, s10, ecj, eSj⟩ := bnd_some eSj
        refine ⟨B.plusO A (.lst accj), { sj with env := wipeE sj.env vs1 }, ds1[j], s9, kj.same smj, rxj, egj, fun σ3 k9 ev9 wp9 => ?_⟩
        have hw1 : wipe σ3 vs1 = wipe σ2 vs1 := by rw [wp9 vs1 hin1, wipe_wipe]
        refine ⟨hw1, B.plusO A (.lst accj), s9, bj, s10, k9, ecj, fun H10 k10 ev10 => ?_⟩
        have evE : Ev ((B.plus A).W (wipeE sj.env vs1) (wipe σ2 vs1)) Hj ((B.plus A).W s10.env σ3) H10 := Ev.trans (Ev.same smj) (Ev.trans ev9 ev10)
        cases bj with
        | true =>
          obtain ⟨y', s11, eej, eSj⟩ := bnd_some eSj
          obtain ⟨rfl, rfl⟩ := ret_some eSj
          refine ⟨B.plusO A (.lst accj), s10, y', s7, k10, eej, fun v H11 k11 ev11 r11 => ?_⟩
          have hA11 : H11 A = some (.lst accj) := k11.keep A _ upd_same hAp hAc
          have kw11 := k11.wipe vs1
          rw [hw1] at kw11
          obtain ⟨kg, evg⟩ := kw11.grow (o' := .lst (accj ++ [v])) hAp hAc
          have wl : Ev ((B.plus A).W s7.env σ3) H11 ((B.plus A).W (wipeE s7.env vs1) (wipe σ2 vs1)) H11 := by
            rw [← hw1]; exact Ev.less (W_wipe (B := B.plus A))
          have evT : Ev ((B.plus A).W (wipeE sj.env vs1) (wipe σ2 vs1)) Hj ((B.plus A).W (wipeE s7.env vs1) (wipe σ2 vs1)) (upd H11 A (.lst (accj ++ [v]))) :=
            evE.trans (Ev.trans ev11 (wl.trans evg))
          have hlen := rj.length
          have hlt2 : accj.length < sizeLine := by
            have e5 : out.length = zsj.length + restj.length + rs.length := by rw [eOutj]; simp; omega
            have e6 : restj.length = rsj.length + 1 := by rw [e9]; simp
            omega
          refine ⟨accj, hA11, hlt2, rfl, hltj, s7, accj ++ [v], zsj ++ [y'], rsj, kg, evj.trans evT, upd_same, ?_, eRj2, by rw [eOutj, e9]; simp⟩
          exact (rj.ev evT).append (.cons (Rp.ev (wl.trans evg) _ _ r11) .nil)
        | false =>
          obtain ⟨rfl, rfl⟩ := ret_some eSj
          have kw10 := k10.wipe vs1
          rw [hw1] at kw10
          have wl : Ev ((B.plus A).W s7.env σ3) H10 ((B.plus A).W (wipeE s7.env vs1) (wipe σ2 vs1)) H10 := by
            rw [← hw1]; exact Ev.less (W_wipe (B := B.plus A))
          have evT : Ev ((B.plus A).W (wipeE sj.env vs1) (wipe σ2 vs1)) Hj ((B.plus A).W (wipeE s7.env vs1) (wipe σ2 vs1)) H10 := evE.trans wl
          have hA10 : H10 A = some (.lst accj) := k10.keep A _ upd_same hAp hAc
          exact ⟨rfl, hltj, s7, accj, zsj, rsj, kw10, evj.trans evT, hA10, rj.ev evT, eRj2, by rw [eOutj, e9]; simp⟩
      · have hn : j = ds1.length := by omega
        subst hn
        rw [List.drop_length] at eRj
        obtain ⟨rfl, e5⟩ := ret_some eRj
        refine .inl ⟨u2, ?_⟩
        have hee : wipe (wipe σ2 vs1) vs = wipe σ vs := by
          rw [← hw]
          have : ∀ us : List Nat, (∀ u ∈ us, u ∈ vs) → wipe (wipe σ2 us) vs = wipe σ2 vs := fun us => by
            induction us with
            | nil => intro _; rfl
            | cons u us ih =>
              intro hu
              show wipe ((wipe σ2 us).set u none) vs = _
              rw [wipe_set_mem (hu u List.mem_cons_self), ih fun z hz => hu z (List.mem_cons_of_mem _ hz)]
          exact this vs1 hsub
        have heE : wipeE (wipeE sj.env vs1) vs = wipeE sj.env vs := by
          have base : ∀ (env : List (Option Sl)) (ws us : List Nat) (u : Nat), u ∈ ws → wipeE (env.set u none) ws = wipeE env ws := fun env ws _ u => by
            induction ws with
            | nil => intro z; simp at z
            | cons w ws ih =>
              intro z
              unfold wipeE
              by_cases hm : u ∈ ws
              · rw [ih hm]
              · have e0 : u = w := by
                  rcases List.mem_cons.mp z with z | z
                  · exact z
                  · exact absurd z hm
                subst e0
                have out0 : ∀ ws : List Nat, u ∉ ws → (wipeE (env.set u none) ws).set u none = (wipeE env ws).set u none := fun ws => by
                  induction ws with
                  | nil => intro _; unfold wipeE; rw [List.set_set]
                  | cons a as ih2 =>
                    intro hn
                    have h1 : u ≠ a := fun z => hn (z ▸ List.mem_cons_self)
                    have h2 : u ∉ as := fun z => hn (List.mem_cons_of_mem _ z)
                    unfold wipeE
                    rw [List.set_comm _ _ (Ne.symm h1), ih2 h2, List.set_comm _ _ h1]
                exact out0 ws hm
          have : ∀ us : List Nat, (∀ u ∈ us, u ∈ vs) → wipeE (wipeE sj.env us) vs = wipeE sj.env vs := fun us => by
            induction us with
            | nil => intro _; rfl
            | cons u us ih =>
              intro hu
              show wipeE ((wipeE sj.env us).set u none) vs = _
              rw [base _ _ us u (hu u List.mem_cons_self), ih fun z hz => hu z (List.mem_cons_of_mem _ hz)]
          exact this vs1 hsub
        have kk := kj.wipe vs
        have kk : StOk (B.plusO A (.lst accj)) (wipe σ vs) Hj { sj with env := wipeE sj.env vs } := by
          rw [← hee]
          have : ({ sj with env := wipeE sj.env vs } : S) = { sj with env := wipeE (wipeE sj.env vs1) vs } := by rw [heE]
          rw [this]; exact kk
        have evF : Ev ((B.plus A).W (wipeE sj.env vs1) (wipe σ2 vs1)) Hj ((B.plus A).W (wipeE sj.env vs) (wipe σ vs)) Hj := by
          rw [← hee, ← heE]; exact Ev.less (W_wipe (B := B.plus A))
        subst e5
        exact ⟨rfl, hlt, s2, accj, zsj, rs, kk, evi.trans (evC.trans (evj.trans evF)), hAj, rj.ev evF, eR2, by rw [eOutj]; simp⟩
    | false =>
      obtain ⟨rfl, rfl⟩ := ret_some eS
      have kw3 := k3.wipe vs
      rw [hw] at kw3
      have wl : Ev ((B.plus A).W s2.env σ2) H3 ((B.plus A).W (wipeE s2.env vs) (wipe σ vs)) H3 := by
        rw [← hw]; exact Ev.less (W_wipe (B := B.plus A))
      have evT : Ev ((B.plus A).W (wipeE si.env vs) (wipe σ vs)) Hh ((B.plus A).W (wipeE s2.env vs) (wipe σ vs)) H3 := evB.trans wl
      have hA3 : H3 A = some (.lst acc) := k3.keep A _ upd_same hAp hAc
      exact ⟨rfl, hlt, s2, acc, zs, rs, kw3, evi.trans evT, hA3, ri.ev evT, eR2, by rw [eOut, e4]; simp⟩
  · have hn : i = ds.length := by omega
    subst hn
    rw [List.drop_length] at eR
    obtain ⟨rfl, e5⟩ := ret_some eR
    subst e5
    refine .inl ⟨w2, ?_⟩
    have kf := ki.finish nA0
    have sub : ∀ b, (B.plus A).W (restE s1.env sn.env vs) σ b → (B.plus A).W (wipeE sn.env vs) (wipe σ vs) b := fun b hb => by
      rcases hb with hb | ⟨j, sl, h1, h2, h3⟩
      · exact .inl hb
      · rcases restE_get h1 with ⟨n1, h4⟩ | ⟨_, _, d, rfl⟩
        · exact .inr ⟨j, sl, by rw [wipeE_get n1]; exact h4, h2, by rw [wipe_get n1]; exact h3⟩
        · cases h2
    have evf : Ev ((B.plus A).W (wipeE sn.env vs) (wipe σ vs)) Hh ((B.plus A).W (restE s1.env sn.env vs) σ) Hh := Ev.less sub
    have kR : StOk (B.plus A) σ Hh { sn with env := restE s1.env sn.env vs } := by
      refine ⟨?_, fun j d h => ?_, fun j sl h ho => ?_, fun j1 j2 sl1 sl2 b h1 o1 h2 o2 q1 q2 => ?_, kf.src, kf.keep, kf.wc, kf.wp, kf.wcc⟩
      · have := kf.len
        rw [wipe_length] at this
        show (restE s1.env sn.env vs).length = _
        rw [restE_len, ← this]
        exact (wipeE_len _ _).symm
      · rcases restE_get h with ⟨n1, h4⟩ | ⟨n1, h4, _⟩
        · obtain ⟨v, h5, h6⟩ := kf.val j d (by show (wipeE sn.env vs)[j]? = _; rw [wipeE_get n1]; exact h4)
          rw [wipe_get n1] at h5
          exact ⟨v, h5, h6.ev evf⟩
        · obtain ⟨v, h5, h6⟩ := k1.val j d h4
          exact ⟨v, h5, Rp.ev (evi.trans evf) _ _ h6⟩
      · rcases restE_get h with ⟨n1, h4⟩ | ⟨_, _, d, rfl⟩
        · obtain ⟨b, o, h5, h6, h7, h8⟩ := kf.own j sl (by show (wipeE sn.env vs)[j]? = _; rw [wipeE_get n1]; exact h4) ho
          rw [wipe_get n1] at h5
          exact ⟨b, o, h5, h6, h7.ev evf, h8⟩
        · cases ho
      · rcases restE_get h1 with ⟨n1, h4⟩ | ⟨_, _, d, rfl⟩
        · rcases restE_get h2 with ⟨n2, h5⟩ | ⟨_, _, d, rfl⟩
          · exact kf.sep j1 j2 sl1 sl2 b (by show (wipeE sn.env vs)[j1]? = _; rw [wipeE_get n1]; exact h4) o1 (by show (wipeE sn.env vs)[j2]? = _; rw [wipeE_get n2]; exact h5) o2 (by rw [wipe_get n1]; exact q1) (by rw [wipe_get n2]; exact q2)
          · cases o2
        · cases o1
    refine q A acc Hh kR (ev1.trans (evi.trans evf)) nA0 ?_ hA (by rw [eOut]; simpa using ri.ev evf)
    rintro (z | ⟨j, sl, h1, h2, h3⟩)
    · obtain ⟨o, ho, _⟩ := k1.wc A z
      rw [nA] at ho; cases ho
    · obtain ⟨b, o, h5, _, _, _, h8⟩ := kR.own j sl h1 h2
      rw [h3] at h5; cases h5
      exact h8 (.inr rfl)

section
variable {elt tg iter tg1 iter1 : Expr} {ifs ifs1 : List Expr} {scope : Scope} {own : List (Str × Nat)} {g g1 : D → M Unit} {mc mc1 : M Bool} {el : M D} {it it1 : M (List D)} {is is1 vs1 : List Nat}
structure CompOk2 (X : Cx) (elt tg : Expr) (ifs : List Expr) (tg1 iter1 : Expr) (ifs1 : List Expr) (scope : Scope) (own : List (Str × Nat)) (vs1 is is1 : List Nat) (g : D → M Unit) (mc : M Bool) (it1 : M (List D)) (g1 : D → M Unit) (mc1 : M Bool) (el : M D) : Prop where
  calm : X.calm = true
  nd : X.N.Nodup
  ok : BlkOk X.N X.env.scope scope own
  sub : ∀ i ∈ is, i ∈ own.map (·.2)
  sub1 : ∀ i ∈ is1, i ∈ vs1
  vs : ∀ i ∈ vs1, i ∈ own.map (·.2)
  hg : ∀ (s : Shared) (H : Hp) (C : Addr) (cl : List (Str × Addr)) (fp : List Addr), SG (X.blk s H scope (compEnvC scope cl C X.env) fp) tg is g
  ht : ∀ (s : Shared) (H : Hp) (C : Addr) (cl : List (Str × Addr)) (fp : List Addr), SF (X.blk s H scope (compEnvC scope cl C X.env) fp) ifs mc
  hi1 : ∀ (s : Shared) (H : Hp) (C : Addr) (cl : List (Str × Addr)) (fp : List Addr), SI (X.blk s H scope (compEnvC scope cl C X.env) fp) tg1 iter1 it1
  hg1 : ∀ (s : Shared) (H : Hp) (C : Addr) (cl : List (Str × Addr)) (fp : List Addr), SG (X.blk s H scope (compEnvC scope cl C X.env) fp) tg1 is1 g1
  ht1 : ∀ (s : Shared) (H : Hp) (C : Addr) (cl : List (Str × Addr)) (fp : List Addr), SF (X.blk s H scope (compEnvC scope cl C X.env) fp) ifs1 mc1
  he : ∀ (s : Shared) (H : Hp) (C : Addr) (cl : List (Str × Addr)) (fp : List Addr), SE (X.blk s H scope (compEnvC scope cl C X.env) fp) elt el
theorem l_comp2 (C : CompOk2 X elt tg ifs tg1 iter1 ifs1 scope own vs1 is is1 g mc it1 g1 mc1 el) (hi : SI X tg iter it) (hs : ∀ x, foldedSetIterable iter X.env x = pure x := by intro _; rfl) (hs1 : ∀ env x, foldedSetIterable iter1 env x = pure x := by intro _ _; rfl) :
    SL X (.ListComp elt [⟨tg, iter, ifs, 0⟩, ⟨tg1, iter1, ifs1, 0⟩] scope pos) (eComp2 (own.map (·.2)) vs1 g mc it1 g1 mc1 el it) :=
  ⟨fun B => PE.imp (pe_lc2 C.calm C.nd (hi.pi B) C.ok C.vs (fun s H c cl fp => (C.hg s H c cl fp).px) (fun s H c cl fp => (C.ht s H c cl fp).pt) (fun s H c cl fp => (C.hi1 s H c cl fp).px) (fun s H c cl fp => (C.hg1 s H c cl fp).px) (fun s H c cl fp => (C.ht1 s H c cl fp).pt) (fun s H c cl fp => (C.he s H c cl fp).px) hs hs1) fun σ H Q h => lc2_go C.sub C.sub1 C.vs h⟩
end
end
end GH

namespace GH
open PySem PySem.Spec PyProof.Rows L2

def srcKvs (c : Addr) (s : Src) : List (Key × V) := [(kCells, .ref c), (kLeft, .int s.left), (kMixed, .int s.mixed), (kTurn, .int s.turn)]
section
variable {X : Cx} {e : Expr} {x : Str} {i j n : Nat} {ky : String} {p p2 pos : Pos} {m : M D}
def eFld (i : Nat) (f : Src → Int) : M D := fun s => match s.env[i]? with
  | some (some (.val .src)) => some (.int (f s.src), s)
  | _ => none
theorem src_slot {B : Bs} {σ : Sg} {H : Hp} {s : S} (k : StOk B σ H s) (h : s.env[i]? = some (some (.val .src))) : σ[i]? = some (some (.ref B.p)) := by
  obtain ⟨v, h1, h2⟩ := k.val i _ h
  have h2 : v = .ref B.p := by simpa only [Rp] using h2
  rw [h1, h2]
theorem s_fld {f : Src → Int} (hx : PE X (.Name x p) (tVar i)) (hu : X.A.units + 1 < cLine) (hv : ∀ (s : Src) (c : Addr), valV (srcKvs c s) (.inr (Str.ofString ky)) = some (.int (f s))) : SE X (.Subscript (.Name x p) (.Constant (.str (Str.ofString ky)) n p2) pos) (eFld i f) :=
  ⟨fun B => PE.imp (pe_dget hu hx (pe_str (j := n) (pos := p2)) (fun _ _ => rfl)) fun σ H Q ⟨s, d, s', k, e, q⟩ => by
    unfold eFld at e
    split at e
    · rename_i hi
      cases e
      refine ⟨_, src_slot k hi, ?_⟩
      have g := DGet.k (k := .inr (Str.ofString ky)) k.src.d
      rw [show [(kCells, V.ref B.c), (kLeft, .int s.src.left), (kMixed, .int s.src.mixed), (kTurn, .int s.src.turn)] = srcKvs B.c s.src from rfl, hv] at g
      exact ⟨B.p, _, rfl, g, q _ H k Ev.refl (.mkInt _)⟩
    · cases e⟩
def sFld (i : Nat) (g : Src → Int → Src) (m : M D) : M Out := bnd m fun d s => match d, s.env[i]? with
  | .int z, some (some (.val .src)) => some (.nx, ⟨s.env, g s.src z⟩)
  | _, _ => none
theorem StOk.fld {B : Bs} {σ : Sg} {H : Hp} {s : S} {c' : Src} {o : HO} (k : StOk B σ H s) (ho : o = .dK (srcKvs B.c c')) (hc : c'.cells = s.src.cells) : StOk B σ (upd H B.p o) ⟨s.env, c'⟩ ∧ Ev (B.W s.env σ) H (B.W s.env σ) (upd H B.p o) :=
  k.called (fun a x h n1 _ => by rw [upd_ne n1]; exact h) ⟨by rw [upd_same, ho]; rfl, by rw [upd_ne (Ne.symm k.src.ne), hc]; exact k.src.l⟩
theorem s_fldSet {g : Src → Int → Src} (hx : PE X (.Name x p) (tVar i)) (hu : X.A.units + 1 < cLine) (he : SE X e m) (hg : ∀ (s : Src) (z : Int) (c : Addr), putK (srcKvs c s) (.inr (Str.ofString ky)) (.int z) = srcKvs c (g s z)) (hc : ∀ s z, (g s z).cells = s.cells) {p3 : Pos}
    (hs : swapsWith e (some (.Subscript (.Name x p) (.Constant (.str (Str.ofString ky)) n p2) p3)) pos.line X.env = pure false := by rfl) : SS X (.Assign [.Subscript (.Name x p) (.Constant (.str (Str.ofString ky)) n p2) p3] e pos) (sFld i g m) :=
  ⟨fun B => PS.imp (ps_dput hu hx pe_str (he.pe B) hs) fun D σ H ⟨s, o, s', k, e, q⟩ => by
    refine tI.bind k e fun d s1 v H1 h1 e1 k1 ev1 r1 => ?_
    split at e1
    · rename_i z hi
      cases e1
      have hv := rp_int r1
      subst hv
      refine ⟨_, src_slot k1 hi, B.p, _, rfl, DPut.k (k := .inr (Str.ofString ky)) k1.src.d (by show 4 < sizeLine; decide), ?_⟩
      obtain ⟨k2, ev2⟩ := k1.fld (c' := g s1.src z) (o := .dK (putK (srcKvs B.c s1.src) (.inr (Str.ofString ky)) (.int z))) (by rw [hg]) (hc _ _)
      exact q σ _ k2 (ev1.trans ev2)
    · cases e1⟩
theorem StOk.dead {B : Bs} {σ : Sg} {H : Hp} {s : S} {v : V} (k : StOk B σ H s) (h : s.env[j]? = some none) : StOk B (σ.set j (some v)) H s ∧ ∀ b, B.W s.env (σ.set j (some v)) b ↔ B.W s.env σ b := by
  have ne : ∀ (i : Nat) (x : Sl), s.env[i]? = some (some x) → j ≠ i := fun i x hi z => by subst z; rw [h] at hi; cases hi
  have w : ∀ b, B.W s.env (σ.set j (some v)) b ↔ B.W s.env σ b := fun b => by
    constructor
    · rintro (z | ⟨i, x, h1, h2, h3⟩)
      · exact .inl z
      · rw [List.getElem?_set_ne (ne i x h1)] at h3; exact .inr ⟨i, x, h1, h2, h3⟩
    · rintro (z | ⟨i, x, h1, h2, h3⟩)
      · exact .inl z
      · exact .inr ⟨i, x, h1, h2, by rw [List.getElem?_set_ne (ne i x h1)]; exact h3⟩
  have ev : Ev (B.W s.env σ) H (B.W s.env (σ.set j (some v))) H := Ev.less fun b hb => (w b).mp hb
  refine ⟨⟨by simpa using k.len, fun i d hi => ?_, fun i sl hi ho => ?_, fun i1 i2 sl1 sl2 a h1 o1 h2 o2 q1 q2 => ?_, k.src, k.keep, k.wc, k.wp, k.wcc⟩, w⟩
  · obtain ⟨u, h1, h2⟩ := k.val i d hi
    exact ⟨u, by rw [List.getElem?_set_ne (ne i _ hi)]; exact h1, h2.ev ev⟩
  · obtain ⟨a, o, h1, h2, h3, h4⟩ := k.own i sl hi ho
    exact ⟨a, o, by rw [List.getElem?_set_ne (ne i _ hi)]; exact h1, h2, h3.ev ev, h4⟩
  · rw [List.getElem?_set_ne (ne i1 _ h1)] at q1
    rw [List.getElem?_set_ne (ne i2 _ h2)] at q2
    exact k.sep i1 i2 sl1 sl2 a h1 o1 h2 o2 q1 q2
def drainN : Nat → Src → Src
  | 0, s => s
  | n + 1, s => if s.left < 2 ∧ s.cells ≠ [] then drainN n { s with cells := s.cells.dropLast, left := s.cells.getLastD 0 } else s
def drain (s : Src) : Src := drainN s.cells.length s
abbrev rLtI : R2 := rI0 fun i j => .bl (decide (i < j))
abbrev rGtI : R2 := rI0 fun i j => .bl (decide (j < i))
abbrev rLenX (K : PySem.W.Frag) : List V → Hp → VK → Prop := fun xs H Q => ∃ x n, xs = [x] ∧ LenV K x H n ∧ Q (.int n) H
def mDrain (i j : Nat) (mr : M Out) : M Out := fun s => match s.env[i]?, s.env[j]? with
  | some (some (.val .src)), some none => mr ⟨s.env, drain s.src⟩
  | _, _ => none
theorem s_drain {st1 st2 : Stmt} {rest : List Stmt} {mr : M Out} (hij : i ≠ j) (h1 : PS X st1 (tAsg (tDGet (tVar i) (tC (.str "cells"))) (gName j)))
    (h2 : PS X st2 (tWhile (tAnd (tTest (tOp rLtI (tDGet (tVar i) (tC (.str "left"))) (tC (.int 2)))) (tTest (tOp rGtI (tCB (rLenX X.K) (tCons (tVar j) tNil)) (tC (.int 0))))) (sDPut (tVar i) (tC (.str "left")) (tBM0 X.K "list" rPop (tVar j)))))
    (hr : SSs X rest mr) : SSs X (st1 :: st2 :: rest) (mDrain i j mr) := ⟨fun B => PSs.imp (pss_cons h1 (pss_cons h2 (hr.ps B))) fun D σ H ⟨s, o, s', k, e, q⟩ => by
  unfold mDrain at e
  split at e
  · rename_i hi hj
    refine ⟨_, src_slot k hi, B.p, _, rfl, DGet.k (k := kCells) k.src.d, ?_⟩
    obtain ⟨k1, w1⟩ := k.dead (v := .ref B.c) hj
    have ev1 : Ev (B.W s.env σ) H (B.W s.env (σ.set j (some (.ref B.c)))) H := Ev.less fun b hb => (w1 b).mp hb
    have hjl : j < σ.length := by rw [← k.len]; exact (List.getElem?_eq_some_iff.mp hj).1
    have sj : (σ.set j (some (V.ref B.c)))[j]? = some (some (.ref B.c)) := List.getElem?_set_self hjl
    have si := src_slot k1 hi
    show tWhile _ _ _ (σ.set j (some (.ref B.c))) H
    refine ⟨fun n σi Hi => σi = σ.set j (some (.ref B.c)) ∧ ∃ c', c'.cells.length = n ∧ StOk B (σ.set j (some (.ref B.c))) Hi ⟨s.env, c'⟩ ∧ Ev (B.W s.env σ) H (B.W s.env (σ.set j (some (.ref B.c)))) Hi ∧ drainN n c' = drain s.src,
      ⟨s.src.cells.length, rfl, s.src, rfl, k1, ev1, rfl⟩, ?_⟩
    rintro n σi Hi ⟨rfl, c', hn, ki, evi, hd⟩
    refine ⟨_, si, B.p, _, rfl, DGet.k (k := kLeft) ki.src.d, c'.left, 2, rfl, rfl, _, rfl, ?_⟩
    have leave : (¬ (c'.left < 2 ∧ c'.cells ≠ [])) → tS B mr D (σ.set j (some (.ref B.c))) Hi := fun hno => by
      have e3 : drainN n c' = c' := by
        cases n with
        | zero => rfl
        | succ n => exact if_neg hno
      rw [e3] at hd
      refine ⟨⟨s.env, c'⟩, o, s', ki, by rw [hd]; exact e, q.ev evi⟩
    by_cases hl : c'.left < 2
    · show (if decide (c'.left < 2) = true then _ else _)
      rw [if_pos (decide_eq_true hl)]
      refine ⟨_, sj, _, (c'.cells.map V.int).length, rfl, .inl ⟨_, SqL.of ki.src.l, rfl⟩, _, 0, rfl, rfl, _, rfl, ?_⟩
      by_cases hc : c'.cells = []
      · have : ¬ (0 : Int) < (((c'.cells.map V.int).length : Nat) : Int) := by rw [hc]; simp
        show (if decide ((0 : Int) < (((c'.cells.map V.int).length : Nat) : Int)) = true then _ else _)
        rw [if_neg (by simpa using this)]
        exact leave fun z => z.2 hc
      · have hpos : 0 < c'.cells.length := List.length_pos_iff.mpr hc
        have : (0 : Int) < (((c'.cells.map V.int).length : Nat) : Int) := by rw [List.length_map]; omega
        show (if decide ((0 : Int) < (((c'.cells.map V.int).length : Nat) : Int)) = true then _ else _)
        rw [if_pos (by simpa using this)]
        cases n with
        | zero => omega
        | succ n =>
          have hlast : (c'.cells.map V.int)[(c'.cells.map V.int).length - 1]? = some (.int (c'.cells.getLastD 0)) := by
            rw [← List.getLast?_eq_getElem?, List.getLast?_map]
            cases hg : c'.cells.getLast? with
            | none => exact absurd (List.getLast?_eq_none_iff.mp hg) hc
            | some z => simp [List.getLastD_eq_getLast?, hg]
          refine ⟨_, fun σ' H' hN => ⟨n, Nat.lt_succ_self _, hN⟩, ?_⟩
          refine ⟨_, sj, .inl ⟨rfl, _, SqL.of ki.src.l⟩, B.c, _, _, rfl, rfl, ki.src.l, hlast, ?_⟩
          refine ⟨_, si, B.p, _, rfl, DPut.k (k := kLeft) (by rw [upd_ne ki.src.ne]; exact ki.src.d) (by show 4 < sizeLine; decide), ?_⟩
          have hd2 : drainN n { c' with cells := c'.cells.dropLast, left := c'.cells.getLastD 0 } = drain s.src := by
            rw [← hd]
            exact (if_pos (show c'.left < 2 ∧ c'.cells ≠ [] from ⟨hl, hc⟩)).symm
          obtain ⟨k2, ev2⟩ := ki.called (H' := upd (upd Hi B.c (.lst (c'.cells.map V.int).dropLast)) B.p (.dK (putK (srcKvs B.c c') kLeft (.int (c'.cells.getLastD 0))))) (c' := { c' with cells := c'.cells.dropLast, left := c'.cells.getLastD 0 })
            (fun a x h n1 n2 => by rw [upd_ne n1, upd_ne n2]; exact h) ⟨by rw [upd_same]; rfl, by rw [upd_ne (Ne.symm ki.src.ne), upd_same, List.map_dropLast]⟩
          exact ⟨rfl, _, by simp; omega, k2, evi.trans ev2, hd2⟩
    · have : ¬ decide (c'.left < 2) = true := by simpa using hl
      show (if decide (c'.left < 2) = true then _ else _)
      rw [if_neg this]
      exact leave fun z => hl z.1
  · cases e⟩
end
end GH

namespace GH
open PySem PySem.Spec PyProof.Rows L2

def FnR0 (P : Program) (w : World) (K : PySem.W.Frag) (mg : Str → Option Value) (base : Heap) (k : Nat) (f : Addr) (sp : Sp) : Prop :=
  ∀ (A : Around) (outer : List Env) (s : Shared) (H : Hp) (us : List Value) (vs : List V) (Q : VK), RG k A → Env0 P w K mg base A outer s H → Vals vs us → sp vs H Q E0 →
    codeAny (model P w) A (.call (.ref f) ⟨us, []⟩) (CR CX0 outer P w H s Q E0) s
structure FnW (P : Program) (w : World) (K : PySem.W.Frag) (mg : Str → Option Value) (base : Heap) (k : Nat) (x : Str) (sp : Sp) : Prop where
  ok : ∃ f : Addr, mg x = some (.ref f) ∧ PySem.W.keepIn K (.ref f) = true ∧ FnR0 P w K mg base k f sp
theorem fn_raw {P : Program} {w : World} {K : PySem.W.Frag} {mg : Str → Option Value} {base : Heap} {x : Str} {params : Arguments} {code : List Stmt} {scope : Scope} {f : Addr} {fd : FuncData} {N ps : List Str} {k : Nat} {sp : Sp} {t : TS}
    (F : FunD K x x params code scope [] [] f fd) (hm : mg x = some (.ref f)) (hb : Binds K fd ps []) (S : FnScope N ps scope) (hl : ∀ vs H Q, sp vs H Q E0 → vs.length = ps.length)
    (body : ∀ (cdv : Value) (A : Around) (outer : List Env) (s : Shared) (H : Hp), RG k (A.deeper (envOfC x scope s.heap.objs.size f cdv)) → PSs (cxOf CX0 P w K mg base N x scope f cdv A outer s H E0).nox code t)
    (pure : ∀ vs H Q, sp vs H Q E0 → t { nx := fun _ H' => Q .non H', rt := Q } (L2.start N vs) H) : FnW P w K mg base (k + 1) x sp := by
  obtain ⟨oc, od, dV, kV, doc, pm, an, cdv, ct, osl, efd, lk, hcd, _, _⟩ := F.ex
  subst efd
  refine ⟨f, hm, F.kp, fun A outer s H us vs Q hr e0 r h => ?_⟩
  have KX : K.In s.heap := e0.mod.kin.keeps fun b o e => (e0.bs b o e).1
  refine StX.run_bnd (G := fun xs H2 => xs = vs ∧ H2 = H) (E := E0) lk hcd S hr.r e0 (fun A' Ex Q' hq => ?_) fun s2 H2 xs ⟨ex, eH⟩ hr2 => ?_
  · have bb := hb s us KX (by rw [List.append_nil, ← r.length, hl vs H Q h])
    rw [List.append_nil] at bb
    exact bb _ _ _ _ (hq s H vs us e0 Un.refl rfl (fun _ _ z => z) r (hl vs H Q h) ⟨rfl, rfl⟩)
  · subst ex
    subst eH
    exact ⟨_, PSs.nox (body cdv A outer s2 H2 ⟨hr2, hr.g⟩), pure _ _ _ h⟩
section
variable {X : Cx} {e : Expr} {es : List Expr} {pos p : Pos} {ta : TA}
theorem pe_raw {k : Nat} {x : Str} {sp : Sp} (F : FnW X.prog X.w X.K X.mg X.base k x sp) (hr : RG k X.A) (hg : Gl X x) (ha : PA X (e :: es) ta) (hdb : (x == ("__debug__" : Str)) = false := by decide)
    (he : starEach (e :: es) X.env = (false, eval e X.env) :: starEach es X.env := by rfl) (hpl : (backTo pos (starEach es X.env)).any (·.1) = false := by rfl) : PE X (.Call (.Name x p) (e :: es) [] pos) (fun σ H Q => ta σ H fun vs H1 => sp vs H1 Q E0) := by
  obtain ⟨f, h1, h2, h3⟩ := F.ok
  refine ⟨fun pins sh σ H Q I h => ?_⟩
  refine wpAny_Call_Name_kw (ld_glob I hg h1 ?_ hdb)
  refine PySem.W.callWith_K (h₀ := X.base) I.ok.mod.kin h2 (thn (ha.run pos pins sh σ H _ I h) fun us s1 ⟨vs, H1, I1, r, q⟩ => ⟨I1.kIn, ?_⟩) he hpl
  refine wpAny_call (codeAny_mono (h3 X.A X.stack s1 H1 us vs Q hr I1.env0 r q) fun res s' hq => ?_)
  cases res with
  | error e => exact False.elim hq
  | ok fl =>
    cases fl with
    | ret u => exact I1.after hq
    | next => exact False.elim hq
    | brk => exact False.elim hq
    | cont => exact False.elim hq
end

theorem SqL.grow {K : PySem.W.Frag} {H H' : Hp} {a : Addr} {xs : List V} (h : SqL K H a xs) (s : Same H H') : SqL K H' a xs := by
  rcases h with (h | ⟨o, h⟩) | h
  · exact .inl (.inl (s _ _ h))
  · exact .inl (.inr ⟨o, s _ _ h⟩)
  · exact .inr h
def spOpen (K : PySem.W.Frag) : Sp := fun vs H Q _ => ∃ (a : Addr) (ns : List Int), vs = [.ref a] ∧ SqL K H a (ns.map V.int) ∧ ns.length < sizeLine ∧ ∀ (p c : Addr) (m : Int) (H' : Hp), Same H H' → H p = none → H c = none → SrcOk p c H' ⟨(ns.map fun i => if i < 0 then -i else i).reverse, 1, m, 0⟩ → Q (.ref p) H'
abbrev rMulI : R2 := rI CMul fun i j => .int (i * j)
abbrev rAddI : R2 := rI0 fun i j => .int (i + j)
abbrev rModI : R2 := rI (fun _ j => j ≠ 0) fun i j => .int (i.fmod j)
abbrev rIntC : List V → Hp → VK → Prop := fun xs H Q => (∃ i, xs = [.int i] ∧ Q (.int i) H) ∨ ∃ k, xs = [.bl k] ∧ Q (.int (if k then 1 else 0)) H
abbrev rAbsC : List V → Hp → VK → Prop := fun xs H Q => ∃ i, xs = [.int i] ∧ Q (.int (if i < 0 then -i else i)) H
def tOpenTurn : TS := tAsg (tOp rModI (tCB rIntC (tCons (tOp rAddI (tOp rAddI (tOp rMulI (tVar 1) (tC (.int 69069))) (tOp rMulI (tVar 2) (tC (.int 31)))) (tC (.int 5))) tNil)) (tC (.int 2147483629))) (gName 1)
def tOpen (K : PySem.W.Frag) : TS := tSeq (tAsg (tC (.int 11)) (gName 1)) (tSeq (tFor (iList K (tVar 0)) (gName 2) tOpenTurn)
  (tSeq (tAsg (tLc (iList K (tVar 0)) (gName 2) tYes (tCB rAbsC (tCons (tVar 2) tNil)) [2]) (gName 3))
    (tRet (tDisp [(tC (.str "cells"), tRevL K (tVar 3)), (tC (.str "left"), tC (.int 1)), (tC (.str "mixed"), tVar 1), (tC (.str "turn"), tC (.int 0))]))))
theorem xs_at {ns : List Int} (i : Nat) (x : V) (h : (ns.map V.int)[i]? = some x) : ∃ n, ns[i]? = some n ∧ x = .int n := by
  rw [List.getElem?_map] at h
  obtain ⟨n, h1, h2⟩ := Option.map_eq_some_iff.mp h
  exact ⟨n, h1, h2.symm⟩
theorem open_for {K : PySem.W.Frag} {a : Addr} {ns : List Int} {D : Ends} {H : Hp} (hs : SqL K H a (ns.map V.int)) (q : ∀ m o, D.nx [some (.ref a), some (.int m), o, none] H) : tFor (iList K (tVar 0)) (gName 2) tOpenTurn D [some (.ref a), some (.int 11), none, none] H := by
  refine ⟨_, rfl, a, rfl, ⟨_, hs⟩, ?_⟩
  refine for_list (xs := ns.map V.int) (D := D) (fun i σ H' => H' = H ∧ ∃ m o, σ = [some (.ref a), some (.int m), o, none]) ⟨rfl, 11, none, rfl⟩ (fun i σ H' _ ⟨e, _⟩ => e ▸ hs) (fun i x σ H' hx ⟨e, m, o, es⟩ => ?_) fun σ H' ⟨e, m, o, es⟩ => by subst e es; exact q m o
  subst e es
  obtain ⟨n, _, rfl⟩ := xs_at i x hx
  exact ⟨_, rfl, m, 69069, rfl, rfl, .inr (by decide), _, rfl, n, 31, rfl, rfl, .inr (by decide), _, _, rfl, rfl, _, _, rfl, rfl, .inl ⟨_, rfl, _, _, rfl, rfl, (by show (2147483629 : Int) ≠ 0; decide), rfl, _, _, rfl⟩⟩
def absF (i : Int) : Int := if i < 0 then -i else i
theorem open_lc {K : PySem.W.Frag} {a : Addr} {ns : List Int} {m : V} {o : Option V} {Q : VK} {H : Hp} (hs : SqL K H a (ns.map V.int)) (hlen : ns.length < sizeLine) (q : ∀ D, H D = none → Q (.ref D) (upd H D (.lst ((ns.map absF).map V.int)))) : tLc (iList K (tVar 0)) (gName 2) tYes (tCB rAbsC (tCons (tVar 2) tNil)) [2] [some (.ref a), some m, o, none] H Q := by
  refine ⟨_, rfl, a, rfl, ⟨_, hs⟩, fun D nD => ?_⟩
  have aD : ∀ (l : List V), Same H (upd H D (.lst l)) := fun l => same_new nD
  refine lc_list (xs := ns.map V.int) (fun i H2 => i ≤ ns.length ∧ H2 = upd H D (.lst (((ns.take i).map absF).map V.int))) ⟨Nat.zero_le _, by simp⟩ (fun i H2 _ ⟨_, e⟩ => e ▸ SqL.grow hs (aD _)) (fun i x H2 hx ⟨hi, e⟩ => ?_) fun H2 ⟨_, e⟩ => ?_
  · subst e
    obtain ⟨n, hn, rfl⟩ := xs_at i x hx
    have hlt : i < ns.length := (List.getElem?_eq_some_iff.mp hn).1
    refine ⟨by simp [wipe], ?_⟩
    refine ⟨_, rfl, n, rfl, _, upd_same, by simp; omega, hlt, ?_⟩
    rw [upd_upd, List.take_succ, hn]
    simp [absF]
  · subst e
    rw [List.length_map, List.take_length]
    exact q D nD
theorem open_ret {K : PySem.W.Frag} {a D : Addr} {ns : List Int} {m : Int} {o : Option V} {E : Ends} {H : Hp} (nD : H D = none) (q : ∀ p c H', Same H H' → H p = none → H c = none → SrcOk p c H' ⟨(ns.map absF).reverse, 1, m, 0⟩ → E.rt (.ref p) H') :
    tRet (tDisp [(tC (.str "cells"), tRevL K (tVar 3)), (tC (.str "left"), tC (.int 1)), (tC (.str "mixed"), tVar 1), (tC (.str "turn"), tC (.int 0))]) E [some (.ref a), some (.int m), o, some (.ref D)] (upd H D (.lst ((ns.map absF).map V.int))) := by
  intro p np
  have neD : D ≠ p := fun z => by subst z; rw [upd_same] at np; cases np
  refine ⟨_, rfl, D, _, rfl, SqL.of (by rw [upd_ne neD]; exact upd_same), fun c nc => ?_⟩
  have nec : c ≠ p := fun z => by subst z; rw [upd_same] at nc; cases nc
  rw [upd_ne nec] at nc
  have necD : c ≠ D := fun z => by subst z; rw [upd_same] at nc; cases nc
  refine ⟨_, rfl, ?_⟩
  refine ⟨by rw [upd_ne (Ne.symm nec)]; exact upd_same, srcKvs c ⟨(ns.map absF).reverse, 1, m, 0⟩, rfl, by show 4 ≤ 15; decide, ?_⟩
  have nH : H p = none := by rw [upd_ne (Ne.symm neD)] at np; exact np
  have nHc : H c = none := by rw [upd_ne necD] at nc; exact nc
  refine q p c _ (fun b o hb => ?_) nH nHc ⟨by rw [upd_same]; rfl, ?_⟩
  · have h1 : b ≠ p := ne_of_none hb nH
    have h2 : b ≠ c := ne_of_none hb nHc
    have h3 : b ≠ D := ne_of_none hb nD
    rw [upd_ne h1, upd_ne h2, upd_ne h1, upd_ne h3]; exact hb
  · rw [upd_ne nec, upd_same, List.map_reverse]
theorem open_pure {K : PySem.W.Frag} (vs : List V) (H : Hp) (Q : VK) (h : spOpen K vs H Q E0) : tOpen K { nx := fun _ H' => Q .non H', rt := Q } (L2.start ["script", "stirred", "cell", "cells"] vs) H := by
  obtain ⟨a, ns, rfl, hs, hlen, q⟩ := h
  rw [show L2.start ["script", "stirred", "cell", "cells"] [.ref a] = [some (.ref a), none, none, none] from rfl]
  dsimp only [tOpen, tSeq, tAsg, tC]
  refine open_for hs fun m o => ?_
  dsimp only [tSeq, tAsg]
  refine open_lc hs hlen fun D nD => ?_
  exact open_ret nD fun p c H' s n1 n2 k => q p c m H' s n1 n2 k

def spLaw (K : PySem.W.Frag) : Sp := fun vs H Q _ => ∃ (a : Addr) (ns : List Int), vs = [.ref a] ∧ ns.length ≤ 63 ∧ SqL K H a (ns.map V.int) ∧ ∀ H', Q (.bl true) H'
section
variable {P : Program} {w : World} {K : PySem.W.Frag} {mg mb : Str → Option Value} {k : Nat} {x : Str} {fa a : Addr} {s1 : Shared} {vs : List Value} {ns : List Int}
theorem end_core (H : Hp) (hok : HOk P w H s1.heap) (one : ∀ b, H b ≠ none → b = a) (frz : ∀ b u, H b = some u → ∃ o ys, u = .frz o (.lst ys)) (kA : H a ≠ none → K.lookup a = none) (hS : SqL K H a (ns.map V.int)) (hl : ns.length ≤ 63)
    (kin : K.In s1.heap) (hg : s1.heap.Ns mainGlobals mg) (hb : s1.heap.Ns builtinsNs mb) (hbb : ∀ x : Str, x ≠ "__name__" → mb x = bootBuiltins x) (lim : s1.heap.NoLimit) (gens : s1.gens = #[])
    (obj : ∃ c d n, s1.heap.get? a = some { cls := c, dict := d, data := .seq n }) (rg : RG k callerA) (hm : mg x = some (.ref fa))
    (F : ∀ base : Heap, K.In base → base.Ns mainGlobals mg → FnW P w K mg base k x (spLaw K)) :
    codeAny (model P w) callerA (.call (.ref fa) ⟨[.ref a], []⟩) (fun r s' => r = .ok (.ret (.bool true)) ∧ OldK s1.heap s'.heap ∧ s'.os = s1.os ∧ AllBare s'.gens) s1 := by
  obtain ⟨c, d, n, obj⟩ := obj
  have free : ∀ {b : Addr} {o : Obj} {es : Array DictEntry} {ep : Nat}, s1.heap.get? b = some o → o.data = .dict es ep → H b = none := fun {b o es ep} g e => by
    cases q : H b with
    | none => rfl
    | some u =>
      have z := one b (by rw [q]; simp)
      subst z
      rw [obj] at g
      cases g
      cases e
  have ns' : ∀ {b : Addr} {m : Str → Option Value}, s1.heap.Ns b m → (hidT s1.heap H).Ns b m := fun {b m} ⟨o, es, ep, g, e, r⟩ => ⟨o, es, ep, hidT_get g (free g e), e, r⟩
  have kin' : K.In (hidT s1.heap H) := fun b o g => hidT_get (kin b o g) (by
    cases q : H b with
    | none => rfl
    | some u =>
      have z := one b (by rw [q]; simp)
      subst z
      rw [kA (by rw [q]; simp)] at g
      cases g)
  obtain ⟨mc, l1, l2⟩ := lim
  have e0 : Env0 P w K mg (hidT s1.heap H) callerA [] s1 H :=
    ⟨rfl, ⟨kin', ns' hg, ⟨mb, ns' hb, hbb⟩, ⟨mc, ns' l1, l2⟩⟩, fun b o g => of_hidT g, Nat.le_of_eq (hidT_size _ _), trivial, (fun b hb => by cases hb), hok, .of_eq gens⟩
  obtain ⟨f, h1, h2, h3⟩ := (F _ kin' (ns' hg)).ok
  rw [hm] at h1
  cases h1
  refine codeAny_mono (h3 callerA [] s1 H [.ref a] [.ref a] (fun v _ => v = .bl true) rg e0 (.cons rfl .nil) ⟨a, ns, rfl, hl, hS, fun _ => rfl⟩) fun r s' h => ?_
  cases r with
  | error e => exact False.elim h
  | ok fl =>
    cases fl with
    | next => exact False.elim h
    | brk => exact False.elim h
    | cont => exact False.elim h
    | ret u =>
      obtain ⟨v, H', os, bare, un, hok', r', q⟩ := h
      have q' : v = .bl true := q
      subst q'
      obtain rfl : u = Value.bool true := r'
      refine ⟨rfl, OldK.of_keep fun b o g => ?_, os, bare⟩
      cases q : H b with
      | none => exact un.keep b o g q (fun z => by cases z) (by simp)
      | some u =>
        obtain ⟨ob, ys, rfl⟩ := frz b u q
        have z2 := un.frzs b ob _ q
        obtain ⟨y1, _⟩ := hok b _ q
        obtain ⟨y2, _⟩ := hok' b _ z2
        rw [g] at y1
        cases y1
        exact y2
theorem end_call (kin : K.In s1.heap) (hg : s1.heap.Ns mainGlobals mg) (hb : s1.heap.Ns builtinsNs mb) (hbb : ∀ x : Str, x ≠ "__name__" → mb x = bootBuiltins x) (lim : s1.heap.NoLimit) (gens : s1.gens = #[])
    (ha : s1.heap.get? a = some { cls := .type "list", data := .seq vs.toArray }) (hi : IntsAre vs ns) (hl : ns.length ≤ 63) (rg : RG k callerA) (hm : mg x = some (.ref fa))
    (F : ∀ base : Heap, K.In base → base.Ns mainGlobals mg → FnW P w K mg base k x (spLaw K)) :
    codeAny (model P w) callerA (.call (.ref fa) ⟨[.ref a], []⟩) (fun r s' => r = .ok (.ret (.bool true)) ∧ OldK s1.heap s'.heap ∧ s'.os = s1.os ∧ AllBare s'.gens) s1 := by
  have rv := vals_ints hi
  have lenV := hi.length
  have small : ns.length ≤ sizeLine := Nat.le_trans hl (by decide)
  cases hk : K.lookup a with
  | some o =>
    have g := kin a o hk
    rw [ha] at g
    cases g
    refine end_core (fun _ => none) (fun b u z => nomatch z) (fun b z => absurd rfl z) (fun b u z => nomatch z) (fun z => absurd rfl z) ?_ hl kin hg hb hbb lim gens ⟨_, _, _, ha⟩ rg hm F
    exact .inr ⟨_, vs.toArray, _, hk, rfl, rfl, rfl, by rw [List.size_toArray, lenV]; exact small, by simpa using rv⟩
  | none =>
    let H : Hp := fun b => if b = a then some (.frz { cls := .type "list", data := .seq vs.toArray } (.lst (ns.map V.int))) else none
    have at_ : H a = some (.frz { cls := .type "list", data := .seq vs.toArray } (.lst (ns.map V.int))) := if_pos rfl
    have off : ∀ b, b ≠ a → H b = none := fun b z => if_neg z
    refine end_core H (fun b u z => ?_) (fun b z => ?_) (fun b u z => ?_) (fun _ => hk) (.inl (.inr ⟨_, at_⟩)) hl kin hg hb hbb lim gens ⟨_, _, _, ha⟩ rg hm F
    · by_cases e : b = a
      · subst e
        rw [at_] at z
        cases z
        exact ⟨ha, by rw [List.length_map]; exact small, vs, _, rv, ha⟩
      · rw [off b e] at z
        cases z
    · by_cases e : b = a
      · exact e
      · exact absurd (off b e) z
    · by_cases e : b = a
      · subst e
        rw [at_] at z
        cases z
        exact ⟨_, _, rfl⟩
      · rw [off b e] at z
        cases z
end
theorem walk_law {l : PySem.W.OpenLaw} {k : Nat} {q : Program} {loose : List Str} {XP : (Str → Option Value) → Heap → Prop} {YP : World → Heap → Prop} {d : DefRec}
    (hn : l.most = some 63) (hdf : d.params.defaults = []) (rg : RG k callerA)
    (F : ∀ (w : World) (mg : Str → Option Value) (h : Heap), YP w h → h.Ns mainGlobals mg → ∃ K : PySem.W.Frag, K.In h ∧ ∀ base : Heap, K.In base → base.Ns mainGlobals mg → FnW l.prog w K mg base k d.name (spLaw K)) :
    PySem.W.WalkO q loose XP YP l.row.toRowW d [] (fun f vs => PySem.call f vs) := by
  refine Att.attach_call hn hdf fun w s₀ s1 mg mb fa o pm cd doc a vs ns G Y ho hd hcd hmg hobj hints hlen hg => ?_
  obtain ⟨K, kin, hF⟩ := F w mg _ Y G.T.g
  exact end_call kin G.T.g G.T.b G.T.builtins G.T.nolimit hg hobj hints hlen rg hmg hF

def tSx (m : M Out) : TS := fun D σ H => ∃ B, tS B m D σ H
theorem SSs.px {X : Cx} {st : List Stmt} {m : M Out} (h : SSs X st m) : PSs X st (tSx m) := ⟨fun pins s σ H D I ⟨B, q⟩ => (h.ps B).run pins s σ H D I q⟩
def tOpenCall (K : PySem.W.Frag) (i : Nat) : TS := tAsg (fun σ H Q => tCons (tVar 0) tNil σ H fun vs H1 => spOpen K vs H1 Q E0) (gName i)
def lawEnv (n i : Nat) : List (Option Sl) := (List.replicate n none).set i (some (.val .src))
theorem law_pure {K : PySem.W.Frag} {N : List Str} {i : Nat} {m : M Out} {vs : List V} {H : Hp} {Q : VK} (hi : 0 < i) (hN : i < N.length) (ok : ∀ src, ∃ s', m ⟨lawEnv N.length i, src⟩ = some (.ret (.bl true), s')) (h : spLaw K vs H Q E0) :
    tSeq (tOpenCall K i) (tSx m) { nx := fun _ H' => Q .non H', rt := Q } (L2.start N vs) H := by
  obtain ⟨a, ns, rfl, hl, hs, q⟩ := h
  have h0 : (L2.start N [V.ref a])[0]? = some (some (.ref a)) := rfl
  refine ⟨_, h0, a, ns, rfl, hs, Nat.lt_of_le_of_lt hl (by decide), fun p c mx H' sm np nc k => ?_⟩
  obtain ⟨s', e⟩ := ok ⟨(ns.map fun i => if i < 0 then -i else i).reverse, 1, mx, 0⟩
  have hlen : (L2.start N [V.ref a]).length = N.length := by
    unfold L2.start
    simp only [List.length_append, List.length_map, List.length_replicate, List.length_singleton]
    omega
  have slots : ∀ (j : Nat) (sl : Sl), (lawEnv N.length i)[j]? = some (some sl) → j = i ∧ sl = .val .src := fun j sl z => by
    unfold lawEnv at z
    by_cases e : i = j
    · subst e
      rw [List.getElem?_set_self (by simpa using hN)] at z
      cases z; exact ⟨rfl, rfl⟩
    · rw [List.getElem?_set_ne e, List.getElem?_replicate] at z
      split at z <;> cases z
  refine ⟨⟨p, c, fun b => b = p ∨ b = c, H'⟩, ⟨lawEnv N.length i, _⟩, _, s', ⟨?_, fun j d z => ?_, fun j sl z ho => ?_, fun j1 j2 sl1 sl2 b z1 o1 => ?_, k, fun b o z _ _ => z, fun b z => ?_, .inl rfl, .inr rfl⟩, e, ?_⟩
  · show (lawEnv N.length i).length = _
    rw [List.length_set, hlen]
    unfold lawEnv
    simp
  · obtain ⟨rfl, y1⟩ := slots j _ z
    cases y1
    exact ⟨.ref p, List.getElem?_set_self (by rw [hlen]; exact hN), by simp [Rp]⟩
  · obtain ⟨rfl, y1⟩ := slots j _ z
    subst y1
    cases ho
  · obtain ⟨rfl, y1⟩ := slots j1 _ z1
    subst y1
    cases o1
  · rcases z with rfl | rfl
    · exact ⟨_, k.d, by intro _ z; cases z⟩
    · exact ⟨_, k.l, by intro _ z; cases z⟩
  · intro v σ' H2 k2 ev r
    rw [rp_bl r]
    exact q H2
theorem law_fn {P : Program} {w : World} {K : PySem.W.Frag} {mg : Str → Option Value} {base : Heap} {x : Str} {params : Arguments} {st : Stmt} {rest : List Stmt} {scope : Scope} {f : Addr} {fd : FuncData} {N : List Str} {y : Str} {k i : Nat} {m : M Out}
    (F : FunD K x x params (st :: rest) scope [] [] f fd) (hm : mg x = some (.ref f)) (hb : Binds K fd [y] []) (S : FnScope N [y] scope) (hi : 0 < i) (hN : i < N.length)
    (body : ∀ (cdv : Value) (A : Around) (outer : List Env) (s : Shared) (H : Hp), RG k (A.deeper (envOfC x scope s.heap.objs.size f cdv)) →
      PS (cxOf CX0 P w K mg base N x scope f cdv A outer s H E0).nox st (tOpenCall K i) ∧ SSs (cxOf CX0 P w K mg base N x scope f cdv A outer s H E0).nox rest m)
    (ok : ∀ src, ∃ s', m ⟨lawEnv N.length i, src⟩ = some (.ret (.bl true), s')) : FnW P w K mg base (k + 1) x (spLaw K) :=
  fn_raw (t := tSeq (tOpenCall K i) (tSx m)) F hm hb S (fun vs H Q ⟨a, ns, e, _⟩ => by rw [e]; rfl) (fun cdv A outer s H hr => pss_cons (body cdv A outer s H hr).1 (body cdv A outer s H hr).2.px) fun vs H Q h => law_pure hi hN ok h
end GH

noncomputable section
namespace GW
open PySem PySem.Spec PyProof.Rows L2 GH
def FactsT : Prop := ∀ (P : Program) (w : World) (K : PySem.W.Frag) (h : Heap) (mg : Str → Option Value), K.In h → h.Ns mainGlobals mg → He.SaysD fcs dfs K → mg "gcd" = some (.builtin "math.gcd") → ∀ base : Heap, FnW P w K mg base 11 "law" (spLaw K)
end GW
open PySem PySem.W PySem.Calls PyProof.Rows
theorem GW.pre : GW.FactsT → PySem.Challenge.rw_greenheld_k40_whole_rounds_of_shares.Holds := by
  intro hf
  w_on; o_law
  refine HandSHeadRun.head_imp (r := OpenLaw.row PySem.Challenge.rw_greenheld_k40_whole_rounds_of_shares) (q := view (OpenLaw.row PySem.Challenge.rw_greenheld_k40_whole_rounds_of_shares).prog [0, 52]) (H := GW.hk) (ob := GW.ob) (M := 6580) (loose := GW.loose) (d := HandSHeadRun.topDef (OpenLaw.row PySem.Challenge.rw_greenheld_k40_whole_rounds_of_shares).prog 52) (kwd := []) GW.ob_eq
    GW.run (by kernel_rfl) (by kernel_rfl) (by kernel_rfl) (by rfl) (by first | assumption | decide +kernel) (by decide +kernel) ⟨rfl, rfl, rfl, rfl, rfl, by decide +kernel⟩ ?hw ?hc
  case hw => w_witness2
  case hc =>
    refine GH.walk_law (l := PySem.Challenge.rw_greenheld_k40_whole_rounds_of_shares) (k := 11) rfl (by kernel_rfl) ⟨⟨rfl, by decide, by decide⟩, rfl⟩ ?F
    intro w mg h Y G
    obtain ⟨K, KX, c⟩ := Y
    refine ⟨K, KX, fun base _ _ => ?_⟩
    have e : (HandSHeadRun.topDef (OpenLaw.row PySem.Challenge.rw_greenheld_k40_whole_rounds_of_shares).prog 52).name = ("law" : PySem.Str) := by kernel_rfl
    rw [e]
    exact hf _ _ _ _ _ KX G c.t.d (PySem.W.mg_of KX G (He.eqO_ok c.more)) base
end

namespace GH
open PySem PySem.Spec PyProof.Rows L2

def blkB (N : List Str) (sc scope : Scope) (own : List (Str × Nat)) : Bool :=
  decide (∀ y ∈ scope.names, scope.names.lookup y.1 = some y.2) && decide (∀ p ∈ own, N[p.2]? = some p.1) &&
  decide (∀ y ∈ scope.names, y.2 = .free → sc.names.lookup y.1 = some .cell ∨ sc.names.lookup y.1 = some .free) &&
  decide (∀ y ∈ scope.names, y.2 = .local ∨ y.2 = .cell → y.1 ∈ own.map (·.1) ∨ y.1 ∉ N)
theorem blk_of {N : List Str} {sc scope : Scope} {own : List (Str × Nat)} (k : scope.kind = .function) (h : blkB N sc scope own = true) : BlkOk N sc scope own := by
  unfold blkB at h
  simp only [Bool.and_eq_true] at h
  exact ⟨k, of_decide_eq_true h.1.1.1, of_decide_eq_true h.1.1.2, of_decide_eq_true h.1.2, of_decide_eq_true h.2⟩
def lDisp (ms : M (List D)) : M (List D) := bnd ms fun ds => if ds.length ≤ sizeLine then ret ds else fail
section
variable {X : Cx} {es : List Expr} {pos : Pos} {ms : M (List D)}
theorem pv {i : Nat} {x : Str} (hN : X.N[i]? = some x := by rfl) (hv : Vis X.env.scope x := by first | exact Or.inl rfl | exact Or.inr (Or.inl rfl) | exact Or.inr (Or.inr rfl)) (hd : (x == ("__debug__" : Str)) = false := by decide) (hcd : (x == ("__classdict__" : Str)) = false := by decide) : PE X (.Name x pos) (tVar i) := pe_var hN hv hd hcd
theorem s_v {i : Nat} {x : Str} (hN : X.N[i]? = some x := by rfl) (hv : Vis X.env.scope x := by first | exact Or.inl rfl | exact Or.inr (Or.inl rfl) | exact Or.inr (Or.inr rfl)) (hd : (x == ("__debug__" : Str)) = false := by decide) (hcd : (x == ("__classdict__" : Str)) = false := by decide) : SE X (.Name x pos) (eVar i) := s_var (pe_var hN hv hd hcd)
theorem g_n {i : Nat} {x : Str} (hN : X.N.Nodup) (hi : X.N[i]? = some x := by rfl) (hx : Loc X.env.scope x := by first | exact Or.inl rfl | exact Or.inr rfl) (hf : X.fn x = true ∨ X.env.scope.names.lookup x = some .local := by first | exact .inl rfl | exact .inr rfl | assumption) : SG X (.Name x pos) [i] (gN i) := g_name hN hi hx hf
theorem l_dsp (h : SA X es ms) : SL X (.List es pos) (lDisp ms) := l_disp h
end
theorem RG.u64 {k : Nat} {A : Around} (h : RG k A) : A.units + 64 < cLine := by have := h.r.un; omega
theorem RG.u65 {k : Nat} {A : Around} (h : RG k A) : A.units + 65 < cLine := by have := h.r.un; omega
theorem RG.u1 {k : Nat} {A : Around} (h : RG k A) : A.units + 1 < cLine := by have := h.r.un; omega
def mPick : M Out := sSeq (sIf (tst (eBin ltD (eVar 1) (eC (.int 2)))) (sRet (eC (.int 0))) sNx)
  (mDrain 0 2 (sSeq (sSet 3 (eFld 0 Src.left))
  (sSeq (sIf (tst (eBin gtD (eVar 3) (eC (.int 1)))) (sSeq (sFld 0 (fun s z => { s with left := z }) (eBin fdivD (eVar 3) (eVar 1))) (sRet (eBin modD (eCall intG (aCons (eVar 3) aNil)) (eVar 1)))) sNx)
  (sSeq (sFld 0 (fun s z => { s with turn := z }) (eBin addD (eFld 0 Src.turn) (eC (.int 1))))
  (sSeq (sSet 4 (eFld 0 Src.turn))
  (sSeq (sSet 5 (eBin modD (eCall intG (aCons (eBin addD (eFld 0 Src.mixed) (eBin mulD (eVar 4) (eC (.int 104729)))) aNil)) (eC (.int 998244353))))
  (sSeq (sSet 5 (eBin modD (eCall intG (aCons (eBin addD (eBin mulD (eVar 5) (eVar 5)) (eBin mulD (eVar 4) (eC (.int 17)))) aNil)) (eC (.int 2147483647))))
  (sRet (eBin modD (eCall intG (aCons (eBin fdivD (eVar 5) (eC (.int 16))) aNil)) (eVar 1))))))))))
def S_pick : FnSem := fnOf 6 mPick
end GH

namespace GH
open PySem PySem.Spec PyProof.Rows L2

theorem bndE {α β : Type} (m : M α) (f : α → M β) (s : S) : bnd m f s = (match m s with
  | some (a, s1) => f a s1
  | none => none) := rfl
theorem sz (n : Nat) (h : n ≤ 100000) : n ≤ sizeLine := Nat.le_trans h (by decide)
theorem seq_nx {m n : M Out} {s s1 : S} (h : m s = some (.nx, s1)) : sSeq m n s = n s1 := by unfold sSeq; rw [bndE, h]
theorem seq_ret {m n : M Out} {s s1 : S} {d : D} (h : m s = some (.ret d, s1)) : sSeq m n s = some (.ret d, s1) := by unfold sSeq; rw [bndE, h]; rfl
theorem if_tt {t : M Bool} {m n : M Out} {s s1 : S} (h : t s = some (true, s1)) : sIf t m n s = m s1 := by unfold sIf; rw [bndE, h]; rfl
theorem if_ff {t : M Bool} {m n : M Out} {s s1 : S} (h : t s = some (false, s1)) : sIf t m n s = n s1 := by unfold sIf; rw [bndE, h]; rfl
theorem fn_eq {g : FnSem} {ms : M (List D)} {s : S} {env : List (Option Sl)} {c0 : Src} {ds : List D} {d : D} {c : Src} (h : ms s = some (ds, ⟨env, c0⟩)) (h2 : g ds c0 = some (d, c)) : eFn g ms s = some (d, ⟨env, c⟩) := by
  unfold eFn
  exact (bnd_eq h).trans (by show (match g ds c0 with | some (d, c) => _ | none => none) = _; rw [h2])
theorem fnOf_ret {n : Nat} {m : M Out} {ds : List D} {c c' : Src} {d : D} {env : List (Option Sl)} (h : m ⟨ds.map (fun d => some (Sl.val d)) ++ List.replicate (n - ds.length) none, c⟩ = some (.ret d, ⟨env, c'⟩)) : fnOf n m ds c = some (d, c') := by
  unfold fnOf; rw [h]

def turnC (g : D → M Unit) (c : M Bool) (el : M D) (d : D) : M (Option D) := bnd (g d) fun _ => bnd c fun b => if b = true then bnd el fun y => ret (some y) else ret none
theorem cStep_eq {vs : List Nat} {g : D → M Unit} {c : M Bool} {el : M D} {d : D} {s : S} : cStep vs g c el d s = turnC g c el d ⟨wipeE s.env vs, s.src⟩ := rfl
def cleanE (env : List (Option Sl)) (vs : List Nat) : Prop := ∀ v ∈ vs, ∀ x, env[v]? = some (some x) → ∃ d, x = .val d
theorem wipeE_at {env : List (Option Sl)} {i : Nat} : ∀ {vs : List Nat}, i ∈ vs → (wipeE env vs)[i]? = env[i]?.map fun _ => none
  | [], h => by simp at h
  | v :: vs, h => by
    unfold wipeE
    by_cases e : v = i
    · subst e
      by_cases hv : v < env.length
      · rw [List.getElem?_set_self (by rw [wipeE_len]; exact hv), List.getElem?_eq_getElem hv]; rfl
      · rw [List.getElem?_eq_none (by rw [List.length_set, wipeE_len]; omega), List.getElem?_eq_none (by omega)]; rfl
    · rw [List.getElem?_set_ne e]
      exact wipeE_at (by
        rcases List.mem_cons.mp h with z | z
        · exact absurd z.symm e
        · exact z)
theorem restE_at {env0 env : List (Option Sl)} {i : Nat} : ∀ {vs : List Nat}, i ∈ vs → i < env.length → (restE env0 env vs)[i]? = some (match env0[i]? with
    | some (some (.val d)) => some (.val d)
    | _ => none)
  | [], h, _ => by simp at h
  | v :: vs, h, hl => by
    unfold restE
    by_cases e : v = i
    · subst e
      rw [List.getElem?_set_self (by rw [restE_len]; exact hl)]
      all_goals rfl
    · rw [List.getElem?_set_ne e]
      exact restE_at (by
        rcases List.mem_cons.mp h with z | z
        · exact absurd z.symm e
        · exact z) hl
theorem restE_off {env0 env : List (Option Sl)} {i : Nat} : ∀ {vs : List Nat}, i ∉ vs → (restE env0 env vs)[i]? = env[i]?
  | [], _ => rfl
  | v :: vs, h => by
    unfold restE
    rw [List.getElem?_set_ne (by rintro rfl; exact h List.mem_cons_self), restE_off fun z => h (List.mem_cons_of_mem _ z)]
theorem rest_clean {env env1 : List (Option Sl)} {vs : List Nat} (h : wipeE env1 vs = wipeE env vs) (cl : cleanE env vs) : restE env env1 vs = env := by
  have hlen : env1.length = env.length := by rw [← wipeE_len env1 vs, h, wipeE_len]
  refine List.ext_getElem? fun i => ?_
  by_cases hi : i ∈ vs
  · by_cases hl : i < env.length
    · rw [restE_at hi (by omega), List.getElem?_eq_getElem hl]
      cases q : env[i] with
      | none => rfl
      | some x =>
        obtain ⟨d, rfl⟩ := cl i hi x (by rw [List.getElem?_eq_getElem hl, q])
        rfl
    · rw [List.getElem?_eq_none (by rw [restE_len]; omega), List.getElem?_eq_none (by omega)]
  · rw [restE_off hi, ← wipeE_get (env := env1) hi, h, wipeE_get hi]
section
variable {vs : List Nat} {g : D → M Unit} {c : M Bool} {el : M D} {it : M (List D)} {env : List (Option Sl)}
theorem compF_rel {α : Type} {enc : α → Option D} {R : D → α → Prop} : ∀ {ds : List D} {env0 : List (Option Sl)} {src : Src}, wipeE env0 vs = wipeE env vs →
    (∀ d ∈ ds, ∀ s, ∃ y env1 s', turnC g c el d ⟨wipeE env vs, s⟩ = some (enc y, ⟨env1, s'⟩) ∧ wipeE env1 vs = wipeE env vs ∧ R d y) →
    ∃ (ys : List α) (env2 : List (Option Sl)) (s' : Src), ys.length = ds.length ∧ (∀ (i : Nat) (d : D) (y : α), ds[i]? = some d → ys[i]? = some y → R d y) ∧ compF vs g c el ds ⟨env0, src⟩ = some (ys.filterMap enc, ⟨env2, s'⟩) ∧ wipeE env2 vs = wipeE env vs
  | [], env0, src, h, _ => ⟨[], env0, src, rfl, fun i d y z => by simp at z, rfl, h⟩
  | d :: r, env0, src, h, step => by
    obtain ⟨y, env1, s1, e1, w1, hy⟩ := step d List.mem_cons_self src
    obtain ⟨ys, env2, s2, hl, hr, e2, w2⟩ := compF_rel (ds := r) (env0 := env1) (src := s1) w1 fun d hd => step d (List.mem_cons_of_mem _ hd)
    refine ⟨y :: ys, env2, s2, by simp [hl], fun i d' y' h1 h2 => ?_, ?_, w2⟩
    · cases i with
      | zero => simp at h1 h2; subst h1 h2; exact hy
      | succ i => simp at h1 h2; exact hr i d' y' h1 h2
    · show bnd (cStep vs g c el d) _ _ = _
      rw [bnd_eq (show cStep vs g c el d ⟨env0, src⟩ = some (enc y, ⟨env1, s1⟩) by rw [cStep_eq]; show turnC g c el d ⟨wipeE env0 vs, src⟩ = _; rw [h]; exact e1)]
      rw [bnd_eq e2]
      show some _ = _
      rw [List.filterMap_cons]
      cases enc y <;> rfl
theorem compF_pure {α : Type} {enc : α → D} {f : α → Option D} {src : Src} : ∀ {xs : List α} {env0 : List (Option Sl)}, wipeE env0 vs = wipeE env vs →
    (∀ x ∈ xs, ∃ env1, turnC g c el (enc x) ⟨wipeE env vs, src⟩ = some (f x, ⟨env1, src⟩) ∧ wipeE env1 vs = wipeE env vs) →
    ∃ env2, compF vs g c el (xs.map enc) ⟨env0, src⟩ = some (xs.filterMap f, ⟨env2, src⟩) ∧ wipeE env2 vs = wipeE env vs
  | [], env0, h, _ => ⟨env0, rfl, h⟩
  | x :: r, env0, h, step => by
    obtain ⟨env1, e1, w1⟩ := step x List.mem_cons_self
    obtain ⟨env2, e2, w2⟩ := compF_pure (xs := r) (env0 := env1) w1 fun x hx => step x (List.mem_cons_of_mem _ hx)
    refine ⟨env2, ?_, w2⟩
    show bnd (cStep vs g c el (enc x)) _ _ = _
    rw [bnd_eq (show cStep vs g c el (enc x) ⟨env0, src⟩ = some (f x, ⟨env1, src⟩) by rw [cStep_eq]; show turnC g c el (enc x) ⟨wipeE env0 vs, src⟩ = _; rw [h]; exact e1)]
    rw [bnd_eq e2]
    show some _ = _
    rw [List.filterMap_cons]
    cases f x <;> rfl
theorem ret_eq {m : M D} {s s1 : S} {d : D} (h : m s = some (d, s1)) : sRet m s = some (.ret d, s1) := by unfold sRet; rw [bnd_eq h]; rfl
theorem set_eq {i : Nat} {m : M D} {s : S} {env : List (Option Sl)} {c : Src} {d : D} (h : m s = some (d, ⟨env, c⟩)) (hi : i < env.length) : sSet i m s = some (.nx, ⟨env.set i (some (.val d)), c⟩) := by
  unfold sSet sAsg
  rw [bnd_eq h]
  have : gN i d ⟨env, c⟩ = some ((), ⟨env.set i (some (.val d)), c⟩) := by unfold gN; rw [if_pos hi]
  rw [bnd_eq this]
  rfl
theorem fld_eq {i : Nat} {m : M D} {s : S} {env : List (Option Sl)} {c : Src} {z : Int} {g : Src → Int → Src} (h : m s = some (.int z, ⟨env, c⟩)) (hi : env[i]? = some (some (.val .src))) : sFld i g m s = some (.nx, ⟨env, g c z⟩) := by
  unfold sFld
  refine (bnd_eq h).trans ?_
  show (match (D.int z), env[i]? with
    | .int z, some (some (.val .src)) => some (Out.nx, (⟨env, g c z⟩ : S))
    | _, _ => none) = _
  rw [hi]
theorem call_eq {G : List D → Option D} {ms : M (List D)} {s s1 : S} {ds : List D} {d : D} (h : ms s = some (ds, s1)) (h2 : G ds = some d) : eCall G ms s = some (d, s1) := by
  unfold eCall; rw [bnd_eq h]; show lift (G ds) s1 = _; rw [h2]; rfl
theorem cons_eq {m : M D} {ms : M (List D)} {s s1 s2 : S} {d : D} {ds : List D} (h : m s = some (d, s1)) (h2 : ms s1 = some (ds, s2)) : aCons m ms s = some (d :: ds, s2) := by
  unfold aCons; rw [bnd_eq h, bnd_eq h2]; rfl
theorem one_eq {m : M D} {s s1 : S} {d : D} (h : m s = some (d, s1)) : aCons m aNil s = some ([d], s1) := cons_eq h rfl
theorem lst_eq {m : M (List D)} {s s1 : S} {ds : List D} (h : m s = some (ds, s1)) : eLst m s = some (.lst ds, s1) := by unfold eLst; rw [bnd_eq h]; rfl
theorem bin_eq {f : D → D → Option D} {ma mb : M D} {s s1 s2 : S} {x y z : D} (h : ma s = some (x, s1)) (h2 : mb s1 = some (y, s2)) (h3 : f x y = some z) : eBin f ma mb s = some (z, s2) := by
  unfold eBin; rw [bnd_eq h, bnd_eq h2, h3]; rfl
theorem tst_eq {m : M D} {s s1 : S} {b : Bool} (h : m s = some (.bl b, s1)) : tst m s = some (b, s1) := by unfold tst; rw [bnd_eq h]; rfl
end
end GH

namespace GH

theorem pick_lt (most : Int) (c : Src) (h : most < 2) : S_pick [.src, .int most] c = some (.int 0, c) := by
  refine fnOf_ret (env := [some (.val .src), some (.val (.int most)), none, none, none, none]) ?_
  unfold mPick
  refine seq_ret ?_
  rw [if_tt (s1 := ⟨[some (.val .src), some (.val (.int most)), none, none, none, none], c⟩)]
  · rfl
  · exact tst_eq (bin_eq (f := ltD) (x := .int most) (y := .int 2) rfl rfl (by simp [ltD, h]))
theorem div_ok {a b : Int} (h1 : 2 ≤ b) (h2 : b ≤ 1000000000) : fdivD (.int a) (.int b) = some (.int (a.fdiv b)) := by
  show (if L2.CDivN a b then some (D.int (a.fdiv b)) else if L2.CDivW a b then some (D.int (a / b)) else none) = _
  rw [if_pos ⟨by omega, by omega⟩]
theorem mod_ok {a b : Int} (h1 : b ≠ 0) : modD (.int a) (.int b) = some (.int (a.fmod b)) := by
  show (if b ≠ 0 then some (D.int (a.fmod b)) else none) = _
  rw [if_pos h1]
theorem pick_ok (most : Int) (c : Src) (h : 2 ≤ most) (h2 : most ≤ 1000000000) : ∃ r c', S_pick [.src, .int most] c = some (.int r, c') ∧ 0 ≤ r ∧ r < most := by
  have h0 : most ≠ 0 := by omega
  have go : ∀ a : Int, 0 ≤ a.fmod most ∧ a.fmod most < most := fun a => ⟨Int.fmod_nonneg_of_pos a (by omega), Int.fmod_lt_of_pos a (by omega)⟩
  let e0 : List (Option Sl) := [some (.val .src), some (.val (.int most)), none, none, none, none]
  let s1 := drain c
  have start : ∀ {d c'} {env : List (Option Sl)}, (sSeq (sIf (tst (eBin gtD (eVar 3) (eC (.int 1)))) (sSeq (sFld 0 (fun s z => { s with left := z }) (eBin fdivD (eVar 3) (eVar 1))) (sRet (eBin modD (eCall intG (aCons (eVar 3) aNil)) (eVar 1)))) sNx)
      (sSeq (sFld 0 (fun s z => { s with turn := z }) (eBin addD (eFld 0 Src.turn) (eC (.int 1))))
      (sSeq (sSet 4 (eFld 0 Src.turn))
      (sSeq (sSet 5 (eBin modD (eCall intG (aCons (eBin addD (eFld 0 Src.mixed) (eBin mulD (eVar 4) (eC (.int 104729)))) aNil)) (eC (.int 998244353))))
      (sSeq (sSet 5 (eBin modD (eCall intG (aCons (eBin addD (eBin mulD (eVar 5) (eVar 5)) (eBin mulD (eVar 4) (eC (.int 17)))) aNil)) (eC (.int 2147483647))))
      (sRet (eBin modD (eCall intG (aCons (eBin fdivD (eVar 5) (eC (.int 16))) aNil)) (eVar 1)))))))) ⟨e0.set 3 (some (.val (.int s1.left))), s1⟩ = some (.ret d, ⟨env, c'⟩) → S_pick [.src, .int most] c = some (d, c') := fun {d c' env} hh => by
    refine fnOf_ret (env := env) ?_
    unfold mPick
    rw [seq_nx (s1 := ⟨e0, c⟩)]
    · show sSeq _ _ ⟨e0, s1⟩ = _
      rw [seq_nx (s1 := ⟨e0.set 3 (some (.val (.int s1.left))), s1⟩) rfl]
      exact hh
    · rw [if_ff (s1 := ⟨e0, c⟩)]
      · rfl
      · exact tst_eq (bin_eq (f := ltD) (x := .int most) (y := .int 2) (by rfl) (by rfl) (by simp [ltD]; omega))
  by_cases hl : 1 < s1.left
  · refine ⟨s1.left.fmod most, { s1 with left := s1.left.fdiv most }, start (env := e0.set 3 (some (.val (.int s1.left)))) ?_, go _⟩
    refine seq_ret ?_
    rw [if_tt (s1 := ⟨e0.set 3 (some (.val (.int s1.left))), s1⟩) (tst_eq (bin_eq (f := gtD) (x := .int s1.left) (y := .int 1) (by rfl) (by rfl) (by simp [gtD, hl])))]
    rw [seq_nx (s1 := ⟨e0.set 3 (some (.val (.int s1.left))), { s1 with left := s1.left.fdiv most }⟩)]
    · exact ret_eq (bin_eq (f := modD) (x := .int s1.left) (y := .int most) (by rfl) (by rfl) (mod_ok h0))
    · exact fld_eq (bin_eq (f := fdivD) (x := .int s1.left) (y := .int most) (by rfl) (by rfl) (div_ok h h2)) rfl
  · let t : Int := s1.turn + 1
    let c2 : Src := { s1 with turn := t }
    let a : Int := (s1.mixed + t * 104729).fmod 998244353
    let b : Int := (a * a + t * 17).fmod 2147483647
    have ha : 0 ≤ a ∧ a < 998244353 := ⟨Int.fmod_nonneg_of_pos _ (by decide), Int.fmod_lt_of_pos _ (by decide)⟩
    have m1 : ∀ x y : Int, -(2 ^ 64) < y → y < 2 ^ 64 → mulD (.int x) (.int y) = some (.int (x * y)) := fun x y h1 h2 => by
      show (if L2.CMul x y then some (D.int (x * y)) else if L2.CMulW x y then some (D.int (x * y)) else none) = _
      rw [if_pos (.inr ⟨h1, h2⟩)]
    refine ⟨(b.fdiv 16).fmod most, c2, start (env := ((e0.set 3 (some (.val (.int s1.left)))).set 4 (some (.val (.int t)))).set 5 (some (.val (.int b)))) ?_, go _⟩
    rw [seq_nx (s1 := ⟨e0.set 3 (some (.val (.int s1.left))), s1⟩)]
    · rw [seq_nx (s1 := ⟨e0.set 3 (some (.val (.int s1.left))), c2⟩) rfl]
      rw [seq_nx (s1 := ⟨(e0.set 3 (some (.val (.int s1.left)))).set 4 (some (.val (.int t))), c2⟩) rfl]
      rw [seq_nx (s1 := ⟨((e0.set 3 (some (.val (.int s1.left)))).set 4 (some (.val (.int t)))).set 5 (some (.val (.int a))), c2⟩)]
      · rw [seq_nx (s1 := ⟨((e0.set 3 (some (.val (.int s1.left)))).set 4 (some (.val (.int t)))).set 5 (some (.val (.int b))), c2⟩)]
        · refine ret_eq (bin_eq (f := modD) (x := .int (b.fdiv 16)) (y := .int most) (call_eq (ds := [.int (b.fdiv 16)]) (one_eq (bin_eq (f := fdivD) (x := .int b) (y := .int 16) (by rfl) (by rfl) (div_ok (by decide) (by decide)))) (by rfl)) (by rfl) (mod_ok h0))
        · refine (set_eq (c := c2) (env := ((e0.set 3 (some (.val (.int s1.left)))).set 4 (some (.val (.int t)))).set 5 (some (.val (.int a)))) (bin_eq (f := modD) (x := .int (a * a + t * 17)) (y := .int 2147483647) (call_eq (ds := [.int (a * a + t * 17)]) (one_eq (bin_eq (f := addD) (s1 := ⟨((e0.set 3 (some (.val (.int s1.left)))).set 4 (some (.val (.int t)))).set 5 (some (.val (.int a))), c2⟩) (x := .int (a * a)) (y := .int (t * 17)) ?_ ?_ (by rfl))) (by rfl)) (by rfl) (mod_ok (by decide))) (by show 5 < 6; decide)).trans (by rfl)
          · exact bin_eq (f := mulD) (x := .int a) (y := .int a) (by rfl) (by rfl) (m1 _ _ (by omega) (by omega))
          · exact bin_eq (f := mulD) (x := .int t) (y := .int 17) (by rfl) (by rfl) (m1 _ _ (by decide) (by decide))
      · refine set_eq (bin_eq (f := modD) (x := .int (s1.mixed + t * 104729)) (y := .int 998244353) (call_eq (ds := [.int (s1.mixed + t * 104729)]) (one_eq (bin_eq (f := addD) (x := .int s1.mixed) (y := .int (t * 104729)) (by rfl) ?_ (by rfl))) (by rfl)) (by rfl) (mod_ok (by decide))) (by show 5 < 6; decide)
        exact bin_eq (f := mulD) (x := .int t) (y := .int 104729) (by rfl) (by rfl) (m1 _ _ (by decide) (by decide))
    · rw [if_ff (s1 := ⟨e0.set 3 (some (.val (.int s1.left))), s1⟩) (tst_eq (bin_eq (f := gtD) (x := .int s1.left) (y := .int 1) (by rfl) (by rfl) (by simp [gtD]; omega)))]
      rfl
theorem pick_any (most : Int) (c : Src) (h1 : 1 ≤ most) (h2 : most ≤ 1000000000) : ∃ r c', S_pick [.src, .int most] c = some (.int r, c') ∧ 0 ≤ r ∧ r < most := by
  by_cases h : most < 2
  · exact ⟨0, c, pick_lt most c h, by omega, by omega⟩
  · exact pick_ok most c (by omega) h2
end GH

namespace GH
open PySem (PyData)

mutual
def D.nice : D → Bool
  | .non => true
  | .int _ => true
  | .str s => PyData.strOk s
  | .tup ds => D.niceAll ds
  | .lst ds => D.niceAll ds
  | _ => false
def D.niceAll : List D → Bool
  | [] => true
  | d :: ds => d.nice && D.niceAll ds
end
mutual
theorem D.nice_can : ∀ d : D, d.nice = true → d.py.canLay0 = true
  | .non, _ => by simp [D.py, PyData.canLay0]
  | .int _, _ => by simp [D.py, PyData.canLay0]
  | .str s, h => by simpa [D.nice, D.py, PyData.canLay0] using h
  | .tup ds, h => by
    simp only [D.py, PyData.canLay0]
    exact D.niceAll_can ds (by simpa [D.nice] using h)
  | .lst ds, h => by
    simp only [D.py, PyData.canLay0]
    exact D.niceAll_can ds (by simpa [D.nice] using h)
  | .bl _, h => by simp [D.nice] at h
  | .rng _ _, h => by simp [D.nice] at h
  | .src, h => by simp [D.nice] at h
  | .dct _ _, h => by simp [D.nice] at h
  | .dtt _ _, h => by simp [D.nice] at h
  | .tpx _, h => by simp [D.nice] at h
theorem D.niceAll_can : ∀ ds : List D, D.niceAll ds = true → PyData.canLayAll0 (D.pys ds) = true
  | [], _ => by simp [D.pys, PyData.canLayAll0]
  | d :: ds, h => by
    simp only [D.niceAll, Bool.and_eq_true] at h
    simp only [D.pys, PyData.canLayAll0, Bool.and_eq_true]
    exact ⟨D.nice_can d h.1, D.niceAll_can ds h.2⟩
end
mutual
theorem D.eqv_nice : ∀ a b : D, a.nice = true → b.nice = true → (PyData.eqv a.py b.py = true ↔ a = b)
  | .non, b, _, hb => by cases b <;> simp [D.nice] at hb <;> simp [D.py, PyData.eqv]
  | .int i, b, _, hb => by cases b <;> simp [D.nice] at hb <;> simp [D.py, PyData.eqv]
  | .str i, b, _, hb => by cases b <;> simp [D.nice] at hb <;> simp [D.py, PyData.eqv]
  | .tup ds, b, ha, hb => by
    cases b <;> simp only [D.nice] at hb <;> try (simp [D.py, PyData.eqv]; done)
    · simp only [D.py, PyData.eqv, D.tup.injEq]
      exact D.eqvAll_nice ds _ (by simpa [D.nice] using ha) hb
    all_goals cases hb
  | .lst ds, b, ha, hb => by
    cases b <;> simp only [D.nice] at hb <;> try (simp [D.py, PyData.eqv]; done)
    · simp only [D.py, PyData.eqv, D.lst.injEq]
      exact D.eqvAll_nice ds _ (by simpa [D.nice] using ha) hb
    all_goals cases hb
  | .bl _, _, h, _ => by simp [D.nice] at h
  | .rng _ _, _, h, _ => by simp [D.nice] at h
  | .src, _, h, _ => by simp [D.nice] at h
  | .dct _ _, _, h, _ => by simp [D.nice] at h
  | .dtt _ _, _, h, _ => by simp [D.nice] at h
  | .tpx _, _, h, _ => by simp [D.nice] at h
theorem D.eqvAll_nice : ∀ a b : List D, D.niceAll a = true → D.niceAll b = true → (PyData.eqvAll (D.pys a) (D.pys b) = true ↔ a = b)
  | [], b, _, _ => by cases b <;> simp [D.pys, PyData.eqvAll]
  | x :: a, [], _, _ => by simp [D.pys, PyData.eqvAll]
  | x :: a, y :: b, ha, hb => by
    simp only [D.niceAll, Bool.and_eq_true] at ha hb
    simp only [D.pys, PyData.eqvAll, Bool.and_eq_true, List.cons.injEq]
    rw [D.eqv_nice x y ha.1 hb.1, D.eqvAll_nice a b ha.2 hb.2]
end
def D.ok (d : D) : Prop := d.nice = true ∧ d.py.depth ≤ 64
theorem D.ok.shaped {d : D} (h : d.ok) : PySem.SeqAt.shaped d.py = true := by
  unfold PySem.SeqAt.shaped
  rw [Bool.and_eq_true]
  exact ⟨D.nice_can d h.1, decide_eq_true h.2⟩
theorem neD_same {a : D} (h : a.ok) : neD a a = some (.bl false) := by
  unfold neD
  rw [if_pos ⟨h.shaped, h.shaped⟩, (D.eqv_nice a a h.1 h.1).mpr rfl]
  rfl
theorem eqD_iff {a b : D} (h : a.ok) (h2 : b.ok) {p : Prop} [Decidable p] (hp : a = b ↔ p) : eqD a b = some (.bl (decide p)) := by
  unfold eqD
  rw [if_pos ⟨h.shaped, h2.shaped⟩]
  have := D.eqv_nice a b h.1 h2.1
  by_cases q : p
  · rw [this.mpr (hp.mpr q), decide_eq_true q]
  · rw [decide_eq_false q]
    cases e : PyData.eqv a.py b.py with
    | false => rfl
    | true => exact absurd (hp.mp (this.mp e)) q
theorem neD_iff {a b : D} (h : a.ok) (h2 : b.ok) {p : Prop} [Decidable p] (hp : a = b ↔ p) : neD a b = some (.bl (!decide p)) := by
  have := eqD_iff h h2 hp
  unfold eqD at this
  unfold neD
  rw [if_pos ⟨h.shaped, h2.shaped⟩] at this ⊢
  have e := Option.some.inj this
  have e : PyData.eqv a.py b.py = decide p := by injection e
  rw [e]
theorem D.ok_int (i : Int) : (D.int i).ok := ⟨rfl, by simp [D.py, PyData.depth]⟩
theorem niceAll_of : ∀ {ds : List D}, (∀ d ∈ ds, d.nice = true) → D.niceAll ds = true
  | [], _ => by simp [D.niceAll]
  | d :: ds, h => by
    simp only [D.niceAll, Bool.and_eq_true]
    exact ⟨h d List.mem_cons_self, niceAll_of fun x hx => h x (List.mem_cons_of_mem _ hx)⟩
theorem depthAll_of {n : Nat} : ∀ {ds : List D}, (∀ d ∈ ds, d.py.depth ≤ n) → PyData.depthAll (D.pys ds) ≤ n
  | [], _ => by simp [D.pys, PyData.depthAll]
  | d :: ds, h => by
    simp only [D.pys, PyData.depthAll]
    exact Nat.max_le.mpr ⟨h d List.mem_cons_self, depthAll_of fun x hx => h x (List.mem_cons_of_mem _ hx)⟩
def D.okN (n : Nat) (d : D) : Prop := d.nice = true ∧ d.py.depth ≤ n
theorem D.okN.ok {n : Nat} {d : D} (h : d.okN n) (hn : n ≤ 64 := by decide) : d.ok := ⟨h.1, Nat.le_trans h.2 hn⟩
theorem D.okN_int {n : Nat} (i : Int) : (D.int i).okN n := ⟨rfl, by simp [D.py, PyData.depth]⟩
theorem D.okN_tup {n : Nat} {ds : List D} (h : ∀ d ∈ ds, d.okN n) : (D.tup ds).okN (n + 1) :=
  ⟨by simp only [D.nice]; exact niceAll_of fun d hd => (h d hd).1, by simp only [D.py, PyData.depth]; exact Nat.succ_le_succ (depthAll_of fun d hd => (h d hd).2)⟩
theorem D.okN_lst {n : Nat} {ds : List D} (h : ∀ d ∈ ds, d.okN n) : (D.lst ds).okN (n + 1) :=
  ⟨by simp only [D.nice]; exact niceAll_of fun d hd => (h d hd).1, by simp only [D.py, PyData.depth]; exact Nat.succ_le_succ (depthAll_of fun d hd => (h d hd).2)⟩
theorem eqD_int (i j : Int) : eqD (.int i) (.int j) = some (.bl (decide (i = j))) := eqD_iff (D.ok_int i) (D.ok_int j) ⟨fun h => by injection h, fun h => by rw [h]⟩
theorem neD_int (i j : Int) : neD (.int i) (.int j) = some (.bl (!decide (i = j))) := neD_iff (D.ok_int i) (D.ok_int j) ⟨fun h => by injection h, fun h => by rw [h]⟩

theorem memD_ints (i : Int) : ∀ xs : List Int, memD (.int i) (xs.map D.int) = decide (i ∈ xs)
  | [] => by simp [memD, D.pys]
  | x :: xs => by
    have ih := memD_ints i xs
    unfold memD at ih ⊢
    rw [List.map_cons]
    simp only [D.pys, List.any_cons]
    rw [ih]
    simp only [D.py, PyData.eqv]
    by_cases h : i = x
    · subst h; simp
    · have : ¬ x = i := fun z => h z.symm
      simp [h, this]
theorem okIn_ints (i : Int) (xs : List Int) : okIn (.int i) (xs.map D.int) := by
  have h : (D.lst (xs.map D.int)).okN 1 := D.okN_lst (n := 0) fun d hd => by
    obtain ⟨x, _, rfl⟩ := List.mem_map.mp hd
    exact D.okN_int x
  refine ⟨(D.ok_int i).shaped, by simpa only [D.py] using h.ok.shaped, ?_⟩
  have := D.nice_can _ h.1
  simpa only [D.py, PyData.canLay0] using this

theorem perm_map_inv {α : Type} {f : α → D} : ∀ {l l' : List D}, l.Perm l' → ∀ xs : List α, l' = xs.map f → ∃ ys : List α, ys.Perm xs ∧ l = ys.map f := by
  intro l l' h
  induction h with
  | nil => intro xs e; exact ⟨xs, .refl _, e⟩
  | @cons a l1 l2 h ih =>
    intro xs e
    cases xs with
    | nil => cases e
    | cons x xs =>
      rw [List.map_cons] at e
      cases e
      obtain ⟨ys, p, e2⟩ := ih xs rfl
      exact ⟨x :: ys, p.cons x, by rw [e2, List.map_cons]⟩
  | swap a b l =>
    intro xs e
    match xs, e with
    | x :: y :: xs, e =>
      rw [List.map_cons, List.map_cons] at e
      injection e with e1 e2
      injection e2 with e2 e3
      exact ⟨y :: x :: xs, List.Perm.swap x y xs, by rw [List.map_cons, List.map_cons, ← e1, ← e2, ← e3]⟩
  | trans _ _ ih1 ih2 =>
    intro xs e
    obtain ⟨ys, p, e1⟩ := ih2 xs e
    obtain ⟨zs, p2, e2⟩ := ih1 ys e1
    exact ⟨zs, p2.trans p, e2⟩
theorem alike_ints (a b : List Int) : PySem.W.alike (D.tup (a.map D.int)).py (D.tup (b.map D.int)).py = true := by
  simp only [D.py, PySem.W.alike]
  induction a generalizing b with
  | nil => simp [D.pys, PySem.W.alikeAll]
  | cons x a ih =>
    cases b with
    | nil => simp [D.pys, PySem.W.alikeAll]
    | cons y b =>
      rw [List.map_cons, List.map_cons]
      simp only [D.pys, PySem.W.alikeAll, D.py, PySem.W.alike, Bool.true_and]
      exact ih b
theorem okSort_ints (vs : List (List Int)) (h : ∀ v ∈ vs, v ≠ []) : okSort (D.pys (vs.map fun v => D.tup (v.map D.int))) = true := by
  have mem : ∀ p ∈ D.pys (vs.map fun v => D.tup (v.map D.int)), ∃ v ∈ vs, p = (D.tup (v.map D.int)).py := fun p hp => by
    rw [pys_map, List.map_map] at hp
    obtain ⟨v, hv, rfl⟩ := List.mem_map.mp hp
    exact ⟨v, hv, rfl⟩
  have okt : ∀ v : List Int, (D.tup (v.map D.int)).okN 1 := fun v => D.okN_tup (n := 0) fun d hd => by
    obtain ⟨x, _, rfl⟩ := List.mem_map.mp hd
    exact D.okN_int x
  unfold okSort
  simp only [Bool.and_eq_true, Bool.or_eq_true]
  refine ⟨⟨⟨List.all_eq_true.mpr fun a ha => List.all_eq_true.mpr fun b hb => ?_, .inl (List.all_eq_true.mpr fun a ha => ?_)⟩, List.all_eq_true.mpr fun a ha => ?_⟩, ?_⟩
  · obtain ⟨v, _, rfl⟩ := mem a ha
    obtain ⟨u, _, rfl⟩ := mem b hb
    exact alike_ints v u
  · obtain ⟨v, hv, rfl⟩ := mem a ha
    cases v with
    | nil => exact absurd rfl (h _ hv)
    | cons x r => simp [D.py, D.pys]
  · obtain ⟨v, hv, rfl⟩ := mem a ha
    exact decide_eq_true (Nat.le_trans (okt v).2 (by decide))
  · exact D.niceAll_can _ (niceAll_of fun d hd => by
      obtain ⟨v, _, rfl⟩ := List.mem_map.mp hd
      exact (okt v).1)
theorem wipeE_sub {env : List (Option Sl)} {us vs : List Nat} (h : ∀ u ∈ us, u ∈ vs) : wipeE (wipeE env us) vs = wipeE env vs := by
  refine List.ext_getElem? fun i => ?_
  by_cases hi : i ∈ vs
  · rw [wipeE_at hi, wipeE_at hi]
    by_cases hu : i ∈ us
    · rw [wipeE_at hu]; cases env[i]? <;> rfl
    · rw [wipeE_get hu]
  · rw [wipeE_get hi, wipeE_get hi, wipeE_get fun z => hi (h i z)]
theorem outF_map {α β : Type} {vs vs1 : List Nat} {g g1 : D → M Unit} {c1 : M Bool} {el : M D} {it1 : M (List D)} {env : List (Option Sl)} {enc : α → D} {enc1 : β → D} {f : α → β → D} {ys : List β} {src : Src} (sub : ∀ i ∈ vs1, i ∈ vs) : ∀ {xs : List α} {env0 : List (Option Sl)}, wipeE env0 vs = wipeE env vs →
    (∀ x ∈ xs, ∃ env1, g (enc x) ⟨wipeE env vs, src⟩ = some ((), ⟨env1, src⟩) ∧ wipeE env1 vs = wipeE env vs ∧ it1 ⟨env1, src⟩ = some (ys.map enc1, ⟨env1, src⟩) ∧
      ∀ y ∈ ys, ∃ env2, turnC g1 c1 el (enc1 y) ⟨wipeE env1 vs1, src⟩ = some (some (f x y), ⟨env2, src⟩) ∧ wipeE env2 vs1 = wipeE env1 vs1) →
    ∃ env2, outF vs (cOut vs vs1 g (ret true) it1 g1 c1 el) (xs.map enc) ⟨env0, src⟩ = some (xs.flatMap fun x => ys.map (f x), ⟨env2, src⟩) ∧ wipeE env2 vs = wipeE env vs
  | [], env0, h, _ => ⟨env0, rfl, h⟩
  | x :: r, env0, h, step => by
    obtain ⟨env1, e1, w1, i1, t1⟩ := step x List.mem_cons_self
    obtain ⟨envE, eE, wE⟩ := compF_pure (vs := vs1) (g := g1) (c := c1) (el := el) (env := env1) (enc := enc1) (f := fun y => some (f x y)) (src := src) (xs := ys) (env0 := env1) rfl t1
    have eE2 : (ys.filterMap fun y => some (f x y)) = ys.map (f x) := by
      clear t1 i1 eE
      induction ys with
      | nil => rfl
      | cons y r ih => rw [List.filterMap_cons, List.map_cons]; simp
    rw [eE2] at eE
    have wE2 : wipeE envE vs = wipeE env vs := by rw [← wipeE_sub (env := envE) sub, wE, wipeE_sub sub, w1]
    obtain ⟨env2, e2, w2⟩ := outF_map sub (xs := r) (env0 := envE) wE2 fun x hx => step x (List.mem_cons_of_mem _ hx)
    refine ⟨env2, ?_, w2⟩
    have hc : cOut vs vs1 g (ret true) it1 g1 c1 el (enc x) ⟨env0, src⟩ = some (ys.map (f x), ⟨envE, src⟩) := by
      show bnd (g (enc x)) _ ⟨wipeE env0 vs, src⟩ = _
      rw [h, bnd_eq e1, bnd_eq (a := true) (s1 := ⟨env1, src⟩) rfl, if_pos rfl, bnd_eq i1]
      exact eE
    show bnd (cOut vs vs1 g (ret true) it1 g1 c1 el (enc x)) _ _ = _
    rw [bnd_eq hc, bnd_eq e2]
    rfl
end GH

namespace GH
open PySem PySem.Spec PyProof.Rows L2

inductive Ph {α : Sort u} (a : α) : Type where
  | mk
def Wp {α : Type} (m : M α) (s : S) (Q : α → S → Prop) (_ : Ph (m, Q) := .mk) : Prop := ∃ a s', m s = some (a, s') ∧ Q a s'
def Sm {α : Type} (o : Option α) (P : α → Prop) (_ : Ph P := .mk) : Prop := ∃ a, o = some a ∧ P a
def Cl (g : FnSem) (ds : List D) (c : Src) (R : D → Src → Prop) (_ : Ph R := .mk) : Prop := ∃ d c', g ds c = some (d, c') ∧ R d c'
def IfB (b : Bool) (P P' : Prop) (_ : Ph P := .mk) (_ : Ph P' := .mk) : Prop := (b = true → P) ∧ (b = false → P')
def Nx (o : Out) (P : Prop) (R : Out → Prop) (_ : Ph P := .mk) (_ : Ph R := .mk) : Prop := match o with
  | .nx => P
  | o => R o
def VarAt (env : List (Option Sl)) (i : Nat) (P : D → Prop) (_ : Ph P := .mk) : Prop := ∃ d, env[i]? = some (some (.val d)) ∧ P d
def SlAt (env : List (Option Sl)) (i : Nat) (P : Sl → Prop) (_ : Ph P := .mk) : Prop := ∃ d, env[i]? = some (some d) ∧ P d
def OwnAt (env : List (Option Sl)) (i : Nat) (P : List D → Prop) (_ : Ph P := .mk) : Prop := ∃ d, env[i]? = some (some (.own d)) ∧ P d
def SetAt (env : List (Option Sl)) (i : Nat) (x : Option Sl) (P : List (Option Sl) → Prop) (_ : Ph P := .mk) (_ : Ph x := .mk) : Prop := i < env.length ∧ P (env.set i x)
def FrzAt (env : List (Option Sl)) (i : Nat) (P : D → List (Option Sl) → Prop) (_ : Ph P := .mk) : Prop := ∃ sl, env[i]? = some (some sl) ∧ P sl.bor (env.set i (some (.val sl.bor)))
def LenOk (ds : List D) (P : Prop) (_ : Ph P := .mk) : Prop := ds.length ≤ sizeLine ∧ P
def IsB (d : D) (P : Bool → Prop) (_ : Ph P := .mk) : Prop := ∃ b, d = .bl b ∧ P b
def IsI (d : D) (P : Int → Prop) (_ : Ph P := .mk) : Prop := ∃ b, d = .int b ∧ P b

section
variable {α β : Type} {s : S} {c : Src} {env : List (Option Sl)}

theorem Wp.mono {m : M α} {Q Q' : α → S → Prop} (h : Wp m s Q) (f : ∀ a s', Q a s' → Q' a s') : Wp m s Q' := by
  obtain ⟨a, s', e, q⟩ := h; exact ⟨a, s', e, f a s' q⟩
theorem Cl.mono {g : FnSem} {ds : List D} {R R' : D → Src → Prop} (h : Cl g ds c R) (f : ∀ a s', R a s' → R' a s') : Cl g ds c R' := by
  obtain ⟨a, s', e, q⟩ := h; exact ⟨a, s', e, f a s' q⟩
theorem Wp.eq {m : M α} {a : α} {s' : S} (h : Wp m s fun x t => x = a ∧ t = s') : m s = some (a, s') := by
  obtain ⟨x, t, e, rfl, rfl⟩ := h; exact e
theorem Wp.of {m : M α} {a : α} {s' : S} {Q : α → S → Prop} (h : m s = some (a, s')) (q : Q a s') : Wp m s Q := ⟨a, s', h, q⟩
theorem wp_cg {m : M α} {Q Q' : α → S → Prop} (h : ∀ a s', Q a s' ↔ Q' a s') : Wp m s Q ↔ Wp m s Q' := ⟨fun z => z.mono fun a s' => (h a s').mp, fun z => z.mono fun a s' => (h a s').mpr⟩
theorem sm_cg {o : Option α} {Q Q' : α → Prop} (h : ∀ a, Q a ↔ Q' a) : Sm o Q ↔ Sm o Q' := ⟨fun ⟨a, e, q⟩ => ⟨a, e, (h a).mp q⟩, fun ⟨a, e, q⟩ => ⟨a, e, (h a).mpr q⟩⟩
theorem ifB_cg {b : Bool} {P P' R R' : Prop} (h : P ↔ P') (h2 : R ↔ R') : IfB b P R ↔ IfB b P' R' := by unfold IfB; rw [h, h2]
theorem wp_eq {m : M α} {a : α} {s' : S} {Q : α → S → Prop} (h : m s = some (a, s')) : Wp m s Q ↔ Q a s' :=
  ⟨fun ⟨x, t, e, q⟩ => by rw [h] at e; cases e; exact q, fun q => ⟨a, s', h, q⟩⟩
theorem wp_bnd {m : M α} {f : α → M β} {Q : β → S → Prop} : Wp (bnd m f) s Q ↔ Wp m s fun a s1 => Wp (f a) s1 Q := by
  constructor
  · rintro ⟨b, s2, e, q⟩
    obtain ⟨a, s1, e1, e2⟩ := bnd_some e
    exact ⟨a, s1, e1, b, s2, e2, q⟩
  · rintro ⟨a, s1, e1, b, s2, e2, q⟩
    exact ⟨b, s2, by rw [bnd_eq e1]; exact e2, q⟩
theorem wp_ret {a : α} {Q : α → S → Prop} : Wp (ret a) s Q ↔ Q a s := wp_eq rfl
theorem wp_lift {o : Option α} {Q : α → S → Prop} : Wp (lift o) s Q ↔ Sm o fun a => Q a s := by
  constructor
  · rintro ⟨a, s1, e, q⟩
    obtain ⟨e1, rfl⟩ := lift_some e
    exact ⟨a, e1, q⟩
  · rintro ⟨a, rfl, q⟩
    exact ⟨a, s, rfl, q⟩
theorem wp_fail {Q : α → S → Prop} : Wp fail s Q ↔ False := ⟨fun ⟨_, _, e, _⟩ => (by cases e), False.elim⟩
theorem sm_some {a : α} {P : α → Prop} : Sm (some a) P ↔ P a := ⟨fun ⟨_, e, p⟩ => by cases e; exact p, fun p => ⟨a, rfl, p⟩⟩
theorem sm_none {P : α → Prop} : Sm (none : Option α) P ↔ False := ⟨fun ⟨_, e, _⟩ => (by cases e), False.elim⟩
theorem sm_eq {o : Option α} {a : α} {P : α → Prop} (h : o = some a) : Sm o P ↔ P a := by rw [h]; exact sm_some
theorem sm_ite {p : Prop} [Decidable p] {a : Option α} {P : α → Prop} : Sm (if p then a else none) P ↔ p ∧ Sm a P := by
  by_cases h : p
  · rw [if_pos h]; simp [h]
  · rw [if_neg h, sm_none]; simp [h]
theorem sm_map {o : Option α} {f : α → β} {P : β → Prop} : Sm (o.map f) P ↔ Sm o fun a => P (f a) := by
  constructor
  · rintro ⟨b, e, p⟩
    obtain ⟨a, e1, rfl⟩ := Option.map_eq_some_iff.mp e
    exact ⟨a, e1, p⟩
  · rintro ⟨a, rfl, p⟩; exact ⟨_, rfl, p⟩
theorem sm_bind {o : Option α} {f : α → Option β} {P : β → Prop} : Sm (o.bind f) P ↔ Sm o fun a => Sm (f a) P := by
  constructor
  · rintro ⟨b, e, p⟩
    obtain ⟨a, e1, e2⟩ := Option.bind_eq_some_iff.mp e
    exact ⟨a, e1, b, e2, p⟩
  · rintro ⟨a, rfl, b, e, p⟩; exact ⟨b, e, p⟩
theorem cl_eq {g : FnSem} {ds : List D} {c' : Src} {d : D} {R : D → Src → Prop} (h : g ds c = some (d, c')) : Cl g ds c R ↔ R d c' :=
  ⟨fun ⟨x, t, e, q⟩ => by rw [h] at e; cases e; exact q, fun q => ⟨d, c', h, q⟩⟩
theorem Cl.eq {g : FnSem} {ds : List D} {c' : Src} {d : D} (h : Cl g ds c fun x t => x = d ∧ t = c') : g ds c = some (d, c') := by
  obtain ⟨x, t, e, rfl, rfl⟩ := h; exact e

theorem ifB_tt {P P' : Prop} : IfB true P P' ↔ P := by simp [IfB]
theorem ifB_ff {P P' : Prop} : IfB false P P' ↔ P' := by simp [IfB]
theorem ifB_dec {p : Prop} [Decidable p] {P P' : Prop} : IfB (decide p) P P' ↔ (p → P) ∧ (¬ p → P') := by simp [IfB]
theorem ifB_not {b : Bool} {P P' : Prop} : IfB (!b) P P' ↔ IfB b P' P := by cases b <;> simp [IfB]
theorem nx_nx {P : Prop} {R : Out → Prop} : Nx .nx P R ↔ P := Iff.rfl
theorem nx_ret {P : Prop} {d : D} {R : Out → Prop} : Nx (.ret d) P R ↔ R (.ret d) := Iff.rfl
theorem nx_brk {P : Prop} {R : Out → Prop} : Nx .brk P R ↔ R .brk := Iff.rfl
theorem nx_cnt {P : Prop} {R : Out → Prop} : Nx .cnt P R ↔ R .cnt := Iff.rfl
theorem ownAt_cg {i : Nat} {P P' : List D → Prop} (h : ∀ d, P d ↔ P' d) : OwnAt env i P ↔ OwnAt env i P' := ⟨fun ⟨d, e, p⟩ => ⟨d, e, (h d).mp p⟩, fun ⟨d, e, p⟩ => ⟨d, e, (h d).mpr p⟩⟩
theorem setAt_cg {i : Nat} {x : Option Sl} {P P' : List (Option Sl) → Prop} (h : ∀ d, P d ↔ P' d) : SetAt env i x P ↔ SetAt env i x P' := ⟨fun ⟨e, p⟩ => ⟨e, (h _).mp p⟩, fun ⟨e, p⟩ => ⟨e, (h _).mpr p⟩⟩
theorem varAt_z {d : D} {r : List (Option Sl)} {P : D → Prop} : VarAt (some (.val d) :: r) 0 P ↔ P d := ⟨fun ⟨_, e, p⟩ => by cases e; exact p, fun p => ⟨d, rfl, p⟩⟩
theorem varAt_s {x : Option Sl} {i : Nat} {r : List (Option Sl)} {P : D → Prop} : VarAt (x :: r) (i + 1) P ↔ VarAt r i P := by unfold VarAt; simp only [List.getElem?_cons_succ]
theorem slAt_z {d : Sl} {r : List (Option Sl)} {P : Sl → Prop} : SlAt (some d :: r) 0 P ↔ P d := ⟨fun ⟨_, e, p⟩ => by cases e; exact p, fun p => ⟨d, rfl, p⟩⟩
theorem slAt_s {x : Option Sl} {i : Nat} {r : List (Option Sl)} {P : Sl → Prop} : SlAt (x :: r) (i + 1) P ↔ SlAt r i P := by unfold SlAt; simp only [List.getElem?_cons_succ]
theorem ownAt_z {d : List D} {r : List (Option Sl)} {P : List D → Prop} : OwnAt (some (.own d) :: r) 0 P ↔ P d := ⟨fun ⟨_, e, p⟩ => by cases e; exact p, fun p => ⟨d, rfl, p⟩⟩
theorem ownAt_s {x : Option Sl} {i : Nat} {r : List (Option Sl)} {P : List D → Prop} : OwnAt (x :: r) (i + 1) P ↔ OwnAt r i P := by unfold OwnAt; simp only [List.getElem?_cons_succ]
theorem setAt_z {x y : Option Sl} {r : List (Option Sl)} {P : List (Option Sl) → Prop} : SetAt (y :: r) 0 x P ↔ P (x :: r) := by unfold SetAt; simp
theorem setAt_s {x y : Option Sl} {i : Nat} {r : List (Option Sl)} {P : List (Option Sl) → Prop} : SetAt (y :: r) (i + 1) x P ↔ SetAt r i x fun r' => P (y :: r') := by unfold SetAt; simp
theorem frzAt_z {sl : Sl} {r : List (Option Sl)} {P : D → List (Option Sl) → Prop} : FrzAt (some sl :: r) 0 P ↔ P sl.bor (some (.val sl.bor) :: r) := ⟨fun ⟨_, e, p⟩ => by cases e; exact p, fun p => ⟨sl, rfl, p⟩⟩
theorem frzAt_s {y : Option Sl} {i : Nat} {r : List (Option Sl)} {P : D → List (Option Sl) → Prop} : FrzAt (y :: r) (i + 1) P ↔ FrzAt r i fun d r' => P d (y :: r') := by unfold FrzAt; simp
theorem bor_val {d : D} : (Sl.val d).bor = d := rfl
theorem bor_own {d : List D} : (Sl.own d).bor = .lst d := rfl
theorem bor_ownK {ks : List Key} {d : List D} : (Sl.ownK ks d).bor = .dct ks d := rfl
theorem bor_ownT {ks : List (List Key)} {d : List D} : (Sl.ownT ks d).bor = .dtt ks d := rfl
theorem len_0 {P : Prop} : LenOk [] P ↔ P := by simp [LenOk]
theorem len_1 {a : D} {P : Prop} : LenOk [a] P ↔ P := by have := line63; simp [LenOk, sizeLine_eq]
theorem len_2 {a b : D} {P : Prop} : LenOk [a, b] P ↔ P := by simp [LenOk, sizeLine_eq]
theorem len_3 {a b c : D} {P : Prop} : LenOk [a, b, c] P ↔ P := by simp [LenOk, sizeLine_eq]
theorem len_4 {a b c d : D} {P : Prop} : LenOk [a, b, c, d] P ↔ P := by simp [LenOk, sizeLine_eq]
theorem len_5 {a b c d e : D} {P : Prop} : LenOk [a, b, c, d, e] P ↔ P := by simp [LenOk, sizeLine_eq]
theorem len_6 {a b c d e f : D} {P : Prop} : LenOk [a, b, c, d, e, f] P ↔ P := by simp [LenOk, sizeLine_eq]
theorem isB_bl {b : Bool} {P : Bool → Prop} : IsB (.bl b) P ↔ P b := ⟨fun ⟨_, e, p⟩ => by cases e; exact p, fun p => ⟨b, rfl, p⟩⟩
theorem isI_int {b : Int} {P : Int → Prop} : IsI (.int b) P ↔ P b := ⟨fun ⟨_, e, p⟩ => by cases e; exact p, fun p => ⟨b, rfl, p⟩⟩

section
variable {Q : D → S → Prop} {ma mb mc m : M D} {ms : M (List D)} {f g : D → D → Option D}
theorem wp_var {i : Nat} : Wp (eVar i) ⟨env, c⟩ Q ↔ VarAt env i fun d => Q d ⟨env, c⟩ := by
  constructor
  · rintro ⟨a, s', e, q⟩
    unfold eVar at e
    split at e
    · rename_i d hd; cases e; exact ⟨_, hd, q⟩
    · cases e
  · rintro ⟨d, e, q⟩
    exact ⟨d, _, by unfold eVar; rw [e], q⟩
theorem wp_frz {i : Nat} : Wp (eFrz i) ⟨env, c⟩ Q ↔ FrzAt env i fun d env' => Q d ⟨env', c⟩ := by
  have hs : ∀ {sl : Sl}, env[i]? = some (some sl) → eFrz i ⟨env, c⟩ = some (sl.bor, ⟨env.set i (some (.val sl.bor)), c⟩) := fun {sl} h => by
    unfold eFrz
    rw [h]
    cases sl with
    | val d =>
      have : env.set i (some (.val d)) = env := by
        obtain ⟨hl, e⟩ := List.getElem?_eq_some_iff.mp h
        rw [← e]; exact List.set_getElem_self hl
      show some (d, (⟨env, c⟩ : S)) = some (d, ⟨env.set i (some (.val d)), c⟩)
      rw [this]
    | own ds => rfl
    | ownK ks ds => rfl
    | ownT ks ds => rfl
  constructor
  · rintro ⟨a, s', e, q⟩
    cases h : env[i]? with
    | none => unfold eFrz at e; rw [show (⟨env, c⟩ : S).env[i]? = none from h] at e; cases e
    | some x =>
      cases x with
      | none => unfold eFrz at e; rw [show (⟨env, c⟩ : S).env[i]? = some none from h] at e; cases e
      | some sl => rw [hs h] at e; cases e; exact ⟨sl, h, q⟩
  · rintro ⟨sl, e, q⟩
    exact ⟨_, _, hs e, q⟩
theorem wp_C {d : D} : Wp (eC d) s Q ↔ Q d s := wp_eq rfl
theorem wp_bin : Wp (eBin f ma mb) s Q ↔ Wp ma s fun x s1 => Wp mb s1 fun y s2 => Sm (f x y) fun d => Q d s2 := wp_bnd.trans (wp_cg fun _ _ => wp_bnd.trans (wp_cg fun _ _ => wp_lift))
theorem wp_un {f : D → Option D} : Wp (eUn f ma) s Q ↔ Wp ma s fun x s1 => Sm (f x) fun d => Q d s1 := wp_bnd.trans (wp_cg fun _ _ => wp_lift)
theorem wp_tst {Q : Bool → S → Prop} : Wp (tst m) s Q ↔ Wp m s fun d s1 => IsB d fun b => Q b s1 := by
  have go : ∀ (d : D) s1, Wp (match d with | .bl b => ret b | _ => (fail : M Bool)) s1 Q ↔ IsB d fun b => Q b s1 := fun d s1 => by
    constructor
    · rintro ⟨b, s2, e, q⟩
      cases d <;> first | (cases e; done) | (obtain ⟨rfl, rfl⟩ := ret_some e; exact ⟨_, rfl, q⟩)
    · rintro ⟨b, rfl, q⟩; exact ⟨b, s1, rfl, q⟩
  unfold tst; rw [wp_bnd]; exact ⟨fun h => h.mono fun d s1 => (go d s1).mp, fun h => h.mono fun d s1 => (go d s1).mpr⟩
theorem wp_tru {Q : Bool → S → Prop} : Wp (tru m) s Q ↔ Wp m s fun d s1 => Sm (truD d) fun b => Q b s1 := wp_bnd.trans (wp_cg fun _ _ => wp_lift)
theorem wp_iteB {b : Bool} {m n : M α} {Q : α → S → Prop} : Wp (if b = true then m else n) s Q ↔ IfB b (Wp m s Q) (Wp n s Q) := by
  cases b <;> simp [IfB]
theorem wp_and2 {m n : M Bool} {Q : Bool → S → Prop} : Wp (tAnd2 m n) s Q ↔ Wp m s fun b s1 => IfB b (Wp n s1 Q) (Q false s1) := wp_bnd.trans (wp_cg fun _ _ => wp_iteB.trans (ifB_cg Iff.rfl wp_ret))
theorem wp_or2 {m n : M Bool} {Q : Bool → S → Prop} : Wp (tOr2 m n) s Q ↔ Wp m s fun b s1 => IfB b (Q true s1) (Wp n s1 Q) := wp_bnd.trans (wp_cg fun _ _ => wp_iteB.trans (ifB_cg wp_ret Iff.rfl))
theorem wp_not1 {m : M Bool} {Q : Bool → S → Prop} : Wp (tNot1 m) s Q ↔ Wp m s fun b s1 => Q (!b) s1 := wp_bnd.trans (wp_cg fun _ _ => wp_ret)
theorem wp_eAnd : Wp (eAnd ma mb) s Q ↔ Wp ma s fun x s1 => Sm (truD x) fun b => IfB b (Wp mb s1 Q) (Q x s1) := wp_bnd.trans (wp_cg fun _ _ => wp_bnd.trans (wp_lift.trans (sm_cg fun _ => wp_iteB.trans (ifB_cg Iff.rfl wp_ret))))
theorem wp_eOr : Wp (eOr ma mb) s Q ↔ Wp ma s fun x s1 => Sm (truD x) fun b => IfB b (Q x s1) (Wp mb s1 Q) := wp_bnd.trans (wp_cg fun _ _ => wp_bnd.trans (wp_lift.trans (sm_cg fun _ => wp_iteB.trans (ifB_cg wp_ret Iff.rfl))))
theorem wp_eIf {t : M Bool} : Wp (eIf t ma mb) s Q ↔ Wp t s fun b s1 => IfB b (Wp ma s1 Q) (Wp mb s1 Q) := wp_bnd.trans (wp_cg fun _ _ => wp_iteB)
theorem wp_chain : Wp (eChain f g ma mb mc) s Q ↔ Wp ma s fun x s1 => Wp mb s1 fun y s2 => Sm (f x y) fun z => IsB z fun b => IfB b (Wp mc s2 fun w s3 => Sm (g y w) fun d => Q d s3) (Q (.bl false) s2) := by
  have go : ∀ (z y : D) s2, Wp (match z with | .bl true => bnd mc fun w => lift (g y w) | .bl false => ret (.bl false) | _ => (fail : M D)) s2 Q ↔ IsB z fun b => IfB b (Wp mc s2 fun w s3 => Sm (g y w) fun d => Q d s3) (Q (.bl false) s2) := fun z y s2 => by
    cases z with
    | bl b =>
      rw [isB_bl]
      cases b with
      | true => rw [ifB_tt]; exact wp_bnd.trans (wp_cg fun _ _ => wp_lift)
      | false => rw [ifB_ff]; exact wp_ret
    | _ => exact ⟨fun ⟨_, _, e, _⟩ => (by cases e), fun ⟨_, e, _⟩ => (by cases e)⟩
  unfold eChain
  rw [wp_bnd]
  refine ⟨fun h => h.mono fun x s1 h => ?_, fun h => h.mono fun x s1 h => ?_⟩
  · exact (wp_bnd.mp h).mono fun y s2 h => by
      obtain ⟨z, e, h⟩ := wp_lift.mp (show Wp (lift (f x y)) s2 _ from wp_bnd.mp h)
      exact ⟨z, e, (go z y s2).mp h⟩
  · exact wp_bnd.mpr (h.mono fun y s2 h => wp_bnd.mpr (wp_lift.mpr (by
      obtain ⟨z, e, h⟩ := h
      exact ⟨z, e, (go z y s2).mpr h⟩)))
theorem wp_aNil {Q : List D → S → Prop} : Wp aNil s Q ↔ Q [] s := wp_eq rfl
theorem wp_aCons {Q : List D → S → Prop} : Wp (aCons m ms) s Q ↔ Wp m s fun d s1 => Wp ms s1 fun ds s2 => Q (d :: ds) s2 := wp_bnd.trans (wp_cg fun _ _ => wp_bnd.trans (wp_cg fun _ _ => wp_ret))
theorem wp_aStar {Q : List D → S → Prop} : Wp (aStar m ms) s Q ↔ Wp m s fun d s1 => Sm (seqD d) fun xs => Wp ms s1 fun ds s2 => Q (xs ++ ds) s2 := wp_bnd.trans (wp_cg fun _ _ => wp_bnd.trans (wp_lift.trans (sm_cg fun _ => wp_bnd.trans (wp_cg fun _ _ => wp_ret))))
theorem wp_lenIf {ds : List D} {x : α} {Q : α → S → Prop} : Wp (if ds.length ≤ sizeLine then ret x else fail) s Q ↔ LenOk ds (Q x s) := by
  unfold LenOk
  by_cases h : ds.length ≤ sizeLine
  · rw [if_pos h, wp_ret]; simp [h]
  · rw [if_neg h, wp_fail]; simp [h]
theorem wp_tup : Wp (eTup ms) s Q ↔ Wp ms s fun ds s1 => LenOk ds (Q (.tup ds) s1) := wp_bnd.trans (wp_cg fun _ _ => wp_lenIf)
theorem wp_disp {Q : List D → S → Prop} : Wp (lDisp ms) s Q ↔ Wp ms s fun ds s1 => LenOk ds (Q ds s1) := wp_bnd.trans (wp_cg fun _ _ => wp_lenIf)
theorem wp_lst : Wp (eLst ms) s Q ↔ Wp ms s fun ds s1 => Q (.lst ds) s1 := wp_bnd.trans (wp_cg fun _ _ => wp_ret)
theorem wp_call {G : List D → Option D} : Wp (eCall G ms) s Q ↔ Wp ms s fun ds s1 => Sm (G ds) fun d => Q d s1 := wp_bnd.trans (wp_cg fun _ _ => wp_lift)
theorem wp_callL {G : List D → Option (List D)} {Q : List D → S → Prop} : Wp (eCallL G ms) s Q ↔ Wp ms s fun ds s1 => Sm (G ds) fun d => Q d s1 := wp_bnd.trans (wp_cg fun _ _ => wp_lift)
theorem wp_fn {g : FnSem} : Wp (eFn g ms) s Q ↔ Wp ms s fun ds s1 => Cl g ds s1.src fun d c' => Q d ⟨s1.env, c'⟩ := by
  constructor
  · rintro ⟨d, s', e, q⟩
    obtain ⟨ds, s1, e1, e2⟩ := bnd_some e
    refine ⟨ds, s1, e1, ?_⟩
    split at e2
    · rename_i d' c' h; cases e2; exact ⟨_, _, h, q⟩
    · cases e2
  · rintro ⟨ds, s1, e1, d, c', e2, q⟩
    refine ⟨d, _, ?_, q⟩
    unfold eFn
    refine (bnd_eq e1).trans ?_
    show (match g ds s1.src with | some (d, c) => some (d, { s1 with src := c }) | none => none) = _
    rw [e2]
theorem wp_fld {i : Nat} {f : Src → Int} : Wp (eFld i f) ⟨env, c⟩ Q ↔ VarAt env i fun d => d = .src ∧ Q (.int (f c)) ⟨env, c⟩ := by
  constructor
  · rintro ⟨a, s', e, q⟩
    unfold eFld at e
    split at e
    · rename_i hd; cases e; exact ⟨_, hd, rfl, q⟩
    · cases e
  · rintro ⟨d, e, rfl, q⟩
    exact ⟨_, _, by unfold eFld; rw [e], q⟩
theorem wp_oNo {Q : Option Int → S → Prop} : Wp oNo s Q ↔ Q none s := wp_eq rfl
theorem wp_oAt {Q : Option Int → S → Prop} : Wp (oAt m) s Q ↔ Wp m s fun d s1 => IsI d fun i => Q (some i) s1 := by
  have go : ∀ (d : D) s1, Wp (match d with | .int i => ret (some i) | _ => (fail : M (Option Int))) s1 Q ↔ IsI d fun i => Q (some i) s1 := fun d s1 => by
    constructor
    · rintro ⟨b, s2, e, q⟩
      cases d <;> first | (cases e; done) | (obtain ⟨rfl, rfl⟩ := ret_some e; exact ⟨_, rfl, q⟩)
    · rintro ⟨b, rfl, q⟩; exact ⟨_, s1, rfl, q⟩
  unfold oAt; rw [wp_bnd]; exact ⟨fun h => h.mono fun d s1 => (go d s1).mp, fun h => h.mono fun d s1 => (go d s1).mpr⟩
theorem wp_sl {lo hi : M (Option Int)} : Wp (eSl m lo hi) s Q ↔ Wp m s fun d s1 => Wp lo s1 fun l s2 => Wp hi s2 fun h s3 => Sm (slD l h d) fun z => Q z s3 := wp_bnd.trans (wp_cg fun _ _ => wp_bnd.trans (wp_cg fun _ _ => wp_bnd.trans (wp_cg fun _ _ => wp_lift)))
theorem wp_here {i : Nat} {Q : Unit → S → Prop} : Wp (ownHere i) ⟨env, c⟩ Q ↔ OwnAt env i fun _ => Q () ⟨env, c⟩ := by
  constructor
  · rintro ⟨a, s', e, q⟩
    obtain ⟨rfl, ds, h⟩ := own_here e
    exact ⟨ds, h, q⟩
  · rintro ⟨ds, e, q⟩
    exact ⟨(), _, by unfold ownHere; rw [e], q⟩
theorem wp_putL {i : Nat} {f : List D → Option (List D)} {Q : Unit → S → Prop} : Wp (putL i f) ⟨env, c⟩ Q ↔ OwnAt env i fun ds => Sm (f ds) fun ds' => SetAt env i (some (.own ds')) fun e => Q () ⟨e, c⟩ := by
  constructor
  · rintro ⟨a, s', e, q⟩
    obtain ⟨ds, ds', h1, h2, rfl⟩ := put_L e
    exact ⟨ds, h1, ds', h2, (List.getElem?_eq_some_iff.mp h1).1, q⟩
  · rintro ⟨ds, h1, ds', h2, _, q⟩
    exact ⟨(), _, by unfold putL; rw [show (⟨env, c⟩ : S).env[i]? = _ from h1]; show (match f ds with | some ds' => some ((), (⟨env.set i (some (.own ds')), c⟩ : S)) | none => none) = _; rw [h2], q⟩
theorem wp_app {i : Nat} : Wp (eApp i m) ⟨env, c⟩ Q ↔ OwnAt env i fun _ => Wp m ⟨env, c⟩ fun d s1 => Wp (putL i (appL d)) s1 fun _ s2 => Q .non s2 := by
  exact wp_bnd.trans (wp_here.trans (ownAt_cg fun _ => wp_bnd.trans (wp_cg fun _ _ => wp_bnd.trans (wp_cg fun _ _ => wp_ret))))
theorem sm_app {d : D} {ds : List D} {P : List D → Prop} : Sm (appL d ds) P ↔ ds.length < 16777216 ∧ P (ds ++ [d]) := by
  unfold appL; rw [sm_ite, sm_some, sizeLine_eq]
theorem wp_popAt {i : Nat} : Wp (ePopAt i m) ⟨env, c⟩ Q ↔ OwnAt env i fun _ => Wp m ⟨env, c⟩ fun d s1 => OwnAt s1.env i fun ds => Sm (popAtL d ds) fun p => SetAt s1.env i (some (.own p.2)) fun e => Q p.1 ⟨e, s1.src⟩ := by
  have go : ∀ (d : D) (s1 : S), Wp (fun s => match s.env[i]? with
    | some (some (.own ds)) => (match popAtL d ds with
      | some (d, ds') => some (d, (⟨s.env.set i (some (.own ds')), s.src⟩ : S))
      | none => none)
    | _ => none) s1 Q ↔ OwnAt s1.env i fun ds => Sm (popAtL d ds) fun p => SetAt s1.env i (some (.own p.2)) fun e => Q p.1 ⟨e, s1.src⟩ := fun d s1 => by
    constructor
    · rintro ⟨a, s', e, q⟩
      dsimp only at e
      split at e
      · rename_i ds h
        split at e
        · rename_i d ds' h2; cases e; exact ⟨ds, h, (a, ds'), h2, (List.getElem?_eq_some_iff.mp h).1, q⟩
        · cases e
      · cases e
    · rintro ⟨ds, h1, ⟨d', ds'⟩, h2, _, q⟩
      exact ⟨d', _, by dsimp only; rw [h1]; dsimp only; rw [h2], q⟩
  exact wp_bnd.trans (wp_here.trans (ownAt_cg fun _ => wp_bnd.trans (wp_cg go)))
def borF (is : List Nat) : Nat → List (Option Sl) → List (Option Sl)
  | _, [] => []
  | k, x :: r => borSl (is.contains k) x :: borF is (k + 1) r
theorem borE_F (is : List Nat) (env : List (Option Sl)) : borE is env = borF is 0 env := by
  have go : ∀ (env : List (Option Sl)) (k : Nat), env.mapIdx (fun j x => borSl (is.contains (j + k)) x) = borF is k env := fun env => by
    induction env with
    | nil => intro k; rfl
    | cons x r ih =>
      intro k
      rw [List.mapIdx_cons, borF, ← ih (k + 1), Nat.zero_add]
      congr 2
      funext j y
      rw [Nat.add_right_comm, Nat.add_assoc]
  exact go env 0
theorem bor_z {b : Bool} {d : D} : borSl b (some (.val d)) = some (.val d) := rfl
theorem bor_tt {sl : Sl} : borSl true (some sl) = some (.val sl.bor) := by cases sl <;> rfl
theorem bor_no {b : Bool} : borSl b none = none := rfl
theorem wp_bor {is : List Nat} : Wp (eBor is m) ⟨env, c⟩ Q ↔ Wp m ⟨borF is 0 env, c⟩ fun d s1 => d.isFlat = true ∧ Q d ⟨env, s1.src⟩ := by
  rw [← borE_F]
  constructor
  · rintro ⟨a, s', e, q⟩
    unfold eBor at e
    split at e
    · rename_i d s1 h
      split at e
      · rename_i hf; cases e; exact ⟨_, s1, h, hf, q⟩
      · cases e
    · cases e
  · rintro ⟨d, s1, e, hf, q⟩
    exact ⟨d, _, by unfold eBor; rw [show m ⟨borE is (⟨env, c⟩ : S).env, (⟨env, c⟩ : S).src⟩ = _ from e]; show (if d.isFlat = true then some (d, (⟨env, s1.src⟩ : S)) else none) = _; rw [if_pos hf], q⟩
theorem wp_tBor {is : List Nat} {m : M Bool} {Q : Bool → S → Prop} : Wp (tBor is m) ⟨env, c⟩ Q ↔ Wp m ⟨borF is 0 env, c⟩ fun d s1 => Q d ⟨env, s1.src⟩ := by
  rw [← borE_F]
  constructor
  · rintro ⟨a, s', e, q⟩
    unfold tBor at e
    split at e
    · rename_i d s1 h
      cases e; exact ⟨_, s1, h, q⟩
    · cases e
  · rintro ⟨d, s1, e, q⟩
    exact ⟨d, _, by unfold tBor; rw [show m ⟨borE is (⟨env, c⟩ : S).env, (⟨env, c⟩ : S).src⟩ = _ from e], q⟩
theorem isFlat_int {i : Int} : (D.int i).isFlat = true ↔ True := by simp [D.isFlat]
theorem isFlat_bl {i : Bool} : (D.bl i).isFlat = true ↔ True := by simp [D.isFlat]
theorem isFlat_non : (D.non).isFlat = true ↔ True := by simp [D.isFlat]
theorem isFlat_str {i : Str} : (D.str i).isFlat = true ↔ True := by simp [D.isFlat]
end

section
variable {Q : Out → S → Prop} {m : M D} {a b n : M Out}
theorem wp_seq : Wp (sSeq a b) s Q ↔ Wp a s fun o s1 => Nx o (Wp b s1 Q) (fun o => Q o s1) := by
  have go : ∀ (o : Out) s1, Wp (match o with | .nx => b | o => ret o) s1 Q ↔ Nx o (Wp b s1 Q) (fun o => Q o s1) := fun o s1 => by
    cases o with
    | nx => exact Iff.rfl
    | ret d => exact wp_ret
    | brk => exact wp_ret
    | cnt => exact wp_ret
  unfold sSeq; rw [wp_bnd]; exact ⟨fun h => h.mono fun d s1 => (go d s1).mp, fun h => h.mono fun d s1 => (go d s1).mpr⟩
theorem wp_nx : Wp sNx s Q ↔ Q .nx s := wp_eq rfl
theorem wp_sRet : Wp (sRet m) s Q ↔ Wp m s fun d s1 => Q (.ret d) s1 := wp_bnd.trans (wp_cg fun _ _ => wp_ret)
theorem wp_sIf {t : M Bool} : Wp (sIf t a b) s Q ↔ Wp t s fun x s1 => IfB x (Wp a s1 Q) (Wp b s1 Q) := wp_bnd.trans (wp_cg fun _ _ => wp_iteB)
theorem wp_sExpr : Wp (sExpr m) s Q ↔ Wp m s fun _ s1 => Q .nx s1 := wp_bnd.trans (wp_cg fun _ _ => wp_ret)
theorem wp_asg {g : D → M Unit} : Wp (sAsg m g) s Q ↔ Wp m s fun d s1 => Wp (g d) s1 fun _ s2 => Q .nx s2 := wp_bnd.trans (wp_cg fun _ _ => wp_bnd.trans (wp_cg fun _ _ => wp_ret))
theorem wp_gN {i : Nat} {d : D} {Q : Unit → S → Prop} : Wp (gN i d) s Q ↔ SetAt s.env i (some (.val d)) fun e => Q () ⟨e, s.src⟩ := by
  unfold SetAt
  by_cases h : i < s.env.length
  · rw [wp_eq (show gN i d s = some ((), ⟨s.env.set i (some (.val d)), s.src⟩) by unfold gN; rw [if_pos h])]; simp [h]
  · constructor
    · rintro ⟨_, _, e, _⟩; unfold gN at e; rw [if_neg h] at e; cases e
    · rintro ⟨z, _⟩; exact absurd z h
theorem wp_gT {gs : List D → M Unit} {ds : List D} {Q : Unit → S → Prop} : Wp (gT gs (.tup ds)) s Q ↔ Wp (gs ds) s Q := Iff.rfl
theorem wp_gCons {g : D → M Unit} {gs : List D → M Unit} {d : D} {ds : List D} {Q : Unit → S → Prop} : Wp (gCons g gs (d :: ds)) s Q ↔ Wp (g d) s fun _ s1 => Wp (gs ds) s1 Q := wp_bnd
theorem wp_gNil {Q : Unit → S → Prop} : Wp (gNil []) s Q ↔ Q () s := wp_eq rfl
theorem wp_set {i : Nat} : Wp (sSet i m) s Q ↔ Wp m s fun d s1 => SetAt s1.env i (some (.val d)) fun e => Q .nx ⟨e, s1.src⟩ := wp_asg.trans (wp_cg fun _ _ => wp_gN)
theorem wp_own {i : Nat} {ml : M (List D)} : Wp (sOwn i ml) s Q ↔ Wp ml s fun d s1 => SetAt s1.env i (some (.own d)) fun e => Q .nx ⟨e, s1.src⟩ := by
  have go : ∀ (d : List D) (s : S) (Q : Unit → S → Prop), Wp (oN i d) s Q ↔ SetAt s.env i (some (.own d)) fun e => Q () ⟨e, s.src⟩ := fun d s Q => by
    unfold SetAt
    by_cases h : i < s.env.length
    · rw [wp_eq (show oN i d s = some ((), ⟨s.env.set i (some (.own d)), s.src⟩) by unfold oN; rw [if_pos h])]; simp [h]
    · constructor
      · rintro ⟨_, _, e, _⟩; unfold oN at e; rw [if_neg h] at e; cases e
      · rintro ⟨z, _⟩; exact absurd z h
  exact wp_bnd.trans (wp_cg fun _ _ => wp_bnd.trans ((go _ _ _).trans (setAt_cg fun _ => wp_ret)))
theorem wp_aug {i : Nat} {f : Int → Int → Int} : Wp (sAug i f m) ⟨env, c⟩ Q ↔ VarAt env i fun x => Wp m ⟨env, c⟩ fun d s1 => Sm (augI f x d) fun z => SetAt s1.env i (some (.val z)) fun e => Q .nx ⟨e, s1.src⟩ := by
  have go : ∀ {x : D} {s : S} , Wp (bnd m fun d => bnd (lift (augI f x d)) fun z => bnd (gN i z) fun _ => (ret .nx : M Out)) s Q ↔ Wp m s fun d s1 => Sm (augI f x d) fun z => SetAt s1.env i (some (.val z)) fun e => Q .nx ⟨e, s1.src⟩ :=
    fun {x s} => wp_bnd.trans (wp_cg fun _ _ => wp_bnd.trans (wp_lift.trans (sm_cg fun _ => wp_bnd.trans (wp_gN.trans (setAt_cg fun _ => wp_ret)))))
  constructor
  · rintro ⟨a, s', e, q⟩
    unfold sAug at e
    split at e
    · rename_i x h
      refine ⟨x, h, ?_⟩
      have : Wp (bnd m fun d => bnd (lift (augI f x d)) fun z => bnd (gN i z) fun _ => ret .nx) ⟨env, c⟩ Q := ⟨_, _, e, q⟩
      exact go.mp this
    · cases e
  · rintro ⟨x, h, q⟩
    have : Wp (bnd m fun d => bnd (lift (augI f x d)) fun z => bnd (gN i z) fun _ => ret .nx) ⟨env, c⟩ Q := go.mpr q
    obtain ⟨a, s', e, q⟩ := this
    exact ⟨a, s', by unfold sAug; rw [show (⟨env, c⟩ : S).env[i]? = _ from h]; exact e, q⟩
theorem sm_aug {f : Int → Int → Int} {x y : Int} {P : D → Prop} : Sm (augI f (.int x) (.int y)) P ↔ P (.int (f x y)) := sm_some
theorem wp_ownGet {i : Nat} {dy : D} {Q : D → S → Prop} : Wp (ownGet i dy) ⟨env, c⟩ Q ↔ OwnAt env i fun ds => IsI dy fun j => Sm (atI ds j) fun y => Q y ⟨env, c⟩ := by
  constructor
  · rintro ⟨a, s', e, q⟩
    obtain ⟨rfl, ds, j, h1, rfl, h2⟩ := own_get e
    exact ⟨ds, h1, j, rfl, _, h2, q⟩
  · rintro ⟨ds, h1, j, rfl, y, h2, q⟩
    exact ⟨y, _, by unfold ownGet; rw [show (⟨env, c⟩ : S).env[i]? = _ from h1]; show (match atI ds j with | some y => some (y, (⟨env, c⟩ : S)) | none => none) = _; rw [h2], q⟩
theorem wp_augIx {i : Nat} {f : Int → Int → Int} {mb me : M D} : Wp (sAugIx i f mb me) s Q ↔ Wp (ownHere i) s fun _ s0 => Wp mb s0 fun dy s1 => Wp (ownGet i dy) s1 fun old s2 => Wp me s2 fun d s3 => Sm (augI f old d) fun z => Wp (putL i (setL dy z)) s3 fun _ s4 => Q .nx s4 := wp_bnd.trans (wp_cg fun _ _ => wp_bnd.trans (wp_cg fun _ _ => wp_bnd.trans (wp_cg fun _ _ => wp_bnd.trans (wp_cg fun _ _ => wp_bnd.trans (wp_lift.trans (sm_cg fun _ => wp_bnd.trans (wp_cg fun _ _ => wp_ret)))))))
theorem wp_sFor {it : M (List D)} {g : D → M Unit} : Wp (sFor it g b) s Q ↔ Wp it s fun ds s1 => Wp (forM g b ds) s1 Q := wp_bnd
theorem wp_pNil {Q : List Sl → S → Prop} : Wp pNil s Q ↔ Q [] s := wp_eq rfl
theorem wp_pVal {ms : M (List Sl)} {Q : List Sl → S → Prop} : Wp (pVal m ms) s Q ↔ Wp m s fun d s1 => Wp ms s1 fun r s2 => Q (.val d :: r) s2 := wp_bnd.trans (wp_cg fun _ _ => wp_bnd.trans (wp_cg fun _ _ => wp_ret))
theorem wp_pOwn {ml : M (List D)} {ms : M (List Sl)} {Q : List Sl → S → Prop} : Wp (pOwn ml ms) s Q ↔ Wp ml s fun d s1 => Wp ms s1 fun r s2 => Q (.own d :: r) s2 := wp_bnd.trans (wp_cg fun _ _ => wp_bnd.trans (wp_cg fun _ _ => wp_ret))
theorem wp_par {is : List Nat} {ms : M (List Sl)} : Wp (sPar is ms) s Q ↔ Wp ms s fun sls s1 => Sm (putAll is sls s1.env) fun e => Q .nx ⟨e, s1.src⟩ := by
  constructor
  · rintro ⟨o, s', e, q⟩
    obtain ⟨sls, s1, e1, e2⟩ := bnd_some e
    refine ⟨sls, s1, e1, ?_⟩
    split at e2
    · rename_i env h; cases e2; exact ⟨_, h, q⟩
    · cases e2
  · rintro ⟨sls, s1, e1, e', h, q⟩
    refine ⟨_, _, ?_, q⟩
    unfold sPar
    refine (bnd_eq e1).trans ?_
    show (match putAll is sls s1.env with | some env => some (Out.nx, (⟨env, s1.src⟩ : S)) | none => none) = _
    rw [h]
theorem sm_put0 {P : List (Option Sl) → Prop} : Sm (putAll [] [] env) P ↔ P env := sm_some
theorem sm_put {i : Nat} {is : List Nat} {sl : Sl} {r : List Sl} {P : List (Option Sl) → Prop} : Sm (putAll (i :: is) (sl :: r) env) P ↔ Sm (putAll is r env) fun e => SetAt e i (some sl) P := by
  show Sm (if i < env.length then (putAll is r env).map fun env' => env'.set i (some sl) else none) P ↔ _
  rw [sm_ite, sm_map]
  constructor
  · rintro ⟨h, e, h1, p⟩; exact ⟨e, h1, by rw [putAll_len h1]; exact h, p⟩
  · rintro ⟨e, h1, h, p⟩; exact ⟨by rw [← putAll_len h1]; exact h, e, h1, p⟩
end

section
variable {Q : List D → S → Prop} {m ma mb mc : M D}
theorem wp_iSeq : Wp (iSeq m) s Q ↔ Wp m s fun d s1 => Sm (seqD d) fun ds => Q ds s1 := wp_bnd.trans (wp_cg fun _ _ => wp_lift)
theorem rngL_map {lo hi : Int} : rngL lo hi = (List.range (hi - lo).toNat).map fun k => D.int (lo + ((k : Nat) : Int)) := rfl
theorem rngL0_map {n : Int} : rngL 0 n = (List.range n.toNat).map fun k => D.int ((k : Nat) : Int) := by unfold rngL; simp
theorem wp_rg1 : Wp (iRg1 m) s Q ↔ Wp m s fun d s1 => IsI d fun j => okR j ∧ Q ((List.range j.toNat).map fun k => D.int ((k : Nat) : Int)) s1 := by
  have go : ∀ (d : D) s1, Wp (match d with | .int j => if okR j then ret (rngL 0 j) else fail | _ => (fail : M (List D))) s1 Q ↔ IsI d fun j => okR j ∧ Q ((List.range j.toNat).map fun k => D.int ((k : Nat) : Int)) s1 := fun d s1 => by
    cases d with
    | int j =>
      rw [isI_int]
      show Wp (if okR j then ret (rngL 0 j) else fail) s1 Q ↔ _
      by_cases h : okR j
      · rw [if_pos h, wp_ret, rngL0_map]; simp [h]
      · rw [if_neg h, wp_fail]; simp [h]
    | _ => exact ⟨fun ⟨_, _, e, _⟩ => (by cases e), fun ⟨_, e, _⟩ => (by cases e)⟩
  unfold iRg1; rw [wp_bnd]; exact ⟨fun h => h.mono fun d s1 => (go d s1).mp, fun h => h.mono fun d s1 => (go d s1).mpr⟩
theorem wp_rg2 : Wp (iRg2 ma mb) s Q ↔ Wp ma s fun d s1 => Wp mb s1 fun e s2 => IsI d fun i => IsI e fun j => okR i ∧ okR j ∧ Q ((List.range (j - i).toNat).map fun k => D.int (i + ((k : Nat) : Int))) s2 := by
  have go : ∀ (d e : D) s1, Wp (match d, e with | .int i, .int j => if okR i ∧ okR j then ret (rngL i j) else fail | _, _ => (fail : M (List D))) s1 Q ↔ IsI d fun i => IsI e fun j => okR i ∧ okR j ∧ Q (rngL i j) s1 := fun d e s1 => by
    constructor
    · rintro ⟨x, s2, h, q⟩
      split at h
      · rename_i i j
        split at h
        · rename_i hh
          obtain ⟨rfl, rfl⟩ := ret_some h
          exact ⟨i, rfl, j, rfl, hh.1, hh.2, q⟩
        · cases h
      · cases h
    · rintro ⟨i, rfl, j, rfl, h1, h2, q⟩
      exact ⟨_, _, by show (if okR i ∧ okR j then ret (rngL i j) else fail) s1 = _; rw [if_pos ⟨h1, h2⟩]; rfl, q⟩
  unfold iRg2; rw [wp_bnd]
  refine ⟨fun h => h.mono fun x s1 h => (wp_bnd.mp h).mono fun y s2 h => (go x y s2).mp h, fun h => h.mono fun x s1 h => wp_bnd.mpr (h.mono fun y s2 h => (go x y s2).mpr h)⟩
theorem okR_of {i : Int} (h : -1000000 ≤ i) (h2 : i ≤ 1000000) : okR i := by unfold okR; omega
def EnumP (ds : List D) (P : List D → Prop) (_ : Ph P := .mk) : Prop := P (enumF 0 ds)
def Zip2P (as bs : List D) (P : List D → Prop) (_ : Ph P := .mk) : Prop := P (zipF2 as bs)
theorem wp_enum : Wp (iEnum m) s Q ↔ Wp m s fun d s1 => Sm (seqD d) fun ds => EnumP ds fun es => Q es s1 := wp_bnd.trans (wp_cg fun _ _ => wp_bnd.trans (wp_lift.trans (sm_cg fun _ => wp_ret)))
theorem wp_zip2 : Wp (iZip2 ma mb) s Q ↔ Wp ma s fun a s1 => Wp mb s1 fun b s2 => Sm (seqD a) fun as => Sm (seqD b) fun bs => Zip2P as bs fun es => Q es s2 := wp_bnd.trans (wp_cg fun _ _ => wp_bnd.trans (wp_cg fun _ _ => wp_bnd.trans (wp_lift.trans (sm_cg fun _ => wp_bnd.trans (wp_lift.trans (sm_cg fun _ => wp_ret))))))
end
end
end GH

namespace GH
open PySem PySem.Spec PyProof.Rows L2

section
variable {α β γ : Type} {P : D → Prop} {PL : List D → Prop}
theorem sm_addI {a b : Int} : Sm (addD (.int a) (.int b)) P ↔ P (.int (a + b)) := sm_some
theorem sm_addT {a b : List D} : Sm (addD (.tup a) (.tup b)) P ↔ a.length + b.length ≤ 16777216 ∧ P (.tup (a ++ b)) := by
  show Sm (if a.length + b.length ≤ sizeLine then some (.tup (a ++ b)) else none) P ↔ _
  rw [sm_ite, sm_some, sizeLine_eq]
theorem sm_addL {a b : List D} : Sm (addD (.lst a) (.lst b)) P ↔ a.length + b.length ≤ 16777216 ∧ P (.lst (a ++ b)) := by
  show Sm (if a.length + b.length ≤ sizeLine then some (.lst (a ++ b)) else none) P ↔ _
  rw [sm_ite, sm_some, sizeLine_eq]
theorem sm_subI {a b : Int} : Sm (subD (.int a) (.int b)) P ↔ P (.int (a - b)) := sm_some
def MulOk (a b : Int) : Prop := CMul a b ∨ CMulW a b
theorem mulOk_l {a b : Int} (h : -(2 ^ 64) < a) (h2 : a < 2 ^ 64) : MulOk a b := .inl (.inl ⟨h, h2⟩)
theorem mulOk_r {a b : Int} (h : -(2 ^ 64) < b) (h2 : b < 2 ^ 64) : MulOk a b := .inl (.inr ⟨h, h2⟩)
theorem sm_mulI {a b : Int} : Sm (mulD (.int a) (.int b)) P ↔ MulOk a b ∧ P (.int (a * b)) := by
  show Sm (if CMul a b then some (D.int (a * b)) else if CMulW a b then some (.int (a * b)) else none) P ↔ _
  unfold MulOk
  by_cases h : CMul a b
  · rw [if_pos h, sm_some]; simp [h]
  · rw [if_neg h, sm_ite, sm_some]; simp [h]
def RepOk (n : Nat) (k : Int) : Prop := -(2 ^ 63) ≤ k ∧ k < 2 ^ 63 ∧ n * k.toNat ≤ 16777216
theorem sm_mulL {a : List D} {k : Int} : Sm (mulD (.lst a) (.int k)) P ↔ RepOk a.length k ∧ P (.lst (List.replicate k.toNat a).flatten) := by
  show Sm (if -(2 ^ 63) ≤ k ∧ k < 2 ^ 63 ∧ a.length * k.toNat ≤ sizeLine then some (D.lst (List.replicate k.toNat a).flatten) else none) P ↔ _
  rw [sm_ite, sm_some, sizeLine_eq]; rfl
theorem sm_modI {a b : Int} : Sm (modD (.int a) (.int b)) P ↔ b ≠ 0 ∧ P (.int (a.fmod b)) := by
  show Sm (if b ≠ 0 then some (D.int (a.fmod b)) else none) P ↔ _
  rw [sm_ite, sm_some]
def DivOk (a b : Int) : Prop := CDivN a b ∨ CDivW a b
theorem divOk {a b : Int} (h : b ≠ 0) (h2 : -1073741824 < b) (h3 : b < 1073741824) : DivOk a b := .inl ⟨h, by omega⟩
theorem sm_fdivI {a b : Int} : Sm (fdivD (.int a) (.int b)) P ↔ DivOk a b ∧ P (.int (a.fdiv b)) := by
  show Sm (if CDivN a b then some (D.int (a.fdiv b)) else if CDivW a b then some (.int (a / b)) else none) P ↔ _
  unfold DivOk
  by_cases h : CDivN a b
  · rw [if_pos h, sm_some]; simp [h]
  · rw [if_neg h, sm_ite, sm_some]
    simp only [h, false_or]
    constructor
    · rintro ⟨h1, p⟩; exact ⟨h1, by rw [Int.fdiv_eq_ediv_of_nonneg _ (Int.le_of_lt h1.1)]; exact p⟩
    · rintro ⟨h1, p⟩; exact ⟨h1, by rw [Int.fdiv_eq_ediv_of_nonneg _ (Int.le_of_lt h1.1)] at p; exact p⟩
theorem sm_ltI {a b : Int} : Sm (ltD (.int a) (.int b)) P ↔ P (.bl (decide (a < b))) := sm_some
theorem sm_leI {a b : Int} : Sm (leD (.int a) (.int b)) P ↔ P (.bl (decide (a ≤ b))) := sm_some
theorem sm_gtI {a b : Int} : Sm (gtD (.int a) (.int b)) P ↔ P (.bl (decide (b < a))) := sm_some
theorem sm_geI {a b : Int} : Sm (geD (.int a) (.int b)) P ↔ P (.bl (decide (b ≤ a))) := sm_some
theorem sm_eqI {a b : Int} : Sm (eqD (.int a) (.int b)) P ↔ P (.bl (decide (a = b))) := sm_eq (eqD_int a b)
theorem sm_neI {a b : Int} : Sm (neD (.int a) (.int b)) P ↔ P (.bl (!decide (a = b))) := sm_eq (neD_int a b)
theorem sm_eqG {a b : D} (h : a.ok) (h2 : b.ok) {p : Prop} [Decidable p] (hp : a = b ↔ p) : Sm (eqD a b) P ↔ P (.bl (decide p)) := sm_eq (eqD_iff h h2 hp)
theorem sm_neG {a b : D} (h : a.ok) (h2 : b.ok) {p : Prop} [Decidable p] (hp : a = b ↔ p) : Sm (neD a b) P ↔ P (.bl (!decide p)) := sm_eq (neD_iff h h2 hp)
theorem sm_notN {d : D} : Sm (notND d .non) P ↔ P (.bl (match d with | .non => false | _ => true)) := by cases d <;> exact sm_some
theorem sm_ixT {ds : List D} {j : Int} : Sm (ixD (.tup ds) (.int j)) P ↔ Sm (atI ds j) P := Iff.rfl
theorem sm_ixL {ds : List D} {j : Int} : Sm (ixD (.lst ds) (.int j)) P ↔ Sm (atI ds j) P := Iff.rfl
theorem atI_of {xs : List α} {j : Int} {x : α} (h : 0 ≤ j) (h2 : xs[j.toNat]? = some x) : atI xs j = some x := by
  have hl := (List.getElem?_eq_some_iff.mp h2).1
  unfold atI ixN
  rw [if_pos h, if_pos (by omega)]; exact h2
theorem atI_neg {xs : List α} {j : Int} {x : α} (h : j < 0) (h2 : -(xs.length : Int) ≤ j) (h3 : xs[(j + xs.length).toNat]? = some x) : atI xs j = some x := by
  unfold atI ixN
  rw [if_neg (by omega), if_pos h2]; exact h3
theorem at_0 {a : α} {r : List α} {P : α → Prop} : Sm (atI (a :: r) 0) P ↔ P a := sm_eq (atI_of (by decide) rfl)
theorem at_1 {a b : α} {r : List α} {P : α → Prop} : Sm (atI (a :: b :: r) 1) P ↔ P b := sm_eq (atI_of (by decide) rfl)
theorem at_2 {a b c : α} {r : List α} {P : α → Prop} : Sm (atI (a :: b :: c :: r) 2) P ↔ P c := sm_eq (atI_of (by decide) rfl)
theorem at_3 {a b c d : α} {r : List α} {P : α → Prop} : Sm (atI (a :: b :: c :: d :: r) 3) P ↔ P d := sm_eq (atI_of (by decide) rfl)
theorem at_4 {a b c d e : α} {r : List α} {P : α → Prop} : Sm (atI (a :: b :: c :: d :: e :: r) 4) P ↔ P e := sm_eq (atI_of (by decide) rfl)
theorem atI_map {f : α → β} {xs : List α} {j : Int} : atI (xs.map f) j = (atI xs j).map f := by
  unfold atI
  rw [List.length_map]
  cases ixN xs.length j with
  | none => rfl
  | some n => exact List.getElem?_map ..
theorem at_map {f : α → β} {xs : List α} {j : Int} {P : β → Prop} : Sm (atI (xs.map f) j) P ↔ Sm (atI xs j) fun x => P (f x) := by rw [atI_map, sm_map]
def nth [Inhabited α] (xs : List α) (j : Int) : α := xs.getD j.toNat default
theorem nth_get [Inhabited α] {xs : List α} {j : Int} (h : 0 ≤ j) (h2 : j < xs.length) : xs[j.toNat]? = some (nth xs j) := by
  unfold nth
  have : j.toNat < xs.length := by omega
  rw [List.getD_eq_getElem?_getD, List.getElem?_eq_getElem this]; rfl
theorem nth_mem [Inhabited α] {xs : List α} {j : Int} (h : 0 ≤ j) (h2 : j < xs.length) : nth xs j ∈ xs := List.mem_of_getElem? (nth_get h h2)
theorem at_nth [Inhabited α] {xs : List α} {j : Int} {P : α → Prop} (h : 0 ≤ j) (h2 : j < xs.length) : Sm (atI xs j) P ↔ P (nth xs j) := sm_eq (atI_of h (nth_get h h2))
theorem sm_lenL {ds : List D} : Sm (lenG [.lst ds]) P ↔ P (.int ds.length) := sm_some
theorem sm_lenT {ds : List D} : Sm (lenG [.tup ds]) P ↔ P (.int ds.length) := sm_some
theorem sm_intI {i : Int} : Sm (intG [.int i]) P ↔ P (.int i) := sm_some
theorem sm_intB {b : Bool} : Sm (intG [.bl b]) P ↔ P (.int (if b then 1 else 0)) := sm_some
theorem sm_absI {i : Int} : Sm (absG [.int i]) P ↔ P (.int (if i < 0 then -i else i)) := sm_some
theorem sm_tupL {ds : List D} : Sm (tupG [.lst ds]) P ↔ P (.tup ds) := sm_some
theorem sm_tupT {ds : List D} : Sm (tupG [.tup ds]) P ↔ P (.tup ds) := sm_some
theorem sm_lstL {ds : List D} : Sm (lstG [.lst ds]) PL ↔ PL ds := sm_some
theorem sm_lstT {ds : List D} : Sm (lstG [.tup ds]) PL ↔ PL ds := sm_some
theorem toInts_mapF {f : α → Int} : ∀ xs : List α, toInts (xs.map fun x => D.int (f x)) = some (xs.map f)
  | [] => rfl
  | x :: r => by rw [List.map_cons, toInts, toInts_mapF r]; rfl
theorem toBls_mapF {f : α → Bool} : ∀ xs : List α, toBls (xs.map fun x => D.bl (f x)) = some (xs.map f)
  | [] => rfl
  | x :: r => by rw [List.map_cons, toBls, toBls_mapF r]; rfl
theorem sm_sumL {f : α → Int} {xs : List α} : Sm (sumG [.lst (xs.map fun x => .int (f x))]) P ↔ P (.int (xs.map f).sum) := by
  show Sm ((toInts _).map _) P ↔ _; rw [toInts_mapF]; exact sm_some
theorem sm_sumT {f : α → Int} {xs : List α} : Sm (sumG [.tup (xs.map fun x => .int (f x))]) P ↔ P (.int (xs.map f).sum) := by
  show Sm ((toInts _).map _) P ↔ _; rw [toInts_mapF]; exact sm_some
theorem sm_sumL1 {xs : List Int} : Sm (sumG [.lst (xs.map D.int)]) P ↔ P (.int xs.sum) := by
  show Sm ((toInts _).map _) P ↔ _; rw [toInts_map]; exact sm_some
theorem sm_sumT1 {xs : List Int} : Sm (sumG [.tup (xs.map D.int)]) P ↔ P (.int xs.sum) := by
  show Sm ((toInts _).map _) P ↔ _; rw [toInts_map]; exact sm_some
theorem sm_maxI {i j : Int} : Sm (maxG [.int i, .int j]) P ↔ P (.int (if j > i then j else i)) := sm_some
theorem sm_maxL {f : α → Int} {xs : List α} : Sm (maxG [.lst (xs.map fun x => .int (f x))]) P ↔ xs ≠ [] ∧ P (.int (maxL (xs.map f))) := by
  show Sm ((toInts _).bind _) P ↔ _; rw [toInts_mapF]; show Sm (if xs.map f ≠ [] then some (D.int (maxL (xs.map f))) else none) P ↔ _
  rw [sm_ite, sm_some]; simp
theorem sm_maxL1 {xs : List Int} : Sm (maxG [.lst (xs.map D.int)]) P ↔ xs ≠ [] ∧ P (.int (maxL xs)) := by
  have := sm_maxL (P := P) (f := id) (xs := xs); simpa using this
theorem sm_anyL {f : α → Bool} {xs : List α} : Sm (anyG [.lst (xs.map fun x => .bl (f x))]) P ↔ P (.bl (xs.any f)) := by
  show Sm ((toBls _).map _) P ↔ _; rw [toBls_mapF]
  show Sm (some (D.bl ((xs.map f).any id))) P ↔ _
  rw [sm_some, List.any_map]; rfl
theorem sm_allL {f : α → Bool} {xs : List α} : Sm (allG [.lst (xs.map fun x => .bl (f x))]) P ↔ P (.bl (xs.all f)) := by
  show Sm ((toBls _).map _) P ↔ _; rw [toBls_mapF]
  show Sm (some (D.bl ((xs.map f).all id))) P ↔ _
  rw [sm_some, List.all_map]; rfl
theorem sm_negI {i : Int} : Sm (negD (.int i)) P ↔ P (.int (-i)) := sm_some
theorem sm_seqL {ds : List D} : Sm (seqD (.lst ds)) PL ↔ PL ds := sm_some
theorem sm_seqT {ds : List D} : Sm (seqD (.tup ds)) PL ↔ PL ds := sm_some
theorem sm_slL {ds : List D} {l h : Option Int} : Sm (slD l h (.lst ds)) P ↔ P (.lst (cutL ds l h)) := sm_some
theorem sm_slT {ds : List D} {l h : Option Int} : Sm (slD l h (.tup ds)) P ↔ P (.tup (cutL ds l h)) := sm_some
section
variable {P : Bool → Prop}
theorem sm_truB {b : Bool} : Sm (truD (.bl b)) P ↔ P b := sm_some
theorem sm_truN : Sm (truD .non) P ↔ P false := sm_some
theorem sm_truI {i : Int} : Sm (truD (.int i)) P ↔ P (i != 0) := sm_some
theorem sm_truL {ds : List D} : Sm (truD (.lst ds)) P ↔ P (!ds.isEmpty) := sm_some
theorem sm_truT {ds : List D} : Sm (truD (.tup ds)) P ↔ P (!ds.isEmpty) := sm_some
end
theorem sm_inR {i lo hi : Int} : Sm (inD (.int i) (.rng lo hi)) P ↔ P (.bl (decide (lo ≤ i ∧ i < hi))) := sm_some
theorem sm_inT {i : Int} {xs : List Int} : Sm (inD (.int i) (.tup (xs.map D.int))) P ↔ P (.bl (decide (i ∈ xs))) := by
  show Sm (if okIn (.int i) (xs.map D.int) then some (D.bl (memD (.int i) (xs.map D.int))) else none) P ↔ _
  rw [if_pos (okIn_ints i xs), sm_some, memD_ints]
theorem sm_inL {i : Int} {xs : List Int} : Sm (inD (.int i) (.lst (xs.map D.int))) P ↔ P (.bl (decide (i ∈ xs))) := by
  show Sm (if okIn (.int i) (xs.map D.int) then some (D.bl (memD (.int i) (xs.map D.int))) else none) P ↔ _
  rw [if_pos (okIn_ints i xs), sm_some, memD_ints]
theorem sm_ninT {i : Int} {xs : List Int} : Sm (ninD (.int i) (.tup (xs.map D.int))) P ↔ P (.bl (!decide (i ∈ xs))) := by
  show Sm (if okIn (.int i) (xs.map D.int) then some (D.bl (!memD (.int i) (xs.map D.int))) else none) P ↔ _
  rw [if_pos (okIn_ints i xs), sm_some, memD_ints]
theorem sm_ninL {i : Int} {xs : List Int} : Sm (ninD (.int i) (.lst (xs.map D.int))) P ↔ P (.bl (!decide (i ∈ xs))) := by
  show Sm (if okIn (.int i) (xs.map D.int) then some (D.bl (!memD (.int i) (xs.map D.int))) else none) P ↔ _
  rw [if_pos (okIn_ints i xs), sm_some, memD_ints]
theorem sm_setL {d : D} {ds : List D} {j : Int} {P : List D → Prop} : Sm (setL (.int j) d ds) P ↔ Sm (ixN ds.length j) fun n => P (ds.set n d) := sm_map
theorem ix_ok {n : Nat} {j : Int} {P : Nat → Prop} (h : 0 ≤ j) (h2 : j < n) : Sm (ixN n j) P ↔ P j.toNat := sm_eq (by unfold ixN; rw [if_pos h, if_pos h2])
theorem enumF_map {f : α → D} : ∀ (xs : List α) (k : Nat), enumF k (xs.map f) = (xs.zipIdx k).map fun p => D.tup [.int (p.2 : Nat), f p.1]
  | [], _ => rfl
  | x :: r, k => by rw [List.map_cons, enumF, enumF_map r (k + 1), List.zipIdx_cons, List.map_cons]
theorem zipF2_map {f : α → D} {g : β → D} : ∀ (xs : List α) (ys : List β), zipF2 (xs.map f) (ys.map g) = (xs.zip ys).map fun p => D.tup [f p.1, g p.2]
  | [], _ => by simp [zipF2]
  | x :: r, [] => by simp [zipF2]
  | x :: r, y :: t => by rw [List.map_cons, List.map_cons, zipF2, zipF2_map r t]; rfl
theorem enumP_map {f : α → D} {xs : List α} {P : List D → Prop} : EnumP (xs.map f) P ↔ P (xs.zipIdx.map fun p => D.tup [.int (p.2 : Nat), f p.1]) := by unfold EnumP; rw [enumF_map]
theorem zip2P_map {f : α → D} {g : β → D} {xs : List α} {ys : List β} {P : List D → Prop} : Zip2P (xs.map f) (ys.map g) P ↔ P ((xs.zip ys).map fun p => D.tup [f p.1, g p.2]) := by unfold Zip2P; rw [zipF2_map]
theorem cutL_to {xs : List α} {k : Int} (h : 0 ≤ k) : cutL xs none (some k) = xs.take k.toNat := by
  unfold cutL HT.sIx
  simp only []
  rw [if_neg (by omega)]
  rw [List.drop_zero, Nat.sub_zero]
  by_cases h2 : k.toNat ≤ xs.length
  · rw [Nat.min_eq_left h2]
  · rw [Nat.min_eq_right (by omega), List.take_length, List.take_of_length_le (by omega)]
theorem cutL_map {f : α → β} {xs : List α} {l h : Option Int} : cutL (xs.map f) l h = (cutL xs l h).map f := by
  unfold cutL; simp
end

section
variable {α : Type} {vs : List Nat} {g : D → M Unit} {c : M Bool} {el : M D} {it : M (List D)} {env : List (Option Sl)} {s : S} {src : Src}
def compE (vs : List Nat) (g : D → M Unit) (c : M Bool) (el : M D) (ds : List D) : M (List D) := fun s1 =>
  if ds.length ≤ sizeLine then (match compF vs g c el ds s1 with
    | some (ys, sn) => some (ys, { sn with env := restE s1.env sn.env vs })
    | none => none) else none
theorem wp_comp {Q : List D → S → Prop} : Wp (eComp vs g c el it) s Q ↔ Wp it s fun ds s1 => Wp (compE vs g c el ds) s1 Q := wp_bnd
theorem wp_turn {d : D} {Q : Option D → S → Prop} : Wp (turnC g c el d) s Q ↔ Wp (g d) s fun _ s1 => Wp c s1 fun b s2 => IfB b (Wp el s2 fun y s3 => Q (some y) s3) (Q none s2) :=
  wp_bnd.trans (wp_cg fun _ _ => wp_bnd.trans (wp_cg fun _ _ => wp_iteB.trans (ifB_cg (wp_bnd.trans (wp_cg fun _ _ => wp_ret)) wp_ret)))
def jv (x : Option D) : Option Sl := x.map Sl.val
theorem jv_some {d : D} : jv (some d) = some (.val d) := rfl
theorem jv_none : jv none = none := rfl
def CleanAt (env : List (Option Sl)) (v : Nat) : Prop := ∀ x, env[v]? = some (some x) → ∃ d, x = .val d
theorem clean_nil : cleanE env [] ↔ True := by simp [cleanE]
theorem clean_cons {v : Nat} {vs : List Nat} : cleanE env (v :: vs) ↔ CleanAt env v ∧ cleanE env vs := by
  unfold cleanE CleanAt; simp
theorem cleanAt_s {x : Option Sl} {r : List (Option Sl)} {n : Nat} : CleanAt (x :: r) (n + 1) ↔ CleanAt r n := by unfold CleanAt; simp
theorem cleanAt_n {r : List (Option Sl)} : CleanAt (none :: r) 0 ↔ True := by unfold CleanAt; simp
theorem cleanAt_v {d : D} {r : List (Option Sl)} : CleanAt (some (.val d) :: r) 0 ↔ True := by unfold CleanAt; simp
theorem cleanAt_j {d : Option D} {r : List (Option Sl)} : CleanAt (jv d :: r) 0 ↔ True := by
  cases d <;> simp [CleanAt, jv]
theorem wipe_nil : wipeE env [] = env := rfl
theorem wipe_cons {v : Nat} {vs : List Nat} : wipeE env (v :: vs) = (wipeE env vs).set v none := rfl
theorem compE_go {ds ys : List D} {env2 : List (Option Sl)} {s' : Src} (hl : ds.length ≤ 16777216) (h3 : compF vs g c el ds ⟨env, src⟩ = some (ys, ⟨env2, s'⟩)) (h4 : wipeE env2 vs = wipeE env vs) (cl : cleanE env vs) : compE vs g c el ds ⟨env, src⟩ = some (ys, ⟨env, s'⟩) := by
  unfold compE
  rw [if_pos (by rw [sizeLine_eq]; exact hl), h3]
  show some (ys, (⟨restE env env2 vs, s'⟩ : S)) = _
  rw [rest_clean h4 cl]
theorem wp_compP {enc : α → D} (f : α → Option D) {xs : List α} {Q : List D → S → Prop} (hl : xs.length ≤ 16777216) (cl : cleanE env vs)
    (step : ∀ x ∈ xs, Wp (turnC g c el (enc x)) ⟨wipeE env vs, src⟩ fun o s' => o = f x ∧ s'.src = src ∧ wipeE s'.env vs = wipeE env vs) (q : Q (xs.filterMap f) ⟨env, src⟩) : Wp (compE vs g c el (xs.map enc)) ⟨env, src⟩ Q := by
  obtain ⟨env2, h3, h4⟩ := compF_pure (vs := vs) (g := g) (c := c) (el := el) (enc := enc) (f := f) (src := src) (env := env) (env0 := env) (xs := xs) rfl fun x hx => by
    obtain ⟨o, ⟨e1, c1⟩, h1, rfl, h2, h5⟩ := step x hx
    simp only at h2 h5; subst h2
    exact ⟨e1, h1, h5⟩
  exact ⟨_, _, compE_go (by simpa using hl) h3 h4 cl, q⟩
theorem filterMap_some {α β : Type} (h : α → β) (xs : List α) : (xs.filterMap fun x => some (h x)) = xs.map h := by
  induction xs with
  | nil => rfl
  | cons x r ih => rw [List.filterMap_cons, List.map_cons, ih]
theorem filterMap_if {α β : Type} (p : α → Bool) (h : α → β) (xs : List α) : (xs.filterMap fun x => if p x = true then some (h x) else none) = (xs.filter p).map h := by
  induction xs with
  | nil => rfl
  | cons x r ih =>
    rw [List.filterMap_cons, List.filter_cons]
    by_cases z : p x = true
    · simp only [z, if_true, List.map_cons, ih]
    · simp only [z]; exact ih
theorem wp_compM {enc : α → D} (h : α → D) {xs : List α} {Q : List D → S → Prop} (hl : xs.length ≤ 16777216) (cl : cleanE env vs)
    (step : ∀ x ∈ xs, Wp (turnC g c el (enc x)) ⟨wipeE env vs, src⟩ fun o s' => o = some (h x) ∧ s'.src = src ∧ wipeE s'.env vs = wipeE env vs) (q : Q (xs.map h) ⟨env, src⟩) : Wp (compE vs g c el (xs.map enc)) ⟨env, src⟩ Q :=
  wp_compP (fun x => some (h x)) hl cl step (by rw [filterMap_some]; exact q)
theorem wp_compF {enc : α → D} (p : α → Bool) (h : α → D) {xs : List α} {Q : List D → S → Prop} (hl : xs.length ≤ 16777216) (cl : cleanE env vs)
    (step : ∀ x ∈ xs, Wp (turnC g c el (enc x)) ⟨wipeE env vs, src⟩ fun o s' => o = (if p x = true then some (h x) else none) ∧ s'.src = src ∧ wipeE s'.env vs = wipeE env vs) (q : Q ((xs.filter p).map h) ⟨env, src⟩) : Wp (compE vs g c el (xs.map enc)) ⟨env, src⟩ Q :=
  wp_compP (fun x => if p x = true then some (h x) else none) hl cl step (by rw [filterMap_if]; exact q)
theorem wp_compD {β : Type} {enc : α → D} (out : β → D) (R : α → β → Prop) {xs : List α} {Q : List D → S → Prop} (hl : xs.length ≤ 16777216) (cl : cleanE env vs)
    (step : ∀ x ∈ xs, ∀ s0, Wp (turnC g c el (enc x)) ⟨wipeE env vs, s0⟩ fun o s' => ∃ y, o = some (out y) ∧ wipeE s'.env vs = wipeE env vs ∧ R x y)
    (q : ∀ (ys : List β) s', ys.length = xs.length → (∀ (i : Nat) (x : α) (y : β), xs[i]? = some x → ys[i]? = some y → R x y) → Q (ys.map out) ⟨env, s'⟩) : Wp (compE vs g c el (xs.map enc)) ⟨env, src⟩ Q := by
  obtain ⟨ys, env2, s', h1, h2, h3, h4⟩ := compF_rel (vs := vs) (g := g) (c := c) (el := el) (enc := fun y => some (out y)) (R := fun d y => ∀ x, x ∈ xs → enc x = d → R x y → R x y) (ds := xs.map enc) (src := src) (env := env) (env0 := env) rfl fun d hd s0 => by
    obtain ⟨x, hx, rfl⟩ := List.mem_map.mp hd
    obtain ⟨o, ⟨e1, c1⟩, g1, y, rfl, g2, g3⟩ := step x hx s0
    exact ⟨y, e1, c1, g1, g2, fun _ _ _ z => z⟩
  -- the relation place by place, once more along the list
  have main : ∀ (xs : List α) (env0 : List (Option Sl)) (s0 : Src), wipeE env0 vs = wipeE env vs → (∀ x ∈ xs, ∀ s0, Wp (turnC g c el (enc x)) ⟨wipeE env vs, s0⟩ fun o s' => ∃ y, o = some (out y) ∧ wipeE s'.env vs = wipeE env vs ∧ R x y) →
      ∃ (ys : List β) (env2 : List (Option Sl)) (s' : Src), ys.length = xs.length ∧ (∀ (i : Nat) (x : α) (y : β), xs[i]? = some x → ys[i]? = some y → R x y) ∧ compF vs g c el (xs.map enc) ⟨env0, s0⟩ = some (ys.map out, ⟨env2, s'⟩) ∧ wipeE env2 vs = wipeE env vs := fun xs => by
    induction xs with
    | nil => intro env0 s0 h _; exact ⟨[], env0, s0, rfl, fun i x y z => by simp at z, rfl, h⟩
    | cons x r ih =>
      intro env0 s0 h st
      obtain ⟨o, ⟨e1, c1⟩, g1, y, rfl, g2, g3⟩ := st x List.mem_cons_self s0
      obtain ⟨ys, env2, s', h1, h2, h3, h4⟩ := ih e1 c1 g2 fun x hx => st x (List.mem_cons_of_mem _ hx)
      refine ⟨y :: ys, env2, s', by simp [h1], fun i x' y' q1 q2 => ?_, ?_, h4⟩
      · cases i with
        | zero => simp at q1 q2; subst q1 q2; exact g3
        | succ i => simp at q1 q2; exact h2 i x' y' q1 q2
      · show bnd (cStep vs g c el (enc x)) _ _ = _
        rw [bnd_eq (show cStep vs g c el (enc x) ⟨env0, s0⟩ = some (some (out y), ⟨e1, c1⟩) by rw [cStep_eq]; show turnC g c el (enc x) ⟨wipeE env0 vs, s0⟩ = _; rw [h]; exact g1)]
        rw [bnd_eq h3]; rfl
  obtain ⟨ys, env2, s', h1, h2, h3, h4⟩ := main xs env src rfl step
  exact ⟨_, _, compE_go (by simpa using hl) h3 h4 cl, q ys s' h1 h2⟩
end

section
variable {α : Type} {g : D → M Unit} {b : M Out} {s : S}
def Lp (o : Out) (A B : Prop) (R : D → Prop) (_ : Ph A := .mk) (_ : Ph B := .mk) (_ : Ph R := .mk) : Prop := match o with
  | .nx => A
  | .cnt => A
  | .brk => B
  | .ret d => R d
theorem lp_nx {A B : Prop} {R : D → Prop} : Lp .nx A B R ↔ A := Iff.rfl
theorem lp_cnt {A B : Prop} {R : D → Prop} : Lp .cnt A B R ↔ A := Iff.rfl
theorem lp_brk {A B : Prop} {R : D → Prop} : Lp .brk A B R ↔ B := Iff.rfl
theorem lp_ret {A B : Prop} {d : D} {R : D → Prop} : Lp (.ret d) A B R ↔ R d := Iff.rfl
theorem wp_forc {d : D} {r : List D} {Q : Out → S → Prop} : Wp (forM g b (d :: r)) s Q ↔ Wp (g d) s fun _ s1 => Wp b s1 fun o s2 => Lp o (Wp (forM g b r) s2 Q) (Q .nx s2) (fun d => Q (.ret d) s2) := by
  have go : ∀ (o : Out) s2, Wp (match o with | .nx => forM g b r | .cnt => forM g b r | .brk => ret .nx | .ret d => ret (.ret d)) s2 Q ↔ Lp o (Wp (forM g b r) s2 Q) (Q .nx s2) (fun d => Q (.ret d) s2) := fun o s2 => by
    cases o with
    | nx => exact Iff.rfl
    | cnt => exact Iff.rfl
    | brk => exact wp_ret
    | ret d => exact wp_ret
  exact wp_bnd.trans (wp_cg fun _ _ => wp_bnd.trans (wp_cg go))
theorem wp_forn {Q : Out → S → Prop} : Wp (forM g b []) s Q ↔ Q .nx s := wp_eq rfl
theorem wp_for {enc : α → D} {xs : List α} {Q : Out → S → Prop} (I : List α → List α → S → Prop) (h0 : I [] xs s)
    (hs : ∀ done x rest s, xs = done ++ x :: rest → I done (x :: rest) s → Wp (g (enc x)) s fun _ s1 => Wp b s1 fun o s2 => Lp o (I (done ++ [x]) rest s2) (Q .nx s2) (fun d => Q (.ret d) s2))
    (hd : ∀ s, I xs [] s → Q .nx s) : Wp (forM g b (xs.map enc)) s Q := by
  have main : ∀ rest done s, xs = done ++ rest → I done rest s → Wp (forM g b (rest.map enc)) s Q := fun rest => by
    induction rest with
    | nil => intro done s e i; rw [List.append_nil] at e; subst e; exact wp_forn.mpr (hd s i)
    | cons x r ih =>
      intro done s e i
      rw [List.map_cons, wp_forc]
      refine (hs done x r s e i).mono fun _ s1 h => h.mono fun o s2 h => ?_
      cases o with
      | nx => exact ih (done ++ [x]) s2 (by rw [e]; simp) h
      | cnt => exact ih (done ++ [x]) s2 (by rw [e]; simp) h
      | brk => exact h
      | ret d => exact h
  exact main xs [] s rfl h0
theorem wp_while {c : M Bool} {Q : Out → S → Prop} (I : Nat → S → Prop) {n : Nat} (h0 : I n s)
    (hs : ∀ n s, I n s → Wp c s fun t s1 => IfB t (Wp b s1 fun o s2 => Lp o (∃ m, m < n ∧ I m s2) (Q .nx s2) (fun d => Q (.ret d) s2)) (Q .nx s1)) : Wp (sWhile c b) s Q := by
  have main : ∀ n s, I n s → ∃ k o s', whF c b k s = some (o, s') ∧ Q o s' := fun n => by
    induction n using Nat.strongRecOn with
    | ind n ih =>
      intro s i
      obtain ⟨t, s1, e1, h1, h2⟩ := hs n s i
      cases t with
      | false => exact ⟨1, .nx, s1, (bnd_eq e1).trans rfl, h2 rfl⟩
      | true =>
        obtain ⟨o, s2, e2, h3⟩ := h1 rfl
        cases o with
        | nx =>
          obtain ⟨m, hm, i2⟩ := h3
          obtain ⟨k, o, s', e3, q⟩ := ih m hm s2 i2
          exact ⟨k + 1, o, s', (bnd_eq e1).trans ((bnd_eq e2).trans e3), q⟩
        | cnt =>
          obtain ⟨m, hm, i2⟩ := h3
          obtain ⟨k, o, s', e3, q⟩ := ih m hm s2 i2
          exact ⟨k + 1, o, s', (bnd_eq e1).trans ((bnd_eq e2).trans e3), q⟩
        | brk => exact ⟨1, .nx, s2, (bnd_eq e1).trans ((bnd_eq e2).trans rfl), h3⟩
        | ret d => exact ⟨1, .ret d, s2, (bnd_eq e1).trans ((bnd_eq e2).trans rfl), h3⟩
  obtain ⟨k, o, s', e, q⟩ := main n s h0
  exact ⟨o, s', sWhile_of e, q⟩
end

def startE (n : Nat) (ds : List D) : List (Option Sl) := ds.map (fun d => some (Sl.val d)) ++ List.replicate (n - ds.length) none
theorem startE_z : startE 0 [] = [] := rfl
theorem startE_n {n : Nat} : startE (n + 1) [] = none :: startE n [] := rfl
theorem startE_s {n : Nat} {d : D} {r : List D} : startE (n + 1) (d :: r) = some (.val d) :: startE n r := by
  unfold startE; simp
def OutR (o : Out) (P : D → Prop) (_ : Ph P := .mk) : Prop := (∃ d, o = .ret d ∧ P d) ∨ (o = .nx ∧ P .non)
theorem outR_ret {d : D} {P : D → Prop} : OutR (.ret d) P ↔ P d := by unfold OutR; simp
theorem outR_nx {P : D → Prop} : OutR .nx P ↔ P .non := by unfold OutR; simp
theorem fn_cl {n : Nat} {m : M Out} {ds : List D} {c : Src} {R : D → Src → Prop} (h : Wp m ⟨startE n ds, c⟩ fun o s => OutR o fun d => R d s.src) : Cl (fnOf n m) ds c R := by
  obtain ⟨o, s', e, h⟩ := h
  rcases h with ⟨d, rfl, p⟩ | ⟨rfl, p⟩
  · exact ⟨d, s'.src, by unfold fnOf; rw [show m ⟨ds.map (fun d => some (Sl.val d)) ++ List.replicate (n - ds.length) none, c⟩ = _ from e], p⟩
  · exact ⟨.non, s'.src, by unfold fnOf; rw [show m ⟨ds.map (fun d => some (Sl.val d)) ++ List.replicate (n - ds.length) none, c⟩ = _ from e], p⟩
theorem fn_val {n : Nat} {m : M Out} {ds : List D} {c : Src} {v : D} (h : Wp m ⟨startE n ds, c⟩ fun o s => OutR o fun d => d = v ∧ s.src = c) : fnOf n m ds c = some (v, c) := Cl.eq (fn_cl h)
theorem cl_pick {most : Int} {c : Src} {R : D → Src → Prop} (h1 : 1 ≤ most) (h2 : most ≤ 1000000000) (h : ∀ r c', 0 ≤ r → r < most → R (.int r) c') : Cl S_pick [.src, .int most] c R := by
  obtain ⟨r, c', e, h3, h4⟩ := pick_any most c h1 h2
  exact ⟨_, _, e, h r c' h3 h4⟩
end GH

namespace GH
open PySem PySem.Spec PyProof.Rows L2

def dKey : D → Option Key
  | .int i => some (.inl i)
  | .str s => some (.inr s)
  | _ => none
def keyD : Key → D
  | .inl i => .int i
  | .inr s => .str s
def dKeyL : List D → Option (List Key)
  | [] => some []
  | d :: r => (dKey d).bind fun k => (dKeyL r).map (k :: ·)
def dKeys : D → Option (List Key)
  | .tup ds => dKeyL ds
  | _ => none
theorem dKey_rp {d : D} {k : Key} {p : Addr} {W : AP} {H : Hp} {v : V} (h : dKey d = some k) (r : Rp p W H d v) : v = kV k := by
  cases d <;> simp only [dKey] at h <;> cases h
  · exact rp_int r
  · exact rp_str r
theorem keyD_rp {k : Key} {p : Addr} {W : AP} {H : Hp} : Rp p W H (keyD k) (kV k) := by
  cases k
  · exact .mkInt _
  · exact .mkStr _
theorem dKeyL_rp {p : Addr} {W : AP} {H : Hp} : ∀ {ds : List D} {ks : List Key} {vs : List V}, dKeyL ds = some ks → Rps p W H ds vs → vs = ks.map kV
  | [], _, _, h, r => by cases h; simp only [Rps] at r; rw [r]; rfl
  | d :: ds, ks, vs, h, r => by
    simp only [Rps] at r
    obtain ⟨v, t, rfl, r1, r2⟩ := r
    obtain ⟨k, h1, h2⟩ := Option.bind_eq_some_iff.mp h
    obtain ⟨ks', h3, rfl⟩ := Option.map_eq_some_iff.mp h2
    rw [dKey_rp h1 r1, dKeyL_rp h3 r2]; rfl
theorem dKeys_rp {d : D} {ks : List Key} {p : Addr} {W : AP} {H : Hp} {v : V} (h : dKeys d = some ks) (r : Rp p W H d v) : ∃ b, v = .ref b ∧ H b = some (.tup (ks.map kV)) := by
  cases d <;> simp only [dKeys] at h <;> try (cases h; done)
  obtain ⟨a, vs, rfl, _, ha, rs⟩ := rp_tup r
  exact ⟨a, rfl, by rw [ha, dKeyL_rp h rs]⟩
def keysD (ks : List Key) : D := .tup (ks.map keyD)
theorem keys_rps {p : Addr} {W : AP} {H : Hp} : ∀ {ks : List Key}, Rps p W H (ks.map keyD) (ks.map kV)
  | [] => .nil
  | _ :: _ => .cons keyD_rp keys_rps

section
variable {κ : Type} [DecidableEq κ]
def kGet : List κ → List D → κ → Option D
  | k :: ks, d :: ds, x => if k = x then some d else kGet ks ds x
  | _, _, _ => none
def kRep : List κ → List D → κ → D → List D
  | k :: ks, e :: ds, x, d => (if k = x then d else e) :: kRep ks ds x d
  | _, ds, _, _ => ds
def kPutK (ks : List κ) (x : κ) : List κ := if x ∈ ks then ks else ks ++ [x]
def kPutD (ks : List κ) (ds : List D) (x : κ) (d : D) : List D := if x ∈ ks then kRep ks ds x d else ds ++ [d]
theorem kGet_some {p : Addr} {W : AP} {H : Hp} {x : κ} {d : D} : ∀ {kvs : List (κ × V)} {ds : List D}, Rps p W H ds (kvs.map (·.2)) → kGet (kvs.map (·.1)) ds x = some d → ∃ v, valV kvs x = some v ∧ Rp p W H d v
  | [], _, _, h => by simp [kGet] at h
  | kv :: r, [], _, h => by simp [kGet] at h
  | kv :: r, e :: ds, rs, h => by
    rw [List.map_cons] at rs
    simp only [Rps] at rs
    obtain ⟨v, t, e1, r1, r2⟩ := rs
    cases e1
    rw [List.map_cons] at h
    unfold kGet at h
    by_cases hk : kv.1 = x
    · rw [if_pos hk] at h; cases h
      exact ⟨kv.2, valV_pos hk, r1⟩
    · rw [if_neg hk] at h
      rw [valV_neg hk]
      exact kGet_some r2 h
theorem kGet_none {p : Addr} {W : AP} {H : Hp} {x : κ} : ∀ {kvs : List (κ × V)} {ds : List D}, Rps p W H ds (kvs.map (·.2)) → kGet (kvs.map (·.1)) ds x = none → valV kvs x = none
  | [], _, _, _ => rfl
  | kv :: r, [], rs, _ => by simp [Rps] at rs
  | kv :: r, e :: ds, rs, h => by
    rw [List.map_cons] at rs
    simp only [Rps] at rs
    obtain ⟨v, t, e1, r1, r2⟩ := rs
    cases e1
    rw [List.map_cons] at h
    unfold kGet at h
    by_cases hk : kv.1 = x
    · rw [if_pos hk] at h; cases h
    · rw [if_neg hk] at h
      rw [valV_neg hk]
      exact kGet_none r2 h
theorem kGet_val {p : Addr} {W : AP} {H : Hp} {x : κ} {kvs : List (κ × V)} {ds : List D} (rs : Rps p W H ds (kvs.map (·.2))) : (valV kvs x).isSome = (kGet (kvs.map (·.1)) ds x).isSome := by
  cases h : kGet (kvs.map (·.1)) ds x with
  | none => rw [kGet_none rs h]; rfl
  | some d =>
    obtain ⟨v, e, _⟩ := kGet_some rs h
    rw [e]; rfl
theorem any_mem (kvs : List (κ × V)) (x : κ) : (kvs.any fun kv => decide (kv.1 = x)) = decide (x ∈ kvs.map (·.1)) := by
  induction kvs with
  | nil => simp
  | cons kv r ih =>
    rw [List.any_cons, ih, List.map_cons]
    by_cases h : kv.1 = x
    · simp [h]
    · have : ¬ x = kv.1 := fun z => h z.symm
      simp [h, this]
theorem kRep_rps {p : Addr} {W : AP} {H : Hp} {x : κ} {d : D} {v : V} (rd : Rp p W H d v) : ∀ {kvs : List (κ × V)} {ds : List D}, Rps p W H ds (kvs.map (·.2)) → Rps p W H (kRep (kvs.map (·.1)) ds x d) ((kvs.map fun kv => if kv.1 = x then (kv.1, v) else kv).map (·.2))
  | [], _, rs => by simpa [kRep] using rs
  | kv :: r, [], rs => by simp [Rps] at rs
  | kv :: r, e :: ds, rs => by
    rw [List.map_cons] at rs
    simp only [Rps] at rs
    obtain ⟨w, t, e1, r1, r2⟩ := rs
    cases e1
    rw [List.map_cons, List.map_cons, List.map_cons]
    unfold kRep
    refine .cons ?_ (kRep_rps rd r2)
    by_cases h : kv.1 = x
    · rw [if_pos h, if_pos h]; exact rd
    · rw [if_neg h, if_neg h]; exact r1
theorem putK_keys (kvs : List (κ × V)) (x : κ) (v : V) : (putK kvs x v).map (·.1) = kPutK (kvs.map (·.1)) x := by
  unfold putK kPutK
  rw [any_mem]
  by_cases h : x ∈ kvs.map (·.1)
  · simp only [h, decide_true, if_true, List.map_map]
    refine List.map_congr_left fun kv _ => ?_
    show (if kv.1 = x then (kv.1, v) else kv).1 = kv.1
    by_cases z : kv.1 = x
    · rw [if_pos z]
    · rw [if_neg z]
  · simp only [h, decide_false, Bool.false_eq_true, if_false, List.map_append]; rfl
theorem putK_rps {p : Addr} {W : AP} {H : Hp} {x : κ} {d : D} {v : V} {kvs : List (κ × V)} {ds : List D} (rs : Rps p W H ds (kvs.map (·.2))) (rd : Rp p W H d v) : Rps p W H (kPutD (kvs.map (·.1)) ds x d) ((putK kvs x v).map (·.2)) := by
  unfold putK kPutD
  rw [any_mem]
  by_cases h : x ∈ kvs.map (·.1)
  · simp only [h, decide_true, if_true]
    exact kRep_rps rd rs
  · simp only [h, decide_false, Bool.false_eq_true, if_false, List.map_append]
    exact rs.append (.cons rd .nil)
end

def dgD : D → D → Option D
  | .dct ks ds, k => (dKey k).bind (kGet ks ds)
  | .dtt ks ds, k => (dKeys k).bind (kGet ks ds)
  | _, _ => none
def dninD : D → D → Option D
  | k, .dct ks ds => (dKey k).map fun x => .bl (!(kGet ks ds x).isSome)
  | k, .dtt ks ds => (dKeys k).map fun x => .bl (!(kGet ks ds x).isSome)
  | _, _ => none
theorem dg_get {p : Addr} {W : AP} {H : Hp} {x k d : D} {v u : V} (h : dgD x k = some d) (r : Rp p W H x v) (rk : Rp p W H k u) : ∃ a w, v = .ref a ∧ DGet H a u (some w) ∧ Rp p W H d w := by
  cases x <;> simp only [dgD] at h <;> try (cases h; done)
  · obtain ⟨a, kvs, rfl, _, ha, rfl, rs⟩ := rp_dct r
    obtain ⟨y, h1, h2⟩ := Option.bind_eq_some_iff.mp h
    obtain ⟨w, h3, h4⟩ := kGet_some rs h2
    exact ⟨a, w, rfl, .inl ⟨kvs, y, ha, dKey_rp h1 rk, h3.symm⟩, h4⟩
  · obtain ⟨a, kvs, rfl, _, ha, rfl, rs⟩ := rp_dtt r
    obtain ⟨y, h1, h2⟩ := Option.bind_eq_some_iff.mp h
    obtain ⟨w, h3, h4⟩ := kGet_some rs h2
    obtain ⟨b, rfl, hb⟩ := dKeys_rp h1 rk
    exact ⟨a, w, rfl, .inr ⟨kvs, y, b, ha, rfl, hb, h3.symm⟩, h4⟩
theorem dnin_get {p : Addr} {W : AP} {H : Hp} {x k d : D} {v u : V} (h : dninD k x = some d) (r : Rp p W H x v) (rk : Rp p W H k u) : ∃ a o, v = .ref a ∧ DGet H a u o ∧ d = .bl (!o.isSome) := by
  cases x <;> simp only [dninD] at h <;> try (cases h; done)
  · obtain ⟨a, kvs, rfl, _, ha, rfl, rs⟩ := rp_dct r
    obtain ⟨y, h1, rfl⟩ := Option.map_eq_some_iff.mp h
    exact ⟨a, _, rfl, .inl ⟨kvs, y, ha, dKey_rp h1 rk, rfl⟩, by rw [kGet_val rs]⟩
  · obtain ⟨a, kvs, rfl, _, ha, rfl, rs⟩ := rp_dtt r
    obtain ⟨y, h1, rfl⟩ := Option.map_eq_some_iff.mp h
    obtain ⟨b, rfl, hb⟩ := dKeys_rp h1 rk
    exact ⟨a, _, rfl, .inr ⟨kvs, y, b, ha, rfl, hb, rfl⟩, by rw [kGet_val rs]⟩
section
variable {X : Cx} {a b e : Expr} {pos p : Pos} {ma mb m : M D} {i : Nat} {x : Str}
def eDgO (i : Nat) (mb : M D) : M D := fun s0 => match s0.env[i]? with
  | some (some _) => bnd mb (fun d s => match s.env[i]? with
    | some (some sl) => (match dgD sl.bor d with
      | some y => some (y, s)
      | none => none)
    | _ => none) s0
  | _ => none
theorem s_dgO (hu : X.A.units + 1 < cLine) (hx : PE X (.Name x p) (tVar i)) (hb : SE X b mb) (hs : NoSl b := by exact fun _ _ => rfl) : SE X (.Subscript (.Name x p) b pos) (eDgO i mb) := ⟨fun B => by
  refine PE.imp (pe_dget hu hx (hb.pe B) hs) fun σ H Q ⟨s, d, s', k, e, q⟩ => ?_
  unfold eDgO at e
  split at e
  · rename_i sl0 h0
    obtain ⟨v, hv⟩ := k.slot h0
    refine ⟨v, hv, ?_⟩
    refine tI.bind k e fun dy s1 u H1 h1 e1 k1 ev1 r1 => ?_
    split at e1
    · rename_i sl hsl
      split at e1
      · rename_i y hy
        cases e1
        cases sl with
        | val dx =>
          obtain ⟨v', q1, q2⟩ := k1.val i _ hsl
          rw [hv] at q1; cases q1
          obtain ⟨ad, w, rfl, g, rw'⟩ := dg_get hy q2 r1
          exact ⟨ad, w, rfl, g, q w H1 k1 ev1 rw'⟩
        | own ds => simp [Sl.bor, dgD] at hy
        | ownK ks ds =>
          obtain ⟨a', o, q1, q2, ⟨kvs, rfl, rfl, rs⟩, _⟩ := k1.own i _ hsl rfl
          rw [hv] at q1; cases q1
          obtain ⟨y', h2, h3⟩ := Option.bind_eq_some_iff.mp hy
          obtain ⟨w, h4, h5⟩ := kGet_some rs h3
          exact ⟨a', w, rfl, .inl ⟨kvs, y', .inl q2, dKey_rp h2 r1, h4.symm⟩, q w H1 k1 ev1 h5⟩
        | ownT ks ds =>
          obtain ⟨a', o, q1, q2, ⟨kvs, rfl, rfl, rs⟩, _⟩ := k1.own i _ hsl rfl
          rw [hv] at q1; cases q1
          obtain ⟨y', h2, h3⟩ := Option.bind_eq_some_iff.mp hy
          obtain ⟨w, h4, h5⟩ := kGet_some rs h3
          obtain ⟨b', rfl, hb'⟩ := dKeys_rp h2 r1
          exact ⟨a', w, rfl, .inr ⟨kvs, y', b', .inl q2, rfl, hb', h4.symm⟩, q w H1 k1 ev1 h5⟩
      · cases e1
    · cases e1
  · cases e⟩
def putD (i : Nat) (k d : D) : M Unit := fun s => match s.env[i]? with
  | some (some (.ownK ks ds)) => (match dKey k with
    | some x => if ks.length < sizeLine then some ((), ⟨s.env.set i (some (.ownK (kPutK ks x) (kPutD ks ds x d))), s.src⟩) else none
    | none => none)
  | some (some (.ownT ks ds)) => (match dKeys k with
    | some x => if ks.length < sizeLine then some ((), ⟨s.env.set i (some (.ownT (kPutK ks x) (kPutD ks ds x d))), s.src⟩) else none
    | none => none)
  | _ => none
def ownHere2 (i : Nat) : M Unit := fun s => match s.env[i]? with
  | some (some (.ownK _ _)) => some ((), s)
  | some (some (.ownT _ _)) => some ((), s)
  | _ => none
theorem own_here2 {i : Nat} {s s' : S} {u : Unit} (h : ownHere2 i s = some (u, s')) : s' = s ∧ ∃ sl : Sl, s.env[i]? = some (some sl) ∧ sl.isOwn = true := by
  unfold ownHere2 at h
  split at h
  · rename_i hd; cases h; exact ⟨rfl, _, hd, rfl⟩
  · rename_i hd; cases h; exact ⟨rfl, _, hd, rfl⟩
  · cases h
def sPutD (i : Nat) (mv mk : M D) : M Out := bnd mv fun d => bnd (ownHere2 i) fun _ => bnd mk fun k => bnd (putD i k d) fun _ => ret .nx
theorem s_putD {me : M D} (hu : X.A.units + 1 < cLine) {tpos : Pos} (hx : PE X (.Name x p) (tVar i)) (hb : SE X b mb) (he : SE X e me) (hs : swapsWith e (some (.Subscript (.Name x p) b tpos)) pos.line X.env = pure false := by rfl) :
    SS X (.Assign [.Subscript (.Name x p) b tpos] e pos) (sPutD i me mb) := ⟨fun B => by
  refine PS.imp (ps_dput hu hx (hb.pe B) (he.pe B) hs) fun D σ H ⟨s, o, s', k, e, q⟩ => ?_
  refine tI.bind k e fun d s1 v H1 h1 e1 k1 ev1 r1 => ?_
  obtain ⟨_, s0, e0, e9⟩ := bnd_some e1
  obtain ⟨rfl, sl0, h0, ho0⟩ := own_here2 e0
  obtain ⟨a, o1, q1, _⟩ := k1.own i sl0 h0 ho0
  refine ⟨_, q1, ?_⟩
  refine tI.bind k1 e9 fun dy s2 u H2 h2 e2 k2 ev2 r2 => ?_
  obtain ⟨_, s3, e3, e4⟩ := bnd_some e2
  obtain ⟨rfl, rfl⟩ := ret_some e4
  unfold putD at e3
  split at e3
  · rename_i ks ds hsl
    split at e3
    · rename_i y hy
      split at e3
      · rename_i hl
        cases e3
        obtain ⟨a', o', p1, p2, ⟨kvs, rfl, rfl, rs⟩, _⟩ := k2.own i _ hsl rfl
        rw [q1] at p1; cases p1
        obtain ⟨k3, ev3⟩ := k2.wr (sl' := .ownK (kPutK (kvs.map (·.1)) y) (kPutD (kvs.map (·.1)) ds y d)) (o := .dK (putK kvs y v)) hsl rfl rfl q1 ⟨_, rfl, putK_keys .., putK_rps rs (r1.ev ev2)⟩
        exact ⟨a, _, rfl, .inl ⟨kvs, y, p2, dKey_rp hy r2, by simpa using hl, rfl⟩, q σ _ k3 (ev1.trans (ev2.trans ev3))⟩
      · cases e3
    · cases e3
  · rename_i ks ds hsl
    split at e3
    · rename_i y hy
      split at e3
      · rename_i hl
        cases e3
        obtain ⟨a', o', p1, p2, ⟨kvs, rfl, rfl, rs⟩, _⟩ := k2.own i _ hsl rfl
        rw [q1] at p1; cases p1
        obtain ⟨k3, ev3⟩ := k2.wr (sl' := .ownT (kPutK (kvs.map (·.1)) y) (kPutD (kvs.map (·.1)) ds y d)) (o := .dT (putK kvs y v)) hsl rfl rfl q1 ⟨_, rfl, putK_keys .., putK_rps rs (r1.ev ev2)⟩
        obtain ⟨b', rfl, hb'⟩ := dKeys_rp hy r2
        exact ⟨a, _, rfl, .inr ⟨kvs, y, b', p2, rfl, hb', by simpa using hl, rfl⟩, q σ _ k3 (ev1.trans (ev2.trans ev3))⟩
      · cases e3
    · cases e3
  · cases e3⟩
end

def tN (B : Bs) (m : M Sl) : TE := fun σ H Q => ∃ s sl s', StOk B σ H s ∧ m s = some (sl, s') ∧ sl.isOwn = true ∧
  ∀ a o H', StOk (B.plus a) σ H' s' → Ev (B.W s.env σ) H ((B.plus a).W s'.env σ) H' → B.H0 a = none → ¬ (B.W s'.env σ) a → H' a = some o → OwnR B.p ((B.plus a).W s'.env σ) H' sl o → Q (.ref a) H'
structure SN (X : Cx) (e : Expr) (m : M Sl) : Prop where
  pe : ∀ B, PE X e (tN B m)
section
variable {X : Cx} {e : Expr} {es : List Expr} {pos : Pos} {mn : M Sl} {ml : M (List D)} {ms : M (List Sl)}
def eNew (mn : M Sl) : M D := bnd mn fun sl => ret sl.bor
theorem bor_rp {p : Addr} {W : AP} {H : Hp} {a : Addr} {o : HO} : ∀ {sl : Sl}, sl.isOwn = true → ¬ W a → H a = some o → OwnR p W H sl o → Rp p W H sl.bor (.ref a)
  | .val _, h, _, _, _ => by cases h
  | .own ds, _, n, ha, ⟨vs, e, r⟩ => by subst e; exact .mkLst n ha r
  | .ownK ks ds, _, n, ha, ⟨kvs, e, r1, r⟩ => by subst e; simp only [Sl.bor, Rp]; exact ⟨a, kvs, rfl, n, .inl ha, r1, r⟩
  | .ownT ks ds, _, n, ha, ⟨kvs, e, r1, r⟩ => by subst e; simp only [Sl.bor, Rp]; exact ⟨a, kvs, rfl, n, .inl ha, r1, r⟩
theorem StOk.unplus {B : Bs} {σ : Sg} {H : Hp} {s : S} {a : Addr} (k : StOk (B.plus a) σ H s) (wp : B.Wc B.p) (wcc : B.Wc B.c) : StOk B σ H s ∧ Ev ((B.plus a).W s.env σ) H (B.W s.env σ) H := by
  have ev2 : Ev ((B.plus a).W s.env σ) H (B.W s.env σ) H := Ev.less fun b hb => hb.elim (fun z => .inl (.inl z)) fun z => .inr z
  refine ⟨⟨k.len, fun i d h => ?_, fun i sl h ho => ?_, k.sep, k.src, k.keep, fun b h => k.wc b (.inl h), wp, wcc⟩, ev2⟩
  · obtain ⟨v, h1, h2⟩ := k.val i d h
    exact ⟨v, h1, Rp.ev ev2 _ _ h2⟩
  · obtain ⟨b, o, h1, h2, h3, h4, h5⟩ := k.own i sl h ho
    exact ⟨b, o, h1, h2, OwnR.ev ev2 _ _ h3, h4, fun z => h5 (.inl z)⟩
theorem s_ofN (h : SN X e mn) : SE X e (eNew (bnd mn fun sl => if sl.isOwn = true then ret sl else fail)) := ⟨fun B => PE.imp (h.pe B) fun σ H Q ⟨s, d, s', k, e, q⟩ => by
  obtain ⟨sl, s1, e1, e2⟩ := bnd_some e
  obtain ⟨rfl, rfl⟩ := ret_some e2
  obtain ⟨sl', s2, e3, e4⟩ := bnd_some e1
  split at e4
  · rename_i ho
    obtain ⟨rfl, rfl⟩ := ret_some e4
    refine ⟨s, sl, s', k, e3, ho, fun a o H' k' ev n nw ha r => ?_⟩
    obtain ⟨k2, ev2⟩ := k'.unplus k.wp k.wcc
    exact q _ H' k2 (Ev.trans ev ev2) (bor_rp ho nw ha (OwnR.ev ev2 _ _ r))
  · cases e4⟩
def oNS (i : Nat) : Sl → M Unit := fun sl s => if i < s.env.length ∧ sl.isOwn = true then some ((), { s with env := s.env.set i (some sl) }) else none
def sOwnN (i : Nat) (mn : M Sl) : M Out := bnd mn fun sl => bnd (oNS i sl) fun _ => ret .nx
theorem s_ownN {i : Nat} {x : Str} {pos' : Pos} (hN : X.N.Nodup) (hi : X.N[i]? = some x) (hx : Loc X.env.scope x) (he : SN X e mn) (hs : swapsWith e (some (.Name x pos')) pos.line X.env = pure false := by rfl)
    (hf : X.fn x = true ∨ X.env.scope.names.lookup x = some .local := by first | exact .inl rfl | exact .inr rfl | assumption) : SS X (.Assign [.Name x pos'] e pos) (sOwnN i mn) :=
  ⟨fun B => PS.imp (ps_set hN hi hx (he.pe B) hs hf) fun D σ H ⟨s, o, s', k, e, q⟩ => by
    obtain ⟨sl, s1, e1, e2⟩ := bnd_some e
    obtain ⟨_, s2, e3, e4⟩ := bnd_some e2
    obtain ⟨rfl, rfl⟩ := ret_some e4
    unfold oNS at e3
    split at e3
    · rename_i hl
      cases e3
      refine ⟨s, sl, s1, k, e1, hl.2, fun a o H1 k1 ev1 n nc ha r => ?_⟩
      obtain ⟨k2, ev2⟩ := k1.putOwnS hl.1 hl.2 n nc k.wp k.wcc ha r
      exact q _ H1 k2 (Ev.trans ev1 ev2)
    · cases e3⟩
def nK0 : M Sl := ret (.ownK [] [])
def nT0 : M Sl := ret (.ownT [] [])
theorem n_dK : SN X (.Dict [] [] pos) nK0 := ⟨fun B => PE.imp pe_dnewK fun σ H Q ⟨s, sl, s', k, e, ho, q⟩ p np => by
  obtain ⟨rfl, rfl⟩ := ret_some e
  obtain ⟨kp, ev⟩ := k.plus (o := .dK []) np
  exact q p _ _ kp ev (k.new np) (k.wt.new np) upd_same ⟨[], rfl, rfl, .nil⟩⟩
theorem n_dT : SN X (.Dict [] [] pos) nT0 := ⟨fun B => PE.imp pe_dnewT fun σ H Q ⟨s, sl, s', k, e, ho, q⟩ p np => by
  obtain ⟨rfl, rfl⟩ := ret_some e
  obtain ⟨kp, ev⟩ := k.plus (o := .dT []) np
  exact q p _ _ kp ev (k.new np) (k.wt.new np) upd_same ⟨[], rfl, rfl, .nil⟩⟩
def PairsR (p : Addr) (W : AP) (H : Hp) : List (Key × D) → List (Key × V) → Prop
  | [], l => l = []
  | (x, d) :: r, l => ∃ v t, l = (x, v) :: t ∧ Rp p W H d v ∧ PairsR p W H r t
theorem PairsR.ev {p : Addr} {W W' : AP} {H H' : Hp} (e : Ev W H W' H') : ∀ {l : List (Key × D)} {k : List (Key × V)}, PairsR p W H l k → PairsR p W' H' l k
  | [], _, h => h
  | (x, d) :: r, _, ⟨v, t, e1, r1, h⟩ => ⟨v, t, e1, r1.ev e, PairsR.ev e h⟩
theorem PairsR.len {p : Addr} {W : AP} {H : Hp} : ∀ {l : List (Key × D)} {k : List (Key × V)}, PairsR p W H l k → k.length = l.length
  | [], _, h => by rw [h]; rfl
  | (x, d) :: r, _, ⟨v, t, e1, r1, h⟩ => by rw [e1]; simp [h.len]
structure SD (X : Cx) (pos : Pos) (keys : List (Option Expr)) (values : List Expr) (m : M (List (Key × D))) : Prop where
  pp : ∃ trs, PPs X pos keys values trs ∧ ∀ B σ H Q, (∃ s l s', StOk B σ H s ∧ m s = some (l, s') ∧ ∀ kvs H', StOk B σ H' s' → Ev (B.W s.env σ) H (B.W s'.env σ) H' → PairsR B.p (B.W s'.env σ) H' l kvs → Q (kvs.map fun kv => (kV kv.1, kv.2)) H') → tPairs trs σ H Q
end
end GH

namespace GH
open PySem PySem.Spec PyProof.Rows L2

def Bs.lock (B : Bs) (d : Addr) (o : Obj) (u : HO) : Bs := { B with H0 := upd B.H0 d (.frz o u) }
def DictO (u : HO) : Prop := (∃ kvs, u = .dK kvs) ∨ ∃ kvs, u = .dT kvs
section
variable {p : Addr} {W : AP} {H : Hp} {d : Addr} {o : Obj} {u : HO}
theorem Rd.lock {a : Addr} {x : HO} (h : H d = some u) (du : DictO u) (r : Rd H a x) : Rd (upd H d (.frz o u)) a x := by
  by_cases e : a = d
  · subst e
    rcases r with r | ⟨o', r⟩
    · rw [h] at r; cases r; exact .inr ⟨o, upd_same⟩
    · rw [h] at r; cases r
      rcases du with ⟨_, z⟩ | ⟨_, z⟩ <;> cases z
  · rcases r with r | ⟨o', r⟩
    · exact .inl (by rw [upd_ne e]; exact r)
    · exact .inr ⟨o', by rw [upd_ne e]; exact r⟩
theorem Rd.unlock {a : Addr} {x : HO} (h : H d = some (.frz o u)) (nx : ∀ o' y, x ≠ .frz o' y) (r : Rd H a x) : Rd (upd H d u) a x := by
  by_cases e : a = d
  · subst e
    rcases r with r | ⟨o', r⟩
    · rw [h] at r; cases r; exact absurd rfl (nx _ _)
    · rw [h] at r; cases r; exact .inl upd_same
  · rcases r with r | ⟨o', r⟩
    · exact .inl (by rw [upd_ne e]; exact r)
    · exact .inr ⟨o', by rw [upd_ne e]; exact r⟩
theorem lock_ne {a : Addr} {x : HO} (h : H d = some u) (du : DictO u) (hx : ¬ DictO x) (e : H a = some x) : (upd H d (.frz o u)) a = some x := by
  by_cases z : a = d
  · subst z; rw [h] at e; cases e; exact absurd du hx
  · rw [upd_ne z]; exact e
theorem unlock_ne {a : Addr} {x : HO} (h : H d = some (.frz o u)) (nx : ∀ o' y, x ≠ .frz o' y) (e : H a = some x) : (upd H d u) a = some x := by
  by_cases z : a = d
  · subst z; rw [h] at e; cases e; exact absurd rfl (nx _ _)
  · rw [upd_ne z]; exact e
theorem noDict_tup {xs : List V} : ¬ DictO (.tup xs) := by rintro (⟨_, z⟩ | ⟨_, z⟩) <;> cases z
theorem noDict_lst {xs : List V} : ¬ DictO (.lst xs) := by rintro (⟨_, z⟩ | ⟨_, z⟩) <;> cases z
theorem noDict_rng {lo hi : Int} : ¬ DictO (.rng lo hi) := by rintro (⟨_, z⟩ | ⟨_, z⟩) <;> cases z
theorem noDict_frz {o' : Obj} {y : HO} : ¬ DictO (.frz o' y) := by rintro (⟨_, z⟩ | ⟨_, z⟩) <;> cases z
theorem unlock_tup {a : Addr} {o' : Obj} {xs : List V} (h : H d = some (.frz o u)) (du : DictO u) (e : H a = some (.frz o' (.tup xs))) : (upd H d u) a = some (.frz o' (.tup xs)) := by
  by_cases z : a = d
  · subst z; rw [h] at e; cases e; exact absurd du noDict_tup
  · rw [upd_ne z]; exact e
mutual
theorem Rp.lock (h : H d = some u) (du : DictO u) : ∀ (x : D) (v : V), Rp p W H x v → Rp p W (upd H d (.frz o u)) x v
  | .non, _, r => r
  | .bl _, _, r => r
  | .int _, _, r => r
  | .str _, _, r => r
  | .src, _, r => r
  | .tup ds, _, ⟨a, vs, h1, h2, h3, h4⟩ => ⟨a, vs, h1, h2, lock_ne h du noDict_tup h3, Rps.lock h du ds vs h4⟩
  | .lst ds, _, ⟨a, vs, h1, h2, h3, h4⟩ => ⟨a, vs, h1, h2, lock_ne h du noDict_lst h3, Rps.lock h du ds vs h4⟩
  | .rng _ _, _, ⟨a, h1, h2, h3⟩ => ⟨a, h1, h2, lock_ne h du noDict_rng h3⟩
  | .dct _ ds, _, ⟨a, kvs, h1, h2, h3, h4, h5⟩ => ⟨a, kvs, h1, h2, Rd.lock h du h3, h4, Rps.lock h du ds _ h5⟩
  | .dtt _ ds, _, ⟨a, kvs, h1, h2, h3, h4, h5⟩ => ⟨a, kvs, h1, h2, Rd.lock h du h3, h4, Rps.lock h du ds _ h5⟩
  | .tpx _, _, ⟨a, o', h1, h2, h3, h4⟩ => ⟨a, o', h1, h2, lock_ne h du noDict_frz h3, h4⟩
theorem Rps.lock (h : H d = some u) (du : DictO u) : ∀ (x : List D) (v : List V), Rps p W H x v → Rps p W (upd H d (.frz o u)) x v
  | [], _, r => r
  | x :: ds, _, ⟨v, t, h1, h2, h3⟩ => ⟨v, t, h1, Rp.lock h du x v h2, Rps.lock h du ds t h3⟩
end
mutual
theorem Rp.unlock (h : H d = some (.frz o u)) (du : DictO u) : ∀ (x : D) (v : V), Rp p W H x v → Rp p W (upd H d u) x v
  | .non, _, r => r
  | .bl _, _, r => r
  | .int _, _, r => r
  | .str _, _, r => r
  | .src, _, r => r
  | .tup ds, _, ⟨a, vs, h1, h2, h3, h4⟩ => ⟨a, vs, h1, h2, unlock_ne h (fun _ _ z => by cases z) h3, Rps.unlock h du ds vs h4⟩
  | .lst ds, _, ⟨a, vs, h1, h2, h3, h4⟩ => ⟨a, vs, h1, h2, unlock_ne h (fun _ _ z => by cases z) h3, Rps.unlock h du ds vs h4⟩
  | .rng _ _, _, ⟨a, h1, h2, h3⟩ => ⟨a, h1, h2, unlock_ne h (fun _ _ z => by cases z) h3⟩
  | .dct _ ds, _, ⟨a, kvs, h1, h2, h3, h4, h5⟩ => ⟨a, kvs, h1, h2, Rd.unlock h (fun _ _ z => by cases z) h3, h4, Rps.unlock h du ds _ h5⟩
  | .dtt _ ds, _, ⟨a, kvs, h1, h2, h3, h4, h5⟩ => ⟨a, kvs, h1, h2, Rd.unlock h (fun _ _ z => by cases z) h3, h4, Rps.unlock h du ds _ h5⟩
  | .tpx _, _, ⟨a, o', h1, h2, h3, h4⟩ => ⟨a, o', h1, h2, unlock_tup h du h3, h4⟩
theorem Rps.unlock (h : H d = some (.frz o u)) (du : DictO u) : ∀ (x : List D) (v : List V), Rps p W H x v → Rps p W (upd H d u) x v
  | [], _, r => r
  | x :: ds, _, ⟨v, t, h1, h2, h3⟩ => ⟨v, t, h1, Rp.unlock h du x v h2, Rps.unlock h du ds t h3⟩
end
theorem OwnR.lock (h : H d = some u) (du : DictO u) : ∀ {sl : Sl} {x : HO}, OwnR p W H sl x → OwnR p W (upd H d (.frz o u)) sl x
  | .val _, _, r => r
  | .own _, _, ⟨vs, h1, h2⟩ => ⟨vs, h1, Rps.lock h du _ _ h2⟩
  | .ownK _ _, _, ⟨kvs, h1, h2, h3⟩ => ⟨kvs, h1, h2, Rps.lock h du _ _ h3⟩
  | .ownT _ _, _, ⟨kvs, h1, h2, h3⟩ => ⟨kvs, h1, h2, Rps.lock h du _ _ h3⟩
theorem OwnR.unlock (h : H d = some (.frz o u)) (du : DictO u) : ∀ {sl : Sl} {x : HO}, OwnR p W H sl x → OwnR p W (upd H d u) sl x
  | .val _, _, r => r
  | .own _, _, ⟨vs, h1, h2⟩ => ⟨vs, h1, Rps.unlock h du _ _ h2⟩
  | .ownK _ _, _, ⟨kvs, h1, h2, h3⟩ => ⟨kvs, h1, h2, Rps.unlock h du _ _ h3⟩
  | .ownT _ _, _, ⟨kvs, h1, h2, h3⟩ => ⟨kvs, h1, h2, Rps.unlock h du _ _ h3⟩
theorem StOk.lock {B : Bs} {σ : Sg} {s : S} (k : StOk B σ H s) (h : H d = some u) (du : DictO u) (nW : ¬ B.W s.env σ d) : StOk (B.lock d o u) σ (upd H d (.frz o u)) s := by
  have hp : d ≠ B.p := fun z => nW (.inl (z ▸ k.wp))
  have hc : d ≠ B.c := fun z => nW (.inl (z ▸ k.wcc))
  refine ⟨k.len, fun i x hx => ?_, fun i sl hi ho => ?_, k.sep, ⟨?_, ?_⟩, fun a x hx n1 n2 => ?_, fun a ha => ?_, k.wp, k.wcc⟩
  · obtain ⟨v, h1, h2⟩ := k.val i x hx
    exact ⟨v, h1, Rp.lock h du _ _ h2⟩
  · obtain ⟨a, x, h1, h2, h3, h4, h5⟩ := k.own i sl hi ho
    have ne : a ≠ d := fun z => nW (z ▸ .inr ⟨i, sl, hi, ho, h1⟩)
    exact ⟨a, x, h1, by rw [upd_ne ne]; exact h2, OwnR.lock h du h3, by show upd B.H0 d _ a = none; rw [upd_ne ne]; exact h4, h5⟩
  · show upd H d _ B.p = _
    rw [upd_ne (Ne.symm hp)]; exact k.src.d
  · show upd H d _ B.c = _
    rw [upd_ne (Ne.symm hc)]; exact k.src.l
  · have hx : upd B.H0 d (.frz o u) a = some x := hx
    by_cases z : a = d
    · subst z; rw [upd_same] at hx ⊢; exact hx
    · rw [upd_ne z] at hx ⊢; exact k.keep a x hx n1 n2
  · have ne : a ≠ d := fun z => nW (z ▸ .inl ha)
    rw [upd_ne ne]; exact k.wc a ha
theorem StOk.unlock {B : Bs} {σ : Sg} {s : S} (k : StOk (B.lock d o u) σ H s) (h : H d = some (.frz o u)) (du : DictO u) (hp : d ≠ B.p) (hc : d ≠ B.c) (nW : ¬ B.Wc d) (h0 : ∀ x, B.H0 d = some x → x = u) : StOk B σ (upd H d u) s := by
  refine ⟨k.len, fun i x hx => ?_, fun i sl hi ho => ?_, k.sep, ⟨?_, ?_⟩, fun a x hx n1 n2 => ?_, fun a ha => ?_, k.wp, k.wcc⟩
  · obtain ⟨v, h1, h2⟩ := k.val i x hx
    exact ⟨v, h1, Rp.unlock h du _ _ h2⟩
  · obtain ⟨a, x, h1, h2, h3, h4, h5⟩ := k.own i sl hi ho
    have ne : a ≠ d := fun z => by
      subst z
      have h4 : upd B.H0 a (.frz o u) a = none := h4
      rw [upd_same] at h4; cases h4
    have h4 : upd B.H0 d (.frz o u) a = none := h4
    rw [upd_ne ne] at h4
    exact ⟨a, x, h1, by rw [upd_ne ne]; exact h2, OwnR.unlock h du h3, h4, h5⟩
  · rw [upd_ne (Ne.symm hp)]; exact k.src.d
  · rw [upd_ne (Ne.symm hc)]; exact k.src.l
  · by_cases z : a = d
    · subst z; rw [upd_same, h0 x hx]
    · rw [upd_ne z]; exact k.keep a x (by show upd B.H0 d _ a = _; rw [upd_ne z]; exact hx) n1 n2
  · have ne : a ≠ d := fun z => nW (z ▸ ha)
    rw [upd_ne ne]; exact k.wc a ha
theorem Ev.unlock {W' : AP} {H' : Hp} (h : H d = some u) (nW : ¬ W d) (h' : H' d = some (.frz o u)) (e : Ev W (upd H d (.frz o u)) W' H') : Ev W H W' (upd H' d u) := fun a x hx n => by
  by_cases z : a = d
  · subst z
    rw [h] at hx; cases hx
    exact ⟨upd_same, (e a _ upd_same n).2⟩
  · obtain ⟨h1, h2⟩ := e a x (by rw [upd_ne z]; exact hx) n
    exact ⟨by rw [upd_ne z]; exact h1, h2⟩
end

def sForD (i : Nat) (g : D → M Unit) (b : M Out) : M Out := fun s => match s.env[i]? with
  | some (some (.val (.dct ks _))) => forM g b (ks.map keyD) s
  | some (some (.val (.dtt ks _))) => forM g b (ks.map keysD) s
  | _ => none
section
variable {X : Cx} {pos p : Pos} {i : Nat} {x : Str} {m : M Out}
theorem ps_or {st : Stmt} {t t' : TS} (h : PS X st t) (h' : PS X st t') : PS X st (fun D σ H => t D σ H ∨ t' D σ H) := ⟨fun pins s σ H D I q => q.elim (h.run pins s σ H D I) (h'.run pins s σ H D I)⟩
theorem for_core {B : Bs} {Dn : Ends} {g : D → M Unit} {is : List Nat} {σ : Sg} {H1 : Hp} {J : It} {ds : List D} {s1 s' : S} {o : Out} (k1 : StOk B σ H1 s1) (wk : WalkD B.p (B.W s1.env σ) H1 J ds) (e2 : forM g m ds s1 = some (o, s')) (q : Post B Dn (B.W s1.env σ) H1 o s') :
    ∃ W : Nat → Nat → Sg → Hp → Prop, (∃ m, W 0 m σ H1) ∧ ∀ i m' σ H, W i m' σ H →
      (J.stop i H ∧ Dn.nx σ H) ∨ (J.go i H ∧ ∃ N : Sg → Hp → Prop, (∀ σ' H', N σ' H' → ∃ m'', m'' < m' ∧ W (i + 1) m'' σ' H') ∧ ∀ x H', J.yld i H x H' → tGx is g x σ H' fun σ2 H2 => tSx m { Dn with nx := N, ct := N, bk := Dn.nx } σ2 H2) := by
  refine ⟨fun i mm σi Hi => mm = ds.length - i ∧ i ≤ ds.length ∧ ∃ si, StOk B σi Hi si ∧ Ev (B.W s1.env σ) H1 (B.W si.env σi) Hi ∧ forM g m (ds.drop i) si = some (o, s'), ⟨ds.length, by simp, Nat.zero_le _, s1, k1, Ev.refl, e2⟩, ?_⟩
  rintro i mm σi Hi ⟨rfl, hi, si, ki, evi, eR⟩
  obtain ⟨w1, w2, w3⟩ := wk _ _ evi ki.wt
  by_cases hlt : i < ds.length
  · refine .inr ⟨w1 i hlt, _, fun σ' H' hN => ⟨ds.length - (i + 1), by omega, hN⟩, fun x H' y => ?_⟩
    obtain ⟨sm, rx⟩ := w3 i _ x H' (List.getElem?_eq_getElem hlt) y
    rw [List.drop_eq_getElem_cons hlt] at eR
    obtain ⟨_, s2, eg, eR⟩ := bnd_some eR
    obtain ⟨o2, s3, eb, eR⟩ := bnd_some eR
    refine ⟨B, si, ds[i], s2, ki.same sm, rx, eg, fun σ2 k2 ev2 _ => ⟨B, s2, o2, s3, k2, eb, ?_⟩⟩
    have evA : Ev (B.W s1.env σ) H1 (B.W s2.env σ2) H' := evi.trans ((Ev.same sm).trans ev2)
    cases o2 with
    | nx => exact fun σ' H'' k' ev' => ⟨rfl, hlt, s3, k', evA.trans ev', eR⟩
    | cnt => exact fun σ' H'' k' ev' => ⟨rfl, hlt, s3, k', evA.trans ev', eR⟩
    | brk => obtain ⟨rfl, rfl⟩ := ret_some eR; exact fun σ' H'' k' ev' => q σ' H'' k' (evA.trans ev')
    | ret d => obtain ⟨rfl, rfl⟩ := ret_some eR; exact fun v σ' H'' k' ev' r => q v σ' H'' k' (evA.trans ev') r
  · have hn : i = ds.length := by omega
    subst hn
    rw [List.drop_length] at eR
    obtain ⟨rfl, rfl⟩ := ret_some eR
    exact .inl ⟨w2, q σi Hi ki evi⟩
theorem walk_keys {p : Addr} {W : AP} {H : Hp} {d : Addr} {o : Obj} {kvs : List (Key × V)} (h : H d = some (.frz o (.dK kvs))) (n : ¬ W d) : WalkD p W H (Itk d o kvs) ((kvs.map (·.1)).map keyD) := fun W2 H2 ev wt => by
  have h2 := (ev d _ h n).1
  refine ⟨fun i hi => ⟨h2, by simpa using hi⟩, ⟨h2, by simp⟩, fun i x v H3 hx y => ?_⟩
  obtain ⟨rfl, k, v', hk, rfl⟩ := y
  refine ⟨Same.refl _, ?_⟩
  rw [List.getElem?_map, List.getElem?_map, hk] at hx
  cases hx
  exact keyD_rp
theorem walk_keysT {p : Addr} {W : AP} {H : Hp} {d : Addr} {o : Obj} {kvs : List (List Key × V)} (h : H d = some (.frz o (.dT kvs))) (n : ¬ W d) : WalkD p W H (Itkt d o kvs) ((kvs.map (·.1)).map keysD) := fun W2 H2 ev wt => by
  have h2 := (ev d _ h n).1
  refine ⟨fun i hi => ⟨h2, by simpa using hi⟩, ⟨h2, by simp⟩, fun i x v H3 hx y => ?_⟩
  obtain ⟨rfl, k, v', q, hk, rfl, hq⟩ := y
  refine ⟨Same.refl _, ?_⟩
  rw [List.getElem?_map, List.getElem?_map, hk] at hx
  cases hx
  exact .mkTup (wt.tup hq) hq keys_rps
theorem s_forD {tg : Expr} {body : List Stmt} {is : List Nat} {g : D → M Unit} (hp : PassesOwn (model X.prog X.w) X.A X.env X.xe) (hc : X.calm = true) (hx : PE X (.Name x p) (tVar i)) (hg : SG X tg is g) (hb : SSs X body m)
    (hs : ∀ y, foldedSetIterable (.Name x p) X.env y = pure y := by intro _; rfl) : SS X (.For tg (.Name x p) body [] pos) (sForD i g m) := ⟨fun B => PS.imp (ps_or (ps_lock (ps_for hp hc (pi_keys hx) hg.px hb.px hs)) (ps_for hp hc (pi_keys hx) hg.px hb.px hs)) fun Dn σ H ⟨s, o, s', k, e, q⟩ => by
  have go : ∀ (d : Addr) (u : HO) (ds : List D), σ[i]? = some (some (.ref d)) → H d = some u → DictO u → ¬ B.W s.env σ d → forM g m ds s = some (o, s') →
      ((∃ kvs : List (Key × V), u = .dK kvs ∧ ds = (kvs.map (·.1)).map keyD) ∨ (∃ kvs : List (List Key × V), u = .dT kvs ∧ ds = (kvs.map (·.1)).map keysD)) → tLock (tFor (iKeys (tVar i)) (tGx is g) (tSx m)) Dn σ H := fun d u ds h1 h2 du nW hf hk => by
    refine ⟨d, u, h2, by rcases du with ⟨_, rfl⟩ | ⟨_, rfl⟩ <;> exact True.intro, fun od => ?_⟩
    have hp1 : d ≠ B.p := fun z => nW (.inl (z ▸ k.wp))
    have hp2 : d ≠ B.c := fun z => nW (.inl (z ▸ k.wcc))
    have h0 : ∀ y, B.H0 d = some y → y = u := fun y hy => by
      have := k.keep d y hy hp1 hp2
      rw [h2] at this; cases this; rfl
    have kl := k.lock (o := od) h2 du nW
    have hlock : upd H d (.frz od u) d = some (.frz od u) := upd_same
    -- what follows, unlocked
    have un : ∀ {σ' : Sg} {H' : Hp}, StOk (B.lock d od u) σ' H' s' → Ev ((B.lock d od u).W s.env σ) (upd H d (.frz od u)) ((B.lock d od u).W s'.env σ') H' → H' d = some (.frz od u) ∧ StOk B σ' (upd H' d u) s' ∧ Ev (B.W s.env σ) H (B.W s'.env σ') (upd H' d u) := fun {σ' H'} k' ev' => by
      have hd : H' d = some (.frz od u) := k'.keep d _ upd_same hp1 hp2
      exact ⟨hd, k'.unlock hd du hp1 hp2 (fun z => nW (.inl z)) h0, Ev.unlock (W := B.W s.env σ) h2 nW hd ev'⟩
    have post : Post (B.lock d od u) ⟨fun σ' H' => H' d = some (.frz od u) ∧ Dn.nx σ' (upd H' d u), fun v H' => H' d = some (.frz od u) ∧ Dn.rt v (upd H' d u), fun σ' H' => H' d = some (.frz od u) ∧ Dn.bk σ' (upd H' d u), fun σ' H' => H' d = some (.frz od u) ∧ Dn.ct σ' (upd H' d u)⟩ ((B.lock d od u).W s.env σ) (upd H d (.frz od u)) o s' := by
      cases o with
      | nx => exact fun σ' H' k' ev' => let ⟨z1, z2, z3⟩ := un k' ev'; ⟨z1, q σ' _ z2 z3⟩
      | brk => exact fun σ' H' k' ev' => let ⟨z1, z2, z3⟩ := un k' ev'; ⟨z1, q σ' _ z2 z3⟩
      | cnt => exact fun σ' H' k' ev' => let ⟨z1, z2, z3⟩ := un k' ev'; ⟨z1, q σ' _ z2 z3⟩
      | ret dv => exact fun v σ' H' k' ev' r => let ⟨z1, z2, z3⟩ := un k' ev'; ⟨z1, q v σ' _ z2 z3 (Rp.unlock z1 du _ _ r)⟩
    refine ⟨_, h1, d, od, rfl, ?_⟩
    rcases hk with ⟨kvs, rfl, rfl⟩ | ⟨kvs, rfl, rfl⟩
    · exact .inl ⟨kvs, hlock, for_core kl (walk_keys hlock nW) hf post⟩
    · exact .inr ⟨kvs, hlock, for_core kl (walk_keysT hlock nW) hf post⟩
  unfold sForD at e
  split at e
  · rename_i ks ds hd
    obtain ⟨v, h1, h2⟩ := k.val i _ hd
    obtain ⟨a, kvs, rfl, nW, ha, rfl, rs⟩ := rp_dct h2
    rcases ha with ha | ⟨o', ha⟩
    · exact .inl (go a _ _ h1 ha (.inl ⟨_, rfl⟩) nW e (.inl ⟨kvs, rfl, rfl⟩))
    · exact .inr ⟨_, h1, a, o', rfl, .inl ⟨kvs, ha, for_core k (walk_keys ha nW) e q⟩⟩
  · rename_i ks ds hd
    obtain ⟨v, h1, h2⟩ := k.val i _ hd
    obtain ⟨a, kvs, rfl, nW, ha, rfl, rs⟩ := rp_dtt h2
    rcases ha with ha | ⟨o', ha⟩
    · exact .inl (go a _ _ h1 ha (.inr ⟨_, rfl⟩) nW e (.inr ⟨kvs, rfl, rfl⟩))
    · exact .inr ⟨_, h1, a, o', rfl, .inr ⟨kvs, ha, for_core k (walk_keysT ha nW) e q⟩⟩
  · cases e⟩
end
end GH

namespace GH
open PySem PySem.Spec PyProof.Rows L2

def eNw (mn : M Sl) : M D := eNew (bnd mn fun sl => if sl.isOwn = true then ret sl else fail)
theorem s_nw {X : Cx} {e : Expr} {mn : M Sl} (h : SN X e mn) : SE X e (eNw mn) := s_ofN h
section
variable {X : Cx} {a b : Expr} {pos : Pos} {ma mb : M D}
theorem t_dnin (hu : X.A.units + 1 < cLine) (ha : SE X a ma) (hb : SE X b mb) (hm : behindInMarks .NotIn b = false := by rfl) : ST X (.Compare a [.NotIn] [b] pos) (tst (eBin dninD ma mb)) :=
  ⟨fun B => PT.imp (pt_cmp (pc_dnotin hu (ha.pe B) (hb.pe B)) hm) fun σ H Q ⟨s, b', s', k, e, q⟩ => by
    obtain ⟨d, s3, e0, e9⟩ := bnd_some e
    refine tI.bind k e0 fun dx s1 x H1 h1 e1 k1 ev1 r1 => ?_
    refine tI.bind k1 e1 fun dy s2 y H2 h2 e2 k2 ev2 r2 => ?_
    obtain ⟨e3, rfl⟩ := lift_some e2
    obtain ⟨ad, o, rfl, g, rfl⟩ := dnin_get e3 r2 (r1.ev ev2)
    obtain ⟨rfl, rfl⟩ := ret_some e9
    exact ⟨ad, o, rfl, g, _, rfl, q H2 k2 (ev1.trans ev2)⟩⟩
end
def OwnB (sl : Sl) (P : Prop) (_ : Ph P := .mk) : Prop := sl.isOwn = true ∧ P
theorem ownB_L {ds : List D} {P : Prop} : OwnB (.own ds) P ↔ P := by simp [OwnB, Sl.isOwn]
theorem ownB_K {ks : List Key} {ds : List D} {P : Prop} : OwnB (.ownK ks ds) P ↔ P := by simp [OwnB, Sl.isOwn]
theorem ownB_T {ks : List (List Key)} {ds : List D} {P : Prop} : OwnB (.ownT ks ds) P ↔ P := by simp [OwnB, Sl.isOwn]
section
variable {s : S} {c : Src} {env : List (Option Sl)} {Q : D → S → Prop} {mb m : M D} {mn : M Sl}
theorem wp_ifOwn {α : Type} {sl : Sl} {x : α} {Q : α → S → Prop} : Wp (if sl.isOwn = true then ret x else fail) s Q ↔ OwnB sl (Q x s) := by
  unfold OwnB
  cases h : sl.isOwn
  · rw [if_neg (by simp), wp_fail]; simp
  · rw [if_pos rfl, wp_ret]; simp
theorem wp_nw : Wp (eNw mn) s Q ↔ Wp mn s fun sl s1 => OwnB sl (Q sl.bor s1) :=
  wp_bnd.trans (wp_bnd.trans (wp_cg fun _ _ => wp_ifOwn.trans ⟨fun ⟨h, q⟩ => ⟨h, wp_ret.mp q⟩, fun ⟨h, q⟩ => ⟨h, wp_ret.mpr q⟩⟩))
theorem wp_nK0 {Q : Sl → S → Prop} : Wp nK0 s Q ↔ Q (.ownK [] []) s := wp_eq rfl
theorem wp_nT0 {Q : Sl → S → Prop} : Wp nT0 s Q ↔ Q (.ownT [] []) s := wp_eq rfl
theorem wp_ownN {i : Nat} {Q : Out → S → Prop} : Wp (sOwnN i mn) s Q ↔ Wp mn s fun sl s1 => OwnB sl (SetAt s1.env i (some sl) fun e => Q .nx ⟨e, s1.src⟩) := by
  refine wp_bnd.trans (wp_cg fun sl s1 => wp_bnd.trans ?_)
  unfold OwnB SetAt
  by_cases h : i < s1.env.length ∧ sl.isOwn = true
  · rw [wp_eq (show oNS i sl s1 = some ((), ⟨s1.env.set i (some sl), s1.src⟩) by unfold oNS; rw [if_pos h]), wp_ret]
    simp [h.1, h.2]
  · constructor
    · rintro ⟨_, _, e, _⟩; unfold oNS at e; rw [if_neg h] at e; cases e
    · rintro ⟨z1, z2, _⟩; exact absurd ⟨z2, z1⟩ h
theorem wp_dgO {i : Nat} : Wp (eDgO i mb) ⟨env, c⟩ Q ↔ SlAt env i fun _ => Wp mb ⟨env, c⟩ fun d s1 => SlAt s1.env i fun sl => Sm (dgD sl.bor d) fun y => Q y s1 := by
  constructor
  · rintro ⟨a, s', e, q⟩
    unfold eDgO at e
    split at e
    · rename_i sl0 h0
      refine ⟨sl0, h0, ?_⟩
      obtain ⟨d, s1, e1, e2⟩ := bnd_some e
      refine ⟨d, s1, e1, ?_⟩
      split at e2
      · rename_i sl h1
        split at e2
        · rename_i y hy; cases e2; exact ⟨sl, h1, _, hy, q⟩
        · cases e2
      · cases e2
    · cases e
  · rintro ⟨sl0, h0, d, s1, e1, sl, h1, y, hy, q⟩
    refine ⟨y, s1, ?_, q⟩
    unfold eDgO
    rw [show (⟨env, c⟩ : S).env[i]? = some (some sl0) from h0]
    refine (bnd_eq e1).trans ?_
    show (match s1.env[i]? with | some (some sl) => (match dgD sl.bor d with | some y => some (y, s1) | none => none) | _ => none) = _
    rw [h1]
    show (match dgD sl.bor d with | some y => some (y, s1) | none => none) = _
    rw [hy]
def Own2At (env : List (Option Sl)) (i : Nat) (P : Prop) (_ : Ph P := .mk) : Prop := (∃ sl : Sl, env[i]? = some (some sl) ∧ ((∃ ks ds, sl = .ownK ks ds) ∨ ∃ ks ds, sl = .ownT ks ds)) ∧ P
theorem own2_K {ks : List Key} {ds : List D} {r : List (Option Sl)} {P : Prop} : Own2At (some (.ownK ks ds) :: r) 0 P ↔ P := by simp [Own2At]
theorem own2_T {ks : List (List Key)} {ds : List D} {r : List (Option Sl)} {P : Prop} : Own2At (some (.ownT ks ds) :: r) 0 P ↔ P := by simp [Own2At]
theorem own2_s {x : Option Sl} {r : List (Option Sl)} {i : Nat} {P : Prop} : Own2At (x :: r) (i + 1) P ↔ Own2At r i P := by unfold Own2At; simp only [List.getElem?_cons_succ]
theorem wp_here2 {i : Nat} {Q : Unit → S → Prop} : Wp (ownHere2 i) ⟨env, c⟩ Q ↔ Own2At env i (Q () ⟨env, c⟩) := by
  constructor
  · rintro ⟨a, s', e, q⟩
    unfold ownHere2 at e
    split at e
    · rename_i hd; cases e; exact ⟨⟨_, hd, .inl ⟨_, _, rfl⟩⟩, q⟩
    · rename_i hd; cases e; exact ⟨⟨_, hd, .inr ⟨_, _, rfl⟩⟩, q⟩
    · cases e
  · rintro ⟨⟨sl, h, ⟨ks, ds, rfl⟩ | ⟨ks, ds, rfl⟩⟩, q⟩
    · exact ⟨(), _, by unfold ownHere2; rw [h], q⟩
    · exact ⟨(), _, by unfold ownHere2; rw [h], q⟩
def PutAt (env : List (Option Sl)) (i : Nat) (k d : D) (P : List (Option Sl) → Prop) (_ : Ph P := .mk) : Prop :=
  (∃ ks ds x, env[i]? = some (some (.ownK ks ds)) ∧ dKey k = some x ∧ ks.length < 16777216 ∧ P (env.set i (some (.ownK (kPutK ks x) (kPutD ks ds x d))))) ∨
  (∃ ks ds x, env[i]? = some (some (.ownT ks ds)) ∧ dKeys k = some x ∧ ks.length < 16777216 ∧ P (env.set i (some (.ownT (kPutK ks x) (kPutD ks ds x d)))))
theorem wp_putD {i : Nat} {k d : D} {Q : Unit → S → Prop} : Wp (putD i k d) ⟨env, c⟩ Q ↔ PutAt env i k d fun e => Q () ⟨e, c⟩ := by
  have hsz : sizeLine = 16777216 := sizeLine_eq
  constructor
  · rintro ⟨a, s', e, q⟩
    unfold putD at e
    split at e
    · rename_i ks ds h
      split at e
      · rename_i x hx
        split at e
        · rename_i hl; cases e; exact .inl ⟨ks, ds, x, h, hx, by rw [← hsz]; exact hl, q⟩
        · cases e
      · cases e
    · rename_i ks ds h
      split at e
      · rename_i x hx
        split at e
        · rename_i hl; cases e; exact .inr ⟨ks, ds, x, h, hx, by rw [← hsz]; exact hl, q⟩
        · cases e
      · cases e
    · cases e
  · rintro (⟨ks, ds, x, h, hx, hl, q⟩ | ⟨ks, ds, x, h, hx, hl, q⟩)
    · refine ⟨(), _, ?_, q⟩
      unfold putD
      rw [h]
      show (match dKey k with | some x => if ks.length < sizeLine then some ((), (⟨env.set i (some (.ownK (kPutK ks x) (kPutD ks ds x d))), c⟩ : S)) else none | none => none) = _
      rw [hx]
      show (if ks.length < sizeLine then some ((), (⟨env.set i (some (.ownK (kPutK ks x) (kPutD ks ds x d))), c⟩ : S)) else none) = _
      rw [if_pos (by rw [hsz]; exact hl)]
    · refine ⟨(), _, ?_, q⟩
      unfold putD
      rw [h]
      show (match dKeys k with | some x => if ks.length < sizeLine then some ((), (⟨env.set i (some (.ownT (kPutK ks x) (kPutD ks ds x d))), c⟩ : S)) else none | none => none) = _
      rw [hx]
      show (if ks.length < sizeLine then some ((), (⟨env.set i (some (.ownT (kPutK ks x) (kPutD ks ds x d))), c⟩ : S)) else none) = _
      rw [if_pos (by rw [hsz]; exact hl)]
theorem putAt_s {x : Option Sl} {r : List (Option Sl)} {i : Nat} {k d : D} {P : List (Option Sl) → Prop} : PutAt (x :: r) (i + 1) k d P ↔ PutAt r i k d fun r' => P (x :: r') := by
  unfold PutAt; simp only [List.getElem?_cons_succ, List.set_cons_succ]
theorem putAt_K {ks : List Key} {ds : List D} {r : List (Option Sl)} {k d : D} {P : List (Option Sl) → Prop} : PutAt (some (.ownK ks ds) :: r) 0 k d P ↔ Sm (dKey k) fun x => ks.length < 16777216 ∧ P (some (.ownK (kPutK ks x) (kPutD ks ds x d)) :: r) := by
  constructor
  · rintro (⟨ks, ds, x, h, hx, hl, q⟩ | ⟨ks, ds, x, h, hx, hl, q⟩)
    · cases h; exact ⟨x, hx, hl, q⟩
    · cases h
  · rintro ⟨x, hx, hl, q⟩; exact .inl ⟨ks, ds, x, rfl, hx, hl, q⟩
theorem putAt_T {ks : List (List Key)} {ds : List D} {r : List (Option Sl)} {k d : D} {P : List (Option Sl) → Prop} : PutAt (some (.ownT ks ds) :: r) 0 k d P ↔ Sm (dKeys k) fun x => ks.length < 16777216 ∧ P (some (.ownT (kPutK ks x) (kPutD ks ds x d)) :: r) := by
  constructor
  · rintro (⟨ks, ds, x, h, hx, hl, q⟩ | ⟨ks, ds, x, h, hx, hl, q⟩)
    · cases h
    · cases h; exact ⟨x, hx, hl, q⟩
  · rintro ⟨x, hx, hl, q⟩; exact .inr ⟨ks, ds, x, rfl, hx, hl, q⟩
theorem wp_sPutD {i : Nat} {mv mk : M D} {Q : Out → S → Prop} : Wp (sPutD i mv mk) s Q ↔ Wp mv s fun d s1 => Wp (ownHere2 i) s1 fun _ s2 => Wp mk s2 fun k s3 => Wp (putD i k d) s3 fun _ s4 => Q .nx s4 :=
  wp_bnd.trans (wp_cg fun _ _ => wp_bnd.trans (wp_cg fun _ _ => wp_bnd.trans (wp_cg fun _ _ => wp_bnd.trans (wp_cg fun _ _ => wp_ret))))
theorem sm_keyI {i : Int} {P : Key → Prop} : Sm (dKey (.int i)) P ↔ P (.inl i) := sm_some
theorem sm_keyS {i : Str} {P : Key → Prop} : Sm (dKey (.str i)) P ↔ P (.inr i) := sm_some
theorem dKeyL_ints : ∀ xs : List Int, dKeyL (xs.map D.int) = some (xs.map Sum.inl)
  | [] => rfl
  | x :: r => by rw [List.map_cons, dKeyL, dKeyL_ints r]; rfl
theorem sm_keysT {xs : List Int} {P : List Key → Prop} : Sm (dKeys (.tup (xs.map D.int))) P ↔ P (xs.map Sum.inl) := sm_eq (dKeyL_ints xs)
theorem sm_dgK {ks : List Key} {ds : List D} {k : D} {P : D → Prop} : Sm (dgD (.dct ks ds) k) P ↔ Sm (dKey k) fun x => Sm (kGet ks ds x) P := sm_bind
theorem sm_dgT {ks : List (List Key)} {ds : List D} {k : D} {P : D → Prop} : Sm (dgD (.dtt ks ds) k) P ↔ Sm (dKeys k) fun x => Sm (kGet ks ds x) P := sm_bind
theorem sm_dninK {ks : List Key} {ds : List D} {k : D} {P : D → Prop} : Sm (dninD k (.dct ks ds)) P ↔ Sm (dKey k) fun x => P (.bl (!(kGet ks ds x).isSome)) := sm_map
theorem sm_dninT {ks : List (List Key)} {ds : List D} {k : D} {P : D → Prop} : Sm (dninD k (.dtt ks ds)) P ↔ Sm (dKeys k) fun x => P (.bl (!(kGet ks ds x).isSome)) := sm_map
def DctAt (env : List (Option Sl)) (i : Nat) (P : List D → Prop) (_ : Ph P := .mk) : Prop := (∃ ks ds, env[i]? = some (some (.val (.dct ks ds))) ∧ P (ks.map keyD)) ∨ (∃ ks ds, env[i]? = some (some (.val (.dtt ks ds))) ∧ P (ks.map keysD))
theorem dctAt_K {ks : List Key} {ds : List D} {r : List (Option Sl)} {P : List D → Prop} : DctAt (some (.val (.dct ks ds)) :: r) 0 P ↔ P (ks.map keyD) := by
  constructor
  · rintro (⟨_, _, e, p⟩ | ⟨_, _, e, p⟩) <;> cases e; exact p
  · exact fun p => .inl ⟨ks, ds, rfl, p⟩
theorem dctAt_T {ks : List (List Key)} {ds : List D} {r : List (Option Sl)} {P : List D → Prop} : DctAt (some (.val (.dtt ks ds)) :: r) 0 P ↔ P (ks.map keysD) := by
  constructor
  · rintro (⟨_, _, e, p⟩ | ⟨_, _, e, p⟩) <;> cases e; exact p
  · exact fun p => .inr ⟨ks, ds, rfl, p⟩
theorem dctAt_s {x : Option Sl} {r : List (Option Sl)} {i : Nat} {P : List D → Prop} : DctAt (x :: r) (i + 1) P ↔ DctAt r i P := by unfold DctAt; simp only [List.getElem?_cons_succ]
theorem wp_forD {i : Nat} {g : D → M Unit} {b : M Out} {Q : Out → S → Prop} : Wp (sForD i g b) ⟨env, c⟩ Q ↔ DctAt env i fun ds => Wp (forM g b ds) ⟨env, c⟩ Q := by
  constructor
  · rintro ⟨o, s', e, q⟩
    unfold sForD at e
    split at e
    · rename_i h; exact .inl ⟨_, _, h, _, _, e, q⟩
    · rename_i h; exact .inr ⟨_, _, h, _, _, e, q⟩
    · cases e
  · rintro (⟨_, _, h, o, s', e, q⟩ | ⟨_, _, h, o, s', e, q⟩)
    · exact ⟨o, s', by unfold sForD; rw [h]; exact e, q⟩
    · exact ⟨o, s', by unfold sForD; rw [h]; exact e, q⟩
end
section
variable {α : Type}
def dks (l : List (Int × α)) : List Key := l.map fun p => .inl p.1
def dvs (f : α → D) (l : List (Int × α)) : List D := l.map fun p => f p.2
def lkp : List (Int × α) → Int → Option α
  | [], _ => none
  | p :: r, k => if p.1 = k then some p.2 else lkp r k
def stp : List (Int × α) → Int → α → List (Int × α)
  | [], k, v => [(k, v)]
  | p :: r, k, v => if p.1 = k then (k, v) :: r else p :: stp r k v
theorem by_contra' {p : Prop} (h : ¬ p → False) : p := Classical.byContradiction h
theorem kGet_lkp (f : α → D) (l : List (Int × α)) (k : Int) : kGet (dks l) (dvs f l) (.inl k) = (lkp l k).map f := by
  induction l with
  | nil => rfl
  | cons p r ih =>
    show (if (Sum.inl p.1 : Key) = Sum.inl k then some (f p.2) else kGet (dks r) (dvs f r) (.inl k)) = _
    unfold lkp
    by_cases h : p.1 = k
    · rw [if_pos (by rw [h]), if_pos h]; rfl
    · rw [if_neg (fun z => h (Sum.inl.inj z)), if_neg h]; exact ih
theorem lkp_none {l : List (Int × α)} {k : Int} : lkp l k = none ↔ k ∉ l.map (·.1) := by
  induction l with
  | nil => simp [lkp]
  | cons p r ih =>
    unfold lkp
    by_cases h : p.1 = k
    · simp [h]
    · have : ¬ k = p.1 := fun z => h z.symm
      simp [h, ih, this]
theorem mem_dks {l : List (Int × α)} {k : Int} : (.inl k : Key) ∈ dks l ↔ k ∈ l.map (·.1) := by
  unfold dks; simp
theorem stp_new {l : List (Int × α)} {k : Int} {v : α} (h : k ∉ l.map (·.1)) : stp l k v = l ++ [(k, v)] := by
  induction l with
  | nil => rfl
  | cons p r ih =>
    simp at h
    unfold stp
    rw [if_neg (fun z => h.1 z.symm), ih (by simpa using h.2)]; rfl
theorem put_new {l : List (Int × α)} {k : Int} {v : α} {f : α → D} (h : k ∉ l.map (·.1)) : kPutK (dks l) (.inl k) = dks (l ++ [(k, v)]) ∧ kPutD (dks l) (dvs f l) (.inl k) (f v) = dvs f (l ++ [(k, v)]) := by
  have : ¬ (.inl k : Key) ∈ dks l := fun z => h (mem_dks.mp z)
  unfold kPutK kPutD
  rw [if_neg this, if_neg this]
  simp [dks, dvs]
theorem dctAt_KI {l : List (Int × α)} {ds : List D} {r : List (Option Sl)} {P : List D → Prop} : DctAt (some (.val (.dct (dks l) ds)) :: r) 0 P ↔ P ((l.map (·.1)).map D.int) := by
  rw [dctAt_K]; unfold dks; rw [List.map_map, List.map_map]; rfl
theorem put_stp {l : List (Int × α)} {k : Int} {v : α} {f : α → D} (hn : (l.map (·.1)).Nodup) : kPutK (dks l) (.inl k) = dks (stp l k v) ∧ kPutD (dks l) (dvs f l) (.inl k) (f v) = dvs f (stp l k v) := by
  by_cases h : k ∈ l.map (·.1)
  · have hk : (.inl k : Key) ∈ dks l := mem_dks.mpr h
    unfold kPutK kPutD
    rw [if_pos hk, if_pos hk]
    clear hk
    induction l with
    | nil => simp at h
    | cons p r ih =>
      rw [List.map_cons, List.nodup_cons] at hn
      by_cases e : p.1 = k
      · subst e
        have : stp (p :: r) p.1 v = (p.1, v) :: r := by unfold stp; rw [if_pos rfl]
        rw [this]
        refine ⟨rfl, ?_⟩
        show (if (Sum.inl p.1 : Key) = Sum.inl p.1 then f v else f p.2) :: kRep (dks r) (dvs f r) (.inl p.1) (f v) = f v :: dvs f r
        rw [if_pos rfl]
        congr 1
        have nin : p.1 ∉ r.map (·.1) := hn.1
        clear ih h hn this
        induction r with
        | nil => rfl
        | cons q t ih =>
          simp at nin
          show (if (Sum.inl q.1 : Key) = Sum.inl p.1 then f v else f q.2) :: kRep (dks t) (dvs f t) (.inl p.1) (f v) = f q.2 :: dvs f t
          rw [if_neg (fun z => nin.1 (Sum.inl.inj z).symm), ih (by simpa using nin.2)]
      · have h' : k ∈ r.map (·.1) := by
          rw [List.map_cons] at h
          rcases List.mem_cons.mp h with z | z
          · exact absurd z.symm e
          · exact z
        have : stp (p :: r) k v = p :: stp r k v := by
          show (if p.1 = k then _ else _) = _
          rw [if_neg e]
        rw [this]
        obtain ⟨i1, i2⟩ := ih hn.2 h'
        refine ⟨by show Sum.inl p.1 :: dks r = Sum.inl p.1 :: dks (stp r k v); rw [← i1], ?_⟩
        show (if (Sum.inl p.1 : Key) = Sum.inl k then f v else f p.2) :: kRep (dks r) (dvs f r) (.inl k) (f v) = f p.2 :: dvs f (stp r k v)
        rw [if_neg (fun z => e (Sum.inl.inj z)), i2]
  · rw [stp_new h]; exact put_new h
theorem lkp_stp {l : List (Int × α)} {k j : Int} {v : α} : lkp (stp l k v) j = if j = k then some v else lkp l j := by
  induction l with
  | nil =>
    show (if k = j then some v else none) = _
    by_cases h : j = k
    · rw [if_pos h, if_pos h.symm]
    · rw [if_neg h, if_neg (fun z => h z.symm)]; rfl
  | cons p r ih =>
    unfold stp
    by_cases e : p.1 = k
    · rw [if_pos e]
      show (if k = j then some v else lkp r j) = _
      by_cases h : j = k
      · rw [if_pos h, if_pos h.symm]
      · rw [if_neg h, if_neg (fun z => h z.symm)]
        show _ = if p.1 = j then some p.2 else lkp r j
        rw [if_neg (fun z => h (z.symm.trans e))]
    · rw [if_neg e]
      show (if p.1 = j then some p.2 else lkp (stp r k v) j) = _
      rw [ih]
      show _ = if j = k then some v else if p.1 = j then some p.2 else lkp r j
      by_cases h : j = k
      · subst h; rw [if_neg e, if_pos rfl, if_pos rfl]
      · rw [if_neg h, if_neg h]
theorem stp_keys {l : List (Int × α)} {k j : Int} {v : α} : j ∈ (stp l k v).map (·.1) ↔ j = k ∨ j ∈ l.map (·.1) := by
  have h1 := lkp_none (l := stp l k v) (k := j)
  rw [lkp_stp] at h1
  by_cases h : j = k
  · rw [if_pos h] at h1
    constructor
    · exact fun _ => .inl h
    · intro _
      exact by_contra' fun z => by have := h1.mpr z; cases this
  · rw [if_neg h, lkp_none] at h1
    constructor
    · intro z
      exact .inr (by_contra' fun y => h1.mp y z)
    · rintro (z | z)
      · exact absurd z h
      · exact by_contra' fun y => h1.mpr y z
theorem stp_nodup {l : List (Int × α)} {k : Int} {v : α} (h : (l.map (·.1)).Nodup) : ((stp l k v).map (·.1)).Nodup := by
  induction l with
  | nil => simp [stp]
  | cons p r ih =>
    rw [List.map_cons, List.nodup_cons] at h
    unfold stp
    by_cases e : p.1 = k
    · rw [if_pos e, List.map_cons, List.nodup_cons]
      exact ⟨by rw [← e]; exact h.1, h.2⟩
    · rw [if_neg e, List.map_cons, List.nodup_cons]
      refine ⟨fun z => ?_, ih h.2⟩
      rcases stp_keys.mp z with y | y
      · exact e y
      · exact h.1 y
theorem lkp_isSome {l : List (Int × α)} {k : Int} : (lkp l k).isSome = decide (k ∈ l.map (·.1)) := by
  cases h : lkp l k with
  | none => rw [decide_eq_false (lkp_none.mp h)]; rfl
  | some v => rw [decide_eq_true (by_contra' fun z => by rw [lkp_none.mpr z] at h; cases h)]; rfl
end
theorem okN_ints (xs : List Int) : (D.lst (xs.map D.int)).okN 1 := D.okN_lst (n := 0) fun d hd => by
  obtain ⟨x, _, rfl⟩ := List.mem_map.mp hd
  exact D.okN_int x
theorem okN_intsT (xs : List Int) : (D.tup (xs.map D.int)).okN 1 := D.okN_tup (n := 0) fun d hd => by
  obtain ⟨x, _, rfl⟩ := List.mem_map.mp hd
  exact D.okN_int x
theorem map_int_inj {a b : List Int} : a.map D.int = b.map D.int ↔ a = b := by
  constructor
  · intro h
    induction a generalizing b with
    | nil => cases b with
      | nil => rfl
      | cons y t => simp at h
    | cons x r ih => cases b with
      | nil => simp at h
      | cons y t =>
        rw [List.map_cons, List.map_cons] at h
        injection h with h1 h2
        injection h1 with h1
        rw [h1, ih h2]
  · exact fun h => by rw [h]
theorem sm_eqNilI {xs : List Int} {P : D → Prop} : Sm (eqD (.lst (xs.map D.int)) (.lst [])) P ↔ P (.bl (decide (xs = []))) := sm_eqG (okN_ints xs).ok (D.okN_lst (n := 0) (ds := []) (by simp)).ok (by simp)
theorem sm_neNilI {xs : List Int} {P : D → Prop} : Sm (neD (.lst (xs.map D.int)) (.lst [])) P ↔ P (.bl (!decide (xs = []))) := sm_neG (okN_ints xs).ok (D.okN_lst (n := 0) (ds := []) (by simp)).ok (by simp)
theorem sm_eqIL {xs ys : List Int} {P : D → Prop} : Sm (eqD (.lst (xs.map D.int)) (.lst (ys.map D.int))) P ↔ P (.bl (decide (xs = ys))) := sm_eqG (okN_ints xs).ok (okN_ints ys).ok (by rw [D.lst.injEq, map_int_inj])
theorem sm_neIL {xs ys : List Int} {P : D → Prop} : Sm (neD (.lst (xs.map D.int)) (.lst (ys.map D.int))) P ↔ P (.bl (!decide (xs = ys))) := sm_neG (okN_ints xs).ok (okN_ints ys).ok (by rw [D.lst.injEq, map_int_inj])
theorem sm_eqIT {xs ys : List Int} {P : D → Prop} : Sm (eqD (.tup (xs.map D.int)) (.tup (ys.map D.int))) P ↔ P (.bl (decide (xs = ys))) := sm_eqG (okN_intsT xs).ok (okN_intsT ys).ok (by rw [D.tup.injEq, map_int_inj])
theorem sm_neIT {xs ys : List Int} {P : D → Prop} : Sm (neD (.tup (xs.map D.int)) (.tup (ys.map D.int))) P ↔ P (.bl (!decide (xs = ys))) := sm_neG (okN_intsT xs).ok (okN_intsT ys).ok (by rw [D.tup.injEq, map_int_inj])
theorem sm_neS {d : D} {P : D → Prop} (h : d.ok) : Sm (neD d d) P ↔ P (.bl false) := sm_eq (neD_same h)
theorem out_nx : (Out.nx = Out.nx) ↔ True := by simp
end GH

namespace GH
open PySem PySem.Spec PyProof.Rows L2

theorem le_int (a b : Int) : PySem.W.dataLe false D.py (.int a) (.int b) = decide (a ≤ b) := by
  have e : PySem.W.dataLe false D.py (.int a) (.int b) = !(PyProof.Rows.lexLt PyProof.Rows.itemOrd [.inl b] [.inl a]) := by
    simp [PySem.W.dataLe, PySem.W.sortLe, D.py, PySem.W.keyToks]
  rw [e]
  have : PyProof.Rows.lexLt PyProof.Rows.itemOrd [.inl b] [.inl a] = (decide (b < a) || (!decide (a < b) && false)) := by
    rw [PyProof.Rows.lex_cons]; rfl
  rw [this]
  by_cases h : a ≤ b
  · have : ¬ b < a := by omega
    simp [h, this]
  · have : b < a := by omega
    simp [h, this]
def leI (a b : Int) : Bool := decide (a ≤ b)
def isort (xs : List Int) : List Int := xs.mergeSort leI
theorem isort_perm (xs : List Int) : (isort xs).Perm xs := List.mergeSort_perm ..
theorem isort_le (xs : List Int) : (isort xs).Pairwise (· ≤ ·) := by
  have := List.pairwise_mergeSort (le := leI) (fun a b c h1 h2 => by simp [leI] at *; omega) (fun a b => by simp [leI]; omega) xs
  exact this.imp fun h => by simpa [leI] using h
theorem isort_eq {xs ys : List Int} (h : ys.Perm xs) (p : ys.Pairwise (· ≤ ·)) : isort xs = ys :=
  List.Perm.eq_of_pairwise (fun a b _ _ h1 h2 => by omega) (isort_le xs) p ((isort_perm xs).trans h.symm)
theorem alike_int (a b : Int) : PySem.W.alike (.int a) (.int b) = true := by simp [PySem.W.alike]
theorem okSort_int (xs : List Int) : okSort (D.pys (xs.map D.int)) = true := by
  have mem : ∀ p ∈ D.pys (xs.map D.int), ∃ x : Int, p = .int x := fun p hp => by
    rw [pys_map, List.map_map] at hp
    obtain ⟨v, hv, rfl⟩ := List.mem_map.mp hp
    exact ⟨v, rfl⟩
  unfold okSort
  simp only [Bool.and_eq_true, Bool.or_eq_true]
  refine ⟨⟨⟨List.all_eq_true.mpr fun a ha => List.all_eq_true.mpr fun b hb => ?_, .inr (List.all_eq_true.mpr fun a ha => ?_)⟩, List.all_eq_true.mpr fun a ha => ?_⟩, ?_⟩
  · obtain ⟨v, rfl⟩ := mem a ha
    obtain ⟨u, rfl⟩ := mem b hb
    exact alike_int v u
  · obtain ⟨v, rfl⟩ := mem a ha; rfl
  · obtain ⟨v, rfl⟩ := mem a ha; simp [PyData.depth]
  · exact D.niceAll_can _ (niceAll_of fun d hd => by
      obtain ⟨x, _, rfl⟩ := List.mem_map.mp hd; rfl)
theorem sm_srtI {xs : List Int} {P : List D → Prop} : Sm (srtG [.lst (xs.map D.int)]) P ↔ xs.length ≤ 16777216 ∧ P ((isort xs).map D.int) := by
  show Sm (if okSort (D.pys (xs.map D.int)) = true ∧ (xs.map D.int).length ≤ sizeLine then some ((xs.map D.int).mergeSort (PySem.W.dataLe false D.py)) else none) P ↔ _
  rw [sm_ite, sm_some, sizeLine_eq, List.length_map]
  have : (xs.map D.int).mergeSort (PySem.W.dataLe false D.py) = (isort xs).map D.int :=
    (List.map_mergeSort fun a _ b _ => (le_int a b).symm).symm
  rw [this]
  simp [okSort_int]

def ltT : List Int → List Int → Bool
  | [], [] => false
  | [], _ :: _ => true
  | _ :: _, [] => false
  | x :: r, y :: t => decide (x < y) || (decide (x = y) && ltT r t)
theorem lex_ints : ∀ (a b : List Int), PyProof.Rows.lexLt PyProof.Rows.itemOrd (PySem.W.keyToksAll (D.pys (a.map D.int))) (PySem.W.keyToksAll (D.pys (b.map D.int))) = ltT a b
  | [], [] => by
    simp only [List.map_nil, D.pys, PySem.W.keyToksAll]
    exact PyProof.Rows.lex_irrefl _
  | [], y :: t => by
    simp only [List.map_nil, List.map_cons, D.pys, PySem.W.keyToksAll]
    rw [PyProof.Rows.lex_cons]; rfl
  | x :: r, [] => by
    simp only [List.map_nil, List.map_cons, D.pys, PySem.W.keyToksAll]
    rw [PyProof.Rows.lex_cons]; rfl
  | x :: r, y :: t => by
    simp only [List.map_cons, D.pys, PySem.W.keyToksAll, D.py, PySem.W.keyToks]
    rw [PyProof.Rows.lex_cons]
    show (false || (!false && PyProof.Rows.lexLt PyProof.Rows.itemOrd (Sum.inl x :: PySem.W.keyToksAll (D.pys (r.map D.int))) (Sum.inl y :: PySem.W.keyToksAll (D.pys (t.map D.int))))) = _
    rw [PyProof.Rows.lex_cons, lex_ints r t]
    show (false || (!false && (decide (x < y) || (!decide (y < x) && ltT r t)))) = (decide (x < y) || (decide (x = y) && ltT r t))
    by_cases h : x < y
    · simp [h]
    · by_cases h2 : x = y
      · subst h2; simp
      · have : y < x := by omega
        simp [h, h2, this]
def leT (a b : List Int) : Bool := !ltT b a
def eT (v : List Int) : D := .tup (v.map D.int)
theorem le_tup (a b : List Int) : PySem.W.dataLe false D.py (eT a) (eT b) = leT a b := by
  have e : PySem.W.dataLe false D.py (eT a) (eT b) = !(PyProof.Rows.lexLt PyProof.Rows.itemOrd (PySem.W.keyToksAll (D.pys (b.map D.int))) (PySem.W.keyToksAll (D.pys (a.map D.int)))) := by
    simp [PySem.W.dataLe, PySem.W.sortLe, D.py, PySem.W.keyToks, eT]
  rw [e, lex_ints]; rfl
theorem ltT_irr : ∀ a : List Int, ltT a a = false
  | [] => rfl
  | x :: r => by simp [ltT, ltT_irr r]
theorem ltT_tri : ∀ a b : List Int, ltT a b = false → ltT b a = false → a = b
  | [], [], _, _ => rfl
  | [], _ :: _, h, _ => by simp [ltT] at h
  | _ :: _, [], _, h => by simp [ltT] at h
  | x :: r, y :: t, h1, h2 => by
    simp [ltT] at h1 h2
    have : x = y := by omega
    subst this
    rw [ltT_tri r t (h1.2 rfl) (h2.2 rfl)]
theorem ltT_trans : ∀ a b c : List Int, ltT a b = true → ltT b c = true → ltT a c = true
  | [], [], _, h, _ => by simp [ltT] at h
  | [], _ :: _, [], _, h => by simp [ltT] at h
  | [], _ :: _, _ :: _, _, _ => rfl
  | _ :: _, [], _, h, _ => by simp [ltT] at h
  | _ :: _, _ :: _, [], _, h => by simp [ltT] at h
  | x :: r, y :: t, z :: u, h1, h2 => by
    simp [ltT] at h1 h2 ⊢
    rcases h1 with h1 | ⟨rfl, h1⟩
    · rcases h2 with h2 | ⟨rfl, h2⟩
      · exact .inl (by omega)
      · exact .inl h1
    · rcases h2 with h2 | ⟨rfl, h2⟩
      · exact .inl h2
      · exact .inr ⟨rfl, ltT_trans r t u h1 h2⟩
theorem ltT_total (a b : List Int) : ltT a b = true ∨ a = b ∨ ltT b a = true := by
  cases h : ltT a b with
  | true => exact .inl rfl
  | false =>
    cases h2 : ltT b a with
    | true => exact .inr (.inr rfl)
    | false => exact .inr (.inl (ltT_tri a b h h2))
theorem leT_trans (a b c : List Int) (h1 : leT a b = true) (h2 : leT b c = true) : leT a c = true := by
  simp only [leT, Bool.not_eq_true'] at *
  cases h : ltT c a with
  | false => rfl
  | true =>
    rcases ltT_total a b with z | z | z
    · have := ltT_trans c a b h z; rw [h2] at this; cases this
    · subst z; rw [h2] at h; cases h
    · rw [h1] at z; cases z
theorem leT_total (a b : List Int) : (leT a b || leT b a) = true := by
  simp only [leT]
  cases h : ltT b a with
  | false => rfl
  | true =>
    cases h2 : ltT a b with
    | false => rfl
    | true => have := ltT_trans a b a h2 h; rw [ltT_irr] at this; cases this
theorem leT_anti (a b : List Int) (h1 : leT a b = true) (h2 : leT b a = true) : a = b := by
  simp only [leT, Bool.not_eq_true'] at *
  exact ltT_tri a b h2 h1
def tsort (xs : List (List Int)) : List (List Int) := xs.mergeSort leT
theorem tsort_perm (xs : List (List Int)) : (tsort xs).Perm xs := List.mergeSort_perm ..
theorem tsort_le (xs : List (List Int)) : (tsort xs).Pairwise (fun a b => leT a b = true) := List.pairwise_mergeSort leT_trans leT_total xs
theorem sm_srtT {xs : List (List Int)} {P : List D → Prop} (h : ∀ v ∈ xs, v ≠ []) : Sm (srtG [.lst (xs.map eT)]) P ↔ xs.length ≤ 16777216 ∧ P ((tsort xs).map eT) := by
  show Sm (if okSort (D.pys (xs.map eT)) = true ∧ (xs.map eT).length ≤ sizeLine then some ((xs.map eT).mergeSort (PySem.W.dataLe false D.py)) else none) P ↔ _
  rw [sm_ite, sm_some, sizeLine_eq, List.length_map]
  have : (xs.map eT).mergeSort (PySem.W.dataLe false D.py) = (tsort xs).map eT :=
    (List.map_mergeSort fun a _ b _ => (le_tup a b).symm).symm
  rw [this]
  have ok := okSort_ints xs h
  have : (xs.map eT) = xs.map fun v => D.tup (v.map D.int) := rfl
  rw [this, ok]
  simp
end GH

namespace GH
def IsV (x : Option Sl) : Prop := ∃ o, x = jv o
def AllV : List (Option Sl) → Prop
  | [] => True
  | x :: r => IsV x ∧ AllV r
theorem isV_none : IsV none ↔ True := ⟨fun _ => trivial, fun _ => ⟨none, rfl⟩⟩
theorem isV_val {d : D} : IsV (some (.val d)) ↔ True := ⟨fun _ => trivial, fun _ => ⟨some d, rfl⟩⟩
theorem isV_jv {d : Option D} : IsV (jv d) ↔ True := ⟨fun _ => trivial, fun _ => ⟨d, rfl⟩⟩
theorem allV_nil : AllV [] ↔ True := Iff.rfl
theorem allV_cons {x : Option Sl} {r : List (Option Sl)} : AllV (x :: r) ↔ IsV x ∧ AllV r := Iff.rfl
theorem AllV.open_ : ∀ {e : List (Option Sl)}, AllV e → ∃ xs : List (Option D), e = xs.map jv
  | [], _ => ⟨[], rfl⟩
  | x :: r, ⟨⟨o, h⟩, h2⟩ => by
    obtain ⟨xs, e⟩ := AllV.open_ h2
    exact ⟨o :: xs, by rw [h, e]; rfl⟩
def LawI (n : Nat) (s : S) : Prop := ∃ e, s.env = none :: some (.val .src) :: e ∧ e.length = n ∧ AllV e
theorem LawI.open_ {n : Nat} {s : S} (h : LawI n s) : ∃ (xs : List (Option D)) (c : Src), s = ⟨none :: some (.val .src) :: xs.map jv, c⟩ ∧ xs.length = n := by
  obtain ⟨e, h1, h2, h3⟩ := h
  obtain ⟨xs, rfl⟩ := h3.open_
  exact ⟨xs, s.src, by cases s; simp only at h1; rw [h1], by simpa using h2⟩
theorem LawI.of {n : Nat} {e : List (Option Sl)} {c : Src} (h : e.length = n) (h2 : AllV e) : LawI n ⟨none :: some (.val .src) :: e, c⟩ := ⟨e, rfl, h, h2⟩
theorem uncons {α : Type} {n : Nat} {xs : List α} (h : xs.length = n + 1) : ∃ a r, xs = a :: r ∧ r.length = n := by
  cases xs with
  | nil => simp at h
  | cons a r => exact ⟨a, r, rfl, by simpa using h⟩
theorem unnil {α : Type} {xs : List α} (h : xs.length = 0) : xs = [] := List.eq_nil_of_length_eq_zero h
theorem allV_nones : ∀ n, AllV (List.replicate n none)
  | 0 => trivial
  | n + 1 => ⟨⟨none, rfl⟩, allV_nones n⟩
theorem lawI_start (n : Nat) (c : Src) : LawI n ⟨lawEnv (n + 2) 1, c⟩ := by
  refine ⟨List.replicate n none, ?_, by simp, allV_nones n⟩
  unfold lawEnv
  rfl
theorem law_ok {n : Nat} {m : M Out} {c : Src} (h : Wp m ⟨lawEnv n 1, c⟩ fun o _ => o = .ret (.bl true)) : ∃ s', m ⟨lawEnv n 1, c⟩ = some (.ret (.bl true), s') := by
  obtain ⟨o, s', e, rfl⟩ := h
  exact ⟨s', e⟩
theorem at_snoc {α : Type} {xs : List α} {x : α} {P : α → Prop} : Sm (L2.atI (xs ++ [x]) (-1)) P ↔ P x := by
  refine sm_eq (atI_neg (by decide) (by simp; omega) ?_)
  rw [show (-1 + ((xs ++ [x]).length : Int)).toNat = xs.length by simp <;> omega]
  simp
theorem ok_ints3 (a b c : Int) : (D.tup [.int a, .int b, .int c]).ok := (D.okN_tup (n := 0) fun d hd => by
  simp at hd
  rcases hd with rfl | rfl | rfl <;> exact D.okN_int _).ok
theorem ok_ints2 (a b : Int) : (D.tup [.int a, .int b]).ok := (D.okN_tup (n := 0) fun d hd => by
  simp at hd
  rcases hd with rfl | rfl <;> exact D.okN_int _).ok
theorem sm_ne3 {a b c : Int} {P : D → Prop} : Sm (neD (.tup [.int a, .int b, .int c]) (.tup [.int a, .int b, .int c])) P ↔ P (.bl false) := sm_neS (ok_ints3 a b c)
theorem sm_ne2 {a b : Int} {P : D → Prop} : Sm (neD (.tup [.int a, .int b]) (.tup [.int a, .int b])) P ↔ P (.bl false) := sm_neS (ok_ints2 a b)
theorem str_ok {s : PySem.Str} (h : PySem.PyData.strOk s = true) : (D.str s).ok := ⟨by simp only [D.nice]; exact h, by simp [D.py, PySem.PyData.depth]⟩
end GH

namespace GH
open PySem PySem.Spec PyProof.Rows L2

section
variable {X : Cx} {a e : Expr} {pos p : Pos} {ma m : M D}
def lSl (m : M D) (lo hi : M (Option Int)) : M (List D) := bnd m fun d => bnd lo fun l => bnd hi fun h => lift ((lstD d).map fun ds => cutL ds l h)
theorem l_slice {lo hi : Option Expr} {ml mh : M (Option Int)} {p2 : Pos} (ha : SE X a ma) (hl : SO X lo ml) (hh : SO X hi mh) : SL X (.Subscript a (.Slice lo hi none p2) pos) (lSl ma ml mh) :=
  ⟨fun B => PE.imp (pe_slice sl_list (ha.pe B) (hl.po B) (hh.po B)) fun σ H Q ⟨s, d, s', k, e, q⟩ => by
    refine tI.bind k e fun dx s1 v H1 h1 e1 k1 ev1 r1 => ?_
    obtain ⟨l, s2, e2, e3⟩ := bnd_some e1
    refine ⟨s1, l, s2, k1, e2, fun H2 k2 ev2 => ?_⟩
    obtain ⟨h, s3, e4, e5⟩ := bnd_some e3
    refine ⟨s2, h, s3, k2, e4, fun H3 k3 ev3 => ?_⟩
    obtain ⟨e6, rfl⟩ := lift_some e5
    obtain ⟨ds, e7, rfl⟩ := Option.map_eq_some_iff.mp e6
    cases dx <;> simp only [lstD] at e7 <;> cases e7
    obtain ⟨ad, vs, rfl, na, hA, rs⟩ := rp_lst (r1.ev (ev2.trans ev3))
    refine ⟨ad, vs, rfl, SqL.of hA, fun q' nq => ?_⟩
    obtain ⟨k4, ev4, r4⟩ := k3.newList (ds := cutL ds l h) (vs := cutV vs l h) (same_new nq) nq upd_same (by
      have hl' := rs.length
      unfold cutL cutV
      rw [hl']
      exact (rs.drop _).take _)
    exact q q' _ _ k4 ((ev1.trans (ev2.trans ev3)).trans ev4) (k3.new nq) (k3.wt.new nq) upd_same r4⟩
end

def LotsAt (p : Addr) (W : AP) (H : Hp) : List Addr → List (List D) → Prop
  | [], ls => ls = []
  | b :: bs, ls => ∃ l r vs, ls = l :: r ∧ H b = some (.lst vs) ∧ Rps p W H l vs ∧ LotsAt p W H bs r
theorem LotsAt.ev {p : Addr} {W W' : AP} {H H' : Hp} (e : Ev W H W' H') : ∀ {bs : List Addr} {ls : List (List D)}, (∀ b ∈ bs, ∀ o, H b = some o → H' b = some o) → LotsAt p W H bs ls → LotsAt p W' H' bs ls
  | [], _, _, h => h
  | b :: bs, _, hb, ⟨l, r, vs, e1, h1, h2, h3⟩ => ⟨l, r, vs, e1, hb b List.mem_cons_self _ h1, Rps.ev e _ _ h2, LotsAt.ev e (fun c hc => hb c (List.mem_cons_of_mem _ hc)) h3⟩
theorem LotsAt.empty {p : Addr} {W : AP} {H : Hp} : ∀ {bs : List Addr}, (∀ b ∈ bs, H b = some (.lst [])) → LotsAt p W H bs (bs.map fun _ => [])
  | [], _ => rfl
  | b :: bs, h => ⟨[], _, [], rfl, h b List.mem_cons_self, .nil, LotsAt.empty fun c hc => h c (List.mem_cons_of_mem _ hc)⟩
theorem LotsAt.length {p : Addr} {W : AP} {H : Hp} : ∀ {bs : List Addr} {ls : List (List D)}, LotsAt p W H bs ls → ls.length = bs.length
  | [], _, h => by rw [h]; rfl
  | b :: bs, _, ⟨l, r, vs, e1, _, _, h3⟩ => by rw [e1]; simp [h3.length]
theorem LotsAt.get {p : Addr} {W : AP} {H : Hp} : ∀ {bs : List Addr} {ls : List (List D)} {j : Nat} {l : List D}, LotsAt p W H bs ls → ls[j]? = some l → ∃ b vs, bs[j]? = some b ∧ H b = some (.lst vs) ∧ Rps p W H l vs
  | [], _, j, l, h, e => by rw [h] at e; simp at e
  | b :: bs, _, 0, l, ⟨l', r, vs, e1, h1, h2, h3⟩, e => by rw [e1] at e; simp at e; subst e; exact ⟨b, vs, rfl, h1, h2⟩
  | b :: bs, _, j + 1, l, ⟨l', r, vs, e1, h1, h2, h3⟩, e => by
    rw [e1] at e
    obtain ⟨b', vs', q1, q2, q3⟩ := h3.get (j := j) (l := l) (by simpa using e)
    exact ⟨b', vs', by simpa using q1, q2, q3⟩
theorem LotsAt.wr {p : Addr} {W : AP} {H : Hp} {b : Addr} {l' : List D} {vs' : List V} : ∀ {bs : List Addr} {ls : List (List D)} {j : Nat}, LotsAt p W H bs ls → bs.Nodup → bs[j]? = some b → (∀ c ∈ bs, W c) → Rps p W H l' vs' →
    Ev W H W (upd H b (.lst vs')) → LotsAt p W (upd H b (.lst vs')) bs (ls.set j l')
  | [], _, _, _, _, e, _, _, _ => by simp at e
  | c :: bs, _, 0, ⟨l, r, vs, e1, h1, h2, h3⟩, nd, e, hw, rl, ev => by
    simp at e; subst e; subst e1
    have nd' := List.nodup_cons.mp nd
    refine ⟨l', r, vs', rfl, upd_same, Rps.ev ev _ _ rl, h3.ev ev fun d hd o ho => ?_⟩
    rw [upd_ne (show d ≠ c from fun z => nd'.1 (z ▸ hd))]; exact ho
  | c :: bs, _, j + 1, ⟨l, r, vs, e1, h1, h2, h3⟩, nd, e, hw, rl, ev => by
    subst e1
    have nd' := List.nodup_cons.mp nd
    have hb : b ∈ bs := List.mem_of_getElem? (by simpa using e)
    refine ⟨l, r.set j l', vs, rfl, ?_, Rps.ev ev _ _ h2, LotsAt.wr h3 nd'.2 (by simpa using e) (fun d hd => hw d (List.mem_cons_of_mem _ hd)) rl ev⟩
    rw [upd_ne (show c ≠ b from fun z => nd'.1 (z ▸ hb))]; exact h1
def Bs.pinL (B : Bs) (G : List Addr) (H : Hp) : Bs := { B with Wc := fun b => B.Wc b ∨ b ∈ G, H0 := fun b => if b ∈ G then H b else B.H0 b }
theorem StOk.guard {B : Bs} {σ : Sg} {H : Hp} {s : S} {G : List Addr} (k : StOk B σ H s) (new : ∀ b ∈ G, B.H0 b = none ∧ (∃ o, H b = some o ∧ NoTup o))
    (val : ∀ (i : Nat) (d : D), s.env[i]? = some (some (.val d)) → ∃ v, σ[i]? = some (some v) ∧ Rp B.p ((B.pinL G H).W s.env σ) H d v)
    (own : ∀ (i : Nat) (sl : Sl), s.env[i]? = some (some sl) → sl.isOwn = true → ∃ a o, σ[i]? = some (some (.ref a)) ∧ H a = some o ∧ OwnR B.p ((B.pinL G H).W s.env σ) H sl o ∧ B.H0 a = none ∧ ¬ B.Wc a ∧ a ∉ G) : StOk (B.pinL G H) σ H s where
  len := k.len
  val := val
  own := fun i sl hi ho => by
    obtain ⟨a, o, h1, h2, h3, h4, h5, h6⟩ := own i sl hi ho
    refine ⟨a, o, h1, h2, h3, ?_, ?_⟩
    · show (if a ∈ G then H a else B.H0 a) = none
      rw [if_neg h6]; exact h4
    · rintro (z | z)
      · exact h5 z
      · exact h6 z
  sep := k.sep
  src := k.src
  keep := fun a o h n1 n2 => by
    have h : (if a ∈ G then H a else B.H0 a) = some o := h
    by_cases z : a ∈ G
    · rw [if_pos z] at h; exact h
    · rw [if_neg z] at h; exact k.keep a o h n1 n2
  wc := fun a h => by
    rcases h with z | z
    · exact k.wc a z
    · obtain ⟨_, o, h1, h2⟩ := new a z; exact ⟨o, h1, h2⟩
  wp := .inl k.wp
  wcc := .inl k.wcc
structure LotS (B : Bs) (i : Nat) (σ : Sg) (H : Hp) (s : S) (ls : List (List D)) (a : Addr) (bs : List Addr) : Prop where
  k : StOk (B.pinL (a :: bs) H) σ H s
  slot : σ[i]? = some (some (.ref a))
  none_ : s.env[i]? = some none
  out : H a = some (.lst (bs.map V.ref))
  at_ : LotsAt B.p ((B.pinL (a :: bs) H).W s.env σ) H bs ls
  nd : (a :: bs).Nodup
  new : ∀ b ∈ a :: bs, B.H0 b = none ∧ ¬ B.Wc b
  wp : B.Wc B.p
  wcc : B.Wc B.c
def LW (B : Bs) (G : List Addr) (env : List (Option Sl)) (σ : Sg) : AP := fun b => (B.Wc b ∨ b ∈ G) ∨ OwnA env σ b
theorem pinL_eq {B : Bs} {G : List Addr} {H H' : Hp} (h : ∀ b ∈ G, H b = H' b) : B.pinL G H = B.pinL G H' := by
  unfold Bs.pinL
  congr 1
  funext b
  by_cases z : b ∈ G
  · rw [if_pos z, if_pos z, h b z]
  · rw [if_neg z, if_neg z]
theorem LotS.obj {B : Bs} {i : Nat} {σ : Sg} {H : Hp} {s : S} {ls : List (List D)} {a : Addr} {bs : List Addr} (h : LotS B i σ H s ls a bs) : ∀ b ∈ a :: bs, ∃ o, H b = some o ∧ NoTup o := fun b hb => h.k.wc b (.inr hb)
theorem LotS.neS {B : Bs} {i : Nat} {σ : Sg} {H : Hp} {s : S} {ls : List (List D)} {a : Addr} {bs : List Addr} (h : LotS B i σ H s ls a bs) : ∀ b ∈ a :: bs, b ≠ B.p ∧ b ≠ B.c := fun b hb =>
  ⟨fun z => (h.new b hb).2 (z ▸ h.wp), fun z => (h.new b hb).2 (z ▸ h.wcc)⟩
theorem LotS.after {B : Bs} {i : Nat} {σ : Sg} {H H' : Hp} {s s' : S} {ls : List (List D)} {a : Addr} {bs : List Addr} (h : LotS B i σ H s ls a bs) (k' : StOk (B.pinL (a :: bs) H) σ H' s') (ev : Ev (LW B (a :: bs) s.env σ) H (LW B (a :: bs) s'.env σ) H') (hn : s'.env[i]? = some none) : LotS B i σ H' s' ls a bs := by
  have same : ∀ b ∈ a :: bs, ∀ o, H b = some o → H' b = some o := fun b hb o ho => k'.keep b o (by show (if b ∈ a :: bs then H b else B.H0 b) = _; rw [if_pos hb]; exact ho) (h.neS b hb).1 (h.neS b hb).2
  have same2 : ∀ b ∈ a :: bs, H b = H' b := fun b hb => by
    obtain ⟨o, ho, _⟩ := h.obj b hb
    rw [ho, same b hb o ho]
  refine ⟨by rw [← pinL_eq same2]; exact k', h.slot, hn, same a List.mem_cons_self _ h.out, ?_, h.nd, h.new, h.wp, h.wcc⟩
  exact LotsAt.ev (W := LW B (a :: bs) s.env σ) ev (fun b hb o ho => same b (List.mem_cons_of_mem _ hb) o ho) h.at_
theorem LotS.name {B : Bs} {i j : Nat} {σ : Sg} {H : Hp} {s : S} {ls : List (List D)} {a : Addr} {bs : List Addr} {d : D} {v : V} (h : LotS B i σ H s ls a bs) (hij : i ≠ j) (hj : j < s.env.length) (r : Rp B.p (LW B (a :: bs) s.env σ) H d v) :
    LotS B i (σ.set j (some v)) H { s with env := s.env.set j (some (.val d)) } ls a bs ∧ Ev (LW B (a :: bs) s.env σ) H (LW B (a :: bs) (s.env.set j (some (.val d))) (σ.set j (some v))) H := by
  obtain ⟨k2, ev2⟩ := h.k.set (d := d) (v := v) hj r
  refine ⟨⟨k2, by rw [List.getElem?_set_ne (Ne.symm hij)]; exact h.slot, by show (s.env.set j _)[i]? = _; rw [List.getElem?_set_ne (Ne.symm hij)]; exact h.none_, h.out, ?_, h.nd, h.new, h.wp, h.wcc⟩, ev2⟩
  exact LotsAt.ev ev2 (fun b hb o ho => ho) h.at_
theorem LotS.grow {B : Bs} {i : Nat} {σ : Sg} {H : Hp} {s : S} {ls : List (List D)} {a b : Addr} {bs : List Addr} {z : Nat} {l : List D} {vs : List V} {d : D} {v : V} (h : LotS B i σ H s ls a bs) (hb : bs[z]? = some b) (hH : H b = some (.lst vs)) (rl : Rps B.p (LW B (a :: bs) s.env σ) H l vs) (r : Rp B.p (LW B (a :: bs) s.env σ) H d v) :
    LotS B i σ (upd H b (.lst (vs ++ [v]))) s (ls.set z (l ++ [d])) a bs ∧ Ev (LW B (a :: bs) s.env σ) H (LW B (a :: bs) s.env σ) (upd H b (.lst (vs ++ [v]))) := by
  have hbm : b ∈ bs := List.mem_of_getElem? hb
  have hbm2 : b ∈ a :: bs := List.mem_cons_of_mem _ hbm
  have ev : Ev (LW B (a :: bs) s.env σ) H (LW B (a :: bs) s.env σ) (upd H b (.lst (vs ++ [v]))) := fun c o ho n => by
    have : c ≠ b := fun z => n (z ▸ .inl (.inr hbm2))
    exact ⟨by rw [upd_ne this]; exact ho, n⟩
  have nd' := List.nodup_cons.mp h.nd
  have hab : a ≠ b := fun z => nd'.1 (z ▸ hbm)
  have ht : StOk (B.pinL (a :: bs) (upd H b (.lst (vs ++ [v])))) σ (upd H b (.lst (vs ++ [v]))) s := by
    refine ⟨h.k.len, fun i d h1 => ?_, fun i sl h1 ho => ?_, h.k.sep, ⟨?_, ?_⟩, fun c o hc n1 n2 => ?_, fun c hc => ?_, h.k.wp, h.k.wcc⟩
    · obtain ⟨u, q1, q2⟩ := h.k.val i d h1
      exact ⟨u, q1, Rp.ev ev _ _ q2⟩
    · obtain ⟨c, o, q1, q2, q3, q4, q5⟩ := h.k.own i sl h1 ho
      have hcb : c ≠ b := fun z => q5 (z ▸ .inr hbm2)
      have hcG : c ∉ a :: bs := fun z => q5 (.inr z)
      refine ⟨c, o, q1, by rw [upd_ne hcb]; exact q2, OwnR.ev ev _ _ q3, ?_, q5⟩
      have q4 : (if c ∈ a :: bs then H c else B.H0 c) = none := q4
      show (if c ∈ a :: bs then upd H b (.lst (vs ++ [v])) c else B.H0 c) = none
      rw [if_neg hcG] at q4 ⊢; exact q4
    · show upd H b _ B.p = _
      rw [upd_ne (Ne.symm (h.neS b hbm2).1)]; exact h.k.src.d
    · show upd H b _ B.c = _
      rw [upd_ne (Ne.symm (h.neS b hbm2).2)]; exact h.k.src.l
    · have hc : (if c ∈ a :: bs then upd H b (.lst (vs ++ [v])) c else B.H0 c) = some o := hc
      by_cases z : c ∈ a :: bs
      · rw [if_pos z] at hc; exact hc
      · rw [if_neg z] at hc
        have : c ≠ b := fun y => z (y ▸ hbm2)
        rw [upd_ne this]
        exact h.k.keep c o (by show (if c ∈ a :: bs then H c else B.H0 c) = _; rw [if_neg z]; exact hc) n1 n2
    · by_cases z : c = b
      · subst z; exact ⟨_, upd_same, fun _ y => by cases y⟩
      · rw [upd_ne z]; exact h.k.wc c hc
  refine ⟨⟨ht, h.slot, h.none_, by rw [upd_ne hab]; exact h.out, ?_, h.nd, h.new, h.wp, h.wcc⟩, ev⟩
  exact h.at_.wr nd'.2 hb (fun c hc => .inl (.inr (List.mem_cons_of_mem _ hc))) (rl.append (.cons r .nil)) ev
theorem lots_rps {p : Addr} {W : AP} {H : Hp} : ∀ {bs : List Addr} {ls : List (List D)}, (∀ b ∈ bs, ¬ W b) → LotsAt p W H bs ls → Rps p W H (ls.map D.lst) (bs.map V.ref)
  | [], _, _, h => by rw [h]; exact .nil
  | b :: bs, _, n, ⟨l, r, vs, e, h1, h2, h3⟩ => by
    subst e
    exact .cons (.mkLst (n b List.mem_cons_self) h1 h2) (lots_rps (fun c hc => n c (List.mem_cons_of_mem _ hc)) h3)
theorem LotS.done {B : Bs} {i : Nat} {σ : Sg} {H : Hp} {s : S} {ls : List (List D)} {a : Addr} {bs : List Addr} (h : LotS B i σ H s ls a bs) :
    StOk B σ H { s with env := s.env.set i (some (.val (.lst (ls.map D.lst)))) } ∧ Ev (LW B (a :: bs) s.env σ) H (B.W (s.env.set i (some (.val (.lst (ls.map D.lst))))) σ) H := by
  have hi : i < s.env.length := (List.getElem?_eq_some_iff.mp h.none_).1
  have sub : ∀ b, B.W (s.env.set i (some (.val (.lst (ls.map D.lst))))) σ b → LW B (a :: bs) s.env σ b := fun b hb => by
    rcases hb with hb | ⟨j, sl, e1, e2, e3⟩
    · exact .inl (.inl hb)
    · by_cases hj : i = j
      · subst hj
        rw [List.getElem?_set_self hi] at e1
        cases e1; cases e2
      · rw [List.getElem?_set_ne hj] at e1
        exact .inr ⟨j, sl, e1, e2, e3⟩
  have ev : Ev (LW B (a :: bs) s.env σ) H (B.W (s.env.set i (some (.val (.lst (ls.map D.lst))))) σ) H := Ev.less sub
  have out : ∀ b ∈ a :: bs, ¬ B.W (s.env.set i (some (.val (.lst (ls.map D.lst))))) σ b := fun b hb hw => by
    rcases hw with z | ⟨j, sl, e1, e2, e3⟩
    · exact (h.new b hb).2 z
    · by_cases hj : i = j
      · subst hj
        rw [List.getElem?_set_self hi] at e1
        cases e1; cases e2
      · rw [List.getElem?_set_ne hj] at e1
        obtain ⟨c, o, q1, _, _, _, q5⟩ := h.k.own j sl e1 e2
        rw [e3] at q1; cases q1
        exact q5 (.inr hb)
  have r : Rp B.p (B.W (s.env.set i (some (.val (.lst (ls.map D.lst))))) σ) H (.lst (ls.map D.lst)) (.ref a) :=
    .mkLst (out a List.mem_cons_self) h.out (lots_rps (fun b hb => out b (List.mem_cons_of_mem _ hb)) (LotsAt.ev ev (fun _ _ _ z => z) h.at_))
  refine ⟨⟨by simpa using h.k.len, fun j d h1 => ?_, fun j sl h1 ho => ?_, fun j1 j2 sl1 sl2 b h1 o1 h2 o2 q1 q2 => ?_, h.k.src, fun c o hc n1 n2 => ?_, fun c hc => h.k.wc c (.inl hc), h.wp, h.wcc⟩, ev⟩
  · have h1 : (s.env.set i _)[j]? = _ := h1
    by_cases hj : i = j
    · subst hj
      rw [List.getElem?_set_self hi] at h1
      cases h1
      exact ⟨_, h.slot, r⟩
    · rw [List.getElem?_set_ne hj] at h1
      obtain ⟨v, q1, q2⟩ := h.k.val j d h1
      exact ⟨v, q1, Rp.ev ev _ _ q2⟩
  · have h1 : (s.env.set i _)[j]? = _ := h1
    by_cases hj : i = j
    · subst hj
      rw [List.getElem?_set_self hi] at h1
      cases h1; cases ho
    · rw [List.getElem?_set_ne hj] at h1
      obtain ⟨c, o, q1, q2, q3, q4, q5⟩ := h.k.own j sl h1 ho
      have hc : c ∉ a :: bs := fun z => q5 (.inr z)
      have q4 : (if c ∈ a :: bs then H c else B.H0 c) = none := q4
      rw [if_neg hc] at q4
      exact ⟨c, o, q1, q2, OwnR.ev ev _ _ q3, q4, fun z => q5 (.inl z)⟩
  · have g : ∀ (j : Nat) (x : Sl), (s.env.set i (some (.val (.lst (ls.map D.lst)))))[j]? = some (some x) → x.isOwn = true → s.env[j]? = some (some x) := fun j x hx ho => by
      by_cases hj : i = j
      · subst hj
        rw [List.getElem?_set_self hi] at hx
        cases hx; cases ho
      · rw [List.getElem?_set_ne hj] at hx; exact hx
    exact h.k.sep j1 j2 sl1 sl2 b (g j1 sl1 h1 o1) o1 (g j2 sl2 h2 o2) o2 q1 q2
  · by_cases z : c ∈ a :: bs
    · rw [(h.new c z).1] at hc; cases hc
    · exact h.k.keep c o (by show (if c ∈ a :: bs then H c else B.H0 c) = _; rw [if_neg z]; exact hc) n1 n2
abbrev ML := List (List D) → M Out
def tSL (B : Bs) (i : Nat) (m : ML) : TS := fun Dn σ H => ∃ s ls a bs o s', LotS B i σ H s ls a bs ∧ m ls s = some (o, s') ∧ Post B Dn (LW B (a :: bs) s.env σ) H o s'
structure SSsL (X : Cx) (i : Nat) (st : List Stmt) (m : ML) : Prop where
  ps : ∀ B, PSs X st (tSL B i m)
section
variable {X : Cx} {e ix : Expr} {rest : List Stmt} {pos p px : Pos} {me mi mx : M D} {n : ML} {i j : Nat} {x y : Str}
end
end GH

namespace GH
open PySem PySem.Spec PyProof.Rows L2
section
variable {α : Type} {s : S} {c : Src} {env : List (Option Sl)}
theorem wp_lSl {m : M D} {lo hi : M (Option Int)} {Q : List D → S → Prop} : Wp (lSl m lo hi) s Q ↔ Wp m s fun d s1 => Wp lo s1 fun l s2 => Wp hi s2 fun h s3 => Sm (lstD d) fun ds => Q (cutL ds l h) s3 :=
  wp_bnd.trans (wp_cg fun _ _ => wp_bnd.trans (wp_cg fun _ _ => wp_bnd.trans (wp_cg fun _ _ => wp_lift.trans sm_map)))
theorem sm_lstD {ds : List D} {P : List D → Prop} : Sm (lstD (.lst ds)) P ↔ P ds := sm_some
end
end GH

namespace GH
open PySem PySem.Spec PyProof.Rows L2
def sgn (x : Str) : Prop := ∀ c ∈ x.cps.toList, c < 0x110000
theorem sgn_ok {x : Str} (h : sgn x) : PyData.strOk x = true := by
  unfold PyData.strOk
  refine Array.all_eq_true_iff_forall_mem.mpr fun c hc => ?_
  simpa using h c (Array.mem_toList_iff.mpr hc)
structure Shw (n w : Nat) (d : D) : Prop where
  lay : d.py.canLay0 = true
  shw : d.py.showable = true
  dep : d.py.depth ≤ n
  wei : d.py.weight ≤ w
  shrt : d.py.intsShort 13 = true
  txt : sgn d.py.shown
theorem Shw.ok {n w : Nat} {d : D} (h : Shw n w d) (hn : n ≤ 60) (hw : w ≤ 1048576) : okRepr d := by
  refine ⟨h.lay, h.shw, PyData.hasDict_of_canLay _ h.lay, by have := h.dep; omega, PyData.shown_fits_of_layable0 (B := 13) (by omega) (by omega) ?_ h.shrt⟩
  have := h.dep
  have := h.wei
  unfold PyData.layable0
  simp only [Bool.and_eq_true, decide_eq_true_eq]
  exact ⟨⟨h.lay, by omega⟩, by omega⟩
def sR (d : D) : D := .str d.py.shown
theorem Shw.str {n w : Nat} {d : D} (h : Shw n w d) : (sR d).ok := str_ok (sgn_ok h.txt)
end GH

namespace GH
open PySem PySem.Spec PyProof.Rows L2

section
variable {X : Cx}
def rng1G : List D → Option D
  | [.int j] => some (.rng 0 j)
  | _ => none
theorem cr_range1 : CallR X (.type "range") (fun vs H Q => ∃ j, vs = [V.int j] ∧ ∀ p, H p = none → Q (.ref p) (upd H p (.rng 0 j))) := by
  intro pins s σ H vs us Q I r h
  obtain ⟨j, rfl, q⟩ := h
  obtain ⟨u, rfl, rj⟩ := r.one
  obtain ⟨t, rfl⟩ := rj
  refine call_range_1 ⟨.ref s.heap.objs.size, upd H s.heap.objs.size (.rng 0 j), I.laid (t' := s.toks + 2) (fun b o e => Heap.get?_push_of_some _ e) (Nat.le_refl _) ?_, rfl, q _ (I.hok.fresh (Nat.le_refl _))⟩
  exact ⟨_, _, _, Heap.get?_push_size _ rfl⟩
theorem c_rng1 : CallD X (.type "range") rng1G := callD_cases fun ds d p W he => by
  unfold rng1G at he
  split at he
  · rename_i j
    cases he
    refine CallR.imp cr_range1 fun vs H Q ⟨hw, hx, hq⟩ => ?_
    obtain ⟨v, rfl, r⟩ := rps1 hx
    refine ⟨j, by rw [rp_int r], fun l hl => hq _ _ (same_new hl) ?_⟩
    exact ⟨l, rfl, hw.new hl, upd_same⟩
  · cases he
def iRgV (m : M D) : M (List D) := bnd m fun d => match d with
  | .rng lo hi => if okR lo ∧ okR hi then ret (rngL lo hi) else fail
  | _ => fail
theorem i_rgV {tg e : Expr} {m : M D} (h : SE X e m) : SI X tg e (iRgV m) := ⟨fun B => ⟨fun pins s0 σ H R I ⟨s, ds, s', k, ee, q⟩ => by
  refine thn ((h.pe B).run pins s0 σ H (fun v H1 => ∃ d s1 lo hi, StOk B σ H1 s1 ∧ Ev (B.W s.env σ) H (B.W s1.env σ) H1 ∧ Rp B.p (B.W s1.env σ) H1 d v ∧ d = .rng lo hi ∧ okR lo ∧ okR hi ∧ ds = rngL lo hi ∧ s' = s1) I ?_) fun u s1 ⟨v, H1, I1, r1, q1⟩ => ?_
  · refine tI.bind k ee fun d s1 v H1 h1 e1 k1 ev1 r1 => ?_
    cases d <;> simp only [fail] at e1 <;> try (cases e1; done)
    split at e1
    · rename_i lo hi hj
      obtain ⟨rfl, rfl⟩ := ret_some e1
      exact ⟨_, _, lo, hi, k1, ev1, r1, rfl, hj.1, hj.2, rfl, rfl⟩
    · cases e1
  · obtain ⟨d, sx, lo, hi, k1, ev1, rv, rfl, ⟨a1, a2⟩, ⟨b1, b2⟩, rfl, rfl⟩ := q1
    obtain ⟨a, rfl, na, ha⟩ := rp_rng rv
    cases r1
    obtain ⟨t1, t2, t3, ho⟩ := I1.hok a _ ha
    refine wpAny_pyIter_range ho (small_one a1 a2 b1 b2) ?_
    refine ⟨s1.heap.objs.size, [s1.heap.objs.size], _, _, H1, rfl, I1.kept (t' := s1.toks) fun b o e => Heap.get?_push_of_some _ e, turn_range _ lo (hi - lo).toNat, ?_, fun b hb => ?_, q _ H1 k1 ev1 walk_rng⟩
    · have e1 : lo + ((0 : Nat) : Int) * 1 = lo := by simp
      have e2 : (((hi - lo).toNat : Nat) : Int) - ((0 : Nat) : Int) = Builtin.Range.rangeSize lo hi 1 := by rw [rangeSize_one]; split <;> omega
      show IsRangeIter _ _ (lo + ((0 : Nat) : Int) * 1) ((((hi - lo).toNat : Nat) : Int) - ((0 : Nat) : Int)) 1
      rw [e1, e2]
      exact Heap.get?_push_size _ rfl
    · have e : b = s1.heap.objs.size := by simpa using hb
      subst e
      exact I1.fpOk (Nat.le_refl _) (I1.hok.fresh (Nat.le_refl _))⟩⟩
def extL (d : D) (ds : List D) : Option (List D) := match d with
  | .lst es => if ds.length + es.length ≤ sizeLine then some (ds ++ es) else none
  | _ => none
def eExt (i : Nat) (m : M D) : M D := bnd (ownHere i) fun _ => bnd m fun d => bnd (putL i (extL d)) fun _ => ret .non
theorem s_extend {i : Nat} {x : Str} {p apos cpos : Pos} {e : Expr} {m : M D} (hx : PE X (.Name x p) (tVar i)) (ha : SE X e m)
    (hbase : attributeBase (.Name x p) "extend" X.env (eval (.Name x p) X.env) = eval (.Name x p) X.env := by rfl)
    (hfew : ((backTo cpos (starEach [e] X.env)).all (fun x => !x.1) && (backToKw cpos (keywordEach [] X.env)).all (fun x => x.1.isSome)
      && decide ([e].length + ([] : List Keyword).length + (if ([] : List Keyword).isEmpty then 0 else 1) < 30)) = true := by rfl)
    (hline : (apos.endLine == cpos.line) = true := by rfl) (hs : starEach [e] X.env = (false, eval e X.env) :: starEach [] X.env := by rfl) (hpl : (backTo cpos (starEach [] X.env)).any (·.1) = false := by rfl) :
    SE X (.Call (.Attribute (.Name x p) "extend" apos) [e] [] cpos) (eExt i m) := ⟨fun B => by
  refine PE.imp (pe_bm PySem.F.plainAttrs_list PySem.F.slot_list_extend PySem.F.type_list_extend mt_extend hx (pa_cons (ha.pe B) pa_nil hs) hbase hfew hline hs hpl) fun σ H Q ⟨s, d, s', k, e, q⟩ => ?_
  obtain ⟨_, s0, e0, e9⟩ := bnd_some e
  obtain ⟨rfl, ds0, h0⟩ := own_here e0
  obtain ⟨a, vs, q1, q2, q3⟩ := k.ownL h0
  refine ⟨_, q1, .inl ⟨rfl, vs, SqL.of q2⟩, ?_⟩
  refine tI.bind k e9 fun dy s1 u H1 h1 e1 k1 ev1 r1 => ?_
  obtain ⟨_, s2, e2, e3⟩ := bnd_some e1
  obtain ⟨ds, ds', hsl, hf, rfl⟩ := put_L e2
  obtain ⟨rfl, rfl⟩ := ret_some e3
  unfold extL at hf
  split at hf
  · rename_i es
    split at hf
    · rename_i hz
      cases hf
      obtain ⟨a', us, p1, p2, p3⟩ := k1.ownL hsl
      rw [q1] at p1; cases p1
      obtain ⟨b, ws, rfl, nb, hb, rb⟩ := rp_lst r1
      obtain ⟨k2, ev2⟩ := k1.wr (sl' := .own (ds ++ es)) (o := .lst (us ++ ws)) hsl rfl rfl q1 ⟨_, rfl, p3.append rb⟩
      refine ⟨a, b, us, ws, rfl, rfl, p2, hb, by rw [← p3.length, ← rb.length]; exact hz, q _ _ k2 (ev1.trans ev2) .mkNon⟩
    · cases hf
  · cases hf⟩
def keyI : List Key → Option (List Int)
  | [] => some []
  | .inl i :: r => (keyI r).map (i :: ·)
  | _ => none
theorem keyI_some : ∀ {ks : List Key} {l : List Int}, keyI ks = some l → ks = l.map Sum.inl
  | [], _, h => by cases h; rfl
  | .inl i :: r, _, h => by
    obtain ⟨l', h1, rfl⟩ := Option.map_eq_some_iff.mp h
    rw [keyI_some h1]; rfl
  | .inr _ :: _, _, h => by cases h
theorem int_rps {p : Addr} {W : AP} {H : Hp} : ∀ {l : List Int}, Rps p W H (l.map D.int) (l.map V.int)
  | [] => .nil
  | _ :: _ => .cons (.mkInt _) int_rps
end
section
variable {m : M D} {env : List (Option Sl)} {c : Src}
def IsR (d : D) (P : Int → Int → Prop) : Prop := ∃ a b, d = .rng a b ∧ P a b
theorem isR_rng {a b : Int} {P : Int → Int → Prop} : IsR (.rng a b) P ↔ P a b := ⟨fun ⟨_, _, e, p⟩ => by cases e; exact p, fun p => ⟨a, b, rfl, p⟩⟩
theorem wp_rgV {s : S} {Q : List D → S → Prop} : Wp (iRgV m) s Q ↔ Wp m s fun d s1 => IsR d fun lo hi => okR lo ∧ okR hi ∧ Q ((List.range (hi - lo).toNat).map fun k => D.int (lo + ((k : Nat) : Int))) s1 := by
  have go : ∀ (d : D) s1, Wp (match d with | .rng lo hi => if okR lo ∧ okR hi then ret (rngL lo hi) else fail | _ => (fail : M (List D))) s1 Q ↔ IsR d fun lo hi => okR lo ∧ okR hi ∧ Q ((List.range (hi - lo).toNat).map fun k => D.int (lo + ((k : Nat) : Int))) s1 := by
    intro d s1
    cases d with
    | rng lo hi =>
      rw [isR_rng]
      show Wp (if okR lo ∧ okR hi then ret (rngL lo hi) else fail) s1 Q ↔ _
      by_cases h : okR lo ∧ okR hi
      · rw [if_pos h, wp_ret, rngL_map]; simp [h]
      · rw [if_neg h]
        exact ⟨fun ⟨_, _, e, _⟩ => (by cases e), fun ⟨a, b, _⟩ => absurd ⟨a, b⟩ h⟩
    | _ => exact ⟨fun ⟨_, _, e, _⟩ => (by cases e), fun ⟨_, _, e, _⟩ => (by cases e)⟩
  exact wp_bnd.trans (wp_cg fun d s1 => go d s1)
theorem sm_rng1 {j : Int} {P : D → Prop} : Sm (rng1G [.int j]) P ↔ P (.rng 0 j) := sm_some
theorem wp_ext {i : Nat} {Q : D → S → Prop} : Wp (eExt i m) ⟨env, c⟩ Q ↔ OwnAt env i fun _ => Wp m ⟨env, c⟩ fun d s1 => Wp (putL i (extL d)) s1 fun _ s2 => Q .non s2 := by
  exact wp_bnd.trans (wp_here.trans (ownAt_cg fun _ => wp_bnd.trans (wp_cg fun _ _ => wp_bnd.trans (wp_cg fun _ _ => wp_ret))))
theorem sm_extL {es ds : List D} {P : List D → Prop} : Sm (extL (.lst es) ds) P ↔ ds.length + es.length ≤ 16777216 ∧ P (ds ++ es) := by
  show Sm (if ds.length + es.length ≤ sizeLine then some (ds ++ es) else none) P ↔ _
  rw [sm_ite, sm_some, sizeLine_eq]
theorem keyI_map : ∀ l : List Int, keyI (l.map Sum.inl) = some l
  | [] => rfl
  | x :: r => by show (keyI (r.map Sum.inl)).map (x :: ·) = _; rw [keyI_map r]; rfl
end
end GH

namespace GH
open PySem PySem.Spec PyProof.Rows L2
section
variable {X : Cx} {x : Str} {p q pos : Pos} {i : Nat}
def eSrtO (i : Nat) : M D := fun s => match s.env[i]? with
  | some (some (.ownK ks _)) => ((keyI ks).bind fun l => if l.length < 64 then some (D.lst ((isort l).map D.int)) else none).map fun d => (d, s)
  | _ => none
theorem s_srtO (hc : X.calm = true) (hg : Gl X "sorted") (hm : X.mg "sorted" = none) (hx : PE X (.Name x p) (tVar i))
    (he : starEach [.Name x p] X.env = (false, eval (.Name x p) X.env) :: starEach [] X.env := by rfl) (hpl : (backTo pos (starEach [] X.env)).any (·.1) = false := by rfl) :
    SE X (.Call (.Name "sorted" q) [.Name x p] [] pos) (eSrtO i) := ⟨fun B => by
  refine PE.imp (pe_callB (call_sortedDI hc) hg hm boot_sorted (pa_cons hx pa_nil he) (by decide) (by decide) he hpl) fun σ H Q ⟨s, d, s', k, e, h⟩ => ?_
  unfold eSrtO at e
  split at e
  · rename_i ks ds hsl
    obtain ⟨d', h1, h2⟩ := Option.map_eq_some_iff.mp e
    obtain ⟨l, hl, h3⟩ := Option.bind_eq_some_iff.mp h1
    split at h3
    · rename_i h64
      cases h3
      cases h2
      obtain ⟨a, o, q1, q2, ⟨kvs, rfl, hk, rs⟩, _⟩ := k.own i _ hsl rfl
      refine ⟨_, q1, a, kvs, l, rfl, .inl q2, by rw [hk, keyI_some hl], h64, fun ys b hp hs hb => ?_⟩
      rw [isort_eq hp hs] at h
      refine h _ _ (k.same (same_new hb)) (Ev.same (same_new hb)) ?_
      exact .newLst k.wt hb int_rps
    · cases h3
  · cases e⟩
end
section
variable {c : Src} {Q : D → S → Prop}
theorem wp_srtO {i : Nat} {env : List (Option Sl)} {l : List Int} {ds : List D} (h : env[i]? = some (some (.ownK (l.map Sum.inl) ds))) : Wp (eSrtO i) ⟨env, c⟩ Q ↔ l.length < 64 ∧ Q (.lst ((isort l).map D.int)) ⟨env, c⟩ := by
  have e : eSrtO i ⟨env, c⟩ = (if l.length < 64 then some (D.lst ((isort l).map D.int)) else none).map fun d => (d, (⟨env, c⟩ : S)) := by
    unfold eSrtO
    show (match env[i]? with
      | some (some (.ownK ks _)) => ((keyI ks).bind fun l => if l.length < 64 then some (D.lst ((isort l).map D.int)) else none).map fun d => (d, (⟨env, c⟩ : S))
      | _ => none) = _
    rw [h]
    show ((keyI (l.map Sum.inl)).bind _).map _ = _
    rw [keyI_map]; rfl
  unfold Wp
  rw [e]
  by_cases z : l.length < 64
  · rw [if_pos z]
    exact ⟨fun ⟨a, t, e, r⟩ => (by cases e; exact ⟨z, r⟩), fun r => ⟨_, _, rfl, r.2⟩⟩
  · rw [if_neg z]
    exact ⟨fun ⟨a, t, e, r⟩ => (by cases e), fun r => absurd r.1 z⟩
end
end GH

namespace GH
open PySem PySem.Spec PyProof.Rows L2
section
variable {X : Cx}
def powD : D → D → Option D
  | .int i, .int j => if 0 ≤ j ∧ j ≤ 1000000 ∧ i.natAbs < 2 ^ 64 then some (.int (i ^ j.toNat)) else none
  | _, _ => none
theorem od_pow : OpD X (binaryOp .Pow) powD := opD_cases fun dx dy d p W he => by
  unfold powD at he
  split at he
  · split at he
    · cases he
      rename_i hc
      exact OpR.imp op_pow fun x y H Q ⟨hw, hx, hy, hq⟩ => ⟨_, _, rp_int hx, rp_int hy, hc, hq _ _ (Same.refl H) (.mkInt _)⟩
    · cases he
  · cases he
def eLstO (i : Nat) : M D := fun s => match s.env[i]? with
  | some (some (.ownK ks _)) => some (.lst (ks.map keyD), s)
  | _ => none
theorem keys_rps' {p : Addr} {W : AP} {H : Hp} (kvs : List (Key × V)) : Rps p W H ((kvs.map (·.1)).map keyD) (kvs.map fun kv => kV kv.1) := by
  have := keys_rps (p := p) (W := W) (H := H) (ks := kvs.map (·.1))
  rwa [List.map_map (g := kV)] at this
theorem s_lstO {x : Str} {p q pos : Pos} {i : Nat} (hc : X.calm = true) (hg : Gl X "list") (hm : X.mg "list" = none) (hx : PE X (.Name x p) (tVar i))
    (he : starEach [.Name x p] X.env = (false, eval (.Name x p) X.env) :: starEach [] X.env := by rfl) (hpl : (backTo pos (starEach [] X.env)).any (·.1) = false := by rfl) :
    SE X (.Call (.Name "list" q) [.Name x p] [] pos) (eLstO i) := ⟨fun B => by
  refine PE.imp (pe_callTy (call_listD hc) hg hm (by decide +kernel) (pa_cons hx pa_nil he) (by decide) (by decide) he hpl) fun σ H Q ⟨s, d, s', k, e, h⟩ => ?_
  unfold eLstO at e
  split at e
  · rename_i ks ds hsl
    cases e
    obtain ⟨a, o, q1, q2, ⟨kvs, rfl, rfl, rs⟩, _⟩ := k.own i _ hsl rfl
    refine ⟨_, q1, a, kvs, rfl, .inl q2, fun b hb => ?_⟩
    refine h _ _ (k.same (same_new hb)) (Ev.same (same_new hb)) ?_
    exact .newLst k.wt hb (keys_rps' kvs)
  · cases e⟩
theorem wp_lstO {c : Src} {Q : D → S → Prop} {i : Nat} {env : List (Option Sl)} {l : List Int} {ds : List D} (h : env[i]? = some (some (.ownK (l.map Sum.inl) ds))) : Wp (eLstO i) ⟨env, c⟩ Q ↔ Q (.lst (l.map D.int)) ⟨env, c⟩ := by
  have e : eLstO i ⟨env, c⟩ = some (.lst (l.map D.int), ⟨env, c⟩) := by
    unfold eLstO
    show (match env[i]? with
      | some (some (.ownK ks _)) => some (D.lst (ks.map keyD), (⟨env, c⟩ : S))
      | _ => none) = _
    rw [h]
    show some (D.lst ((l.map Sum.inl).map keyD), _) = _
    rw [List.map_map]; rfl
  unfold Wp
  rw [e]
  exact ⟨fun ⟨a, t, e, r⟩ => (by cases e; exact r), fun r => ⟨_, _, rfl, r⟩⟩
end
structure Sh4 (n w : Nat) (d : D) : Prop where
  lay : d.py.canLay0 = true
  shw : d.py.showable = true
  dep : d.py.depth ≤ n
  wei : d.py.weight ≤ w
  shrt : d.py.intsShort 40 = true
  txt : sgn d.py.shown
theorem Sh4.ok {n w : Nat} {d : D} (h : Sh4 n w d) (hn : n ≤ 60) (hw : w ≤ 300000) : okRepr d := by
  refine ⟨h.lay, h.shw, PyData.hasDict_of_canLay _ h.lay, by have := h.dep; omega, ?_⟩
  have h1 := PyData.shown_le 40 (by decide) d.py (PyData.leavesShort_of_canLay0 40 d.py h.lay h.shrt)
  have h2 := h.wei
  have h3 : (40 + 2) * d.py.weight ≤ 42 * 300000 := Nat.mul_le_mul (by decide) (by omega)
  rw [sizeLine_eq]
  omega

end GH

namespace GH
open PySem PySem.Spec PyProof.Rows L2

section
variable {X : Cx} {pos p : Pos} {x : Str}
def iDct (i : Nat) : M (List D) := fun s => match s.env[i]? with
  | some (some (.val (.dct ks _))) => some (ks.map keyD, s)
  | some (some (.val (.dtt ks _))) => some (ks.map keysD, s)
  | _ => none
theorem pe_or {e : Expr} {t t' : TE} (h : PE X e t) (h' : PE X e t') : PE X e (fun σ H Q => t σ H Q ∨ t' σ H Q) := ⟨fun pins s σ H Q I q => q.elim (h.run pins s σ H Q I) (h'.run pins s σ H Q I)⟩
theorem lc_mono {wi wi' : TI} {g : TG} {tt : TT} {te : TE} {vs : List Nat} {σ : Sg} {H : Hp} {Q : VK} (f : ∀ R, wi σ H R → wi' σ H R) (h : tLc wi g tt te vs σ H Q) : tLc wi' g tt te vs σ H Q := f _ h
theorem keysL {B : Bs} {i : Nat} {σ : Sg} {H : Hp} {d : Addr} {od : Obj} {u : HO} (hσ : σ[i]? = some (some (.ref d))) (hd : H d = some (.frz od u)) (R : It → Hp → Prop) (h : tIt B (iDct i) σ H R) : iKeys (tVar i) σ H R := by
  obtain ⟨s, ds, s', k, e, q⟩ := h
  unfold iDct at e
  split at e
  · rename_i ks es hsl
    cases e
    obtain ⟨v, h1, h2⟩ := k.val i _ hsl
    obtain ⟨a, kvs, rfl, nW, ha, rfl, rs⟩ := rp_dct h2
    rw [hσ] at h1
    cases h1
    rcases ha with ha | ⟨o', ha⟩
    · rw [hd] at ha; cases ha
    · exact ⟨_, hσ, d, o', rfl, .inl ⟨kvs, ha, q _ H k Ev.refl (walk_keys ha nW)⟩⟩
  · rename_i ks es hsl
    cases e
    obtain ⟨v, h1, h2⟩ := k.val i _ hsl
    obtain ⟨a, kvs, rfl, nW, ha, rfl, rs⟩ := rp_dtt h2
    rw [hσ] at h1
    cases h1
    rcases ha with ha | ⟨o', ha⟩
    · rw [hd] at ha; cases ha
    · exact ⟨_, hσ, d, o', rfl, .inr ⟨kvs, ha, q _ H k Ev.refl (walk_keysT ha nW)⟩⟩
  · cases e
theorem l_compD {elt tg : Expr} {ifs : List Expr} {scope : Scope} {own : List (Str × Nat)} {g : D → M Unit} {mc : M Bool} {el : M D} {is : List Nat} {i : Nat}
    (C : CompOk X elt tg ifs scope own is g mc el) (hx : PE X (.Name x p) (tVar i)) (hs : ∀ y, foldedSetIterable (.Name x p) X.env y = pure y := by intro _; rfl) :
    SL X (.ListComp elt [⟨tg, .Name x p, ifs, 0⟩] scope pos) (eComp (own.map (·.2)) g mc el (iDct i)) := ⟨fun B => by
  have base := pe_lc (pos := pos) C.calm C.nd (pi_keys (tg := tg) hx) C.ok (fun s H c cl fp => (C.hg s H c cl fp).px) (fun s H c cl fp => (C.ht s H c cl fp).pt) (fun s H c cl fp => (C.he s H c cl fp).px) hs
  refine PE.imp (pe_or (pe_lock base) base) fun σ H Q ⟨s, ds, s', k, e, q⟩ => ?_
  have go : ∀ (a : Addr) (u : HO), σ[i]? = some (some (.ref a)) → Rd H a u → DictO u → ¬ B.W s.env σ a →
      (tLockE (tLc (iKeys (tVar i)) (tGx is g) (tTx mc) (tIx el) (own.map (·.2))) σ H Q ∨ tLc (iKeys (tVar i)) (tGx is g) (tTx mc) (tIx el) (own.map (·.2)) σ H Q) := fun a u h1 ha du nW => by
    rcases ha with ha | ⟨o', ha⟩
    · refine .inl ⟨a, u, ha, by rcases du with ⟨_, rfl⟩ | ⟨_, rfl⟩ <;> exact True.intro, fun od => ?_⟩
      have hp1 : a ≠ B.p := fun z => nW (.inl (z ▸ k.wp))
      have hp2 : a ≠ B.c := fun z => nW (.inl (z ▸ k.wcc))
      have h0 : ∀ y, B.H0 a = some y → y = u := fun y hy => by
        have := k.keep a y hy hp1 hp2
        rw [ha] at this; cases this; rfl
      have kl := k.lock (o := od) ha du nW
      refine lc_mono (keysL (B := B.lock a od u) h1 upd_same) (lc_go (B := B.lock a od u) C.sub ⟨s, ds, s', kl, e, fun b vs H' k' ev n nb hb rs => ?_⟩)
      have hd' : H' a = some (.frz od u) := k'.keep a _ upd_same hp1 hp2
      have ne : b ≠ a := fun z => by subst z; rw [hd'] at hb; cases hb
      have n' : upd B.H0 a (.frz od u) b = none := n
      rw [upd_ne ne] at n'
      refine ⟨hd', q b vs _ (StOk.unlock (B := B.plus b) k' hd' du hp1 hp2 ?_ h0) (Ev.unlock ha nW hd' ev) n' nb (by rw [upd_ne ne]; exact hb) (Rps.unlock hd' du _ _ rs)⟩
      rintro (z | z)
      · exact nW (.inl z)
      · exact ne z.symm
    · exact .inr (lc_mono (keysL h1 ha) (lc_go C.sub ⟨s, ds, s', k, e, q⟩))
  obtain ⟨l, s1, e1, e2⟩ := bnd_some e
  unfold iDct at e1
  split at e1
  · rename_i ks es hsl
    obtain ⟨v, h1, h2⟩ := k.val i _ hsl
    obtain ⟨a, kvs, rfl, nW, ha, rfl, rs⟩ := rp_dct h2
    exact go a _ h1 ha (.inl ⟨_, rfl⟩) nW
  · rename_i ks es hsl
    obtain ⟨v, h1, h2⟩ := k.val i _ hsl
    obtain ⟨a, kvs, rfl, nW, ha, rfl, rs⟩ := rp_dtt h2
    exact go a _ h1 ha (.inr ⟨_, rfl⟩) nW
  · cases e1⟩

theorem frz_ok {B : Bs} {σ : Sg} {H : Hp} {s s1 : S} {i : Nat} {d : D} (k : StOk B σ H s) (e : eFrz i s = some (d, s1)) : StOk B σ H s1 ∧ Ev (B.W s.env σ) H (B.W s1.env σ) H := by
  have less : ∀ {sl : Sl} {y : D}, s.env[i]? = some (some sl) → ∀ b, B.W (s.env.set i (some (.val y))) σ b → B.W s.env σ b := fun {sl y} hd b hb => by
    rcases hb with hb | ⟨j, sl', e1, e2, e3⟩
    · exact .inl hb
    · by_cases hj : i = j
      · subst hj
        rw [List.getElem?_set_self (List.getElem?_eq_some_iff.mp hd).1] at e1
        cases e1; cases e2
      · rw [List.getElem?_set_ne hj] at e1
        exact .inr ⟨j, sl', e1, e2, e3⟩
  unfold eFrz at e
  split at e
  · cases e; exact ⟨k, Ev.refl⟩
  · rename_i ds hd
    cases e
    obtain ⟨a, o, h1, h2, ⟨vs, rfl, h3⟩, h4, h5⟩ := k.own i _ hd rfl
    exact k.freeze hd rfl h1 ⟨a, vs, rfl, k.unguard hd rfl h1 h5, h2, Rps.ev (Ev.less (less hd)) _ _ h3⟩
  · rename_i ks ds hd
    cases e
    obtain ⟨a, o, h1, h2, ⟨vs, rfl, h6, h3⟩, h4, h5⟩ := k.own i _ hd rfl
    exact k.freeze hd rfl h1 ⟨a, vs, rfl, k.unguard hd rfl h1 h5, .inl h2, h6, Rps.ev (Ev.less (less hd)) _ _ h3⟩
  · rename_i ks ds hd
    cases e
    obtain ⟨a, o, h1, h2, ⟨vs, rfl, h6, h3⟩, h4, h5⟩ := k.own i _ hd rfl
    exact k.freeze hd rfl h1 ⟨a, vs, rfl, k.unguard hd rfl h1 h5, .inl h2, h6, Rps.ev (Ev.less (less hd)) _ _ h3⟩
  · cases e
theorem s_frzS {st : Stmt} {i : Nat} {m : M Out} (h : SS X st m) : SS X st (bnd (eFrz i) fun _ => m) := ⟨fun B => PS.imp (h.ps B) fun Dn σ H ⟨s, o, s', k, e, q⟩ => by
  obtain ⟨d, s1, e1, e2⟩ := bnd_some e
  obtain ⟨k1, ev⟩ := frz_ok k e1
  exact ⟨s1, o, s', k1, e2, q.ev ev⟩⟩

theorem call_listT (hc : X.calm = true) : CallR X (.type "list") (fun xs H Q => ∃ (a : Addr) (kvs : List (List Key × V)), xs = [.ref a] ∧ Rd H a (.dT kvs) ∧
    ∀ (q : Addr) (bs : List Addr), H q = none → Paired (fun b (kv : List Key × V) => H b = some (.tup (kv.1.map kV))) bs kvs → Q (.ref q) (upd H q (.lst (bs.map V.ref)))) := by
  rintro pins s σ H xs us Q I r ⟨a, kvs, rfl, hd, q⟩
  obtain ⟨u, rfl, ru⟩ := r.one
  cases ru
  obtain ⟨z, lo, ws, pr, o, es, ep, g1, g2, g3, g4, _⟩ := (show ObjOk X.prog X.w H s.heap a (.dT kvs) from rd_of I.hok hd)
  have n1 : es.size = ws.length := size_of_entries g4
  have n2 : kvs.length = ws.length := Paired.length pr
  refine PySem.W.kdl_call (kdl_raw lo g2 g3) (I.ok.hd hc) g1 (by omega) fun h' tk its c hk hl hi => ?_
  have at_ : ∀ (j : Nat) (v : Value), its.toList[j]? = some v → ∃ w : List Key × Addr × Value, ws[j]? = some w ∧ v = Value.ref w.2.1 := fun j v e => by
    rw [Array.getElem?_toList] at e
    obtain ⟨en, e1, e2⟩ := hi.2 j v e
    have e3 := entry_at g4 j
    rw [e1] at e3
    cases hw : ws[j]? with
    | none => rw [hw] at e3; cases e3
    | some w => rw [hw] at e3; cases e3; exact ⟨w, rfl, e2⟩
  have hv : ∀ (ys : List Value) (zs : List (List Key × Addr × Value)), ys.length = zs.length → (∀ (j : Nat) (v : Value), ys[j]? = some v → ∃ w : List Key × Addr × Value, zs[j]? = some w ∧ v = Value.ref w.2.1) → Vals (zs.map fun w => V.ref w.2.1) ys := fun ys => by
    induction ys with
    | nil => intro zs e _; cases zs with
      | nil => exact .nil
      | cons _ _ => cases e
    | cons y ys ih => intro zs e f; cases zs with
      | nil => cases e
      | cons w zs =>
        obtain ⟨w', e1, e2⟩ := f 0 y rfl
        cases e1
        exact .cons e2 (ih zs (by simpa using e) fun j v hj => f (j + 1) v (by simpa using hj))
  have hP : ∀ {ks : List (List Key × V)} {zs : List (List Key × Addr × Value)}, Paired (fun (p : List Key × V) (q : List Key × Addr × Value) => p.1 = q.1 ∧ H q.2.1 = some (.tup (p.1.map kV)) ∧ RelV p.2 q.2.2) ks zs → Paired (fun b (kv : List Key × V) => H b = some (.tup (kv.1.map kV))) (zs.map fun w => w.2.1) ks := fun {ks zs} h => by
    induction h with
    | nil => exact .nil
    | cons h t ih => exact .cons h.2.1 ih
  have hn : H s.heap.objs.size = none := I.hok.fresh (Nat.le_refl _)
  refine ⟨.ref s.heap.objs.size, _, I.laid (t' := tk) hk (Nat.le_refl _) (show ObjOk X.prog X.w _ _ _ (.lst ((ws.map fun w => w.2.1).map V.ref)) from ⟨by simpa using (by omega : ws.length ≤ sizeLine), its.toList, c, ?_, ?_⟩), rfl, q _ _ hn (hP pr)⟩
  · rw [List.map_map]
    exact hv _ _ (by rw [Array.length_toList, hi.1]; exact n1) at_
  · rw [Array.toArray_toList]; exact hl
theorem keys_rpsT {p : Addr} {W : AP} {H : Hp} (wt : WT W H) : ∀ {bs : List Addr} {kvs : List (List Key × V)}, Paired (fun b (kv : List Key × V) => H b = some (.tup (kv.1.map kV))) bs kvs → Rps p W H ((kvs.map (·.1)).map keysD) (bs.map V.ref) := fun {bs kvs} h => by
  induction h with
  | nil => exact .nil
  | cons h t ih => exact .cons (.mkTup (wt.tup h) h keys_rps) ih
def eLstT (i : Nat) : M D := fun s => match s.env[i]? with
  | some (some (.ownT ks _)) => some (.lst (ks.map keysD), s)
  | _ => none
theorem s_lstT {q : Pos} {i : Nat} (hc : X.calm = true) (hg : Gl X "list") (hm : X.mg "list" = none) (hx : PE X (.Name x p) (tVar i))
    (he : starEach [.Name x p] X.env = (false, eval (.Name x p) X.env) :: starEach [] X.env := by rfl) (hpl : (backTo pos (starEach [] X.env)).any (·.1) = false := by rfl) :
    SE X (.Call (.Name "list" q) [.Name x p] [] pos) (eLstT i) := ⟨fun B => by
  refine PE.imp (pe_callTy (call_listT hc) hg hm (by decide +kernel) (pa_cons hx pa_nil he) (by decide) (by decide) he hpl) fun σ H Q ⟨s, d, s', k, e, h⟩ => ?_
  unfold eLstT at e
  split at e
  · rename_i ks ds hsl
    cases e
    obtain ⟨a, o, q1, q2, ⟨kvs, rfl, rfl, rs⟩, _⟩ := k.own i _ hsl rfl
    refine ⟨_, q1, a, kvs, rfl, .inl q2, fun b bs hb hp => ?_⟩
    exact h _ _ (k.same (same_new hb)) (Ev.same (same_new hb)) (.newLst k.wt hb (keys_rpsT k.wt hp))
  · cases e⟩
def tListVals (te : TE) : TE := fun σ H Q => te σ H fun y H1 => ∃ (a : Addr) (kvs : List (List Key × V)), y = .ref a ∧ Rd H1 a (.dT kvs) ∧ ∀ q, H1 q = none → Q (.ref q) (upd H1 q (.lst (kvs.map (·.2))))
theorem raw_vals {pr : Program} {w : World} {r d : Addr} {o : Obj} {es : Array DictEntry} {ep : Nat} (hx : o.ExactDict) (hd : o.data = .dict es ep) :
    PySem.W.KdlSrc pr w "dict_values" r d es.size (fun i v => ∃ hi : i < es.size, v = es[i].val) (fun h => h.IsValuesView r d ∧ h.DictRaw d es ep) := PySem.KdlSrc.rawValues
theorem pe_listVals {e : Expr} {te : TE} {apos cpos : Pos} (hc : X.calm = true) (he : PE X e te) (hg : Gl X "list") (hm : X.mg "list" = none) (hb : attributeBase e "values" X.env (eval e X.env) = eval e X.env := by rfl)
    (hl : (apos.endLine == cpos.line) = true := by rfl)
    (hs : starEach [.Call (.Attribute e "values" apos) [] [] cpos] X.env = (false, eval (.Call (.Attribute e "values" apos) [] [] cpos) X.env) :: starEach [] X.env := by rfl) :
    PE X (.Call (.Name "list" p) [.Call (.Attribute e "values" apos) [] [] cpos] [] pos) (tListVals te) := ⟨fun pins s0 σ H Q I hq => by
  refine wpAny_Call_Name_kw (ld_blt I hg hm boot_list (PyProof.Rows.callWith_type1 ?_ hs rfl))
  rw [hs]
  show wpAny _ _ (spliced ((false, eval (.Call (.Attribute e "values" apos) [] [] cpos) X.env) :: backTo pos (starEach [] X.env))) _ _ s0
  refine Calls.spliced_cons (wpAny_Call_method (T := "dict") (id := "dict.values") hb rfl hl F.plainAttrs_dict F.slot_dict_values F.type_dict_values (thn (he.run pins s0 σ H _ I hq) fun u s1 ⟨y, H1, I1, ry, a, kvs, ey, hd, q⟩ => ?_))
  subst ey
  cases ry
  obtain ⟨z, lo, ws, pr, o, es, ep, g1, g2, g3, g4, _⟩ := (show ObjOk X.prog X.w H1 s1.heap a (.dT kvs) from rd_of I1.hok hd)
  have n1 : es.size = ws.length := size_of_entries g4
  have n2 : kvs.length = ws.length := Paired.length pr
  have raw : s1.heap.DictRaw a es ep := ⟨o, g1, g2, g3⟩
  have I2 : Inv X pins σ H1 { s1 with heap := s1.heap.push { cls := .type "dict_values", data := .fields #[.ref a] } } := I1.kept (t' := s1.toks) fun _ _ z => Heap.get?_push_of_some _ z
  refine ⟨raw.typeIs, ?_, ?_⟩
  · exact fun b hb => by cases hb; exact ⟨o, g1, g2.2.1⟩
  · show wpAny _ _ (callWith cpos (.builtin "dict.values") [.ref a] [] []) _ X.xe s1
    refine method_meetsIn F.slot_dict_values F.entry_dict_values rfl (PySem.evalArgs_none ⟨rfl, raw.typeIs, F.args_dict_values_1 _, _, meets_dict_values_raw a lo, ⟨es, ep, raw⟩, Calls.spliced_nil ?_⟩)
    refine PySem.W.kdl_call (raw_vals (es := es) (ep := ep) g2 g3) (I1.ok.hd hc) ⟨⟨_, Heap.get?_push_size _ rfl, rfl, rfl⟩, raw.push _⟩ (by omega) fun h' tk its c hk hl' hi => ?_
    have at_ : ∀ (j : Nat) (v : Value), its.toList[j]? = some v → ∃ w : List Key × Addr × Value, ws[j]? = some w ∧ v = w.2.2 := fun j v e => by
      rw [Array.getElem?_toList] at e
      obtain ⟨hj, e2⟩ := hi.2 j v e
      have e3 := entry_at g4 j
      rw [Array.getElem?_eq_getElem hj] at e3
      cases hw : ws[j]? with
      | none => rw [hw] at e3; cases e3
      | some w =>
        rw [hw] at e3
        have e4 := Option.some.inj e3
        exact ⟨w, rfl, by rw [e2, e4]; rfl⟩
    have hv : ∀ (ys : List Value) (ks : List (List Key × V)) (zs : List (List Key × Addr × Value)), Paired (fun (p : List Key × V) (q : List Key × Addr × Value) => p.1 = q.1 ∧ H1 q.2.1 = some (.tup (p.1.map kV)) ∧ RelV p.2 q.2.2) ks zs → ys.length = zs.length → (∀ (j : Nat) (v : Value), ys[j]? = some v → ∃ w : List Key × Addr × Value, zs[j]? = some w ∧ v = w.2.2) → Vals (ks.map (·.2)) ys := fun ys ks zs h => by
      induction h generalizing ys with
      | nil => intro e _; cases ys with
        | nil => exact .nil
        | cons _ _ => cases e
      | cons h t ih => intro e f; cases ys with
        | nil => cases e
        | cons y ys =>
          obtain ⟨w', e1, e2⟩ := f 0 y rfl
          cases e1
          exact .cons (by rw [e2]; exact h.2.2) (ih ys (by simpa using e) fun j v hj => f (j + 1) v (by simpa using hj))
    have e9 : (s1.heap.push { cls := .type "dict_values", data := .fields #[.ref a] }).objs.size = s1.heap.objs.size + 1 := Heap.size_push ..
    have hn : H1 (s1.heap.push { cls := .type "dict_values", data := .fields #[.ref a] }).objs.size = none := I2.hok.fresh (Nat.le_refl _)
    refine ⟨.ref _, _, I2.laid (t' := tk) hk (Nat.le_refl _) (show ObjOk X.prog X.w _ _ _ (.lst (kvs.map (·.2))) from ⟨by simpa using z, its.toList, c, hv _ _ _ pr (by rw [Array.length_toList, hi.1]; exact n1) at_, ?_⟩), rfl, q _ hn⟩
    rw [Array.toArray_toList]; exact hl'⟩
def valsL : D → Option (List D)
  | .dtt _ ds => some ds
  | _ => none
theorem l_vals {e : Expr} {m : M D} {apos cpos : Pos} (hc : X.calm = true) (he : SE X e m) (hg : Gl X "list") (hm : X.mg "list" = none) (hb : attributeBase e "values" X.env (eval e X.env) = eval e X.env := by rfl)
    (hl : (apos.endLine == cpos.line) = true := by rfl)
    (hs : starEach [.Call (.Attribute e "values" apos) [] [] cpos] X.env = (false, eval (.Call (.Attribute e "values" apos) [] [] cpos) X.env) :: starEach [] X.env := by rfl) :
    SL X (.Call (.Name "list" p) [.Call (.Attribute e "values" apos) [] [] cpos] [] pos) (bnd m fun d => lift (valsL d)) := ⟨fun B => PE.imp (pe_listVals hc (he.pe B) hg hm hb hl hs) fun σ H Q ⟨s, ds, s', k, e, q⟩ => by
  refine tI.bind k e fun d s1 v H1 h1 e1 k1 ev1 r1 => ?_
  obtain ⟨e3, rfl⟩ := lift_some e1
  cases d <;> simp only [valsL] at e3 <;> cases e3
  obtain ⟨a, kvs, rfl, na, ha, _, rs⟩ := rp_dtt r1
  refine ⟨a, kvs, rfl, ha, fun b hb => ?_⟩
  obtain ⟨k2, ev2⟩ := k1.plus (o := .lst (kvs.map (·.2))) hb
  exact q b _ _ k2 (Ev.trans ev1 ev2) (k1.new hb) (k1.wt.new hb) upd_same (Rps.ev ev2 _ _ rs)⟩
end
end GH

namespace GH
open PySem PySem.Spec PyProof.Rows L2

theorem set_tup {X : Cx} {pins : List (Addr × Obj)} {σ : Sg} {H : Hp} {s : Shared} {E : Value → Shared → Prop} {A : Addr} {kvs : List (List Key × V)} {k : List Key} {b : Addr} {v : V} {r : Value} {Q : Unit → Shared → Prop} (hu : X.A.units + 1 < cLine)
    (I : Inv X pins σ H s) (hA : H A = some (.dT kvs)) (hb : H b = some (.tup (k.map kV))) (hz : kvs.length < sizeLine) (rv : RelV v r) (q : ∀ s', Inv X pins σ (upd H A (.dT (putK kvs k v))) s' → Q () s') :
    wpAny (model X.prog X.w) X.A (dictSet A (.ref b) r) Q E s := by
  obtain ⟨_, lo, ws, rel, dd⟩ := dt_of I.hok hA
  have n1 : ws.length ≤ sizeLine := by rw [← Paired.length rel]; omega
  have n2 : (putK kvs k v).length ≤ sizeLine := by have := length_putK kvs k v; omega
  refine wpAny_dictSet_heap (hsz := n1) (Nat.lt_of_succ_lt hu) (key_of I.hok hb) dd fun h' dd' sb => q _ ?_
  obtain ⟨ob, es, ep, g1, g2, g3, g4, _, g5⟩ := dd'
  have st : ∀ c ys, H c = some (.tup ys) → upd H A (.dT (putK kvs k v)) c = some (.tup ys) := fun c ys e => by
    rw [upd_ne (ne_of e hA (fun z => nomatch z))]; exact e
  exact d_write I (by rw [hA]; exact True.intro) sb ⟨ob, g1⟩ ⟨n2, lo, _, (rel.put k hb rv).keeps st, ob, es, ep, g1, g2, g3, g4, g5⟩

section
variable {X : Cx}
def tDcT (wi : TI) (g : TG) (tt : TT) (tk tv : TE) (vs : List Nat) : TE := fun σ H Q => wi σ H fun J H1 => ∀ A, H1 A = none →
  ∃ W : Nat → Nat → Hp → Prop, (∃ m, W 0 m (upd H1 A (.dT []))) ∧ ∀ i m G, W i m G → (J.stop i G ∧ Q (.ref A) G) ∨ (J.go i G ∧
    ∃ Nx : Hp → Prop, (∀ G', Nx G' → ∃ m', m' < m ∧ W (i + 1) m' G') ∧ ∀ x G', J.yld i G x G' → g x (wipe σ vs) G' fun τ G2 => wipe τ vs = wipe σ vs ∧ tt τ G2 fun b G3 =>
      if b = true then tk τ G3 fun y G4 => tv τ G4 fun z G5 => ∃ (kvs : List (List Key × V)) (k : List Key) (a : Addr), y = .ref a ∧ G5 a = some (.tup (k.map kV)) ∧ G5 A = some (.dT kvs) ∧ kvs.length < sizeLine ∧ Nx (upd G5 A (.dT (putK kvs k z)))
      else Nx G3)
variable {kx vx tg iter : Expr} {ifs : List Expr} {scope : Scope} {own : List (Str × Nat)} {pos : Pos} {wi : TI} {g : TG} {tt : TT} {tk tv : TE}
theorem pe_dcT (hu : X.A.units + 1 < cLine) (hc : X.calm = true) (hN : X.N.Nodup) (hi : PI X tg iter wi) (ok : BlkOk X.N X.env.scope scope own)
    (hg : ∀ (t : Shared) (G : Hp) (C : Addr) (cl : List (Str × Addr)) (fp : List Addr), PG (X.blk t G scope (compEnvC scope cl C X.env) fp) tg g)
    (ht : ∀ (t : Shared) (G : Hp) (C : Addr) (cl : List (Str × Addr)) (fp : List Addr), PTs (X.blk t G scope (compEnvC scope cl C X.env) fp) ifs tt)
    (hk : ∀ (t : Shared) (G : Hp) (C : Addr) (cl : List (Str × Addr)) (fp : List Addr), PE (X.blk t G scope (compEnvC scope cl C X.env) fp) kx tk)
    (he : ∀ (t : Shared) (G : Hp) (C : Addr) (cl : List (Str × Addr)) (fp : List Addr), PE (X.blk t G scope (compEnvC scope cl C X.env) fp) vx tv)
    (hs : ∀ y, foldedSetIterable iter X.env y = pure y := by intro _; rfl) : PE X (.DictComp kx vx [⟨tg, iter, ifs, 0⟩] scope pos) (tDcT wi g tt tk tv (own.map (·.2))) := ⟨fun pins t0 σ H Q I0 h => by
  have free : ∀ y ∈ scope.names, y.2 = .free → ∃ c, X.env.cells.lookup y.1 = some c := fun y hy e => (ok.free y hy e).elim (fun z => I0.ok.has _ (.inl z)) fun z => I0.ok.has _ (.inr z)
  rw [arm_eval_DictComp]
  refine wpAny_comprehension_free rfl hs (closure_ok free) ok.kind (fun y hy e => by rw [ok.uniq y hy, e]) (thn (hi.run pins t0 σ H _ I0 h) fun xv t1 hx => thn hx fun itv t2 h2 => ?_)
  obtain ⟨it, fp, tn, J, H2, rfl, J2, T, st2, f2, q⟩ := h2
  refine wpAny_newObj_type (newEnv_comp ?_)
  -- the new dict
  generalize hA : t2.heap.objs.size = A
  have nA : H2 A = none := J2.hok.fresh (Nat.le_of_eq hA)
  obtain ⟨W, ⟨m0, w0⟩, turn⟩ := q A nA
  generalize e3 : ({ t2 with heap := t2.heap.push { cls := .type "dict", data := .dict #[] } } : Shared) = t3
  have heap3 : t3.heap = t2.heap.push { cls := .type "dict", data := .dict #[] } := by rw [← e3]
  have J3 : Inv X pins σ (upd H2 A (.dT [])) t3 := by
    rw [← e3]
    refine J2.laid (t' := t2.toks) (fun _ _ z => Heap.get?_push_of_some _ z) (Nat.le_of_eq hA) ?_
    rw [← hA]; exact dt_empty t2.heap J2.big
  have f3 : ∀ b ∈ fp, FpOk X pins (upd H2 A (.dT [])) b ∧ b < t3.heap.objs.size := fun b hb => by
    obtain ⟨ob, eb, _⟩ := T.obj _ _ st2 b hb
    have lt := Heap.lt_size eb
    have nb : b ≠ A := by rw [← hA]; exact Nat.ne_of_lt lt
    exact ⟨⟨by rw [upd_ne nb]; exact (f2 b hb).1, (f2 b hb).2⟩, by rw [heap3, Heap.size_push]; exact Nat.lt_succ_of_lt lt⟩
  have st3 : tn 0 t3.heap := T.keep _ _ _ st2 fun b _ ob e => by rw [heap3]; exact Heap.get?_push_of_some _ e
  have J4 := block_start J3 ok hN f3
  have pg := hg t3 (upd H2 A (.dT [])) t3.heap.objs.size (cellsFrom (t3.heap.objs.size + 1) scope.names (cloFrom X.env.cells scope.names [])) fp
  have pt := ht t3 (upd H2 A (.dT [])) t3.heap.objs.size (cellsFrom (t3.heap.objs.size + 1) scope.names (cloFrom X.env.cells scope.names [])) fp
  have pk := hk t3 (upd H2 A (.dT [])) t3.heap.objs.size (cellsFrom (t3.heap.objs.size + 1) scope.names (cloFrom X.env.cells scope.names [])) fp
  have pv := he t3 (upd H2 A (.dT [])) t3.heap.objs.size (cellsFrom (t3.heap.objs.size + 1) scope.names (cloFrom X.env.cells scope.names [])) fp
  have nf : ∀ b ∈ fp, (upd H2 A (.dT [])) b = none := fun b hb => (f3 b hb).1.1
  show codeAny _ _ (.compStart (.DictComp kx vx [⟨tg, iter, ifs, 0⟩] scope pos) 0 (.ref it) (.ref A) (compEnvC scope (cellsFrom (t3.heap.objs.size + 1) scope.names (cloFrom X.env.cells scope.names [])) t3.heap.objs.size X.env)) (compPost (model X.prog X.w) X.A X.xe none _ (.ref A) t3.heap.objs.size) { t3 with heap := pushCells (t3.heap.push { cls := .type "dict", data := .dict #[] }) scope.names }
  generalize hE : compEnvC scope (cellsFrom (t3.heap.objs.size + 1) scope.names (cloFrom X.env.cells scope.names [])) t3.heap.objs.size X.env = E at J4 pg pt pk pv ⊢
  have hloc : E.locals = t3.heap.objs.size := by subst hE; rfl
  generalize hG3 : upd H2 A (.dT []) = G3 at J3 J4 pg pt pk pv w0 nf f3
  generalize e4 : ({ t3 with heap := pushCells (t3.heap.push { cls := .type "dict", data := .dict #[] }) scope.names } : Shared) = t4 at J4 ⊢
  have st4 : tn 0 t4.heap := T.keep _ _ _ st3 fun b _ ob e => by rw [← e4]; exact pushCells_keeps _ _ _ _ (Heap.get?_push_of_some _ e)
  have foot : ∀ {τ : Sg} {G : Hp} {t : Shared}, Inv (X.blk t3 G3 scope E fp) [] τ G t → (∀ b ∈ fp, G b = none) → ∀ b ∈ fp, FpOk (X.blk t3 G3 scope E fp) [] G b := fun {τ G t} K hn b hb =>
    ⟨hn b hb, (K.ok.exf b hb).1, K.ok.exfs b hb, .inl hb, fun y c e => (K.ok.exf b hb).2 y c e, fun z hz => absurd (show z ∈ ([] : List (Addr × Obj)) ++ [] from hz) (by simp)⟩
  have loop : codeAny (model X.prog X.w) X.A (.compLoop (.DictComp kx vx [⟨tg, iter, ifs, 0⟩] scope pos) 0 (.ref it) (.ref A) E) (compPost (model X.prog X.w) X.A X.xe none (EP X pins σ Q) (.ref A) t3.heap.objs.size) t4 := by
    refine compLoop_anyD (fun n t => ∃ i G, Inv (X.blk t3 G3 scope E fp) [] (wipe σ (own.map (·.2))) G t ∧ tn i t.heap ∧ (∀ b ∈ fp, G b = none) ∧ W i n G) ?_ m0 ⟨0, G3, J4, st4, nf, w0⟩
    rintro n t5 ⟨i, G5, J5, st5, n5, w5⟩
    rcases turn i n G5 w5 with ⟨stop, qq⟩ | ⟨go, Nx, hNx, step⟩
    · -- the walk's end: back in the def
      refine thnF (T.done (X.blk t3 G3 scope E fp) rfl rfl rfl hc i [] t5 _ G5 (fun _ _ => False) J5 (foot J5 n5) st5 stop) fun r t6 ⟨er, J6⟩ => ?_
      subst er
      have back : Inv X pins σ G5 t6 := J3.call' (ch := fp) J6.os J6.base J6.hok J6.bare fun b hb => ⟨(f3 b hb).1.2.2.2.1, (f3 b hb).1.2.1, (f3 b hb).1.2.2.2.2.1, (f3 b hb).1.2.2.2.2.2⟩
      have nC : G5 t3.heap.objs.size = none := by have z : G5 E.locals = none := J6.free; rwa [hloc] at z
      obtain ⟨m, hn, _⟩ := J6.loc
      have hn : t6.heap.Ns E.locals m := hn
      rw [hloc] at hn
      obtain ⟨a0, a1, a2, a3, a4, a5⟩ := J3.fpOk (H' := G5) (Nat.le_refl _) nC
      exact ⟨m, hn, fun h'' sb => ⟨.ref A, G5, back.turned (t' := t6.toks) (fun b ob hb e => (sb.2 b hb).trans e) a0 a1 a3 a4 a5, rfl, qq⟩⟩
    · refine thnF (T.item (X.blk t3 G3 scope E fp) rfl rfl rfl hc i [] t5 _ G5 (fun _ _ => False) J5 (foot J5 n5) st5 go) fun r t6 ⟨u, er, h6⟩ => ?_
      subst er
      refine thnF h6 fun _ t7 ⟨x, G7, J7, r7, y7, st7, n7⟩ => ?_
      refine thnF (pg.run _ t7 _ G7 x u _ (J7.pinned (foot J7 n7) (T.obj _ _ st7)) r7 (step x G7 y7)) fun _ t8 ⟨τ, G8, J8, hw8, q8⟩ => ?_
      -- what ends a turn
      have fin : ∀ {t : Shared} {G : Hp}, Inv (X.blk t3 G3 scope E fp) ([] ++ pinsAt fp t7.heap) τ G t → Nx G → ∃ m, m < n ∧ ∃ i G, Inv (X.blk t3 G3 scope E fp) [] (wipe σ (own.map (·.2))) G t ∧ tn i t.heap ∧ (∀ b ∈ fp, G b = none) ∧ W i m G := fun {t G} K nx => by
        obtain ⟨m', hm, w'⟩ := hNx G nx
        have pin : ∀ b ∈ fp, ∀ ob, t7.heap.get? b = some ob → t.heap.get? b = some ob ∧ G b = none := fun b hb ob e =>
          have z := K.pin (b, ob) (List.mem_append_right _ (List.mem_append_right _ (mem_pinsAt hb e)))
          ⟨z.1, z.2.1⟩
        refine ⟨m', hm, i + 1, G, (K.unpinned (pins := [])).weak (by rw [← hw8, wipe_length]) (fun j v e => by rw [← hw8] at e; exact (wipe_some e).1), T.keep _ _ _ st7 fun b hb ob e => (pin b hb ob e).1, fun b hb => ?_, w'⟩
        obtain ⟨ob, e, _⟩ := T.obj _ _ st7 b hb
        exact (pin b hb ob e).2
      refine thnF (pt.run _ t8 τ G8 _ J8 q8) fun b t9 ⟨G9, J9, q9⟩ => ?_
      cases b with
      | false => simp only [Bool.false_eq_true, if_false] at q9 ⊢; exact fin J9 q9
      | true =>
        simp only [if_true] at q9 ⊢
        refine thnF (pk.run _ t9 τ G9 _ J9 q9) fun z t10 ⟨y10, G10, J10, r10, q10⟩ => thnF (pv.run _ t10 τ G10 _ J10 q10) fun z2 t11 ⟨y11, G11, J11, r11, kvs, k, a, ek, ha, hA11, hz, nx⟩ => ?_
        subst ek
        cases r10
        exact set_tup (X := X.blk t3 G3 scope E fp) hu J11 hA11 ha hz r11 fun t12 J12 => fin J12 nx
  exact codeAny_compStart_dict loop (T.self X.A 0 _ _ _ st4 loop)⟩
def dStep (vs : List Nat) (g : D → M Unit) (c : M Bool) (ek el : M D) (d : D) : M (Option (List Key × D)) := fun s =>
  (bnd (g d) fun _ => bnd c fun b => if b = true then bnd ek fun y => bnd el fun z => bnd (lift (dKeys y)) fun k => ret (some (k, z)) else ret none) { s with env := wipeE s.env vs }
def dcF (vs : List Nat) (g : D → M Unit) (c : M Bool) (ek el : M D) : List D → List (List Key) → List D → M (List (List Key) × List D)
  | [], ks, es => ret (ks, es)
  | d :: r, ks, es => bnd (dStep vs g c ek el d) fun o => match o with
    | none => dcF vs g c ek el r ks es
    | some kz => if ks.length < sizeLine then dcF vs g c ek el r (kPutK ks kz.1) (kPutD ks es kz.1 kz.2) else fail
def nDcT (vs : List Nat) (g : D → M Unit) (c : M Bool) (ek el : M D) (it : M (List D)) : M Sl := bnd it fun l s1 =>
  match dcF vs g c ek el l [] [] s1 with
    | some (r, sn) => some (.ownT r.1 r.2, { sn with env := restE s1.env sn.env vs })
    | none => none
theorem dc_go {B : Bs} {vs is : List Nat} {g : D → M Unit} {c : M Bool} {ek el : M D} {it : M (List D)} {σ : Sg} {H : Hp} {Q : VK} (hin : ∀ i ∈ is, i ∈ vs) (h : tN B (nDcT vs g c ek el it) σ H Q) :
    tDcT (tIt B it) (tGx is g) (tTx c) (tIx ek) (tIx el) vs σ H Q := by
  obtain ⟨s, sl, sE, k, e, ho, q⟩ := h
  obtain ⟨ds, s1, e1, e2⟩ := bnd_some e
  refine ⟨s, ds, s1, k, e1, fun J H1 k1 ev1 wk => ?_⟩
  split at e2
  case h_2 => cases e2
  rename_i out sn eF
  cases e2
  intro A nA
  have nA0 := k1.new nA
  have hAp : A ≠ B.p := fun z => by subst z; rw [k1.src.d] at nA; cases nA
  have hAc : A ≠ B.c := fun z => by subst z; rw [k1.src.l] at nA; cases nA
  obtain ⟨kb, evb⟩ := k1.begin (o := .dT []) nA
  have kw := kb.wipe vs
  have evw : Ev (B.W s1.env σ) H1 ((B.plus A).W (wipeE s1.env vs) (wipe σ vs)) (upd H1 A (.dT [])) := evb.trans (Ev.less (W_wipe (B := B.plus A)))
  refine ⟨fun i m Hh => m = ds.length - i ∧ i ≤ ds.length ∧ ∃ (si : S) (acc : List (List Key × V)) (es : List D), StOk (B.plusO A (.dT acc)) (wipe σ vs) Hh { si with env := wipeE si.env vs } ∧ Ev (B.W s1.env σ) H1 ((B.plus A).W (wipeE si.env vs) (wipe σ vs)) Hh ∧
    Hh A = some (.dT acc) ∧ Rps B.p ((B.plus A).W (wipeE si.env vs) (wipe σ vs)) Hh es (acc.map (·.2)) ∧ dcF vs g c ek el (ds.drop i) (acc.map (·.1)) es si = some (out, sn),
    ⟨ds.length, by simp, Nat.zero_le _, s1, [], [], kw, evw, upd_same, .nil, eF⟩, ?_⟩
  rintro i m Hh ⟨rfl, hi, si, acc, es, ki, evi, hA, ri, eR⟩
  obtain ⟨w1, w2, w3⟩ := wk _ _ evi ki.wt
  by_cases hlt : i < ds.length
  · refine .inr ⟨w1 i hlt, _, fun H' hN => ⟨ds.length - (i + 1), by omega, hN⟩, fun x H' y => ?_⟩
    have hd : ds[i]? = some ds[i] := List.getElem?_eq_getElem hlt
    obtain ⟨sm, rx⟩ := w3 i _ x H' hd y
    rw [List.drop_eq_getElem_cons hlt] at eR
    obtain ⟨o, s2, eS, eR⟩ := bnd_some eR
    obtain ⟨_, s4, eg, eS⟩ := bnd_some eS
    obtain ⟨b, s5, ec, eS⟩ := bnd_some eS
    have k1' := ki.same sm
    have ev' : Ev (B.W s1.env σ) H1 ((B.plus A).W (wipeE si.env vs) (wipe σ vs)) H' := evi.trans (Ev.same sm)
    refine ⟨B.plusO A (.dT acc), { si with env := wipeE si.env vs }, ds[i], s4, k1', rx, eg, fun σ2 k2 ev2 wp => ?_⟩
    have hw : wipe σ2 vs = wipe σ vs := by rw [wp vs hin, wipe_wipe]
    refine ⟨hw, B.plusO A (.dT acc), s4, b, s5, k2, ec, fun H3 k3 ev3 => ?_⟩
    have evA : Ev ((B.plus A).W (wipeE si.env vs) (wipe σ vs)) H' ((B.plus A).W s5.env σ2) H3 := Ev.trans ev2 ev3
    have smA : Ev ((B.plus A).W (wipeE si.env vs) (wipe σ vs)) Hh ((B.plus A).W (wipeE si.env vs) (wipe σ vs)) H' := Ev.same sm
    cases b with
    | true =>
      have eS : bnd ek (fun y => bnd el fun z => bnd (lift (dKeys y)) fun k => ret (some (k, z))) s5 = some (o, s2) := eS
      obtain ⟨y', s6, ee, eU⟩ := bnd_some eS
      obtain ⟨z', s7, ez, eV⟩ := bnd_some eU
      obtain ⟨k', s8, e8, eX⟩ := bnd_some eV
      obtain ⟨hk', hs8⟩ := lift_some e8
      subst hs8
      obtain ⟨rfl, rfl⟩ := ret_some eX
      refine ⟨B.plusO A (.dT acc), s5, y', s6, k3, ee, fun v H4 k4 ev4 r4 => ?_⟩
      refine ⟨B.plusO A (.dT acc), s6, z', s2, k4, ez, fun v5 H5 k5 ev5 r5 => ?_⟩
      have hA5 : H5 A = some (.dT acc) := k5.keep A _ upd_same hAp hAc
      obtain ⟨a, rfl, ha⟩ := dKeys_rp hk' (Rp.ev ev5 _ _ r4)
      simp only at eR
      split at eR
      case isFalse => cases eR
      rename_i hlen
      have kw5 := k5.wipe vs
      rw [hw] at kw5
      obtain ⟨kg, evg⟩ := kw5.grow (o' := .dT (putK acc k' v5)) hAp hAc
      have wl : Ev ((B.plus A).W s2.env σ2) H5 ((B.plus A).W (wipeE s2.env vs) (wipe σ vs)) H5 := by
        rw [← hw]; exact Ev.less (W_wipe (B := B.plus A))
      have evT : Ev ((B.plus A).W (wipeE si.env vs) (wipe σ vs)) Hh ((B.plus A).W (wipeE s2.env vs) (wipe σ vs)) (upd H5 A (.dT (putK acc k' v5))) :=
        smA.trans (evA.trans (Ev.trans ev4 (Ev.trans ev5 (wl.trans evg))))
      refine ⟨acc, k', a, rfl, ha, hA5, by simpa using hlen, rfl, hlt, s2, putK acc k' v5, _, kg, evi.trans evT, upd_same, putK_rps (ri.ev evT) (Rp.ev (wl.trans evg) _ _ r5), ?_⟩
      rw [putK_keys]
      exact eR
    | false =>
      obtain ⟨rfl, rfl⟩ := ret_some eS
      have kw3 := k3.wipe vs
      rw [hw] at kw3
      have wl : Ev ((B.plus A).W s2.env σ2) H3 ((B.plus A).W (wipeE s2.env vs) (wipe σ vs)) H3 := by
        rw [← hw]; exact Ev.less (W_wipe (B := B.plus A))
      have evT : Ev ((B.plus A).W (wipeE si.env vs) (wipe σ vs)) Hh ((B.plus A).W (wipeE s2.env vs) (wipe σ vs)) H3 := smA.trans (evA.trans wl)
      have hA3 : H3 A = some (.dT acc) := k3.keep A _ upd_same hAp hAc
      exact ⟨rfl, hlt, s2, acc, es, kw3, evi.trans evT, hA3, ri.ev evT, eR⟩
  · have hn : i = ds.length := by omega
    subst hn
    rw [List.drop_length] at eR
    obtain ⟨rfl, rfl⟩ := ret_some eR
    refine .inl ⟨w2, ?_⟩
    have kf := ki.finish nA0
    have sub : ∀ b, (B.plus A).W (restE s1.env sn.env vs) σ b → (B.plus A).W (wipeE sn.env vs) (wipe σ vs) b := fun b hb => by
      rcases hb with hb | ⟨j, sl, h1, h2, h3⟩
      · exact .inl hb
      · rcases restE_get h1 with ⟨n1, h4⟩ | ⟨_, _, d, rfl⟩
        · exact .inr ⟨j, sl, by rw [wipeE_get n1]; exact h4, h2, by rw [wipe_get n1]; exact h3⟩
        · cases h2
    have evf : Ev ((B.plus A).W (wipeE sn.env vs) (wipe σ vs)) Hh ((B.plus A).W (restE s1.env sn.env vs) σ) Hh := Ev.less sub
    have kR : StOk (B.plus A) σ Hh { sn with env := restE s1.env sn.env vs } := by
      refine ⟨?_, fun j d h => ?_, fun j sl h ho => ?_, fun j1 j2 sl1 sl2 b h1 o1 h2 o2 q1 q2 => ?_, kf.src, kf.keep, kf.wc, kf.wp, kf.wcc⟩
      · have := kf.len
        rw [wipe_length] at this
        show (restE s1.env sn.env vs).length = _
        rw [restE_len, ← this]
        exact (wipeE_len _ _).symm
      · rcases restE_get h with ⟨n1, h4⟩ | ⟨n1, h4, _⟩
        · obtain ⟨v, h5, h6⟩ := kf.val j d (by show (wipeE sn.env vs)[j]? = _; rw [wipeE_get n1]; exact h4)
          rw [wipe_get n1] at h5
          exact ⟨v, h5, h6.ev evf⟩
        · obtain ⟨v, h5, h6⟩ := k1.val j d h4
          exact ⟨v, h5, Rp.ev (evi.trans evf) _ _ h6⟩
      · rcases restE_get h with ⟨n1, h4⟩ | ⟨_, _, d, rfl⟩
        · obtain ⟨b, o, h5, h6, h7, h8⟩ := kf.own j sl (by show (wipeE sn.env vs)[j]? = _; rw [wipeE_get n1]; exact h4) ho
          rw [wipe_get n1] at h5
          exact ⟨b, o, h5, h6, h7.ev evf, h8⟩
        · cases ho
      · rcases restE_get h1 with ⟨n1, h4⟩ | ⟨_, _, d, rfl⟩
        · rcases restE_get h2 with ⟨n2, h5⟩ | ⟨_, _, d, rfl⟩
          · exact kf.sep j1 j2 sl1 sl2 b (by show (wipeE sn.env vs)[j1]? = _; rw [wipeE_get n1]; exact h4) o1 (by show (wipeE sn.env vs)[j2]? = _; rw [wipeE_get n2]; exact h5) o2 (by rw [wipe_get n1]; exact q1) (by rw [wipe_get n2]; exact q2)
          · cases o2
        · cases o1
    refine q A _ Hh kR (ev1.trans (evi.trans evf)) nA0 ?_ hA ⟨acc, rfl, rfl, ri.ev evf⟩
    rintro (z | ⟨j, sl, h1, h2, h3⟩)
    · obtain ⟨o, ho, _⟩ := k1.wc A z
      rw [nA] at ho; cases ho
    · obtain ⟨b, o, h5, _, _, _, h8⟩ := kR.own j sl h1 h2
      rw [h3] at h5; cases h5
      exact h8 (.inr rfl)
variable {g' : D → M Unit} {mc : M Bool} {ek el : M D} {it : M (List D)} {is : List Nat}
theorem n_dcT (hu : X.A.units + 1 < cLine) (C : CompOk X vx tg ifs scope own is g' mc el) (hi : SI X tg iter it)
    (hk : ∀ (t : Shared) (G : Hp) (a : Addr) (cl : List (Str × Addr)) (fp : List Addr), SE (X.blk t G scope (compEnvC scope cl a X.env) fp) kx ek)
    (hs : ∀ y, foldedSetIterable iter X.env y = pure y := by intro _; rfl) : SN X (.DictComp kx vx [⟨tg, iter, ifs, 0⟩] scope pos) (nDcT (own.map (·.2)) g' mc ek el it) :=
  ⟨fun B => PE.imp (pe_dcT hu C.calm C.nd (hi.pi B) C.ok (fun s H c cl fp => (C.hg s H c cl fp).px) (fun s H c cl fp => (C.ht s H c cl fp).pt) (fun s H c cl fp => (hk s H c cl fp).px) (fun s H c cl fp => (C.he s H c cl fp).px) hs) fun σ H Q h => dc_go C.sub h⟩
end
end GH

namespace GH
open PySem PySem.Spec PyProof.Rows L2
open PySem.W (alike alikeAll dataLt keyToks keyToksAll)

section
variable {X : Cx}
def ltN : D → D → Option D
  | .tup a, .tup b => if alike (D.tup a).py (D.tup b).py = true ∧ (D.tup a).nice = true ∧ (D.tup b).nice = true ∧ (D.tup a).py.depth ≤ 60 then some (.bl (dataLt (D.tup a).py (D.tup b).py)) else none
  | x, y => ltD x y
theorem od_ltN (hu : X.A.units + 64 < cLine) : OpD X (compareOp .Lt) ltN := opD_cases fun dx dy d p W he => by
  unfold ltN at he
  split at he
  · rename_i a b
    split at he
    · cases he
      rename_i hc
      intro pins s σ H x y v u Q I rx ry ⟨hw, hx, hy, hq⟩
      obtain ⟨as, ra⟩ := Dp.reads I _ _ _ (hx.dp _ _ (D.nice_can _ hc.2.1)) rx
      obtain ⟨bs, rb⟩ := Dp.reads I _ _ _ (hy.dp _ _ (D.nice_can _ hc.2.2.1)) ry
      exact PySem.W.lt_data ra rb hc.1 (by simp [D.py]) (by have := hc.2.2.2; omega) ⟨.bl _, H, I, rfl, hq _ _ (Same.refl H) (.mkBl _)⟩
    · cases he
  · intro pins s σ H x y v u Q I rx ry ⟨hw, hx, hy, hq⟩
    exact od_lt pins s σ H x y v u Q I rx ry ⟨p, W, dx, dy, d, hw, hx, hy, he, hq⟩
def srtH : List D → Option (List D)
  | [.lst [.tup []]] => some [.tup []]
  | ds => srtG ds
theorem c_srtH {k : Nat} (hr : RG k X.A) : CallL X (.builtin "sorted") srtH := by
  intro pins s σ H xs us Q I r ⟨p, W, ds, es, hw, hx, he, hq⟩
  unfold srtH at he
  split at he
  · cases he
    obtain ⟨v, rfl, r'⟩ := rps1 hx
    obtain ⟨a, ws, rfl, _, ha, rs⟩ := rp_lst r'
    obtain ⟨u0, rfl, r0⟩ := r.one
    cases r0
    obtain ⟨its, rv, pl, hz⟩ := I.list (SqL.of ha)
    simp only [Rps] at rs
    obtain ⟨w1, t1, rfl, q1, rfl⟩ := rs
    obtain ⟨u1, rfl, ru1⟩ := rv.one
    obtain ⟨as, ra⟩ := Dp.reads I _ _ _ (q1.dp _ _ (D.nice_can _ (by simp [D.nice, D.niceAll]))) ru1
    have e0 : (D.tup []).py = .tuple [] := by simp [D.py, D.pys]
    rw [e0] at ra
    have al : PySem.W.AllAlike [PyData.tuple []] := fun d hd d' hd' => by
      rw [List.mem_singleton.mp hd, List.mem_singleton.mp hd']; simp [alike, alikeAll]
    have kp : Reads (PySem.W.sortingHeap (PySem.W.copyHeap s.heap [u1]) (s.heap.objs.size + 1) [u1]) u1 (.tuple []) as := PyProof.Rows.Reads.keeps (fun _ _ => PySem.W.sorting_copy_old) ra
    refine PySem.W.sorted_vals (κ := PySem.W.dataKind (PySem.W.sortingHeap (PySem.W.copyHeap s.heap [u1]) (s.heap.objs.size + 1) [u1]) [.tuple []]) (vs := [u1]) pl.isList ⟨fun v hv => ?_, PyProof.Rows.general', ?_, fun h2 => absurd h2 (by simp)⟩ (by show 1 ≤ sizeLine; decide) ?_
    · rw [List.mem_singleton.mp hv]
      exact ⟨_, PySem.W.dataKind_some al List.mem_cons_self kp⟩
    · intro E x y a b Q ha hb hq
      obtain ⟨d, as1, hd, r1, rfl⟩ := PySem.W.dataKind_inv ha
      obtain ⟨d', as2, hd', r2, rfl⟩ := PySem.W.dataKind_inv hb
      have ed := List.mem_singleton.mp hd
      have ed' := List.mem_singleton.mp hd'
      subst ed
      subst ed'
      show wpAny _ _ (PyProof.Rows.oneLt' false x y) _ _ _
      refine PySem.W.oneLt_alike (fun z => nomatch z) r1 r2 (by simp [alike, alikeAll]) (by simp) ?_ hq
      have := hr.r.units
      simp only [PyData.depth, PyData.depthAll, Nat.min_self]
      show X.A.units + 1 + 1 + _ < _
      omega
    · have rv' := PySem.W.sortVals_data (h' := PySem.W.sortingHeap (PySem.W.copyHeap s.heap [u1]) (s.heap.objs.size + 1) [u1]) (R := fun u (b : D × V) => RelV b.2 u) (enc := fun b => b.1.py) (vs := [u1]) (bs := [(D.tup [], w1)]) false (.cons ru1 .nil) (.cons ⟨as, by rw [e0]; exact kp⟩ .nil) (by rw [List.map_singleton, e0]; exact al)
      rw [List.map_singleton, e0] at rv'
      have vv := vals_of_each rv'
      rw [List.mergeSort_singleton] at vv
      generalize PySem.W.sortVals _ _ _ _ = out at vv ⊢
      obtain ⟨ep, he'⟩ := PyProof.Rows.sortedAll_at s.heap [u1] out.toArray
      have hn : H (s.heap.objs.size + 1) = none := I.hok.fresh (Nat.le_succ _)
      refine ⟨.ref (s.heap.objs.size + 1), upd H (s.heap.objs.size + 1) (.lst [w1]), I.laid (t' := s.toks) (fun _ _ => PyProof.Rows.sortedAll_old) (Nat.le_succ _) ⟨by show 1 ≤ sizeLine; decide, out, ep, vv, he'⟩, rfl, hq _ _ _ (same_new hn) hn upd_same (.cons q1 .nil)⟩
  · exact c_srt hr pins s σ H xs us Q I r ⟨p, W, ds, es, hw, hx, he, hq⟩
end
end GH

namespace GH
open PySem PySem.Spec PyProof.Rows L2
open PySem.W (alike alikeAll dataLt keyToks keyToksAll)

abbrev tLt (a b : List (Int ⊕ List Nat)) : Bool := PyProof.Rows.lexLt PyProof.Rows.itemOrd a b
theorem tlt_self (c : Int ⊕ List Nat) (l m : List (Int ⊕ List Nat)) : tLt (c :: l) (c :: m) = tLt l m := PyProof.Rows.lex_self (O := PyProof.Rows.itemOrd) c l m
theorem tlt_int (i j : Int) (l m : List (Int ⊕ List Nat)) : tLt (.inl i :: l) (.inl j :: m) = (decide (i < j) || (decide (i = j) && tLt l m)) := by
  unfold tLt
  rw [PyProof.Rows.lex_cons]
  show (decide (i < j) || (!decide (j < i) && _)) = _
  by_cases h : i < j
  · simp [h]
  · by_cases h2 : i = j
    · subst h2; simp
    · have : j < i := by omega
      simp [h, h2, this]
theorem tlt_nil : tLt [] [] = false := PyProof.Rows.lex_irrefl _
structure Lin {α : Type} (lt : α → α → Bool) : Prop where
  irr : ∀ a, lt a a = false
  tri : ∀ a b, lt a b = false → lt b a = false → a = b
  trans : ∀ a b c, lt a b = true → lt b c = true → lt a c = true
structure Od (α : Type) [DecidableEq α] where
  e : α → D
  lt : α → α → Bool
  n : Nat
  ok : ∀ a, (e a).okN n
  alk : ∀ a b, alike (e a).py (e b).py = true
  step : ∀ a b l m, tLt (keyToks (e a).py ++ l) (keyToks (e b).py ++ m) = (lt a b || (decide (a = b) && tLt l m))
  inj : ∀ a b, e a = e b → a = b
  lin : Lin lt
structure Ot (α : Type) [DecidableEq α] where
  es : α → List D
  lt : α → α → Bool
  n : Nat
  ok : ∀ a, ∀ d ∈ es a, d.okN n
  alk : ∀ a b, alikeAll (D.pys (es a)) (D.pys (es b)) = true
  step : ∀ a b l m, tLt (keyToksAll (D.pys (es a)) ++ l) (keyToksAll (D.pys (es b)) ++ m) = (lt a b || (decide (a = b) && tLt l m))
  inj : ∀ a b, es a = es b → a = b
  lin : Lin lt
def odI : Od Int where
  e := .int
  lt a b := decide (a < b)
  n := 0
  ok a := D.okN_int a
  alk a b := by simp [D.py, alike]
  step a b l m := by simp only [D.py, keyToks, List.cons_append, List.nil_append]; exact tlt_int a b l m
  inj a b h := by injection h
  lin := ⟨fun a => by simp, fun a b h1 h2 => by simp at h1 h2; omega, fun a b c h1 h2 => by simp at h1 h2 ⊢; omega⟩
section
variable {α β : Type} [DecidableEq α] [DecidableEq β]
def odT (t : Ot α) : Od α where
  e a := .tup (t.es a)
  lt := t.lt
  n := t.n + 1
  ok a := D.okN_tup (t.ok a)
  alk a b := by simp only [D.py, alike]; exact t.alk a b
  step a b l m := by simp only [D.py, keyToks]; exact t.step a b l m
  inj a b h := t.inj a b (by injection h)
  lin := t.lin
def otLast (o : Od α) : Ot α where
  es a := [o.e a]
  lt := o.lt
  n := o.n
  ok a d hd := by rw [List.mem_singleton.mp hd]; exact o.ok a
  alk a b := by simp only [D.pys, alikeAll, o.alk, Bool.true_and]
  step a b l m := by
    simp only [D.pys, keyToksAll, List.cons_append, List.append_assoc, List.nil_append]
    rw [tlt_self, o.step, tlt_self]
  inj a b h := o.inj a b (by simpa using h)
  lin := o.lin
theorem lin_prod {lt : α → α → Bool} {lt' : β → β → Bool} (h : Lin lt) (h' : Lin lt') : Lin (fun (a b : α × β) => lt a.1 b.1 || (decide (a.1 = b.1) && lt' a.2 b.2)) := by
  refine ⟨fun a => by simp [h.irr, h'.irr], fun a b h1 h2 => ?_, fun a b c h1 h2 => ?_⟩
  · simp at h1 h2
    have e1 := h.tri _ _ h1.1 h2.1
    have e2 := h'.tri _ _ (h1.2 e1) (h2.2 e1.symm)
    exact Prod.ext e1 e2
  · simp at h1 h2 ⊢
    rcases h1 with h1 | ⟨e1, h1⟩
    · rcases h2 with h2 | ⟨e2, h2⟩
      · exact .inl (h.trans _ _ _ h1 h2)
      · exact .inl (by rw [← e2]; exact h1)
    · rcases h2 with h2 | ⟨e2, h2⟩
      · exact .inl (by rw [e1]; exact h2)
      · exact .inr ⟨e1.trans e2, h'.trans _ _ _ h1 h2⟩
def otCons (o : Od α) (t : Ot β) : Ot (α × β) where
  es a := o.e a.1 :: t.es a.2
  lt a b := o.lt a.1 b.1 || (decide (a.1 = b.1) && t.lt a.2 b.2)
  n := max o.n t.n
  ok a d hd := by
    rcases List.mem_cons.mp hd with rfl | hd
    · exact ⟨(o.ok a.1).1, Nat.le_trans (o.ok a.1).2 (Nat.le_max_left _ _)⟩
    · exact ⟨(t.ok a.2 d hd).1, Nat.le_trans (t.ok a.2 d hd).2 (Nat.le_max_right _ _)⟩
  alk a b := by simp only [D.pys, alikeAll, o.alk, t.alk, Bool.and_self]
  step a b l m := by
    simp only [D.pys, keyToksAll, List.cons_append, List.append_assoc]
    rw [tlt_self, o.step, t.step]
    obtain ⟨a1, a2⟩ := a
    obtain ⟨b1, b2⟩ := b
    by_cases h : a1 = b1
    · by_cases h2 : a2 = b2
      · simp [h, h2, Bool.or_assoc]
      · simp [h, h2]
    · simp [h]
  inj a b h := by
    simp only [List.cons.injEq] at h
    exact Prod.ext (o.inj _ _ h.1) (t.inj _ _ h.2)
  lin := lin_prod o.lin t.lin
def ltL (lt : α → α → Bool) : List α → List α → Bool
  | [], [] => false
  | [], _ :: _ => true
  | _ :: _, [] => false
  | x :: r, y :: t => lt x y || (decide (x = y) && ltL lt r t)
theorem ltL_irr {lt : α → α → Bool} (h : Lin lt) : ∀ a, ltL lt a a = false
  | [] => rfl
  | x :: r => by simp [ltL, h.irr, ltL_irr h r]
theorem ltL_tri {lt : α → α → Bool} (h : Lin lt) : ∀ a b, ltL lt a b = false → ltL lt b a = false → a = b
  | [], [], _, _ => rfl
  | [], _ :: _, h1, _ => by simp [ltL] at h1
  | _ :: _, [], _, h2 => by simp [ltL] at h2
  | x :: r, y :: t, h1, h2 => by
    simp [ltL] at h1 h2
    have e := h.tri x y h1.1 h2.1
    subst e
    rw [ltL_tri h r t (h1.2 rfl) (h2.2 rfl)]
theorem ltL_trans {lt : α → α → Bool} (h : Lin lt) : ∀ a b c, ltL lt a b = true → ltL lt b c = true → ltL lt a c = true
  | [], [], _, h1, _ => by simp [ltL] at h1
  | [], _ :: _, [], _, h2 => by simp [ltL] at h2
  | [], _ :: _, _ :: _, _, _ => rfl
  | _ :: _, [], _, h1, _ => by simp [ltL] at h1
  | _ :: _, _ :: _, [], _, h2 => by simp [ltL] at h2
  | x :: r, y :: t, z :: u, h1, h2 => by
    simp [ltL] at h1 h2 ⊢
    rcases h1 with h1 | ⟨rfl, h1⟩
    · rcases h2 with h2 | ⟨rfl, h2⟩
      · exact .inl (h.trans _ _ _ h1 h2)
      · exact .inl h1
    · rcases h2 with h2 | ⟨rfl, h2⟩
      · exact .inl h2
      · exact .inr ⟨rfl, ltL_trans h r t u h1 h2⟩
theorem map_inj_od (o : Od α) : ∀ a b : List α, a.map o.e = b.map o.e → a = b
  | [], [], _ => rfl
  | [], _ :: _, h => by cases h
  | _ :: _, [], h => by cases h
  | x :: r, y :: t, h => by
    simp only [List.map_cons, List.cons.injEq] at h
    rw [o.inj _ _ h.1, map_inj_od o r t h.2]
theorem alk_list (o : Od α) : ∀ a b : List α, alikeAll (D.pys (a.map o.e)) (D.pys (b.map o.e)) = true
  | [], _ => by simp [D.pys, alikeAll]
  | _ :: _, [] => by simp [D.pys, alikeAll]
  | x :: r, y :: t => by simp [D.pys, alikeAll, o.alk, alk_list o r t]
theorem step_list (o : Od α) (l m : List (Int ⊕ List Nat)) : ∀ a b : List α, tLt (keyToksAll (D.pys (a.map o.e)) ++ l) (keyToksAll (D.pys (b.map o.e)) ++ m) = (ltL o.lt a b || (decide (a = b) && tLt l m))
  | [], [] => by
    simp only [List.map_nil, D.pys, keyToksAll, List.cons_append, List.nil_append]
    rw [tlt_self]; simp [ltL]
  | [], y :: t => by
    simp only [List.map_nil, List.map_cons, D.pys, keyToksAll, List.cons_append, List.nil_append]
    rw [tlt_int]; simp [ltL]
  | x :: r, [] => by
    simp only [List.map_nil, List.map_cons, D.pys, keyToksAll, List.cons_append, List.nil_append]
    rw [tlt_int]; simp [ltL]
  | x :: r, y :: t => by
    simp only [List.map_cons, D.pys, keyToksAll, List.cons_append, List.append_assoc]
    rw [tlt_self, o.step, step_list o l m r t]
    by_cases h : x = y
    · by_cases h2 : r = t
      · simp [h, h2, ltL, Bool.or_assoc]
      · simp [h, h2, ltL]
    · simp [h, ltL]
def otList (o : Od α) : Ot (List α) where
  es a := a.map o.e
  lt := ltL o.lt
  n := o.n
  ok a d hd := by
    obtain ⟨x, _, rfl⟩ := List.mem_map.mp hd
    exact o.ok x
  alk := alk_list o
  step a b l m := step_list o l m a b
  inj := map_inj_od o
  lin := ⟨ltL_irr o.lin, ltL_tri o.lin, ltL_trans o.lin⟩
theorem od_lt' (o : Od α) (a b : α) : dataLt (o.e a).py (o.e b).py = o.lt a b := by
  have := o.step a b [] []
  rw [List.append_nil, List.append_nil, tlt_nil, Bool.and_false, Bool.or_false] at this
  exact this
def osort (o : Od α) (xs : List α) : List α := xs.mergeSort fun a b => !o.lt b a
theorem olt_or (o : Od α) (a b : α) : o.lt a b = true ∨ a = b ∨ o.lt b a = true := by
  cases h : o.lt a b with
  | true => exact .inl rfl
  | false =>
    cases h2 : o.lt b a with
    | true => exact .inr (.inr rfl)
    | false => exact .inr (.inl (o.lin.tri a b h h2))
theorem ole_trans (o : Od α) (a b c : α) (h1 : (!o.lt b a) = true) (h2 : (!o.lt c b) = true) : (!o.lt c a) = true := by
  simp only [Bool.not_eq_true'] at *
  cases h : o.lt c a with
  | false => rfl
  | true =>
    rcases olt_or o a b with z | z | z
    · have := o.lin.trans c a b h z; rw [h2] at this; cases this
    · subst z; rw [h2] at h; cases h
    · rw [h1] at z; cases z
theorem ole_total (o : Od α) (a b : α) : ((!o.lt b a) || (!o.lt a b)) = true := by
  cases h : o.lt b a with
  | false => rfl
  | true =>
    cases h2 : o.lt a b with
    | false => rfl
    | true => have := o.lin.trans a b a h2 h; rw [o.lin.irr] at this; cases this
theorem osort_perm (o : Od α) (xs : List α) : (osort o xs).Perm xs := List.mergeSort_perm ..
theorem osort_le (o : Od α) (xs : List α) : (osort o xs).Pairwise (fun a b => (!o.lt b a) = true) := List.pairwise_mergeSort (ole_trans o) (ole_total o) xs
theorem osort_eq (o : Od α) {xs ys : List α} (h : ys.Perm xs) (p : ys.Pairwise (fun a b => (!o.lt b a) = true)) : osort o xs = ys :=
  List.Perm.eq_of_pairwise (fun a b _ _ h1 h2 => by
    simp only [Bool.not_eq_true'] at h1 h2
    exact o.lin.tri a b h2 h1) (osort_le o xs) p ((osort_perm o xs).trans h.symm)
theorem le_od (o : Od α) (a b : α) : PySem.W.dataLe false D.py (o.e a) (o.e b) = !o.lt b a := by
  have e : PySem.W.dataLe false D.py (o.e a) (o.e b) = !dataLt (o.e b).py (o.e a).py := by
    simp [PySem.W.dataLe, PySem.W.sortLe, PySem.W.dataLt]
  rw [e, od_lt']
theorem okSort_od (o : Od α) {xs : List α} (h : ∀ x ∈ xs, ∃ d r, o.e x = .tup (d :: r)) (hn : o.n ≤ 60) : okSort (D.pys (xs.map o.e)) = true := by
  rw [pys_map, List.map_map]
  have mem : ∀ a ∈ xs.map (D.py ∘ o.e), ∃ x ∈ xs, a = (o.e x).py := fun a ha => by
    obtain ⟨x, hx, rfl⟩ := List.mem_map.mp ha
    exact ⟨x, hx, rfl⟩
  unfold okSort
  simp only [Bool.and_eq_true, Bool.or_eq_true]
  refine ⟨⟨⟨List.all_eq_true.mpr fun a ha => List.all_eq_true.mpr fun b hb => ?_, .inl (List.all_eq_true.mpr fun a ha => ?_)⟩, List.all_eq_true.mpr fun a ha => ?_⟩, ?_⟩
  · obtain ⟨x, _, rfl⟩ := mem a ha
    obtain ⟨y, _, rfl⟩ := mem b hb
    exact o.alk x y
  · obtain ⟨x, hx, rfl⟩ := mem a ha
    obtain ⟨d, r, e⟩ := h x hx
    rw [e]; simp [D.py, D.pys]
  · obtain ⟨x, _, rfl⟩ := mem a ha
    exact decide_eq_true (Nat.le_trans (o.ok x).2 hn)
  · rw [show xs.map (D.py ∘ o.e) = D.pys (xs.map o.e) by rw [pys_map, List.map_map]]
    exact D.niceAll_can _ (niceAll_of fun d hd => by
      obtain ⟨x, _, rfl⟩ := List.mem_map.mp hd
      exact (o.ok x).1)
theorem sm_srtO (o : Od α) {xs : List α} {P : List D → Prop} (h : ∀ x ∈ xs, ∃ d r, o.e x = .tup (d :: r)) (hn : o.n ≤ 60) : Sm (srtG [.lst (xs.map o.e)]) P ↔ xs.length ≤ 16777216 ∧ P ((osort o xs).map o.e) := by
  show Sm (if okSort (D.pys (xs.map o.e)) = true ∧ (xs.map o.e).length ≤ sizeLine then some ((xs.map o.e).mergeSort (PySem.W.dataLe false D.py)) else none) P ↔ _
  rw [sm_ite, sm_some, sizeLine_eq, List.length_map]
  have : (xs.map o.e).mergeSort (PySem.W.dataLe false D.py) = (osort o xs).map o.e := (List.map_mergeSort fun a _ b _ => (le_od o a b).symm).symm
  rw [this]
  simp [okSort_od o h hn]
theorem sm_srtH1 {P : List D → Prop} : Sm (srtH [.lst [.tup []]]) P ↔ P [.tup []] := sm_some
theorem sm_srtHO (o : Od α) {xs : List α} {P : List D → Prop} (h : ∀ x ∈ xs, ∃ d r, o.e x = .tup (d :: r)) (hn : o.n ≤ 60) : Sm (srtH [.lst (xs.map o.e)]) P ↔ xs.length ≤ 16777216 ∧ P ((osort o xs).map o.e) := by
  rw [← sm_srtO o h hn]
  have : srtH [.lst (xs.map o.e)] = srtG [.lst (xs.map o.e)] := by
    unfold srtH
    split
    · rename_i e
      exfalso
      injection e with e _
      injection e with e
      cases xs with
      | nil => cases e
      | cons x r =>
        obtain ⟨d, t, hx⟩ := h x List.mem_cons_self
        rw [List.map_cons] at e
        injection e with e _
        rw [hx] at e
        cases e
    · rfl
  rw [this]
theorem sm_ltN (t : Ot α) (hn : t.n ≤ 59) {a b : α} {P : D → Prop} : Sm (ltN ((odT t).e a) ((odT t).e b)) P ↔ P (.bl (t.lt a b)) := by
  refine sm_eq ?_
  have : ltN ((odT t).e a) ((odT t).e b) = if alike ((odT t).e a).py ((odT t).e b).py = true ∧ ((odT t).e a).nice = true ∧ ((odT t).e b).nice = true ∧ ((odT t).e a).py.depth ≤ 60 then some (.bl (dataLt ((odT t).e a).py ((odT t).e b).py)) else none := rfl
  rw [this, if_pos ⟨(odT t).alk a b, ((odT t).ok a).1, ((odT t).ok b).1, Nat.le_trans ((odT t).ok a).2 (by show t.n + 1 ≤ 60; omega)⟩, od_lt']
  rfl
end
end GH

namespace GH
open PySem PySem.Spec PyProof.Rows L2
section
variable {α : Type}
def tk (k : List Int) : List Key := k.map Sum.inl
theorem tk_inj {a b : List Int} (h : tk a = tk b) : a = b := by
  unfold tk at h
  induction a generalizing b with
  | nil => cases b with
    | nil => rfl
    | cons _ _ => cases h
  | cons x r ih => cases b with
    | nil => cases h
    | cons y t =>
      simp only [List.map_cons, List.cons.injEq] at h
      rw [Sum.inl.inj h.1, ih h.2]
def dkT (l : List (List Int × α)) : List (List Key) := l.map fun p => tk p.1
def dvT (f : α → D) (l : List (List Int × α)) : List D := l.map fun p => f p.2
def lkT : List (List Int × α) → List Int → Option α
  | [], _ => none
  | p :: r, k => if p.1 = k then some p.2 else lkT r k
def stT : List (List Int × α) → List Int → α → List (List Int × α)
  | [], k, v => [(k, v)]
  | p :: r, k, v => if p.1 = k then (k, v) :: r else p :: stT r k v
theorem kGet_lkT (f : α → D) (l : List (List Int × α)) (k : List Int) : kGet (dkT l) (dvT f l) (tk k) = (lkT l k).map f := by
  induction l with
  | nil => rfl
  | cons p r ih =>
    show (if tk p.1 = tk k then some (f p.2) else kGet (dkT r) (dvT f r) (tk k)) = _
    unfold lkT
    by_cases h : p.1 = k
    · rw [if_pos (by rw [h]), if_pos h]; rfl
    · rw [if_neg (fun z => h (tk_inj z)), if_neg h]; exact ih
theorem lkT_none {l : List (List Int × α)} {k : List Int} : lkT l k = none ↔ k ∉ l.map (·.1) := by
  induction l with
  | nil => simp [lkT]
  | cons p r ih =>
    unfold lkT
    by_cases h : p.1 = k
    · simp [h]
    · have : ¬ k = p.1 := fun z => h z.symm
      simp [h, ih, this]
theorem mem_dkT {l : List (List Int × α)} {k : List Int} : tk k ∈ dkT l ↔ k ∈ l.map (·.1) := by
  unfold dkT
  constructor
  · intro h
    obtain ⟨q, h1, h2⟩ := List.mem_map.mp h
    exact List.mem_map.mpr ⟨q, h1, tk_inj h2⟩
  · intro h
    obtain ⟨q, h1, h2⟩ := List.mem_map.mp h
    exact List.mem_map.mpr ⟨q, h1, by rw [h2]⟩
theorem stT_new {l : List (List Int × α)} {k : List Int} {v : α} (h : k ∉ l.map (·.1)) : stT l k v = l ++ [(k, v)] := by
  induction l with
  | nil => rfl
  | cons p r ih =>
    simp at h
    unfold stT
    rw [if_neg (fun z => h.1 z.symm), ih (by simpa using h.2)]; rfl
theorem put_newT {l : List (List Int × α)} {k : List Int} {v : α} {f : α → D} (h : k ∉ l.map (·.1)) : kPutK (dkT l) (tk k) = dkT (l ++ [(k, v)]) ∧ kPutD (dkT l) (dvT f l) (tk k) (f v) = dvT f (l ++ [(k, v)]) := by
  have : ¬ tk k ∈ dkT l := fun z => h (mem_dkT.mp z)
  unfold kPutK kPutD
  rw [if_neg this, if_neg this]
  simp [dkT, dvT]
theorem put_stT {l : List (List Int × α)} {k : List Int} {v : α} {f : α → D} (hn : (l.map (·.1)).Nodup) : kPutK (dkT l) (tk k) = dkT (stT l k v) ∧ kPutD (dkT l) (dvT f l) (tk k) (f v) = dvT f (stT l k v) := by
  by_cases h : k ∈ l.map (·.1)
  · have hk : tk k ∈ dkT l := mem_dkT.mpr h
    unfold kPutK kPutD
    rw [if_pos hk, if_pos hk]
    clear hk
    induction l with
    | nil => simp at h
    | cons p r ih =>
      rw [List.map_cons, List.nodup_cons] at hn
      by_cases e : p.1 = k
      · subst e
        have : stT (p :: r) p.1 v = (p.1, v) :: r := by unfold stT; rw [if_pos rfl]
        rw [this]
        refine ⟨rfl, ?_⟩
        show (if tk p.1 = tk p.1 then f v else f p.2) :: kRep (dkT r) (dvT f r) (tk p.1) (f v) = f v :: dvT f r
        rw [if_pos rfl]
        congr 1
        have nin : p.1 ∉ r.map (·.1) := hn.1
        clear ih h hn this
        induction r with
        | nil => rfl
        | cons q t ih =>
          simp at nin
          show (if tk q.1 = tk p.1 then f v else f q.2) :: kRep (dkT t) (dvT f t) (tk p.1) (f v) = f q.2 :: dvT f t
          rw [if_neg (fun z => nin.1 (tk_inj z).symm), ih (by simpa using nin.2)]
      · have h' : k ∈ r.map (·.1) := by
          rw [List.map_cons] at h
          rcases List.mem_cons.mp h with z | z
          · exact absurd z.symm e
          · exact z
        have : stT (p :: r) k v = p :: stT r k v := by
          show (if p.1 = k then _ else _) = _
          rw [if_neg e]
        rw [this]
        obtain ⟨i1, i2⟩ := ih hn.2 h'
        refine ⟨by show tk p.1 :: dkT r = tk p.1 :: dkT (stT r k v); rw [← i1], ?_⟩
        show (if tk p.1 = tk k then f v else f p.2) :: kRep (dkT r) (dvT f r) (tk k) (f v) = f p.2 :: dvT f (stT r k v)
        rw [if_neg (fun z => e (tk_inj z)), i2]
  · rw [stT_new h]; exact put_newT h
theorem lkT_stT {l : List (List Int × α)} {k j : List Int} {v : α} : lkT (stT l k v) j = if j = k then some v else lkT l j := by
  induction l with
  | nil =>
    show (if k = j then some v else none) = _
    by_cases h : j = k
    · rw [if_pos h, if_pos h.symm]
    · rw [if_neg h, if_neg (fun z => h z.symm)]; rfl
  | cons p r ih =>
    unfold stT
    by_cases e : p.1 = k
    · rw [if_pos e]
      show (if k = j then some v else lkT r j) = _
      by_cases h : j = k
      · rw [if_pos h, if_pos h.symm]
      · rw [if_neg h, if_neg (fun z => h z.symm)]
        show _ = if p.1 = j then some p.2 else lkT r j
        rw [if_neg (fun z => h (z.symm.trans e))]
    · rw [if_neg e]
      show (if p.1 = j then some p.2 else lkT (stT r k v) j) = _
      rw [ih]
      show _ = if j = k then some v else if p.1 = j then some p.2 else lkT r j
      by_cases h : j = k
      · subst h; rw [if_neg e, if_pos rfl, if_pos rfl]
      · rw [if_neg h, if_neg h]
theorem stT_keys {l : List (List Int × α)} {k j : List Int} {v : α} : j ∈ (stT l k v).map (·.1) ↔ j = k ∨ j ∈ l.map (·.1) := by
  have h1 := lkT_none (l := stT l k v) (k := j)
  rw [lkT_stT] at h1
  by_cases h : j = k
  · rw [if_pos h] at h1
    constructor
    · exact fun _ => .inl h
    · intro _
      exact by_contra' fun z => by have := h1.mpr z; cases this
  · rw [if_neg h, lkT_none] at h1
    constructor
    · intro z
      exact .inr (by_contra' fun y => h1.mp y z)
    · rintro (z | z)
      · exact absurd z h
      · exact by_contra' fun y => h1.mpr y z
theorem stT_nodup {l : List (List Int × α)} {k : List Int} {v : α} (h : (l.map (·.1)).Nodup) : ((stT l k v).map (·.1)).Nodup := by
  induction l with
  | nil => simp [stT]
  | cons p r ih =>
    rw [List.map_cons, List.nodup_cons] at h
    unfold stT
    by_cases e : p.1 = k
    · rw [if_pos e, List.map_cons, List.nodup_cons]
      exact ⟨by rw [← e]; exact h.1, h.2⟩
    · rw [if_neg e, List.map_cons, List.nodup_cons]
      refine ⟨fun z => ?_, ih h.2⟩
      rcases stT_keys.mp z with y | y
      · exact e y
      · exact h.1 y
theorem lkT_of {l : List (List Int × α)} {p : List Int × α} (h : (l.map (·.1)).Nodup) (hp : p ∈ l) : lkT l p.1 = some p.2 := by
  induction l with
  | nil => simp at hp
  | cons q r ih =>
    rw [List.map_cons, List.nodup_cons] at h
    rcases List.mem_cons.mp hp with z | z
    · subst z; unfold lkT; rw [if_pos rfl]
    · unfold lkT
      rw [if_neg fun y => h.1 (List.mem_map.mpr ⟨p, z, y.symm⟩)]
      exact ih h.2 z
theorem lkT_isSome {l : List (List Int × α)} {k : List Int} : (lkT l k).isSome = decide (k ∈ l.map (·.1)) := by
  cases h : lkT l k with
  | none => rw [decide_eq_false (lkT_none.mp h)]; rfl
  | some v => rw [decide_eq_true (by_contra' fun z => by rw [lkT_none.mpr z] at h; cases h)]; rfl
theorem keysD_tk (k : List Int) : keysD (tk k) = eT k := by
  unfold keysD tk eT; rw [List.map_map]; rfl
theorem dkT_keysD {l : List (List Int × α)} : (dkT l).map keysD = (l.map (·.1)).map eT := by
  unfold dkT; rw [List.map_map, List.map_map]
  exact List.map_congr_left fun p _ => keysD_tk p.1
theorem dkT_len {l : List (List Int × α)} : (dkT l).length = l.length := by simp [dkT]
theorem sm_keysE {k : List Int} {P : List Key → Prop} : Sm (dKeys (eT k)) P ↔ P (tk k) := sm_keysT
end
section
variable {env : List (Option Sl)} {c : Src}
theorem wp_iDct {i : Nat} {Q : List D → S → Prop} : Wp (iDct i) ⟨env, c⟩ Q ↔ DctAt env i fun ds => Q ds ⟨env, c⟩ := by
  constructor
  · rintro ⟨o, s', e, q⟩
    unfold iDct at e
    split at e
    · rename_i h; cases e; exact .inl ⟨_, _, h, q⟩
    · rename_i h; cases e; exact .inr ⟨_, _, h, q⟩
    · cases e
  · rintro (⟨_, _, h, q⟩ | ⟨_, _, h, q⟩)
    · exact ⟨_, _, by unfold iDct; rw [h], q⟩
    · exact ⟨_, _, by unfold iDct; rw [h], q⟩
theorem wp_vals {s : S} {m : M D} {Q : List D → S → Prop} : Wp (bnd m fun d => lift (valsL d)) s Q ↔ Wp m s fun d s1 => Sm (valsL d) fun y => Q y s1 :=
  wp_bnd.trans (wp_cg fun _ _ => wp_lift)
theorem sm_valsT {ks : List (List Key)} {ds : List D} {P : List D → Prop} : Sm (valsL (.dtt ks ds)) P ↔ P ds := sm_some
def OwnTAt (env : List (Option Sl)) (i : Nat) (P : List (List Key) → Prop) (_ : Ph P := .mk) : Prop := ∃ ks ds, env[i]? = some (some (.ownT ks ds)) ∧ P ks
theorem ownTAt_z {ks : List (List Key)} {ds : List D} {r : List (Option Sl)} {P : List (List Key) → Prop} : OwnTAt (some (.ownT ks ds) :: r) 0 P ↔ P ks := ⟨fun ⟨_, _, e, p⟩ => by cases e; exact p, fun p => ⟨ks, ds, rfl, p⟩⟩
theorem ownTAt_s {y : Option Sl} {i : Nat} {r : List (Option Sl)} {P : List (List Key) → Prop} : OwnTAt (y :: r) (i + 1) P ↔ OwnTAt r i P := by unfold OwnTAt; simp
theorem wp_lstT {i : Nat} {Q : D → S → Prop} : Wp (eLstT i) ⟨env, c⟩ Q ↔ OwnTAt env i fun ks => Q (.lst (ks.map keysD)) ⟨env, c⟩ := by
  constructor
  · rintro ⟨o, s', e, q⟩
    unfold eLstT at e
    split at e
    · rename_i h; cases e; exact ⟨_, _, h, q⟩
    · cases e
  · rintro ⟨ks, ds, h, q⟩
    exact ⟨_, _, by unfold eLstT; rw [h], q⟩
def turnK (g : D → M Unit) (c : M Bool) (ek el : M D) (d : D) : M (Option (List Key × D)) := bnd (g d) fun _ => bnd c fun b => if b = true then bnd ek fun y => bnd el fun z => bnd (lift (dKeys y)) fun k => ret (some (k, z)) else ret none
def dcE (vs : List Nat) (g : D → M Unit) (c : M Bool) (ek el : M D) (l : List D) : M Sl := fun s1 => match dcF vs g c ek el l [] [] s1 with
    | some (r, sn) => some (.ownT r.1 r.2, { sn with env := restE s1.env sn.env vs })
    | none => none
variable {vs : List Nat} {g : D → M Unit} {mc : M Bool} {ek el : M D} {it : M (List D)} {s : S}
theorem wp_nDcT {Q : Sl → S → Prop} : Wp (nDcT vs g mc ek el it) s Q ↔ Wp it s fun l s1 => Wp (dcE vs g mc ek el l) s1 Q := wp_bnd
theorem wp_turnK {d : D} {Q : Option (List Key × D) → S → Prop} : Wp (turnK g mc ek el d) s Q ↔ Wp (g d) s fun _ s1 => Wp mc s1 fun b s2 => IfB b (Wp ek s2 fun y s3 => Wp el s3 fun z s4 => Sm (dKeys y) fun k => Q (some (k, z)) s4) (Q none s2) :=
  wp_bnd.trans (wp_cg fun _ _ => wp_bnd.trans (wp_cg fun _ _ => wp_iteB.trans (ifB_cg (wp_bnd.trans (wp_cg fun _ _ => wp_bnd.trans (wp_cg fun _ _ => wp_bnd.trans (wp_lift.trans (sm_cg fun _ => wp_ret))))) wp_ret)))
theorem wp_dcF {α : Type} {enc : α → D} (p : α → Bool) (kf : α → List Int) (vf : α → D) {xs : List α} {Q : Sl → S → Prop} (hl : xs.length < 16777216) (hn : (xs.map kf).Nodup) (cl : cleanE env vs)
    (step : ∀ x ∈ xs, Wp (turnK g mc ek el (enc x)) ⟨wipeE env vs, c⟩ fun o s' => o = (if p x = true then some (tk (kf x), vf x) else none) ∧ s'.src = c ∧ wipeE s'.env vs = wipeE env vs)
    (q : Q (.ownT ((xs.filter p).map fun x => tk (kf x)) ((xs.filter p).map vf)) ⟨env, c⟩) : Wp (dcE vs g mc ek el (xs.map enc)) ⟨env, c⟩ Q := by
  have main : ∀ (ys done : List α) (env0 : List (Option Sl)), wipeE env0 vs = wipeE env vs → (∀ x ∈ ys, x ∈ xs) → (done ++ ys).length < 16777216 → ((done ++ ys).map kf).Nodup →
      ∃ env2, dcF vs g mc ek el (ys.map enc) ((done.filter p).map fun x => tk (kf x)) ((done.filter p).map vf) ⟨env0, c⟩ = some ((((done ++ ys).filter p).map fun x => tk (kf x), ((done ++ ys).filter p).map vf), ⟨env2, c⟩) ∧ wipeE env2 vs = wipeE env vs := fun ys => by
    induction ys with
    | nil => intro done env0 h _ _ _; exact ⟨env0, by rw [List.append_nil]; rfl, h⟩
    | cons x r ih =>
      intro done env0 h sub hlen nd
      obtain ⟨o, ⟨e1, c1⟩, g1, ho, g2, g3⟩ := step x (sub x List.mem_cons_self)
      simp only at g2 g3
      subst g2
      have g0 : dStep vs g mc ek el (enc x) ⟨env0, c1⟩ = some (o, ⟨e1, c1⟩) := by
        show turnK g mc ek el (enc x) ⟨wipeE env0 vs, c1⟩ = _
        rw [h]; exact g1
      have e9 : done ++ x :: r = (done ++ [x]) ++ r := by simp
      obtain ⟨env2, f1, f2⟩ := ih (done ++ [x]) e1 g3 (fun y hy => sub y (List.mem_cons_of_mem _ hy)) (by rw [← e9]; exact hlen) (by rw [← e9]; exact nd)
      refine ⟨env2, ?_, f2⟩
      rw [e9, ← f1]
      show bnd (dStep vs g mc ek el (enc x)) _ _ = _
      rw [bnd_eq g0]
      subst ho
      by_cases hp : p x = true
      · rw [if_pos hp]
        have hlt : ((done.filter p).map fun x => tk (kf x)).length < sizeLine := by
          rw [sizeLine_eq, List.length_map]
          have := List.length_filter_le p done
          rw [List.length_append] at hlen
          omega
        have hnin : ¬ tk (kf x) ∈ (done.filter p).map fun x => tk (kf x) := fun z => by
          obtain ⟨y, hy, e⟩ := List.mem_map.mp z
          have hy' := (List.mem_filter.mp hy).1
          rw [List.map_append, List.nodup_append] at nd
          exact nd.2.2 _ (List.mem_map_of_mem hy') _ (by rw [List.map_cons]; exact List.mem_cons_self) (tk_inj e)
        show (if ((done.filter p).map fun x => tk (kf x)).length < sizeLine then dcF vs g mc ek el (r.map enc) (kPutK ((done.filter p).map fun x => tk (kf x)) (tk (kf x))) (kPutD ((done.filter p).map fun x => tk (kf x)) ((done.filter p).map vf) (tk (kf x)) (vf x)) else fail : M _) ⟨e1, c1⟩ = _
        rw [if_pos hlt]
        unfold kPutK kPutD
        rw [if_neg hnin, if_neg hnin, List.filter_append, List.filter_cons, if_pos hp]
        simp
      · rw [if_neg hp]
        rw [List.filter_append, List.filter_cons, if_neg hp]
        simp
  obtain ⟨env2, h3, h4⟩ := main xs [] env rfl (fun _ h => h) (by simpa using hl) (by simpa using hn)
  refine ⟨_, ⟨env, c⟩, ?_, q⟩
  unfold dcE
  rw [show dcF vs g mc ek el (xs.map enc) [] [] ⟨env, c⟩ = _ from h3]
  show some (_, (⟨restE env env2 vs, c⟩ : S)) = _
  rw [rest_clean h4 cl]
  rfl
end
end GH

namespace GH
open PySem PySem.Spec PyProof.Rows L2
section
variable {X : Cx} {p pos : Pos} {e : Expr} {es : List Expr} {ms : M (List D)}
def gcdG : List D → Option D
  | [.int a, .int b] => some (.int ((Nat.gcd a.natAbs b.natAbs : Nat) : Int))
  | _ => none
theorem c_gcd : CallD X (.builtin "math.gcd") gcdG := callD_cases fun ds d p W he => by
  unfold gcdG at he
  split at he
  · cases he
    refine CallR.imp cr_gcd fun vs H Q ⟨hw, hx, hq⟩ => ?_
    obtain ⟨v, u, rfl, r1, r2⟩ := rps2 hx
    exact ⟨_, _, by rw [rp_int r1, rp_int r2], hq _ _ (Same.refl H) (.mkInt _)⟩
  · cases he
theorem s_callM {id : String} {x : Str} {g : List D → Option D} (hc : CallD X (.builtin id) g) (hg : Gl X x) (hm : X.mg x = some (.builtin id)) (ha : SA X (e :: es) ms) (hdb : (x == ("__debug__" : Str)) = false := by decide)
    (he : starEach (e :: es) X.env = (false, eval e X.env) :: starEach es X.env := by rfl) (hpl : (backTo pos (starEach es X.env)).any (·.1) = false := by rfl) : SE X (.Call (.Name x p) (e :: es) [] pos) (eCall g ms) :=
  ⟨fun B => PE.imp (pe_callBfun hc hg hm (ha.pa B) hdb he hpl) fun σ H Q h => call_go h⟩
def imulD : D → D → Option D
  | .int i, .int j => if CMul i j then some (.int (i * j)) else none
  | _, _ => none
instance (i j : Int) : Decidable (CMul i j) := by unfold CMul; infer_instance
theorem od_imul : OpD X (inplaceOp .Mult) imulD := opD_cases fun dx dy d p W he => by
  unfold imulD at he
  split at he
  · split at he
    · cases he
      rename_i hc
      exact OpR.imp iop_mul fun x y H Q ⟨hw, hx, hy, hq⟩ => ⟨_, _, rp_int hx, rp_int hy, hc, hq _ _ (Same.refl H) (.mkInt _)⟩
    · cases he
  · cases he
def sAugO (i : Nat) (g : D → D → Option D) (m : M D) : M Out := fun s0 => match s0.env[i]? with
  | some (some (.val x)) => bnd m (fun d => bnd (lift (g x d)) fun z => bnd (gN i z) fun _ => ret .nx) s0
  | _ => none
theorem s_augO {op : Operator} {g : D → D → Option D} {m : M D} {i : Nat} {x : Str} {pos' : Pos} (hN : X.N.Nodup) (hi : X.N[i]? = some x) (hx : Loc X.env.scope x) (he : SE X e m) (ho : OpD X (inplaceOp op) g)
    (hf : X.fn x = true ∨ X.env.scope.names.lookup x = some .local := by first | exact .inl rfl | exact .inr rfl | assumption) : SS X (.AugAssign (.Name x pos') op e pos) (sAugO i g m) :=
  ⟨fun B => PS.imp (ps_aug hN hi hx (he.pe B) ho hf) fun Dn σ H ⟨s, o, s', k, e, q⟩ => by
    unfold sAugO at e
    split at e
    · rename_i dx hd
      obtain ⟨v, h1, h2⟩ := k.val i dx hd
      refine ⟨v, h1, ?_⟩
      refine tI.bind k e fun d s1 u H1 h3 e1 k1 ev1 r1 => ?_
      obtain ⟨z, s2, e2, e3⟩ := bnd_some e1
      obtain ⟨e4, hs2⟩ := lift_some e2
      subst hs2
      refine ⟨B.p, _, dx, d, z, k1.wt, Rp.ev ev1 _ _ h2, r1, e4, fun w H' sm r => ?_⟩
      obtain ⟨_, s3, e5, e6⟩ := bnd_some e3
      obtain ⟨rfl, rfl⟩ := ret_some e6
      unfold gN at e5
      split at e5
      · rename_i hl
        cases e5
        obtain ⟨k', ev⟩ := (k1.same sm).set hl r
        exact q _ H' k' ((ev1.trans (Ev.same sm)).trans ev)
      · cases e5
    · cases e⟩
end
section
variable {env : List (Option Sl)} {c : Src}
theorem sm_gcd {a b : Int} {P : D → Prop} : Sm (gcdG [.int a, .int b]) P ↔ P (.int ((Nat.gcd a.natAbs b.natAbs : Nat) : Int)) := sm_some
theorem sm_imul {a b : Int} {P : D → Prop} : Sm (imulD (.int a) (.int b)) P ↔ CMul a b ∧ P (.int (a * b)) := by
  show Sm (if CMul a b then some (D.int (a * b)) else none) P ↔ _
  rw [sm_ite, sm_some]
theorem wp_augO {i : Nat} {g : D → D → Option D} {m : M D} {Q : Out → S → Prop} : Wp (sAugO i g m) ⟨env, c⟩ Q ↔ VarAt env i fun x => Wp m ⟨env, c⟩ fun d s1 => Sm (g x d) fun z => SetAt s1.env i (some (.val z)) fun e => Q .nx ⟨e, s1.src⟩ := by
  have go : ∀ {x : D} {s : S}, Wp (bnd m fun d => bnd (lift (g x d)) fun z => bnd (gN i z) fun _ => (ret .nx : M Out)) s Q ↔ Wp m s fun d s1 => Sm (g x d) fun z => SetAt s1.env i (some (.val z)) fun e => Q .nx ⟨e, s1.src⟩ :=
    fun {x s} => wp_bnd.trans (wp_cg fun _ _ => wp_bnd.trans (wp_lift.trans (sm_cg fun _ => wp_bnd.trans (wp_gN.trans (setAt_cg fun _ => wp_ret)))))
  constructor
  · rintro ⟨a, s', e, q⟩
    unfold sAugO at e
    split at e
    · rename_i x h
      exact ⟨x, h, go.mp ⟨_, _, e, q⟩⟩
    · cases e
  · rintro ⟨x, h, q⟩
    obtain ⟨a, s', e, q'⟩ := go.mpr q
    exact ⟨a, s', by unfold sAugO; rw [h]; exact e, q'⟩
end
end GH

namespace GH
open PySem PySem.Spec PyProof.Rows L2
structure Ap4 (z TI TO i1 i2 i3 i4 : Addr) (f1 f2 f3 f4 : List Addr) : Prop where
  TIz : TI ≠ z
  TOz : TO ≠ z
  TITO : TI ≠ TO
  TIi1 : TI ≠ i1
  mem1 : i1 ∈ f1
  zf1 : z ∉ f1
  Tf1 : TO ∉ f1
  ap12 : i1 ∉ f2
  ap13 : i1 ∉ f3
  ap14 : i1 ∉ f4
  TIi2 : TI ≠ i2
  mem2 : i2 ∈ f2
  zf2 : z ∉ f2
  Tf2 : TO ∉ f2
  ap21 : i2 ∉ f1
  ap23 : i2 ∉ f3
  ap24 : i2 ∉ f4
  TIi3 : TI ≠ i3
  mem3 : i3 ∈ f3
  zf3 : z ∉ f3
  Tf3 : TO ∉ f3
  ap31 : i3 ∉ f1
  ap32 : i3 ∉ f2
  ap34 : i3 ∉ f4
  TIi4 : TI ≠ i4
  mem4 : i4 ∈ f4
  zf4 : z ∉ f4
  Tf4 : TO ∉ f4
  ap41 : i4 ∉ f1
  ap42 : i4 ∉ f2
  ap43 : i4 ∉ f3
section
variable {prog : Program} {w : World} {A : Around} {E : Value → Shared → Prop} {s : Shared} {z TI TO i1 i2 i3 i4 : Addr} {f1 f2 f3 f4 : List Addr} {n i : Nat} {P1 P2 P3 P4 : Nat → Value → Prop} {St1 St2 St3 St4 : Nat → Heap → Prop} {a1 a2 a3 a4 : Value}
end
section
variable {prog : Program} {w : World} {A : Around} {E : Value → Shared → Prop} {s : Shared}
end
section
variable {X : Cx} {a b c e : Expr} {elts : List Expr} {kk : Nat} {tpos p pos : Pos} {ma mb mc me : M D}
end
section
variable {ma mb mc me : M D} {s : S} {Q : List D → S → Prop} {α β γ δ : Type}
end
end GH

namespace GH
open PySem PySem.Spec PyProof.Rows L2
section
variable {X : Cx}
end
end GH

namespace GH
open PySem PySem.Spec PyProof.Rows L2
section
variable {prog : Program} {w : World} {A : Around} {E : Value → Shared → Prop} {s : Shared} {z TI TO i1 i2 : Addr} {f1 f2 : List Addr} {n i : Nat} {P1 P2 : Nat → Value → Prop} {St1 St2 : Nat → Heap → Prop} {a1 a2 : Value}
end
section
variable {prog : Program} {w : World} {A : Around} {E : Value → Shared → Prop} {s : Shared}
end
section
end
section
variable {M : Model} {A : Around} {E : Value → Shared → Prop} {s : Shared} {env : Env}
end
section
variable {X : Cx} {a b kv : Expr} {elts : List Expr} {kk : Nat} {tpos p pos kp : Pos} {ma mb : M D}
end
section
variable {ma mb : M D} {s : S} {Q : List D → S → Prop} {α β : Type}
end
end GH

namespace GH
open PySem PySem.Spec PyProof.Rows L2
structure ZQ (h : Heap) (z TI TO i1 i2 l1 l2 : Addr) (xs ys : Array Value) (S : Addr) (i : Nat) : Prop where
  ti : IsPair h TI (.ref i1) (.ref i2)
  h1 : h.IsListIter i1 l1 i
  h2 : h.IsListIter i2 l2 i
  x1 : h.IsList l1 xs
  x2 : h.IsList l2 ys
  fre : (IsZip h z TI TO .none ∧ ∃ a b, IsPair h TO a b) ∨ ∃ T f oT, IsZipHeld h z TI TO T f ∧ h.get? T = some oT ∧ T ≠ z ∧ T ≠ i1 ∧ T ≠ i2 ∧ T ≠ S
theorem ZQ.keep {h h' : Heap} {z TI TO i1 i2 l1 l2 S : Addr} {xs ys : Array Value} {i : Nat} (q : ZQ h z TI TO i1 i2 l1 l2 xs ys S i) (n : ∀ b ∈ [z, TI, TO, i1, i2, l1, l2], b ≠ S) (k : ∀ b o, b ≠ S → h.get? b = some o → h'.get? b = some o) : ZQ h' z TI TO i1 i2 l1 l2 xs ys S i := by
  simp only [List.mem_cons, List.not_mem_nil, or_false, forall_eq_or_imp, forall_eq] at n
  obtain ⟨n1, n2, n3, n4, n5, n6, n7⟩ := n
  refine ⟨k _ _ n2 q.ti, q.h1.at fun o e => k _ o n4 e, q.h2.at fun o e => k _ o n5 e, q.x1.at fun o e => k _ o n6 e, q.x2.at fun o e => k _ o n7 e, ?_⟩
  rcases q.fre with ⟨hz, a, b, hO⟩ | ⟨T, f, oT, hz, hT, r1, r2, r3, r4⟩
  · exact .inl ⟨k _ _ n1 hz, a, b, k _ _ n3 hO⟩
  · exact .inr ⟨T, f, oT, k _ _ n1 hz, k _ _ r4 hT, r1, r2, r3, r4⟩
section
variable {prog : Program} {w : World} {A : Around} {E : Value → Shared → Prop} {s : Shared} {z TI TO i1 i2 l1 l2 S : Addr} {xs ys : Array Value} {i : Nat}
end
section
variable {X : Cx} {a b : Expr} {p1 p2 pos pos2 : Pos} {ma mb : M D}
end
section
variable {ma mb : M D} {s : S} {Q : List D → S → Prop}
end
end GH

namespace GH
open PySem PySem.Spec PyProof.Rows L2
abbrev Rw := Bool × Addr × List Value
structure RI (h : Heap) (N : Nat) (rs : List Rw) (i : Nat → Nat) : Prop where
  at_ : ∀ (j : Nat) (r : Rw), rs[j]? = some r → ITr r.1 (N + j) r.2.1 (i j) h ∧ CN r.1 r.2.1 r.2.2.toArray h
structure RB (N : Nat) (rs : List Rw) (n : Nat) : Prop where
  lt : ∀ r ∈ rs, r.2.1 < N
  len : ∀ r ∈ rs, r.2.2.length = n
section
variable {prog : Program} {w : World} {A : Around} {E : Value → Shared → Prop} {s : Shared} {N n i : Nat} {rs : List Rw} {f0 f1 : Value} {arr : Array Value}
theorem CN.keepZ {k : Bool} {a : Addr} {items : Array Value} {h h' : Heap} (x : CN k a items h) (kp : ∀ o, h.get? a = some o → h'.get? a = some o) : CN k a items h' := by
  cases k with
  | true => exact Heap.IsList.at x kp
  | false => obtain ⟨o, e, r⟩ := x; exact ⟨o, kp o e, r⟩
structure LpF (hp h : Heap) (N : Nat) (rs : List Rw) (i k : Nat) : Prop where
  sz : h.objs.size = hp.objs.size
  kp : ∀ c o, (c < N ∨ c = N + rs.length ∨ N + rs.length + 2 < c) → hp.get? c = some o → h.get? c = some o
  ri : RI h N rs fun j => if j < k then i + 1 else i
theorem RI.same {h h' : Heap} {i' : Nat → Nat} {b : Addr} (r : RI h N rs i') (hb : RB N rs n) (hs : Heap.SameBut b h h') (hbn : N + rs.length ≤ b) : RI h' N rs i' := ⟨fun j rw hj => by
  obtain ⟨g1, g2⟩ := r.at_ j rw hj
  have hj2 := (List.getElem?_eq_some_iff.mp hj).1
  have ha := hb.lt rw (List.mem_of_getElem? hj)
  exact ⟨g1.keep fun o q => hs.extBut _ _ (Nat.ne_of_lt (Nat.lt_of_lt_of_le (Nat.add_lt_add_left hj2 N) hbn)) q, g2.keepZ fun o q => hs.extBut _ _ (Nat.ne_of_lt (Nat.lt_of_lt_of_le ha (Nat.le_trans (Nat.le_add_right _ _) hbn))) q⟩⟩
end
end GH

namespace GH
open PySem PySem.Spec PyProof.Rows L2
end GH

namespace GH
open PySem PySem.Spec PyProof.Rows L2
end GH

namespace GH
open PySem PySem.Spec PyProof.Rows L2
section
variable {X : Cx}
end
end GH

namespace GH
open PySem PySem.Spec PyProof.Rows L2
def mFrzN (i : Nat) : M Unit := fun s => match s.env[i]? with
  | some (some _) => (eFrz i s).map fun p => ((), p.2)
  | _ => some ((), s)
section
variable {X : Cx}
theorem s_frzN {st : Stmt} {i : Nat} {m : M Out} (h : SS X st m) : SS X st (bnd (mFrzN i) fun _ => m) := ⟨fun B => PS.imp (h.ps B) fun Dn σ H ⟨s, o, s', k, e, q⟩ => by
  obtain ⟨d, s1, e1, e2⟩ := bnd_some e
  unfold mFrzN at e1
  split at e1
  · obtain ⟨⟨d1, s2⟩, e3, e4⟩ := Option.map_eq_some_iff.mp e1
    cases e4
    obtain ⟨k1, ev⟩ := frz_ok k e3
    exact ⟨s2, o, s', k1, e2, q.ev ev⟩
  · cases e1
    exact ⟨s, o, s', k, e2, q⟩⟩
variable {env : List (Option Sl)} {c : Src} {s : S} {Q : Unit → S → Prop}
def FrzNAt (env : List (Option Sl)) (i : Nat) (P : List (Option Sl) → Prop) (_ : Ph P := .mk) : Prop := match env[i]? with
  | some (some sl) => P (env.set i (some (.val sl.bor)))
  | _ => P env
theorem wp_frzN {i : Nat} : Wp (mFrzN i) ⟨env, c⟩ Q ↔ FrzNAt env i fun e => Q () ⟨e, c⟩ := by
  unfold FrzNAt
  split
  · rename_i sl h
    have e : mFrzN i ⟨env, c⟩ = (eFrz i ⟨env, c⟩).map fun p => ((), p.2) := by
      unfold mFrzN
      rw [show (⟨env, c⟩ : S).env[i]? = some (some sl) from h]
    have hw := wp_frz (Q := fun _ s => Q () s) (i := i) (env := env) (c := c)
    constructor
    · rintro ⟨a, s', e1, q⟩
      rw [e] at e1
      obtain ⟨⟨d, s2⟩, e3, e4⟩ := Option.map_eq_some_iff.mp e1
      cases e4
      obtain ⟨sl', h1, h2⟩ := hw.mp ⟨d, s2, e3, q⟩
      rw [h] at h1; cases h1
      exact h2
    · intro q
      obtain ⟨d, s', e3, q'⟩ := hw.mpr ⟨sl, h, q⟩
      exact ⟨(), s', by rw [e, e3]; rfl, q'⟩
  · rename_i hn
    have e : mFrzN i ⟨env, c⟩ = some ((), ⟨env, c⟩) := by
      unfold mFrzN
      split
      · rename_i sl h; exact absurd h (hn sl)
      · rfl
    exact wp_eq e
theorem frzNAt_n {r : List (Option Sl)} {P : List (Option Sl) → Prop} : FrzNAt (none :: r) 0 P ↔ P (none :: r) := Iff.rfl
theorem frzNAt_z {sl : Sl} {r : List (Option Sl)} {P : List (Option Sl) → Prop} : FrzNAt (some sl :: r) 0 P ↔ P (some (.val sl.bor) :: r) := Iff.rfl
theorem frzNAt_j {x : Option D} {r : List (Option Sl)} {P : List (Option Sl) → Prop} : FrzNAt (jv x :: r) 0 P ↔ P (jv x :: r) := by cases x <;> exact Iff.rfl
theorem frzNAt_s {y : Option Sl} {i : Nat} {r : List (Option Sl)} {P : List (Option Sl) → Prop} : FrzNAt (y :: r) (i + 1) P ↔ FrzNAt r i fun r' => P (y :: r') := by
  unfold FrzNAt
  simp only [List.getElem?_cons_succ]
  split <;> rfl
end
end GH

namespace GH
open PySem PySem.Spec PyProof.Rows L2 PySem.W
open PySem.Sem (wp)
section
variable {prog : Program} {w : World} {A : Around} {E : Value → Shared → Prop} {s : Shared}
end
section
variable {X : Cx}
end
end GH

namespace GH
open PySem PySem.Spec PyProof.Rows L2
def getT (sl : Option (Option Sl)) (k z : D) : Option D := match sl with
  | some (some (.ownT ks ds)) => (dKeys k).map fun y => (kGet ks ds y).getD z
  | _ => none
section
variable {X : Cx} {x : Str} {p : Pos}
variable {env : List (Option Sl)} {c : Src} {s : S}
end
end GH

namespace GH
open PySem PySem.Spec PyProof.Rows L2
section
variable {X : Cx}
theorem call_tpx : CallR X (.type "tuple") (fun xs H Q => ∃ (p : Addr) (is : List Int), xs = [.ref p] ∧ SqL X.K H p (is.map V.int) ∧ ∀ q o, H q = none → o.dict = none → Q (.ref q) (upd H q (.frz o (.tup (is.map V.int))))) := by
  intro pins s σ H xs us Q I r ⟨p, is, e, hs, q⟩
  subst e
  rw [Vals.ref1 r]
  obtain ⟨its, rv, pl, hz⟩ := I.list hs
  refine call_tuple_list pl.isList (fun h' hk => ?_) (by rw [List.size_toArray, ← rv.length]; exact hz)
  have old : Inv X pins σ H { s with heap := h' } := I.kept (t' := s.toks) hk
  have new := old.laid (t' := s.toks) (o := .frz { cls := .type "tuple", data := .seq its.toArray } (.tup (is.map V.int))) (h' := h'.push { cls := .type "tuple", data := .seq its.toArray }) (fun _ _ e => Heap.get?_push_of_some _ e) (Nat.le_refl _)
    ⟨Heap.get?_push_size _ rfl, hz, its, rv, IsTup.new _ _⟩
  exact ⟨.ref h'.objs.size, _, new, rfl, q _ _ (old.hok.fresh (Nat.le_refl _)) rfl⟩
def tpxG : List D → Option D
  | [.lst ds] => (toInts ds).map .tpx
  | _ => none
theorem c_tpx : CallD X (.type "tuple") tpxG := callD_cases fun ds d p W he => by
  unfold tpxG at he
  split at he
  · obtain ⟨ns, h1, rfl⟩ := Option.map_eq_some_iff.mp he
    have := toInts_eq h1
    subst this
    refine CallR.imp call_tpx fun vs H Q ⟨hw, hx, hq⟩ => ?_
    obtain ⟨v, rfl, r⟩ := rps1 hx
    obtain ⟨a, us, rfl, _, ha, rs⟩ := rp_lst r
    rw [rps_ints rs] at ha
    exact ⟨a, ns, rfl, SqL.of ha, fun q o hn ho => hq _ _ (same_new hn) ⟨q, o, rfl, hw.new hn, upd_same, ho⟩⟩
  · cases he
theorem sm_tpxL {xs : List Int} {P : D → Prop} : Sm (tpxG [.lst (xs.map D.int)]) P ↔ P (.tpx xs) := by
  show Sm ((toInts _).map _) P ↔ _
  rw [toInts_map]; exact sm_some
theorem sm_seqX {is : List Int} {P : List D → Prop} : Sm (seqD (.tpx is)) P ↔ P (is.map D.int) := sm_some
theorem sm_lenX {is : List Int} {P : D → Prop} : Sm (lenG [.tpx is]) P ↔ P (.int is.length) := sm_some
end
end GH

namespace GH
open PySem PySem.Spec PyProof.Rows L2
section
variable {X : Cx}
end
end GH

namespace GH
open PySem PySem.Spec PyProof.Rows L2
section
variable {prog : Program} {w : World} {A : Around} {E : Value → Shared → Prop} {s : Shared}
end
section
variable {X : Cx} {a b : Expr} {elts : List Expr} {kk : Nat} {tpos p pos pz posz : Pos} {ma mb : M D}
end
end GH

namespace GH
open PySem PySem.Spec PyProof.Rows L2
section
variable {X : Cx} {e : Expr} {es : List Expr} {pos : Pos}
variable {s : S}
end
end GH

noncomputable section
namespace GH
open PySem PySem.Spec PyProof.Rows L2
section
variable {X : Cx} {e a b : Expr} {m ma mb : M D} {pos p : Pos} {s : S} {Q : D → S → Prop} {env : List (Option Sl)} {src : Src}
theorem tuple_count_ints {A : Around} {E : Value → Shared → Prop} {prog : Program} {w : World} {s : Shared} {l : Addr} {vs : List Value} {ns : List Int} {k : Int} {t : Tok} {Q : Value → Shared → Prop} (hl : s.heap.IsTuple l vs.toArray) (hi : IntsAre vs ns)
    (h : Q (.int (ns.count k : Nat) s.toks) { s with toks := s.toks + 1 }) : wpAny (model prog w) A (call (.builtin "tuple.count") [.ref l, .int k t]) Q E s := by
  obtain ⟨⟨cls, dd, data, sl⟩, ho, hc, n, hd⟩ := id hl
  simp only at hc hd
  subst hc hd
  refine call_meets PySem.F.slot_tuple_count ⟨_, ho, rfl⟩ PySem.F.entry_tuple_count (PySem.F.args_tuple_count_2 _ _) (PySem.SeqAt.tuple_countAt l vs.toArray n dd sl (.int k t) (isInt k)) ⟨ho, fun y hy => (eq_isInt k t hi y (by simpa using hy)).at _ _, ?_⟩
  rw [show vs.toArray.toList = vs from rfl, countP_isInt k hi]
  exact h
def tCnt (td ty : TE) : TE := fun σ H Q => td σ H fun x H1 => ∃ a, x = .ref a ∧
  ((∃ (o : Obj) (ns : List V), H1 a = some (.frz o (.tup ns)) ∧ o.dict = none) ∧ ty σ H1 fun y H2 => ∃ (o : Obj) (ns : List Int) (k : Int), H2 a = some (.frz o (.tup (ns.map V.int))) ∧ y = .int k ∧ Q (.int (ns.count k : Nat)) H2)
theorem pe_cnt {o e : Expr} {apos cpos : Pos} {td ty : TE} (ho : PE X o td) (he : PE X e ty) (m : M1 X o "count" apos e cpos) : PE X (.Call (.Attribute o "count" apos) [e] [] cpos) (tCnt td ty) := by
  refine ⟨fun pins s σ H Q I h => ?_⟩
  refine wpAny_Call_method m.base m.few m.line PySem.F.plainAttrs_tuple PySem.F.slot_tuple_count PySem.F.type_tuple_count (thn (ho.run pins s σ H _ I h) fun u s1 ⟨x, H1, I1, rx, a, ex, ⟨ob, ns0, hf, hd⟩, q1⟩ => ?_)
  subst ex
  obtain rfl : u = Value.ref a := rx
  obtain ⟨g1, g2, its, g3, ot, g4, g5, g6⟩ := I1.hok a _ hf
  rw [g1] at g4; cases g4
  refine ⟨⟨_, g1, g5⟩, fun b eb => by cases eb; exact ⟨_, g1, hd⟩, ?_⟩
  rw [m.trees]
  refine Calls.callWith_builtin rfl (Calls.evalArgs_plain (Calls.spliced_cons (thn (he.run pins s1 σ H1 _ I1 q1) fun iv s2 ⟨y, H2, I2, ry, o2, ns, k, hf2, ey, q2⟩ => Calls.spliced_nil ?_)))
  subst ey
  obtain ⟨t, rfl⟩ := ry
  obtain ⟨l1, l2, its2, l3, ot2, l4, l5, l6⟩ := I2.hok a _ hf2
  exact tuple_count_ints (vs := its2) ⟨ot2, l4, l5, l6⟩ l3.ints ⟨.int (ns.count k : Nat), H2, I2.tok _, ⟨_, rfl⟩, q2⟩
def cntX (x y : D) : Option D := match x, y with
  | .tpx ns, .int k => some (.int (ns.count k : Nat))
  | _, _ => none
theorem s_cnt {o e : Expr} {apos cpos : Pos} {ma mb : M D} (ha : SE X o ma) (hb : SE X e mb) (m : M1 X o "count" apos e cpos := by exact ⟨rfl, rfl, rfl, rfl⟩) : SE X (.Call (.Attribute o "count" apos) [e] [] cpos) (eBin cntX ma mb) := ⟨fun B => by
  refine PE.imp (pe_cnt (ha.pe B) (hb.pe B) m) fun σ H Q ⟨s, d, s', k, e, q⟩ => ?_
  refine tI.bind k e fun dx s1 v H1 h1 e1 k1 ev1 r1 => ?_
  have isx : ∃ ns, dx = .tpx ns := by
    obtain ⟨dy, s2, e2, e3⟩ := bnd_some e1
    obtain ⟨e4, _⟩ := lift_some e3
    unfold cntX at e4
    split at e4
    · exact ⟨_, rfl⟩
    · cases e4
  obtain ⟨ns, rfl⟩ := isx
  obtain ⟨a, ob, rfl, na, hf, hd⟩ := r1
  refine ⟨a, rfl, ⟨ob, _, hf, hd⟩, ?_⟩
  refine tI.bind k1 e1 fun dy s3 v2 H2 h2 e5 k2 ev2 r2 => ?_
  obtain ⟨e6, rfl⟩ := lift_some e5
  unfold cntX at e6
  split at e6
  · rename_i ns' kk hx
    cases hx
    cases e6
    exact ⟨ob, ns, kk, (ev2 a _ hf na).1, rp_int r2, q _ _ k2 (ev1.trans ev2) (.mkInt _)⟩
  · cases e6⟩
def itsD : D → Option (List D)
  | .tup ds => some ds
  | .tpx is => some (is.map D.int)
  | _ => none
theorem rp_its {p : Addr} {W : AP} {H : Hp} {K : PySem.W.Frag} {d : D} {ds : List D} {v : V} (r : Rp p W H d v) (h : itsD d = some ds) : ∃ a vs, v = .ref a ∧ ¬ W a ∧ SqT K H a vs ∧ Rps p W H ds vs := by
  unfold itsD at h
  split at h
  · cases h
    obtain ⟨a, vs, rfl, na, ha, rs⟩ := rp_tup r
    exact ⟨a, vs, rfl, na, SqT.of ha, rs⟩
  · cases h
    obtain ⟨a, o, rfl, na, ha, _⟩ := r
    exact ⟨a, _, rfl, na, .inl (.inr ⟨o, ha⟩), ints_rps⟩
  · cases h
def addX (x y : D) : Option D := (itsD x).bind fun as => (itsD y).bind fun bs => if as.length + bs.length ≤ sizeLine then some (if as = [] then y else if bs = [] then x else .tup (as ++ bs)) else none
theorem od_addX : OpD X (binaryOp .Add) addX := opD_cases fun dx dy d p W he => by
  obtain ⟨as, h1, h2⟩ := Option.bind_eq_some_iff.mp he
  obtain ⟨bs, h3, h4⟩ := Option.bind_eq_some_iff.mp h2
  split at h4
  · rename_i hl
    cases h4
    refine OpR.imp op_catA fun x y H Q ⟨hw, hx, hy, hq⟩ => ?_
    obtain ⟨a, vs, rfl, na, ha, ra⟩ := rp_its (K := X.K) hx h1
    obtain ⟨b, us, rfl, nb, hb, rb⟩ := rp_its (K := X.K) hy h3
    have la := ra.length
    have lb := rb.length
    refine ⟨a, b, vs, us, rfl, rfl, ha, hb, by rw [← la, ← lb]; exact hl, fun e => ?_, fun e1 e2 => ?_, fun e1 e2 q nq => ?_⟩
    · have : as = [] := List.eq_nil_of_length_eq_zero (by rw [la, e]; rfl)
      rw [if_pos this] at hq
      exact hq _ _ (Same.refl H) hy
    · have h5 : as ≠ [] := fun z => e1 (List.eq_nil_of_length_eq_zero (by rw [← la, z]; rfl))
      have h6 : bs = [] := List.eq_nil_of_length_eq_zero (by rw [lb, e2]; rfl)
      rw [if_neg h5, if_pos h6] at hq
      exact hq _ _ (Same.refl H) hx
    · have h5 : as ≠ [] := fun z => e1 (List.eq_nil_of_length_eq_zero (by rw [← la, z]; rfl))
      have h6 : bs ≠ [] := fun z => e2 (List.eq_nil_of_length_eq_zero (by rw [← lb, z]; rfl))
      rw [if_neg h5, if_neg h6] at hq
      exact hq _ _ (same_new nq) (.newTup hw nq (ra.append rb))
  · cases h4
def lstX : List D → Option (List D)
  | [d] => itsD d
  | _ => none
theorem c_lstX : CallL X (.type "list") lstX := by
  intro pins s σ H xs us Q I r ⟨p, W, ds, es, hw, hx, he, hq⟩
  unfold lstX at he
  split at he
  · obtain ⟨v, rfl, r'⟩ := rps1 hx
    obtain ⟨a, ws, rfl, _, ha, rs⟩ := rp_its (K := X.K) r' he
    exact call_list_of pins s σ H _ us Q I r ⟨a, ws, rfl, .inr ha, fun l hl => hq l ws _ (same_new hl) hl upd_same rs⟩
  · cases he
def wholeX (n : Nat) (lo hi : Option Int) : Bool := decide (HT.sIx n 0 lo = 0) && decide (HT.sIx n n hi = n)
def slX (lo hi : Option Int) (d : D) : Option D := (itsD d).map fun ds => if wholeX ds.length lo hi then d else .tup (cutL ds lo hi)
def rSlX : V → Option Int → Option Int → Hp → VK → Prop := fun x lo hi H Q => ∃ p W dx d, WT W H ∧ Rp p W H dx x ∧ slX lo hi dx = some d ∧ ∀ v H', Same H H' → Rp p W H' d v → Q v H'
theorem slrX : L2.SlR X rSlX := by
  intro pins s σ H x v vl vu lo hi sl Q I rx hs pl pu ⟨p, W, dx, d, hw, hx, he, hq⟩
  obtain ⟨ds, h1, rfl⟩ := Option.map_eq_some_iff.mp he
  obtain ⟨a, vs, rfl, na, ha, rs⟩ := rp_its (K := X.K) hx h1
  have hl := rs.length
  refine sl_tupA pins s σ H _ v vl vu lo hi sl Q I rx hs pl pu ⟨a, vs, rfl, ha, fun ⟨z1, z2⟩ => ?_, fun z q nq => ?_⟩
  · rw [hl, if_pos (by unfold wholeX; rw [decide_eq_true z1, decide_eq_true z2]; rfl)] at hq
    exact hq _ _ (Same.refl H) hx
  · rw [hl, if_neg (by unfold wholeX; simpa using z)] at hq
    exact hq _ _ (same_new nq) (.newTup hw nq (rps_cut rs lo hi))
def eSlX (ma : M D) (ml mh : M (Option Int)) : M D := bnd ma fun d => bnd ml fun l => bnd mh fun h => lift (slX l h d)
theorem s_sliceX {lo hi : Option Expr} {ml mh : M (Option Int)} {p2 : Pos} (ha : SE X a ma) (hl : SO X lo ml) (hh : SO X hi mh) : SE X (.Subscript a (.Slice lo hi none p2) pos) (eSlX ma ml mh) :=
  ⟨fun B => PE.imp (pe_slice slrX (ha.pe B) (hl.po B) (hh.po B)) fun σ H Q ⟨s, d, s', k, e, q⟩ => by
    refine tI.bind k e fun dx s1 v H1 h1 e1 k1 ev1 r1 => ?_
    obtain ⟨l, s2, e2, e3⟩ := bnd_some e1
    refine ⟨s1, l, s2, k1, e2, fun H2 k2 ev2 => ?_⟩
    obtain ⟨h, s3, e4, e5⟩ := bnd_some e3
    refine ⟨s2, h, s3, k2, e4, fun H3 k3 ev3 => ?_⟩
    obtain ⟨e6, rfl⟩ := lift_some e5
    exact ⟨B.p, _, dx, d, k3.wt, r1.ev (ev2.trans ev3), e6, fun v H' sm r => q v H' (k3.same sm) ((ev1.trans (ev2.trans ev3)).trans (Ev.same sm)) r⟩⟩
theorem sm_cntP {xs : List Int} {k : Int} {P : D → Prop} : Sm (cntX (.tpx xs) (.int k)) P ↔ P (.int (xs.count k : Nat)) := sm_some
theorem sm_addXX {xs : List Int} {ys : List D} {P : D → Prop} (hx : xs ≠ []) (hy : ys ≠ []) : Sm (addX (.tpx xs) (.tup ys)) P ↔ xs.length + ys.length ≤ sizeLine ∧ P (.tup (xs.map D.int ++ ys)) := by
  show Sm (if (xs.map D.int).length + ys.length ≤ sizeLine then some (if xs.map D.int = [] then D.tup ys else if ys = [] then D.tpx xs else .tup (xs.map D.int ++ ys)) else none) P ↔ _
  rw [sm_ite, sm_some, if_neg (by simpa using hx), if_neg hy, List.length_map]
theorem sm_addXY {xs ys : List Int} {P : D → Prop} (hx : xs ≠ []) (hy : ys ≠ []) : Sm (addX (.tpx xs) (.tpx ys)) P ↔ xs.length + ys.length ≤ sizeLine ∧ P (.tup ((xs ++ ys).map D.int)) := by
  show Sm (if (xs.map D.int).length + (ys.map D.int).length ≤ sizeLine then some (if xs.map D.int = [] then D.tpx ys else if ys.map D.int = [] then D.tpx xs else .tup (xs.map D.int ++ ys.map D.int)) else none) P ↔ _
  rw [sm_ite, sm_some, if_neg (by simpa using hx), if_neg (by simpa using hy), List.length_map, List.length_map, List.map_append]
theorem sm_lstX {xs : List Int} {P : List D → Prop} : Sm (lstX [.tpx xs]) P ↔ P (xs.map D.int) := sm_some
theorem wp_slX {ml mh : M (Option Int)} : Wp (eSlX ma ml mh) s Q ↔ Wp ma s fun d s1 => Wp ml s1 fun l s2 => Wp mh s2 fun h s3 => Sm (slX l h d) fun x => Q x s3 :=
  wp_bnd.trans (wp_cg fun _ _ => wp_bnd.trans (wp_cg fun _ _ => wp_bnd.trans (wp_cg fun _ _ => wp_lift)))
theorem sm_slX {xs : List Int} {lo hi : Option Int} {P : D → Prop} : Sm (slX lo hi (.tpx xs)) P ↔ P (if wholeX xs.length lo hi then .tpx xs else .tup (cutL (xs.map D.int) lo hi)) := by
  show Sm (some (if wholeX (xs.map D.int).length lo hi then _ else _)) P ↔ _
  rw [sm_some, List.length_map]
end
end GH
end

noncomputable section
namespace GW
open PySem PySem.Spec PyProof.Rows L2 GH

theorem sc_do_cross : FnScope ["crossing", "i", "j", "four"] ["crossing", "i", "j"] (defScope st_do_cross) := ⟨rfl, rfl, rfl, by decide +kernel, rfl, by decide +kernel, by decide +kernel⟩
def m_do_cross : M Out :=
 (sRet (eCall anyG (aCons (eLst (eComp [3] (gN 3) (ret true) (eBin inD (eSl (eVar 3) oNo (oAt (eC (.int 2)))) (eTup (aCons (eTup (aCons (eVar 1) (aCons (eVar 2) aNil))) (aCons (eTup (aCons (eVar 2) (aCons (eVar 1) aNil))) aNil)))) (iSeq (eBin ixD (eVar 0) (eC (.int 1)))))) aNil)))
def S_do_cross : FnSem := fnOf 4 m_do_cross
theorem w_do_cross {P : Program} {w : World} {K : PySem.W.Frag} {mg : Str → Option Value} {base : Heap} {f : Addr} {fd : FuncData} (F : FP K "do_cross" st_do_cross f fd) (hm : mg "do_cross" = some (.ref f)) (h_any : mg "any" = none) : Fn P w K mg base 1 "do_cross" 3 S_do_cross := by
  have sc := sc_do_cross
  refine fn_body (k := 0) (N := ["crossing", "i", "j", "four"]) (m := m_do_cross) F hm (F.bindsN (ps := ["crossing", "i", "j"]) fun _ _ _ _ _ _ us hl => match us, hl with | [_, _, _], _ => rfl) sc (by decide) fun cdv A outer s H hr => ?_
  have hu := hr.u64
  have hv := hr.u65
  have hv1 := hr.u1
  unfold m_do_cross
  exact (ss_one (s_ret (s_callB (c_any rfl) rfl h_any (by decide +kernel) (a_cons (s_ofL (l_comp (own := [("four", 3)]) ⟨rfl, sc.nd, (blk_of rfl (by kernel_rfl)), by decide, fun _ _ _ _ _ => (g_n sc.nd), fun _ _ _ _ _ => f_nil, fun _ _ _ _ _ => (s_cmp (od_in hv) (s_slice s_v o_no (o_at s_int)) (s_tup (a_cons (s_tup (a_cons s_v (a_cons s_v a_nil))) (a_cons (s_tup (a_cons s_v (a_cons s_v a_nil))) a_nil))))⟩ (i_seq (s_ix s_v s_int)))) a_nil))))
theorem sc_clearance : FnScope ["crossing", "i", "j", "one", "other", "after", "back"] ["crossing", "i", "j"] (defScope st_clearance) := ⟨rfl, rfl, rfl, by decide +kernel, rfl, by decide +kernel, by decide +kernel⟩
def m_clearance : M Out :=
 (sSeq (sFor (iSeq (eBin ixD (eVar 0) (eC (.int 1)))) (gT (gCons (gN 3) (gCons (gN 4) (gCons (gN 5) (gCons (gN 6) gNil)))))
 (sSeq (sIf (tst (eBin eqD (eTup (aCons (eVar 3) (aCons (eVar 4) aNil))) (eTup (aCons (eVar 1) (aCons (eVar 2) aNil)))))
 (sRet (eVar 5))
 sNx)
 (sIf (tst (eBin eqD (eTup (aCons (eVar 4) (aCons (eVar 3) aNil))) (eTup (aCons (eVar 1) (aCons (eVar 2) aNil)))))
 (sRet (eVar 6))
 sNx)))
 (sRet (eC (.int 0))))
def S_clearance : FnSem := fnOf 7 m_clearance
theorem w_clearance {P : Program} {w : World} {K : PySem.W.Frag} {mg : Str → Option Value} {base : Heap} {f : Addr} {fd : FuncData} (F : FP K "clearance" st_clearance f fd) (hm : mg "clearance" = some (.ref f)) : Fn P w K mg base 1 "clearance" 3 S_clearance := by
  have sc := sc_clearance
  refine fn_body (k := 0) (N := ["crossing", "i", "j", "one", "other", "after", "back"]) (m := m_clearance) F hm (F.bindsN (ps := ["crossing", "i", "j"]) fun _ _ _ _ _ _ us hl => match us, hl with | [_, _, _], _ => rfl) sc (by decide) fun cdv A outer s H hr => ?_
  have hu := hr.u64
  have hv := hr.u65
  have hv1 := hr.u1
  unfold m_clearance
  exact (ss_cons (s_for PassesOwn.never rfl (i_seq (s_ix s_v s_int)) (g_tup rfl (gs_cons (g_n sc.nd) (gs_cons (g_n sc.nd) (gs_cons (g_n sc.nd) (gs_cons (g_n sc.nd) gs_nil)))) rfl rfl (gCons_len (gCons_len (gCons_len (gCons_len gNil_len)))))
 (ss_cons (s_ifS (t_cmp (od_eq hu) (s_tup (a_cons s_v (a_cons s_v a_nil))) (s_tup (a_cons s_v (a_cons s_v a_nil))))
 (ss_one (s_ret s_v))
 ss_nil)
 (ss_one (s_ifS (t_cmp (od_eq hu) (s_tup (a_cons s_v (a_cons s_v a_nil))) (s_tup (a_cons s_v (a_cons s_v a_nil))))
 (ss_one (s_ret s_v))
 ss_nil))))
 (ss_one (s_ret s_int)))
theorem sc_free_sets : FnScope ["crossing", "found", "i", "one", "j"] ["crossing"] (defScope st_free_sets) := ⟨rfl, rfl, rfl, by decide +kernel, rfl, by decide +kernel, by decide +kernel⟩
def m_free_sets : M Out :=
 (sSeq (sSet 1 (eLst (lDisp (aCons (eTup aNil) aNil))))
 (sSeq (sFor (iRg1 (eCall lenG (aCons (eBin ixD (eVar 0) (eC (.int 0))) aNil))) (gN 2)
 (sSet 1 (eBin addD (eVar 1) (eLst (eComp [3] (gN 3) (tNot1 (tru (eCall anyG (aCons (eLst (eComp [4] (gN 4) (ret true) (eFn S_do_cross (aCons (eVar 0) (aCons (eVar 2) (aCons (eVar 4) aNil)))) (iSeq (eVar 3)))) aNil)))) (eTup (aStar (eVar 3) (aCons (eVar 2) aNil))) (iSeq (eVar 1)))))))
 (sRet (eVar 1))))
def S_free_sets : FnSem := fnOf 5 m_free_sets
theorem w_free_sets {P : Program} {w : World} {K : PySem.W.Frag} {mg : Str → Option Value} {base : Heap} {f : Addr} {fd : FuncData} (F : FP K "free_sets" st_free_sets f fd) (hm : mg "free_sets" = some (.ref f)) (h_any : mg "any" = none) (h_len : mg "len" = none) (h_range : mg "range" = none) (F_do_cross : Fn P w K mg base 1 "do_cross" 3 S_do_cross) : Fn P w K mg base 2 "free_sets" 1 S_free_sets := by
  have sc := sc_free_sets
  refine fn_body (k := 1) (N := ["crossing", "found", "i", "one", "j"]) (m := m_free_sets) F hm (F.bindsN (ps := ["crossing"]) fun _ _ _ _ _ _ us hl => match us, hl with | [_], _ => rfl) sc (by decide) fun cdv A outer s H hr => ?_
  have hu := hr.u64
  have hv := hr.u65
  have hv1 := hr.u1
  unfold m_free_sets
  exact (ss_cons (s_set sc.nd rfl (by first | exact Or.inl rfl | exact Or.inr rfl) (s_ofL (l_dsp (a_cons (s_tup a_nil) a_nil))))
 (ss_cons (s_for PassesOwn.never rfl (i_rg1 rfl h_range (s_callB c_len rfl h_len (by decide +kernel) (a_cons (s_ix s_v s_int) a_nil))) (g_n sc.nd)
 (ss_one (s_set sc.nd rfl (by first | exact Or.inl rfl | exact Or.inr rfl) (s_bin od_add s_v (s_ofL (l_comp (own := [("one", 3)]) ⟨rfl, sc.nd, (blk_of rfl (by kernel_rfl)), by decide, fun _ _ _ _ _ => (g_n sc.nd), fun _ _ _ _ _ => (f_one (t_not (t_of (s_callB (c_any rfl) rfl h_any (by decide +kernel) (a_cons (s_ofL (l_comp (own := [("j", 4)]) ⟨rfl, sc.nd, (blk_of rfl (by kernel_rfl)), by decide, fun _ _ _ _ _ => (g_n sc.nd), fun _ _ _ _ _ => f_nil, fun _ _ _ _ _ => (s_fn (F_do_cross.mono (by decide)) hr rfl (a_cons s_v (a_cons s_v (a_cons s_v a_nil))) (aLen_cons (aLen_cons (aLen_cons aLen_nil))))⟩ (i_seq s_v))) a_nil))))), fun _ _ _ _ _ => (s_tup (a_star s_v (a_cons s_v a_nil)))⟩ (i_seq s_v)))))))
 (ss_one (s_ret s_v))))
theorem sc_is_full : FnScope ["crossing", "some", "others", "i", "j"] ["crossing", "some"] (defScope st_is_full) := ⟨rfl, rfl, rfl, by decide +kernel, rfl, by decide +kernel, by decide +kernel⟩
def m_is_full : M Out :=
 (sSeq (sSet 2 (eLst (eComp [3] (gN 3) (tst (eBin ninD (eVar 3) (eVar 1))) (eVar 3) (iRg1 (eCall lenG (aCons (eBin ixD (eVar 0) (eC (.int 0))) aNil))))))
 (sRet (eCall allG (aCons (eLst (eComp [3] (gN 3) (ret true) (eCall anyG (aCons (eLst (eComp [4] (gN 4) (ret true) (eFn S_do_cross (aCons (eVar 0) (aCons (eVar 3) (aCons (eVar 4) aNil)))) (iSeq (eVar 1)))) aNil)) (iSeq (eVar 2)))) aNil))))
def S_is_full : FnSem := fnOf 5 m_is_full
theorem w_is_full {P : Program} {w : World} {K : PySem.W.Frag} {mg : Str → Option Value} {base : Heap} {f : Addr} {fd : FuncData} (F : FP K "is_full" st_is_full f fd) (hm : mg "is_full" = some (.ref f)) (h_all : mg "all" = none) (h_any : mg "any" = none) (h_len : mg "len" = none) (h_range : mg "range" = none) (F_do_cross : Fn P w K mg base 1 "do_cross" 3 S_do_cross) : Fn P w K mg base 2 "is_full" 2 S_is_full := by
  have sc := sc_is_full
  refine fn_body (k := 1) (N := ["crossing", "some", "others", "i", "j"]) (m := m_is_full) F hm (F.bindsN (ps := ["crossing", "some"]) fun _ _ _ _ _ _ us hl => match us, hl with | [_, _], _ => rfl) sc (by decide) fun cdv A outer s H hr => ?_
  have hu := hr.u64
  have hv := hr.u65
  have hv1 := hr.u1
  unfold m_is_full
  exact (ss_cons (s_setLc (own := [("i", 3)])  rfl rfl rfl ⟨rfl, sc.nd, (blk_of rfl (by kernel_rfl)), by decide, fun _ _ _ _ _ => (g_n sc.nd), fun _ _ _ _ _ => (f_one (t_cmp (od_nin hv) s_v s_v)), fun _ _ _ _ _ => s_v⟩ (i_rg1 rfl h_range (s_callB c_len rfl h_len (by decide +kernel) (a_cons (s_ix s_v s_int) a_nil))))
 (ss_one (s_ret (s_callB (c_all rfl) rfl h_all (by decide +kernel) (a_cons (s_ofL (l_comp (own := [("i", 3)]) ⟨rfl, sc.nd, (blk_of rfl (by kernel_rfl)), by decide, fun _ _ _ _ _ => (g_n sc.nd), fun _ _ _ _ _ => f_nil, fun _ _ _ _ _ => (s_callB (c_any rfl) rfl h_any (by decide +kernel) (a_cons (s_ofL (l_comp (own := [("j", 4)]) ⟨rfl, sc.nd, (blk_of rfl (by kernel_rfl)), by decide, fun _ _ _ _ _ => (g_n sc.nd), fun _ _ _ _ _ => f_nil, fun _ _ _ _ _ => (s_fn (F_do_cross.mono (by decide)) hr rfl (a_cons s_v (a_cons s_v (a_cons s_v a_nil))) (aLen_cons (aLen_cons (aLen_cons aLen_nil))))⟩ (i_seq s_v))) a_nil))⟩ (i_seq s_v))) a_nil)))))
theorem sc_stages : FnScope ["crossing", "some"] ["crossing"] (defScope st_stages) := ⟨rfl, rfl, rfl, by decide +kernel, rfl, by decide +kernel, by decide +kernel⟩
def m_stages : M Out :=
 (sRet (eCall tupG (aCons (eLst (eCallL srtG (aCons (eLst (eComp [1] (gN 1) (tru (eFn S_is_full (aCons (eVar 0) (aCons (eVar 1) aNil)))) (eVar 1) (iSeq (eFn S_free_sets (aCons (eVar 0) aNil))))) aNil))) aNil)))
def S_stages : FnSem := fnOf 2 m_stages
theorem w_stages {P : Program} {w : World} {K : PySem.W.Frag} {mg : Str → Option Value} {base : Heap} {f : Addr} {fd : FuncData} (F : FP K "stages" st_stages f fd) (hm : mg "stages" = some (.ref f)) (h_sorted : mg "sorted" = none) (h_tuple : mg "tuple" = none) (F_free_sets : Fn P w K mg base 2 "free_sets" 1 S_free_sets) (F_is_full : Fn P w K mg base 2 "is_full" 2 S_is_full) : Fn P w K mg base 3 "stages" 1 S_stages := by
  have sc := sc_stages
  refine fn_body (k := 2) (N := ["crossing", "some"]) (m := m_stages) F hm (F.bindsN (ps := ["crossing"]) fun _ _ _ _ _ _ us hl => match us, hl with | [_], _ => rfl) sc (by decide) fun cdv A outer s H hr => ?_
  have hu := hr.u64
  have hv := hr.u65
  have hv1 := hr.u1
  unfold m_stages
  exact (ss_one (s_ret (s_callT c_tup rfl h_tuple (by decide +kernel) (a_cons (s_ofL (l_callB (c_srt hr) rfl h_sorted boot_sorted (a_cons (s_ofL (l_comp (own := [("some", 1)]) ⟨rfl, sc.nd, (blk_of rfl (by kernel_rfl)), by decide, fun _ _ _ _ _ => (g_n sc.nd), fun _ _ _ _ _ => (f_one (t_of (s_fn (F_is_full.mono (by decide)) hr rfl (a_cons s_v (a_cons s_v a_nil)) (aLen_cons (aLen_cons aLen_nil))))), fun _ _ _ _ _ => s_v⟩ (i_seq (s_fn (F_free_sets.mono (by decide)) hr rfl (a_cons s_v a_nil) (aLen_cons aLen_nil))))) a_nil))) a_nil))))
theorem sc_clear_ticks : FnScope ["crossing", "s", "many", "i", "j"] ["crossing", "s"] (defScope st_clear_ticks) := ⟨rfl, rfl, rfl, by decide +kernel, rfl, by decide +kernel, by decide +kernel⟩
def m_clear_ticks : M Out :=
 (sSeq (sSet 2 (eCall rng1G (aCons (eCall lenG (aCons (eBin ixD (eVar 0) (eC (.int 0))) aNil)) aNil)))
 (sRet (eCall maxG (aCons (eLst (eComp2 [3, 4] [4] (gN 3) (ret true) (iRgV (eVar 2)) (gN 4) (ret true) (eFn S_clearance (aCons (eVar 0) (aCons (eVar 3) (aCons (eVar 4) aNil)))) (iSeq (eBin ixD (eFn S_stages (aCons (eVar 0) aNil)) (eVar 1))))) aNil))))
def S_clear_ticks : FnSem := fnOf 5 m_clear_ticks
theorem w_clear_ticks {P : Program} {w : World} {K : PySem.W.Frag} {mg : Str → Option Value} {base : Heap} {f : Addr} {fd : FuncData} (F : FP K "clear_ticks" st_clear_ticks f fd) (hm : mg "clear_ticks" = some (.ref f)) (h_len : mg "len" = none) (h_max : mg "max" = none) (h_range : mg "range" = none) (F_clearance : Fn P w K mg base 1 "clearance" 3 S_clearance) (F_stages : Fn P w K mg base 3 "stages" 1 S_stages) : Fn P w K mg base 4 "clear_ticks" 2 S_clear_ticks := by
  have sc := sc_clear_ticks
  refine fn_body (k := 3) (N := ["crossing", "s", "many", "i", "j"]) (m := m_clear_ticks) F hm (F.bindsN (ps := ["crossing", "s"]) fun _ _ _ _ _ _ us hl => match us, hl with | [_, _], _ => rfl) sc (by decide) fun cdv A outer s H hr => ?_
  have hu := hr.u64
  have hv := hr.u65
  have hv1 := hr.u1
  unfold m_clear_ticks
  exact (ss_cons (s_set sc.nd rfl (by first | exact Or.inl rfl | exact Or.inr rfl) (s_callT c_rng1 rfl h_range (by decide +kernel) (a_cons (s_callB c_len rfl h_len (by decide +kernel) (a_cons (s_ix s_v s_int) a_nil)) a_nil)))
 (ss_one (s_ret (s_callB (c_max rfl hv1) rfl h_max (by decide +kernel) (a_cons (s_ofL (l_comp2 (own := [("i", 3), ("j", 4)]) (vs1 := [4]) ⟨rfl, sc.nd, (blk_of rfl (by kernel_rfl)), by decide, by decide, by decide, fun _ _ _ _ _ => (g_n sc.nd), fun _ _ _ _ _ => f_nil, fun _ _ _ _ _ => (i_rgV s_v), fun _ _ _ _ _ => (g_n sc.nd), fun _ _ _ _ _ => f_nil, fun _ _ _ _ _ => (s_fn (F_clearance.mono (by decide)) hr rfl (a_cons s_v (a_cons s_v (a_cons s_v a_nil))) (aLen_cons (aLen_cons (aLen_cons aLen_nil))))⟩ (i_seq (s_ix (s_fn (F_stages.mono (by decide)) hr rfl (a_cons s_v a_nil) (aLen_cons aLen_nil)) s_v)))) a_nil)))))
theorem sc_need_of : FnScope ["crossing", "plan", "s", "ticks"] ["crossing", "plan"] (defScope st_need_of) := ⟨rfl, rfl, rfl, by decide +kernel, rfl, by decide +kernel, by decide +kernel⟩
def m_need_of : M Out :=
 (sRet (eCall sumG (aCons (eLst (eComp [2, 3] (gT (gCons (gN 2) (gCons (gN 3) gNil))) (ret true) (eBin addD (eVar 3) (eFn S_clear_ticks (aCons (eVar 0) (aCons (eVar 2) aNil)))) (iSeq (eVar 1)))) aNil)))
def S_need_of : FnSem := fnOf 4 m_need_of
theorem w_need_of {P : Program} {w : World} {K : PySem.W.Frag} {mg : Str → Option Value} {base : Heap} {f : Addr} {fd : FuncData} (F : FP K "need_of" st_need_of f fd) (hm : mg "need_of" = some (.ref f)) (h_sum : mg "sum" = none) (F_clear_ticks : Fn P w K mg base 4 "clear_ticks" 2 S_clear_ticks) : Fn P w K mg base 5 "need_of" 2 S_need_of := by
  have sc := sc_need_of
  refine fn_body (k := 4) (N := ["crossing", "plan", "s", "ticks"]) (m := m_need_of) F hm (F.bindsN (ps := ["crossing", "plan"]) fun _ _ _ _ _ _ us hl => match us, hl with | [_, _], _ => rfl) sc (by decide) fun cdv A outer s H hr => ?_
  have hu := hr.u64
  have hv := hr.u65
  have hv1 := hr.u1
  unfold m_need_of
  exact (ss_one (s_ret (s_callB (c_sum rfl) rfl h_sum (by decide +kernel) (a_cons (s_ofL (l_comp (own := [("s", 2), ("ticks", 3)]) ⟨rfl, sc.nd, (blk_of rfl (by kernel_rfl)), by decide, fun _ _ _ _ _ => (g_tup rfl (gs_cons (g_n sc.nd) (gs_cons (g_n sc.nd) gs_nil)) rfl rfl (gCons_len (gCons_len gNil_len))), fun _ _ _ _ _ => f_nil, fun _ _ _ _ _ => (s_bin od_add s_v (s_fn (F_clear_ticks.mono (by decide)) hr rfl (a_cons s_v (a_cons s_v a_nil)) (aLen_cons (aLen_cons aLen_nil))))⟩ (i_seq s_v))) a_nil))))
theorem sc_capacity_of : FnScope ["crossing", "plan", "every", "found", "s", "ticks", "i", "movement"] ["crossing", "plan"] (defScope st_capacity_of) := ⟨rfl, rfl, rfl, by decide +kernel, rfl, by decide +kernel, by decide +kernel⟩
def m_capacity_of : M Out :=
 (sSeq (sPar [2, 3] (pVal (eFn S_stages (aCons (eVar 0) aNil)) (pOwn (eComp [7] (gN 7) (ret true) (eC (.int 0)) (iSeq (eBin ixD (eVar 0) (eC (.int 0))))) pNil)))
 (sSeq (sFor (iSeq (eVar 1)) (gT (gCons (gN 4) (gCons (gN 5) gNil)))
 (sFor (iSeq (eBin ixD (eVar 2) (eVar 4))) (gN 6)
 (sAugIx 3 (fun i j => i + j) (eVar 6) (eBin subD (eVar 5) (eC (.int 1))))))
 (sRet (eCall tupG (aCons (eFrz 3) aNil)))))
def S_capacity_of : FnSem := fnOf 8 m_capacity_of
theorem w_capacity_of {P : Program} {w : World} {K : PySem.W.Frag} {mg : Str → Option Value} {base : Heap} {f : Addr} {fd : FuncData} (F : FP K "capacity_of" st_capacity_of f fd) (hm : mg "capacity_of" = some (.ref f)) (h_tuple : mg "tuple" = none) (F_stages : Fn P w K mg base 3 "stages" 1 S_stages) : Fn P w K mg base 4 "capacity_of" 2 S_capacity_of := by
  have sc := sc_capacity_of
  refine fn_body (k := 3) (N := ["crossing", "plan", "every", "found", "s", "ticks", "i", "movement"]) (m := m_capacity_of) F hm (F.bindsN (ps := ["crossing", "plan"]) fun _ _ _ _ _ _ us hl => match us, hl with | [_, _], _ => rfl) sc (by decide) fun cdv A outer s H hr => ?_
  have hu := hr.u64
  have hv := hr.u65
  have hv1 := hr.u1
  unfold m_capacity_of
  exact (ss_cons (s_par2 rfl sc.nd rfl rfl (by decide) rfl rfl (p_val (s_fn (F_stages.mono (by decide)) hr rfl (a_cons s_v a_nil) (aLen_cons aLen_nil)) (p_own (l_comp (own := [("movement", 7)]) ⟨rfl, sc.nd, (blk_of rfl (by kernel_rfl)), by decide, fun _ _ _ _ _ => (g_n sc.nd), fun _ _ _ _ _ => f_nil, fun _ _ _ _ _ => s_int⟩ (i_seq (s_ix s_v s_int))) p_nil)) rfl)
 (ss_cons (s_for PassesOwn.never rfl (i_seq s_v) (g_tup rfl (gs_cons (g_n sc.nd) (gs_cons (g_n sc.nd) gs_nil)) rfl rfl (gCons_len (gCons_len gNil_len)))
 (ss_one (s_for PassesOwn.never rfl (i_seq (s_ix s_v s_v)) (g_n sc.nd)
 (ss_one (s_augIx pv s_v (s_bin od_sub s_v s_int) ip_add)))))
 (ss_one (s_ret (s_callT c_tup rfl h_tuple (by decide +kernel) (a_cons (s_frz pv) a_nil))))))
theorem sc_is_above : FnScope ["one", "other", "x", "y"] ["one", "other"] (defScope st_is_above) := ⟨rfl, rfl, rfl, by decide +kernel, rfl, by decide +kernel, by decide +kernel⟩
def m_is_above : M Out :=
 (sRet (eAnd (eBin neD (eVar 0) (eVar 1)) (eCall allG (aCons (eLst (eComp [2, 3] (gT (gCons (gN 2) (gCons (gN 3) gNil))) (ret true) (eBin geD (eVar 2) (eVar 3)) (iZip2 (eVar 0) (eVar 1)))) aNil))))
def S_is_above : FnSem := fnOf 4 m_is_above
theorem w_is_above {P : Program} {w : World} {K : PySem.W.Frag} {mg : Str → Option Value} {base : Heap} {f : Addr} {fd : FuncData} (F : FP K "is_above" st_is_above f fd) (hm : mg "is_above" = some (.ref f)) (h_all : mg "all" = none) (h_zip : mg "zip" = none) : Fn P w K mg base 1 "is_above" 2 S_is_above := by
  have sc := sc_is_above
  refine fn_body (k := 0) (N := ["one", "other", "x", "y"]) (m := m_is_above) F hm (F.bindsN (ps := ["one", "other"]) fun _ _ _ _ _ _ us hl => match us, hl with | [_, _], _ => rfl) sc (by decide) fun cdv A outer s H hr => ?_
  have hu := hr.u64
  have hv := hr.u65
  have hv1 := hr.u1
  unfold m_is_above
  exact (ss_one (s_ret (s_and (s_cmp (od_ne hu) s_v s_v) (s_one (s_callB (c_all rfl) rfl h_all (by decide +kernel) (a_cons (s_ofL (l_comp (own := [("x", 2), ("y", 3)]) ⟨rfl, sc.nd, (blk_of rfl (by kernel_rfl)), by decide, fun _ _ _ _ _ => (g_tup rfl (gs_cons (g_n sc.nd) (gs_cons (g_n sc.nd) gs_nil)) rfl rfl (gCons_len (gCons_len gNil_len))), fun _ _ _ _ _ => f_nil, fun _ _ _ _ _ => (s_cmp od_ge s_v s_v)⟩ (i_zip2 rfl h_zip s_v s_v))) a_nil))))))
theorem sc_fraction : FnScope ["u", "e", "common"] ["u", "e"] (defScope st_fraction) := ⟨rfl, rfl, rfl, by decide +kernel, rfl, by decide +kernel, by decide +kernel⟩
def m_fraction : M Out :=
 (sSeq (sSet 2 (eIf (tst (eBin gtD (eVar 1) (eC (.int 0)))) (eCall gcdG (aCons (eVar 0) (aCons (eVar 1) aNil))) (eUn negD (eCall gcdG (aCons (eVar 0) (aCons (eVar 1) aNil))))))
 (sRet (eTup (aCons (eBin fdivD (eVar 0) (eVar 2)) (aCons (eBin fdivD (eVar 1) (eVar 2)) aNil)))))
def S_fraction : FnSem := fnOf 3 m_fraction
theorem w_fraction {P : Program} {w : World} {K : PySem.W.Frag} {mg : Str → Option Value} {base : Heap} {f : Addr} {fd : FuncData} (F : FP K "fraction" st_fraction f fd) (hm : mg "fraction" = some (.ref f)) (h_gcd : mg "gcd" = some (.builtin "math.gcd")) : Fn P w K mg base 1 "fraction" 2 S_fraction := by
  have sc := sc_fraction
  refine fn_body (k := 0) (N := ["u", "e", "common"]) (m := m_fraction) F hm (F.bindsN (ps := ["u", "e"]) fun _ _ _ _ _ _ us hl => match us, hl with | [_, _], _ => rfl) sc (by decide) fun cdv A outer s H hr => ?_
  have hu := hr.u64
  have hv := hr.u65
  have hv1 := hr.u1
  unfold m_fraction
  exact (ss_cons (s_set sc.nd rfl (by first | exact Or.inl rfl | exact Or.inr rfl) (s_if (t_cmp od_gt s_v s_int) (s_callM c_gcd rfl h_gcd (a_cons s_v (a_cons s_v a_nil))) (s_neg (s_callM c_gcd rfl h_gcd (a_cons s_v (a_cons s_v a_nil))))))
 (ss_one (s_ret (s_tup (a_cons (s_bin od_fdiv s_v s_v) (a_cons (s_bin od_fdiv s_v s_v) a_nil))))))
theorem sc_added : FnScope ["x", "y"] ["x", "y"] (defScope st_added) := ⟨rfl, rfl, rfl, by decide +kernel, rfl, by decide +kernel, by decide +kernel⟩
def m_added : M Out :=
 (sRet (eFn S_fraction (aCons (eBin addD (eBin mulD (eBin ixD (eVar 0) (eC (.int 0))) (eBin ixD (eVar 1) (eC (.int 1)))) (eBin mulD (eBin ixD (eVar 1) (eC (.int 0))) (eBin ixD (eVar 0) (eC (.int 1))))) (aCons (eBin mulD (eBin ixD (eVar 0) (eC (.int 1))) (eBin ixD (eVar 1) (eC (.int 1)))) aNil))))
def S_added : FnSem := fnOf 2 m_added
theorem w_added {P : Program} {w : World} {K : PySem.W.Frag} {mg : Str → Option Value} {base : Heap} {f : Addr} {fd : FuncData} (F : FP K "added" st_added f fd) (hm : mg "added" = some (.ref f)) (F_fraction : Fn P w K mg base 1 "fraction" 2 S_fraction) : Fn P w K mg base 2 "added" 2 S_added := by
  have sc := sc_added
  refine fn_body (k := 1) (N := ["x", "y"]) (m := m_added) F hm (F.bindsN (ps := ["x", "y"]) fun _ _ _ _ _ _ us hl => match us, hl with | [_, _], _ => rfl) sc (by decide) fun cdv A outer s H hr => ?_
  have hu := hr.u64
  have hv := hr.u65
  have hv1 := hr.u1
  unfold m_added
  exact (ss_one (s_ret (s_fn (F_fraction.mono (by decide)) hr rfl (a_cons (s_bin od_add (s_bin od_mul (s_ix s_v s_int) (s_ix s_v s_int)) (s_bin od_mul (s_ix s_v s_int) (s_ix s_v s_int))) (a_cons (s_bin od_mul (s_ix s_v s_int) (s_ix s_v s_int)) a_nil)) (aLen_cons (aLen_cons aLen_nil)))))
theorem sc_multiplied : FnScope ["x", "y"] ["x", "y"] (defScope st_multiplied) := ⟨rfl, rfl, rfl, by decide +kernel, rfl, by decide +kernel, by decide +kernel⟩
def m_multiplied : M Out :=
 (sRet (eFn S_fraction (aCons (eBin mulD (eBin ixD (eVar 0) (eC (.int 0))) (eBin ixD (eVar 1) (eC (.int 0)))) (aCons (eBin mulD (eBin ixD (eVar 0) (eC (.int 1))) (eBin ixD (eVar 1) (eC (.int 1)))) aNil))))
def S_multiplied : FnSem := fnOf 2 m_multiplied
theorem w_multiplied {P : Program} {w : World} {K : PySem.W.Frag} {mg : Str → Option Value} {base : Heap} {f : Addr} {fd : FuncData} (F : FP K "multiplied" st_multiplied f fd) (hm : mg "multiplied" = some (.ref f)) (F_fraction : Fn P w K mg base 1 "fraction" 2 S_fraction) : Fn P w K mg base 2 "multiplied" 2 S_multiplied := by
  have sc := sc_multiplied
  refine fn_body (k := 1) (N := ["x", "y"]) (m := m_multiplied) F hm (F.bindsN (ps := ["x", "y"]) fun _ _ _ _ _ _ us hl => match us, hl with | [_, _], _ => rfl) sc (by decide) fun cdv A outer s H hr => ?_
  have hu := hr.u64
  have hv := hr.u65
  have hv1 := hr.u1
  unfold m_multiplied
  exact (ss_one (s_ret (s_fn (F_fraction.mono (by decide)) hr rfl (a_cons (s_bin od_mul (s_ix s_v s_int) (s_ix s_v s_int)) (a_cons (s_bin od_mul (s_ix s_v s_int) (s_ix s_v s_int)) a_nil)) (aLen_cons (aLen_cons aLen_nil)))))
theorem sc_useful_plans : FnScope ["crossing", "found", "s", "further", "plan", "room", "ticks"] ["crossing"] (defScope st_useful_plans) := ⟨rfl, rfl, rfl, by decide +kernel, rfl, by decide +kernel, by decide +kernel⟩
def m_useful_plans : M Out :=
 (sSeq (sSet 1 (eLst (lDisp (aCons (eTup aNil) aNil))))
 (sSeq (sFor (iRg1 (eCall lenG (aCons (eFn S_stages (aCons (eVar 0) aNil)) aNil))) (gN 2)
 (sSeq (sOwn 3 (lDisp aNil))
 (sSeq (sFor (iSeq (eVar 1)) (gN 4)
 (sSeq (sSet 5 (eBin subD (eBin subD (eBin ixD (eVar 0) (eC (.int 2))) (eFn S_need_of (aCons (eVar 0) (aCons (eVar 4) aNil)))) (eFn S_clear_ticks (aCons (eVar 0) (aCons (eVar 2) aNil)))))
 (sExpr (eExt 3 (eLst (eComp [6] (gN 6) (ret true) (eBin addD (eVar 4) (eTup (aCons (eTup (aCons (eVar 2) (aCons (eVar 6) aNil))) aNil))) (iRg2 (eC (.int 2)) (eBin addD (eVar 5) (eC (.int 1))))))))))
 (sSet 1 (eBin addD (eVar 1) (eFrz 3))))))
 (sRet (eVar 1))))
def S_useful_plans : FnSem := fnOf 7 m_useful_plans
theorem w_useful_plans {P : Program} {w : World} {K : PySem.W.Frag} {mg : Str → Option Value} {base : Heap} {f : Addr} {fd : FuncData} (F : FP K "useful_plans" st_useful_plans f fd) (hm : mg "useful_plans" = some (.ref f)) (h_len : mg "len" = none) (h_range : mg "range" = none) (F_clear_ticks : Fn P w K mg base 4 "clear_ticks" 2 S_clear_ticks) (F_need_of : Fn P w K mg base 5 "need_of" 2 S_need_of) (F_stages : Fn P w K mg base 3 "stages" 1 S_stages) : Fn P w K mg base 6 "useful_plans" 1 S_useful_plans := by
  have sc := sc_useful_plans
  refine fn_body (k := 5) (N := ["crossing", "found", "s", "further", "plan", "room", "ticks"]) (m := m_useful_plans) F hm (F.bindsN (ps := ["crossing"]) fun _ _ _ _ _ _ us hl => match us, hl with | [_], _ => rfl) sc (by decide) fun cdv A outer s H hr => ?_
  have hu := hr.u64
  have hv := hr.u65
  have hv1 := hr.u1
  unfold m_useful_plans
  exact (ss_cons (s_set sc.nd rfl (by first | exact Or.inl rfl | exact Or.inr rfl) (s_ofL (l_dsp (a_cons (s_tup a_nil) a_nil))))
 (ss_cons (s_for PassesOwn.never rfl (i_rg1 rfl h_range (s_callB c_len rfl h_len (by decide +kernel) (a_cons (s_fn (F_stages.mono (by decide)) hr rfl (a_cons s_v a_nil) (aLen_cons aLen_nil)) a_nil))) (g_n sc.nd)
 (ss_cons (s_own sc.nd rfl (by first | exact Or.inl rfl | exact Or.inr rfl) (l_dsp a_nil))
 (ss_cons (s_for PassesOwn.never rfl (i_seq s_v) (g_n sc.nd)
 (ss_cons (s_set sc.nd rfl (by first | exact Or.inl rfl | exact Or.inr rfl) (s_bin od_sub (s_bin od_sub (s_ix s_v s_int) (s_fn (F_need_of.mono (by decide)) hr rfl (a_cons s_v (a_cons s_v a_nil)) (aLen_cons (aLen_cons aLen_nil)))) (s_fn (F_clear_ticks.mono (by decide)) hr rfl (a_cons s_v (a_cons s_v a_nil)) (aLen_cons (aLen_cons aLen_nil)))))
 (ss_one (s_expr (s_extend pv (s_ofL (l_comp (own := [("ticks", 6)]) ⟨rfl, sc.nd, (blk_of rfl (by kernel_rfl)), by decide, fun _ _ _ _ _ => (g_n sc.nd), fun _ _ _ _ _ => f_nil, fun _ _ _ _ _ => (s_bin od_add s_v (s_tup (a_cons (s_tup (a_cons s_v (a_cons s_v a_nil))) a_nil)))⟩ (i_rg2 rfl h_range s_int (s_bin od_add s_v s_int)))))))))
 (ss_one (s_set sc.nd rfl (by first | exact Or.inl rfl | exact Or.inr rfl) (s_bin od_add s_v (s_frz pv)))))))
 (ss_one (s_ret s_v))))
theorem sc_choice_key : FnScope ["crossing", "plan"] ["crossing", "plan"] (defScope st_choice_key) := ⟨rfl, rfl, rfl, by decide +kernel, rfl, by decide +kernel, by decide +kernel⟩
def m_choice_key : M Out :=
 (sRet (eTup (aCons (eFn S_need_of (aCons (eVar 0) (aCons (eVar 1) aNil))) (aCons (eCall lenG (aCons (eVar 1) aNil)) (aCons (eVar 1) aNil)))))
def S_choice_key : FnSem := fnOf 2 m_choice_key
theorem w_choice_key {P : Program} {w : World} {K : PySem.W.Frag} {mg : Str → Option Value} {base : Heap} {f : Addr} {fd : FuncData} (F : FP K "choice_key" st_choice_key f fd) (hm : mg "choice_key" = some (.ref f)) (h_len : mg "len" = none) (F_need_of : Fn P w K mg base 5 "need_of" 2 S_need_of) : Fn P w K mg base 6 "choice_key" 2 S_choice_key := by
  have sc := sc_choice_key
  refine fn_body (k := 5) (N := ["crossing", "plan"]) (m := m_choice_key) F hm (F.bindsN (ps := ["crossing", "plan"]) fun _ _ _ _ _ _ us hl => match us, hl with | [_, _], _ => rfl) sc (by decide) fun cdv A outer s H hr => ?_
  have hu := hr.u64
  have hv := hr.u65
  have hv1 := hr.u1
  unfold m_choice_key
  exact (ss_one (s_ret (s_tup (a_cons (s_fn (F_need_of.mono (by decide)) hr rfl (a_cons s_v (a_cons s_v a_nil)) (aLen_cons (aLen_cons aLen_nil))) (a_cons (s_callB c_len rfl h_len (by decide +kernel) (a_cons s_v a_nil)) (a_cons s_v a_nil))))))
theorem sc_leading_table : FnScope ["crossing", "known", "plan", "capacity", "every", "one", "other"] ["crossing"] (defScope st_leading_table) := ⟨rfl, rfl, rfl, by decide +kernel, rfl, by decide +kernel, by decide +kernel⟩
def m_leading_table : M Out :=
 (sSeq (sOwnN 1 nT0)
 (sSeq (sFor (iSeq (eFn S_useful_plans (aCons (eVar 0) aNil))) (gN 2)
 (sSeq (sSet 3 (eFn S_capacity_of (aCons (eVar 0) (aCons (eVar 2) aNil))))
 (sIf (tOr2 (tBor [1] (tst (eBin dninD (eVar 3) (eVar 1)))) (tst (eBin ltN (eFn S_choice_key (aCons (eVar 0) (aCons (eVar 2) aNil))) (eFn S_choice_key (aCons (eVar 0) (aCons (eDgO 1 (eVar 3)) aNil))))))
 (sPutD 1 (eVar 2) (eVar 3))
 sNx)))
 (sSeq (sSet 4 (eLstT 1))
 (sRet (eNw (nDcT [5] (gN 5) (tNot1 (tru (eCall anyG (aCons (eLst (eComp [6] (gN 6) (ret true) (eFn S_is_above (aCons (eVar 6) (aCons (eVar 5) aNil))) (iSeq (eVar 4)))) aNil)))) (eVar 5) (eDgO 1 (eVar 5)) (iSeq (eVar 4))))))))
def S_leading_table : FnSem := fnOf 7 m_leading_table
theorem w_leading_table {P : Program} {w : World} {K : PySem.W.Frag} {mg : Str → Option Value} {base : Heap} {f : Addr} {fd : FuncData} (F : FP K "leading_table" st_leading_table f fd) (hm : mg "leading_table" = some (.ref f)) (h_any : mg "any" = none) (h_list : mg "list" = none) (F_capacity_of : Fn P w K mg base 4 "capacity_of" 2 S_capacity_of) (F_choice_key : Fn P w K mg base 6 "choice_key" 2 S_choice_key) (F_is_above : Fn P w K mg base 1 "is_above" 2 S_is_above) (F_useful_plans : Fn P w K mg base 6 "useful_plans" 1 S_useful_plans) : Fn P w K mg base 7 "leading_table" 1 S_leading_table := by
  have sc := sc_leading_table
  refine fn_body (k := 6) (N := ["crossing", "known", "plan", "capacity", "every", "one", "other"]) (m := m_leading_table) F hm (F.bindsN (ps := ["crossing"]) fun _ _ _ _ _ _ us hl => match us, hl with | [_], _ => rfl) sc (by decide) fun cdv A outer s H hr => ?_
  have hu := hr.u64
  have hv := hr.u65
  have hv1 := hr.u1
  unfold m_leading_table
  exact (ss_cons (s_ownN sc.nd rfl (by first | exact Or.inl rfl | exact Or.inr rfl) n_dT)
 (ss_cons (s_for PassesOwn.never rfl (i_seq (s_fn (F_useful_plans.mono (by decide)) hr rfl (a_cons s_v a_nil) (aLen_cons aLen_nil))) (g_n sc.nd)
 (ss_cons (s_set sc.nd rfl (by first | exact Or.inl rfl | exact Or.inr rfl) (s_fn (F_capacity_of.mono (by decide)) hr rfl (a_cons s_v (a_cons s_v a_nil)) (aLen_cons (aLen_cons aLen_nil))))
 (ss_one (s_ifS (SW.t (w_or (t_bor (t_dnin hv1 s_v s_v)) (w_or1 (t_cmp (od_ltN hu) (s_fn (F_choice_key.mono (by decide)) hr rfl (a_cons s_v (a_cons s_v a_nil)) (aLen_cons (aLen_cons aLen_nil))) (s_fn (F_choice_key.mono (by decide)) hr rfl (a_cons s_v (a_cons (s_dgO hv1 pv s_v) a_nil)) (aLen_cons (aLen_cons aLen_nil)))))))
 (ss_one (s_putD hv1 pv s_v s_v))
 ss_nil))))
 (ss_cons (s_set sc.nd rfl (by first | exact Or.inl rfl | exact Or.inr rfl) (s_lstT rfl rfl h_list pv))
 (ss_one (s_ret (s_nw (n_dcT (own := [("one", 5)]) hv1 ⟨rfl, sc.nd, (blk_of rfl (by kernel_rfl)), by decide, fun _ _ _ _ _ => (g_n sc.nd), fun _ _ _ _ _ => (f_one (t_not (t_of (s_callB (c_any rfl) rfl h_any (by decide +kernel) (a_cons (s_ofL (l_comp (own := [("other", 6)]) ⟨rfl, sc.nd, (blk_of rfl (by kernel_rfl)), by decide, fun _ _ _ _ _ => (g_n sc.nd), fun _ _ _ _ _ => f_nil, fun _ _ _ _ _ => (s_fn (F_is_above.mono (by decide)) hr rfl (a_cons s_v (a_cons s_v a_nil)) (aLen_cons (aLen_cons aLen_nil)))⟩ (i_seq s_v))) a_nil))))), fun _ _ _ _ _ => (s_dgO hv1 pv s_v)⟩ (i_seq s_v) (fun _ _ _ _ _ => s_v))))))))
theorem sc_leading_plans : FnScope ["crossing"] ["crossing"] (defScope st_leading_plans) := ⟨rfl, rfl, rfl, by decide +kernel, rfl, by decide +kernel, by decide +kernel⟩
def m_leading_plans : M Out :=
 (sRet (eCall tupG (aCons (eLst (eCallL srtH (aCons (eLst (bnd (eFn S_leading_table (aCons (eVar 0) aNil)) fun d => lift (valsL d))) aNil))) aNil)))
def S_leading_plans : FnSem := fnOf 1 m_leading_plans
theorem w_leading_plans {P : Program} {w : World} {K : PySem.W.Frag} {mg : Str → Option Value} {base : Heap} {f : Addr} {fd : FuncData} (F : FP K "leading_plans" st_leading_plans f fd) (hm : mg "leading_plans" = some (.ref f)) (h_list : mg "list" = none) (h_sorted : mg "sorted" = none) (h_tuple : mg "tuple" = none) (F_leading_table : Fn P w K mg base 7 "leading_table" 1 S_leading_table) : Fn P w K mg base 8 "leading_plans" 1 S_leading_plans := by
  have sc := sc_leading_plans
  refine fn_body (k := 7) (N := ["crossing"]) (m := m_leading_plans) F hm (F.bindsN (ps := ["crossing"]) fun _ _ _ _ _ _ us hl => match us, hl with | [_], _ => rfl) sc (by decide) fun cdv A outer s H hr => ?_
  have hu := hr.u64
  have hv := hr.u65
  have hv1 := hr.u1
  unfold m_leading_plans
  exact (ss_one (s_ret (s_callT c_tup rfl h_tuple (by decide +kernel) (a_cons (s_ofL (l_callB (c_srtH hr) rfl h_sorted boot_sorted (a_cons (s_ofL (l_vals rfl (s_fn (F_leading_table.mono (by decide)) hr rfl (a_cons s_v a_nil) (aLen_cons aLen_nil)) rfl h_list)) a_nil))) a_nil))))
theorem sc_leading_capacities : FnScope ["crossing", "plan"] ["crossing"] (defScope st_leading_capacities) := ⟨rfl, rfl, rfl, by decide +kernel, rfl, by decide +kernel, by decide +kernel⟩
def m_leading_capacities : M Out :=
 (sRet (eCall tupG (aCons (eLst (eComp [1] (gN 1) (ret true) (eFn S_capacity_of (aCons (eVar 0) (aCons (eVar 1) aNil))) (iSeq (eFn S_leading_plans (aCons (eVar 0) aNil))))) aNil)))
def S_leading_capacities : FnSem := fnOf 2 m_leading_capacities
theorem w_leading_capacities {P : Program} {w : World} {K : PySem.W.Frag} {mg : Str → Option Value} {base : Heap} {f : Addr} {fd : FuncData} (F : FP K "leading_capacities" st_leading_capacities f fd) (hm : mg "leading_capacities" = some (.ref f)) (h_tuple : mg "tuple" = none) (F_capacity_of : Fn P w K mg base 4 "capacity_of" 2 S_capacity_of) (F_leading_plans : Fn P w K mg base 8 "leading_plans" 1 S_leading_plans) : Fn P w K mg base 9 "leading_capacities" 1 S_leading_capacities := by
  have sc := sc_leading_capacities
  refine fn_body (k := 8) (N := ["crossing", "plan"]) (m := m_leading_capacities) F hm (F.bindsN (ps := ["crossing"]) fun _ _ _ _ _ _ us hl => match us, hl with | [_], _ => rfl) sc (by decide) fun cdv A outer s H hr => ?_
  have hu := hr.u64
  have hv := hr.u65
  have hv1 := hr.u1
  unfold m_leading_capacities
  exact (ss_one (s_ret (s_callT c_tup rfl h_tuple (by decide +kernel) (a_cons (s_ofL (l_comp (own := [("plan", 1)]) ⟨rfl, sc.nd, (blk_of rfl (by kernel_rfl)), by decide, fun _ _ _ _ _ => (g_n sc.nd), fun _ _ _ _ _ => f_nil, fun _ _ _ _ _ => (s_fn (F_capacity_of.mono (by decide)) hr rfl (a_cons s_v (a_cons s_v a_nil)) (aLen_cons (aLen_cons aLen_nil)))⟩ (i_seq (s_fn (F_leading_plans.mono (by decide)) hr rfl (a_cons s_v a_nil) (aLen_cons aLen_nil))))) a_nil))))
theorem sc_mixed_capacity : FnScope ["crossing", "shares", "found", "capacity", "share", "movement", "x", "many"] ["crossing", "shares"] (defScope st_mixed_capacity) := ⟨rfl, rfl, rfl, by decide +kernel, rfl, by decide +kernel, by decide +kernel⟩
def m_mixed_capacity : M Out :=
 (sSeq (sSet 2 (eLst (eComp [5] (gN 5) (ret true) (eTup (aCons (eC (.int 0)) (aCons (eC (.int 1)) aNil))) (iSeq (eBin ixD (eVar 0) (eC (.int 0)))))))
 (sSeq (sFor (iZip2 (eFn S_leading_capacities (aCons (eVar 0) aNil)) (eVar 1)) (gT (gCons (gN 3) (gCons (gN 4) gNil)))
 (sSet 2 (eLst (eComp [6, 7] (gT (gCons (gN 6) (gCons (gN 7) gNil))) (ret true) (eFn S_added (aCons (eVar 6) (aCons (eFn S_multiplied (aCons (eVar 4) (aCons (eTup (aCons (eVar 7) (aCons (eC (.int 1)) aNil))) aNil))) aNil))) (iZip2 (eVar 2) (eVar 3))))))
 (sRet (eCall tupG (aCons (eVar 2) aNil)))))
def S_mixed_capacity : FnSem := fnOf 8 m_mixed_capacity
theorem w_mixed_capacity {P : Program} {w : World} {K : PySem.W.Frag} {mg : Str → Option Value} {base : Heap} {f : Addr} {fd : FuncData} (F : FP K "mixed_capacity" st_mixed_capacity f fd) (hm : mg "mixed_capacity" = some (.ref f)) (h_tuple : mg "tuple" = none) (h_zip : mg "zip" = none) (F_added : Fn P w K mg base 2 "added" 2 S_added) (F_leading_capacities : Fn P w K mg base 9 "leading_capacities" 1 S_leading_capacities) (F_multiplied : Fn P w K mg base 2 "multiplied" 2 S_multiplied) : Fn P w K mg base 10 "mixed_capacity" 2 S_mixed_capacity := by
  have sc := sc_mixed_capacity
  refine fn_body (k := 9) (N := ["crossing", "shares", "found", "capacity", "share", "movement", "x", "many"]) (m := m_mixed_capacity) F hm (F.bindsN (ps := ["crossing", "shares"]) fun _ _ _ _ _ _ us hl => match us, hl with | [_, _], _ => rfl) sc (by decide) fun cdv A outer s H hr => ?_
  have hu := hr.u64
  have hv := hr.u65
  have hv1 := hr.u1
  unfold m_mixed_capacity
  exact (ss_cons (s_setLc (own := [("movement", 5)])  rfl rfl rfl ⟨rfl, sc.nd, (blk_of rfl (by kernel_rfl)), by decide, fun _ _ _ _ _ => (g_n sc.nd), fun _ _ _ _ _ => f_nil, fun _ _ _ _ _ => (s_tup (a_cons s_int (a_cons s_int a_nil)))⟩ (i_seq (s_ix s_v s_int)))
 (ss_cons (s_for PassesOwn.never rfl (i_zip2 rfl h_zip (s_fn (F_leading_capacities.mono (by decide)) hr rfl (a_cons s_v a_nil) (aLen_cons aLen_nil)) s_v) (g_tup rfl (gs_cons (g_n sc.nd) (gs_cons (g_n sc.nd) gs_nil)) rfl rfl (gCons_len (gCons_len gNil_len)))
 (ss_one (s_setLc (own := [("x", 6), ("many", 7)])  rfl rfl rfl ⟨rfl, sc.nd, (blk_of rfl (by kernel_rfl)), by decide, fun _ _ _ _ _ => (g_tup rfl (gs_cons (g_n sc.nd) (gs_cons (g_n sc.nd) gs_nil)) rfl rfl (gCons_len (gCons_len gNil_len))), fun _ _ _ _ _ => f_nil, fun _ _ _ _ _ => (s_fn (F_added.mono (by decide)) hr rfl (a_cons s_v (a_cons (s_fn (F_multiplied.mono (by decide)) hr rfl (a_cons s_v (a_cons (s_tup (a_cons s_v (a_cons s_int a_nil))) a_nil)) (aLen_cons (aLen_cons aLen_nil))) a_nil)) (aLen_cons (aLen_cons aLen_nil)))⟩ (i_zip2 rfl h_zip s_v s_v))))
 (ss_one (s_ret (s_callT c_tup rfl h_tuple (by decide +kernel) (a_cons s_v a_nil))))))
theorem sc_frames_of : FnScope ["shares", "found", "share"] ["shares"] (defScope st_frames_of) := ⟨rfl, rfl, rfl, by decide +kernel, rfl, by decide +kernel, by decide +kernel⟩
def m_frames_of : M Out :=
 (sSeq (sSet 1 (eC (.int 1)))
 (sSeq (sFor (iSeq (eVar 0)) (gN 2)
 (sAugO 1 imulD (eBin ixD (eFn S_fraction (aCons (eBin ixD (eVar 2) (eC (.int 1))) (aCons (eVar 1) aNil))) (eC (.int 0)))))
 (sRet (eVar 1))))
def S_frames_of : FnSem := fnOf 3 m_frames_of
theorem w_frames_of {P : Program} {w : World} {K : PySem.W.Frag} {mg : Str → Option Value} {base : Heap} {f : Addr} {fd : FuncData} (F : FP K "frames_of" st_frames_of f fd) (hm : mg "frames_of" = some (.ref f)) (F_fraction : Fn P w K mg base 1 "fraction" 2 S_fraction) : Fn P w K mg base 2 "frames_of" 1 S_frames_of := by
  have sc := sc_frames_of
  refine fn_body (k := 1) (N := ["shares", "found", "share"]) (m := m_frames_of) F hm (F.bindsN (ps := ["shares"]) fun _ _ _ _ _ _ us hl => match us, hl with | [_], _ => rfl) sc (by decide) fun cdv A outer s H hr => ?_
  have hu := hr.u64
  have hv := hr.u65
  have hv1 := hr.u1
  unfold m_frames_of
  exact (ss_cons (s_set sc.nd rfl (by first | exact Or.inl rfl | exact Or.inr rfl) s_int)
 (ss_cons (s_for PassesOwn.never rfl (i_seq s_v) (g_n sc.nd)
 (ss_one (s_augO sc.nd rfl (by first | exact Or.inl rfl | exact Or.inr rfl) (s_ix (s_fn (F_fraction.mono (by decide)) hr rfl (a_cons (s_ix s_v s_int) (a_cons s_v a_nil)) (aLen_cons (aLen_cons aLen_nil))) s_int) od_imul)))
 (ss_one (s_ret s_v))))
theorem sc_round_counts : FnScope ["crossing", "shares", "frames", "share"] ["crossing", "shares"] (defScope st_round_counts) := ⟨rfl, rfl, rfl, by decide +kernel, rfl, by decide +kernel, by decide +kernel⟩
def m_round_counts : M Out :=
 (sSeq (sSet 2 (eFn S_frames_of (aCons (eVar 1) aNil)))
 (sRet (eCall tupG (aCons (eLst (eComp [3] (gN 3) (ret true) (eBin mulD (eBin ixD (eVar 3) (eC (.int 0))) (eBin fdivD (eVar 2) (eBin ixD (eVar 3) (eC (.int 1))))) (iSeq (eVar 1)))) aNil))))
def S_round_counts : FnSem := fnOf 4 m_round_counts
theorem w_round_counts {P : Program} {w : World} {K : PySem.W.Frag} {mg : Str → Option Value} {base : Heap} {f : Addr} {fd : FuncData} (F : FP K "round_counts" st_round_counts f fd) (hm : mg "round_counts" = some (.ref f)) (h_tuple : mg "tuple" = none) (F_frames_of : Fn P w K mg base 2 "frames_of" 1 S_frames_of) : Fn P w K mg base 3 "round_counts" 2 S_round_counts := by
  have sc := sc_round_counts
  refine fn_body (k := 2) (N := ["crossing", "shares", "frames", "share"]) (m := m_round_counts) F hm (F.bindsN (ps := ["crossing", "shares"]) fun _ _ _ _ _ _ us hl => match us, hl with | [_, _], _ => rfl) sc (by decide) fun cdv A outer s H hr => ?_
  have hu := hr.u64
  have hv := hr.u65
  have hv1 := hr.u1
  unfold m_round_counts
  exact (ss_cons (s_set sc.nd rfl (by first | exact Or.inl rfl | exact Or.inr rfl) (s_fn (F_frames_of.mono (by decide)) hr rfl (a_cons s_v a_nil) (aLen_cons aLen_nil)))
 (ss_one (s_ret (s_callT c_tup rfl h_tuple (by decide +kernel) (a_cons (s_ofL (l_comp (own := [("share", 3)]) ⟨rfl, sc.nd, (blk_of rfl (by kernel_rfl)), by decide, fun _ _ _ _ _ => (g_n sc.nd), fun _ _ _ _ _ => f_nil, fun _ _ _ _ _ => (s_bin od_mul (s_ix s_v s_int) (s_bin od_fdiv s_v (s_ix s_v s_int)))⟩ (i_seq s_v))) a_nil)))))
theorem sc_spread_round : FnScope ["crossing", "shares", "found", "j", "many"] ["crossing", "shares"] (defScope st_spread_round) := ⟨rfl, rfl, rfl, by decide +kernel, rfl, by decide +kernel, by decide +kernel⟩
def m_spread_round : M Out :=
 (sSeq (sOwn 2 (lDisp aNil))
 (sSeq (sFor (iEnum (eFn S_round_counts (aCons (eVar 0) (aCons (eVar 1) aNil)))) (gT (gCons (gN 3) (gCons (gN 4) gNil)))
 (sExpr (eExt 2 (eBin mulD (eLst (lDisp (aCons (eVar 3) aNil))) (eVar 4)))))
 (sRet (eCall tpxG (aCons (eFrz 2) aNil)))))
def S_spread_round : FnSem := fnOf 5 m_spread_round
theorem w_spread_round {P : Program} {w : World} {K : PySem.W.Frag} {mg : Str → Option Value} {base : Heap} {f : Addr} {fd : FuncData} (F : FP K "spread_round" st_spread_round f fd) (hm : mg "spread_round" = some (.ref f)) (h_enumerate : mg "enumerate" = none) (h_tuple : mg "tuple" = none) (F_round_counts : Fn P w K mg base 3 "round_counts" 2 S_round_counts) : Fn P w K mg base 4 "spread_round" 2 S_spread_round := by
  have sc := sc_spread_round
  refine fn_body (k := 3) (N := ["crossing", "shares", "found", "j", "many"]) (m := m_spread_round) F hm (F.bindsN (ps := ["crossing", "shares"]) fun _ _ _ _ _ _ us hl => match us, hl with | [_, _], _ => rfl) sc (by decide) fun cdv A outer s H hr => ?_
  have hu := hr.u64
  have hv := hr.u65
  have hv1 := hr.u1
  unfold m_spread_round
  exact (ss_cons (s_own sc.nd rfl (by first | exact Or.inl rfl | exact Or.inr rfl) (l_dsp a_nil))
 (ss_cons (s_for PassesOwn.never rfl (i_enum rfl h_enumerate (s_fn (F_round_counts.mono (by decide)) hr rfl (a_cons s_v (a_cons s_v a_nil)) (aLen_cons (aLen_cons aLen_nil)))) (g_tup rfl (gs_cons (g_n sc.nd) (gs_cons (g_n sc.nd) gs_nil)) rfl rfl (gCons_len (gCons_len gNil_len)))
 (ss_one (s_expr (s_extend pv (s_bin od_mul (s_ofL (l_dsp (a_cons s_v a_nil))) s_v)))))
 (ss_one (s_ret (s_callT c_tpx rfl h_tuple (by decide +kernel) (a_cons (s_frz pv) a_nil))))))
theorem sc_greens : FnScope ["crossing", "plan", "every", "found", "tick", "s", "ticks", "i"] ["crossing", "plan"] (defScope st_greens) := ⟨rfl, rfl, rfl, by decide +kernel, rfl, by decide +kernel, by decide +kernel⟩
def m_greens : M Out :=
 (sSeq (sPar [2, 3, 4] (pVal (eFn S_stages (aCons (eVar 0) aNil)) (pOwn (lDisp aNil) (pVal (eC (.int 0)) pNil))))
 (sSeq (sFor (iSeq (eVar 1)) (gT (gCons (gN 5) (gCons (gN 6) gNil)))
 (sSeq (sExpr (eExt 3 (eLst (eComp [7] (gN 7) (ret true) (eTup (aCons (eVar 7) (aCons (eVar 4) (aCons (eBin addD (eVar 4) (eVar 6)) aNil)))) (iSeq (eBin ixD (eVar 2) (eVar 5)))))))
 (sAug 4 (fun i j => i + j) (eBin addD (eVar 6) (eFn S_clear_ticks (aCons (eVar 0) (aCons (eVar 5) aNil)))))))
 (sRet (eCall tupG (aCons (eLst (eCallL srtG (aCons (eFrz 3) aNil))) aNil)))))
def S_greens : FnSem := fnOf 8 m_greens
theorem w_greens {P : Program} {w : World} {K : PySem.W.Frag} {mg : Str → Option Value} {base : Heap} {f : Addr} {fd : FuncData} (F : FP K "greens" st_greens f fd) (hm : mg "greens" = some (.ref f)) (h_sorted : mg "sorted" = none) (h_tuple : mg "tuple" = none) (F_clear_ticks : Fn P w K mg base 4 "clear_ticks" 2 S_clear_ticks) (F_stages : Fn P w K mg base 3 "stages" 1 S_stages) : Fn P w K mg base 5 "greens" 2 S_greens := by
  have sc := sc_greens
  refine fn_body (k := 4) (N := ["crossing", "plan", "every", "found", "tick", "s", "ticks", "i"]) (m := m_greens) F hm (F.bindsN (ps := ["crossing", "plan"]) fun _ _ _ _ _ _ us hl => match us, hl with | [_, _], _ => rfl) sc (by decide) fun cdv A outer s H hr => ?_
  have hu := hr.u64
  have hv := hr.u65
  have hv1 := hr.u1
  unfold m_greens
  exact (ss_cons (s_parT rfl (by decide) (pgs_name sc.nd rfl (by first | exact Or.inl rfl | exact Or.inr rfl) (pgs_name sc.nd rfl (by first | exact Or.inl rfl | exact Or.inr rfl) (pgs_name sc.nd rfl (by first | exact Or.inl rfl | exact Or.inr rfl) pgs_none))) (p_val (s_fn (F_stages.mono (by decide)) hr rfl (a_cons s_v a_nil) (aLen_cons aLen_nil)) (p_own (l_dsp a_nil) (p_val s_int p_nil))))
 (ss_cons (s_for PassesOwn.never rfl (i_seq s_v) (g_tup rfl (gs_cons (g_n sc.nd) (gs_cons (g_n sc.nd) gs_nil)) rfl rfl (gCons_len (gCons_len gNil_len)))
 (ss_cons (s_expr (s_extend pv (s_ofL (l_comp (own := [("i", 7)]) ⟨rfl, sc.nd, (blk_of rfl (by kernel_rfl)), by decide, fun _ _ _ _ _ => (g_n sc.nd), fun _ _ _ _ _ => f_nil, fun _ _ _ _ _ => (s_tup (a_cons s_v (a_cons s_v (a_cons (s_bin od_add s_v s_v) a_nil))))⟩ (i_seq (s_ix s_v s_v))))))
 (ss_one (s_aug sc.nd rfl (by first | exact Or.inl rfl | exact Or.inr rfl) (s_bin od_add s_v (s_fn (F_clear_ticks.mono (by decide)) hr rfl (a_cons s_v (a_cons s_v a_nil)) (aLen_cons (aLen_cons aLen_nil)))) ip_add))))
 (ss_one (s_ret (s_callT c_tup rfl h_tuple (by decide +kernel) (a_cons (s_ofL (l_callB (c_srt hr) rfl h_sorted boot_sorted (a_cons (s_frz pv) a_nil))) a_nil))))))
theorem sc_lamps_at : FnScope ["crossing", "plan", "tick", "i", "begin", "end"] ["crossing", "plan", "tick"] (defScope st_lamps_at) := ⟨rfl, rfl, rfl, by decide +kernel, rfl, by decide +kernel, by decide +kernel⟩
def m_lamps_at : M Out :=
 (sRet (eCall tupG (aCons (eLst (eComp [3, 4, 5] (gT (gCons (gN 3) (gCons (gN 4) (gCons (gN 5) gNil)))) (tst (eChain leD ltD (eVar 4) (eVar 2) (eVar 5))) (eVar 3) (iSeq (eFn S_greens (aCons (eVar 0) (aCons (eVar 1) aNil)))))) aNil)))
def S_lamps_at : FnSem := fnOf 6 m_lamps_at
theorem w_lamps_at {P : Program} {w : World} {K : PySem.W.Frag} {mg : Str → Option Value} {base : Heap} {f : Addr} {fd : FuncData} (F : FP K "lamps_at" st_lamps_at f fd) (hm : mg "lamps_at" = some (.ref f)) (h_tuple : mg "tuple" = none) (F_greens : Fn P w K mg base 5 "greens" 2 S_greens) : Fn P w K mg base 6 "lamps_at" 3 S_lamps_at := by
  have sc := sc_lamps_at
  refine fn_body (k := 5) (N := ["crossing", "plan", "tick", "i", "begin", "end"]) (m := m_lamps_at) F hm (F.bindsN (ps := ["crossing", "plan", "tick"]) fun _ _ _ _ _ _ us hl => match us, hl with | [_, _, _], _ => rfl) sc (by decide) fun cdv A outer s H hr => ?_
  have hu := hr.u64
  have hv := hr.u65
  have hv1 := hr.u1
  unfold m_lamps_at
  exact (ss_one (s_ret (s_callT c_tup rfl h_tuple (by decide +kernel) (a_cons (s_ofL (l_comp (own := [("i", 3), ("begin", 4), ("end", 5)]) ⟨rfl, sc.nd, (blk_of rfl (by kernel_rfl)), by decide, fun _ _ _ _ _ => (g_tup rfl (gs_cons (g_n sc.nd) (gs_cons (g_n sc.nd) (gs_cons (g_n sc.nd) gs_nil))) rfl rfl (gCons_len (gCons_len (gCons_len gNil_len)))), fun _ _ _ _ _ => (f_one (t_chain od_le od_lt s_v s_v s_v)), fun _ _ _ _ _ => s_v⟩ (i_seq (s_fn (F_greens.mono (by decide)) hr rfl (a_cons s_v (a_cons s_v a_nil)) (aLen_cons (aLen_cons aLen_nil)))))) a_nil))))
theorem sc_lamp_rows : FnScope ["crossing", "plans", "found", "plan", "tick"] ["crossing", "plans"] (defScope st_lamp_rows) := ⟨rfl, rfl, rfl, by decide +kernel, rfl, by decide +kernel, by decide +kernel⟩
def m_lamp_rows : M Out :=
 (sSeq (sOwn 2 (lDisp aNil))
 (sSeq (sFor (iSeq (eVar 1)) (gN 3)
 (sExpr (eExt 2 (eLst (eComp [4] (gN 4) (ret true) (eFn S_lamps_at (aCons (eVar 0) (aCons (eVar 3) (aCons (eVar 4) aNil)))) (iRg1 (eBin ixD (eVar 0) (eC (.int 2)))))))))
 (sRet (eFrz 2))))
def S_lamp_rows : FnSem := fnOf 5 m_lamp_rows
theorem w_lamp_rows {P : Program} {w : World} {K : PySem.W.Frag} {mg : Str → Option Value} {base : Heap} {f : Addr} {fd : FuncData} (F : FP K "lamp_rows" st_lamp_rows f fd) (hm : mg "lamp_rows" = some (.ref f)) (h_range : mg "range" = none) (F_lamps_at : Fn P w K mg base 6 "lamps_at" 3 S_lamps_at) : Fn P w K mg base 7 "lamp_rows" 2 S_lamp_rows := by
  have sc := sc_lamp_rows
  refine fn_body (k := 6) (N := ["crossing", "plans", "found", "plan", "tick"]) (m := m_lamp_rows) F hm (F.bindsN (ps := ["crossing", "plans"]) fun _ _ _ _ _ _ us hl => match us, hl with | [_, _], _ => rfl) sc (by decide) fun cdv A outer s H hr => ?_
  have hu := hr.u64
  have hv := hr.u65
  have hv1 := hr.u1
  unfold m_lamp_rows
  exact (ss_cons (s_own sc.nd rfl (by first | exact Or.inl rfl | exact Or.inr rfl) (l_dsp a_nil))
 (ss_cons (s_for PassesOwn.never rfl (i_seq s_v) (g_n sc.nd)
 (ss_one (s_expr (s_extend pv (s_ofL (l_comp (own := [("tick", 4)]) ⟨rfl, sc.nd, (blk_of rfl (by kernel_rfl)), by decide, fun _ _ _ _ _ => (g_n sc.nd), fun _ _ _ _ _ => f_nil, fun _ _ _ _ _ => (s_fn (F_lamps_at.mono (by decide)) hr rfl (a_cons s_v (a_cons s_v (a_cons s_v a_nil))) (aLen_cons (aLen_cons (aLen_cons aLen_nil))))⟩ (i_rg1 rfl h_range (s_ix s_v s_int))))))))
 (ss_one (s_ret (s_frz pv)))))
theorem sc_first_crossed : FnScope ["crossing", "rows", "tick", "row", "i", "j"] ["crossing", "rows"] (defScope st_first_crossed) := ⟨rfl, rfl, rfl, by decide +kernel, rfl, by decide +kernel, by decide +kernel⟩
def m_first_crossed : M Out :=
 (sSeq (sFor (iEnum (eVar 1)) (gT (gCons (gN 2) (gCons (gN 3) gNil)))
 (sFor (iSeq (eVar 3)) (gN 4)
 (sFor (iSeq (eVar 3)) (gN 5)
 (sIf (tAnd2 (tst (eBin ltD (eVar 4) (eVar 5))) (tru (eFn S_do_cross (aCons (eVar 0) (aCons (eVar 4) (aCons (eVar 5) aNil))))))
 (sRet (eTup (aCons (eC (.str "crossed")) (aCons (eVar 2) (aCons (eVar 4) (aCons (eVar 5) aNil))))))
 sNx))))
 (sRet (eC .non)))
def S_first_crossed : FnSem := fnOf 6 m_first_crossed
theorem w_first_crossed {P : Program} {w : World} {K : PySem.W.Frag} {mg : Str → Option Value} {base : Heap} {f : Addr} {fd : FuncData} (F : FP K "first_crossed" st_first_crossed f fd) (hm : mg "first_crossed" = some (.ref f)) (h_enumerate : mg "enumerate" = none) (F_do_cross : Fn P w K mg base 1 "do_cross" 3 S_do_cross) : Fn P w K mg base 2 "first_crossed" 2 S_first_crossed := by
  have sc := sc_first_crossed
  refine fn_body (k := 1) (N := ["crossing", "rows", "tick", "row", "i", "j"]) (m := m_first_crossed) F hm (F.bindsN (ps := ["crossing", "rows"]) fun _ _ _ _ _ _ us hl => match us, hl with | [_, _], _ => rfl) sc (by decide) fun cdv A outer s H hr => ?_
  have hu := hr.u64
  have hv := hr.u65
  have hv1 := hr.u1
  unfold m_first_crossed
  exact (ss_cons (s_for PassesOwn.never rfl (i_enum rfl h_enumerate s_v) (g_tup rfl (gs_cons (g_n sc.nd) (gs_cons (g_n sc.nd) gs_nil)) rfl rfl (gCons_len (gCons_len gNil_len)))
 (ss_one (s_for PassesOwn.never rfl (i_seq s_v) (g_n sc.nd)
 (ss_one (s_for PassesOwn.never rfl (i_seq s_v) (g_n sc.nd)
 (ss_one (s_ifS (SW.t (w_and (t_cmp od_lt s_v s_v) (w_and1 (t_of (s_fn (F_do_cross.mono (by decide)) hr rfl (a_cons s_v (a_cons s_v (a_cons s_v a_nil))) (aLen_cons (aLen_cons (aLen_cons aLen_nil))))))))
 (ss_one (s_ret (s_tup (a_cons s_str (a_cons s_v (a_cons s_v (a_cons s_v a_nil)))))))
 ss_nil)))))))
 (ss_one (s_ret s_non)))
theorem sc_first_early : FnScope ["crossing", "rows", "last", "tick", "row", "ahead", "i", "j"] ["crossing", "rows"] (defScope st_first_early) := ⟨rfl, rfl, rfl, by decide +kernel, rfl, by decide +kernel, by decide +kernel⟩
def m_first_early : M Out :=
 (sSeq (sOwnN 2 nK0)
 (sSeq (sFor (iEnum (eVar 1)) (gT (gCons (gN 3) (gCons (gN 4) gNil)))
 (sSeq (sSet 5 (eIf (tst (eBin gtD (eVar 3) (eC (.int 0)))) (eBin ixD (eVar 1) (eBin subD (eVar 3) (eC (.int 1)))) (eTup aNil)))
 (sSeq (sFor (iSeq (eSrtO 2)) (gN 6)
 (sFor (iSeq (eVar 4)) (gN 7)
 (sIf (tAnd2 (tst (eBin ninD (eVar 7) (eVar 5))) (tAnd2 (tru (eFn S_do_cross (aCons (eVar 0) (aCons (eVar 6) (aCons (eVar 7) aNil))))) (tst (eBin ltD (eBin subD (eBin subD (eVar 3) (eDgO 2 (eVar 6))) (eC (.int 1))) (eFn S_clearance (aCons (eVar 0) (aCons (eVar 6) (aCons (eVar 7) aNil))))))))
 (sRet (eTup (aCons (eC (.str "early")) (aCons (eVar 3) (aCons (eVar 6) (aCons (eVar 7) aNil))))))
 sNx)))
 (sFor (iSeq (eVar 4)) (gN 6)
 (sPutD 2 (eVar 3) (eVar 6))))))
 (sRet (eC .non))))
def S_first_early : FnSem := fnOf 8 m_first_early
theorem w_first_early {P : Program} {w : World} {K : PySem.W.Frag} {mg : Str → Option Value} {base : Heap} {f : Addr} {fd : FuncData} (F : FP K "first_early" st_first_early f fd) (hm : mg "first_early" = some (.ref f)) (h_enumerate : mg "enumerate" = none) (h_sorted : mg "sorted" = none) (F_clearance : Fn P w K mg base 1 "clearance" 3 S_clearance) (F_do_cross : Fn P w K mg base 1 "do_cross" 3 S_do_cross) : Fn P w K mg base 2 "first_early" 2 S_first_early := by
  have sc := sc_first_early
  refine fn_body (k := 1) (N := ["crossing", "rows", "last", "tick", "row", "ahead", "i", "j"]) (m := m_first_early) F hm (F.bindsN (ps := ["crossing", "rows"]) fun _ _ _ _ _ _ us hl => match us, hl with | [_, _], _ => rfl) sc (by decide) fun cdv A outer s H hr => ?_
  have hu := hr.u64
  have hv := hr.u65
  have hv1 := hr.u1
  unfold m_first_early
  exact (ss_cons (s_ownN sc.nd rfl (by first | exact Or.inl rfl | exact Or.inr rfl) n_dK)
 (ss_cons (s_for PassesOwn.never rfl (i_enum rfl h_enumerate s_v) (g_tup rfl (gs_cons (g_n sc.nd) (gs_cons (g_n sc.nd) gs_nil)) rfl rfl (gCons_len (gCons_len gNil_len)))
 (ss_cons (s_set sc.nd rfl (by first | exact Or.inl rfl | exact Or.inr rfl) (s_if (t_cmp od_gt s_v s_int) (s_ix s_v (s_bin od_sub s_v s_int)) (s_tup a_nil)))
 (ss_cons (s_for PassesOwn.never rfl (i_seq (s_srtO rfl rfl h_sorted pv)) (g_n sc.nd)
 (ss_one (s_for PassesOwn.never rfl (i_seq s_v) (g_n sc.nd)
 (ss_one (s_ifS (SW.t (w_and (t_cmp (od_nin hv) s_v s_v) (w_and (t_of (s_fn (F_do_cross.mono (by decide)) hr rfl (a_cons s_v (a_cons s_v (a_cons s_v a_nil))) (aLen_cons (aLen_cons (aLen_cons aLen_nil))))) (w_and1 (t_cmp od_lt (s_bin od_sub (s_bin od_sub s_v (s_dgO hv1 pv s_v)) s_int) (s_fn (F_clearance.mono (by decide)) hr rfl (a_cons s_v (a_cons s_v (a_cons s_v a_nil))) (aLen_cons (aLen_cons (aLen_cons aLen_nil)))))))))
 (ss_one (s_ret (s_tup (a_cons s_str (a_cons s_v (a_cons s_v (a_cons s_v a_nil)))))))
 ss_nil)))))
 (ss_one (s_for PassesOwn.never rfl (i_seq s_v) (g_n sc.nd)
 (ss_one (s_putD hv1 pv s_v s_v)))))))
 (ss_one (s_ret s_non))))
theorem sc_judge_lamps : FnScope ["crossing", "rows", "fault"] ["crossing", "rows"] (defScope st_judge_lamps) := ⟨rfl, rfl, rfl, by decide +kernel, rfl, by decide +kernel, by decide +kernel⟩
def m_judge_lamps : M Out :=
 (sSeq (sSet 2 (eFn S_first_crossed (aCons (eVar 0) (aCons (eVar 1) aNil))))
 (sRet (eIf (tst (eBin notND (eVar 2) (eC .non))) (eVar 2) (eFn S_first_early (aCons (eVar 0) (aCons (eVar 1) aNil))))))
def S_judge_lamps : FnSem := fnOf 3 m_judge_lamps
theorem w_judge_lamps {P : Program} {w : World} {K : PySem.W.Frag} {mg : Str → Option Value} {base : Heap} {f : Addr} {fd : FuncData} (F : FP K "judge_lamps" st_judge_lamps f fd) (hm : mg "judge_lamps" = some (.ref f)) (F_first_crossed : Fn P w K mg base 2 "first_crossed" 2 S_first_crossed) (F_first_early : Fn P w K mg base 2 "first_early" 2 S_first_early) : Fn P w K mg base 3 "judge_lamps" 2 S_judge_lamps := by
  have sc := sc_judge_lamps
  refine fn_body (k := 2) (N := ["crossing", "rows", "fault"]) (m := m_judge_lamps) F hm (F.bindsN (ps := ["crossing", "rows"]) fun _ _ _ _ _ _ us hl => match us, hl with | [_, _], _ => rfl) sc (by decide) fun cdv A outer s H hr => ?_
  have hu := hr.u64
  have hv := hr.u65
  have hv1 := hr.u1
  unfold m_judge_lamps
  exact (ss_cons (s_set sc.nd rfl (by first | exact Or.inl rfl | exact Or.inr rfl) (s_fn (F_first_crossed.mono (by decide)) hr rfl (a_cons s_v (a_cons s_v a_nil)) (aLen_cons (aLen_cons aLen_nil))))
 (ss_one (s_ret (s_if (t_cmp od_notN s_v s_non) s_v (s_fn (F_first_early.mono (by decide)) hr rfl (a_cons s_v (a_cons s_v a_nil)) (aLen_cons (aLen_cons aLen_nil)))))))
theorem sc__law_open_cells : FnScope ["script", "stirred", "cell", "cells"] ["script"] (defScope st__law_open_cells) := ⟨rfl, rfl, rfl, by decide +kernel, rfl, by decide +kernel, by decide +kernel⟩
theorem w__law_open_cells {k : Nat} {P : Program} {w : World} {K : PySem.W.Frag} {mg : Str → Option Value} {base : Heap} {f : Addr} {fd : FuncData} (F : FP K "_law_open_cells" st__law_open_cells f fd) (hm : mg "_law_open_cells" = some (.ref f)) (h_int : mg "int" = none) (h_abs : mg "abs" = none) : FnW P w K mg base (k + 1) "_law_open_cells" (spOpen K) := by
  have sc := sc__law_open_cells
  refine fn_raw F hm (F.bindsN (ps := ["script"]) fun _ _ _ _ _ _ us hl => match us, hl with | [_], _ => rfl) sc (fun vs H Q h => by obtain ⟨a, ns, rfl, _⟩ := h; rfl) (fun cdv A outer s H hr => ?_) open_pure
  exact pss_cons (ps_set sc.nd rfl (by first | exact Or.inl rfl | exact Or.inr rfl) pe_int)
    (pss_cons (ps_for PassesOwn.never rfl (pi_list pv) (pg_name sc.nd rfl (by first | exact Or.inl rfl | exact Or.inr rfl)) (pss_one (ps_set sc.nd rfl (by first | exact Or.inl rfl | exact Or.inr rfl)
      (pe_op op_modN (pe_callTy call_int1 rfl h_int (by decide +kernel) (pa_cons (pe_op op_add (pe_op op_add (pe_op op_mul pv pe_int) (pe_op op_mul pv pe_int)) pe_int) pa_nil)) pe_int))))
    (pss_cons (ps_setLc (own := [("cell", 2)]) rfl sc.nd rfl rfl rfl (pi_list pv) (blk_of rfl (by kernel_rfl)) (fun _ _ _ _ _ => pg_name sc.nd rfl (by first | exact Or.inl rfl | exact Or.inr rfl)) (fun _ _ _ _ _ => pts_nil) (fun _ _ _ _ _ => pe_callB call_abs rfl h_abs (by decide +kernel) (pa_cons pv pa_nil)))
    (pss_one (ps_ret (pe_disp (pps_cons pe_str (pe_revL pv) (pps_cons pe_str pe_int (pps_cons pe_str pv (pps_cons pe_str pe_int pps_nil)))) rfl rfl (by simp) (by decide))))))
theorem sc__law_pick : FnScope ["source", "most", "cells", "others", "lap", "stirred"] ["source", "most"] (defScope st__law_pick) := ⟨rfl, rfl, rfl, by decide +kernel, rfl, by decide +kernel, by decide +kernel⟩
def S__law_pick : FnSem := S_pick
theorem w__law_pick {P : Program} {w : World} {K : PySem.W.Frag} {mg : Str → Option Value} {base : Heap} {f : Addr} {fd : FuncData} (F : FP K "_law_pick" st__law_pick f fd) (hm : mg "_law_pick" = some (.ref f)) (h_int : mg "int" = none) (h_len : mg "len" = none) : Fn P w K mg base 1 "_law_pick" 2 S__law_pick := by
  have sc := sc__law_pick
  refine fn_body (N := ["source", "most", "cells", "others", "lap", "stirred"]) (m := mPick) F hm (F.bindsN (ps := ["source", "most"]) fun _ _ _ _ _ _ us hl => match us, hl with | [_, _], _ => rfl) sc (by decide) fun cdv A outer s H hr => ?_
  have hu := hr.u1
  have lo : ∀ i : Nat, True := fun _ => trivial
  unfold mPick
  refine ss_cons (s_ifS (t_cmp od_lt s_v s_int) (ss_one (s_ret s_int)) ss_nil) ?_
  refine s_drain (by decide) (ps_set sc.nd rfl (by first | exact Or.inl rfl | exact Or.inr rfl) (pe_dget hu pv pe_str (fun _ _ => rfl)))
    (ps_while PassesOwn.never (PW.pt (pw_and (pt_cmpR op_lt (pe_dget hu pv pe_str (fun _ _ => rfl)) pe_int rfl) (pw_and1 (pt_cmpR op_gt (pe_callB call_len rfl h_len (by decide +kernel) (pa_cons pv pa_nil)) pe_int rfl))))
      (pss_one (ps_dput hu pv pe_str (pe_bm0 PySem.F.plainAttrs_list PySem.F.slot_list_pop PySem.F.type_list_pop mt_pop pv) rfl))) ?_
  have fl : ∀ s c, valV (srcKvs c s) (.inr (Str.ofString "left")) = some (.int s.left) := fun _ _ => rfl
  have ft : ∀ s c, valV (srcKvs c s) (.inr (Str.ofString "turn")) = some (.int s.turn) := fun _ _ => rfl
  have fm : ∀ s c, valV (srcKvs c s) (.inr (Str.ofString "mixed")) = some (.int s.mixed) := fun _ _ => rfl
  have pl : ∀ (s : Src) (z : Int) (c : Addr), putK (srcKvs c s) (.inr (Str.ofString "left")) (.int z) = srcKvs c { s with left := z } := fun _ _ _ => rfl
  have pt : ∀ (s : Src) (z : Int) (c : Addr), putK (srcKvs c s) (.inr (Str.ofString "turn")) (.int z) = srcKvs c { s with turn := z } := fun _ _ _ => rfl
  refine ss_cons (s_set sc.nd rfl (by first | exact Or.inl rfl | exact Or.inr rfl) (s_fld (ky := "left") pv hu fl)) ?_
  refine ss_cons (s_ifS (t_cmp od_gt s_v s_int) (ss_cons (s_fldSet (ky := "left") pv hu (s_bin od_fdiv s_v s_v) pl (fun _ _ => rfl)) (ss_one (s_ret (s_bin od_mod (s_callT c_int rfl h_int (by decide +kernel) (a_cons s_v a_nil)) s_v)))) ss_nil) ?_
  refine ss_cons (s_fldSet (ky := "turn") pv hu (s_bin od_add (s_fld (ky := "turn") pv hu ft) s_int) pt (fun _ _ => rfl)) ?_
  refine ss_cons (s_set sc.nd rfl (by first | exact Or.inl rfl | exact Or.inr rfl) (s_fld (ky := "turn") pv hu ft)) ?_
  refine ss_cons (s_set sc.nd rfl (by first | exact Or.inl rfl | exact Or.inr rfl) (s_bin od_mod (s_callT c_int rfl h_int (by decide +kernel) (a_cons (s_bin od_add (s_fld (ky := "mixed") pv hu fm) (s_bin od_mul s_v s_int)) a_nil)) s_int)) ?_
  refine ss_cons (s_set sc.nd rfl (by first | exact Or.inl rfl | exact Or.inr rfl) (s_bin od_mod (s_callT c_int rfl h_int (by decide +kernel) (a_cons (s_bin od_add (s_bin od_mul s_v s_v) (s_bin od_mul s_v s_int)) a_nil)) s_int)) ?_
  exact ss_one (s_ret (s_bin od_mod (s_callT c_int rfl h_int (by decide +kernel) (a_cons (s_bin od_fdiv s_v s_int) a_nil)) s_v))
theorem sc__law_any_order : FnScope ["source", "things", "others", "lap"] ["source", "things"] (defScope st__law_any_order) := ⟨rfl, rfl, rfl, by decide +kernel, rfl, by decide +kernel, by decide +kernel⟩
def m__law_any_order : M Out :=
 (sSeq (sOwn 2 (eCallL lstG (aCons (eVar 1) aNil)))
 (sRet (eLst (eComp [3] (gN 3) (ret true) (ePopAt 2 (eFn S__law_pick (aCons (eVar 0) (aCons (eBor [2] (eCall lenG (aCons (eVar 2) aNil))) aNil)))) (iRg1 (eBor [2] (eCall lenG (aCons (eVar 2) aNil))))))))
def S__law_any_order : FnSem := fnOf 4 m__law_any_order
theorem w__law_any_order {P : Program} {w : World} {K : PySem.W.Frag} {mg : Str → Option Value} {base : Heap} {f : Addr} {fd : FuncData} (F : FP K "_law_any_order" st__law_any_order f fd) (hm : mg "_law_any_order" = some (.ref f)) (h_len : mg "len" = none) (h_list : mg "list" = none) (h_range : mg "range" = none) (F__law_pick : Fn P w K mg base 1 "_law_pick" 2 S__law_pick) : Fn P w K mg base 2 "_law_any_order" 2 S__law_any_order := by
  have sc := sc__law_any_order
  refine fn_body (k := 1) (N := ["source", "things", "others", "lap"]) (m := m__law_any_order) F hm (F.bindsN (ps := ["source", "things"]) fun _ _ _ _ _ _ us hl => match us, hl with | [_, _], _ => rfl) sc (by decide) fun cdv A outer s H hr => ?_
  have hu := hr.u64
  have hv := hr.u65
  have hv1 := hr.u1
  unfold m__law_any_order
  exact (ss_cons (s_own sc.nd rfl (by first | exact Or.inl rfl | exact Or.inr rfl) (l_callT c_lst rfl h_list boot_list (a_cons s_v a_nil)))
 (ss_one (s_ret (s_ofL (l_comp (own := [("lap", 3)]) ⟨rfl, sc.nd, (blk_of rfl (by kernel_rfl)), by decide, fun _ _ _ _ _ => (g_n sc.nd), fun _ _ _ _ _ => f_nil, fun _ _ _ _ _ => (s_popAt pv (s_fn (F__law_pick.mono (by decide)) hr rfl (a_cons s_v (a_cons (s_bor (s_callB c_len rfl h_len (by decide +kernel) (a_cons s_v a_nil))) a_nil)) (aLen_cons (aLen_cons aLen_nil))))⟩ (i_rg1 rfl h_range (s_bor (s_callB c_len rfl h_len (by decide +kernel) (a_cons s_v a_nil)))))))))
theorem sc__law_common : FnScope ["a", "b"] ["a", "b"] (defScope st__law_common) := ⟨rfl, rfl, rfl, by decide +kernel, rfl, by decide +kernel, by decide +kernel⟩
def m__law_common : M Out :=
 (sSeq (sPar [0, 1] (pVal (eCall absG (aCons (eVar 0) aNil)) (pVal (eCall absG (aCons (eVar 1) aNil)) pNil)))
 (sSeq (sWhile (tst (eBin neD (eVar 1) (eC (.int 0))))
 (sPar [0, 1] (pVal (eVar 1) (pVal (eBin modD (eCall intG (aCons (eVar 0) aNil)) (eVar 1)) pNil))))
 (sRet (eVar 0))))
def S__law_common : FnSem := fnOf 2 m__law_common
theorem w__law_common {P : Program} {w : World} {K : PySem.W.Frag} {mg : Str → Option Value} {base : Heap} {f : Addr} {fd : FuncData} (F : FP K "_law_common" st__law_common f fd) (hm : mg "_law_common" = some (.ref f)) (h_abs : mg "abs" = none) (h_int : mg "int" = none) : Fn P w K mg base 1 "_law_common" 2 S__law_common := by
  have sc := sc__law_common
  refine fn_body (k := 0) (N := ["a", "b"]) (m := m__law_common) F hm (F.bindsN (ps := ["a", "b"]) fun _ _ _ _ _ _ us hl => match us, hl with | [_, _], _ => rfl) sc (by decide) fun cdv A outer s H hr => ?_
  have hu := hr.u64
  have hv := hr.u65
  have hv1 := hr.u1
  unfold m__law_common
  exact (ss_cons (s_par2 rfl sc.nd rfl rfl (by decide) rfl rfl (p_val (s_callB c_abs rfl h_abs (by decide +kernel) (a_cons s_v a_nil)) (p_val (s_callB c_abs rfl h_abs (by decide +kernel) (a_cons s_v a_nil)) p_nil)) rfl)
 (ss_cons (s_while PassesOwn.never (t_cmp (od_ne hu) s_v s_int)
 (ss_one (s_par2 rfl sc.nd rfl rfl (by decide) rfl rfl (p_val s_v (p_val (s_bin od_mod (s_callT c_int rfl h_int (by decide +kernel) (a_cons s_v a_nil)) s_v) p_nil)) rfl)))
 (ss_one (s_ret s_v))))
theorem sc__law_fraction : FnScope ["u", "d", "unit"] ["u", "d"] (defScope st__law_fraction) := ⟨rfl, rfl, rfl, by decide +kernel, rfl, by decide +kernel, by decide +kernel⟩
def m__law_fraction : M Out :=
 (sSeq (sSet 2 (eBin mulD (eFn S__law_common (aCons (eVar 0) (aCons (eVar 1) aNil))) (eIf (tst (eBin gtD (eVar 1) (eC (.int 0)))) (eC (.int 1)) (eBin subD (eC (.int 0)) (eC (.int 1))))))
 (sRet (eTup (aCons (eBin fdivD (eVar 0) (eVar 2)) (aCons (eBin fdivD (eVar 1) (eVar 2)) aNil)))))
def S__law_fraction : FnSem := fnOf 3 m__law_fraction
theorem w__law_fraction {P : Program} {w : World} {K : PySem.W.Frag} {mg : Str → Option Value} {base : Heap} {f : Addr} {fd : FuncData} (F : FP K "_law_fraction" st__law_fraction f fd) (hm : mg "_law_fraction" = some (.ref f)) (F__law_common : Fn P w K mg base 1 "_law_common" 2 S__law_common) : Fn P w K mg base 2 "_law_fraction" 2 S__law_fraction := by
  have sc := sc__law_fraction
  refine fn_body (k := 1) (N := ["u", "d", "unit"]) (m := m__law_fraction) F hm (F.bindsN (ps := ["u", "d"]) fun _ _ _ _ _ _ us hl => match us, hl with | [_, _], _ => rfl) sc (by decide) fun cdv A outer s H hr => ?_
  have hu := hr.u64
  have hv := hr.u65
  have hv1 := hr.u1
  unfold m__law_fraction
  exact (ss_cons (s_set sc.nd rfl (by first | exact Or.inl rfl | exact Or.inr rfl) (s_bin od_mul (s_fn (F__law_common.mono (by decide)) hr rfl (a_cons s_v (a_cons s_v a_nil)) (aLen_cons (aLen_cons aLen_nil))) (s_if (t_cmp od_gt s_v s_int) s_int (s_bin od_sub s_int s_int))))
 (ss_one (s_ret (s_tup (a_cons (s_bin od_fdiv s_v s_v) (a_cons (s_bin od_fdiv s_v s_v) a_nil))))))
theorem sc__law_times : FnScope ["x", "y"] ["x", "y"] (defScope st__law_times) := ⟨rfl, rfl, rfl, by decide +kernel, rfl, by decide +kernel, by decide +kernel⟩
def m__law_times : M Out :=
 (sRet (eFn S__law_fraction (aCons (eBin mulD (eBin ixD (eVar 0) (eC (.int 0))) (eBin ixD (eVar 1) (eC (.int 0)))) (aCons (eBin mulD (eBin ixD (eVar 0) (eC (.int 1))) (eBin ixD (eVar 1) (eC (.int 1)))) aNil))))
def S__law_times : FnSem := fnOf 2 m__law_times
theorem w__law_times {P : Program} {w : World} {K : PySem.W.Frag} {mg : Str → Option Value} {base : Heap} {f : Addr} {fd : FuncData} (F : FP K "_law_times" st__law_times f fd) (hm : mg "_law_times" = some (.ref f)) (F__law_fraction : Fn P w K mg base 2 "_law_fraction" 2 S__law_fraction) : Fn P w K mg base 3 "_law_times" 2 S__law_times := by
  have sc := sc__law_times
  refine fn_body (k := 2) (N := ["x", "y"]) (m := m__law_times) F hm (F.bindsN (ps := ["x", "y"]) fun _ _ _ _ _ _ us hl => match us, hl with | [_, _], _ => rfl) sc (by decide) fun cdv A outer s H hr => ?_
  have hu := hr.u64
  have hv := hr.u65
  have hv1 := hr.u1
  unfold m__law_times
  exact (ss_one (s_ret (s_fn (F__law_fraction.mono (by decide)) hr rfl (a_cons (s_bin od_mul (s_ix s_v s_int) (s_ix s_v s_int)) (a_cons (s_bin od_mul (s_ix s_v s_int) (s_ix s_v s_int)) a_nil)) (aLen_cons (aLen_cons aLen_nil)))))
theorem sc__law_clearance : FnScope ["crossing", "i", "j", "a", "b", "late", "early"] ["crossing", "i", "j"] (defScope st__law_clearance) := ⟨rfl, rfl, rfl, by decide +kernel, rfl, by decide +kernel, by decide +kernel⟩
def m__law_clearance : M Out :=
 (sSeq (sFor (iSeq (eBin ixD (eVar 0) (eC (.int 1)))) (gT (gCons (gN 3) (gCons (gN 4) (gCons (gN 5) (gCons (gN 6) gNil)))))
 (sSeq (sIf (tst (eBin eqD (eTup (aCons (eVar 3) (aCons (eVar 4) aNil))) (eTup (aCons (eVar 1) (aCons (eVar 2) aNil)))))
 (sRet (eVar 5))
 sNx)
 (sIf (tst (eBin eqD (eTup (aCons (eVar 3) (aCons (eVar 4) aNil))) (eTup (aCons (eVar 2) (aCons (eVar 1) aNil)))))
 (sRet (eVar 6))
 sNx)))
 (sRet (eC .non)))
def S__law_clearance : FnSem := fnOf 7 m__law_clearance
theorem w__law_clearance {P : Program} {w : World} {K : PySem.W.Frag} {mg : Str → Option Value} {base : Heap} {f : Addr} {fd : FuncData} (F : FP K "_law_clearance" st__law_clearance f fd) (hm : mg "_law_clearance" = some (.ref f)) : Fn P w K mg base 1 "_law_clearance" 3 S__law_clearance := by
  have sc := sc__law_clearance
  refine fn_body (k := 0) (N := ["crossing", "i", "j", "a", "b", "late", "early"]) (m := m__law_clearance) F hm (F.bindsN (ps := ["crossing", "i", "j"]) fun _ _ _ _ _ _ us hl => match us, hl with | [_, _, _], _ => rfl) sc (by decide) fun cdv A outer s H hr => ?_
  have hu := hr.u64
  have hv := hr.u65
  have hv1 := hr.u1
  unfold m__law_clearance
  exact (ss_cons (s_for PassesOwn.never rfl (i_seq (s_ix s_v s_int)) (g_tup rfl (gs_cons (g_n sc.nd) (gs_cons (g_n sc.nd) (gs_cons (g_n sc.nd) (gs_cons (g_n sc.nd) gs_nil)))) rfl rfl (gCons_len (gCons_len (gCons_len (gCons_len gNil_len)))))
 (ss_cons (s_ifS (t_cmp (od_eq hu) (s_tup (a_cons s_v (a_cons s_v a_nil))) (s_tup (a_cons s_v (a_cons s_v a_nil))))
 (ss_one (s_ret s_v))
 ss_nil)
 (ss_one (s_ifS (t_cmp (od_eq hu) (s_tup (a_cons s_v (a_cons s_v a_nil))) (s_tup (a_cons s_v (a_cons s_v a_nil))))
 (ss_one (s_ret s_v))
 ss_nil))))
 (ss_one (s_ret s_non)))
theorem sc__law_crosses_one : FnScope ["crossing", "lot", "i", "j"] ["crossing", "lot", "i"] (defScope st__law_crosses_one) := ⟨rfl, rfl, rfl, by decide +kernel, rfl, by decide +kernel, by decide +kernel⟩
def m__law_crosses_one : M Out :=
 (sRet (eCall anyG (aCons (eLst (eComp [3] (gN 3) (tst (eBin neD (eVar 3) (eVar 2))) (eBin notND (eFn S__law_clearance (aCons (eVar 0) (aCons (eVar 2) (aCons (eVar 3) aNil)))) (eC .non)) (iSeq (eVar 1)))) aNil)))
def S__law_crosses_one : FnSem := fnOf 4 m__law_crosses_one
theorem w__law_crosses_one {P : Program} {w : World} {K : PySem.W.Frag} {mg : Str → Option Value} {base : Heap} {f : Addr} {fd : FuncData} (F : FP K "_law_crosses_one" st__law_crosses_one f fd) (hm : mg "_law_crosses_one" = some (.ref f)) (h_any : mg "any" = none) (F__law_clearance : Fn P w K mg base 1 "_law_clearance" 3 S__law_clearance) : Fn P w K mg base 2 "_law_crosses_one" 3 S__law_crosses_one := by
  have sc := sc__law_crosses_one
  refine fn_body (k := 1) (N := ["crossing", "lot", "i", "j"]) (m := m__law_crosses_one) F hm (F.bindsN (ps := ["crossing", "lot", "i"]) fun _ _ _ _ _ _ us hl => match us, hl with | [_, _, _], _ => rfl) sc (by decide) fun cdv A outer s H hr => ?_
  have hu := hr.u64
  have hv := hr.u65
  have hv1 := hr.u1
  unfold m__law_crosses_one
  exact (ss_one (s_ret (s_callB (c_any rfl) rfl h_any (by decide +kernel) (a_cons (s_ofL (l_comp (own := [("j", 3)]) ⟨rfl, sc.nd, (blk_of rfl (by kernel_rfl)), by decide, fun _ _ _ _ _ => (g_n sc.nd), fun _ _ _ _ _ => (f_one (t_cmp (od_ne hu) s_v s_v)), fun _ _ _ _ _ => (s_cmp od_notN (s_fn (F__law_clearance.mono (by decide)) hr rfl (a_cons s_v (a_cons s_v (a_cons s_v a_nil))) (aLen_cons (aLen_cons (aLen_cons aLen_nil)))) s_non)⟩ (i_seq s_v))) a_nil))))
theorem sc__law_stages : FnScope ["crossing", "many", "lots", "i", "found", "lot"] ["crossing"] (defScope st__law_stages) := ⟨rfl, rfl, rfl, by decide +kernel, rfl, by decide +kernel, by decide +kernel⟩
def m__law_stages : M Out :=
 (sSeq (sPar [1, 2] (pVal (eCall lenG (aCons (eBin ixD (eVar 0) (eC (.int 0))) aNil)) (pVal (eLst (lDisp (aCons (eLst (lDisp aNil)) aNil))) pNil)))
 (sSeq (sFor (iRg1 (eVar 1)) (gN 3)
 (sSet 2 (eBin addD (eVar 2) (eLst (eComp [5] (gN 5) (tNot1 (tru (eFn S__law_crosses_one (aCons (eVar 0) (aCons (eVar 5) (aCons (eVar 3) aNil)))))) (eBin addD (eVar 5) (eLst (lDisp (aCons (eVar 3) aNil)))) (iSeq (eVar 2)))))))
 (sSeq (sOwn 4 (lDisp aNil))
 (sSeq (sFor (iSeq (eVar 2)) (gN 5)
 (sIf (tru (eCall allG (aCons (eLst (eComp [3] (gN 3) (ret true) (eOr (eBin inD (eVar 3) (eVar 5)) (eFn S__law_crosses_one (aCons (eVar 0) (aCons (eVar 5) (aCons (eVar 3) aNil))))) (iRg1 (eVar 1)))) aNil)))
 (sExpr (eApp 4 (eCall tupG (aCons (eVar 5) aNil))))
 sNx))
 (sRet (eLst (eCallL srtG (aCons (eFrz 4) aNil))))))))
def S__law_stages : FnSem := fnOf 6 m__law_stages
theorem w__law_stages {P : Program} {w : World} {K : PySem.W.Frag} {mg : Str → Option Value} {base : Heap} {f : Addr} {fd : FuncData} (F : FP K "_law_stages" st__law_stages f fd) (hm : mg "_law_stages" = some (.ref f)) (h_all : mg "all" = none) (h_len : mg "len" = none) (h_range : mg "range" = none) (h_sorted : mg "sorted" = none) (h_tuple : mg "tuple" = none) (F__law_crosses_one : Fn P w K mg base 2 "_law_crosses_one" 3 S__law_crosses_one) : Fn P w K mg base 3 "_law_stages" 1 S__law_stages := by
  have sc := sc__law_stages
  refine fn_body (k := 2) (N := ["crossing", "many", "lots", "i", "found", "lot"]) (m := m__law_stages) F hm (F.bindsN (ps := ["crossing"]) fun _ _ _ _ _ _ us hl => match us, hl with | [_], _ => rfl) sc (by decide) fun cdv A outer s H hr => ?_
  have hu := hr.u64
  have hv := hr.u65
  have hv1 := hr.u1
  unfold m__law_stages
  exact (ss_cons (s_par2 rfl sc.nd rfl rfl (by decide) rfl rfl (p_val (s_callB c_len rfl h_len (by decide +kernel) (a_cons (s_ix s_v s_int) a_nil)) (p_val (s_ofL (l_dsp (a_cons (s_ofL (l_dsp a_nil)) a_nil))) p_nil)) rfl)
 (ss_cons (s_for PassesOwn.never rfl (i_rg1 rfl h_range s_v) (g_n sc.nd)
 (ss_one (s_set sc.nd rfl (by first | exact Or.inl rfl | exact Or.inr rfl) (s_bin od_add s_v (s_ofL (l_comp (own := [("lot", 5)]) ⟨rfl, sc.nd, (blk_of rfl (by kernel_rfl)), by decide, fun _ _ _ _ _ => (g_n sc.nd), fun _ _ _ _ _ => (f_one (t_not (t_of (s_fn (F__law_crosses_one.mono (by decide)) hr rfl (a_cons s_v (a_cons s_v (a_cons s_v a_nil))) (aLen_cons (aLen_cons (aLen_cons aLen_nil))))))), fun _ _ _ _ _ => (s_bin od_add s_v (s_ofL (l_dsp (a_cons s_v a_nil))))⟩ (i_seq s_v)))))))
 (ss_cons (s_own sc.nd rfl (by first | exact Or.inl rfl | exact Or.inr rfl) (l_dsp a_nil))
 (ss_cons (s_for PassesOwn.never rfl (i_seq s_v) (g_n sc.nd)
 (ss_one (s_ifS (t_of (s_callB (c_all rfl) rfl h_all (by decide +kernel) (a_cons (s_ofL (l_comp (own := [("i", 3)]) ⟨rfl, sc.nd, (blk_of rfl (by kernel_rfl)), by decide, fun _ _ _ _ _ => (g_n sc.nd), fun _ _ _ _ _ => f_nil, fun _ _ _ _ _ => (s_or (s_cmp (od_in hv) s_v s_v) (s_one (s_fn (F__law_crosses_one.mono (by decide)) hr rfl (a_cons s_v (a_cons s_v (a_cons s_v a_nil))) (aLen_cons (aLen_cons (aLen_cons aLen_nil))))))⟩ (i_rg1 rfl h_range s_v))) a_nil)))
 (ss_one (s_expr (s_append pv (s_callT c_tup rfl h_tuple (by decide +kernel) (a_cons s_v a_nil)))))
 ss_nil)))
 (ss_one (s_ret (s_ofL (l_callB (c_srt hr) rfl h_sorted boot_sorted (a_cons (s_frz pv) a_nil)))))))))
theorem sc__law_clearing : FnScope ["crossing", "stage", "found", "i", "j"] ["crossing", "stage"] (defScope st__law_clearing) := ⟨rfl, rfl, rfl, by decide +kernel, rfl, by decide +kernel, by decide +kernel⟩
def m__law_clearing : M Out :=
 (sSeq (sSet 2 (eC (.int 0)))
 (sSeq (sFor (iSeq (eVar 1)) (gN 3)
 (sFor (iRg1 (eCall lenG (aCons (eBin ixD (eVar 0) (eC (.int 0))) aNil))) (gN 4)
 (sIf (tAnd2 (tst (eBin neD (eVar 3) (eVar 4))) (tst (eBin notND (eFn S__law_clearance (aCons (eVar 0) (aCons (eVar 3) (aCons (eVar 4) aNil)))) (eC .non))))
 (sSet 2 (eCall maxG (aCons (eVar 2) (aCons (eFn S__law_clearance (aCons (eVar 0) (aCons (eVar 3) (aCons (eVar 4) aNil)))) aNil))))
 sNx)))
 (sRet (eVar 2))))
def S__law_clearing : FnSem := fnOf 5 m__law_clearing
theorem w__law_clearing {P : Program} {w : World} {K : PySem.W.Frag} {mg : Str → Option Value} {base : Heap} {f : Addr} {fd : FuncData} (F : FP K "_law_clearing" st__law_clearing f fd) (hm : mg "_law_clearing" = some (.ref f)) (h_len : mg "len" = none) (h_max : mg "max" = none) (h_range : mg "range" = none) (F__law_clearance : Fn P w K mg base 1 "_law_clearance" 3 S__law_clearance) : Fn P w K mg base 2 "_law_clearing" 2 S__law_clearing := by
  have sc := sc__law_clearing
  refine fn_body (k := 1) (N := ["crossing", "stage", "found", "i", "j"]) (m := m__law_clearing) F hm (F.bindsN (ps := ["crossing", "stage"]) fun _ _ _ _ _ _ us hl => match us, hl with | [_, _], _ => rfl) sc (by decide) fun cdv A outer s H hr => ?_
  have hu := hr.u64
  have hv := hr.u65
  have hv1 := hr.u1
  unfold m__law_clearing
  exact (ss_cons (s_set sc.nd rfl (by first | exact Or.inl rfl | exact Or.inr rfl) s_int)
 (ss_cons (s_for PassesOwn.never rfl (i_seq s_v) (g_n sc.nd)
 (ss_one (s_for PassesOwn.never rfl (i_rg1 rfl h_range (s_callB c_len rfl h_len (by decide +kernel) (a_cons (s_ix s_v s_int) a_nil))) (g_n sc.nd)
 (ss_one (s_ifS (SW.t (w_and (t_cmp (od_ne hu) s_v s_v) (w_and1 (t_cmp od_notN (s_fn (F__law_clearance.mono (by decide)) hr rfl (a_cons s_v (a_cons s_v (a_cons s_v a_nil))) (aLen_cons (aLen_cons (aLen_cons aLen_nil)))) s_non))))
 (ss_one (s_set sc.nd rfl (by first | exact Or.inl rfl | exact Or.inr rfl) (s_callB (c_max rfl hv1) rfl h_max (by decide +kernel) (a_cons s_v (a_cons (s_fn (F__law_clearance.mono (by decide)) hr rfl (a_cons s_v (a_cons s_v (a_cons s_v a_nil))) (aLen_cons (aLen_cons (aLen_cons aLen_nil)))) a_nil)))))
 ss_nil)))))
 (ss_one (s_ret s_v))))
theorem sc__law_draw_crossing : FnScope ["source", "n", "mine", "length", "movements", "q", "ways", "lap", "movement", "crossed", "i", "j", "one"] ["source", "n", "mine", "length"] (defScope st__law_draw_crossing) := ⟨rfl, rfl, rfl, by decide +kernel, rfl, by decide +kernel, by decide +kernel⟩
def m__law_draw_crossing : M Out :=
 (sSeq (sOwn 4 (lDisp aNil))
 (sSeq (sFor (iSeq (eVar 2)) (gN 5)
 (sSeq (sSet 6 (eBin addD (eLst (lDisp (aCons (eC .non) aNil))) (eLst (eComp [12] (gN 12) (tst (eBin neD (eVar 12) (eVar 5))) (eVar 12) (iRg1 (eVar 1))))))
 (sFor (iRg1 (eBin addD (eC (.int 1)) (eCall intG (aCons (eBin eqD (eFn S__law_pick (aCons (eVar 0) (aCons (eC (.int 3)) aNil))) (eC (.int 0))) aNil)))) (gN 7)
 (sSeq (sSet 8 (eTup (aCons (eVar 5) (aCons (eBin ixD (eVar 6) (eFn S__law_pick (aCons (eVar 0) (aCons (eCall lenG (aCons (eVar 6) aNil)) aNil)))) aNil))))
 (sIf (tBor [4] (tst (eBin ninD (eVar 8) (eVar 4))))
 (sExpr (eApp 4 (eVar 8)))
 sNx)))))
 (sSeq (sPar [4, 9] (pOwn (lSl (eFn S__law_any_order (aCons (eVar 0) (aCons (eFrz 4) aNil))) oNo (oAt (eC (.int 4)))) (pOwn (lDisp aNil) pNil)))
 (sSeq (sFor (iRg1 (eBor [4] (eCall lenG (aCons (eVar 4) aNil)))) (gN 10)
 (sFor (iRg2 (eBin addD (eVar 10) (eC (.int 1))) (eBor [4] (eCall lenG (aCons (eVar 4) aNil)))) (gN 11)
 (sIf (tst (eBin eqD (eFn S__law_pick (aCons (eVar 0) (aCons (eC (.int 2)) aNil))) (eC (.int 0))))
 (sExpr (eApp 9 (eTup (aCons (eVar 10) (aCons (eVar 11) (aCons (eFn S__law_pick (aCons (eVar 0) (aCons (eC (.int 3)) aNil))) (aCons (eFn S__law_pick (aCons (eVar 0) (aCons (eC (.int 3)) aNil))) aNil)))))))
 sNx)))
 (sRet (eTup (aCons (eCall tupG (aCons (eFrz 4) aNil)) (aCons (eCall tupG (aCons (eFrz 9) aNil)) (aCons (eVar 3) aNil)))))))))
def S__law_draw_crossing : FnSem := fnOf 13 m__law_draw_crossing
theorem w__law_draw_crossing {P : Program} {w : World} {K : PySem.W.Frag} {mg : Str → Option Value} {base : Heap} {f : Addr} {fd : FuncData} (F : FP K "_law_draw_crossing" st__law_draw_crossing f fd) (hm : mg "_law_draw_crossing" = some (.ref f)) (h_int : mg "int" = none) (h_len : mg "len" = none) (h_range : mg "range" = none) (h_tuple : mg "tuple" = none) (F__law_any_order : Fn P w K mg base 2 "_law_any_order" 2 S__law_any_order) (F__law_pick : Fn P w K mg base 1 "_law_pick" 2 S__law_pick) : Fn P w K mg base 3 "_law_draw_crossing" 4 S__law_draw_crossing := by
  have sc := sc__law_draw_crossing
  refine fn_body (k := 2) (N := ["source", "n", "mine", "length", "movements", "q", "ways", "lap", "movement", "crossed", "i", "j", "one"]) (m := m__law_draw_crossing) F hm (F.bindsN (ps := ["source", "n", "mine", "length"]) fun _ _ _ _ _ _ us hl => match us, hl with | [_, _, _, _], _ => rfl) sc (by decide) fun cdv A outer s H hr => ?_
  have hu := hr.u64
  have hv := hr.u65
  have hv1 := hr.u1
  unfold m__law_draw_crossing
  exact (ss_cons (s_own sc.nd rfl (by first | exact Or.inl rfl | exact Or.inr rfl) (l_dsp a_nil))
 (ss_cons (s_for PassesOwn.never rfl (i_seq s_v) (g_n sc.nd)
 (ss_cons (s_set sc.nd rfl (by first | exact Or.inl rfl | exact Or.inr rfl) (s_bin od_add (s_ofL (l_dsp (a_cons s_non a_nil))) (s_ofL (l_comp (own := [("one", 12)]) ⟨rfl, sc.nd, (blk_of rfl (by kernel_rfl)), by decide, fun _ _ _ _ _ => (g_n sc.nd), fun _ _ _ _ _ => (f_one (t_cmp (od_ne hu) s_v s_v)), fun _ _ _ _ _ => s_v⟩ (i_rg1 rfl h_range s_v)))))
 (ss_one (s_for PassesOwn.never rfl (i_rg1 rfl h_range (s_bin od_add s_int (s_callT c_int rfl h_int (by decide +kernel) (a_cons (s_cmp (od_eq hu) (s_fn (F__law_pick.mono (by decide)) hr rfl (a_cons s_v (a_cons s_int a_nil)) (aLen_cons (aLen_cons aLen_nil))) s_int) a_nil)))) (g_n sc.nd)
 (ss_cons (s_set sc.nd rfl (by first | exact Or.inl rfl | exact Or.inr rfl) (s_tup (a_cons s_v (a_cons (s_ix s_v (s_fn (F__law_pick.mono (by decide)) hr rfl (a_cons s_v (a_cons (s_callB c_len rfl h_len (by decide +kernel) (a_cons s_v a_nil)) a_nil)) (aLen_cons (aLen_cons aLen_nil)))) a_nil))))
 (ss_one (s_ifS (t_bor (t_cmp (od_nin hv) s_v s_v))
 (ss_one (s_expr (s_append pv s_v)))
 ss_nil)))))))
 (ss_cons (s_par2 rfl sc.nd rfl rfl (by decide) rfl rfl (p_own (l_slice (s_fn (F__law_any_order.mono (by decide)) hr rfl (a_cons s_v (a_cons (s_frz pv) a_nil)) (aLen_cons (aLen_cons aLen_nil))) o_no (o_at s_int)) (p_own (l_dsp a_nil) p_nil)) rfl)
 (ss_cons (s_for PassesOwn.never rfl (i_rg1 rfl h_range (s_bor (s_callB c_len rfl h_len (by decide +kernel) (a_cons s_v a_nil)))) (g_n sc.nd)
 (ss_one (s_for PassesOwn.never rfl (i_rg2 rfl h_range (s_bin od_add s_v s_int) (s_bor (s_callB c_len rfl h_len (by decide +kernel) (a_cons s_v a_nil)))) (g_n sc.nd)
 (ss_one (s_ifS (t_cmp (od_eq hu) (s_fn (F__law_pick.mono (by decide)) hr rfl (a_cons s_v (a_cons s_int a_nil)) (aLen_cons (aLen_cons aLen_nil))) s_int)
 (ss_one (s_expr (s_append pv (s_tup (a_cons s_v (a_cons s_v (a_cons (s_fn (F__law_pick.mono (by decide)) hr rfl (a_cons s_v (a_cons s_int a_nil)) (aLen_cons (aLen_cons aLen_nil))) (a_cons (s_fn (F__law_pick.mono (by decide)) hr rfl (a_cons s_v (a_cons s_int a_nil)) (aLen_cons (aLen_cons aLen_nil))) a_nil))))))))
 ss_nil)))))
 (ss_one (s_ret (s_tup (a_cons (s_callT c_tup rfl h_tuple (by decide +kernel) (a_cons (s_frz pv) a_nil)) (a_cons (s_callT c_tup rfl h_tuple (by decide +kernel) (a_cons (s_frz pv) a_nil)) (a_cons s_v a_nil))))))))))
theorem sc__law_one_crossing : FnScope ["source"] ["source"] (defScope st__law_one_crossing) := ⟨rfl, rfl, rfl, by decide +kernel, rfl, by decide +kernel, by decide +kernel⟩
def m__law_one_crossing : M Out :=
 (sRet (eFn S__law_draw_crossing (aCons (eVar 0) (aCons (eC (.int 4)) (aCons (eSl (eLst (lDisp (aCons (eC (.int 0)) (aCons (eC (.int 1)) (aCons (eC (.int 2)) aNil))))) oNo (oAt (eBin addD (eC (.int 1)) (eFn S__law_pick (aCons (eVar 0) (aCons (eC (.int 3)) aNil)))))) (aCons (eBin addD (eC (.int 3)) (eFn S__law_pick (aCons (eVar 0) (aCons (eC (.int 5)) aNil)))) aNil))))))
def S__law_one_crossing : FnSem := fnOf 1 m__law_one_crossing
theorem w__law_one_crossing {P : Program} {w : World} {K : PySem.W.Frag} {mg : Str → Option Value} {base : Heap} {f : Addr} {fd : FuncData} (F : FP K "_law_one_crossing" st__law_one_crossing f fd) (hm : mg "_law_one_crossing" = some (.ref f)) (F__law_draw_crossing : Fn P w K mg base 3 "_law_draw_crossing" 4 S__law_draw_crossing) (F__law_pick : Fn P w K mg base 1 "_law_pick" 2 S__law_pick) : Fn P w K mg base 4 "_law_one_crossing" 1 S__law_one_crossing := by
  have sc := sc__law_one_crossing
  refine fn_body (k := 3) (N := ["source"]) (m := m__law_one_crossing) F hm (F.bindsN (ps := ["source"]) fun _ _ _ _ _ _ us hl => match us, hl with | [_], _ => rfl) sc (by decide) fun cdv A outer s H hr => ?_
  have hu := hr.u64
  have hv := hr.u65
  have hv1 := hr.u1
  unfold m__law_one_crossing
  exact (ss_one (s_ret (s_fn (F__law_draw_crossing.mono (by decide)) hr rfl (a_cons s_v (a_cons s_int (a_cons (s_slice (s_ofL (l_dsp (a_cons s_int (a_cons s_int (a_cons s_int a_nil))))) o_no (o_at (s_bin od_add s_int (s_fn (F__law_pick.mono (by decide)) hr rfl (a_cons s_v (a_cons s_int a_nil)) (aLen_cons (aLen_cons aLen_nil)))))) (a_cons (s_bin od_add s_int (s_fn (F__law_pick.mono (by decide)) hr rfl (a_cons s_v (a_cons s_int a_nil)) (aLen_cons (aLen_cons aLen_nil)))) a_nil)))) (aLen_cons (aLen_cons (aLen_cons (aLen_cons aLen_nil)))))))
theorem sc__law_useful : FnScope ["crossing", "every", "found", "s", "stage", "clearing", "further", "plan", "capacity", "need", "ticks", "late", "movement", "i", "many"] ["crossing"] (defScope st__law_useful) := ⟨rfl, rfl, rfl, by decide +kernel, rfl, by decide +kernel, by decide +kernel⟩
def m__law_useful : M Out :=
 (sSeq (sPar [1, 2] (pVal (eFn S__law_stages (aCons (eVar 0) aNil)) (pVal (eLst (lDisp (aCons (eTup (aCons (eTup aNil) (aCons (eCall tupG (aCons (eLst (eComp [12] (gN 12) (ret true) (eC (.int 0)) (iSeq (eBin ixD (eVar 0) (eC (.int 0)))))) aNil)) (aCons (eC (.int 0)) aNil)))) aNil))) pNil)))
 (sSeq (sFor (iEnum (eVar 1)) (gT (gCons (gN 3) (gCons (gN 4) gNil)))
 (sSeq (sPar [5, 6] (pVal (eFn S__law_clearing (aCons (eVar 0) (aCons (eVar 4) aNil))) (pOwn (lDisp aNil) pNil)))
 (sSeq (sFor (iSeq (eVar 2)) (gT (gCons (gN 7) (gCons (gN 8) (gCons (gN 9) gNil))))
 (sFor (iRg2 (eC (.int 2)) (eBin addD (eBin subD (eBin subD (eBin ixD (eVar 0) (eC (.int 2))) (eVar 9)) (eVar 5)) (eC (.int 1)))) (gN 10)
 (sSeq (sSet 11 (eCall tupG (aCons (eLst (eComp [13, 14] (gT (gCons (gN 13) (gCons (gN 14) gNil))) (ret true) (eBin addD (eVar 14) (eBin mulD (eBin subD (eVar 10) (eC (.int 1))) (eCall intG (aCons (eBin inD (eVar 13) (eVar 4)) aNil)))) (iEnum (eVar 8)))) aNil)))
 (sExpr (eApp 6 (eTup (aCons (eBin addD (eVar 7) (eTup (aCons (eTup (aCons (eVar 3) (aCons (eVar 10) aNil))) aNil))) (aCons (eVar 11) (aCons (eBin addD (eBin addD (eVar 9) (eVar 10)) (eVar 5)) aNil)))))))))
 (sSet 2 (eBin addD (eVar 2) (eFrz 6))))))
 (sRet (eVar 2))))
def S__law_useful : FnSem := fnOf 15 m__law_useful
theorem w__law_useful {P : Program} {w : World} {K : PySem.W.Frag} {mg : Str → Option Value} {base : Heap} {f : Addr} {fd : FuncData} (F : FP K "_law_useful" st__law_useful f fd) (hm : mg "_law_useful" = some (.ref f)) (h_enumerate : mg "enumerate" = none) (h_int : mg "int" = none) (h_range : mg "range" = none) (h_tuple : mg "tuple" = none) (F__law_clearing : Fn P w K mg base 2 "_law_clearing" 2 S__law_clearing) (F__law_stages : Fn P w K mg base 3 "_law_stages" 1 S__law_stages) : Fn P w K mg base 4 "_law_useful" 1 S__law_useful := by
  have sc := sc__law_useful
  refine fn_body (k := 3) (N := ["crossing", "every", "found", "s", "stage", "clearing", "further", "plan", "capacity", "need", "ticks", "late", "movement", "i", "many"]) (m := m__law_useful) F hm (F.bindsN (ps := ["crossing"]) fun _ _ _ _ _ _ us hl => match us, hl with | [_], _ => rfl) sc (by decide) fun cdv A outer s H hr => ?_
  have hu := hr.u64
  have hv := hr.u65
  have hv1 := hr.u1
  unfold m__law_useful
  exact (ss_cons (s_par2 rfl sc.nd rfl rfl (by decide) rfl rfl (p_val (s_fn (F__law_stages.mono (by decide)) hr rfl (a_cons s_v a_nil) (aLen_cons aLen_nil)) (p_val (s_ofL (l_dsp (a_cons (s_tup (a_cons (s_tup a_nil) (a_cons (s_callT c_tup rfl h_tuple (by decide +kernel) (a_cons (s_ofL (l_comp (own := [("movement", 12)]) ⟨rfl, sc.nd, (blk_of rfl (by kernel_rfl)), by decide, fun _ _ _ _ _ => (g_n sc.nd), fun _ _ _ _ _ => f_nil, fun _ _ _ _ _ => s_int⟩ (i_seq (s_ix s_v s_int)))) a_nil)) (a_cons s_int a_nil)))) a_nil))) p_nil)) rfl)
 (ss_cons (s_for PassesOwn.never rfl (i_enum rfl h_enumerate s_v) (g_tup rfl (gs_cons (g_n sc.nd) (gs_cons (g_n sc.nd) gs_nil)) rfl rfl (gCons_len (gCons_len gNil_len)))
 (ss_cons (s_par2 rfl sc.nd rfl rfl (by decide) rfl rfl (p_val (s_fn (F__law_clearing.mono (by decide)) hr rfl (a_cons s_v (a_cons s_v a_nil)) (aLen_cons (aLen_cons aLen_nil))) (p_own (l_dsp a_nil) p_nil)) rfl)
 (ss_cons (s_for PassesOwn.never rfl (i_seq s_v) (g_tup rfl (gs_cons (g_n sc.nd) (gs_cons (g_n sc.nd) (gs_cons (g_n sc.nd) gs_nil))) rfl rfl (gCons_len (gCons_len (gCons_len gNil_len))))
 (ss_one (s_for PassesOwn.never rfl (i_rg2 rfl h_range s_int (s_bin od_add (s_bin od_sub (s_bin od_sub (s_ix s_v s_int) s_v) s_v) s_int)) (g_n sc.nd)
 (ss_cons (s_set sc.nd rfl (by first | exact Or.inl rfl | exact Or.inr rfl) (s_callT c_tup rfl h_tuple (by decide +kernel) (a_cons (s_ofL (l_comp (own := [("i", 13), ("many", 14)]) ⟨rfl, sc.nd, (blk_of rfl (by kernel_rfl)), by decide, fun _ _ _ _ _ => (g_tup rfl (gs_cons (g_n sc.nd) (gs_cons (g_n sc.nd) gs_nil)) rfl rfl (gCons_len (gCons_len gNil_len))), fun _ _ _ _ _ => f_nil, fun _ _ _ _ _ => (s_bin od_add s_v (s_bin od_mul (s_bin od_sub s_v s_int) (s_callT c_int rfl h_int (by decide +kernel) (a_cons (s_cmp (od_in hv) s_v s_v) a_nil))))⟩ (i_enum rfl h_enumerate s_v))) a_nil)))
 (ss_one (s_expr (s_append pv (s_tup (a_cons (s_bin od_add s_v (s_tup (a_cons (s_tup (a_cons s_v (a_cons s_v a_nil))) a_nil))) (a_cons s_v (a_cons (s_bin od_add (s_bin od_add s_v s_v) s_v) a_nil)))))))))))
 (ss_one (s_set sc.nd rfl (by first | exact Or.inl rfl | exact Or.inr rfl) (s_bin od_add s_v (s_frz pv)))))))
 (ss_one (s_ret s_v))))
theorem sc__law_is_least : FnScope ["capacity", "wanted", "many", "due"] ["capacity", "wanted"] (defScope st__law_is_least) := ⟨rfl, rfl, rfl, by decide +kernel, rfl, by decide +kernel, by decide +kernel⟩
def m__law_is_least : M Out :=
 (sRet (eCall allG (aCons (eLst (eComp [2, 3] (gT (gCons (gN 2) (gCons (gN 3) gNil))) (ret true) (eBin geD (eVar 2) (eVar 3)) (iZip2 (eVar 0) (eVar 1)))) aNil)))
def S__law_is_least : FnSem := fnOf 4 m__law_is_least
theorem w__law_is_least {P : Program} {w : World} {K : PySem.W.Frag} {mg : Str → Option Value} {base : Heap} {f : Addr} {fd : FuncData} (F : FP K "_law_is_least" st__law_is_least f fd) (hm : mg "_law_is_least" = some (.ref f)) (h_all : mg "all" = none) (h_zip : mg "zip" = none) : Fn P w K mg base 1 "_law_is_least" 2 S__law_is_least := by
  have sc := sc__law_is_least
  refine fn_body (k := 0) (N := ["capacity", "wanted", "many", "due"]) (m := m__law_is_least) F hm (F.bindsN (ps := ["capacity", "wanted"]) fun _ _ _ _ _ _ us hl => match us, hl with | [_, _], _ => rfl) sc (by decide) fun cdv A outer s H hr => ?_
  have hu := hr.u64
  have hv := hr.u65
  have hv1 := hr.u1
  unfold m__law_is_least
  exact (ss_one (s_ret (s_callB (c_all rfl) rfl h_all (by decide +kernel) (a_cons (s_ofL (l_comp (own := [("many", 2), ("due", 3)]) ⟨rfl, sc.nd, (blk_of rfl (by kernel_rfl)), by decide, fun _ _ _ _ _ => (g_tup rfl (gs_cons (g_n sc.nd) (gs_cons (g_n sc.nd) gs_nil)) rfl rfl (gCons_len (gCons_len gNil_len))), fun _ _ _ _ _ => f_nil, fun _ _ _ _ _ => (s_cmp od_ge s_v s_v)⟩ (i_zip2 rfl h_zip s_v s_v))) a_nil))))
theorem sc__law_leading : FnScope ["crossing", "known", "plan", "capacity", "need", "key", "found", "other"] ["crossing"] (defScope st__law_leading) := ⟨rfl, rfl, rfl, by decide +kernel, rfl, by decide +kernel, by decide +kernel⟩
def m__law_leading : M Out :=
 (sSeq (sOwnN 1 nT0)
 (sSeq (sFor (iSeq (eFn S__law_useful (aCons (eVar 0) aNil))) (gT (gCons (gN 2) (gCons (gN 3) (gCons (gN 4) gNil))))
 (sSeq (sSet 5 (eTup (aCons (eVar 4) (aCons (eCall lenG (aCons (eVar 2) aNil)) (aCons (eVar 2) aNil)))))
 (sIf (tOr2 (tBor [1] (tst (eBin dninD (eVar 3) (eVar 1)))) (tst (eBin ltN (eVar 5) (eDgO 1 (eVar 3)))))
 (sPutD 1 (eVar 5) (eVar 3))
 sNx)))
 (sSeq (sOwn 6 (lDisp aNil))
 (sSeq (bnd (eFrz 1) fun _ => (sForD 1 (gN 3)
 (bnd (mFrzN 1) fun _ =>
 (sIf (tNot1 (tru (eCall anyG (aCons (eLst (eComp [7] (gN 7) (ret true) (eAnd (eBin neD (eVar 7) (eVar 3)) (eFn S__law_is_least (aCons (eVar 7) (aCons (eVar 3) aNil)))) (iDct 1))) aNil))))
 (sExpr (eApp 6 (eTup (aCons (eBin ixD (eDgO 1 (eVar 3)) (eC (.int 2))) (aCons (eVar 3) aNil)))))
 sNx))))
 (sRet (eLst (eCallL srtH (aCons (eFrz 6) aNil))))))))
def S__law_leading : FnSem := fnOf 8 m__law_leading
theorem w__law_leading {P : Program} {w : World} {K : PySem.W.Frag} {mg : Str → Option Value} {base : Heap} {f : Addr} {fd : FuncData} (F : FP K "_law_leading" st__law_leading f fd) (hm : mg "_law_leading" = some (.ref f)) (h_any : mg "any" = none) (h_len : mg "len" = none) (h_sorted : mg "sorted" = none) (F__law_is_least : Fn P w K mg base 1 "_law_is_least" 2 S__law_is_least) (F__law_useful : Fn P w K mg base 4 "_law_useful" 1 S__law_useful) : Fn P w K mg base 5 "_law_leading" 1 S__law_leading := by
  have sc := sc__law_leading
  refine fn_body (k := 4) (N := ["crossing", "known", "plan", "capacity", "need", "key", "found", "other"]) (m := m__law_leading) F hm (F.bindsN (ps := ["crossing"]) fun _ _ _ _ _ _ us hl => match us, hl with | [_], _ => rfl) sc (by decide) fun cdv A outer s H hr => ?_
  have hu := hr.u64
  have hv := hr.u65
  have hv1 := hr.u1
  unfold m__law_leading
  exact (ss_cons (s_ownN sc.nd rfl (by first | exact Or.inl rfl | exact Or.inr rfl) n_dT)
 (ss_cons (s_for PassesOwn.never rfl (i_seq (s_fn (F__law_useful.mono (by decide)) hr rfl (a_cons s_v a_nil) (aLen_cons aLen_nil))) (g_tup rfl (gs_cons (g_n sc.nd) (gs_cons (g_n sc.nd) (gs_cons (g_n sc.nd) gs_nil))) rfl rfl (gCons_len (gCons_len (gCons_len gNil_len))))
 (ss_cons (s_set sc.nd rfl (by first | exact Or.inl rfl | exact Or.inr rfl) (s_tup (a_cons s_v (a_cons (s_callB c_len rfl h_len (by decide +kernel) (a_cons s_v a_nil)) (a_cons s_v a_nil)))))
 (ss_one (s_ifS (SW.t (w_or (t_bor (t_dnin hv1 s_v s_v)) (w_or1 (t_cmp (od_ltN hu) s_v (s_dgO hv1 pv s_v)))))
 (ss_one (s_putD hv1 pv s_v s_v))
 ss_nil))))
 (ss_cons (s_own sc.nd rfl (by first | exact Or.inl rfl | exact Or.inr rfl) (l_dsp a_nil))
 (ss_cons (s_frzS (s_forD PassesOwn.never rfl pv (g_n sc.nd)
 (ss_one (s_frzN (s_ifS (t_not (t_of (s_callB (c_any rfl) rfl h_any (by decide +kernel) (a_cons (s_ofL (l_compD (own := [("other", 7)]) ⟨rfl, sc.nd, (blk_of rfl (by kernel_rfl)), by decide, fun _ _ _ _ _ => (g_n sc.nd), fun _ _ _ _ _ => f_nil, fun _ _ _ _ _ => (s_and (s_cmp (od_ne hu) s_v s_v) (s_one (s_fn (F__law_is_least.mono (by decide)) hr rfl (a_cons s_v (a_cons s_v a_nil)) (aLen_cons (aLen_cons aLen_nil)))))⟩ pv)) a_nil))))
 (ss_one (s_expr (s_append pv (s_tup (a_cons (s_ix (s_dgO hv1 pv s_v) s_int) (a_cons s_v a_nil))))))
 ss_nil)))))
 (ss_one (s_ret (s_ofL (l_callB (c_srtH hr) rfl h_sorted boot_sorted (a_cons (s_frz pv) a_nil)))))))))
theorem sc__law_draw_shares : FnScope ["source", "many", "cuts", "lap", "cut"] ["source", "many"] (defScope st__law_draw_shares) := ⟨rfl, rfl, rfl, by decide +kernel, rfl, by decide +kernel, by decide +kernel⟩
def m__law_draw_shares : M Out :=
 (sSeq (sOwn 2 (eComp [3] (gN 3) (ret true) (eFn S__law_pick (aCons (eVar 0) (aCons (eC (.int 4)) aNil))) (iRg1 (eVar 1))))
 (sSeq (sAugIx 2 (fun i j => i + j) (eFn S__law_pick (aCons (eVar 0) (aCons (eVar 1) aNil))) (eC (.int 1)))
 (sRet (eCall tupG (aCons (eLst (eComp [4] (gN 4) (ret true) (eFn S__law_fraction (aCons (eVar 4) (aCons (eBor [2] (eCall sumG (aCons (eVar 2) aNil))) aNil))) (iSeq (eFrz 2)))) aNil)))))
def S__law_draw_shares : FnSem := fnOf 5 m__law_draw_shares
theorem w__law_draw_shares {P : Program} {w : World} {K : PySem.W.Frag} {mg : Str → Option Value} {base : Heap} {f : Addr} {fd : FuncData} (F : FP K "_law_draw_shares" st__law_draw_shares f fd) (hm : mg "_law_draw_shares" = some (.ref f)) (h_range : mg "range" = none) (h_sum : mg "sum" = none) (h_tuple : mg "tuple" = none) (F__law_fraction : Fn P w K mg base 2 "_law_fraction" 2 S__law_fraction) (F__law_pick : Fn P w K mg base 1 "_law_pick" 2 S__law_pick) : Fn P w K mg base 3 "_law_draw_shares" 2 S__law_draw_shares := by
  have sc := sc__law_draw_shares
  refine fn_body (k := 2) (N := ["source", "many", "cuts", "lap", "cut"]) (m := m__law_draw_shares) F hm (F.bindsN (ps := ["source", "many"]) fun _ _ _ _ _ _ us hl => match us, hl with | [_, _], _ => rfl) sc (by decide) fun cdv A outer s H hr => ?_
  have hu := hr.u64
  have hv := hr.u65
  have hv1 := hr.u1
  unfold m__law_draw_shares
  exact (ss_cons (s_own sc.nd rfl (by first | exact Or.inl rfl | exact Or.inr rfl) (l_comp (own := [("lap", 3)]) ⟨rfl, sc.nd, (blk_of rfl (by kernel_rfl)), by decide, fun _ _ _ _ _ => (g_n sc.nd), fun _ _ _ _ _ => f_nil, fun _ _ _ _ _ => (s_fn (F__law_pick.mono (by decide)) hr rfl (a_cons s_v (a_cons s_int a_nil)) (aLen_cons (aLen_cons aLen_nil)))⟩ (i_rg1 rfl h_range s_v)))
 (ss_cons (s_augIx pv (s_fn (F__law_pick.mono (by decide)) hr rfl (a_cons s_v (a_cons s_v a_nil)) (aLen_cons (aLen_cons aLen_nil))) s_int ip_add)
 (ss_one (s_ret (s_callT c_tup rfl h_tuple (by decide +kernel) (a_cons (s_ofL (l_comp (own := [("cut", 4)]) ⟨rfl, sc.nd, (blk_of rfl (by kernel_rfl)), by decide, fun _ _ _ _ _ => (g_n sc.nd), fun _ _ _ _ _ => f_nil, fun _ _ _ _ _ => (s_fn (F__law_fraction.mono (by decide)) hr rfl (a_cons s_v (a_cons (s_bor (s_callB (c_sum rfl) rfl h_sum (by decide +kernel) (a_cons s_v a_nil))) a_nil)) (aLen_cons (aLen_cons aLen_nil)))⟩ (i_seq (s_frz pv)))) a_nil))))))
theorem sc__law_lamp_fault : FnScope ["crossing", "rows", "tick", "row", "i", "late", "last", "j", "wait", "is_new"] ["crossing", "rows"] (defScope st__law_lamp_fault) := ⟨rfl, rfl, rfl, by decide +kernel, rfl, by decide +kernel, by decide +kernel⟩
def m__law_lamp_fault : M Out :=
 (sSeq (sFor (iEnum (eVar 1)) (gT (gCons (gN 2) (gCons (gN 3) gNil)))
 (sFor (iSeq (eVar 3)) (gN 4)
 (sSeq (sSet 5 (eLst (eComp [7] (gN 7) (tAnd2 (tst (eBin ltD (eVar 4) (eVar 7))) (tst (eBin notND (eFn S__law_clearance (aCons (eVar 0) (aCons (eVar 4) (aCons (eVar 7) aNil)))) (eC .non)))) (eVar 7) (iSeq (eVar 3)))))
 (sIf (tst (eBin neD (eVar 5) (eLst (lDisp aNil))))
 (sRet (eTup (aCons (eC (.str "crossed")) (aCons (eVar 2) (aCons (eVar 4) (aCons (eBin ixD (eVar 5) (eC (.int 0))) aNil))))))
 sNx))))
 (sSeq (sOwnN 6 nK0)
 (sSeq (sFor (iEnum (eVar 1)) (gT (gCons (gN 2) (gCons (gN 3) gNil)))
 (sSeq (sFor (iSeq (eLst (eCallL srtG (aCons (eLstO 6) aNil)))) (gN 4)
 (sFor (iSeq (eVar 3)) (gN 7)
 (sSeq (sSet 8 (eIf (tst (eBin neD (eVar 4) (eVar 7))) (eFn S__law_clearance (aCons (eVar 0) (aCons (eVar 4) (aCons (eVar 7) aNil)))) (eC .non)))
 (sSeq (sSet 9 (eOr (eBin eqD (eVar 2) (eC (.int 0))) (eBin ninD (eVar 7) (eBin ixD (eVar 1) (eBin subD (eVar 2) (eC (.int 1)))))))
 (sIf (tAnd2 (tst (eBin notND (eVar 8) (eC .non))) (tAnd2 (tru (eVar 9)) (tst (eBin ltD (eBin subD (eBin subD (eVar 2) (eDgO 6 (eVar 4))) (eC (.int 1))) (eVar 8)))))
 (sRet (eTup (aCons (eC (.str "early")) (aCons (eVar 2) (aCons (eVar 4) (aCons (eVar 7) aNil))))))
 sNx)))))
 (sFor (iSeq (eVar 3)) (gN 4)
 (sPutD 6 (eVar 2) (eVar 4)))))
 (sRet (eC .non)))))
def S__law_lamp_fault : FnSem := fnOf 10 m__law_lamp_fault
theorem w__law_lamp_fault {P : Program} {w : World} {K : PySem.W.Frag} {mg : Str → Option Value} {base : Heap} {f : Addr} {fd : FuncData} (F : FP K "_law_lamp_fault" st__law_lamp_fault f fd) (hm : mg "_law_lamp_fault" = some (.ref f)) (h_enumerate : mg "enumerate" = none) (h_list : mg "list" = none) (h_sorted : mg "sorted" = none) (F__law_clearance : Fn P w K mg base 1 "_law_clearance" 3 S__law_clearance) : Fn P w K mg base 2 "_law_lamp_fault" 2 S__law_lamp_fault := by
  have sc := sc__law_lamp_fault
  refine fn_body (k := 1) (N := ["crossing", "rows", "tick", "row", "i", "late", "last", "j", "wait", "is_new"]) (m := m__law_lamp_fault) F hm (F.bindsN (ps := ["crossing", "rows"]) fun _ _ _ _ _ _ us hl => match us, hl with | [_, _], _ => rfl) sc (by decide) fun cdv A outer s H hr => ?_
  have hu := hr.u64
  have hv := hr.u65
  have hv1 := hr.u1
  unfold m__law_lamp_fault
  exact (ss_cons (s_for PassesOwn.never rfl (i_enum rfl h_enumerate s_v) (g_tup rfl (gs_cons (g_n sc.nd) (gs_cons (g_n sc.nd) gs_nil)) rfl rfl (gCons_len (gCons_len gNil_len)))
 (ss_one (s_for PassesOwn.never rfl (i_seq s_v) (g_n sc.nd)
 (ss_cons (s_setLc (own := [("j", 7)])  rfl rfl rfl ⟨rfl, sc.nd, (blk_of rfl (by kernel_rfl)), by decide, fun _ _ _ _ _ => (g_n sc.nd), fun _ _ _ _ _ => (f_one (SW.t (w_and (t_cmp od_lt s_v s_v) (w_and1 (t_cmp od_notN (s_fn (F__law_clearance.mono (by decide)) hr rfl (a_cons s_v (a_cons s_v (a_cons s_v a_nil))) (aLen_cons (aLen_cons (aLen_cons aLen_nil)))) s_non))))), fun _ _ _ _ _ => s_v⟩ (i_seq s_v))
 (ss_one (s_ifS (t_cmp (od_ne hu) s_v (s_ofL (l_dsp a_nil)))
 (ss_one (s_ret (s_tup (a_cons s_str (a_cons s_v (a_cons s_v (a_cons (s_ix s_v s_int) a_nil)))))))
 ss_nil))))))
 (ss_cons (s_ownN sc.nd rfl (by first | exact Or.inl rfl | exact Or.inr rfl) n_dK)
 (ss_cons (s_for PassesOwn.never rfl (i_enum rfl h_enumerate s_v) (g_tup rfl (gs_cons (g_n sc.nd) (gs_cons (g_n sc.nd) gs_nil)) rfl rfl (gCons_len (gCons_len gNil_len)))
 (ss_cons (s_for PassesOwn.never rfl (i_seq (s_ofL (l_callB (c_srt hr) rfl h_sorted boot_sorted (a_cons (s_lstO rfl rfl h_list pv) a_nil)))) (g_n sc.nd)
 (ss_one (s_for PassesOwn.never rfl (i_seq s_v) (g_n sc.nd)
 (ss_cons (s_set sc.nd rfl (by first | exact Or.inl rfl | exact Or.inr rfl) (s_if (t_cmp (od_ne hu) s_v s_v) (s_fn (F__law_clearance.mono (by decide)) hr rfl (a_cons s_v (a_cons s_v (a_cons s_v a_nil))) (aLen_cons (aLen_cons (aLen_cons aLen_nil)))) s_non))
 (ss_cons (s_set sc.nd rfl (by first | exact Or.inl rfl | exact Or.inr rfl) (s_or (s_cmp (od_eq hu) s_v s_int) (s_one (s_cmp (od_nin hv) s_v (s_ix s_v (s_bin od_sub s_v s_int))))))
 (ss_one (s_ifS (SW.t (w_and (t_cmp od_notN s_v s_non) (w_and (t_of s_v) (w_and1 (t_cmp od_lt (s_bin od_sub (s_bin od_sub s_v (s_dgO hv1 pv s_v)) s_int) s_v)))))
 (ss_one (s_ret (s_tup (a_cons s_str (a_cons s_v (a_cons s_v (a_cons s_v a_nil)))))))
 ss_nil)))))))
 (ss_one (s_for PassesOwn.never rfl (i_seq s_v) (g_n sc.nd)
 (ss_one (s_putD hv1 pv s_v s_v))))))
 (ss_one (s_ret s_non)))))
theorem sc_law : FnScope ["script", "source", "lap", "crossing", "pairs", "shares", "counts", "row", "mixed", "frames", "unit", "count", "u", "e", "wide", "i", "let", "every", "plans", "rows", "j", "pair"] ["script"] (defScope st_law) := ⟨rfl, rfl, rfl, by decide +kernel, rfl, by decide +kernel, by decide +kernel⟩
def m_law : M Out :=
 (sSeq (sFor (iRg1 (eC (.int 3))) (gN 2)
 (sSeq (sSet 3 (eFn S__law_one_crossing (aCons (eVar 1) aNil)))
 (sSeq (sSet 4 (eFn S__law_leading (aCons (eVar 3) aNil)))
 (sSeq (sSet 5 (eFn S__law_draw_shares (aCons (eVar 1) (aCons (eCall lenG (aCons (eVar 4) aNil)) aNil))))
 (sSeq (sPar [6, 7] (pVal (eFn S_round_counts (aCons (eVar 3) (aCons (eVar 5) aNil))) (pVal (eFn S_spread_round (aCons (eVar 3) (aCons (eVar 5) aNil))) pNil)))
 (sSeq (sPar [8, 9] (pVal (eFn S_mixed_capacity (aCons (eVar 3) (aCons (eVar 5) aNil))) (pVal (eCall lenG (aCons (eVar 7) aNil)) pNil)))
 (sSeq (sIf (tOr2 (tst (eBin neD (eCall sumG (aCons (eVar 6) aNil)) (eVar 9))) (tst (eBin neD (eLst (eComp [20] (gN 20) (ret true) (eBin cntX (eVar 7) (eVar 20)) (iRg1 (eCall lenG (aCons (eVar 4) aNil))))) (eLst (eCallL lstG (aCons (eVar 6) aNil))))))
 (sRet (eC (.bl false)))
 sNx)
 (sSeq (sIf (tOr2 (tst (eBin neD (eLst (eComp [11] (gN 11) (ret true) (eFn S__law_fraction (aCons (eVar 11) (aCons (eVar 9) aNil))) (iSeq (eVar 6)))) (eLst (eCallL lstG (aCons (eVar 5) aNil))))) (tst (eBin neD (eLst (eCallL lstX (aCons (eVar 7) aNil))) (eLst (eCallL srtG (aCons (eLst (eCallL lstX (aCons (eVar 7) aNil))) aNil))))))
 (sRet (eC (.bl false)))
 sNx)
 (sSeq (sSet 10 (eC (.int 0)))
 (sSeq (sFor (iSeq (eVar 6)) (gN 11)
 (sSet 10 (eFn S__law_common (aCons (eVar 10) (aCons (eVar 11) aNil)))))
 (sSeq (sIf (tst (eBin neD (eVar 10) (eC (.int 1))))
 (sRet (eC (.bl false)))
 sNx)
 (sSeq (sIf (tst (eBin gtD (eCall lenG (aCons (eVar 4) aNil)) (eC (.int 1))))
 (sSeq (sPar [12, 13] (pVal (eBin addD (eC (.int 1)) (eFn S__law_pick (aCons (eVar 1) (aCons (eBin powD (eC (.int 10)) (eC (.int 8))) aNil)))) (pVal (eBin addD (eBin addD (eBin powD (eC (.int 10)) (eC (.int 8))) (eC (.int 7))) (eFn S__law_pick (aCons (eVar 1) (aCons (eBin powD (eC (.int 10)) (eC (.int 8))) aNil)))) pNil)))
 (sSeq (sSet 14 (eBin addD (eTup (aCons (eFn S__law_fraction (aCons (eVar 12) (aCons (eVar 13) aNil))) (aCons (eFn S__law_fraction (aCons (eBin subD (eVar 13) (eVar 12)) (aCons (eVar 13) aNil))) aNil))) (eCall tupG (aCons (eBin mulD (eLst (lDisp (aCons (eTup (aCons (eC (.int 0)) (aCons (eC (.int 1)) aNil))) aNil))) (eBin subD (eCall lenG (aCons (eVar 4) aNil)) (eC (.int 2)))) aNil))))
 (sSeq (sSet 10 (eFn S__law_common (aCons (eVar 12) (aCons (eVar 13) aNil))))
 (sIf (tst (eBin neD (eFn S_round_counts (aCons (eVar 3) (aCons (eVar 14) aNil))) (eBin addD (eTup (aCons (eBin fdivD (eVar 12) (eVar 10)) (aCons (eBin fdivD (eBin subD (eVar 13) (eVar 12)) (eVar 10)) aNil))) (eBin mulD (eTup (aCons (eC (.int 0)) aNil)) (eBin subD (eCall lenG (aCons (eVar 4) aNil)) (eC (.int 2)))))))
 (sRet (eC (.bl false)))
 sNx))))
 sNx)
 (sSeq (sFor (iRg1 (eCall lenG (aCons (eBin ixD (eVar 3) (eC (.int 0))) aNil))) (gN 15)
 (sSeq (sSet 16 (eCall sumG (aCons (eLst (eComp [20] (gN 20) (ret true) (eBin ixD (eBin ixD (eBin ixD (eVar 4) (eVar 20)) (eC (.int 1))) (eVar 15)) (iSeq (eVar 7)))) aNil)))
 (sIf (tst (eBin neD (eFn S__law_times (aCons (eBin ixD (eVar 8) (eVar 15)) (aCons (eTup (aCons (eVar 9) (aCons (eC (.int 1)) aNil))) aNil))) (eTup (aCons (eVar 16) (aCons (eC (.int 1)) aNil)))))
 (sRet (eC (.bl false)))
 sNx)))
 (sSeq (sIf (tst (eBin neD (eLst (eCallL lstG (aCons (eFn S_leading_capacities (aCons (eVar 3) aNil)) aNil))) (eLst (eComp [21] (gN 21) (ret true) (eBin ixD (eVar 21) (eC (.int 1))) (iSeq (eVar 4))))))
 (sRet (eC (.bl false)))
 sNx)
 (sSeq (sSet 17 (eFn S_leading_plans (aCons (eVar 3) aNil)))
 (sSeq (sSet 18 (eSl (eLst (eComp [20] (gN 20) (ret true) (eBin ixD (eVar 17) (eVar 20)) (iSeq (eBin addX (eVar 7) (eSlX (eVar 7) oNo (oAt (eC (.int 1)))))))) oNo (oAt (eC (.int 14)))))
 (sSeq (sSet 19 (eFn S_lamp_rows (aCons (eVar 3) (aCons (eVar 18) aNil))))
 (sIf (tOr2 (tst (eBin notND (eFn S_judge_lamps (aCons (eVar 3) (aCons (eVar 19) aNil))) (eC .non))) (tst (eBin notND (eFn S__law_lamp_fault (aCons (eVar 3) (aCons (eVar 19) aNil))) (eC .non))))
 (sRet (eC (.bl false)))
 sNx))))))))))))))))))
 (sRet (eC (.bl true))))
theorem w_law {P : Program} {w : World} {K : PySem.W.Frag} {mg : Str → Option Value} {base : Heap} {f : Addr} {fd : FuncData} (F : FP K "law" st_law f fd) (hm : mg "law" = some (.ref f)) (h_len : mg "len" = none) (h_list : mg "list" = none) (h_range : mg "range" = none) (h_sorted : mg "sorted" = none) (h_sum : mg "sum" = none) (h_tuple : mg "tuple" = none) (F__law_common : Fn P w K mg base 1 "_law_common" 2 S__law_common) (F__law_draw_shares : Fn P w K mg base 3 "_law_draw_shares" 2 S__law_draw_shares) (F__law_fraction : Fn P w K mg base 2 "_law_fraction" 2 S__law_fraction) (F__law_lamp_fault : Fn P w K mg base 2 "_law_lamp_fault" 2 S__law_lamp_fault) (F__law_leading : Fn P w K mg base 5 "_law_leading" 1 S__law_leading) (F__law_one_crossing : Fn P w K mg base 4 "_law_one_crossing" 1 S__law_one_crossing) (F__law_pick : Fn P w K mg base 1 "_law_pick" 2 S__law_pick) (F__law_times : Fn P w K mg base 3 "_law_times" 2 S__law_times) (F_judge_lamps : Fn P w K mg base 3 "judge_lamps" 2 S_judge_lamps) (F_lamp_rows : Fn P w K mg base 7 "lamp_rows" 2 S_lamp_rows) (F_leading_capacities : Fn P w K mg base 9 "leading_capacities" 1 S_leading_capacities) (F_leading_plans : Fn P w K mg base 8 "leading_plans" 1 S_leading_plans) (F_mixed_capacity : Fn P w K mg base 10 "mixed_capacity" 2 S_mixed_capacity) (F_round_counts : Fn P w K mg base 3 "round_counts" 2 S_round_counts) (F_spread_round : Fn P w K mg base 4 "spread_round" 2 S_spread_round) (F_open : FnW P w K mg base 10 "_law_open_cells" (spOpen K)) (ok : ∀ src, ∃ s', m_law ⟨lawEnv 22 1, src⟩ = some (.ret (.bl true), s')) : FnW P w K mg base 11 "law" (spLaw K) := by
  have sc := sc_law
  refine law_fn (k := 10) (N := ["script", "source", "lap", "crossing", "pairs", "shares", "counts", "row", "mixed", "frames", "unit", "count", "u", "e", "wide", "i", "let", "every", "plans", "rows", "j", "pair"]) (m := m_law) (i := 1) (y := "script") F hm (F.bindsN (ps := ["script"]) fun _ _ _ _ _ _ us hl => match us, hl with | [_], _ => rfl) sc (by decide) (by decide) (fun cdv A outer s H hr => ⟨?_, ?_⟩) ok
  · exact ps_set sc.nd rfl (by first | exact Or.inl rfl | exact Or.inr rfl) (pe_raw F_open hr rfl (pa_cons pv pa_nil))
  · have hu := hr.u64
    have hv := hr.u65
    have hv1 := hr.u1
    unfold m_law
    exact (ss_cons (s_for PassesOwn.never rfl (i_rg1 rfl h_range s_int) (g_n sc.nd)
 (ss_cons (s_set sc.nd rfl (by first | exact Or.inl rfl | exact Or.inr rfl) (s_fn (F__law_one_crossing.mono (by decide)) hr rfl (a_cons s_v a_nil) (aLen_cons aLen_nil)))
 (ss_cons (s_set sc.nd rfl (by first | exact Or.inl rfl | exact Or.inr rfl) (s_fn (F__law_leading.mono (by decide)) hr rfl (a_cons s_v a_nil) (aLen_cons aLen_nil)))
 (ss_cons (s_set sc.nd rfl (by first | exact Or.inl rfl | exact Or.inr rfl) (s_fn (F__law_draw_shares.mono (by decide)) hr rfl (a_cons s_v (a_cons (s_callB c_len rfl h_len (by decide +kernel) (a_cons s_v a_nil)) a_nil)) (aLen_cons (aLen_cons aLen_nil))))
 (ss_cons (s_parT rfl (by decide) (pgs_name sc.nd rfl (by first | exact Or.inl rfl | exact Or.inr rfl) (pgs_name sc.nd rfl (by first | exact Or.inl rfl | exact Or.inr rfl) pgs_none)) (p_val (s_fn (F_round_counts.mono (by decide)) hr rfl (a_cons s_v (a_cons s_v a_nil)) (aLen_cons (aLen_cons aLen_nil))) (p_val (s_fn (F_spread_round.mono (by decide)) hr rfl (a_cons s_v (a_cons s_v a_nil)) (aLen_cons (aLen_cons aLen_nil))) p_nil)))
 (ss_cons (s_parT rfl (by decide) (pgs_name sc.nd rfl (by first | exact Or.inl rfl | exact Or.inr rfl) (pgs_name sc.nd rfl (by first | exact Or.inl rfl | exact Or.inr rfl) pgs_none)) (p_val (s_fn (F_mixed_capacity.mono (by decide)) hr rfl (a_cons s_v (a_cons s_v a_nil)) (aLen_cons (aLen_cons aLen_nil))) (p_val (s_callB c_len rfl h_len (by decide +kernel) (a_cons s_v a_nil)) p_nil)))
 (ss_cons (s_ifS (SW.t (w_or (t_cmp (od_ne hu) (s_callB (c_sum rfl) rfl h_sum (by decide +kernel) (a_cons s_v a_nil)) s_v) (w_or1 (t_cmp (od_ne hu) (s_ofL (l_comp (own := [("j", 20)]) ⟨rfl, sc.nd, (blk_of rfl (by kernel_rfl)), by decide, fun _ _ _ _ _ => (g_n sc.nd), fun _ _ _ _ _ => f_nil, fun _ _ _ _ _ => (s_cnt s_v s_v)⟩ (i_rg1 rfl h_range (s_callB c_len rfl h_len (by decide +kernel) (a_cons s_v a_nil))))) (s_ofL (l_callT c_lst rfl h_list boot_list (a_cons s_v a_nil)))))))
 (ss_one (s_ret s_bl))
 ss_nil)
 (ss_cons (s_ifS (SW.t (w_or (t_cmp (od_ne hu) (s_ofL (l_comp (own := [("count", 11)]) ⟨rfl, sc.nd, (blk_of rfl (by kernel_rfl)), by decide, fun _ _ _ _ _ => (g_n sc.nd), fun _ _ _ _ _ => f_nil, fun _ _ _ _ _ => (s_fn (F__law_fraction.mono (by decide)) hr rfl (a_cons s_v (a_cons s_v a_nil)) (aLen_cons (aLen_cons aLen_nil)))⟩ (i_seq s_v))) (s_ofL (l_callT c_lst rfl h_list boot_list (a_cons s_v a_nil)))) (w_or1 (t_cmp (od_ne hu) (s_ofL (l_callT c_lstX rfl h_list boot_list (a_cons s_v a_nil))) (s_ofL (l_callB (c_srt hr) rfl h_sorted boot_sorted (a_cons (s_ofL (l_callT c_lstX rfl h_list boot_list (a_cons s_v a_nil))) a_nil)))))))
 (ss_one (s_ret s_bl))
 ss_nil)
 (ss_cons (s_set sc.nd rfl (by first | exact Or.inl rfl | exact Or.inr rfl) s_int)
 (ss_cons (s_for PassesOwn.never rfl (i_seq s_v) (g_n sc.nd)
 (ss_one (s_set sc.nd rfl (by first | exact Or.inl rfl | exact Or.inr rfl) (s_fn (F__law_common.mono (by decide)) hr rfl (a_cons s_v (a_cons s_v a_nil)) (aLen_cons (aLen_cons aLen_nil))))))
 (ss_cons (s_ifS (t_cmp (od_ne hu) s_v s_int)
 (ss_one (s_ret s_bl))
 ss_nil)
 (ss_cons (s_ifS (t_cmp od_gt (s_callB c_len rfl h_len (by decide +kernel) (a_cons s_v a_nil)) s_int)
 (ss_cons (s_par2 rfl sc.nd rfl rfl (by decide) rfl rfl (p_val (s_bin od_add s_int (s_fn (F__law_pick.mono (by decide)) hr rfl (a_cons s_v (a_cons (s_bin od_pow s_int s_int) a_nil)) (aLen_cons (aLen_cons aLen_nil)))) (p_val (s_bin od_add (s_bin od_add (s_bin od_pow s_int s_int) s_int) (s_fn (F__law_pick.mono (by decide)) hr rfl (a_cons s_v (a_cons (s_bin od_pow s_int s_int) a_nil)) (aLen_cons (aLen_cons aLen_nil)))) p_nil)) rfl)
 (ss_cons (s_set sc.nd rfl (by first | exact Or.inl rfl | exact Or.inr rfl) (s_bin od_add (s_tup (a_cons (s_fn (F__law_fraction.mono (by decide)) hr rfl (a_cons s_v (a_cons s_v a_nil)) (aLen_cons (aLen_cons aLen_nil))) (a_cons (s_fn (F__law_fraction.mono (by decide)) hr rfl (a_cons (s_bin od_sub s_v s_v) (a_cons s_v a_nil)) (aLen_cons (aLen_cons aLen_nil))) a_nil))) (s_callT c_tup rfl h_tuple (by decide +kernel) (a_cons (s_bin od_mul (s_ofL (l_dsp (a_cons (s_tup (a_cons s_int (a_cons s_int a_nil))) a_nil))) (s_bin od_sub (s_callB c_len rfl h_len (by decide +kernel) (a_cons s_v a_nil)) s_int)) a_nil))))
 (ss_cons (s_set sc.nd rfl (by first | exact Or.inl rfl | exact Or.inr rfl) (s_fn (F__law_common.mono (by decide)) hr rfl (a_cons s_v (a_cons s_v a_nil)) (aLen_cons (aLen_cons aLen_nil))))
 (ss_one (s_ifS (t_cmp (od_ne hu) (s_fn (F_round_counts.mono (by decide)) hr rfl (a_cons s_v (a_cons s_v a_nil)) (aLen_cons (aLen_cons aLen_nil))) (s_bin od_add (s_tup (a_cons (s_bin od_fdiv s_v s_v) (a_cons (s_bin od_fdiv (s_bin od_sub s_v s_v) s_v) a_nil))) (s_bin od_mul (s_tup (a_cons s_int a_nil)) (s_bin od_sub (s_callB c_len rfl h_len (by decide +kernel) (a_cons s_v a_nil)) s_int))))
 (ss_one (s_ret s_bl))
 ss_nil)))))
 ss_nil)
 (ss_cons (s_for PassesOwn.never rfl (i_rg1 rfl h_range (s_callB c_len rfl h_len (by decide +kernel) (a_cons (s_ix s_v s_int) a_nil))) (g_n sc.nd)
 (ss_cons (s_set sc.nd rfl (by first | exact Or.inl rfl | exact Or.inr rfl) (s_callB (c_sum rfl) rfl h_sum (by decide +kernel) (a_cons (s_ofL (l_comp (own := [("j", 20)]) ⟨rfl, sc.nd, (blk_of rfl (by kernel_rfl)), by decide, fun _ _ _ _ _ => (g_n sc.nd), fun _ _ _ _ _ => f_nil, fun _ _ _ _ _ => (s_ix (s_ix (s_ix s_v s_v) s_int) s_v)⟩ (i_seq s_v))) a_nil)))
 (ss_one (s_ifS (t_cmp (od_ne hu) (s_fn (F__law_times.mono (by decide)) hr rfl (a_cons (s_ix s_v s_v) (a_cons (s_tup (a_cons s_v (a_cons s_int a_nil))) a_nil)) (aLen_cons (aLen_cons aLen_nil))) (s_tup (a_cons s_v (a_cons s_int a_nil))))
 (ss_one (s_ret s_bl))
 ss_nil))))
 (ss_cons (s_ifS (t_cmp (od_ne hu) (s_ofL (l_callT c_lst rfl h_list boot_list (a_cons (s_fn (F_leading_capacities.mono (by decide)) hr rfl (a_cons s_v a_nil) (aLen_cons aLen_nil)) a_nil))) (s_ofL (l_comp (own := [("pair", 21)]) ⟨rfl, sc.nd, (blk_of rfl (by kernel_rfl)), by decide, fun _ _ _ _ _ => (g_n sc.nd), fun _ _ _ _ _ => f_nil, fun _ _ _ _ _ => (s_ix s_v s_int)⟩ (i_seq s_v))))
 (ss_one (s_ret s_bl))
 ss_nil)
 (ss_cons (s_set sc.nd rfl (by first | exact Or.inl rfl | exact Or.inr rfl) (s_fn (F_leading_plans.mono (by decide)) hr rfl (a_cons s_v a_nil) (aLen_cons aLen_nil)))
 (ss_cons (s_set sc.nd rfl (by first | exact Or.inl rfl | exact Or.inr rfl) (s_slice (s_ofL (l_comp (own := [("j", 20)]) ⟨rfl, sc.nd, (blk_of rfl (by kernel_rfl)), by decide, fun _ _ _ _ _ => (g_n sc.nd), fun _ _ _ _ _ => f_nil, fun _ _ _ _ _ => (s_ix s_v s_v)⟩ (i_seq (s_bin od_addX s_v (s_sliceX s_v o_no (o_at s_int)))))) o_no (o_at s_int)))
 (ss_cons (s_set sc.nd rfl (by first | exact Or.inl rfl | exact Or.inr rfl) (s_fn (F_lamp_rows.mono (by decide)) hr rfl (a_cons s_v (a_cons s_v a_nil)) (aLen_cons (aLen_cons aLen_nil))))
 (ss_one (s_ifS (SW.t (w_or (t_cmp od_notN (s_fn (F_judge_lamps.mono (by decide)) hr rfl (a_cons s_v (a_cons s_v a_nil)) (aLen_cons (aLen_cons aLen_nil))) s_non) (w_or1 (t_cmp od_notN (s_fn (F__law_lamp_fault.mono (by decide)) hr rfl (a_cons s_v (a_cons s_v a_nil)) (aLen_cons (aLen_cons aLen_nil))) s_non))))
 (ss_one (s_ret s_bl))
 ss_nil)))))))))))))))))))
 (ss_one (s_ret s_bl)))
end GW
end

local macro_rules | `(tactic| simp_arith [$ls,*]) => `(tactic| simp only [↓GH.wp_ret, ↓GH.wp_lift, ↓GH.sm_some, ↓GH.sm_map, ↓GH.sm_bind, ↓GH.ifB_tt, ↓GH.ifB_ff, ↓GH.ifB_dec, ↓GH.ifB_not, ↓GH.nx_nx, ↓GH.nx_ret, ↓GH.nx_brk, ↓GH.nx_cnt, ↓GH.varAt_z, ↓GH.varAt_s, ↓GH.slAt_z, ↓GH.slAt_s, ↓GH.ownAt_z, ↓GH.ownAt_s, ↓GH.setAt_z, ↓GH.setAt_s, ↓GH.frzAt_z, ↓GH.frzAt_s, ↓GH.bor_val, ↓GH.bor_own, ↓GH.bor_ownK, ↓GH.bor_ownT, ↓GH.len_0, ↓GH.len_1, ↓GH.len_2, ↓GH.len_3, ↓GH.len_4, ↓GH.len_5, ↓GH.len_6, ↓GH.isB_bl, ↓GH.isI_int, ↓GH.wp_var, ↓GH.wp_frz, ↓GH.wp_C, ↓GH.wp_bin, ↓GH.wp_un, ↓GH.wp_tst, ↓GH.wp_tru, ↓GH.wp_and2, ↓GH.wp_or2, ↓GH.wp_not1, ↓GH.wp_eAnd, ↓GH.wp_eOr, ↓GH.wp_eIf, ↓GH.wp_chain, ↓GH.wp_aNil, ↓GH.wp_aCons, ↓GH.wp_aStar, ↓GH.wp_tup, ↓GH.wp_disp, ↓GH.wp_lst, ↓GH.wp_call, ↓GH.wp_callL, ↓GH.wp_fn, ↓GH.wp_fld, ↓GH.wp_oNo, ↓GH.wp_oAt, ↓GH.wp_sl, ↓GH.wp_here, ↓GH.wp_putL, ↓GH.wp_app, ↓GH.sm_app, ↓GH.wp_popAt, ↓GH.wp_bor, ↓GH.wp_tBor, ↓GH.isFlat_int, ↓GH.isFlat_bl, ↓GH.isFlat_non, ↓GH.isFlat_str, ↓GH.wp_seq, ↓GH.wp_nx, ↓GH.wp_sRet, ↓GH.wp_sIf, ↓GH.wp_sExpr, ↓GH.wp_asg, ↓GH.wp_gN, ↓GH.wp_gT, ↓GH.wp_gCons, ↓GH.wp_gNil, ↓GH.wp_set, ↓GH.wp_own, ↓GH.wp_aug, ↓GH.sm_aug, ↓GH.wp_ownGet, ↓GH.wp_augIx, ↓GH.wp_sFor, ↓GH.wp_pNil, ↓GH.wp_pVal, ↓GH.wp_pOwn, ↓GH.wp_par, ↓GH.sm_put0, ↓GH.sm_put, ↓GH.wp_iSeq, ↓GH.wp_rg1, ↓GH.wp_rg2, ↓GH.wp_enum, ↓GH.wp_zip2, ↓GH.sm_addI, ↓GH.sm_addT, ↓GH.sm_addL, ↓GH.sm_subI, ↓GH.sm_mulI, ↓GH.sm_mulL, ↓GH.sm_modI, ↓GH.sm_fdivI, ↓GH.sm_ltI, ↓GH.sm_leI, ↓GH.sm_gtI, ↓GH.sm_geI, ↓GH.sm_eqI, ↓GH.sm_neI, ↓GH.sm_notN, ↓GH.sm_ixT, ↓GH.sm_ixL, ↓GH.at_0, ↓GH.at_1, ↓GH.at_2, ↓GH.at_3, ↓GH.at_4, ↓GH.at_map, ↓GH.sm_lenL, ↓GH.sm_lenT, ↓GH.sm_intI, ↓GH.sm_intB, ↓GH.sm_absI, ↓GH.sm_tupL, ↓GH.sm_tupT, ↓GH.sm_lstL, ↓GH.sm_lstT, ↓GH.sm_sumL1, ↓GH.sm_sumT1, ↓GH.sm_sumL, ↓GH.sm_sumT, ↓GH.sm_maxI, ↓GH.sm_maxL1, ↓GH.sm_maxL, ↓GH.sm_anyL, ↓GH.sm_allL, ↓GH.sm_negI, ↓GH.sm_seqL, ↓GH.sm_seqT, ↓GH.sm_slL, ↓GH.sm_slT, ↓GH.sm_truB, ↓GH.sm_truN, ↓GH.sm_truI, ↓GH.sm_truL, ↓GH.sm_truT, ↓GH.sm_inR, ↓GH.sm_inT, ↓GH.sm_inL, ↓GH.sm_ninT, ↓GH.sm_ninL, ↓GH.sm_setL, ↓GH.wp_comp, ↓GH.wp_turn, ↓GH.lp_nx, ↓GH.lp_cnt, ↓GH.lp_brk, ↓GH.lp_ret, ↓GH.outR_ret, ↓GH.outR_nx, ↓GH.ownB_L, ↓GH.ownB_K, ↓GH.ownB_T, ↓GH.wp_nw, ↓GH.wp_nK0, ↓GH.wp_nT0, ↓GH.wp_ownN, ↓GH.wp_dgO, ↓GH.own2_K, ↓GH.own2_T, ↓GH.own2_s, ↓GH.wp_here2, ↓GH.wp_putD, ↓GH.putAt_s, ↓GH.putAt_K, ↓GH.putAt_T, ↓GH.wp_sPutD, ↓GH.sm_keyI, ↓GH.sm_keyS, ↓GH.sm_keysT, ↓GH.sm_dgK, ↓GH.sm_dgT, ↓GH.sm_dninK, ↓GH.sm_dninT, ↓GH.dctAt_KI, ↓GH.dctAt_T, ↓GH.dctAt_s, ↓GH.wp_forD, ↓GH.wp_lSl, ↓GH.sm_lstD, ↓GH.enumP_map, ↓GH.zip2P_map, ↓GH.sm_eqNilI, ↓GH.sm_neNilI, ↓GH.sm_eqIL, ↓GH.sm_neIL, ↓GH.sm_eqIT, ↓GH.sm_neIT, ↓GH.at_snoc, ↓GH.sm_ne3, ↓GH.sm_ne2, ↓GH.sm_srtI, ↓GH.wp_rgV, ↓GH.isR_rng, ↓GH.sm_rng1, ↓GH.wp_ext, ↓GH.sm_extL, GH.isV_none, GH.isV_val, GH.isV_jv, GH.allV_nil, GH.allV_cons, GH.jv_some, GH.jv_none, GH.out_nx, GH.kGet_lkp, GH.lkp_isSome, GH.borF, GH.bor_z, GH.bor_tt, GH.bor_no, GH.clean_nil, GH.clean_cons, GH.cleanAt_s, GH.cleanAt_n, GH.cleanAt_v, GH.cleanAt_j, GH.wipe_nil, GH.wipe_cons, GH.startE_z, GH.startE_n, GH.startE_s, eq_self, Option.isSome_map, List.set_cons_zero, List.set_cons_succ, List.cons_append, List.nil_append, and_true, true_and, and_self, true_implies, implies_true, not_false_eq_true, not_true_eq_false, false_implies, Option.some.injEq, List.contains_cons, List.contains_nil, Nat.reduceBEq, Bool.or_false, Bool.or_true, Bool.false_or, Bool.true_or, Nat.zero_add, Nat.reduceAdd, $ls,*])
local macro_rules | `(tactic| simp_all_arith [$ls,*]) => `(tactic| simp only [↓GH.wp_ret, ↓GH.wp_lift, ↓GH.sm_some, ↓GH.sm_map, ↓GH.sm_bind, ↓GH.ifB_tt, ↓GH.ifB_ff, ↓GH.ifB_dec, ↓GH.ifB_not, ↓GH.nx_nx, ↓GH.nx_ret, ↓GH.nx_brk, ↓GH.nx_cnt, ↓GH.varAt_z, ↓GH.varAt_s, ↓GH.slAt_z, ↓GH.slAt_s, ↓GH.ownAt_z, ↓GH.ownAt_s, ↓GH.setAt_z, ↓GH.setAt_s, ↓GH.frzAt_z, ↓GH.frzAt_s, ↓GH.bor_val, ↓GH.bor_own, ↓GH.bor_ownK, ↓GH.bor_ownT, ↓GH.len_0, ↓GH.len_1, ↓GH.len_2, ↓GH.len_3, ↓GH.len_4, ↓GH.len_5, ↓GH.len_6, ↓GH.isB_bl, ↓GH.isI_int, ↓GH.wp_var, ↓GH.wp_frz, ↓GH.wp_C, ↓GH.wp_bin, ↓GH.wp_un, ↓GH.wp_tst, ↓GH.wp_tru, ↓GH.wp_and2, ↓GH.wp_or2, ↓GH.wp_not1, ↓GH.wp_eAnd, ↓GH.wp_eOr, ↓GH.wp_eIf, ↓GH.wp_chain, ↓GH.wp_aNil, ↓GH.wp_aCons, ↓GH.wp_aStar, ↓GH.wp_tup, ↓GH.wp_disp, ↓GH.wp_lst, ↓GH.wp_call, ↓GH.wp_callL, ↓GH.wp_fn, ↓GH.wp_fld, ↓GH.wp_oNo, ↓GH.wp_oAt, ↓GH.wp_sl, ↓GH.wp_here, ↓GH.wp_putL, ↓GH.wp_app, ↓GH.sm_app, ↓GH.wp_popAt, ↓GH.wp_bor, ↓GH.wp_tBor, ↓GH.isFlat_int, ↓GH.isFlat_bl, ↓GH.isFlat_non, ↓GH.isFlat_str, ↓GH.wp_nx, ↓GH.wp_sRet, ↓GH.wp_sIf, ↓GH.wp_sExpr, ↓GH.wp_asg, ↓GH.wp_gN, ↓GH.wp_gT, ↓GH.wp_gCons, ↓GH.wp_gNil, ↓GH.wp_set, ↓GH.wp_own, ↓GH.wp_aug, ↓GH.sm_aug, ↓GH.wp_ownGet, ↓GH.wp_augIx, ↓GH.wp_sFor, ↓GH.wp_pNil, ↓GH.wp_pVal, ↓GH.wp_pOwn, ↓GH.wp_par, ↓GH.sm_put0, ↓GH.sm_put, ↓GH.wp_iSeq, ↓GH.wp_rg1, ↓GH.wp_rg2, ↓GH.wp_enum, ↓GH.wp_zip2, ↓GH.sm_addI, ↓GH.sm_addT, ↓GH.sm_addL, ↓GH.sm_subI, ↓GH.sm_mulI, ↓GH.sm_mulL, ↓GH.sm_modI, ↓GH.sm_fdivI, ↓GH.sm_ltI, ↓GH.sm_leI, ↓GH.sm_gtI, ↓GH.sm_geI, ↓GH.sm_eqI, ↓GH.sm_neI, ↓GH.sm_notN, ↓GH.sm_ixT, ↓GH.sm_ixL, ↓GH.at_0, ↓GH.at_1, ↓GH.at_2, ↓GH.at_3, ↓GH.at_4, ↓GH.at_map, ↓GH.sm_lenL, ↓GH.sm_lenT, ↓GH.sm_intI, ↓GH.sm_intB, ↓GH.sm_absI, ↓GH.sm_tupL, ↓GH.sm_tupT, ↓GH.sm_lstL, ↓GH.sm_lstT, ↓GH.sm_sumL1, ↓GH.sm_sumT1, ↓GH.sm_sumL, ↓GH.sm_sumT, ↓GH.sm_maxI, ↓GH.sm_maxL1, ↓GH.sm_maxL, ↓GH.sm_anyL, ↓GH.sm_allL, ↓GH.sm_negI, ↓GH.sm_seqL, ↓GH.sm_seqT, ↓GH.sm_slL, ↓GH.sm_slT, ↓GH.sm_truB, ↓GH.sm_truN, ↓GH.sm_truI, ↓GH.sm_truL, ↓GH.sm_truT, ↓GH.sm_inR, ↓GH.sm_inT, ↓GH.sm_inL, ↓GH.sm_ninT, ↓GH.sm_ninL, ↓GH.sm_setL, ↓GH.wp_comp, ↓GH.wp_turn, ↓GH.lp_nx, ↓GH.lp_cnt, ↓GH.lp_brk, ↓GH.lp_ret, ↓GH.outR_ret, ↓GH.outR_nx, ↓GH.ownB_L, ↓GH.ownB_K, ↓GH.ownB_T, ↓GH.wp_nw, ↓GH.wp_nK0, ↓GH.wp_nT0, ↓GH.wp_ownN, ↓GH.wp_dgO, ↓GH.own2_K, ↓GH.own2_T, ↓GH.own2_s, ↓GH.wp_here2, ↓GH.wp_putD, ↓GH.putAt_s, ↓GH.putAt_K, ↓GH.putAt_T, ↓GH.wp_sPutD, ↓GH.sm_keyI, ↓GH.sm_keyS, ↓GH.sm_keysT, ↓GH.sm_dgK, ↓GH.sm_dgT, ↓GH.sm_dninK, ↓GH.sm_dninT, ↓GH.dctAt_KI, ↓GH.dctAt_T, ↓GH.dctAt_s, ↓GH.wp_forD, ↓GH.wp_lSl, ↓GH.sm_lstD, ↓GH.enumP_map, ↓GH.zip2P_map, ↓GH.sm_eqNilI, ↓GH.sm_neNilI, ↓GH.sm_eqIL, ↓GH.sm_neIL, ↓GH.sm_eqIT, ↓GH.sm_neIT, ↓GH.at_snoc, ↓GH.sm_ne3, ↓GH.sm_ne2, ↓GH.sm_srtI, ↓GH.wp_rgV, ↓GH.isR_rng, ↓GH.sm_rng1, ↓GH.wp_ext, ↓GH.sm_extL, GH.isV_none, GH.isV_val, GH.isV_jv, GH.allV_nil, GH.allV_cons, GH.jv_some, GH.jv_none, GH.out_nx, GH.kGet_lkp, GH.lkp_isSome, GH.borF, GH.bor_z, GH.bor_tt, GH.bor_no, GH.clean_nil, GH.clean_cons, GH.cleanAt_s, GH.cleanAt_n, GH.cleanAt_v, GH.cleanAt_j, GH.wipe_nil, GH.wipe_cons, GH.startE_z, GH.startE_n, GH.startE_s, eq_self, Option.isSome_map, List.set_cons_zero, List.set_cons_succ, List.cons_append, List.nil_append, and_true, true_and, and_self, true_implies, implies_true, not_false_eq_true, not_true_eq_false, false_implies, Option.some.injEq, List.contains_cons, List.contains_nil, Nat.reduceBEq, Bool.or_false, Bool.or_true, Bool.false_or, Bool.true_or, Nat.zero_add, Nat.reduceAdd, $ls,*])
local macro_rules | `(tactic| simp_all_arith) => `(tactic| simp_all_arith [and_true])
local macro_rules | `(tactic| simp_arith! [$ls,*]) => `(tactic| (refine GH.fn_val ?_; simp only [GH.startE_s, GH.startE_n, GH.startE_z, $ls,*]; simp_arith [$ls,*]))
local macro_rules | `(tactic| simp_arith) => `(tactic| simp_arith [and_true])
noncomputable section
namespace GW
open GH
theorem rngL0 (L : Int) : rngL 0 L = (List.range L.toNat).map fun i => D.int ((i : Nat) : Int) := by unfold rngL; simp
theorem ixN_of {n : Nat} {i : Int} (h : 0 ≤ i) (h2 : i < n) : L2.ixN n i = some i.toNat := by
  unfold L2.ixN; rw [if_pos h, if_pos h2]
theorem erase_perm {α : Type} : ∀ (l : List α) (i : Nat) (h : i < l.length), (l[i] :: l.eraseIdx i).Perm l
  | [], _, h => by simp at h
  | x :: l, 0, _ => by simp
  | x :: l, i + 1, h => by
    have h' : i < l.length := by simpa using h
    have := erase_perm l i h'
    simp only [List.getElem_cons_succ, List.eraseIdx_cons_succ]
    exact (List.Perm.swap x l[i] _).trans (this.cons x)
theorem order_loop (a1 : Option Sl) : ∀ (xs rem : List D) (x3 : Option Sl) (c : Src), xs.length = rem.length → rem.length ≤ 1000 → ∃ (ys : List D) (c' : Src) (y3 : Option Sl), ys.Perm rem ∧
    compF [3] (gN 3) (ret true) (ePopAt 2 (eFn S__law_pick (aCons (eVar 0) (aCons (eBor [2] (eCall lenG (aCons (eVar 2) aNil))) aNil)))) xs ⟨[some (.val .src), a1, some (.own rem), x3], c⟩
      = some (ys, ⟨[some (.val .src), a1, some (.own []), y3], c'⟩)
  | [], rem, x3, c, h, _ => by
    have : rem = [] := List.eq_nil_of_length_eq_zero (by simpa using h.symm)
    subst this
    exact ⟨[], c, x3, .refl _, rfl⟩
  | d :: xs, rem, x3, c, h, hl => by
    simp only [List.length_cons] at h
    let n := rem.length
    obtain ⟨r, c1, hp, h0, hr⟩ := pick_any (n : Int) c (by omega) (by omega)
    have hi : r.toNat < rem.length := by omega
    let y := rem[r.toNat]
    have herase : (rem.eraseIdx r.toNat).length = rem.length - 1 := List.length_eraseIdx_of_lt hi
    obtain ⟨ys, c', y3, hperm, e⟩ := order_loop a1 xs (rem.eraseIdx r.toNat) (some (.val d)) c1 (by rw [herase]; omega) (by omega)
    refine ⟨y :: ys, c', y3, (hperm.cons y).trans (erase_perm rem r.toNat hi), ?_⟩
    let env1 : List (Option Sl) := [some (.val .src), a1, some (.own rem), some (.val d)]
    have hpop : ePopAt 2 (eFn S__law_pick (aCons (eVar 0) (aCons (eBor [2] (eCall lenG (aCons (eVar 2) aNil))) aNil))) ⟨env1, c⟩ = some (y, ⟨[some (.val .src), a1, some (.own (rem.eraseIdx r.toNat)), some (.val d)], c1⟩) := by
      unfold ePopAt
      rw [bnd_eq (a := ()) (s1 := ⟨env1, c⟩) (by rfl)]
      refine (bnd_eq (fn_eq (env := env1) (c0 := c) (ds := [.src, .int (n : Int)]) (by rfl) hp)).trans ?_
      show (match popAtL (.int r) rem with
        | some (d, ds') => some (d, (⟨env1.set 2 (some (.own ds')), c1⟩ : S))
        | none => none) = _
      have hpa : popAtL (.int r) rem = some (y, rem.eraseIdx r.toNat) := by
        show ((L2.ixN rem.length r).bind fun n => if rem.length ≤ PySem.sizeLine then rem[n]?.map fun y => (y, rem.eraseIdx n) else none) = _
        rw [ixN_of h0 hr]
        show (if rem.length ≤ PySem.sizeLine then rem[r.toNat]?.map fun y => (y, rem.eraseIdx r.toNat) else none) = _
        rw [if_pos (sz _ (by omega)), List.getElem?_eq_getElem hi]
        rfl
      rw [hpa]
      rfl
    have hstep : cStep [3] (gN 3) (ret true) (ePopAt 2 (eFn S__law_pick (aCons (eVar 0) (aCons (eBor [2] (eCall lenG (aCons (eVar 2) aNil))) aNil)))) d ⟨[some (.val .src), a1, some (.own rem), x3], c⟩
        = some (some y, ⟨[some (.val .src), a1, some (.own (rem.eraseIdx r.toNat)), some (.val d)], c1⟩) := by
      rw [cStep_eq]
      unfold turnC
      refine (bnd_eq (a := ()) (s1 := ⟨env1, c⟩) (by rfl)).trans ?_
      rw [bnd_eq (a := true) (s1 := ⟨env1, c⟩) rfl, if_pos rfl, bnd_eq hpop]
      rfl
    show bnd (cStep _ _ _ _ d) _ _ = _
    rw [bnd_eq hstep, bnd_eq e]
    rfl
theorem order_eq (ds : List D) (c : Src) (hl : ds.length ≤ 1000) : ∃ (ys : List D) (c' : Src), ys.Perm ds ∧ S__law_any_order [.src, .lst ds] c = some (.lst ys, c') := by
  let xs := (List.range ds.length).map fun i : Nat => D.int (i : Int)
  obtain ⟨ys, c', y3, hperm, e⟩ := order_loop (some (.val (.lst ds))) xs ds none c (by simp [xs]) hl
  refine ⟨ys, c', hperm, ?_⟩
  let env0 : List (Option Sl) := [some (.val .src), some (.val (.lst ds)), some (.own ds), none]
  refine fnOf_ret (env := restE env0 [some (.val .src), some (.val (.lst ds)), some (.own []), y3] [3]) ?_
  unfold m__law_any_order
  rw [seq_nx (s1 := ⟨env0, c⟩) (by rfl)]
  refine ret_eq (lst_eq ?_)
  unfold eComp
  have hit : iRg1 (eBor [2] (eCall lenG (aCons (eVar 2) aNil))) ⟨env0, c⟩ = some (xs, ⟨env0, c⟩) := by
    show _ = some ((List.range ds.length).map (fun i : Nat => D.int (i : Int)), _)
    rw [show (List.range ds.length).map (fun i : Nat => D.int (i : Int)) = rngL 0 ((ds.length : Nat) : Int) by rw [rngL0]; rfl]
    unfold iRg1
    exact (bnd_eq (a := .int ((ds.length : Nat) : Int)) (s1 := ⟨env0, c⟩) (by rfl)).trans (by show (if okR ((ds.length : Nat) : Int) then ret (rngL 0 ((ds.length : Nat) : Int)) else fail) _ = _; rw [if_pos (okR_of (by omega) (by omega))]; rfl)
  refine (bnd_eq hit).trans ?_
  show (if xs.length ≤ PySem.sizeLine then (match compF [3] (gN 3) (ret true) (ePopAt 2 (eFn S__law_pick (aCons (eVar 0) (aCons (eBor [2] (eCall lenG (aCons (eVar 2) aNil))) aNil)))) xs ⟨env0, c⟩ with
    | some (ys, sn) => some (ys, { sn with env := restE env0 sn.env [3] })
    | none => none) else none) = _
  rw [if_pos (sz _ (by simp [xs]; omega)), e]
theorem okR_of {L : Int} (h : 0 ≤ L) (h2 : L ≤ 100000) : okR L := ⟨by omega, by omega⟩
def eN (o : Option Int) : D := match o with | none => .non | some t => .int t
def eMv (m : Int × Option Int) : D := .tup [.int m.1, eN m.2]
def eCx (x : Int × Int × Int × Int) : D := .tup [.int x.1, .int x.2.1, .int x.2.2.1, .int x.2.2.2]
structure Cr where
  mv : List (Int × Option Int)
  cx : List (Int × Int × Int × Int)
  len : Int
def eCr (c : Cr) : D := .tup [.tup (c.mv.map eMv), .tup (c.cx.map eCx), .int c.len]
def MvOk (n : Int) (m : Int × Option Int) : Prop := 0 ≤ m.1 ∧ m.1 < n ∧ ∀ t, m.2 = some t → 0 ≤ t ∧ t < n ∧ t ≠ m.1
def CxOk (k : Int) (x : Int × Int × Int × Int) : Prop := 0 ≤ x.1 ∧ x.1 < x.2.1 ∧ x.2.1 < k ∧ 0 ≤ x.2.2.1 ∧ x.2.2.1 ≤ 2 ∧ 0 ≤ x.2.2.2 ∧ x.2.2.2 ≤ 2
structure CrOk (n : Int) (c : Cr) : Prop where
  mv : ∀ m ∈ c.mv, MvOk n m
  nd : c.mv.Nodup
  ne : c.mv ≠ []
  le : c.mv.length ≤ 4
  cx : ∀ x ∈ c.cx, CxOk c.mv.length x
  len : 3 ≤ c.len ∧ c.len ≤ 8
  cxl : c.cx.length ≤ 16
theorem eN_okN (o : Option Int) : (eN o).okN 0 := by
  cases o with
  | none => exact (⟨rfl, by simp [D.py, PySem.PyData.depth]⟩ : D.okN 0 .non)
  | some t => exact D.okN_int t
theorem eMv_okN (m : Int × Option Int) : (eMv m).okN 1 := D.okN_tup fun d hd => by
  simp at hd; rcases hd with rfl | rfl
  · exact D.okN_int _
  · exact eN_okN _
theorem eN_inj {a b : Option Int} : eN a = eN b ↔ a = b := by
  cases a <;> cases b <;> simp [eN]
theorem eMv_inj {a b : Int × Option Int} : eMv a = eMv b ↔ a = b := by
  obtain ⟨a1, a2⟩ := a; obtain ⟨b1, b2⟩ := b
  simp [eMv, eN_inj]
theorem memD_map {α : Type} [DecidableEq α] {enc : α → D} {k : Nat} (ho : ∀ x, (enc x).okN k) (hi : ∀ a b, enc a = enc b ↔ a = b) (x : α) : ∀ xs : List α, memD (enc x) (xs.map enc) = decide (x ∈ xs)
  | [] => by simp [memD, D.pys]
  | y :: xs => by
    have ih := memD_map ho hi x xs
    unfold memD at ih ⊢
    rw [List.map_cons]
    simp only [D.pys, List.any_cons]
    rw [ih]
    have h := D.eqv_nice (enc y) (enc x) (ho y).1 (ho x).1
    by_cases e : x = y
    · subst e; rw [h.mpr rfl]; simp
    · have : PySem.PyData.eqv (enc y).py (enc x).py = false := by
        cases q : PySem.PyData.eqv (enc y).py (enc x).py with
        | false => rfl
        | true => exact absurd ((hi y x).mp (h.mp q)).symm e
      rw [this]; simp [e]
theorem okIn_map {α : Type} {enc : α → D} {k : Nat} (hk : k + 1 ≤ 64) (ho : ∀ x, (enc x).okN k) (x : α) (xs : List α) : okIn (enc x) (xs.map enc) := by
  have h : (D.lst (xs.map enc)).okN (k + 1) := D.okN_lst fun d hd => by
    obtain ⟨x, _, rfl⟩ := List.mem_map.mp hd
    exact ho x
  refine ⟨((ho x).ok (by omega)).shaped, by simpa only [D.py] using (h.ok hk).shaped, ?_⟩
  have := D.nice_can _ h.1
  simpa only [D.py, PySem.PyData.canLay0] using this
theorem sm_ninG {α : Type} [DecidableEq α] {enc : α → D} {k : Nat} (hk : k + 1 ≤ 64) (ho : ∀ x, (enc x).okN k) (hi : ∀ a b, enc a = enc b ↔ a = b) {x : α} {xs : List α} [inst : Decidable (x ∈ xs)] {P : D → Prop} : Sm (ninD (enc x) (.lst (xs.map enc))) P ↔ P (.bl (!decide (x ∈ xs))) := by
  have e : ninD (enc x) (.lst (xs.map enc)) = if okIn (enc x) (xs.map enc) then some (D.bl (!memD (enc x) (xs.map enc))) else none := by
    unfold ninD; split <;> simp_all
  rw [e, if_pos (okIn_map hk ho x xs), sm_some, memD_map ho hi]
  have : ∀ (i1 i2 : Decidable (x ∈ xs)), @decide _ i1 = @decide _ i2 := fun i1 i2 => by rw [Subsingleton.elim i1 i2]
  rw [this _ inst]
theorem sm_ninMv {q : Int} {o : Option Int} {ms : List (Int × Option Int)} {P : D → Prop} : Sm (ninD (.tup [.int q, eN o]) (.lst (ms.map eMv))) P ↔ P (.bl (!decide ((q, o) ∈ ms))) := sm_ninG (enc := eMv) (x := (q, o)) (k := 1) (by decide) eMv_okN fun _ _ => eMv_inj

end GW
end

noncomputable section
namespace GW
open GH
theorem crossing_cl (n L : Int) (mine : List Int) (c : Src) (hn : 1 ≤ n) (hn2 : n ≤ 1000) (hm : mine ≠ []) (hm2 : mine.length ≤ 500) (hq : ∀ q ∈ mine, 0 ≤ q ∧ q < n) (hL : 3 ≤ L) (hL2 : L ≤ 8) :
    Cl S__law_draw_crossing [.src, .int n, .lst (mine.map D.int), .int L] c fun d _ => ∃ cr, CrOk n cr ∧ (∀ m ∈ cr.mv, m.1 ∈ mine) ∧ d = eCr cr := by
  refine fn_cl ?_
  simp only [startE_s, startE_n, startE_z, m__law_draw_crossing]
  simp_arith
  refine wp_for (fun done _ st => ∃ (ms : List (Int × Option Int)) (x5 x6 x7 x8 : Option D) (c : Src), st = ⟨[some (.val .src), some (.val (.int n)), some (.val (.lst (mine.map D.int))), some (.val (.int L)), some (.own (ms.map eMv)), jv x5, jv x6, jv x7, jv x8, none, none, none, none], c⟩
    ∧ (∀ m ∈ ms, m.1 ∈ mine ∧ MvOk n m) ∧ ms.Nodup ∧ ms.length ≤ 2 * done.length ∧ (done ≠ [] → ms ≠ [])) ⟨[], none, none, none, none, c, rfl, by simp, List.nodup_nil, by simp, by simp⟩ ?_ ?_
  · rintro done q rest _ hx ⟨ms, x5, x6, x7, x8, c, rfl, h1, h2, h3, h4⟩
    have hqm : q ∈ mine := by rw [hx]; simp
    have hq' := hq q hqm
    have hdl : done.length + 1 ≤ 500 := by have := congrArg List.length hx; simp at this; omega
    simp_arith
    refine ⟨okR_of (by omega) (by omega), ?_⟩
    refine wp_compF (fun i : Nat => !decide ((i : Int) = q)) (fun i : Nat => D.int (i : Int)) (by simp; omega) (by simp_arith) (fun x _ => by simp_arith; refine ⟨fun h => ?_, fun h => ?_⟩ <;> simp_all) ?_
    simp_arith
    refine ⟨by simp; have := List.length_filter_le (fun i : Nat => !decide ((i : Int) = q)) (List.range n.toNat); simp at this; omega, ?_⟩
    let ws : List (Option Int) := none :: ((List.range n.toNat).filter fun i : Nat => !decide ((i : Int) = q)).map fun i : Nat => some (i : Int)
    have hwl : 1 ≤ ws.length ∧ ws.length ≤ 1001 := by
      have := List.length_filter_le (fun i : Nat => !decide ((i : Int) = q)) (List.range n.toNat)
      simp only [List.length_range] at this
      simp only [ws, List.length_cons, List.length_map]; omega
    have hws : ∀ o ∈ ws, ∀ t, o = some t → 0 ≤ t ∧ t < n ∧ t ≠ q := by
      intro o ho t e
      subst e
      rcases List.mem_cons.mp ho with h | h
      · simp at h
      · obtain ⟨i, hi, e⟩ := List.mem_map.mp h
        obtain ⟨hi1, hi2⟩ := List.mem_filter.mp hi
        have := List.mem_range.mp hi1
        simp at hi2 e
        omega
    have ew : D.non :: List.map (fun i : Nat => D.int (i : Int)) (List.filter (fun i : Nat => !decide ((i : Int) = q)) (List.range n.toNat)) = ws.map eN := by
      simp only [ws, List.map_cons, List.map_map]; rfl
    rw [ew]
    refine cl_pick (by decide) (by decide) fun r c1 hr hr' => ?_
    simp_arith
    have hk : ∃ k : Nat, (1 + (if decide (r = 0) = true then (1 : Int) else 0)) = (k : Int) ∧ 1 ≤ k ∧ k ≤ 2 := by
      by_cases h : r = 0
      · exact ⟨2, by simp [h], by omega, by omega⟩
      · exact ⟨1, by simp [h], by omega, by omega⟩
    obtain ⟨k, hk, hk1, hk2⟩ := hk
    rw [hk]
    refine ⟨okR_of (by omega) (by omega), ?_⟩
    refine wp_for (fun done2 _ st => ∃ (ms : List (Int × Option Int)) (x7 x8 : Option D) (c : Src), st = ⟨[some (.val .src), some (.val (.int n)), some (.val (.lst (mine.map D.int))), some (.val (.int L)), some (.own (ms.map eMv)), some (.val (.int q)), some (.val (.lst (ws.map eN))), jv x7, jv x8, none, none, none, none], c⟩
      ∧ (∀ m ∈ ms, m.1 ∈ mine ∧ MvOk n m) ∧ ms.Nodup ∧ ms.length ≤ 2 * done.length + done2.length ∧ (done2 ≠ [] → ms ≠ [])) ⟨ms, x7, x8, c1, rfl, h1, h2, by simpa using h3, by simp⟩ ?_ ?_
    · rintro done2 z rest2 _ hx2 ⟨ms, x7, x8, c, rfl, h1, h2, h3, h4⟩
      have hdl2 : done2.length + 1 ≤ 2 := by have := congrArg List.length hx2; simp at this; omega
      simp_arith [List.length_map]
      refine cl_pick (by omega) (by omega) fun r2 c2 hr2 hr2' => ?_
      simp_arith [at_nth hr2 hr2', sm_ninMv]
      refine ⟨fun hi => ?_, fun hni => ⟨by simp; omega, ?_⟩⟩
      rotate_left
      · refine ⟨ms ++ [(q, nth ws r2)], some (.int z), some (.tup [.int q, eN (nth ws r2)]), c2, ?_, ?_, ?_, ?_, ?_⟩
        · simp only [List.map_append, List.map_cons, List.map_nil]; rfl
        · intro m hm'
          rcases List.mem_append.mp hm' with h | h
          · exact h1 m h
          · simp at h; subst h
            exact ⟨hqm, hq'.1, hq'.2, fun t e => hws _ (nth_mem hr2 hr2') t e⟩
        · rw [List.nodup_append]
          refine ⟨h2, by simp, fun a ha b hb => ?_⟩
          simp at hb; subst hb
          intro e; subst e
          simp [ha] at hni
        · simp; omega
        · simp
      · refine ⟨ms, some _, some _, _, rfl, h1, h2, by simp; omega, fun _ e => ?_⟩
        rw [e] at hi; simp at hi
    · rintro _ ⟨ms, x7, x8, c, rfl, h1, h2, h3, h4⟩
      simp only [List.length_range] at h3
      refine ⟨ms, some _, some _, x7, x8, c, rfl, h1, h2, by simp; omega, fun _ => h4 fun e => ?_⟩
      have := congrArg List.length e; simp at this; omega
  · rintro _ ⟨ms, x5, x6, x7, x8, c, rfl, h1, h2, h3, h4⟩
    obtain ⟨ys, c1, hperm, ho⟩ := order_eq (ms.map eMv) c (by simp; omega)
    obtain ⟨zs, hz, rfl⟩ := perm_map_inv (f := eMv) hperm ms rfl
    simp_arith [cl_eq ho, cutL_to (show (0 : Int) ≤ 4 by decide), List.length_map, ← List.map_take]
    let mv := zs.take 4
    have hmv : zs.take (4 : Int).toNat = mv := rfl
    rw [hmv]
    have hmv1 : mv.length ≤ 4 := by simp only [mv, List.length_take]; omega
    have hmv2 : ∀ m ∈ mv, m ∈ ms := fun m h => hz.mem_iff.mp (List.mem_of_mem_take h)
    have hmv3 : mv.Nodup := (hz.nodup_iff.mpr h2).sublist (List.take_sublist 4 zs)
    have hmv4 : mv ≠ [] := by
      intro e
      have h5 : ms.length = zs.length := hz.length_eq.symm
      have h6 : ms ≠ [] := h4 hm
      have h7 : 0 < ms.length := List.length_pos_iff.mpr h6
      have := congrArg List.length e
      simp only [mv, List.length_take, List.length_nil] at this
      omega
    refine ⟨okR_of (by omega) (by omega), ?_⟩
    rw [Int.toNat_natCast]
    refine wp_for (fun done _ st => ∃ (cx : List (Int × Int × Int × Int)) (x10 x11 : Option D) (c : Src), st = ⟨[some (.val .src), some (.val (.int n)), some (.val (.lst (mine.map D.int))), some (.val (.int L)), some (.own (mv.map eMv)), jv x5, jv x6, jv x7, jv x8, some (.own (cx.map eCx)), jv x10, jv x11, none], c⟩
      ∧ (∀ x ∈ cx, CxOk mv.length x) ∧ cx.length ≤ 4 * done.length) ⟨[], none, none, c1, rfl, by simp, by simp⟩ ?_ ?_
    · rintro done i rest _ hx ⟨cx, x10, x11, c, rfl, g1, g2⟩
      simp only [List.length_map] at hx
      have hi : i < mv.length := by
        have : i ∈ List.range mv.length := by rw [hx]; simp
        exact List.mem_range.mp this
      have hdl : done.length + 1 ≤ 4 := by have := congrArg List.length hx; simp at this; omega
      simp_arith [List.length_map]
      refine ⟨okR_of (by omega) (by omega), okR_of (by omega) (by omega), ?_⟩
      refine wp_for (fun done2 _ st => ∃ (cx : List (Int × Int × Int × Int)) (x11 : Option D) (c : Src), st = ⟨[some (.val .src), some (.val (.int n)), some (.val (.lst (mine.map D.int))), some (.val (.int L)), some (.own (mv.map eMv)), jv x5, jv x6, jv x7, jv x8, some (.own (cx.map eCx)), some (.val (.int i)), jv x11, none], c⟩
        ∧ (∀ x ∈ cx, CxOk mv.length x) ∧ cx.length ≤ 4 * done.length + done2.length) ⟨cx, x11, c, rfl, g1, by simpa using g2⟩ ?_ ?_
      · rintro done2 j rest2 _ hx2 ⟨cx, x11, c, rfl, g1, g2⟩
        simp only [List.length_map] at hx2
        have hj : j < ((mv.length : Int) - (i + 1)).toNat := by
          have : j ∈ List.range ((mv.length : Int) - (i + 1)).toNat := by rw [hx2]; simp
          exact List.mem_range.mp this
        have hdl2 : done2.length + 1 ≤ 4 := by have := congrArg List.length hx2; simp at this; omega
        simp_arith
        refine cl_pick (by decide) (by decide) fun r1 c1 hr1 hr1' => ?_
        simp_arith
        refine ⟨fun _ => cl_pick (by decide) (by decide) fun r2 c2 hr2 hr2' => ?_, fun _ => ?_⟩
        · simp_arith
          refine cl_pick (by decide) (by decide) fun r3 c3 hr3 hr3' => ?_
          simp_arith
          refine ⟨by simp; omega, cx ++ [((i : Int), (i : Int) + 1 + j, r2, r3)], some (.int ((i : Int) + 1 + j)), c3, ?_, ?_, ?_⟩
          · simp only [List.map_append, List.map_cons, List.map_nil]; rfl
          · intro x hx'
            rcases List.mem_append.mp hx' with h | h
            · exact g1 x h
            · simp at h; subst h
              unfold CxOk
              simp only
              omega
          · simp; omega
        · exact ⟨cx, some _, _, rfl, g1, by simp; omega⟩
      · rintro _ ⟨cx, x11, c, rfl, g1, g2⟩
        refine ⟨cx, some _, x11, c, rfl, g1, ?_⟩
        simp only [List.length_range, List.length_map] at g2
        simp; omega
    · rintro _ ⟨cx, x10, x11, c, rfl, g1, g2⟩
      simp_arith
      have hg : cx.length ≤ 16 := by simp only [List.length_range, List.length_map] at g2; omega
      exact ⟨⟨mv, cx, L⟩, ⟨fun m h => (h1 m (hmv2 m h)).2, hmv3, hmv4, hmv1, g1, ⟨hL, hL2⟩, hg⟩, fun m h => (h1 m (hmv2 m h)).1, rfl⟩
end GW
end

noncomputable section
namespace GW
open GH
def eL (l : List Int) : D := .lst (l.map D.int)
theorem wp_mid' {a b : M Out} {s : S} {Q : Out → S → Prop} (R : S → Prop) (h : Wp a s fun o s1 => (o = .nx ∧ R s1) ∨ ∃ d, o = .ret d ∧ Q (.ret d) s1) (h2 : ∀ s1, R s1 → Wp b s1 Q) : Wp (sSeq a b) s Q :=
  wp_seq.mpr (h.mono fun o s1 z => by
    rcases z with ⟨e, r⟩ | ⟨d, e, q⟩
    · subst e; exact h2 s1 r
    · subst e; exact q)
def eR (rows : List (List Int)) : D := .tup (rows.map eT)
theorem sm_lenE {l : List Int} {P : D → Prop} : Sm (lenG [eT l]) P ↔ P (.int l.length) := by unfold eT; rw [sm_lenT, List.length_map]
theorem sm_seqE {l : List Int} {P : List D → Prop} : Sm (seqD (eT l)) P ↔ P (l.map D.int) := sm_some
theorem sm_ixE {l : List Int} {j : Int} {P : D → Prop} : Sm (ixD (eT l) (.int j)) P ↔ Sm (L2.atI l j) fun x => P (.int x) := by unfold eT; rw [sm_ixT, at_map]
theorem sm_tupE {l : List Int} {P : D → Prop} : Sm (tupG [.lst (l.map D.int)]) P ↔ P (eT l) := sm_some
theorem sm_tupEE {l : List Int} {P : D → Prop} : Sm (tupG [eT l]) P ↔ P (eT l) := sm_some
theorem sm_slE {l : List Int} {a b : Option Int} {P : D → Prop} : Sm (slD a b (eT l)) P ↔ P (eT (cutL l a b)) := by unfold eT; rw [sm_slT, cutL_map]
theorem sm_addE {a b : List Int} {P : D → Prop} : Sm (addD (eT a) (eT b)) P ↔ a.length + b.length ≤ 16777216 ∧ P (eT (a ++ b)) := by unfold eT; rw [sm_addT, List.map_append, List.length_map, List.length_map]
theorem sm_lenR {l : List (List Int)} {P : D → Prop} : Sm (lenG [eR l]) P ↔ P (.int l.length) := by unfold eR; rw [sm_lenT, List.length_map]
theorem sm_seqR {l : List (List Int)} {P : List D → Prop} : Sm (seqD (eR l)) P ↔ P (l.map eT) := sm_some
theorem sm_ixR {l : List (List Int)} {j : Int} {P : D → Prop} : Sm (ixD (eR l) (.int j)) P ↔ Sm (L2.atI l j) fun x => P (eT x) := by unfold eR; rw [sm_ixT, at_map]
theorem sm_tupR {l : List (List Int)} {P : D → Prop} : Sm (tupG [.lst (l.map eT)]) P ↔ P (eR l) := sm_some
theorem sm_slR {l : List (List Int)} {a b : Option Int} {P : D → Prop} : Sm (slD a b (eR l)) P ↔ P (eR (cutL l a b)) := by unfold eR; rw [sm_slT, cutL_map]
theorem sm_addR {a b : List (List Int)} {P : D → Prop} : Sm (addD (eR a) (eR b)) P ↔ a.length + b.length ≤ 16777216 ∧ P (eR (a ++ b)) := by unfold eR; rw [sm_addT, List.map_append, List.length_map, List.length_map]
theorem wp_find {α : Type} {enc : α → D} {xs : List α} {g : D → M Unit} {b : M Out} {s : S} {Q : Out → S → Prop} (f : α → Option D) (I : List α → S → Prop) (E : S → Prop) (h0 : I [] s)
    (hs : ∀ done x rest s, xs = done ++ x :: rest → I done s → Wp (g (enc x)) s fun _ s1 => Wp b s1 fun o s2 => (o = .nx ∧ f x = none ∧ I (done ++ [x]) s2) ∨ (∃ d, o = .ret d ∧ f x = some d ∧ E s2))
    (hn : ∀ s, I xs s → xs.findSome? f = none → Q .nx s) (hr : ∀ d s, E s → xs.findSome? f = some d → Q (.ret d) s) : Wp (GH.forM g b (xs.map enc)) s Q := by
  refine wp_for (fun done _ st => I done st ∧ ∀ y ∈ done, f y = none) ⟨h0, by simp⟩ ?_ ?_
  · rintro done x rest s e ⟨hi, hd⟩
    refine (hs done x rest s e hi).mono fun _ s1 h1 => h1.mono fun o s2 h2 => ?_
    rcases h2 with ⟨rfl, h3, h4⟩ | ⟨d, rfl, h3, h4⟩
    · refine lp_nx.mpr ⟨h4, fun y hy => ?_⟩
      rcases List.mem_append.mp hy with z | z
      · exact hd y z
      · simp at z; subst z; exact h3
    · refine lp_ret.mpr (hr d s2 h4 ?_)
      rw [e, List.findSome?_append, List.findSome?_cons, h3]
      rw [List.findSome?_eq_none_iff.mpr hd]; rfl
  · rintro s ⟨hi, hd⟩
    exact hn s hi (List.findSome?_eq_none_iff.mpr hd)
end GW
end

local macro_rules | `(tactic| simp_arith [$ls,*]) => `(tactic| simp only [↓GW.sm_lenE, ↓GW.sm_seqE, ↓GW.sm_ixE, ↓GW.sm_tupE, ↓GW.sm_tupEE, ↓GW.sm_slE, ↓GW.sm_addE, ↓GW.sm_lenR, ↓GW.sm_seqR, ↓GW.sm_ixR, ↓GW.sm_tupR, ↓GW.sm_slR, ↓GW.sm_addR, ↓GH.wp_ret, ↓GH.wp_lift, ↓GH.sm_some, ↓GH.sm_map, ↓GH.sm_bind, ↓GH.ifB_tt, ↓GH.ifB_ff, ↓GH.ifB_dec, ↓GH.ifB_not, ↓GH.nx_nx, ↓GH.nx_ret, ↓GH.nx_brk, ↓GH.nx_cnt, ↓GH.varAt_z, ↓GH.varAt_s, ↓GH.slAt_z, ↓GH.slAt_s, ↓GH.ownAt_z, ↓GH.ownAt_s, ↓GH.setAt_z, ↓GH.setAt_s, ↓GH.frzAt_z, ↓GH.frzAt_s, ↓GH.bor_val, ↓GH.bor_own, ↓GH.bor_ownK, ↓GH.bor_ownT, ↓GH.len_0, ↓GH.len_1, ↓GH.len_2, ↓GH.len_3, ↓GH.len_4, ↓GH.len_5, ↓GH.len_6, ↓GH.isB_bl, ↓GH.isI_int, ↓GH.wp_var, ↓GH.wp_frz, ↓GH.wp_C, ↓GH.wp_bin, ↓GH.wp_un, ↓GH.wp_tst, ↓GH.wp_tru, ↓GH.wp_and2, ↓GH.wp_or2, ↓GH.wp_not1, ↓GH.wp_eAnd, ↓GH.wp_eOr, ↓GH.wp_eIf, ↓GH.wp_chain, ↓GH.wp_aNil, ↓GH.wp_aCons, ↓GH.wp_aStar, ↓GH.wp_tup, ↓GH.wp_disp, ↓GH.wp_lst, ↓GH.wp_call, ↓GH.wp_callL, ↓GH.wp_fn, ↓GH.wp_fld, ↓GH.wp_oNo, ↓GH.wp_oAt, ↓GH.wp_sl, ↓GH.wp_here, ↓GH.wp_putL, ↓GH.wp_app, ↓GH.sm_app, ↓GH.wp_popAt, ↓GH.wp_bor, ↓GH.wp_tBor, ↓GH.isFlat_int, ↓GH.isFlat_bl, ↓GH.isFlat_non, ↓GH.isFlat_str, ↓GH.wp_seq, ↓GH.wp_nx, ↓GH.wp_sRet, ↓GH.wp_sIf, ↓GH.wp_sExpr, ↓GH.wp_asg, ↓GH.wp_gN, ↓GH.wp_gT, ↓GH.wp_gCons, ↓GH.wp_gNil, ↓GH.wp_set, ↓GH.wp_own, ↓GH.wp_aug, ↓GH.sm_aug, ↓GH.wp_ownGet, ↓GH.wp_augIx, ↓GH.wp_sFor, ↓GH.wp_pNil, ↓GH.wp_pVal, ↓GH.wp_pOwn, ↓GH.wp_par, ↓GH.sm_put0, ↓GH.sm_put, ↓GH.wp_iSeq, ↓GH.wp_rg1, ↓GH.wp_rg2, ↓GH.wp_enum, ↓GH.wp_zip2, ↓GH.sm_addI, ↓GH.sm_addT, ↓GH.sm_addL, ↓GH.sm_subI, ↓GH.sm_mulI, ↓GH.sm_mulL, ↓GH.sm_modI, ↓GH.sm_fdivI, ↓GH.sm_ltI, ↓GH.sm_leI, ↓GH.sm_gtI, ↓GH.sm_geI, ↓GH.sm_eqI, ↓GH.sm_neI, ↓GH.sm_notN, ↓GH.sm_ixT, ↓GH.sm_ixL, ↓GH.at_0, ↓GH.at_1, ↓GH.at_2, ↓GH.at_3, ↓GH.at_4, ↓GH.at_map, ↓GH.sm_lenL, ↓GH.sm_lenT, ↓GH.sm_intI, ↓GH.sm_intB, ↓GH.sm_absI, ↓GH.sm_tupT, ↓GH.sm_lstL, ↓GH.sm_lstT, ↓GH.sm_sumL1, ↓GH.sm_sumT1, ↓GH.sm_sumL, ↓GH.sm_sumT, ↓GH.sm_maxI, ↓GH.sm_maxL1, ↓GH.sm_maxL, ↓GH.sm_anyL, ↓GH.sm_allL, ↓GH.sm_negI, ↓GH.sm_seqL, ↓GH.sm_seqT, ↓GH.sm_slL, ↓GH.sm_slT, ↓GH.sm_truB, ↓GH.sm_truN, ↓GH.sm_truI, ↓GH.sm_truL, ↓GH.sm_truT, ↓GH.sm_inR, ↓GH.sm_inT, ↓GH.sm_inL, ↓GH.sm_ninT, ↓GH.sm_ninL, ↓GH.sm_setL, ↓GH.wp_comp, ↓GH.wp_turn, ↓GH.lp_nx, ↓GH.lp_cnt, ↓GH.lp_brk, ↓GH.lp_ret, ↓GH.outR_ret, ↓GH.outR_nx, ↓GH.ownB_L, ↓GH.ownB_K, ↓GH.ownB_T, ↓GH.wp_nw, ↓GH.wp_nK0, ↓GH.wp_nT0, ↓GH.wp_ownN, ↓GH.wp_dgO, ↓GH.own2_K, ↓GH.own2_T, ↓GH.own2_s, ↓GH.wp_here2, ↓GH.wp_putD, ↓GH.putAt_s, ↓GH.putAt_K, ↓GH.putAt_T, ↓GH.wp_sPutD, ↓GH.sm_keyI, ↓GH.sm_keyS, ↓GH.sm_keysT, ↓GH.sm_dgK, ↓GH.sm_dgT, ↓GH.sm_dninK, ↓GH.sm_dninT, ↓GH.dctAt_KI, ↓GH.dctAt_T, ↓GH.dctAt_s, ↓GH.wp_forD, ↓GH.wp_lSl, ↓GH.sm_lstD, ↓GH.enumP_map, ↓GH.zip2P_map, ↓GH.sm_eqNilI, ↓GH.sm_neNilI, ↓GH.sm_eqIL, ↓GH.sm_neIL, ↓GH.sm_eqIT, ↓GH.sm_neIT, ↓GH.at_snoc, ↓GH.sm_ne3, ↓GH.sm_ne2, ↓GH.sm_srtI, ↓GH.wp_rgV, ↓GH.isR_rng, ↓GH.sm_rng1, ↓GH.wp_ext, ↓GH.sm_extL, GH.isV_none, GH.isV_val, GH.isV_jv, GH.allV_nil, GH.allV_cons, GH.jv_some, GH.jv_none, GH.out_nx, GH.kGet_lkp, GH.lkp_isSome, GH.borF, GH.bor_z, GH.bor_tt, GH.bor_no, GH.clean_nil, GH.clean_cons, GH.cleanAt_s, GH.cleanAt_n, GH.cleanAt_v, GH.cleanAt_j, GH.wipe_nil, GH.wipe_cons, GH.startE_z, GH.startE_n, GH.startE_s, eq_self, Option.isSome_map, List.set_cons_zero, List.set_cons_succ, List.cons_append, List.nil_append, and_true, true_and, and_self, true_implies, implies_true, not_false_eq_true, not_true_eq_false, false_implies, Option.some.injEq, List.contains_cons, List.contains_nil, Nat.reduceBEq, Bool.or_false, Bool.or_true, Bool.false_or, Bool.true_or, Nat.zero_add, Nat.reduceAdd, $ls,*])
local macro_rules | `(tactic| simp_all_arith [$ls,*]) => `(tactic| simp only [↓GW.sm_lenE, ↓GW.sm_seqE, ↓GW.sm_ixE, ↓GW.sm_tupE, ↓GW.sm_tupEE, ↓GW.sm_slE, ↓GW.sm_addE, ↓GW.sm_lenR, ↓GW.sm_seqR, ↓GW.sm_ixR, ↓GW.sm_tupR, ↓GW.sm_slR, ↓GW.sm_addR, ↓GH.wp_ret, ↓GH.wp_lift, ↓GH.sm_some, ↓GH.sm_map, ↓GH.sm_bind, ↓GH.ifB_tt, ↓GH.ifB_ff, ↓GH.ifB_dec, ↓GH.ifB_not, ↓GH.nx_nx, ↓GH.nx_ret, ↓GH.nx_brk, ↓GH.nx_cnt, ↓GH.varAt_z, ↓GH.varAt_s, ↓GH.slAt_z, ↓GH.slAt_s, ↓GH.ownAt_z, ↓GH.ownAt_s, ↓GH.setAt_z, ↓GH.setAt_s, ↓GH.frzAt_z, ↓GH.frzAt_s, ↓GH.bor_val, ↓GH.bor_own, ↓GH.bor_ownK, ↓GH.bor_ownT, ↓GH.len_0, ↓GH.len_1, ↓GH.len_2, ↓GH.len_3, ↓GH.len_4, ↓GH.len_5, ↓GH.len_6, ↓GH.isB_bl, ↓GH.isI_int, ↓GH.wp_var, ↓GH.wp_frz, ↓GH.wp_C, ↓GH.wp_bin, ↓GH.wp_un, ↓GH.wp_tst, ↓GH.wp_tru, ↓GH.wp_and2, ↓GH.wp_or2, ↓GH.wp_not1, ↓GH.wp_eAnd, ↓GH.wp_eOr, ↓GH.wp_eIf, ↓GH.wp_chain, ↓GH.wp_aNil, ↓GH.wp_aCons, ↓GH.wp_aStar, ↓GH.wp_tup, ↓GH.wp_disp, ↓GH.wp_lst, ↓GH.wp_call, ↓GH.wp_callL, ↓GH.wp_fn, ↓GH.wp_fld, ↓GH.wp_oNo, ↓GH.wp_oAt, ↓GH.wp_sl, ↓GH.wp_here, ↓GH.wp_putL, ↓GH.wp_app, ↓GH.sm_app, ↓GH.wp_popAt, ↓GH.wp_bor, ↓GH.wp_tBor, ↓GH.isFlat_int, ↓GH.isFlat_bl, ↓GH.isFlat_non, ↓GH.isFlat_str, ↓GH.wp_nx, ↓GH.wp_sRet, ↓GH.wp_sIf, ↓GH.wp_sExpr, ↓GH.wp_asg, ↓GH.wp_gN, ↓GH.wp_gT, ↓GH.wp_gCons, ↓GH.wp_gNil, ↓GH.wp_set, ↓GH.wp_own, ↓GH.wp_aug, ↓GH.sm_aug, ↓GH.wp_ownGet, ↓GH.wp_augIx, ↓GH.wp_sFor, ↓GH.wp_pNil, ↓GH.wp_pVal, ↓GH.wp_pOwn, ↓GH.wp_par, ↓GH.sm_put0, ↓GH.sm_put, ↓GH.wp_iSeq, ↓GH.wp_rg1, ↓GH.wp_rg2, ↓GH.wp_enum, ↓GH.wp_zip2, ↓GH.sm_addI, ↓GH.sm_addT, ↓GH.sm_addL, ↓GH.sm_subI, ↓GH.sm_mulI, ↓GH.sm_mulL, ↓GH.sm_modI, ↓GH.sm_fdivI, ↓GH.sm_ltI, ↓GH.sm_leI, ↓GH.sm_gtI, ↓GH.sm_geI, ↓GH.sm_eqI, ↓GH.sm_neI, ↓GH.sm_notN, ↓GH.sm_ixT, ↓GH.sm_ixL, ↓GH.at_0, ↓GH.at_1, ↓GH.at_2, ↓GH.at_3, ↓GH.at_4, ↓GH.at_map, ↓GH.sm_lenL, ↓GH.sm_lenT, ↓GH.sm_intI, ↓GH.sm_intB, ↓GH.sm_absI, ↓GH.sm_tupT, ↓GH.sm_lstL, ↓GH.sm_lstT, ↓GH.sm_sumL1, ↓GH.sm_sumT1, ↓GH.sm_sumL, ↓GH.sm_sumT, ↓GH.sm_maxI, ↓GH.sm_maxL1, ↓GH.sm_maxL, ↓GH.sm_anyL, ↓GH.sm_allL, ↓GH.sm_negI, ↓GH.sm_seqL, ↓GH.sm_seqT, ↓GH.sm_slL, ↓GH.sm_slT, ↓GH.sm_truB, ↓GH.sm_truN, ↓GH.sm_truI, ↓GH.sm_truL, ↓GH.sm_truT, ↓GH.sm_inR, ↓GH.sm_inT, ↓GH.sm_inL, ↓GH.sm_ninT, ↓GH.sm_ninL, ↓GH.sm_setL, ↓GH.wp_comp, ↓GH.wp_turn, ↓GH.lp_nx, ↓GH.lp_cnt, ↓GH.lp_brk, ↓GH.lp_ret, ↓GH.outR_ret, ↓GH.outR_nx, ↓GH.ownB_L, ↓GH.ownB_K, ↓GH.ownB_T, ↓GH.wp_nw, ↓GH.wp_nK0, ↓GH.wp_nT0, ↓GH.wp_ownN, ↓GH.wp_dgO, ↓GH.own2_K, ↓GH.own2_T, ↓GH.own2_s, ↓GH.wp_here2, ↓GH.wp_putD, ↓GH.putAt_s, ↓GH.putAt_K, ↓GH.putAt_T, ↓GH.wp_sPutD, ↓GH.sm_keyI, ↓GH.sm_keyS, ↓GH.sm_keysT, ↓GH.sm_dgK, ↓GH.sm_dgT, ↓GH.sm_dninK, ↓GH.sm_dninT, ↓GH.dctAt_KI, ↓GH.dctAt_T, ↓GH.dctAt_s, ↓GH.wp_forD, ↓GH.wp_lSl, ↓GH.sm_lstD, ↓GH.enumP_map, ↓GH.zip2P_map, ↓GH.sm_eqNilI, ↓GH.sm_neNilI, ↓GH.sm_eqIL, ↓GH.sm_neIL, ↓GH.sm_eqIT, ↓GH.sm_neIT, ↓GH.at_snoc, ↓GH.sm_ne3, ↓GH.sm_ne2, ↓GH.sm_srtI, ↓GH.wp_rgV, ↓GH.isR_rng, ↓GH.sm_rng1, ↓GH.wp_ext, ↓GH.sm_extL, GH.isV_none, GH.isV_val, GH.isV_jv, GH.allV_nil, GH.allV_cons, GH.jv_some, GH.jv_none, GH.out_nx, GH.kGet_lkp, GH.lkp_isSome, GH.borF, GH.bor_z, GH.bor_tt, GH.bor_no, GH.clean_nil, GH.clean_cons, GH.cleanAt_s, GH.cleanAt_n, GH.cleanAt_v, GH.cleanAt_j, GH.wipe_nil, GH.wipe_cons, GH.startE_z, GH.startE_n, GH.startE_s, eq_self, Option.isSome_map, List.set_cons_zero, List.set_cons_succ, List.cons_append, List.nil_append, and_true, true_and, and_self, true_implies, implies_true, not_false_eq_true, not_true_eq_false, false_implies, Option.some.injEq, List.contains_cons, List.contains_nil, Nat.reduceBEq, Bool.or_false, Bool.or_true, Bool.false_or, Bool.true_or, Nat.zero_add, Nat.reduceAdd, $ls,*])
local macro_rules | `(tactic| simp_all_arith) => `(tactic| simp_all_arith [and_true])
local macro_rules | `(tactic| simp_arith! [$ls,*]) => `(tactic| (refine GH.fn_val ?_; simp only [GH.startE_s, GH.startE_n, GH.startE_z, $ls,*]; simp_arith [$ls,*]))
local macro_rules | `(tactic| simp_arith) => `(tactic| simp_arith [and_true])
noncomputable section
namespace GW
open GH
abbrev Mv := Int × Option Int
def eMvs (ms : List Mv) : D := .tup (ms.map eMv)
theorem sm_cr0 {c : Cr} {P : D → Prop} : Sm (ixD (eCr c) (.int 0)) P ↔ P (eMvs c.mv) := by unfold eCr; rw [sm_ixT, at_0]; rfl
theorem sm_cr2 {c : Cr} {P : D → Prop} : Sm (ixD (eCr c) (.int 2)) P ↔ P (.int c.len) := by unfold eCr; rw [sm_ixT, at_2]
theorem sm_seqMvs {ms : List Mv} {P : List D → Prop} : Sm (seqD (eMvs ms)) P ↔ P (ms.map eMv) := sm_some
theorem sm_lenMvs {ms : List Mv} {P : D → Prop} : Sm (lenG [eMvs ms]) P ↔ P (.int ms.length) := by unfold eMvs; rw [sm_lenT, List.length_map]
theorem sm_mv0 {m : Mv} {P : D → Prop} : Sm (ixD (eMv m) (.int 0)) P ↔ P (.int m.1) := by unfold eMv; rw [sm_ixT, at_0]
abbrev C4 := Int × Int × Int × Int
def clr : List C4 → Int → Int → Option Int
  | [], _, _ => none
  | x :: t, i, j => if x.1 = i ∧ x.2.1 = j then some x.2.2.1 else if x.1 = j ∧ x.2.1 = i then some x.2.2.2 else clr t i j
theorem sm_cr1 {c : Cr} {P : D → Prop} : Sm (ixD (eCr c) (.int 1)) P ↔ P (.tup (c.cx.map eCx)) := by unfold eCr; rw [sm_ixT, at_1]
theorem sm_eqPP {a b i j : Int} {P : D → Prop} : Sm (eqD (.tup [.int a, .int b]) (.tup [.int i, .int j])) P ↔ P (.bl (decide (a = i ∧ b = j))) := by
  refine sm_eqG (D.okN_tup (n := 0) ?_).ok (D.okN_tup (n := 0) ?_).ok (by simp) <;> intro d hd <;> simp at hd <;> rcases hd with rfl | rfl <;> exact D.okN_int _
def eP2 (p : Int × Int) : D := .tup [.int p.1, .int p.2]
theorem eP2_okN (p : Int × Int) : (eP2 p).okN 1 := D.okN_tup fun d hd => by
  simp at hd; rcases hd with rfl | rfl <;> exact D.okN_int _
theorem eP2_inj {a b : Int × Int} : eP2 a = eP2 b ↔ a = b := by
  obtain ⟨a1, a2⟩ := a; obtain ⟨b1, b2⟩ := b
  simp [eP2]
theorem sm_inGT {α : Type} [DecidableEq α] {enc : α → D} {k : Nat} (hk : k + 1 ≤ 64) (ho : ∀ x, (enc x).okN k) (hi : ∀ a b, enc a = enc b ↔ a = b) (hr : ∀ x ys, inD (enc x) (.tup ys) = if okIn (enc x) ys then some (D.bl (memD (enc x) ys)) else none) {x : α} {xs : List α} [inst : Decidable (x ∈ xs)] {P : D → Prop} : Sm (inD (enc x) (.tup (xs.map enc))) P ↔ P (.bl (decide (x ∈ xs))) := by
  rw [hr, if_pos (okIn_map hk ho x xs), sm_some, memD_map ho hi]
  have : ∀ (i1 i2 : Decidable (x ∈ xs)), @decide _ i1 = @decide _ i2 := fun i1 i2 => by rw [Subsingleton.elim i1 i2]
  rw [this _ inst]
theorem sm_inPP {x : C4} {i j : Int} {P : D → Prop} : Sm (inD (.tup [.int x.1, .int x.2.1]) (.tup [.tup [.int i, .int j], .tup [.int j, .int i]])) P ↔ P (.bl (decide ((x.1, x.2.1) ∈ [(i, j), (j, i)]))) :=
  sm_inGT (enc := eP2) (x := (x.1, x.2.1)) (xs := [(i, j), (j, i)]) (k := 1) (by decide) eP2_okN (fun _ _ => eP2_inj) (fun _ _ => rfl)
theorem sm_slCx {x : C4} {P : D → Prop} : Sm (slD none (some 2) (eCx x)) P ↔ P (.tup [.int x.1, .int x.2.1]) := by
  unfold eCx; rw [sm_slT, cutL_to (by decide)]; rfl
theorem clr_find {i j : Int} (f : C4 → Option D) (h : ∀ x, f x = if x.1 = i ∧ x.2.1 = j then some (.int x.2.2.1) else if x.1 = j ∧ x.2.1 = i then some (.int x.2.2.2) else none) : ∀ cx : List C4, cx.findSome? f = (clr cx i j).map D.int
  | [] => rfl
  | x :: t => by
    rw [List.findSome?_cons, h x]
    unfold clr
    split
    · rename_i d e
      by_cases h1 : x.1 = i ∧ x.2.1 = j
      · rw [if_pos h1] at e ⊢; cases e; rfl
      · rw [if_neg h1] at e ⊢
        by_cases h2 : x.1 = j ∧ x.2.1 = i
        · rw [if_pos h2] at e ⊢; cases e; rfl
        · rw [if_neg h2] at e; cases e
    · rename_i e
      by_cases h1 : x.1 = i ∧ x.2.1 = j
      · rw [if_pos h1] at e; cases e
      · rw [if_neg h1] at e ⊢
        by_cases h2 : x.1 = j ∧ x.2.1 = i
        · rw [if_pos h2] at e; cases e
        · rw [if_neg h2]; exact clr_find f h t
theorem law_clr_eq (cr : Cr) (i j : Int) (c : Src) : S__law_clearance [eCr cr, .int i, .int j] c = some (eN (clr cr.cx i j), c) := by
  simp_arith! [m__law_clearance, sm_cr1]
  refine wp_find (enc := eCx) (fun x : C4 => if x.1 = i ∧ x.2.1 = j then some (D.int x.2.2.1) else if x.1 = j ∧ x.2.1 = i then some (D.int x.2.2.2) else none) (fun _ s => ∃ x3 x4 x5 x6 : Option D, s = ⟨[some (.val (eCr cr)), some (.val (.int i)), some (.val (.int j)), jv x3, jv x4, jv x5, jv x6], c⟩) (fun s => s.src = c) ⟨none, none, none, none, rfl⟩ ?_ ?_ ?_
  · rintro done ⟨a, b, l, e⟩ rest _ hx ⟨x3, x4, x5, x6, rfl⟩
    simp_arith [eCx, sm_eqPP]
    refine ⟨fun h => .inr ⟨_, rfl, by rw [if_pos h]⟩, fun h => ⟨fun h2 => .inr ⟨_, rfl, by rw [if_neg h, if_pos h2]⟩, fun h2 => .inl ⟨by rw [if_neg h, if_neg h2], some _, some _, some _, some _, rfl⟩⟩⟩
  · rintro _ ⟨x3, x4, x5, x6, rfl⟩ hn
    rw [clr_find _ fun x => rfl, Option.map_eq_none_iff] at hn
    simp_arith [hn, eN]
  · intro d s hs hsome
    rw [clr_find _ fun x => rfl] at hsome
    obtain ⟨v, hv, e⟩ := Option.map_eq_some_iff.mp hsome
    subst e
    simp_arith [hv, eN]
    exact hs
theorem clr_eq (cr : Cr) (i j : Int) (c : Src) : S_clearance [eCr cr, .int i, .int j] c = some (.int ((clr cr.cx i j).getD 0), c) := by
  simp_arith! [m_clearance, sm_cr1]
  refine wp_find (enc := eCx) (fun x : C4 => if x.1 = i ∧ x.2.1 = j then some (D.int x.2.2.1) else if x.1 = j ∧ x.2.1 = i then some (D.int x.2.2.2) else none) (fun _ s => ∃ x3 x4 x5 x6 : Option D, s = ⟨[some (.val (eCr cr)), some (.val (.int i)), some (.val (.int j)), jv x3, jv x4, jv x5, jv x6], c⟩) (fun s => s.src = c) ⟨none, none, none, none, rfl⟩ ?_ ?_ ?_
  · rintro done ⟨a, b, l, e⟩ rest _ hx ⟨x3, x4, x5, x6, rfl⟩
    simp_arith [eCx, sm_eqPP]
    refine ⟨fun h => .inr ⟨_, rfl, by rw [if_pos h]⟩, fun h => ⟨fun h2 => .inr ⟨_, rfl, by rw [if_neg h, if_pos ⟨h2.2, h2.1⟩]⟩, fun h2 => .inl ⟨by rw [if_neg h, if_neg fun z => h2 ⟨z.2, z.1⟩], some _, some _, some _, some _, rfl⟩⟩⟩
  · rintro _ ⟨x3, x4, x5, x6, rfl⟩ hn
    rw [clr_find _ fun x => rfl, Option.map_eq_none_iff] at hn
    simp_arith [hn]
    rfl
  · intro d s hs hsome
    rw [clr_find _ fun x => rfl] at hsome
    obtain ⟨v, hv, e⟩ := Option.map_eq_some_iff.mp hsome
    subst e
    simp_arith [hv]
    exact ⟨rfl, hs⟩
theorem cross_any (i j : Int) : ∀ cx : List C4, (cx.any fun x => decide ((x.1, x.2.1) ∈ [(i, j), (j, i)])) = (clr cx i j).isSome
  | [] => rfl
  | x :: t => by
    rw [List.any_cons, cross_any i j t]
    rw [show clr (x :: t) i j = if x.1 = i ∧ x.2.1 = j then some x.2.2.1 else if x.1 = j ∧ x.2.1 = i then some x.2.2.2 else clr t i j from rfl]
    by_cases h1 : x.1 = i ∧ x.2.1 = j
    · rw [if_pos h1, decide_eq_true (by rw [h1.1, h1.2]; simp)]; rfl
    · rw [if_neg h1]
      by_cases h2 : x.1 = j ∧ x.2.1 = i
      · rw [if_pos h2, decide_eq_true (by rw [h2.1, h2.2]; simp)]; rfl
      · rw [if_neg h2, decide_eq_false (by simp only [List.mem_cons, Prod.mk.injEq, List.not_mem_nil, or_false]; rintro (z | z); exact h1 z; exact h2 z), Bool.false_or]
theorem do_cross_eq (cr : Cr) (i j : Int) (c : Src) (hl : cr.cx.length ≤ 1000) : S_do_cross [eCr cr, .int i, .int j] c = some (.bl (clr cr.cx i j).isSome, c) := by
  simp_arith! [m_do_cross, sm_cr1]
  refine wp_compM (fun x : C4 => D.bl (decide ((x.1, x.2.1) ∈ [(i, j), (j, i)]))) (by omega) (by simp_arith) (fun x _ => by
    simp_arith [sm_slCx]
    rw [sm_inPP]
    exact ⟨rfl, rfl, rfl⟩) ?_
  simp_arith
  rw [cross_any]
end GW
end

local macro_rules | `(tactic| simp_arith [$ls,*]) => `(tactic| simp only [↓GW.sm_lenE, ↓GW.sm_seqE, ↓GW.sm_ixE, ↓GW.sm_tupE, ↓GW.sm_tupEE, ↓GW.sm_slE, ↓GW.sm_addE, ↓GW.sm_lenR, ↓GW.sm_seqR, ↓GW.sm_ixR, ↓GW.sm_tupR, ↓GW.sm_slR, ↓GW.sm_addR, ↓GW.sm_cr0, ↓GW.sm_cr1, ↓GW.sm_cr2, ↓GW.sm_seqMvs, ↓GW.sm_lenMvs, ↓GW.sm_mv0, ↓GH.wp_ret, ↓GH.wp_lift, ↓GH.sm_some, ↓GH.sm_map, ↓GH.sm_bind, ↓GH.ifB_tt, ↓GH.ifB_ff, ↓GH.ifB_dec, ↓GH.ifB_not, ↓GH.nx_nx, ↓GH.nx_ret, ↓GH.nx_brk, ↓GH.nx_cnt, ↓GH.varAt_z, ↓GH.varAt_s, ↓GH.slAt_z, ↓GH.slAt_s, ↓GH.ownAt_z, ↓GH.ownAt_s, ↓GH.setAt_z, ↓GH.setAt_s, ↓GH.frzAt_z, ↓GH.frzAt_s, ↓GH.bor_val, ↓GH.bor_own, ↓GH.bor_ownK, ↓GH.bor_ownT, ↓GH.len_0, ↓GH.len_1, ↓GH.len_2, ↓GH.len_3, ↓GH.len_4, ↓GH.len_5, ↓GH.len_6, ↓GH.isB_bl, ↓GH.isI_int, ↓GH.wp_var, ↓GH.wp_frz, ↓GH.wp_C, ↓GH.wp_bin, ↓GH.wp_un, ↓GH.wp_tst, ↓GH.wp_tru, ↓GH.wp_and2, ↓GH.wp_or2, ↓GH.wp_not1, ↓GH.wp_eAnd, ↓GH.wp_eOr, ↓GH.wp_eIf, ↓GH.wp_chain, ↓GH.wp_aNil, ↓GH.wp_aCons, ↓GH.wp_aStar, ↓GH.wp_tup, ↓GH.wp_disp, ↓GH.wp_lst, ↓GH.wp_call, ↓GH.wp_callL, ↓GH.wp_fn, ↓GH.wp_fld, ↓GH.wp_oNo, ↓GH.wp_oAt, ↓GH.wp_sl, ↓GH.wp_here, ↓GH.wp_putL, ↓GH.wp_app, ↓GH.sm_app, ↓GH.wp_popAt, ↓GH.wp_bor, ↓GH.wp_tBor, ↓GH.isFlat_int, ↓GH.isFlat_bl, ↓GH.isFlat_non, ↓GH.isFlat_str, ↓GH.wp_seq, ↓GH.wp_nx, ↓GH.wp_sRet, ↓GH.wp_sIf, ↓GH.wp_sExpr, ↓GH.wp_asg, ↓GH.wp_gN, ↓GH.wp_gT, ↓GH.wp_gCons, ↓GH.wp_gNil, ↓GH.wp_set, ↓GH.wp_own, ↓GH.wp_aug, ↓GH.sm_aug, ↓GH.wp_ownGet, ↓GH.wp_augIx, ↓GH.wp_sFor, ↓GH.wp_pNil, ↓GH.wp_pVal, ↓GH.wp_pOwn, ↓GH.wp_par, ↓GH.sm_put0, ↓GH.sm_put, ↓GH.wp_iSeq, ↓GH.wp_rg1, ↓GH.wp_rg2, ↓GH.wp_enum, ↓GH.wp_zip2, ↓GH.sm_addI, ↓GH.sm_addT, ↓GH.sm_addL, ↓GH.sm_subI, ↓GH.sm_mulI, ↓GH.sm_mulL, ↓GH.sm_modI, ↓GH.sm_fdivI, ↓GH.sm_ltI, ↓GH.sm_leI, ↓GH.sm_gtI, ↓GH.sm_geI, ↓GH.sm_eqI, ↓GH.sm_neI, ↓GH.sm_ixT, ↓GH.sm_ixL, ↓GH.at_0, ↓GH.at_1, ↓GH.at_2, ↓GH.at_3, ↓GH.at_4, ↓GH.at_map, ↓GH.sm_lenL, ↓GH.sm_lenT, ↓GH.sm_intI, ↓GH.sm_intB, ↓GH.sm_absI, ↓GH.sm_tupT, ↓GH.sm_lstL, ↓GH.sm_lstT, ↓GH.sm_sumL1, ↓GH.sm_sumT1, ↓GH.sm_sumL, ↓GH.sm_sumT, ↓GH.sm_maxI, ↓GH.sm_maxL1, ↓GH.sm_maxL, ↓GH.sm_anyL, ↓GH.sm_allL, ↓GH.sm_negI, ↓GH.sm_seqL, ↓GH.sm_seqT, ↓GH.sm_slL, ↓GH.sm_slT, ↓GH.sm_truB, ↓GH.sm_truN, ↓GH.sm_truI, ↓GH.sm_truL, ↓GH.sm_truT, ↓GH.sm_inR, ↓GH.sm_inT, ↓GH.sm_inL, ↓GH.sm_ninT, ↓GH.sm_ninL, ↓GH.sm_setL, ↓GH.wp_comp, ↓GH.wp_turn, ↓GH.lp_nx, ↓GH.lp_cnt, ↓GH.lp_brk, ↓GH.lp_ret, ↓GH.outR_ret, ↓GH.outR_nx, ↓GH.ownB_L, ↓GH.ownB_K, ↓GH.ownB_T, ↓GH.wp_nw, ↓GH.wp_nK0, ↓GH.wp_nT0, ↓GH.wp_ownN, ↓GH.wp_dgO, ↓GH.own2_K, ↓GH.own2_T, ↓GH.own2_s, ↓GH.wp_here2, ↓GH.wp_putD, ↓GH.putAt_s, ↓GH.putAt_K, ↓GH.putAt_T, ↓GH.wp_sPutD, ↓GH.sm_keyI, ↓GH.sm_keyS, ↓GH.sm_keysT, ↓GH.sm_dgK, ↓GH.sm_dgT, ↓GH.sm_dninK, ↓GH.sm_dninT, ↓GH.dctAt_KI, ↓GH.dctAt_T, ↓GH.dctAt_s, ↓GH.wp_forD, ↓GH.wp_lSl, ↓GH.sm_lstD, ↓GH.enumP_map, ↓GH.zip2P_map, ↓GH.sm_eqNilI, ↓GH.sm_neNilI, ↓GH.sm_eqIL, ↓GH.sm_neIL, ↓GH.sm_eqIT, ↓GH.sm_neIT, ↓GH.at_snoc, ↓GH.sm_ne3, ↓GH.sm_ne2, ↓GH.sm_srtI, ↓GH.wp_rgV, ↓GH.isR_rng, ↓GH.sm_rng1, ↓GH.wp_ext, ↓GH.sm_extL, GH.isV_none, GH.isV_val, GH.isV_jv, GH.allV_nil, GH.allV_cons, GH.jv_some, GH.jv_none, GH.out_nx, GH.kGet_lkp, GH.lkp_isSome, GH.borF, GH.bor_z, GH.bor_tt, GH.bor_no, GH.clean_nil, GH.clean_cons, GH.cleanAt_s, GH.cleanAt_n, GH.cleanAt_v, GH.cleanAt_j, GH.wipe_nil, GH.wipe_cons, GH.startE_z, GH.startE_n, GH.startE_s, eq_self, Option.isSome_map, List.set_cons_zero, List.set_cons_succ, List.cons_append, List.nil_append, and_true, true_and, and_self, true_implies, implies_true, not_false_eq_true, not_true_eq_false, false_implies, Option.some.injEq, List.contains_cons, List.contains_nil, Nat.reduceBEq, Bool.or_false, Bool.or_true, Bool.false_or, Bool.true_or, Nat.zero_add, Nat.reduceAdd, $ls,*])
local macro_rules | `(tactic| simp_all_arith [$ls,*]) => `(tactic| simp only [↓GW.sm_lenE, ↓GW.sm_seqE, ↓GW.sm_ixE, ↓GW.sm_tupE, ↓GW.sm_tupEE, ↓GW.sm_slE, ↓GW.sm_addE, ↓GW.sm_lenR, ↓GW.sm_seqR, ↓GW.sm_ixR, ↓GW.sm_tupR, ↓GW.sm_slR, ↓GW.sm_addR, ↓GW.sm_cr0, ↓GW.sm_cr1, ↓GW.sm_cr2, ↓GW.sm_seqMvs, ↓GW.sm_lenMvs, ↓GW.sm_mv0, ↓GH.wp_ret, ↓GH.wp_lift, ↓GH.sm_some, ↓GH.sm_map, ↓GH.sm_bind, ↓GH.ifB_tt, ↓GH.ifB_ff, ↓GH.ifB_dec, ↓GH.ifB_not, ↓GH.nx_nx, ↓GH.nx_ret, ↓GH.nx_brk, ↓GH.nx_cnt, ↓GH.varAt_z, ↓GH.varAt_s, ↓GH.slAt_z, ↓GH.slAt_s, ↓GH.ownAt_z, ↓GH.ownAt_s, ↓GH.setAt_z, ↓GH.setAt_s, ↓GH.frzAt_z, ↓GH.frzAt_s, ↓GH.bor_val, ↓GH.bor_own, ↓GH.bor_ownK, ↓GH.bor_ownT, ↓GH.len_0, ↓GH.len_1, ↓GH.len_2, ↓GH.len_3, ↓GH.len_4, ↓GH.len_5, ↓GH.len_6, ↓GH.isB_bl, ↓GH.isI_int, ↓GH.wp_var, ↓GH.wp_frz, ↓GH.wp_C, ↓GH.wp_bin, ↓GH.wp_un, ↓GH.wp_tst, ↓GH.wp_tru, ↓GH.wp_and2, ↓GH.wp_or2, ↓GH.wp_not1, ↓GH.wp_eAnd, ↓GH.wp_eOr, ↓GH.wp_eIf, ↓GH.wp_chain, ↓GH.wp_aNil, ↓GH.wp_aCons, ↓GH.wp_aStar, ↓GH.wp_tup, ↓GH.wp_disp, ↓GH.wp_lst, ↓GH.wp_call, ↓GH.wp_callL, ↓GH.wp_fn, ↓GH.wp_fld, ↓GH.wp_oNo, ↓GH.wp_oAt, ↓GH.wp_sl, ↓GH.wp_here, ↓GH.wp_putL, ↓GH.wp_app, ↓GH.sm_app, ↓GH.wp_popAt, ↓GH.wp_bor, ↓GH.wp_tBor, ↓GH.isFlat_int, ↓GH.isFlat_bl, ↓GH.isFlat_non, ↓GH.isFlat_str, ↓GH.wp_nx, ↓GH.wp_sRet, ↓GH.wp_sIf, ↓GH.wp_sExpr, ↓GH.wp_asg, ↓GH.wp_gN, ↓GH.wp_gT, ↓GH.wp_gCons, ↓GH.wp_gNil, ↓GH.wp_set, ↓GH.wp_own, ↓GH.wp_aug, ↓GH.sm_aug, ↓GH.wp_ownGet, ↓GH.wp_augIx, ↓GH.wp_sFor, ↓GH.wp_pNil, ↓GH.wp_pVal, ↓GH.wp_pOwn, ↓GH.wp_par, ↓GH.sm_put0, ↓GH.sm_put, ↓GH.wp_iSeq, ↓GH.wp_rg1, ↓GH.wp_rg2, ↓GH.wp_enum, ↓GH.wp_zip2, ↓GH.sm_addI, ↓GH.sm_addT, ↓GH.sm_addL, ↓GH.sm_subI, ↓GH.sm_mulI, ↓GH.sm_mulL, ↓GH.sm_modI, ↓GH.sm_fdivI, ↓GH.sm_ltI, ↓GH.sm_leI, ↓GH.sm_gtI, ↓GH.sm_geI, ↓GH.sm_eqI, ↓GH.sm_neI, ↓GH.sm_ixT, ↓GH.sm_ixL, ↓GH.at_0, ↓GH.at_1, ↓GH.at_2, ↓GH.at_3, ↓GH.at_4, ↓GH.at_map, ↓GH.sm_lenL, ↓GH.sm_lenT, ↓GH.sm_intI, ↓GH.sm_intB, ↓GH.sm_absI, ↓GH.sm_tupT, ↓GH.sm_lstL, ↓GH.sm_lstT, ↓GH.sm_sumL1, ↓GH.sm_sumT1, ↓GH.sm_sumL, ↓GH.sm_sumT, ↓GH.sm_maxI, ↓GH.sm_maxL1, ↓GH.sm_maxL, ↓GH.sm_anyL, ↓GH.sm_allL, ↓GH.sm_negI, ↓GH.sm_seqL, ↓GH.sm_seqT, ↓GH.sm_slL, ↓GH.sm_slT, ↓GH.sm_truB, ↓GH.sm_truN, ↓GH.sm_truI, ↓GH.sm_truL, ↓GH.sm_truT, ↓GH.sm_inR, ↓GH.sm_inT, ↓GH.sm_inL, ↓GH.sm_ninT, ↓GH.sm_ninL, ↓GH.sm_setL, ↓GH.wp_comp, ↓GH.wp_turn, ↓GH.lp_nx, ↓GH.lp_cnt, ↓GH.lp_brk, ↓GH.lp_ret, ↓GH.outR_ret, ↓GH.outR_nx, ↓GH.ownB_L, ↓GH.ownB_K, ↓GH.ownB_T, ↓GH.wp_nw, ↓GH.wp_nK0, ↓GH.wp_nT0, ↓GH.wp_ownN, ↓GH.wp_dgO, ↓GH.own2_K, ↓GH.own2_T, ↓GH.own2_s, ↓GH.wp_here2, ↓GH.wp_putD, ↓GH.putAt_s, ↓GH.putAt_K, ↓GH.putAt_T, ↓GH.wp_sPutD, ↓GH.sm_keyI, ↓GH.sm_keyS, ↓GH.sm_keysT, ↓GH.sm_dgK, ↓GH.sm_dgT, ↓GH.sm_dninK, ↓GH.sm_dninT, ↓GH.dctAt_KI, ↓GH.dctAt_T, ↓GH.dctAt_s, ↓GH.wp_forD, ↓GH.wp_lSl, ↓GH.sm_lstD, ↓GH.enumP_map, ↓GH.zip2P_map, ↓GH.sm_eqNilI, ↓GH.sm_neNilI, ↓GH.sm_eqIL, ↓GH.sm_neIL, ↓GH.sm_eqIT, ↓GH.sm_neIT, ↓GH.at_snoc, ↓GH.sm_ne3, ↓GH.sm_ne2, ↓GH.sm_srtI, ↓GH.wp_rgV, ↓GH.isR_rng, ↓GH.sm_rng1, ↓GH.wp_ext, ↓GH.sm_extL, GH.isV_none, GH.isV_val, GH.isV_jv, GH.allV_nil, GH.allV_cons, GH.jv_some, GH.jv_none, GH.out_nx, GH.kGet_lkp, GH.lkp_isSome, GH.borF, GH.bor_z, GH.bor_tt, GH.bor_no, GH.clean_nil, GH.clean_cons, GH.cleanAt_s, GH.cleanAt_n, GH.cleanAt_v, GH.cleanAt_j, GH.wipe_nil, GH.wipe_cons, GH.startE_z, GH.startE_n, GH.startE_s, eq_self, Option.isSome_map, List.set_cons_zero, List.set_cons_succ, List.cons_append, List.nil_append, and_true, true_and, and_self, true_implies, implies_true, not_false_eq_true, not_true_eq_false, false_implies, Option.some.injEq, List.contains_cons, List.contains_nil, Nat.reduceBEq, Bool.or_false, Bool.or_true, Bool.false_or, Bool.true_or, Nat.zero_add, Nat.reduceAdd, $ls,*])
local macro_rules | `(tactic| simp_all_arith) => `(tactic| simp_all_arith [and_true])
local macro_rules | `(tactic| simp_arith! [$ls,*]) => `(tactic| (refine GH.fn_val ?_; simp only [GH.startE_s, GH.startE_n, GH.startE_z, $ls,*]; simp_arith [$ls,*]))
local macro_rules | `(tactic| simp_arith) => `(tactic| simp_arith [and_true])
noncomputable section
namespace GW
open GH
theorem sm_addLi {a : List Int} {i : Int} {P : D → Prop} : Sm (addD (eL a) (.lst [.int i])) P ↔ a.length + 1 ≤ 16777216 ∧ P (eL (a ++ [i])) := by
  unfold eL; rw [sm_addL, List.map_append, List.length_map]; rfl
theorem sm_tupEL {l : List Int} {P : D → Prop} : Sm (tupG [eL l]) P ↔ P (eT l) := sm_some
theorem sm_inEL {i : Int} {l : List Int} {P : D → Prop} : Sm (inD (.int i) (eL l)) P ↔ P (.bl (decide (i ∈ l))) := by unfold eL; rw [sm_inL]
theorem range_at' {n y : Nat} {done rest : List Nat} (hx : List.range n = done ++ y :: rest) : y = done.length ∧ y < n := by
  have h := congrArg (fun l => l[done.length]?) hx
  simp only [List.getElem?_append_right (Nat.le_refl _), Nat.sub_self, List.getElem?_cons_zero] at h
  obtain ⟨h0, h⟩ := List.getElem?_eq_some_iff.mp h
  have h : done.length = y := by simpa using h
  have h0 : done.length < n := by simpa using h0
  omega
def crs (cx : List C4) (l : List Int) (i : Int) : Bool := l.any fun j => (clr cx i j).isSome
def NoSelf (cx : List C4) : Prop := ∀ x ∈ cx, x.1 ≠ x.2.1
theorem clr_self {cx : List C4} (h : NoSelf cx) (i : Int) : clr cx i i = none := by
  induction cx with
  | nil => rfl
  | cons x t ih =>
    have hx := h x List.mem_cons_self
    unfold clr
    rw [if_neg (by rintro ⟨a, b⟩; exact hx (a.trans b.symm)), if_neg (by rintro ⟨a, b⟩; exact hx (a.trans b.symm))]
    exact ih fun y hy => h y (List.mem_cons_of_mem _ hy)
theorem clr_sym (cx : List C4) (i j : Int) : (clr cx i j).isSome = (clr cx j i).isSome := by
  induction cx with
  | nil => rfl
  | cons x t ih =>
    rw [show clr (x :: t) i j = if x.1 = i ∧ x.2.1 = j then some x.2.2.1 else if x.1 = j ∧ x.2.1 = i then some x.2.2.2 else clr t i j from rfl, show clr (x :: t) j i = if x.1 = j ∧ x.2.1 = i then some x.2.2.1 else if x.1 = i ∧ x.2.1 = j then some x.2.2.2 else clr t j i from rfl]
    by_cases h1 : x.1 = i ∧ x.2.1 = j <;> by_cases h2 : x.1 = j ∧ x.2.1 = i
    · rw [if_pos h1, if_pos h2]
    · rw [if_pos h1, if_neg h2, if_pos h1]
      show true = true
      rfl
    · rw [if_neg h1, if_pos h2, if_pos h2]
      show true = true
      rfl
    · rw [if_neg h1, if_neg h2, if_neg h2, if_neg h1]; exact ih
theorem sm_notO {o : Option Int} {P : D → Prop} : Sm (notND (eN o) .non) P ↔ P (.bl o.isSome) := by cases o <;> exact sm_some
theorem crosses_eq (cr : Cr) (lot : List Int) (i : Int) (c : Src) (hn : NoSelf cr.cx) (hl : lot.length ≤ 1000) : S__law_crosses_one [eCr cr, eL lot, .int i] c = some (.bl (crs cr.cx lot i), c) := by
  simp_arith! [m__law_crosses_one, eL]
  refine wp_compF (fun j : Int => !decide (j = i)) (fun j => D.bl (clr cr.cx i j).isSome) (by omega) (by simp_arith) (fun x _ => by
    simp_arith [cl_eq (law_clr_eq cr i x c), sm_notO]
    refine ⟨fun h => ?_, fun h => ?_⟩ <;> simp_all) ?_
  have : ((lot.filter fun j => !decide (j = i)).any fun j => (clr cr.cx i j).isSome) = crs cr.cx lot i := by
    unfold crs
    rw [List.any_filter]
    congr 1
    funext j
    by_cases h : j = i
    · subst h; rw [clr_self hn]; simp
    · simp [h]
  simp_arith [sm_anyL (f := fun j : Int => (clr cr.cx i j).isSome), this]
def xsub (cx : List C4) : Nat → List (List Int)
  | 0 => [[]]
  | i + 1 => xsub cx i ++ ((xsub cx i).filter fun l => !crs cx l i).map fun l => l ++ [(i : Int)]
theorem xsub_len (cx : List C4) : ∀ n, (xsub cx n).length ≤ 2 ^ n
  | 0 => by simp [xsub]
  | n + 1 => by
    have h := xsub_len cx n
    have hf := List.length_filter_le (fun l => !crs cx l n) (xsub cx n)
    simp only [xsub, List.length_append, List.length_map, Nat.pow_succ]
    omega
structure Lot (cx : List C4) (n : Nat) (l : List Int) : Prop where
  len : l.length ≤ n
  inn : ∀ x ∈ l, 0 ≤ x ∧ x < n
  asc : l.Pairwise (· < ·)
  free : ∀ i ∈ l, ∀ j ∈ l, clr cx i j = none
theorem xsub_ok {cx : List C4} (hn : NoSelf cx) : ∀ n, ∀ l ∈ xsub cx n, Lot cx n l
  | 0, l, h => by
    simp [xsub] at h; subst h
    exact ⟨by simp, by simp, List.Pairwise.nil, by simp⟩
  | n + 1, l, h => by
    rcases List.mem_append.mp h with z | z
    · have q := xsub_ok hn n l z
      exact ⟨by have := q.len; omega, fun x hx => by have := q.inn x hx; omega, q.asc, q.free⟩
    · obtain ⟨l', hl', rfl⟩ := List.mem_map.mp z
      obtain ⟨hl1, hl2⟩ := List.mem_filter.mp hl'
      have q := xsub_ok hn n l' hl1
      have hc : ∀ j ∈ l', clr cx n j = none := fun j hj => by
        have : crs cx l' n = false := by simpa using hl2
        have := List.any_eq_false.mp this j hj
        simpa using this
      have hc2 : ∀ j ∈ l', clr cx j n = none := fun j hj => by
        have := clr_sym cx j n
        rw [hc j hj] at this
        simpa using this
      refine ⟨by have := q.len; simp; omega, fun x hx => ?_, ?_, fun i hi j hj => ?_⟩
      · rcases List.mem_append.mp hx with y | y
        · have := q.inn x y; omega
        · simp at y; omega
      · rw [List.pairwise_append]
        exact ⟨q.asc, by simp, fun a ha b hb => by simp at hb; have := q.inn a ha; omega⟩
      · rcases List.mem_append.mp hi with y | y <;> rcases List.mem_append.mp hj with w | w
        · exact q.free i y j w
        · simp at w; subst w; exact hc2 i y
        · simp at y; subst y; exact hc j w
        · simp at y w; subst y w; exact clr_self hn _
def fullX (cx : List C4) (n : Nat) (l : List Int) : Bool := (List.range n).all fun i => decide ((i : Int) ∈ l) || crs cx l i
def stg (cx : List C4) (n : Nat) : List (List Int) := tsort ((xsub cx n).filter (fullX cx n))
theorem full_ne {cx : List C4} {n : Nat} (h1 : 1 ≤ n) : ∀ v ∈ (xsub cx n).filter (fullX cx n), v ≠ [] := fun v hv e => by
  obtain ⟨_, hf⟩ := List.mem_filter.mp hv
  rw [e] at hf
  have := List.all_eq_true.mp hf 0 (List.mem_range.mpr (by omega))
  simp [crs] at this
structure Sgs (cx : List C4) (n : Nat) (sts : List (List Int)) : Prop where
  len : sts.length ≤ 2 ^ n
  lot : ∀ st ∈ sts, st ≠ [] ∧ Lot cx n st
theorem stg_ok {cx : List C4} {n : Nat} (hn : NoSelf cx) (h1 : 1 ≤ n) : Sgs cx n (stg cx n) := by
  have hp := tsort_perm ((xsub cx n).filter (fullX cx n))
  have hfl := List.length_filter_le (fullX cx n) (xsub cx n)
  have := xsub_len cx n
  refine ⟨by unfold stg; rw [hp.length_eq]; omega, fun st hs => ?_⟩
  have hm := hp.mem_iff.mp hs
  exact ⟨full_ne h1 st hm, xsub_ok hn n st (List.mem_filter.mp hm).1⟩
theorem pow_6 {n : Nat} (h : n ≤ 6) : 2 ^ n ≤ 64 := Nat.pow_le_pow_right (n := 2) (by omega) h
theorem law_stages_eq (cr : Cr) (c : Src) (hn : NoSelf cr.cx) (h1 : 1 ≤ cr.mv.length) (h4 : cr.mv.length ≤ 6) : S__law_stages [eCr cr] c = some (.lst ((stg cr.cx cr.mv.length).map eT), c) := by
  simp_arith! [m__law_stages]
  refine ⟨okR_of (by omega) (by omega), ?_⟩
  rw [Int.toNat_natCast]
  have hp : ∀ i, i ≤ cr.mv.length → (xsub cr.cx i).length ≤ 64 := fun i hi => by
    have := xsub_len cr.cx i
    have := pow_6 (n := i) (by omega)
    omega
  refine wp_for (fun done _ s => ∃ x3 : Option D, s = ⟨[some (.val (eCr cr)), some (.val (.int cr.mv.length)), some (.val (.lst ((xsub cr.cx done.length).map eL))), jv x3, none, none], c⟩) ⟨none, rfl⟩ ?_ ?_
  · rintro done i rest _ hx ⟨x3, rfl⟩
    obtain ⟨rfl, hi⟩ := range_at' hx
    have hb := hp done.length (by omega)
    simp_arith
    refine wp_compF (enc := eL) (fun lot => !crs cr.cx lot done.length) (fun lot => eL (lot ++ [(done.length : Int)])) (by omega) (by simp_arith) (fun lot hlot => by
      have := (xsub_ok hn done.length lot hlot).len
      simp_arith [cl_eq (crosses_eq cr lot done.length c hn (by omega)), sm_addLi]
      refine ⟨fun h => ?_, fun h => ?_⟩
      · exact ⟨by rw [h]; rfl, rfl, rfl⟩
      · simp_arith [sm_addLi]
        refine ⟨by omega, ?_⟩
        rw [show crs cr.cx lot done.length = false from by simpa using h]
        rfl) ?_
    have e : ((xsub cr.cx done.length).filter fun lot => !crs cr.cx lot done.length).map (fun lot => eL (lot ++ [(done.length : Int)])) = (((xsub cr.cx done.length).filter fun lot => !crs cr.cx lot done.length).map fun lot => lot ++ [(done.length : Int)]).map eL := by
      rw [List.map_map]; rfl
    rw [e]
    simp_arith
    have hfl := List.length_filter_le (fun lot => !crs cr.cx lot done.length) (xsub cr.cx done.length)
    refine ⟨by simp; omega, some (.int done.length), ?_⟩
    have e2 : xsub cr.cx (done ++ [done.length]).length = xsub cr.cx done.length ++ ((xsub cr.cx done.length).filter fun lot => !crs cr.cx lot done.length).map fun lot => lot ++ [(done.length : Int)] := by
      rw [show (done ++ [done.length]).length = done.length + 1 by simp]; rfl
    rw [e2, List.map_append]
    rfl
  · rintro _ ⟨x3, rfl⟩
    rw [List.length_range]
    simp_arith
    have hb := hp cr.mv.length (by omega)
    refine wp_for (enc := eL) (fun done _ s => ∃ (x3 x5 : Option D), s = ⟨[some (.val (eCr cr)), some (.val (.int cr.mv.length)), some (.val (.lst ((xsub cr.cx cr.mv.length).map eL))), jv x3, some (.own ((done.filter (fullX cr.cx cr.mv.length)).map eT)), jv x5], c⟩) ⟨x3, none, rfl⟩ ?_ ?_
    · rintro done lot rest _ hx ⟨x3, x5, rfl⟩
      have hm : lot ∈ xsub cr.cx cr.mv.length := by rw [hx]; simp
      have hlot := (xsub_ok hn cr.mv.length lot hm).len
      have hdl : done.length ≤ 1000 := by have := congrArg List.length hx; simp at this; omega
      have hfl := List.length_filter_le (fullX cr.cx cr.mv.length) done
      simp_arith
      refine ⟨okR_of (by omega) (by omega), ?_⟩
      rw [Int.toNat_natCast]
      refine wp_compM (fun i : Nat => D.bl (decide ((i : Int) ∈ lot) || crs cr.cx lot i)) (by simp; omega) (by simp_arith) (fun i _ => by
        simp_arith [sm_inEL, cl_eq (crosses_eq cr lot i c hn (by omega))]
        refine ⟨fun h => ?_, fun h => ?_⟩
        · rw [decide_eq_true h]; rfl
        · rw [decide_eq_false h]; rfl) ?_
      simp_arith
      have ef : ((List.range cr.mv.length).all fun i : Nat => decide ((i : Int) ∈ lot) || crs cr.cx lot i) = fullX cr.cx cr.mv.length lot := rfl
      rw [ef]
      cases hf : fullX cr.cx cr.mv.length lot with
      | true =>
        simp_arith [sm_tupEL]
        refine ⟨by simp; omega, x3, some (eL lot), ?_⟩
        rw [List.filter_append, List.filter_cons, hf, List.map_append]; rfl
      | false =>
        simp_arith
        refine ⟨x3, some (eL lot), ?_⟩
        rw [show (done ++ [lot]).filter (fullX cr.cx cr.mv.length) = done.filter (fullX cr.cx cr.mv.length) by rw [List.filter_append]; simp [hf]]; rfl
    · rintro _ ⟨x3, x5, rfl⟩
      simp_arith
      have hfl := List.length_filter_le (fullX cr.cx cr.mv.length) (xsub cr.cx cr.mv.length)
      rw [sm_srtT (full_ne h1)]
      exact ⟨by omega, by simp_arith; rfl⟩
end GW
end

noncomputable section
namespace GW
open GH
theorem sm_ninE {i : Int} {l : List Int} {P : D → Prop} : Sm (ninD (.int i) (eT l)) P ↔ P (.bl (!decide (i ∈ l))) := by unfold eT; rw [sm_ninT]
theorem sm_inE {i : Int} {l : List Int} {P : D → Prop} : Sm (inD (.int i) (eT l)) P ↔ P (.bl (decide (i ∈ l))) := by unfold eT; rw [sm_inT]
theorem free_eq (cr : Cr) (c : Src) (hn : NoSelf cr.cx) (hc : cr.cx.length ≤ 1000) (h4 : cr.mv.length ≤ 6) : S_free_sets [eCr cr] c = some (.lst ((xsub cr.cx cr.mv.length).map eT), c) := by
  simp_arith! [m_free_sets]
  refine ⟨okR_of (by omega) (by omega), ?_⟩
  rw [Int.toNat_natCast]
  have hp : ∀ i, i ≤ cr.mv.length → (xsub cr.cx i).length ≤ 64 := fun i hi => by
    have := xsub_len cr.cx i
    have := pow_6 (n := i) (by omega)
    omega
  refine wp_for (fun done _ s => ∃ x2 : Option D, s = ⟨[some (.val (eCr cr)), some (.val (.lst ((xsub cr.cx done.length).map eT))), jv x2, none, none], c⟩) ⟨none, rfl⟩ ?_ ?_
  · rintro done i rest _ hx ⟨x2, rfl⟩
    obtain ⟨rfl, hi⟩ := range_at' hx
    have hb := hp done.length (by omega)
    simp_arith
    refine wp_compF (enc := eT) (fun lot => !crs cr.cx lot done.length) (fun lot => eT (lot ++ [(done.length : Int)])) (by omega) (by simp_arith) (fun lot hlot => by
      have hlen := (xsub_ok hn done.length lot hlot).len
      simp_arith
      refine wp_compM (fun j : Int => D.bl (clr cr.cx done.length j).isSome) (by omega) (by simp_arith) (fun j _ => by
        simp_arith [cl_eq (do_cross_eq cr done.length j c hc)]) ?_
      simp_arith [sm_anyL (f := fun j : Int => (clr cr.cx done.length j).isSome)]
      refine ⟨fun h => ?_, fun h => ?_⟩
      · rw [show crs cr.cx lot done.length = true from h]; first | rfl | exact ⟨rfl, rfl, rfl⟩
      · simp_arith
        rw [show crs cr.cx lot done.length = false from h]
        refine ⟨by simp [PySem.sizeLine]; omega, ?_, rfl, rfl⟩
        show some (D.tup (lot.map D.int ++ [.int done.length])) = some (eT (lot ++ [(done.length : Int)]))
        unfold eT
        rw [List.map_append]; rfl) ?_
    have e : ((xsub cr.cx done.length).filter fun lot => !crs cr.cx lot done.length).map (fun lot => eT (lot ++ [(done.length : Int)])) = (((xsub cr.cx done.length).filter fun lot => !crs cr.cx lot done.length).map fun lot => lot ++ [(done.length : Int)]).map eT := by
      rw [List.map_map]; rfl
    rw [e]
    simp_arith
    have hfl := List.length_filter_le (fun lot => !crs cr.cx lot done.length) (xsub cr.cx done.length)
    refine ⟨by simp; omega, some (.int done.length), ?_⟩
    have e2 : xsub cr.cx (done ++ [done.length]).length = xsub cr.cx done.length ++ ((xsub cr.cx done.length).filter fun lot => !crs cr.cx lot done.length).map fun lot => lot ++ [(done.length : Int)] := by
      rw [show (done ++ [done.length]).length = done.length + 1 by simp]; rfl
    rw [e2, List.map_append]
    rfl
  · rintro _ ⟨x2, rfl⟩
    rw [List.length_range]
    simp_arith
theorem full_eq (cr : Cr) (lot : List Int) (c : Src) (hc : cr.cx.length ≤ 1000) (h4 : cr.mv.length ≤ 6) (hl : lot.length ≤ 6) : S_is_full [eCr cr, eT lot] c = some (.bl (fullX cr.cx cr.mv.length lot), c) := by
  simp_arith! [m_is_full]
  refine ⟨okR_of (by omega) (by omega), ?_⟩
  rw [Int.toNat_natCast]
  refine wp_compF (fun i : Nat => !decide ((i : Int) ∈ lot)) (fun i : Nat => D.int (i : Int)) (by simp; omega) (by simp_arith) (fun i _ => by
    simp_arith [sm_ninE]
    refine ⟨fun h => ?_, fun h => ?_⟩ <;> simp_all) ?_
  simp_arith
  have hfl := List.length_filter_le (fun i : Nat => !decide ((i : Int) ∈ lot)) (List.range cr.mv.length)
  rw [List.length_range] at hfl
  refine wp_compM (enc := fun i : Nat => D.int (i : Int)) (fun i : Nat => D.bl (crs cr.cx lot i)) (by omega) (by simp_arith) (fun i _ => by
    simp_arith
    refine wp_compM (fun j : Int => D.bl (clr cr.cx i j).isSome) (by omega) (by simp_arith) (fun j _ => by
      simp_arith [cl_eq (do_cross_eq cr i j c hc)]) ?_
    simp_arith [sm_anyL (f := fun j : Int => (clr cr.cx i j).isSome)]
    rfl) ?_
  simp_arith [sm_allL (f := fun i : Nat => crs cr.cx lot i)]
  have e : (((List.range cr.mv.length).filter fun i : Nat => !decide ((i : Int) ∈ lot)).all fun i : Nat => crs cr.cx lot i) = fullX cr.cx cr.mv.length lot := by
    unfold fullX
    rw [List.all_filter]
    congr 1
    funext i
    by_cases h : (i : Int) ∈ lot <;> simp [h]
  rw [e]
theorem stages_eq (cr : Cr) (c : Src) (hn : NoSelf cr.cx) (hc : cr.cx.length ≤ 1000) (h1 : 1 ≤ cr.mv.length) (h4 : cr.mv.length ≤ 6) : S_stages [eCr cr] c = some (eR (stg cr.cx cr.mv.length), c) := by
  simp_arith! [m_stages, cl_eq (free_eq cr _ hn hc h4)]
  have hxl := xsub_len cr.cx cr.mv.length
  have h6 := pow_6 h4
  refine wp_compF (enc := eT) (fullX cr.cx cr.mv.length) eT (by omega) (by simp_arith) (fun lot hlot => by
    have hlen := (xsub_ok hn _ lot hlot).len
    simp_arith [cl_eq (full_eq cr lot c hc h4 (by omega))]
    cases hf : fullX cr.cx cr.mv.length lot <;> simp_arith <;> rfl) ?_
  simp_arith
  have hfl := List.length_filter_le (fullX cr.cx cr.mv.length) (xsub cr.cx cr.mv.length)
  rw [sm_srtT (full_ne h1)]
  exact ⟨by omega, by simp_arith; rfl⟩
end GW
end

local macro_rules | `(tactic| simp_arith [$ls,*]) => `(tactic| simp only [↓GW.sm_lenE, ↓GW.sm_seqE, ↓GW.sm_ixE, ↓GW.sm_tupE, ↓GW.sm_tupEE, ↓GW.sm_slE, ↓GW.sm_addE, ↓GW.sm_lenR, ↓GW.sm_seqR, ↓GW.sm_ixR, ↓GW.sm_tupR, ↓GW.sm_slR, ↓GW.sm_addR, ↓GW.sm_cr0, ↓GW.sm_cr1, ↓GW.sm_cr2, ↓GW.sm_seqMvs, ↓GW.sm_lenMvs, ↓GW.sm_mv0, ↓GH.wp_ret, ↓GH.wp_lift, ↓GH.sm_some, ↓GH.sm_map, ↓GH.sm_bind, ↓GH.ifB_tt, ↓GH.ifB_ff, ↓GH.ifB_dec, ↓GH.ifB_not, ↓GH.nx_nx, ↓GH.nx_ret, ↓GH.nx_brk, ↓GH.nx_cnt, ↓GH.varAt_z, ↓GH.varAt_s, ↓GH.slAt_z, ↓GH.slAt_s, ↓GH.ownAt_z, ↓GH.ownAt_s, ↓GH.setAt_z, ↓GH.setAt_s, ↓GH.frzAt_z, ↓GH.frzAt_s, ↓GH.bor_val, ↓GH.bor_own, ↓GH.bor_ownK, ↓GH.bor_ownT, ↓GH.len_0, ↓GH.len_1, ↓GH.len_2, ↓GH.len_3, ↓GH.len_4, ↓GH.len_5, ↓GH.len_6, ↓GH.isB_bl, ↓GH.isI_int, ↓GH.wp_var, ↓GH.wp_frz, ↓GH.wp_C, ↓GH.wp_bin, ↓GH.wp_un, ↓GH.wp_tst, ↓GH.wp_tru, ↓GH.wp_and2, ↓GH.wp_or2, ↓GH.wp_not1, ↓GH.wp_eAnd, ↓GH.wp_eOr, ↓GH.wp_eIf, ↓GH.wp_chain, ↓GH.wp_aNil, ↓GH.wp_aCons, ↓GH.wp_aStar, ↓GH.wp_tup, ↓GH.wp_disp, ↓GH.wp_lst, ↓GH.wp_call, ↓GH.wp_callL, ↓GH.wp_fn, ↓GH.wp_fld, ↓GH.wp_oNo, ↓GH.wp_oAt, ↓GH.wp_sl, ↓GH.wp_here, ↓GH.wp_putL, ↓GH.wp_app, ↓GH.sm_app, ↓GH.wp_popAt, ↓GH.wp_bor, ↓GH.wp_tBor, ↓GH.isFlat_int, ↓GH.isFlat_bl, ↓GH.isFlat_non, ↓GH.isFlat_str, ↓GH.wp_seq, ↓GH.wp_nx, ↓GH.wp_sRet, ↓GH.wp_sIf, ↓GH.wp_sExpr, ↓GH.wp_asg, ↓GH.wp_gN, ↓GH.wp_gT, ↓GH.wp_gCons, ↓GH.wp_gNil, ↓GH.wp_set, ↓GH.wp_own, ↓GH.wp_aug, ↓GH.sm_aug, ↓GH.wp_ownGet, ↓GH.wp_augIx, ↓GH.wp_sFor, ↓GH.wp_pNil, ↓GH.wp_pVal, ↓GH.wp_pOwn, ↓GH.wp_par, ↓GH.sm_put0, ↓GH.sm_put, ↓GH.wp_iSeq, ↓GH.wp_rg1, ↓GH.wp_rg2, ↓GH.wp_enum, ↓GH.wp_zip2, ↓GH.sm_addI, ↓GH.sm_addT, ↓GH.sm_addL, ↓GH.sm_subI, ↓GH.sm_mulI, ↓GH.sm_mulL, ↓GH.sm_modI, ↓GH.sm_fdivI, ↓GH.sm_ltI, ↓GH.sm_leI, ↓GH.sm_gtI, ↓GH.sm_geI, ↓GH.sm_eqI, ↓GH.sm_neI, ↓GH.sm_notN, ↓GH.sm_ixT, ↓GH.sm_ixL, ↓GH.at_0, ↓GH.at_1, ↓GH.at_2, ↓GH.at_3, ↓GH.at_4, ↓GH.at_map, ↓GH.sm_lenL, ↓GH.sm_lenT, ↓GH.sm_intI, ↓GH.sm_intB, ↓GH.sm_absI, ↓GH.sm_tupT, ↓GH.sm_lstL, ↓GH.sm_lstT, ↓GH.sm_sumL1, ↓GH.sm_sumT1, ↓GH.sm_sumL, ↓GH.sm_sumT, ↓GH.sm_maxI, ↓GH.sm_maxL1, ↓GH.sm_maxL, ↓GH.sm_anyL, ↓GH.sm_allL, ↓GH.sm_negI, ↓GH.sm_seqL, ↓GH.sm_seqT, ↓GH.sm_slL, ↓GH.sm_slT, ↓GH.sm_truB, ↓GH.sm_truN, ↓GH.sm_truI, ↓GH.sm_truL, ↓GH.sm_truT, ↓GH.sm_inR, ↓GH.sm_inT, ↓GH.sm_inL, ↓GH.sm_ninT, ↓GH.sm_ninL, ↓GH.sm_setL, ↓GH.wp_comp, ↓GH.wp_turn, ↓GH.lp_nx, ↓GH.lp_cnt, ↓GH.lp_brk, ↓GH.lp_ret, ↓GH.outR_ret, ↓GH.outR_nx, ↓GH.ownB_L, ↓GH.ownB_K, ↓GH.ownB_T, ↓GH.wp_nw, ↓GH.wp_nK0, ↓GH.wp_nT0, ↓GH.wp_ownN, ↓GH.wp_dgO, ↓GH.own2_K, ↓GH.own2_T, ↓GH.own2_s, ↓GH.wp_here2, ↓GH.wp_putD, ↓GH.putAt_s, ↓GH.putAt_K, ↓GH.putAt_T, ↓GH.wp_sPutD, ↓GH.sm_keyI, ↓GH.sm_keyS, ↓GH.sm_keysT, ↓GH.sm_dgK, ↓GH.sm_dgT, ↓GH.sm_dninK, ↓GH.sm_dninT, ↓GH.dctAt_KI, ↓GH.dctAt_T, ↓GH.dctAt_s, ↓GH.wp_forD, ↓GH.wp_lSl, ↓GH.sm_lstD, ↓GH.enumP_map, ↓GH.zip2P_map, ↓GH.sm_eqNilI, ↓GH.sm_neNilI, ↓GH.sm_eqIL, ↓GH.sm_neIL, ↓GH.sm_eqIT, ↓GH.sm_neIT, ↓GH.at_snoc, ↓GH.sm_ne3, ↓GH.sm_ne2, ↓GH.sm_srtI, ↓GH.wp_rgV, ↓GH.isR_rng, ↓GH.sm_rng1, ↓GH.wp_ext, ↓GH.sm_extL, GH.isV_none, GH.isV_val, GH.isV_jv, GH.allV_nil, GH.allV_cons, GH.jv_some, GH.jv_none, GH.out_nx, GH.kGet_lkp, GH.lkp_isSome, GH.borF, GH.bor_z, GH.bor_tt, GH.bor_no, GH.clean_nil, GH.clean_cons, GH.cleanAt_s, GH.cleanAt_n, GH.cleanAt_v, GH.cleanAt_j, GH.wipe_nil, GH.wipe_cons, GH.startE_z, GH.startE_n, GH.startE_s, eq_self, Option.isSome_map, List.set_cons_zero, List.set_cons_succ, List.cons_append, List.nil_append, and_true, true_and, and_self, true_implies, implies_true, not_false_eq_true, not_true_eq_false, false_implies, Option.some.injEq, List.contains_cons, List.contains_nil, Nat.reduceBEq, Bool.or_false, Bool.or_true, Bool.false_or, Bool.true_or, Nat.zero_add, Nat.reduceAdd, $ls,*])
local macro_rules | `(tactic| simp_all_arith [$ls,*]) => `(tactic| simp only [↓GW.sm_lenE, ↓GW.sm_seqE, ↓GW.sm_ixE, ↓GW.sm_tupE, ↓GW.sm_tupEE, ↓GW.sm_slE, ↓GW.sm_addE, ↓GW.sm_lenR, ↓GW.sm_seqR, ↓GW.sm_ixR, ↓GW.sm_tupR, ↓GW.sm_slR, ↓GW.sm_addR, ↓GW.sm_cr0, ↓GW.sm_cr1, ↓GW.sm_cr2, ↓GW.sm_seqMvs, ↓GW.sm_lenMvs, ↓GW.sm_mv0, ↓GH.wp_ret, ↓GH.wp_lift, ↓GH.sm_some, ↓GH.sm_map, ↓GH.sm_bind, ↓GH.ifB_tt, ↓GH.ifB_ff, ↓GH.ifB_dec, ↓GH.ifB_not, ↓GH.nx_nx, ↓GH.nx_ret, ↓GH.nx_brk, ↓GH.nx_cnt, ↓GH.varAt_z, ↓GH.varAt_s, ↓GH.slAt_z, ↓GH.slAt_s, ↓GH.ownAt_z, ↓GH.ownAt_s, ↓GH.setAt_z, ↓GH.setAt_s, ↓GH.frzAt_z, ↓GH.frzAt_s, ↓GH.bor_val, ↓GH.bor_own, ↓GH.bor_ownK, ↓GH.bor_ownT, ↓GH.len_0, ↓GH.len_1, ↓GH.len_2, ↓GH.len_3, ↓GH.len_4, ↓GH.len_5, ↓GH.len_6, ↓GH.isB_bl, ↓GH.isI_int, ↓GH.wp_var, ↓GH.wp_frz, ↓GH.wp_C, ↓GH.wp_bin, ↓GH.wp_un, ↓GH.wp_tst, ↓GH.wp_tru, ↓GH.wp_and2, ↓GH.wp_or2, ↓GH.wp_not1, ↓GH.wp_eAnd, ↓GH.wp_eOr, ↓GH.wp_eIf, ↓GH.wp_chain, ↓GH.wp_aNil, ↓GH.wp_aCons, ↓GH.wp_aStar, ↓GH.wp_tup, ↓GH.wp_disp, ↓GH.wp_lst, ↓GH.wp_call, ↓GH.wp_callL, ↓GH.wp_fn, ↓GH.wp_fld, ↓GH.wp_oNo, ↓GH.wp_oAt, ↓GH.wp_sl, ↓GH.wp_here, ↓GH.wp_putL, ↓GH.wp_app, ↓GH.sm_app, ↓GH.wp_popAt, ↓GH.wp_bor, ↓GH.wp_tBor, ↓GH.isFlat_int, ↓GH.isFlat_bl, ↓GH.isFlat_non, ↓GH.isFlat_str, ↓GH.wp_nx, ↓GH.wp_sRet, ↓GH.wp_sIf, ↓GH.wp_sExpr, ↓GH.wp_asg, ↓GH.wp_gN, ↓GH.wp_gT, ↓GH.wp_gCons, ↓GH.wp_gNil, ↓GH.wp_set, ↓GH.wp_own, ↓GH.wp_aug, ↓GH.sm_aug, ↓GH.wp_ownGet, ↓GH.wp_augIx, ↓GH.wp_sFor, ↓GH.wp_pNil, ↓GH.wp_pVal, ↓GH.wp_pOwn, ↓GH.wp_par, ↓GH.sm_put0, ↓GH.sm_put, ↓GH.wp_iSeq, ↓GH.wp_rg1, ↓GH.wp_rg2, ↓GH.wp_enum, ↓GH.wp_zip2, ↓GH.sm_addI, ↓GH.sm_addT, ↓GH.sm_addL, ↓GH.sm_subI, ↓GH.sm_mulI, ↓GH.sm_mulL, ↓GH.sm_modI, ↓GH.sm_fdivI, ↓GH.sm_ltI, ↓GH.sm_leI, ↓GH.sm_gtI, ↓GH.sm_geI, ↓GH.sm_eqI, ↓GH.sm_neI, ↓GH.sm_notN, ↓GH.sm_ixT, ↓GH.sm_ixL, ↓GH.at_0, ↓GH.at_1, ↓GH.at_2, ↓GH.at_3, ↓GH.at_4, ↓GH.at_map, ↓GH.sm_lenL, ↓GH.sm_lenT, ↓GH.sm_intI, ↓GH.sm_intB, ↓GH.sm_absI, ↓GH.sm_tupT, ↓GH.sm_lstL, ↓GH.sm_lstT, ↓GH.sm_sumL1, ↓GH.sm_sumT1, ↓GH.sm_sumL, ↓GH.sm_sumT, ↓GH.sm_maxI, ↓GH.sm_maxL1, ↓GH.sm_maxL, ↓GH.sm_anyL, ↓GH.sm_allL, ↓GH.sm_negI, ↓GH.sm_seqL, ↓GH.sm_seqT, ↓GH.sm_slL, ↓GH.sm_slT, ↓GH.sm_truB, ↓GH.sm_truN, ↓GH.sm_truI, ↓GH.sm_truL, ↓GH.sm_truT, ↓GH.sm_inR, ↓GH.sm_inT, ↓GH.sm_inL, ↓GH.sm_ninT, ↓GH.sm_ninL, ↓GH.sm_setL, ↓GH.wp_comp, ↓GH.wp_turn, ↓GH.lp_nx, ↓GH.lp_cnt, ↓GH.lp_brk, ↓GH.lp_ret, ↓GH.outR_ret, ↓GH.outR_nx, ↓GH.ownB_L, ↓GH.ownB_K, ↓GH.ownB_T, ↓GH.wp_nw, ↓GH.wp_nK0, ↓GH.wp_nT0, ↓GH.wp_ownN, ↓GH.wp_dgO, ↓GH.own2_K, ↓GH.own2_T, ↓GH.own2_s, ↓GH.wp_here2, ↓GH.wp_putD, ↓GH.putAt_s, ↓GH.putAt_K, ↓GH.putAt_T, ↓GH.wp_sPutD, ↓GH.sm_keyI, ↓GH.sm_keyS, ↓GH.sm_keysT, ↓GH.sm_dgK, ↓GH.sm_dgT, ↓GH.sm_dninK, ↓GH.sm_dninT, ↓GH.dctAt_KI, ↓GH.dctAt_T, ↓GH.dctAt_s, ↓GH.wp_forD, ↓GH.wp_lSl, ↓GH.sm_lstD, ↓GH.enumP_map, ↓GH.zip2P_map, ↓GH.sm_eqNilI, ↓GH.sm_neNilI, ↓GH.sm_eqIL, ↓GH.sm_neIL, ↓GH.sm_eqIT, ↓GH.sm_neIT, ↓GH.at_snoc, ↓GH.sm_ne3, ↓GH.sm_ne2, ↓GH.sm_srtI, ↓GH.wp_rgV, ↓GH.isR_rng, ↓GH.sm_rng1, ↓GH.wp_ext, ↓GH.sm_extL, GH.isV_none, GH.isV_val, GH.isV_jv, GH.allV_nil, GH.allV_cons, GH.jv_some, GH.jv_none, GH.out_nx, GH.kGet_lkp, GH.lkp_isSome, GH.borF, GH.bor_z, GH.bor_tt, GH.bor_no, GH.clean_nil, GH.clean_cons, GH.cleanAt_s, GH.cleanAt_n, GH.cleanAt_v, GH.cleanAt_j, GH.wipe_nil, GH.wipe_cons, GH.startE_z, GH.startE_n, GH.startE_s, eq_self, Option.isSome_map, List.set_cons_zero, List.set_cons_succ, List.cons_append, List.nil_append, and_true, true_and, and_self, true_implies, implies_true, not_false_eq_true, not_true_eq_false, false_implies, Option.some.injEq, List.contains_cons, List.contains_nil, Nat.reduceBEq, Bool.or_false, Bool.or_true, Bool.false_or, Bool.true_or, Nat.zero_add, Nat.reduceAdd, $ls,*])
local macro_rules | `(tactic| simp_all_arith) => `(tactic| simp_all_arith [and_true])
local macro_rules | `(tactic| simp_arith! [$ls,*]) => `(tactic| (refine GH.fn_val ?_; simp only [GH.startE_s, GH.startE_n, GH.startE_z, $ls,*]; simp_arith [$ls,*]))
local macro_rules | `(tactic| simp_arith) => `(tactic| simp_arith [and_true])
noncomputable section
namespace GW
open GH
def cell (cx : List C4) (i j : Int) : Int := (clr cx i j).getD 0
def clrL (cx : List C4) (n : Nat) (st : List Int) : List Int := st.flatMap fun i => (List.range n).map fun j => cell cx i (j : Nat)
def mx (a x : Int) : Int := if x > a then x else a
def clg (cx : List C4) (n : Nat) (st : List Int) : Int := (clrL cx n st).foldl mx 0
theorem mx_ge (a x : Int) : a ≤ mx a x ∧ x ≤ mx a x := by unfold mx; split <;> omega
theorem mx_0 {a : Int} (h : 0 ≤ a) : mx a 0 = a := by unfold mx; rw [if_neg (by omega)]
theorem fold_ge : ∀ (l : List Int) (a : Int), a ≤ l.foldl mx a ∧ ∀ x ∈ l, x ≤ l.foldl mx a
  | [], a => ⟨Int.le_refl _, by simp⟩
  | y :: t, a => by
    obtain ⟨h1, h2⟩ := fold_ge t (mx a y)
    have := mx_ge a y
    refine ⟨by simp only [List.foldl_cons]; omega, fun x hx => ?_⟩
    simp only [List.foldl_cons]
    rcases List.mem_cons.mp hx with rfl | h
    · omega
    · exact h2 x h
theorem fold_mem : ∀ (l : List Int) (a : Int), l.foldl mx a = a ∨ l.foldl mx a ∈ l
  | [], a => .inl rfl
  | y :: t, a => by
    simp only [List.foldl_cons]
    rcases fold_mem t (mx a y) with h | h
    · rw [h]
      unfold mx
      split
      · exact .inr List.mem_cons_self
      · exact .inl rfl
    · exact .inr (List.mem_cons_of_mem _ h)
structure GoodX (cr : Cr) : Prop where
  ns : NoSelf cr.cx
  pos : ∀ i j w, clr cr.cx i j = some w → 0 ≤ w ∧ w ≤ 40
  ne : 1 ≤ cr.mv.length
  le : cr.mv.length ≤ 6
  cl : cr.cx.length ≤ 100
theorem clr_pos {cx : List C4} {B : Int} (h : ∀ x ∈ cx, 0 ≤ x.2.2.1 ∧ x.2.2.1 ≤ B ∧ 0 ≤ x.2.2.2 ∧ x.2.2.2 ≤ B) {i j w : Int} (e : clr cx i j = some w) : 0 ≤ w ∧ w ≤ B := by
  induction cx with
  | nil => cases e
  | cons x t ih =>
    have hx := h x List.mem_cons_self
    unfold clr at e
    split at e
    · injection e with e; omega
    · split at e
      · injection e with e; omega
      · exact ih (fun y hy => h y (List.mem_cons_of_mem _ hy)) e
theorem CrOk.good {n : Int} {cr : Cr} (h : CrOk n cr) : GoodX cr where
  ns := fun x hx => by have := h.cx x hx; unfold CxOk at this; omega
  pos := fun i j w e => by
    have := clr_pos (B := 2) (fun x hx => by have := h.cx x hx; unfold CxOk at this; omega) e
    omega
  ne := List.length_pos_iff.mpr h.ne
  le := by have := h.le; omega
  cl := by have := h.cxl; omega
theorem GoodX.cell {cr : Cr} (h : GoodX cr) (i j : Int) : 0 ≤ cell cr.cx i j ∧ cell cr.cx i j ≤ 40 := by
  unfold GW.cell
  cases e : clr cr.cx i j with
  | none => simp
  | some w => exact h.pos i j w e
theorem GoodX.clg {cr : Cr} (h : GoodX cr) (st : List Int) : 0 ≤ clg cr.cx cr.mv.length st ∧ clg cr.cx cr.mv.length st ≤ 40 := by
  refine ⟨(fold_ge _ 0).1, ?_⟩
  rcases fold_mem (clrL cr.cx cr.mv.length st) 0 with e | e
  · show (clrL cr.cx cr.mv.length st).foldl mx 0 ≤ 40
    rw [e]; decide
  · obtain ⟨i, _, hi⟩ := List.mem_flatMap.mp e
    obtain ⟨j, _, hj⟩ := List.mem_map.mp hi
    have := h.cell i (j : Nat)
    show (clrL cr.cx cr.mv.length st).foldl mx 0 ≤ 40
    rw [← hj]; exact this.2
theorem GoodX.sgs {cr : Cr} (h : GoodX cr) : Sgs cr.cx cr.mv.length (stg cr.cx cr.mv.length) := stg_ok h.ns h.ne
theorem GoodX.sgl {cr : Cr} (h : GoodX cr) : (stg cr.cx cr.mv.length).length ≤ 64 := by
  have := h.sgs.len
  have := pow_6 h.le
  omega
theorem law_clearing_eq (cr : Cr) (st : List Int) (c : Src) (hg : GoodX cr) (hs : st.length ≤ 1000) : S__law_clearing [eCr cr, eT st] c = some (.int (clg cr.cx cr.mv.length st), c) := by
  have h6 := hg.le
  simp_arith! [m__law_clearing]
  refine wp_for (fun done _ s => ∃ (x3 x4 : Option D), s = ⟨[some (.val (eCr cr)), some (.val (eT st)), some (.val (.int (clg cr.cx cr.mv.length done))), jv x3, jv x4], c⟩) ⟨none, none, rfl⟩ ?_ ?_
  · rintro done i rest _ hx ⟨x3, x4, rfl⟩
    simp_arith
    refine ⟨okR_of (by omega) (by omega), ?_⟩
    rw [Int.toNat_natCast]
    refine wp_for (fun done2 _ s => ∃ (x4 : Option D), s = ⟨[some (.val (eCr cr)), some (.val (eT st)), some (.val (.int ((clrL cr.cx cr.mv.length done ++ done2.map fun j : Nat => cell cr.cx i (j : Nat)).foldl mx 0))), some (.val (.int i)), jv x4], c⟩) ⟨x4, by rw [List.map_nil, List.append_nil]; rfl⟩ ?_ ?_
    · rintro done2 j rest2 _ hx2 ⟨x4, rfl⟩
      have hge := (fold_ge (clrL cr.cx cr.mv.length done ++ done2.map fun j : Nat => cell cr.cx i (j : Nat)) 0).1
      have e : (clrL cr.cx cr.mv.length done ++ (done2 ++ [j]).map fun j : Nat => cell cr.cx i (j : Nat)).foldl mx 0 = mx ((clrL cr.cx cr.mv.length done ++ done2.map fun j : Nat => cell cr.cx i (j : Nat)).foldl mx 0) (cell cr.cx i (j : Nat)) := by
        rw [List.map_append, ← List.append_assoc, List.foldl_append]; rfl
      have z : cell cr.cx i (j : Nat) = 0 → mx ((clrL cr.cx cr.mv.length done ++ done2.map fun j : Nat => cell cr.cx i (j : Nat)).foldl mx 0) (cell cr.cx i (j : Nat)) = (clrL cr.cx cr.mv.length done ++ done2.map fun j : Nat => cell cr.cx i (j : Nat)).foldl mx 0 := fun z => by
        rw [z, mx_0 hge]
      rw [e]
      cases hc : clr cr.cx i (j : Nat) with
      | none =>
        rw [z (by unfold cell; rw [hc]; rfl)]
        simp_arith [cl_eq (law_clr_eq cr i j c), hc, eN]
        exact ⟨fun _ => ⟨some _, rfl⟩, fun _ => ⟨some _, rfl⟩⟩
      | some w =>
        have hij : ¬ i = (j : Nat) := fun h => by rw [h, clr_self hg.ns] at hc; cases hc
        simp_arith [cl_eq (law_clr_eq cr i j c), hc, eN]
        refine ⟨fun h => absurd h hij, fun _ => ⟨some (.int (j : Nat)), ?_⟩⟩
        have : cell cr.cx i (j : Nat) = w := by unfold cell; rw [hc]; rfl
        rw [this]; rfl
    · rintro _ ⟨x4, rfl⟩
      refine ⟨some (.int i), x4, ?_⟩
      have e : clrL cr.cx cr.mv.length (done ++ [i]) = clrL cr.cx cr.mv.length done ++ (List.range cr.mv.length).map fun j : Nat => cell cr.cx i (j : Nat) := by
        unfold clrL; rw [List.flatMap_append]; simp
      have e2 : clg cr.cx cr.mv.length (done ++ [i]) = (clrL cr.cx cr.mv.length done ++ (List.range cr.mv.length).map fun j : Nat => cell cr.cx i (j : Nat)).foldl mx 0 := by
        unfold clg; rw [e]
      rw [e2]
      rfl
  · rintro _ ⟨x3, x4, rfl⟩
    simp_arith
end GW
end

local macro_rules | `(tactic| simp_arith [$ls,*]) => `(tactic| simp only [↓GW.sm_lenE, ↓GW.sm_seqE, ↓GW.sm_ixE, ↓GW.sm_tupE, ↓GW.sm_tupEE, ↓GW.sm_slE, ↓GW.sm_addE, ↓GW.sm_lenR, ↓GW.sm_seqR, ↓GW.sm_ixR, ↓GW.sm_tupR, ↓GW.sm_slR, ↓GW.sm_addR, ↓GW.sm_cr0, ↓GW.sm_cr1, ↓GW.sm_cr2, ↓GW.sm_seqMvs, ↓GW.sm_lenMvs, ↓GW.sm_mv0, ↓GH.wp_ret, ↓GH.wp_lift, ↓GH.sm_some, ↓GH.sm_map, ↓GH.sm_bind, ↓GH.ifB_tt, ↓GH.ifB_ff, ↓GH.ifB_dec, ↓GH.ifB_not, ↓GH.nx_nx, ↓GH.nx_ret, ↓GH.nx_brk, ↓GH.nx_cnt, ↓GH.varAt_z, ↓GH.varAt_s, ↓GH.slAt_z, ↓GH.slAt_s, ↓GH.ownAt_z, ↓GH.ownAt_s, ↓GH.setAt_z, ↓GH.setAt_s, ↓GH.frzAt_z, ↓GH.frzAt_s, ↓GH.bor_val, ↓GH.bor_own, ↓GH.bor_ownK, ↓GH.bor_ownT, ↓GH.len_0, ↓GH.len_1, ↓GH.len_2, ↓GH.len_3, ↓GH.len_4, ↓GH.len_5, ↓GH.len_6, ↓GH.isB_bl, ↓GH.isI_int, ↓GH.wp_var, ↓GH.wp_frz, ↓GH.wp_C, ↓GH.wp_bin, ↓GH.wp_un, ↓GH.wp_tst, ↓GH.wp_tru, ↓GH.wp_and2, ↓GH.wp_or2, ↓GH.wp_not1, ↓GH.wp_eAnd, ↓GH.wp_eOr, ↓GH.wp_eIf, ↓GH.wp_chain, ↓GH.wp_aNil, ↓GH.wp_aCons, ↓GH.wp_aStar, ↓GH.wp_tup, ↓GH.wp_disp, ↓GH.wp_lst, ↓GH.wp_call, ↓GH.wp_callL, ↓GH.wp_fn, ↓GH.wp_fld, ↓GH.wp_oNo, ↓GH.wp_oAt, ↓GH.wp_sl, ↓GH.wp_here, ↓GH.wp_putL, ↓GH.wp_app, ↓GH.sm_app, ↓GH.wp_popAt, ↓GH.wp_bor, ↓GH.wp_tBor, ↓GH.isFlat_int, ↓GH.isFlat_bl, ↓GH.isFlat_non, ↓GH.isFlat_str, ↓GH.wp_seq, ↓GH.wp_nx, ↓GH.wp_sRet, ↓GH.wp_sIf, ↓GH.wp_sExpr, ↓GH.wp_asg, ↓GH.wp_gN, ↓GH.wp_gT, ↓GH.wp_gCons, ↓GH.wp_gNil, ↓GH.wp_set, ↓GH.wp_own, ↓GH.wp_aug, ↓GH.sm_aug, ↓GH.wp_ownGet, ↓GH.wp_augIx, ↓GH.wp_sFor, ↓GH.wp_pNil, ↓GH.wp_pVal, ↓GH.wp_pOwn, ↓GH.wp_par, ↓GH.sm_put0, ↓GH.sm_put, ↓GH.wp_iSeq, ↓GH.wp_rg1, ↓GH.wp_rg2, ↓GH.wp_enum, ↓GH.wp_zip2, ↓GH.sm_addI, ↓GH.sm_addT, ↓GH.sm_addL, ↓GH.sm_subI, ↓GH.sm_mulI, ↓GH.sm_mulL, ↓GH.sm_modI, ↓GH.sm_fdivI, ↓GH.sm_ltI, ↓GH.sm_leI, ↓GH.sm_gtI, ↓GH.sm_geI, ↓GH.sm_eqI, ↓GH.sm_neI, ↓GH.sm_ixT, ↓GH.sm_ixL, ↓GH.at_0, ↓GH.at_1, ↓GH.at_2, ↓GH.at_3, ↓GH.at_4, ↓GH.at_map, ↓GH.sm_lenL, ↓GH.sm_lenT, ↓GH.sm_intI, ↓GH.sm_intB, ↓GH.sm_absI, ↓GH.sm_tupT, ↓GH.sm_lstL, ↓GH.sm_lstT, ↓GH.sm_sumL1, ↓GH.sm_sumT1, ↓GH.sm_sumL, ↓GH.sm_sumT, ↓GH.sm_maxI, ↓GH.sm_maxL1, ↓GH.sm_maxL, ↓GH.sm_anyL, ↓GH.sm_allL, ↓GH.sm_negI, ↓GH.sm_seqL, ↓GH.sm_seqT, ↓GH.sm_slL, ↓GH.sm_slT, ↓GH.sm_truB, ↓GH.sm_truN, ↓GH.sm_truI, ↓GH.sm_truL, ↓GH.sm_truT, ↓GH.sm_inR, ↓GH.sm_inT, ↓GH.sm_inL, ↓GH.sm_ninT, ↓GH.sm_ninL, ↓GH.sm_setL, ↓GH.wp_comp, ↓GH.wp_turn, ↓GH.lp_nx, ↓GH.lp_cnt, ↓GH.lp_brk, ↓GH.lp_ret, ↓GH.outR_ret, ↓GH.outR_nx, ↓GH.ownB_L, ↓GH.ownB_K, ↓GH.ownB_T, ↓GH.wp_nw, ↓GH.wp_nK0, ↓GH.wp_nT0, ↓GH.wp_ownN, ↓GH.wp_dgO, ↓GH.own2_K, ↓GH.own2_T, ↓GH.own2_s, ↓GH.wp_here2, ↓GH.wp_putD, ↓GH.putAt_s, ↓GH.putAt_K, ↓GH.putAt_T, ↓GH.wp_sPutD, ↓GH.sm_keyI, ↓GH.sm_keyS, ↓GH.sm_keysT, ↓GH.sm_dgK, ↓GH.sm_dgT, ↓GH.sm_dninK, ↓GH.sm_dninT, ↓GH.dctAt_KI, ↓GH.dctAt_T, ↓GH.dctAt_s, ↓GH.wp_forD, ↓GH.wp_lSl, ↓GH.sm_lstD, ↓GH.enumP_map, ↓GH.zip2P_map, ↓GH.sm_eqNilI, ↓GH.sm_neNilI, ↓GH.sm_eqIL, ↓GH.sm_neIL, ↓GH.sm_eqIT, ↓GH.sm_neIT, ↓GH.at_snoc, ↓GH.sm_ne3, ↓GH.sm_ne2, ↓GH.sm_srtI, ↓GH.wp_rgV, ↓GH.isR_rng, ↓GH.sm_rng1, ↓GH.wp_ext, ↓GH.sm_extL, GH.isV_none, GH.isV_val, GH.isV_jv, GH.allV_nil, GH.allV_cons, GH.jv_some, GH.jv_none, GH.out_nx, GH.kGet_lkp, GH.lkp_isSome, GH.borF, GH.bor_z, GH.bor_tt, GH.bor_no, GH.clean_nil, GH.clean_cons, GH.cleanAt_s, GH.cleanAt_n, GH.cleanAt_v, GH.cleanAt_j, GH.wipe_nil, GH.wipe_cons, GH.startE_z, GH.startE_n, GH.startE_s, eq_self, Option.isSome_map, List.set_cons_zero, List.set_cons_succ, List.cons_append, List.nil_append, and_true, true_and, and_self, true_implies, implies_true, not_false_eq_true, not_true_eq_false, false_implies, Option.some.injEq, List.contains_cons, List.contains_nil, Nat.reduceBEq, Bool.or_false, Bool.or_true, Bool.false_or, Bool.true_or, Nat.zero_add, Nat.reduceAdd, $ls,*])
local macro_rules | `(tactic| simp_all_arith [$ls,*]) => `(tactic| simp only [↓GW.sm_lenE, ↓GW.sm_seqE, ↓GW.sm_ixE, ↓GW.sm_tupE, ↓GW.sm_tupEE, ↓GW.sm_slE, ↓GW.sm_addE, ↓GW.sm_lenR, ↓GW.sm_seqR, ↓GW.sm_ixR, ↓GW.sm_tupR, ↓GW.sm_slR, ↓GW.sm_addR, ↓GW.sm_cr0, ↓GW.sm_cr1, ↓GW.sm_cr2, ↓GW.sm_seqMvs, ↓GW.sm_lenMvs, ↓GW.sm_mv0, ↓GH.wp_ret, ↓GH.wp_lift, ↓GH.sm_some, ↓GH.sm_map, ↓GH.sm_bind, ↓GH.ifB_tt, ↓GH.ifB_ff, ↓GH.ifB_dec, ↓GH.ifB_not, ↓GH.nx_nx, ↓GH.nx_ret, ↓GH.nx_brk, ↓GH.nx_cnt, ↓GH.varAt_z, ↓GH.varAt_s, ↓GH.slAt_z, ↓GH.slAt_s, ↓GH.ownAt_z, ↓GH.ownAt_s, ↓GH.setAt_z, ↓GH.setAt_s, ↓GH.frzAt_z, ↓GH.frzAt_s, ↓GH.bor_val, ↓GH.bor_own, ↓GH.bor_ownK, ↓GH.bor_ownT, ↓GH.len_0, ↓GH.len_1, ↓GH.len_2, ↓GH.len_3, ↓GH.len_4, ↓GH.len_5, ↓GH.len_6, ↓GH.isB_bl, ↓GH.isI_int, ↓GH.wp_var, ↓GH.wp_frz, ↓GH.wp_C, ↓GH.wp_bin, ↓GH.wp_un, ↓GH.wp_tst, ↓GH.wp_tru, ↓GH.wp_and2, ↓GH.wp_or2, ↓GH.wp_not1, ↓GH.wp_eAnd, ↓GH.wp_eOr, ↓GH.wp_eIf, ↓GH.wp_chain, ↓GH.wp_aNil, ↓GH.wp_aCons, ↓GH.wp_aStar, ↓GH.wp_tup, ↓GH.wp_disp, ↓GH.wp_lst, ↓GH.wp_call, ↓GH.wp_callL, ↓GH.wp_fn, ↓GH.wp_fld, ↓GH.wp_oNo, ↓GH.wp_oAt, ↓GH.wp_sl, ↓GH.wp_here, ↓GH.wp_putL, ↓GH.wp_app, ↓GH.sm_app, ↓GH.wp_popAt, ↓GH.wp_bor, ↓GH.wp_tBor, ↓GH.isFlat_int, ↓GH.isFlat_bl, ↓GH.isFlat_non, ↓GH.isFlat_str, ↓GH.wp_nx, ↓GH.wp_sRet, ↓GH.wp_sIf, ↓GH.wp_sExpr, ↓GH.wp_asg, ↓GH.wp_gN, ↓GH.wp_gT, ↓GH.wp_gCons, ↓GH.wp_gNil, ↓GH.wp_set, ↓GH.wp_own, ↓GH.wp_aug, ↓GH.sm_aug, ↓GH.wp_ownGet, ↓GH.wp_augIx, ↓GH.wp_sFor, ↓GH.wp_pNil, ↓GH.wp_pVal, ↓GH.wp_pOwn, ↓GH.wp_par, ↓GH.sm_put0, ↓GH.sm_put, ↓GH.wp_iSeq, ↓GH.wp_rg1, ↓GH.wp_rg2, ↓GH.wp_enum, ↓GH.wp_zip2, ↓GH.sm_addI, ↓GH.sm_addT, ↓GH.sm_addL, ↓GH.sm_subI, ↓GH.sm_mulI, ↓GH.sm_mulL, ↓GH.sm_modI, ↓GH.sm_fdivI, ↓GH.sm_ltI, ↓GH.sm_leI, ↓GH.sm_gtI, ↓GH.sm_geI, ↓GH.sm_eqI, ↓GH.sm_neI, ↓GH.sm_ixT, ↓GH.sm_ixL, ↓GH.at_0, ↓GH.at_1, ↓GH.at_2, ↓GH.at_3, ↓GH.at_4, ↓GH.at_map, ↓GH.sm_lenL, ↓GH.sm_lenT, ↓GH.sm_intI, ↓GH.sm_intB, ↓GH.sm_absI, ↓GH.sm_tupT, ↓GH.sm_lstL, ↓GH.sm_lstT, ↓GH.sm_sumL1, ↓GH.sm_sumT1, ↓GH.sm_sumL, ↓GH.sm_sumT, ↓GH.sm_maxI, ↓GH.sm_maxL1, ↓GH.sm_maxL, ↓GH.sm_anyL, ↓GH.sm_allL, ↓GH.sm_negI, ↓GH.sm_seqL, ↓GH.sm_seqT, ↓GH.sm_slL, ↓GH.sm_slT, ↓GH.sm_truB, ↓GH.sm_truN, ↓GH.sm_truI, ↓GH.sm_truL, ↓GH.sm_truT, ↓GH.sm_inR, ↓GH.sm_inT, ↓GH.sm_inL, ↓GH.sm_ninT, ↓GH.sm_ninL, ↓GH.sm_setL, ↓GH.wp_comp, ↓GH.wp_turn, ↓GH.lp_nx, ↓GH.lp_cnt, ↓GH.lp_brk, ↓GH.lp_ret, ↓GH.outR_ret, ↓GH.outR_nx, ↓GH.ownB_L, ↓GH.ownB_K, ↓GH.ownB_T, ↓GH.wp_nw, ↓GH.wp_nK0, ↓GH.wp_nT0, ↓GH.wp_ownN, ↓GH.wp_dgO, ↓GH.own2_K, ↓GH.own2_T, ↓GH.own2_s, ↓GH.wp_here2, ↓GH.wp_putD, ↓GH.putAt_s, ↓GH.putAt_K, ↓GH.putAt_T, ↓GH.wp_sPutD, ↓GH.sm_keyI, ↓GH.sm_keyS, ↓GH.sm_keysT, ↓GH.sm_dgK, ↓GH.sm_dgT, ↓GH.sm_dninK, ↓GH.sm_dninT, ↓GH.dctAt_KI, ↓GH.dctAt_T, ↓GH.dctAt_s, ↓GH.wp_forD, ↓GH.wp_lSl, ↓GH.sm_lstD, ↓GH.enumP_map, ↓GH.zip2P_map, ↓GH.sm_eqNilI, ↓GH.sm_neNilI, ↓GH.sm_eqIL, ↓GH.sm_neIL, ↓GH.sm_eqIT, ↓GH.sm_neIT, ↓GH.at_snoc, ↓GH.sm_ne3, ↓GH.sm_ne2, ↓GH.sm_srtI, ↓GH.wp_rgV, ↓GH.isR_rng, ↓GH.sm_rng1, ↓GH.wp_ext, ↓GH.sm_extL, GH.isV_none, GH.isV_val, GH.isV_jv, GH.allV_nil, GH.allV_cons, GH.jv_some, GH.jv_none, GH.out_nx, GH.kGet_lkp, GH.lkp_isSome, GH.borF, GH.bor_z, GH.bor_tt, GH.bor_no, GH.clean_nil, GH.clean_cons, GH.cleanAt_s, GH.cleanAt_n, GH.cleanAt_v, GH.cleanAt_j, GH.wipe_nil, GH.wipe_cons, GH.startE_z, GH.startE_n, GH.startE_s, eq_self, Option.isSome_map, List.set_cons_zero, List.set_cons_succ, List.cons_append, List.nil_append, and_true, true_and, and_self, true_implies, implies_true, not_false_eq_true, not_true_eq_false, false_implies, Option.some.injEq, List.contains_cons, List.contains_nil, Nat.reduceBEq, Bool.or_false, Bool.or_true, Bool.false_or, Bool.true_or, Nat.zero_add, Nat.reduceAdd, $ls,*])
local macro_rules | `(tactic| simp_all_arith) => `(tactic| simp_all_arith [and_true])
local macro_rules | `(tactic| simp_arith! [$ls,*]) => `(tactic| (refine GH.fn_val ?_; simp only [GH.startE_s, GH.startE_n, GH.startE_z, $ls,*]; simp_arith [$ls,*]))
local macro_rules | `(tactic| simp_arith) => `(tactic| simp_arith [and_true])
noncomputable section
namespace GW
open GH
section
variable {α β : Type} {vs vs1 : List Nat} {g g1 : D → M Unit} {c c1 : M Bool} {el : M D} {it it1 : M (List D)} {env : List (Option Sl)} {s : S} {src : Src}
def compE2 (vs vs1 : List Nat) (g : D → M Unit) (c : M Bool) (it1 : M (List D)) (g1 : D → M Unit) (c1 : M Bool) (el : M D) (ds : List D) : M (List D) := fun s1 =>
  match outF vs (cOut vs vs1 g c it1 g1 c1 el) ds s1 with
    | some (ys, sn) => if ys.length ≤ PySem.sizeLine then some (ys, { sn with env := restE s1.env sn.env vs }) else none
    | none => none
theorem wp_comp2 {Q : List D → S → Prop} : Wp (eComp2 vs vs1 g c it1 g1 c1 el it) s Q ↔ Wp it s fun ds s1 => Wp (compE2 vs vs1 g c it1 g1 c1 el ds) s1 Q := wp_bnd
theorem wp_comp2M {enc : α → D} {enc1 : β → D} (f : α → β → D) {xs : List α} {ys : List β} {Q : List D → S → Prop} (sub : ∀ i ∈ vs1, i ∈ vs) (hl : (xs.flatMap fun x => ys.map (f x)).length ≤ 100000) (cl : cleanE env vs)
    (step : ∀ x ∈ xs, Wp (g (enc x)) ⟨wipeE env vs, src⟩ fun _ s1 => s1.src = src ∧ wipeE s1.env vs = wipeE env vs ∧ Wp it1 s1 (fun ds s2 => ds = ys.map enc1 ∧ s2 = s1) ∧
      ∀ y ∈ ys, Wp (turnC g1 c1 el (enc1 y)) ⟨wipeE s1.env vs1, src⟩ fun o s2 => o = some (f x y) ∧ s2.src = src ∧ wipeE s2.env vs1 = wipeE s1.env vs1)
    (q : Q (xs.flatMap fun x => ys.map (f x)) ⟨env, src⟩) : Wp (compE2 vs vs1 g (ret true) it1 g1 c1 el (xs.map enc)) ⟨env, src⟩ Q := by
  obtain ⟨env2, h3, h4⟩ := outF_map (vs := vs) (vs1 := vs1) (g := g) (g1 := g1) (c1 := c1) (el := el) (it1 := it1) (env := env) (f := f) (ys := ys) (enc := enc) (enc1 := enc1) (xs := xs) (src := src) sub (env0 := env) rfl fun x hx => by
    obtain ⟨⟨⟩, ⟨env1, src1⟩, e1, h1, h2, ⟨ds, s2, e2, e3, e4⟩, h5⟩ := step x hx
    simp only at h1
    subst h1
    rw [e3, e4] at e2
    refine ⟨env1, e1, h2, e2, fun y hy => ?_⟩
    obtain ⟨o, ⟨env3, src3⟩, a1, a2, a3, a4⟩ := h5 y hy
    simp only at a3
    subst a3
    exact ⟨env3, by rw [a1, a2], a4⟩
  refine ⟨_, ⟨env, src⟩, ?_, q⟩
  show (match outF vs (cOut vs vs1 g (ret true) it1 g1 c1 el) (xs.map enc) ⟨env, src⟩ with
    | some (ys, sn) => if ys.length ≤ PySem.sizeLine then some (ys, { sn with env := restE env sn.env vs }) else none
    | none => none) = _
  rw [h3]
  show (if (xs.flatMap fun x => ys.map (f x)).length ≤ PySem.sizeLine then some (xs.flatMap fun x => ys.map (f x), (⟨restE env env2 vs, src⟩ : S)) else none) = _
  rw [if_pos (sz _ hl), rest_clean h4 cl]
end
theorem maxL_clg {cr : Cr} (hg : GoodX cr) {st : List Int} (h : clrL cr.cx cr.mv.length st ≠ []) : maxL (clrL cr.cx cr.mv.length st) = clg cr.cx cr.mv.length st := by
  obtain ⟨m1, m2⟩ := maxL_spec h
  have h1 := (fold_ge (clrL cr.cx cr.mv.length st) 0).2 _ m1
  have hp : 0 ≤ maxL (clrL cr.cx cr.mv.length st) := by
    obtain ⟨i, _, hi⟩ := List.mem_flatMap.mp m1
    obtain ⟨j, _, hj⟩ := List.mem_map.mp hi
    rw [← hj]; exact (hg.cell i (j : Nat)).1
  unfold clg
  rcases fold_mem (clrL cr.cx cr.mv.length st) 0 with e | e
  · omega
  · have := m2 _ e; omega
theorem clrL_ne {cx : List C4} {n : Nat} {st : List Int} (hn : 1 ≤ n) (h : st ≠ []) : clrL cx n st ≠ [] := by
  obtain ⟨i, t, rfl⟩ := List.exists_cons_of_ne_nil h
  unfold clrL
  rw [List.flatMap_cons]
  intro z
  have := congrArg List.length z
  simp at this
  omega
theorem clear_eq (cr : Cr) (s : Int) (c : Src) (hg : GoodX cr) (h0 : 0 ≤ s) (h1 : s < (stg cr.cx cr.mv.length).length) : S_clear_ticks [eCr cr, .int s] c = some (.int (clg cr.cx cr.mv.length (nth (stg cr.cx cr.mv.length) s)), c) := by
  have h6 := hg.le
  have hlot := hg.sgs.lot _ (nth_mem (xs := stg cr.cx cr.mv.length) h0 h1)
  have hlen := hlot.2.len
  simp_arith! [m_clear_ticks]
  rw [wp_comp2]
  simp_arith [cl_eq (stages_eq cr c hg.ns (by have := hg.cl; omega) hg.ne hg.le), at_nth (xs := stg cr.cx cr.mv.length) h0 h1]
  refine wp_comp2M (enc := D.int) (enc1 := fun k : Nat => D.int (0 + (k : Nat))) (xs := nth (stg cr.cx cr.mv.length) s) (ys := List.range cr.mv.length) (fun i k => D.int (cell cr.cx i (0 + (k : Nat)))) (by simp) ?_ (by simp_arith) (fun i _ => ?_) ?_
  · rw [List.length_flatMap]
    simp only [List.length_map, List.length_range]
    have : ∀ l : List Int, (l.map fun _ => cr.mv.length).sum = l.length * cr.mv.length := fun l => by
      induction l with
      | nil => simp
      | cons a t ih => rw [List.map_cons, List.sum_cons, ih, List.length_cons, Nat.add_mul]; omega
    rw [this]
    have := Nat.mul_le_mul hlen h6
    have := Nat.mul_le_mul h6 h6
    have : cr.mv.length * 6 ≤ 36 := by omega
    omega
  · simp_arith
    refine ⟨⟨okR_of (by omega) (by omega), okR_of (by omega) (by omega), ?_⟩, fun y _ => ?_⟩
    · rw [show ((cr.mv.length : Int) - 0).toNat = cr.mv.length by omega]
    · simp_arith [cl_eq (clr_eq cr i (0 + (y : Nat)) c)]
      rfl
  · have e : ((nth (stg cr.cx cr.mv.length) s).flatMap fun i => (List.range cr.mv.length).map fun k : Nat => D.int (cell cr.cx i (0 + (k : Nat)))) = (clrL cr.cx cr.mv.length (nth (stg cr.cx cr.mv.length) s)).map D.int := by
      unfold clrL
      rw [List.map_flatMap]
      congr 1
      funext i
      rw [List.map_map]
      congr 1
      funext k
      simp
    rw [e]
    simp_arith
    refine ⟨clrL_ne hg.ne hlot.1, ?_⟩
    rw [maxL_clg hg (clrL_ne hg.ne hlot.1)]
end GW
end

local macro_rules | `(tactic| simp_arith [$ls,*]) => `(tactic| simp only [↓GW.sm_lenE, ↓GW.sm_seqE, ↓GW.sm_ixE, ↓GW.sm_tupE, ↓GW.sm_tupEE, ↓GW.sm_slE, ↓GW.sm_addE, ↓GW.sm_lenR, ↓GW.sm_seqR, ↓GW.sm_ixR, ↓GW.sm_tupR, ↓GW.sm_slR, ↓GW.sm_addR, ↓GW.sm_cr0, ↓GW.sm_cr1, ↓GW.sm_cr2, ↓GW.sm_seqMvs, ↓GW.sm_lenMvs, ↓GW.sm_mv0, ↓GH.wp_ret, ↓GH.wp_lift, ↓GH.sm_some, ↓GH.sm_map, ↓GH.sm_bind, ↓GH.ifB_tt, ↓GH.ifB_ff, ↓GH.ifB_dec, ↓GH.ifB_not, ↓GH.nx_nx, ↓GH.nx_ret, ↓GH.nx_brk, ↓GH.nx_cnt, ↓GH.varAt_z, ↓GH.varAt_s, ↓GH.slAt_z, ↓GH.slAt_s, ↓GH.ownAt_z, ↓GH.ownAt_s, ↓GH.setAt_z, ↓GH.setAt_s, ↓GH.frzAt_z, ↓GH.frzAt_s, ↓GH.bor_val, ↓GH.bor_own, ↓GH.bor_ownK, ↓GH.bor_ownT, ↓GH.len_0, ↓GH.len_1, ↓GH.len_2, ↓GH.len_3, ↓GH.len_4, ↓GH.len_5, ↓GH.len_6, ↓GH.isB_bl, ↓GH.isI_int, ↓GH.wp_var, ↓GH.wp_frz, ↓GH.wp_C, ↓GH.wp_bin, ↓GH.wp_un, ↓GH.wp_tst, ↓GH.wp_tru, ↓GH.wp_and2, ↓GH.wp_or2, ↓GH.wp_not1, ↓GH.wp_eAnd, ↓GH.wp_eOr, ↓GH.wp_eIf, ↓GH.wp_chain, ↓GH.wp_aNil, ↓GH.wp_aCons, ↓GH.wp_aStar, ↓GH.wp_tup, ↓GH.wp_disp, ↓GH.wp_lst, ↓GH.wp_call, ↓GH.wp_callL, ↓GH.wp_fn, ↓GH.wp_fld, ↓GH.wp_oNo, ↓GH.wp_oAt, ↓GH.wp_sl, ↓GH.wp_here, ↓GH.wp_putL, ↓GH.wp_app, ↓GH.sm_app, ↓GH.wp_popAt, ↓GH.wp_bor, ↓GH.wp_tBor, ↓GH.isFlat_int, ↓GH.isFlat_bl, ↓GH.isFlat_non, ↓GH.isFlat_str, ↓GH.wp_seq, ↓GH.wp_nx, ↓GH.wp_sRet, ↓GH.wp_sIf, ↓GH.wp_sExpr, ↓GH.wp_asg, ↓GH.wp_gN, ↓GH.wp_gT, ↓GH.wp_gCons, ↓GH.wp_gNil, ↓GH.wp_set, ↓GH.wp_own, ↓GH.wp_aug, ↓GH.sm_aug, ↓GH.wp_ownGet, ↓GH.wp_augIx, ↓GH.wp_sFor, ↓GH.wp_pNil, ↓GH.wp_pVal, ↓GH.wp_pOwn, ↓GH.wp_par, ↓GH.sm_put0, ↓GH.sm_put, ↓GH.wp_iSeq, ↓GH.wp_rg1, ↓GH.wp_rg2, ↓GH.wp_enum, ↓GH.wp_zip2, ↓GH.sm_addI, ↓GH.sm_addT, ↓GH.sm_addL, ↓GH.sm_subI, ↓GH.sm_mulI, ↓GH.sm_mulL, ↓GH.sm_modI, ↓GH.sm_fdivI, ↓GH.sm_ltI, ↓GH.sm_leI, ↓GH.sm_gtI, ↓GH.sm_geI, ↓GH.sm_eqI, ↓GH.sm_neI, ↓GH.sm_notN, ↓GH.sm_ixT, ↓GH.sm_ixL, ↓GH.at_0, ↓GH.at_1, ↓GH.at_2, ↓GH.at_3, ↓GH.at_4, ↓GH.at_map, ↓GH.sm_lenL, ↓GH.sm_lenT, ↓GH.sm_intI, ↓GH.sm_intB, ↓GH.sm_absI, ↓GH.sm_tupT, ↓GH.sm_lstL, ↓GH.sm_lstT, ↓GH.sm_sumL1, ↓GH.sm_sumT1, ↓GH.sm_sumL, ↓GH.sm_sumT, ↓GH.sm_maxI, ↓GH.sm_maxL1, ↓GH.sm_maxL, ↓GH.sm_anyL, ↓GH.sm_allL, ↓GH.sm_negI, ↓GH.sm_seqL, ↓GH.sm_seqT, ↓GH.sm_slL, ↓GH.sm_slT, ↓GH.sm_truB, ↓GH.sm_truN, ↓GH.sm_truI, ↓GH.sm_truL, ↓GH.sm_truT, ↓GH.sm_inR, ↓GH.sm_inT, ↓GH.sm_inL, ↓GH.sm_ninT, ↓GH.sm_ninL, ↓GH.sm_setL, ↓GH.wp_comp, ↓GH.wp_turn, ↓GH.lp_nx, ↓GH.lp_cnt, ↓GH.lp_brk, ↓GH.lp_ret, ↓GH.outR_ret, ↓GH.outR_nx, ↓GH.ownB_L, ↓GH.ownB_K, ↓GH.ownB_T, ↓GH.wp_nw, ↓GH.wp_nK0, ↓GH.wp_nT0, ↓GH.wp_ownN, ↓GH.wp_dgO, ↓GH.own2_K, ↓GH.own2_T, ↓GH.own2_s, ↓GH.wp_here2, ↓GH.wp_putD, ↓GH.putAt_s, ↓GH.putAt_K, ↓GH.putAt_T, ↓GH.wp_sPutD, ↓GH.sm_keyI, ↓GH.sm_keyS, ↓GH.sm_keysT, ↓GH.sm_dgK, ↓GH.sm_dgT, ↓GH.sm_dninK, ↓GH.sm_dninT, ↓GH.dctAt_KI, ↓GH.dctAt_T, ↓GH.dctAt_s, ↓GH.wp_forD, ↓GH.wp_lSl, ↓GH.sm_lstD, ↓GH.enumP_map, ↓GH.zip2P_map, ↓GH.sm_eqNilI, ↓GH.sm_neNilI, ↓GH.sm_eqIL, ↓GH.sm_neIL, ↓GH.sm_eqIT, ↓GH.sm_neIT, ↓GH.at_snoc, ↓GH.sm_ne3, ↓GH.sm_ne2, ↓GH.sm_srtI, ↓GH.wp_rgV, ↓GH.isR_rng, ↓GH.sm_rng1, ↓GH.wp_ext, ↓GH.sm_extL, GH.isV_none, GH.isV_val, GH.isV_jv, GH.allV_nil, GH.allV_cons, GH.jv_some, GH.jv_none, GH.out_nx, GH.kGet_lkp, GH.lkp_isSome, GH.borF, GH.bor_z, GH.bor_tt, GH.bor_no, GH.clean_nil, GH.clean_cons, GH.cleanAt_s, GH.cleanAt_n, GH.cleanAt_v, GH.cleanAt_j, GH.wipe_nil, GH.wipe_cons, GH.startE_z, GH.startE_n, GH.startE_s, eq_self, Option.isSome_map, List.set_cons_zero, List.set_cons_succ, List.cons_append, List.nil_append, and_true, true_and, and_self, true_implies, implies_true, not_false_eq_true, not_true_eq_false, false_implies, Option.some.injEq, List.contains_cons, List.contains_nil, Nat.reduceBEq, Bool.or_false, Bool.or_true, Bool.false_or, Bool.true_or, Nat.zero_add, Nat.reduceAdd, $ls,*])
local macro_rules | `(tactic| simp_all_arith [$ls,*]) => `(tactic| simp only [↓GW.sm_lenE, ↓GW.sm_seqE, ↓GW.sm_ixE, ↓GW.sm_tupE, ↓GW.sm_tupEE, ↓GW.sm_slE, ↓GW.sm_addE, ↓GW.sm_lenR, ↓GW.sm_seqR, ↓GW.sm_ixR, ↓GW.sm_tupR, ↓GW.sm_slR, ↓GW.sm_addR, ↓GW.sm_cr0, ↓GW.sm_cr1, ↓GW.sm_cr2, ↓GW.sm_seqMvs, ↓GW.sm_lenMvs, ↓GW.sm_mv0, ↓GH.wp_ret, ↓GH.wp_lift, ↓GH.sm_some, ↓GH.sm_map, ↓GH.sm_bind, ↓GH.ifB_tt, ↓GH.ifB_ff, ↓GH.ifB_dec, ↓GH.ifB_not, ↓GH.nx_nx, ↓GH.nx_ret, ↓GH.nx_brk, ↓GH.nx_cnt, ↓GH.varAt_z, ↓GH.varAt_s, ↓GH.slAt_z, ↓GH.slAt_s, ↓GH.ownAt_z, ↓GH.ownAt_s, ↓GH.setAt_z, ↓GH.setAt_s, ↓GH.frzAt_z, ↓GH.frzAt_s, ↓GH.bor_val, ↓GH.bor_own, ↓GH.bor_ownK, ↓GH.bor_ownT, ↓GH.len_0, ↓GH.len_1, ↓GH.len_2, ↓GH.len_3, ↓GH.len_4, ↓GH.len_5, ↓GH.len_6, ↓GH.isB_bl, ↓GH.isI_int, ↓GH.wp_var, ↓GH.wp_frz, ↓GH.wp_C, ↓GH.wp_bin, ↓GH.wp_un, ↓GH.wp_tst, ↓GH.wp_tru, ↓GH.wp_and2, ↓GH.wp_or2, ↓GH.wp_not1, ↓GH.wp_eAnd, ↓GH.wp_eOr, ↓GH.wp_eIf, ↓GH.wp_chain, ↓GH.wp_aNil, ↓GH.wp_aCons, ↓GH.wp_aStar, ↓GH.wp_tup, ↓GH.wp_disp, ↓GH.wp_lst, ↓GH.wp_call, ↓GH.wp_callL, ↓GH.wp_fn, ↓GH.wp_fld, ↓GH.wp_oNo, ↓GH.wp_oAt, ↓GH.wp_sl, ↓GH.wp_here, ↓GH.wp_putL, ↓GH.wp_app, ↓GH.sm_app, ↓GH.wp_popAt, ↓GH.wp_bor, ↓GH.wp_tBor, ↓GH.isFlat_int, ↓GH.isFlat_bl, ↓GH.isFlat_non, ↓GH.isFlat_str, ↓GH.wp_nx, ↓GH.wp_sRet, ↓GH.wp_sIf, ↓GH.wp_sExpr, ↓GH.wp_asg, ↓GH.wp_gN, ↓GH.wp_gT, ↓GH.wp_gCons, ↓GH.wp_gNil, ↓GH.wp_set, ↓GH.wp_own, ↓GH.wp_aug, ↓GH.sm_aug, ↓GH.wp_ownGet, ↓GH.wp_augIx, ↓GH.wp_sFor, ↓GH.wp_pNil, ↓GH.wp_pVal, ↓GH.wp_pOwn, ↓GH.wp_par, ↓GH.sm_put0, ↓GH.sm_put, ↓GH.wp_iSeq, ↓GH.wp_rg1, ↓GH.wp_rg2, ↓GH.wp_enum, ↓GH.wp_zip2, ↓GH.sm_addI, ↓GH.sm_addT, ↓GH.sm_addL, ↓GH.sm_subI, ↓GH.sm_mulI, ↓GH.sm_mulL, ↓GH.sm_modI, ↓GH.sm_fdivI, ↓GH.sm_ltI, ↓GH.sm_leI, ↓GH.sm_gtI, ↓GH.sm_geI, ↓GH.sm_eqI, ↓GH.sm_neI, ↓GH.sm_notN, ↓GH.sm_ixT, ↓GH.sm_ixL, ↓GH.at_0, ↓GH.at_1, ↓GH.at_2, ↓GH.at_3, ↓GH.at_4, ↓GH.at_map, ↓GH.sm_lenL, ↓GH.sm_lenT, ↓GH.sm_intI, ↓GH.sm_intB, ↓GH.sm_absI, ↓GH.sm_tupT, ↓GH.sm_lstL, ↓GH.sm_lstT, ↓GH.sm_sumL1, ↓GH.sm_sumT1, ↓GH.sm_sumL, ↓GH.sm_sumT, ↓GH.sm_maxI, ↓GH.sm_maxL1, ↓GH.sm_maxL, ↓GH.sm_anyL, ↓GH.sm_allL, ↓GH.sm_negI, ↓GH.sm_seqL, ↓GH.sm_seqT, ↓GH.sm_slL, ↓GH.sm_slT, ↓GH.sm_truB, ↓GH.sm_truN, ↓GH.sm_truI, ↓GH.sm_truL, ↓GH.sm_truT, ↓GH.sm_inR, ↓GH.sm_inT, ↓GH.sm_inL, ↓GH.sm_ninT, ↓GH.sm_ninL, ↓GH.sm_setL, ↓GH.wp_comp, ↓GH.wp_turn, ↓GH.lp_nx, ↓GH.lp_cnt, ↓GH.lp_brk, ↓GH.lp_ret, ↓GH.outR_ret, ↓GH.outR_nx, ↓GH.ownB_L, ↓GH.ownB_K, ↓GH.ownB_T, ↓GH.wp_nw, ↓GH.wp_nK0, ↓GH.wp_nT0, ↓GH.wp_ownN, ↓GH.wp_dgO, ↓GH.own2_K, ↓GH.own2_T, ↓GH.own2_s, ↓GH.wp_here2, ↓GH.wp_putD, ↓GH.putAt_s, ↓GH.putAt_K, ↓GH.putAt_T, ↓GH.wp_sPutD, ↓GH.sm_keyI, ↓GH.sm_keyS, ↓GH.sm_keysT, ↓GH.sm_dgK, ↓GH.sm_dgT, ↓GH.sm_dninK, ↓GH.sm_dninT, ↓GH.dctAt_KI, ↓GH.dctAt_T, ↓GH.dctAt_s, ↓GH.wp_forD, ↓GH.wp_lSl, ↓GH.sm_lstD, ↓GH.enumP_map, ↓GH.zip2P_map, ↓GH.sm_eqNilI, ↓GH.sm_neNilI, ↓GH.sm_eqIL, ↓GH.sm_neIL, ↓GH.sm_eqIT, ↓GH.sm_neIT, ↓GH.at_snoc, ↓GH.sm_ne3, ↓GH.sm_ne2, ↓GH.sm_srtI, ↓GH.wp_rgV, ↓GH.isR_rng, ↓GH.sm_rng1, ↓GH.wp_ext, ↓GH.sm_extL, GH.isV_none, GH.isV_val, GH.isV_jv, GH.allV_nil, GH.allV_cons, GH.jv_some, GH.jv_none, GH.out_nx, GH.kGet_lkp, GH.lkp_isSome, GH.borF, GH.bor_z, GH.bor_tt, GH.bor_no, GH.clean_nil, GH.clean_cons, GH.cleanAt_s, GH.cleanAt_n, GH.cleanAt_v, GH.cleanAt_j, GH.wipe_nil, GH.wipe_cons, GH.startE_z, GH.startE_n, GH.startE_s, eq_self, Option.isSome_map, List.set_cons_zero, List.set_cons_succ, List.cons_append, List.nil_append, and_true, true_and, and_self, true_implies, implies_true, not_false_eq_true, not_true_eq_false, false_implies, Option.some.injEq, List.contains_cons, List.contains_nil, Nat.reduceBEq, Bool.or_false, Bool.or_true, Bool.false_or, Bool.true_or, Nat.zero_add, Nat.reduceAdd, $ls,*])
local macro_rules | `(tactic| simp_all_arith) => `(tactic| simp_all_arith [and_true])
local macro_rules | `(tactic| simp_arith! [$ls,*]) => `(tactic| (refine GH.fn_val ?_; simp only [GH.startE_s, GH.startE_n, GH.startE_z, $ls,*]; simp_arith [$ls,*]))
local macro_rules | `(tactic| simp_arith) => `(tactic| simp_arith [and_true])
noncomputable section
namespace GW
open GH
def stgS (cr : Cr) (s : Int) : List Int := nth (stg cr.cx cr.mv.length) s
def clgS (cr : Cr) (s : Int) : Int := clg cr.cx cr.mv.length (stgS cr s)
def need (cr : Cr) (plan : List (Int × Int)) : Int := (plan.map fun p => p.2 + clgS cr p.1).sum
structure PlanG (cr : Cr) (plan : List (Int × Int)) : Prop where
  len : plan.length ≤ 64
  inn : ∀ p ∈ plan, 0 ≤ p.1 ∧ p.1 < (stg cr.cx cr.mv.length).length ∧ 1 ≤ p.2
  fit : need cr plan ≤ cr.len
def ePl (pl : List (Int × Int)) : D := .tup (pl.map eP2)
theorem sm_addPl {pl : List (Int × Int)} {a b : Int} {P : D → Prop} : Sm (addD (ePl pl) (.tup [.tup [.int a, .int b]])) P ↔ pl.length + 1 ≤ 16777216 ∧ P (ePl (pl ++ [(a, b)])) := by
  unfold ePl; rw [sm_addT, List.map_append, List.length_map]; rfl
theorem GoodX.st {cr : Cr} (hg : GoodX cr) {s : Int} (h0 : 0 ≤ s) (h1 : s < (stg cr.cx cr.mv.length).length) : stgS cr s ≠ [] ∧ Lot cr.cx cr.mv.length (stgS cr s) := hg.sgs.lot _ (nth_mem (xs := stg cr.cx cr.mv.length) h0 h1)
theorem GoodX.clgS {cr : Cr} (hg : GoodX cr) (s : Int) : 0 ≤ clgS cr s ∧ clgS cr s ≤ 40 := hg.clg _
end GW
end

noncomputable section
namespace GW
open GH
theorem sm_seqPl {pl : List (Int × Int)} {P : List D → Prop} : Sm (seqD (ePl pl)) P ↔ P (pl.map eP2) := sm_some
def segR (cr : Cr) (p : Int × Int) : List (List Int) := List.replicate p.2.toNat (stgS cr p.1) ++ List.replicate (clgS cr p.1).toNat []
def someR (cr : Cr) (plan : List (Int × Int)) : List (List Int) := plan.flatMap (segR cr)
def frmR (cr : Cr) (plan : List (Int × Int)) : List (List Int) := someR cr plan ++ List.replicate (cr.len - (someR cr plan).length).toNat []
def lampsF (cr : Cr) (plans : List (List (Int × Int))) : List (List Int) := plans.flatMap (frmR cr)
theorem some_len {cr : Cr} (hg : GoodX cr) : ∀ {plan : List (Int × Int)}, (∀ p ∈ plan, 1 ≤ p.2) → ((someR cr plan).length : Int) = need cr plan
  | [], _ => rfl
  | p :: t, h => by
    have ih := some_len hg (plan := t) fun q hq => h q (List.mem_cons_of_mem _ hq)
    have h1 := h p List.mem_cons_self
    have h2 := hg.clgS p.1
    have e : someR cr (p :: t) = segR cr p ++ someR cr t := rfl
    have e2 : need cr (p :: t) = (p.2 + clgS cr p.1) + need cr t := rfl
    rw [e, e2, List.length_append]
    unfold segR
    rw [List.length_append, List.length_replicate, List.length_replicate]
    omega
theorem need_app (cr : Cr) (a b : List (Int × Int)) : need cr (a ++ b) = need cr a + need cr b := by unfold need; rw [List.map_append, List.sum_append]
theorem frm_len {cr : Cr} (hg : GoodX cr) {plan : List (Int × Int)} (hp : PlanG cr plan) : ((frmR cr plan).length : Int) = cr.len := by
  have h := some_len hg fun p h => (hp.inn p h).2.2
  have := hp.fit
  unfold frmR
  rw [List.length_append, List.length_replicate]
  omega
theorem lamps_len {cr : Cr} (hg : GoodX cr) : ∀ {plans : List (List (Int × Int))}, (∀ p ∈ plans, PlanG cr p) → ((lampsF cr plans).length : Int) = plans.length * cr.len
  | [], _ => by simp [lampsF]
  | p :: t, h => by
    have ih := lamps_len hg (plans := t) fun q hq => h q (List.mem_cons_of_mem _ hq)
    have h1 := frm_len hg (h p List.mem_cons_self)
    have e : lampsF cr (p :: t) = frmR cr p ++ lampsF cr t := rfl
    rw [e, List.length_append, List.length_cons]
    push_cast
    rw [Int.add_mul, Int.one_mul]
    omega
end GW
end

noncomputable section
namespace GW
open GH
def grn (cr : Cr) : Int → List (Int × Int) → List (List Int)
  | _, [] => []
  | t, p :: r => (stgS cr p.1).map (fun i => [i, t, t + p.2]) ++ grn cr (t + (p.2 + clgS cr p.1)) r
def greensF (cr : Cr) (plan : List (Int × Int)) : List (List Int) := tsort (grn cr 0 plan)
theorem grn_mem {cr : Cr} : ∀ {plan : List (Int × Int)} {t : Int} {v : List Int}, v ∈ grn cr t plan → ∃ i b e, v = [i, b, e]
  | [], _, _, h => by cases h
  | p :: r, t, v, h => by
    rcases List.mem_append.mp h with z | z
    · obtain ⟨i, _, rfl⟩ := List.mem_map.mp z; exact ⟨_, _, _, rfl⟩
    · exact grn_mem z
theorem greens_mem {cr : Cr} {plan : List (Int × Int)} {v : List Int} (h : v ∈ greensF cr plan) : ∃ i b e, v = [i, b, e] := grn_mem ((tsort_perm _).mem_iff.mp h)
theorem grn_len {cr : Cr} (hg : GoodX cr) : ∀ {plan : List (Int × Int)} {t : Int}, (∀ p ∈ plan, 0 ≤ p.1 ∧ p.1 < (stg cr.cx cr.mv.length).length) → (grn cr t plan).length ≤ 6 * plan.length
  | [], _, _ => by simp [grn]
  | p :: r, t, h => by
    have ih := grn_len hg (plan := r) (t := t + (p.2 + clgS cr p.1)) fun q hq => h q (List.mem_cons_of_mem _ hq)
    obtain ⟨b1, b2⟩ := h p List.mem_cons_self
    have := (hg.st b1 b2).2.len
    have := hg.le
    simp only [grn, List.length_append, List.length_map, List.length_cons]
    omega
theorem greens_eq (cr : Cr) (plan : List (Int × Int)) (c : Src) (hg : GoodX cr) (hp : PlanG cr plan) : S_greens [eCr cr, ePl plan] c = some (eR (greensF cr plan), c) := by
  have hsl := hg.sgl
  have hpl := hp.len
  simp_arith! [m_greens]
  rw [cl_eq (stages_eq cr c hg.ns (by have := hg.cl; omega) hg.ne hg.le)]
  simp_arith [sm_seqPl]
  refine wp_for (fun done rest s => ∃ (found : List (List Int)) (tick : Int) (x5 x6 : Option D), grn cr 0 plan = found ++ grn cr tick rest ∧ found.length ≤ 6 * done.length ∧ s = ⟨[some (.val (eCr cr)), some (.val (ePl plan)), some (.val (eR (stg cr.cx cr.mv.length))), some (.own (found.map eT)), some (.val (.int tick)), jv x5, jv x6, none], c⟩) ⟨[], 0, none, none, rfl, by simp, rfl⟩ ?_ ?_
  · rintro done ⟨s, ticks⟩ rest _ hx ⟨found, tick, x5, x6, h1, h2, rfl⟩
    obtain ⟨b1, b2, b3⟩ := hp.inn (s, ticks) (by rw [hx]; simp)
    simp only at b1 b2 b3
    have hdl : done.length ≤ 64 := by have := congrArg List.length hx; simp at this; omega
    have hst := (hg.st b1 b2).2.len
    have h6 := hg.le
    have hcl : S_clear_ticks [eCr cr, .int s] c = some (.int (clgS cr s), c) := clear_eq cr s c hg b1 b2
    simp_arith [eP2, at_nth (xs := stg cr.cx cr.mv.length) b1 b2]
    refine wp_compM (fun i : Int => eT [i, tick, tick + ticks]) (by unfold stgS at hst; omega) (by simp_arith) (fun i _ => by simp_arith; rfl) ?_
    have e : ((nth (stg cr.cx cr.mv.length) s).map fun i : Int => eT [i, tick, tick + ticks]) = ((stgS cr s).map fun i : Int => [i, tick, tick + ticks]).map eT := by rw [List.map_map]; rfl
    rw [e]
    simp_arith [List.length_map]
    refine ⟨by omega, ?_⟩
    rw [cl_eq hcl]
    simp_arith
    refine ⟨found ++ (stgS cr s).map fun i : Int => [i, tick, tick + ticks], tick + (ticks + clgS cr s), some (.int s), some (.int ticks), ?_, by simp; omega, by rw [List.map_append]; rfl⟩
    rw [h1, List.append_assoc]; rfl
  · rintro _ ⟨found, tick, x5, x6, h1, h2, rfl⟩
    have hf : found = grn cr 0 plan := by rw [h1]; simp [grn]
    simp_arith
    rw [sm_srtT (fun v hv => by rw [hf] at hv; obtain ⟨i, b, e, rfl⟩ := grn_mem hv; simp)]
    refine ⟨by omega, ?_⟩
    simp_arith
    rw [hf]; rfl
def pAt (k : Int) (x : List Int) : Bool := decide (x.getD 1 0 ≤ k) && decide (k < x.getD 2 0)
def atF (cr : Cr) (plan : List (Int × Int)) (k : Int) : List Int := ((greensF cr plan).filter (pAt k)).map fun x => x.getD 0 0
theorem lamps_at_eq (cr : Cr) (plan : List (Int × Int)) (k : Int) (c : Src) (hg : GoodX cr) (hp : PlanG cr plan) : S_lamps_at [eCr cr, ePl plan, .int k] c = some (eT (atF cr plan k), c) := by
  have hl := grn_len hg (plan := plan) (t := 0) fun p h => ⟨(hp.inn p h).1, (hp.inn p h).2.1⟩
  have hl2 : (greensF cr plan).length ≤ 384 := by
    have := hp.len
    unfold greensF; rw [(tsort_perm _).length_eq]; omega
  simp_arith! [m_lamps_at, cl_eq (greens_eq cr plan c hg hp)]
  refine wp_compF (enc := eT) (pAt k) (fun x => D.int (x.getD 0 0)) (by omega) (by simp_arith) (fun x hx => by
    obtain ⟨i, b, e, rfl⟩ := greens_mem hx
    rw [show eT [i, b, e] = D.tup [.int i, .int b, .int e] from rfl]
    simp_arith
    by_cases h1 : b ≤ k <;> by_cases h2 : k < e <;> simp [pAt, h1, h2]) ?_
  have e : ((greensF cr plan).filter (pAt k)).map (fun x => D.int (x.getD 0 0)) = (atF cr plan k).map D.int := by unfold atF; rw [List.map_map]; rfl
  rw [e]
  simp_arith
end GW
end

noncomputable section
namespace GW
open GH
theorem grn_later {cr : Cr} (hg : GoodX cr) : ∀ {plan : List (Int × Int)} {t k : Int}, (∀ p ∈ plan, 1 ≤ p.2) → k < t → (grn cr t plan).filter (pAt k) = []
  | [], _, _, _, _ => rfl
  | p :: r, t, k, h, hk => by
    have h1 := h p List.mem_cons_self
    have h2 := hg.clgS p.1
    simp only [grn, List.filter_append]
    rw [grn_later hg (fun q hq => h q (List.mem_cons_of_mem _ hq)) (by omega), List.append_nil, List.filter_eq_nil_iff]
    intro v hv
    obtain ⟨i, _, rfl⟩ := List.mem_map.mp hv
    simp [pAt]; omega
theorem getD_app {α : Type} (a b : List α) (k : Nat) (d : α) : (a ++ b).getD k d = if k < a.length then a.getD k d else b.getD (k - a.length) d := by
  rw [List.getD_eq_getElem?_getD, List.getD_eq_getElem?_getD, List.getD_eq_getElem?_getD]
  by_cases h : k < a.length
  · rw [if_pos h, List.getElem?_append_left h]
  · rw [if_neg h, List.getElem?_append_right (by omega)]
theorem getD_rep {α : Type} (x d : α) (n k : Nat) : (List.replicate n x).getD k d = if k < n then x else d := by
  rw [List.getD_eq_getElem?_getD, List.getElem?_replicate]
  split <;> rfl
theorem seg_get (cr : Cr) (p : Int × Int) (r : List (Int × Int)) (k : Nat) : (someR cr (p :: r)).getD k [] = if k < p.2.toNat then stgS cr p.1 else if k < p.2.toNat + (clgS cr p.1).toNat then [] else (someR cr r).getD (k - (p.2.toNat + (clgS cr p.1).toNat)) [] := by
  have e : someR cr (p :: r) = segR cr p ++ someR cr r := rfl
  have el : (segR cr p).length = p.2.toNat + (clgS cr p.1).toNat := by unfold segR; rw [List.length_append, List.length_replicate, List.length_replicate]
  rw [e, getD_app, el]
  by_cases h : k < p.2.toNat
  · rw [if_pos (by omega), if_pos h]
    unfold segR
    rw [getD_app, List.length_replicate, if_pos h, getD_rep, if_pos h]
  · rw [if_neg h]
    by_cases h2 : k < p.2.toNat + (clgS cr p.1).toNat
    · rw [if_pos h2, if_pos h2]
      unfold segR
      rw [getD_app, List.length_replicate, if_neg h, getD_rep]
      split <;> rfl
    · rw [if_neg h2, if_neg h2]
theorem grn_at {cr : Cr} (hg : GoodX cr) : ∀ {plan : List (Int × Int)} {t : Int} (k : Nat), (∀ p ∈ plan, 1 ≤ p.2) → ∃ b e, (grn cr t plan).filter (pAt (t + k)) = ((someR cr plan).getD k []).map fun i => [i, b, e]
  | [], _, k, _ => ⟨0, 0, by simp [grn, someR]⟩
  | p :: r, t, k, h => by
    have h1 := h p List.mem_cons_self
    have h2 := hg.clgS p.1
    have hr : ∀ q ∈ r, 1 ≤ q.2 := fun q hq => h q (List.mem_cons_of_mem _ hq)
    simp only [grn, List.filter_append]
    rw [seg_get]
    by_cases hk : k < p.2.toNat
    · rw [if_pos hk, grn_later hg hr (by omega), List.append_nil]
      refine ⟨t, t + p.2, List.filter_eq_self.mpr fun v hv => ?_⟩
      obtain ⟨i, _, rfl⟩ := List.mem_map.mp hv
      simp [pAt]; omega
    · rw [if_neg hk]
      have e0 : ((stgS cr p.1).map fun i => [i, t, t + p.2]).filter (pAt (t + k)) = [] := by
        rw [List.filter_eq_nil_iff]
        intro v hv
        obtain ⟨i, _, rfl⟩ := List.mem_map.mp hv
        simp [pAt]; omega
      rw [e0, List.nil_append]
      by_cases hk2 : k < p.2.toNat + (clgS cr p.1).toNat
      · rw [if_pos hk2]
        exact ⟨0, 0, grn_later hg hr (by omega)⟩
      · rw [if_neg hk2]
        obtain ⟨b, e, h3⟩ := grn_at hg (plan := r) (t := t + (p.2 + clgS cr p.1)) (k - (p.2.toNat + (clgS cr p.1).toNat)) hr
        refine ⟨b, e, ?_⟩
        rw [← h3]
        congr 2
        omega
theorem some_row {cr : Cr} (hg : GoodX cr) : ∀ {plan : List (Int × Int)}, (∀ p ∈ plan, 0 ≤ p.1 ∧ p.1 < (stg cr.cx cr.mv.length).length) → ∀ row ∈ someR cr plan, Lot cr.cx cr.mv.length row := by
  intro plan h row hr
  obtain ⟨p, hp, hm⟩ := List.mem_flatMap.mp hr
  obtain ⟨b1, b2⟩ := h p hp
  rcases List.mem_append.mp hm with z | z
  · rw [List.eq_of_mem_replicate z]; exact (hg.st b1 b2).2
  · rw [List.eq_of_mem_replicate z]; exact ⟨by simp, by simp, List.Pairwise.nil, by simp⟩
theorem lot_nil (cx : List C4) (n : Nat) : Lot cx n [] := ⟨by simp, by simp, List.Pairwise.nil, by simp⟩
theorem some_getD {cr : Cr} (hg : GoodX cr) {plan : List (Int × Int)} (hp : PlanG cr plan) (k : Nat) : Lot cr.cx cr.mv.length ((someR cr plan).getD k []) := by
  rw [List.getD_eq_getElem?_getD]
  cases h : (someR cr plan)[k]? with
  | none => exact lot_nil _ _
  | some row => exact some_row hg (fun p h => ⟨(hp.inn p h).1, (hp.inn p h).2.1⟩) row (List.mem_of_getElem? h)
theorem at_eq {cr : Cr} (hg : GoodX cr) {plan : List (Int × Int)} (hp : PlanG cr plan) (k : Nat) : atF cr plan k = (someR cr plan).getD k [] := by
  obtain ⟨b, e, h⟩ := grn_at hg (plan := plan) (t := 0) k fun p h => (hp.inn p h).2.2
  rw [Int.zero_add] at h
  have hlot := some_getD hg hp k
  have e1 : (greensF cr plan).filter (pAt k) = ((someR cr plan).getD k []).map fun i => [i, b, e] := by
    refine List.Perm.eq_of_pairwise (le := fun a b => leT a b = true) (fun a b _ _ h1 h2 => leT_anti a b h1 h2) ((tsort_le _).filter _) ?_ ?_
    · rw [List.pairwise_map]
      exact hlot.asc.imp fun {x y} hxy => by
        simp only [leT, ltT]
        have h1 : ¬ y < x := by omega
        have h2 : ¬ y = x := by omega
        simp [h1, h2]
    · rw [← h]
      exact (tsort_perm _).filter _
  unfold atF
  rw [e1, List.map_map]
  conv => rhs; rw [← List.map_id ((someR cr plan).getD k [])]
  rfl
theorem frm_at {cr : Cr} (hg : GoodX cr) {plan : List (Int × Int)} (hp : PlanG cr plan) : ((List.range cr.len.toNat).map fun k : Nat => atF cr plan k) = frmR cr plan := by
  have hl := frm_len hg hp
  refine List.ext_getElem? fun k => ?_
  rw [List.getElem?_map]
  by_cases h : k < cr.len.toNat
  · rw [List.getElem?_range h]
    show some (atF cr plan k) = _
    rw [at_eq hg hp]
    have hk : k < (frmR cr plan).length := by omega
    have : (frmR cr plan).getD k [] = (someR cr plan).getD k [] := by
      unfold frmR
      rw [getD_app, getD_rep]
      by_cases h2 : k < (someR cr plan).length
      · rw [if_pos h2]
      · rw [if_neg h2, ite_self, List.getD_eq_getElem?_getD, List.getElem?_eq_none (by omega)]; rfl
    rw [← this, List.getD_eq_getElem?_getD, List.getElem?_eq_getElem hk]; rfl
  · rw [List.getElem?_eq_none (by simp; omega), List.getElem?_eq_none (by omega)]; rfl
theorem lamp_rows_eq (cr : Cr) (plans : List (List (Int × Int))) (c : Src) (hg : GoodX cr) (hl : 0 ≤ cr.len) (hl8 : cr.len ≤ 30) (hp : ∀ p ∈ plans, PlanG cr p) (hn : plans.length ≤ 100) :
    S_lamp_rows [eCr cr, .lst (plans.map ePl)] c = some (.lst ((lampsF cr plans).map eT), c) := by
  simp_arith! [m_lamp_rows]
  refine wp_for (fun done _ s => ∃ (x3 : Option D), s = ⟨[some (.val (eCr cr)), some (.val (.lst (plans.map ePl))), some (.own ((lampsF cr done).map eT)), jv x3, none], c⟩) ⟨none, rfl⟩ ?_ ?_
  · rintro done plan rest _ hx ⟨x3, rfl⟩
    have hpl := hp plan (by rw [hx]; simp)
    have hdl : done.length ≤ 100 := by have := congrArg List.length hx; simp at this; omega
    have hdn := lamps_len hg (plans := done) fun q hq => hp q (by rw [hx]; exact List.mem_append_left _ hq)
    have hdm : (done.length : Int) * cr.len ≤ 100 * 30 := Int.mul_le_mul (by omega) hl8 hl (by omega)
    simp_arith
    refine ⟨okR_of hl (by omega), ?_⟩
    refine wp_compM (fun k : Nat => eT (atF cr plan k)) (by simp; omega) (by simp_arith) (fun k _ => by
      simp_arith [cl_eq (lamps_at_eq cr plan (k : Nat) c hg hpl)]) ?_
    have e : ((List.range cr.len.toNat).map fun k : Nat => eT (atF cr plan k)) = (frmR cr plan).map eT := by rw [← frm_at hg hpl, List.map_map]; rfl
    rw [e]
    have hf := frm_len hg hpl
    simp_arith [List.length_map]
    refine ⟨by omega, some (ePl plan), ?_⟩
    have e2 : lampsF cr (done ++ [plan]) = lampsF cr done ++ frmR cr plan := by unfold lampsF; rw [List.flatMap_append]; simp
    rw [e2, List.map_append]
    rfl
  · rintro _ ⟨x3, rfl⟩
    simp_arith
end GW
end

noncomputable section
namespace GW
open GH
def cr2 (cx : List C4) (row : List Int) (i : Int) : Option Int := row.find? fun j => decide (i < j) && (clr cx i j).isSome
def crossRow (cx : List C4) (row : List Int) : Option (Int × Int) := row.findSome? fun i => (cr2 cx row i).map fun j => (i, j)
def crossF (cx : List C4) (rows : List (List Int)) : Option (Nat × Int × Int) := rows.zipIdx.findSome? fun p => (crossRow cx p.1).map fun q => (p.2, q.1, q.2)
def eF (w : PySem.Str) (f : Nat × Int × Int) : D := .tup [.str w, .int (f.1 : Nat), .int f.2.1, .int f.2.2]
theorem find_ite {α β : Type} (p : α → Bool) (g : α → β) : ∀ l : List α, (l.findSome? fun x => if p x = true then some (g x) else none) = (l.find? p).map g
  | [] => rfl
  | x :: t => by
    rw [List.findSome?_cons, List.find?_cons]
    cases h : p x with
    | true => simp
    | false => simpa using find_ite p g t
structure RowsD (rd : D) (rows : List (List Int)) : Prop where
  sq : seqD rd = some (rows.map eT)
  ix : ∀ (j : Int) (P : D → Prop), Sm (ixD rd (.int j)) P ↔ Sm (L2.atI rows j) fun r => P (eT r)
theorem rowsD_lst (rows : List (List Int)) : RowsD (.lst (rows.map eT)) rows := ⟨rfl, fun j P => by rw [sm_ixL, at_map]⟩
theorem first_crossed_eq (cr : Cr) (rd : D) (rows : List (List Int)) (c : Src) (hg : GoodX cr) (hr : RowsD rd rows) : S_first_crossed [eCr cr, rd] c = some (((crossF cr.cx rows).map (eF "crossed")).getD .non, c) := by
  simp_arith! [m_first_crossed, sm_eq hr.sq]
  refine wp_find (enc := fun p : List Int × Nat => D.tup [.int (p.2 : Nat), eT p.1]) (fun p => (crossRow cr.cx p.1).map fun q => eF "crossed" (p.2, q.1, q.2)) (fun _ s => ∃ (x2 x3 x4 x5 : Option D), s = ⟨[some (.val (eCr cr)), some (.val rd), jv x2, jv x3, jv x4, jv x5], c⟩) (fun s => s.src = c) ⟨none, none, none, none, rfl⟩ ?_ ?_ ?_
  · rintro done ⟨row, t⟩ rest _ hx ⟨x2, x3, x4, x5, rfl⟩
    simp_arith
    refine wp_find (enc := D.int) (fun i => (cr2 cr.cx row i).map fun j => eF "crossed" (t, i, j)) (fun _ s => ∃ (x4 x5 : Option D), s = ⟨[some (.val (eCr cr)), some (.val rd), some (.val (.int (t : Nat))), some (.val (eT row)), jv x4, jv x5], c⟩) (fun s => s.src = c) ⟨x4, x5, rfl⟩ ?_ ?_ ?_
    · rintro done2 i rest2 _ hx2 ⟨x4, x5, rfl⟩
      simp_arith
      refine wp_find (enc := D.int) (fun j => if (decide (i < j) && (clr cr.cx i j).isSome) = true then some (eF "crossed" (t, i, j)) else none) (fun _ s => ∃ (x5 : Option D), s = ⟨[some (.val (eCr cr)), some (.val rd), some (.val (.int (t : Nat))), some (.val (eT row)), some (.val (.int i)), jv x5], c⟩) (fun s => s.src = c) ⟨x5, rfl⟩ ?_ ?_ ?_
      · rintro done3 j rest3 _ hx3 ⟨x5, rfl⟩
        simp_arith
        refine ⟨fun h => ?_, fun h => .inl ⟨by rw [decide_eq_false h]; rfl, some (.int j), rfl⟩⟩
        rw [cl_eq (do_cross_eq cr i j c (by have := hg.cl; omega))]
        cases hc : (clr cr.cx i j).isSome with
        | true =>
          simp_arith
          exact .inr ⟨_, rfl, by rw [decide_eq_true h]; rfl⟩
        | false =>
          simp_arith
          exact .inl ⟨by rw [decide_eq_true h]; rfl, some (.int j), rfl⟩
      · rintro _ ⟨x5, rfl⟩ hn
        rw [find_ite, Option.map_eq_none_iff] at hn
        refine .inl ⟨rfl, by unfold cr2; rw [hn]; rfl, some (.int i), x5, rfl⟩
      · intro d s hs hd
        rw [find_ite] at hd
        exact .inr ⟨d, rfl, hd, hs⟩
    · rintro _ ⟨x4, x5, rfl⟩ hn
      refine .inl ⟨rfl, ?_, some (.int (t : Nat)), some (eT row), x4, x5, rfl⟩
      have : (crossRow cr.cx row).map (fun q => eF "crossed" (t, q.1, q.2)) = row.findSome? fun i => (cr2 cr.cx row i).map fun j => eF "crossed" (t, i, j) := by
        unfold crossRow; rw [List.map_findSome?]; congr 1; funext i; simp [Function.comp_def, Option.map_map]
      show (crossRow cr.cx row).map (fun q => eF "crossed" (t, q.1, q.2)) = none
      rw [this, hn]
    · intro d s hs hd
      refine .inr ⟨d, rfl, ?_, hs⟩
      have : (crossRow cr.cx row).map (fun q => eF "crossed" (t, q.1, q.2)) = row.findSome? fun i => (cr2 cr.cx row i).map fun j => eF "crossed" (t, i, j) := by
        unfold crossRow; rw [List.map_findSome?]; congr 1; funext i; simp [Function.comp_def, Option.map_map]
      show (crossRow cr.cx row).map (fun q => eF "crossed" (t, q.1, q.2)) = some d
      rw [this, hd]
  · rintro _ ⟨x2, x3, x4, x5, rfl⟩ hn
    have : (crossF cr.cx rows).map (eF "crossed") = rows.zipIdx.findSome? fun p : List Int × Nat => (crossRow cr.cx p.1).map fun q => eF "crossed" (p.2, q.1, q.2) := by
      unfold crossF; rw [List.map_findSome?]; congr 1; funext i; simp [Function.comp_def, Option.map_map]
    rw [this, hn]
    simp_arith
    rfl
  · intro d s hs hd
    have : (crossF cr.cx rows).map (eF "crossed") = rows.zipIdx.findSome? fun p : List Int × Nat => (crossRow cr.cx p.1).map fun q => eF "crossed" (p.2, q.1, q.2) := by
      unfold crossF; rw [List.map_findSome?]; congr 1; funext i; simp [Function.comp_def, Option.map_map]
    rw [this, hd]
    simp_arith
    exact ⟨rfl, hs⟩
end GW
end

noncomputable section
namespace GW
open GH
def lastT (rows : List (List Int)) : Nat → Int → Option Nat
  | 0, _ => none
  | t + 1, i => if i ∈ rows.getD t [] then some t else lastT rows t i
def aheadT (rows : List (List Int)) : Nat → List Int
  | 0 => []
  | t + 1 => rows.getD t []
def tooE (cx : List C4) (t : Nat) (i j : Int) : Option Nat → Bool
  | none => false
  | some u => match clr cx i j with
    | none => false
    | some w => decide ((t : Int) - (u : Nat) - 1 < w)
def earlyJ (cx : List C4) (rows : List (List Int)) (t : Nat) (i j : Int) : Bool := !decide (j ∈ aheadT rows t) && tooE cx t i j (lastT rows t i)
def zIn (n : Nat) : List Int := (List.range n).map fun i : Nat => (i : Int)
def earlyR (cx : List C4) (n : Nat) (rows : List (List Int)) (t : Nat) (lot : List Int) : Option (Int × Int) := (zIn n).findSome? fun i => (lot.find? (earlyJ cx rows t i)).map fun j => (i, j)
def earlyF (cx : List C4) (n : Nat) (rows : List (List Int)) : Option (Nat × Int × Int) := rows.zipIdx.findSome? fun p => (earlyR cx n rows p.2 p.1).map fun q => (p.2, q.1, q.2)
theorem zIn_mem {n : Nat} {k : Int} : k ∈ zIn n ↔ 0 ≤ k ∧ k < n := by
  unfold zIn
  rw [List.mem_map]
  constructor
  · rintro ⟨i, hi, rfl⟩; have := List.mem_range.mp hi; omega
  · rintro ⟨h1, h2⟩; exact ⟨k.toNat, List.mem_range.mpr (by omega), by omega⟩
theorem zIn_asc (n : Nat) : (zIn n).Pairwise (· < ·) := by
  unfold zIn
  rw [List.pairwise_map]
  exact (List.pairwise_lt_range (n := n)).imp fun h => by omega
structure KeyT (n : Nat) (rows : List (List Int)) (t : Nat) (l : List (Int × Int)) : Prop where
  nd : (l.map (·.1)).Nodup
  lk : ∀ k, lkp l k = (lastT rows t k).map fun u : Nat => (u : Int)
  rg : ∀ k : Int, k ∈ l.map (·.1) → 0 ≤ k ∧ k < n
theorem KeyT.mem {n : Nat} {rows : List (List Int)} {t : Nat} {l : List (Int × Int)} (h : KeyT n rows t l) {k : Int} : k ∈ l.map (·.1) ↔ (lastT rows t k).isSome = true := by
  have h1 := lkp_none (l := l) (k := k)
  rw [h.lk k, Option.map_eq_none_iff] at h1
  cases e : lastT rows t k with
  | none => rw [e] at h1; simpa using h1.mp rfl
  | some u =>
    rw [e] at h1
    simp only [Option.isSome_some, iff_true]
    by_cases z : k ∈ l.map (·.1)
    · exact z
    · have := h1.mpr z; cases this
theorem nodup_lt {l : List Int} (h : l.Pairwise (· < ·)) : l.Nodup := h.imp fun {a b} h e => by subst e; exact Int.lt_irrefl _ h
theorem KeyT.srt {n : Nat} {rows : List (List Int)} {t : Nat} {l : List (Int × Int)} (h : KeyT n rows t l) : isort (l.map (·.1)) = (zIn n).filter fun i => (lastT rows t i).isSome := by
  refine isort_eq ?_ (((zIn_asc n).filter _).imp fun h => Int.le_of_lt h)
  rw [List.perm_ext_iff_of_nodup (nodup_lt ((zIn_asc n).filter _)) h.nd]
  intro a
  rw [List.mem_filter, h.mem]
  constructor
  · exact fun z => z.2
  · exact fun z => ⟨zIn_mem.mpr (h.rg a (h.mem.mpr z)), z⟩
theorem KeyT.len {n : Nat} {rows : List (List Int)} {t : Nat} {l : List (Int × Int)} (h : KeyT n rows t l) : l.length ≤ n := by
  have e := congrArg List.length h.srt
  rw [(isort_perm _).length_eq, List.length_map] at e
  have := List.length_filter_le (fun i => (lastT rows t i).isSome) (zIn n)
  have e2 : (zIn n).length = n := by simp [zIn]
  omega
theorem find_filter {α β : Type} (p : α → Bool) (f : α → Option β) : ∀ l : List α, (∀ x ∈ l, p x = false → f x = none) → (l.filter p).findSome? f = l.findSome? f
  | [], _ => rfl
  | x :: t, h => by
    have ih := find_filter p f t fun y hy => h y (List.mem_cons_of_mem _ hy)
    rw [List.filter_cons, List.findSome?_cons]
    cases e : p x with
    | true => rw [if_pos rfl, List.findSome?_cons, ih]
    | false => rw [if_neg (by simp), ih, h x List.mem_cons_self e]
theorem zip_at {rows : List (List Int)} {done rest : List (List Int × Nat)} {row : List Int} {t : Nat} (h : rows.zipIdx = done ++ (row, t) :: rest) : t = done.length ∧ rows[t]? = some row ∧ t < rows.length := by
  have e := congrArg (fun l => l[done.length]?) h
  simp only [List.getElem?_append_right (Nat.le_refl _), Nat.sub_self, List.getElem?_cons_zero, List.getElem?_zipIdx] at e
  obtain ⟨r, h1, h2⟩ := Option.map_eq_some_iff.mp e
  simp only [Prod.mk.injEq] at h2
  have ht : t = done.length := by omega
  subst ht
  rw [← h2.1]
  exact ⟨rfl, h1, (List.getElem?_eq_some_iff.mp h1).1⟩
theorem getD_of {rows : List (List Int)} {t : Nat} {row : List Int} (h : rows[t]? = some row) : rows.getD t [] = row := by rw [List.getD_eq_getElem?_getD, h]; rfl
theorem dks_keys (l : List (Int × Int)) : dks l = (l.map (·.1)).map Sum.inl := by unfold dks; rw [List.map_map]; rfl
theorem KeyT.row {n : Nat} {rows : List (List Int)} {t : Nat} {row : List Int} (hr : rows[t]? = some row) {l l2 : List (Int × Int)} (h : KeyT n rows t l) (h2 : (l2.map (·.1)).Nodup) (h3 : ∀ k, lkp l2 k = if k ∈ row then some (t : Int) else lkp l k) (h4 : ∀ k : Int, k ∈ l2.map (·.1) → 0 ≤ k ∧ k < n) : KeyT n rows (t + 1) l2 := by
  refine ⟨h2, fun k => ?_, h4⟩
  rw [h3 k]
  unfold lastT
  rw [getD_of hr]
  split
  · rfl
  · exact h.lk k
theorem early_map (cx : List C4) (rows : List (List Int)) (t n : Nat) (lot : List Int) (w : PySem.Str) : (earlyR cx n rows t lot).map (fun q => eF w (t, q.1, q.2)) = (zIn n).findSome? fun i => (lot.find? (earlyJ cx rows t i)).map fun j => eF w (t, i, j) := by
  unfold earlyR; rw [List.map_findSome?]; congr 1; funext i; simp [Function.comp_def, Option.map_map]
theorem earlyF_map (cx : List C4) (rows : List (List Int)) (n : Nat) (w : PySem.Str) : (earlyF cx n rows).map (eF w) = rows.zipIdx.findSome? fun p : List Int × Nat => (earlyR cx n rows p.2 p.1).map fun q => eF w (p.2, q.1, q.2) := by
  unfold earlyF; rw [List.map_findSome?]; congr 1; funext i; simp [Function.comp_def, Option.map_map]
end GW
end

noncomputable section
namespace GW
open GH
theorem aheadT_pos {rows : List (List Int)} {t : Nat} (h : 0 < t) : aheadT rows t = nth rows ((t : Int) - 1) := by
  cases t with
  | zero => omega
  | succ k =>
    show rows.getD k [] = rows.getD ((k + 1 : Nat) - 1 : Int).toNat []
    congr 1
    omega
theorem first_early_eq (cr : Cr) (rd : D) (rows : List (List Int)) (c : Src) (hg : GoodX cr) (hr : RowsD rd rows) (hrg : ∀ row ∈ rows, ∀ i ∈ row, 0 ≤ i ∧ i < (cr.mv.length : Int)) : S_first_early [eCr cr, rd] c = some (((earlyF cr.cx cr.mv.length rows).map (eF "early")).getD .non, c) := by
  have h6 := hg.le
  have hcl : cr.cx.length ≤ 1000 := by have := hg.cl; omega
  simp_arith! [m_first_early, sm_eq hr.sq]
  refine wp_find (enc := fun p : List Int × Nat => D.tup [.int (p.2 : Nat), eT p.1]) (fun p => (earlyR cr.cx cr.mv.length rows p.2 p.1).map fun q => eF "early" (p.2, q.1, q.2)) (fun done s => ∃ (l : List (Int × Int)) (x3 x4 x5 x6 x7 : Option D), KeyT cr.mv.length rows done.length l ∧ s = ⟨[some (.val (eCr cr)), some (.val rd), some (.ownK (dks l) (dvs D.int l)), jv x3, jv x4, jv x5, jv x6, jv x7], c⟩) (fun s => s.src = c) ⟨[], none, none, none, none, none, ⟨by simp, fun k => rfl, by simp⟩, rfl⟩ ?_ ?_ ?_
  · rintro done ⟨row, t⟩ rest _ hx ⟨l, x3, x4, x5, x6, x7, hk, rfl⟩
    obtain ⟨rfl, hrow, htl⟩ := zip_at hx
    have hrr := hrg row (List.mem_of_getElem? hrow)
    simp_all_arith
    refine wp_mid' (fun s => s = ⟨[some (.val (eCr cr)), some (.val rd), some (.ownK (dks l) (dvs D.int l)), some (.val (.int (done.length : Nat))), some (.val (eT row)), some (.val (eT (aheadT rows done.length))), jv x6, jv x7], c⟩) ?_ ?_
    · simp_arith
      refine ⟨fun h => ?_, fun h => ?_⟩
      · rw [hr.ix]
        refine (at_nth (xs := rows) (by omega) (by omega)).mpr ?_
        simp_arith
        rw [aheadT_pos (by omega)]
        first | exact .inl ⟨trivial, rfl⟩ | exact .inl rfl | simp
      · have h0 : done.length = 0 := by omega
        simp only [h0]
        first | exact .inl ⟨trivial, rfl⟩ | exact .inl rfl | simp
    · rintro _ rfl
      simp_arith
      rw [wp_srtO (l := l.map (·.1)) (ds := dvs D.int l) (by rw [dks_keys]; rfl)]
      refine ⟨by rw [List.length_map]; have := hk.len; omega, ?_⟩
      simp_arith
      have e1 : isort (l.map (·.1)) = (zIn cr.mv.length).filter fun i => (lastT rows done.length i).isSome := hk.srt
      rw [e1]
      let f : Int → Option D := fun i => (row.find? (earlyJ cr.cx rows done.length i)).map fun j => eF "early" (done.length, i, j)
      have hf : ((zIn cr.mv.length).filter fun i => (lastT rows done.length i).isSome).findSome? f = (zIn cr.mv.length).findSome? f := find_filter _ _ _ fun i _ hi => by
        have : lastT rows done.length i = none := by simpa using hi
        show (row.find? (earlyJ cr.cx rows done.length i)).map _ = none
        rw [List.find?_eq_none.mpr fun j _ => by simp [earlyJ, this, tooE]]; rfl
      refine wp_find (enc := D.int) f (fun _ s => ∃ (x6 x7 : Option D), s = ⟨[some (.val (eCr cr)), some (.val rd), some (.ownK (dks l) (dvs D.int l)), some (.val (.int (done.length : Nat))), some (.val (eT row)), some (.val (eT (aheadT rows done.length))), jv x6, jv x7], c⟩) (fun s => s.src = c) ⟨x6, x7, rfl⟩ ?_ ?_ ?_
      · rintro done2 i rest2 _ hx2 ⟨x6, x7, rfl⟩
        have hi : (lastT rows done.length i).isSome = true := by
          have : i ∈ (zIn cr.mv.length).filter fun i => (lastT rows done.length i).isSome := by rw [hx2]; simp
          exact (List.mem_filter.mp this).2
        obtain ⟨u, hu⟩ := Option.isSome_iff_exists.mp hi
        have hlk : lkp l i = some (u : Int) := by rw [hk.lk, hu]; rfl
        simp_arith
        refine wp_find (enc := D.int) (fun j => if earlyJ cr.cx rows done.length i j = true then some (eF "early" (done.length, i, j)) else none) (fun _ s => ∃ (x7 : Option D), s = ⟨[some (.val (eCr cr)), some (.val rd), some (.ownK (dks l) (dvs D.int l)), some (.val (.int (done.length : Nat))), some (.val (eT row)), some (.val (eT (aheadT rows done.length))), some (.val (.int i)), jv x7], c⟩) (fun s => s.src = c) ⟨x7, rfl⟩ ?_ ?_ ?_
        · rintro done3 j rest3 _ hx3 ⟨x7, rfl⟩
          cases hc : clr cr.cx i j with
          | none =>
            have hE : earlyJ cr.cx rows done.length i j = false := by simp [earlyJ, hu, tooE, hc]
            simp_arith [sm_ninE, cl_eq (do_cross_eq cr i j c hcl), cl_eq (clr_eq cr i j c), hlk, hc, Option.isSome_none, hE]
            exact ⟨fun _ => .inl ⟨by simp, some (.int j), rfl⟩, fun _ => .inl ⟨by simp, some (.int j), rfl⟩⟩
          | some w =>
            have hE : earlyJ cr.cx rows done.length i j = (!decide (j ∈ aheadT rows done.length) && decide ((done.length : Int) - (u : Nat) - 1 < w)) := by simp [earlyJ, hu, tooE, hc]
            simp_arith [sm_ninE, cl_eq (do_cross_eq cr i j c hcl), cl_eq (clr_eq cr i j c), hlk, hc, Option.isSome_some, Option.getD_some, hE]
            refine ⟨fun h => .inl ⟨by rw [decide_eq_true h]; rfl, some (.int j), rfl⟩, fun h => ⟨fun h2 => .inr ⟨_, rfl, by rw [decide_eq_false h, decide_eq_true h2]; rfl⟩, fun h2 => .inl ⟨by rw [decide_eq_false h, decide_eq_false h2]; rfl, some (.int j), rfl⟩⟩⟩
        · rintro _ ⟨x7, rfl⟩ hn
          rw [find_ite, Option.map_eq_none_iff] at hn
          exact .inl ⟨rfl, by show (row.find? _).map _ = none; rw [hn]; rfl, some (.int i), x7, rfl⟩
        · intro d s hs hd
          rw [find_ite] at hd
          exact .inr ⟨d, rfl, hd, hs⟩
      · rintro _ ⟨x6, x7, rfl⟩ hn
        rw [hf] at hn
        simp_arith
        refine wp_for (enc := D.int) (fun done2 _ s => ∃ (l2 : List (Int × Int)) (x6 : Option D), (l2.map (·.1)).Nodup ∧ (∀ k, lkp l2 k = if k ∈ done2 then some (done.length : Int) else lkp l k) ∧ (∀ k : Int, k ∈ l2.map (·.1) → 0 ≤ k ∧ k < (cr.mv.length : Int)) ∧ s = ⟨[some (.val (eCr cr)), some (.val rd), some (.ownK (dks l2) (dvs D.int l2)), some (.val (.int (done.length : Nat))), some (.val (eT row)), some (.val (eT (aheadT rows done.length))), jv x6, jv x7], c⟩) ⟨l, x6, hk.nd, fun k => by simp, hk.rg, rfl⟩ ?_ ?_
        · rintro done2 i rest2 _ hx2 ⟨l2, x6, k1, k2, k3, rfl⟩
          have hi := hrr i (by rw [hx2]; simp)
          have hlen : l2.length ≤ 1000 := by
            have hsub : (l2.map (·.1)).Nodup := k1
            have := List.Nodup.length_le_of_subset (l₂ := zIn cr.mv.length) hsub fun k hk => zIn_mem.mpr (k3 k hk)
            have e2 : (zIn cr.mv.length).length = cr.mv.length := by simp [zIn]
            rw [List.length_map] at this
            omega
          obtain ⟨p1, p2⟩ := put_stp (l := l2) (k := i) (v := (done.length : Int)) (f := D.int) k1
          simp_arith
          refine ⟨by unfold dks; rw [List.length_map]; omega, stp l2 i done.length, some (.int i), stp_nodup k1, fun k => ?_, fun k hk => ?_, ?_⟩
          · rw [lkp_stp]
            by_cases hki : k = i
            · subst hki; simp
            · rw [if_neg hki, k2 k]
              have : k ∈ done2 ++ [i] ↔ k ∈ done2 := by simp [hki]
              simp only [this]
          · rcases stp_keys.mp hk with rfl | h
            · exact hi
            · exact k3 k h
          · rw [p1, p2]; rfl
        · rintro _ ⟨l2, x6, k1, k2, k3, rfl⟩
          refine .inl ⟨rfl, ?_, l2, some (.int (done.length : Nat)), some (eT row), some (eT (aheadT rows done.length)), x6, x7, ?_, rfl⟩
          · show (earlyR cr.cx cr.mv.length rows done.length row).map (fun q => eF "early" (done.length, q.1, q.2)) = none
            rw [early_map]; exact hn
          · rw [show (done ++ [(row, done.length)]).length = done.length + 1 by simp]
            exact hk.row hrow k1 k2 k3
      · intro d s hs hd
        rw [hf] at hd
        simp_arith
        refine .inr ⟨d, rfl, ?_, hs⟩
        show (earlyR cr.cx cr.mv.length rows done.length row).map (fun q => eF "early" (done.length, q.1, q.2)) = some d
        rw [early_map]; exact hd
  · rintro _ ⟨l, x3, x4, x5, x6, x7, hk, rfl⟩ hn
    rw [earlyF_map, hn]
    simp_arith
    rfl
  · intro d s hs hd
    rw [earlyF_map, hd]
    simp_arith
    exact ⟨rfl, hs⟩
def faultF (cx : List C4) (n : Nat) (rows : List (List Int)) : D := match crossF cx rows with
  | some f => eF "crossed" f
  | none => ((earlyF cx n rows).map (eF "early")).getD .non
theorem judge_lamps_eq (cr : Cr) (rd : D) (rows : List (List Int)) (c : Src) (hg : GoodX cr) (hr : RowsD rd rows) (hrg : ∀ row ∈ rows, ∀ i ∈ row, 0 ≤ i ∧ i < (cr.mv.length : Int)) : S_judge_lamps [eCr cr, rd] c = some (faultF cr.cx cr.mv.length rows, c) := by
  simp_arith! [m_judge_lamps]
  rw [cl_eq (first_crossed_eq cr rd rows c hg hr)]
  unfold faultF
  cases hc : crossF cr.cx rows with
  | some f =>
    simp_arith [hc, Option.map_some, Option.getD_some, eF]
  | none =>
    simp_arith [hc, Option.map_none, Option.getD_none]
    rw [cl_eq (first_early_eq cr rd rows c hg hr hrg)]
    simp_arith
end GW
end

noncomputable section
namespace GW
open GH
theorem law_fault_eq (cr : Cr) (rows : List (List Int)) (c : Src) (hg : GoodX cr) (hl : rows.length ≤ 10000) (hrl : ∀ row ∈ rows, row.length ≤ 1000) (hrg : ∀ row ∈ rows, ∀ i ∈ row, 0 ≤ i ∧ i < (cr.mv.length : Int)) : S__law_lamp_fault [eCr cr, .lst (rows.map eT)] c = some (faultF cr.cx cr.mv.length rows, c) := by
  have h6 := hg.le
  simp_arith! [m__law_lamp_fault]
  refine wp_find (enc := fun p : List Int × Nat => D.tup [.int (p.2 : Nat), eT p.1]) (fun p => (crossRow cr.cx p.1).map fun q => eF "crossed" (p.2, q.1, q.2)) (fun _ s => ∃ (x2 x3 x4 x5 : Option D), s = ⟨[some (.val (eCr cr)), some (.val (.lst (rows.map eT))), jv x2, jv x3, jv x4, jv x5, none, none, none, none], c⟩) (fun s => s.src = c) ⟨none, none, none, none, rfl⟩ ?_ ?_ ?_
  · rintro done ⟨row, t⟩ rest _ hx ⟨x2, x3, x4, x5, rfl⟩
    obtain ⟨rfl, hrow, htl⟩ := zip_at hx
    have hrr := hrl row (List.mem_of_getElem? hrow)
    simp_arith
    have hmap : (crossRow cr.cx row).map (fun q => eF "crossed" (done.length, q.1, q.2)) = row.findSome? fun i => (cr2 cr.cx row i).map fun j => eF "crossed" (done.length, i, j) := by
      unfold crossRow; rw [List.map_findSome?]; congr 1; funext i; simp [Function.comp_def, Option.map_map]
    refine wp_find (enc := D.int) (fun i => (cr2 cr.cx row i).map fun j => eF "crossed" (done.length, i, j)) (fun _ s => ∃ (x4 x5 : Option D), s = ⟨[some (.val (eCr cr)), some (.val (.lst (rows.map eT))), some (.val (.int (done.length : Nat))), some (.val (eT row)), jv x4, jv x5, none, none, none, none], c⟩) (fun s => s.src = c) ⟨x4, x5, rfl⟩ ?_ ?_ ?_
    · rintro done2 i rest2 _ hx2 ⟨x4, x5, rfl⟩
      simp_arith
      refine wp_compF (enc := D.int) (fun j => decide (i < j) && (clr cr.cx i j).isSome) D.int (by omega) (by simp_arith) (fun j _ => by
        cases hc : clr cr.cx i j with
        | none =>
          simp_arith [cl_eq (law_clr_eq cr i j c), hc, eN, Option.isSome_none]
          exact ⟨fun h => by simp, fun h => by simp⟩
        | some w =>
          simp_arith [cl_eq (law_clr_eq cr i j c), hc, eN, Option.isSome_some]
          exact ⟨fun h => by simp [h], fun h => by simp [h]⟩) ?_
      simp_arith
      have hh : cr2 cr.cx row i = (row.filter fun j => decide (i < j) && (clr cr.cx i j).isSome).head? := by unfold cr2; rw [List.head?_filter]
      cases hL : row.filter fun j => decide (i < j) && (clr cr.cx i j).isSome with
      | nil =>
        rw [hL] at hh
        simp_arith [List.map_nil]
        exact .inl ⟨by rw [hh]; rfl, some (.int i), some (.lst []), rfl⟩
      | cons j0 t0 =>
        rw [hL] at hh
        simp_arith [List.map_cons]
        refine ⟨fun h => (by cases h), fun _ => ?_⟩
        exact .inr ⟨_, rfl, by rw [hh]; rfl⟩
    · rintro _ ⟨x4, x5, rfl⟩ hn
      refine .inl ⟨rfl, ?_, some (.int (done.length : Nat)), some (eT row), x4, x5, rfl⟩
      show (crossRow cr.cx row).map (fun q => eF "crossed" (done.length, q.1, q.2)) = none
      rw [hmap, hn]
    · intro d s hs hd
      refine .inr ⟨d, rfl, ?_, hs⟩
      show (crossRow cr.cx row).map (fun q => eF "crossed" (done.length, q.1, q.2)) = some d
      rw [hmap, hd]
  · rintro _ ⟨x2, x3, x4, x5, rfl⟩ hn
    have hm : (crossF cr.cx rows).map (eF "crossed") = rows.zipIdx.findSome? fun p : List Int × Nat => (crossRow cr.cx p.1).map fun q => eF "crossed" (p.2, q.1, q.2) := by
      unfold crossF; rw [List.map_findSome?]; congr 1; funext i; simp [Function.comp_def, Option.map_map]
    rw [← hm, Option.map_eq_none_iff] at hn
    unfold faultF
    rw [hn]
    simp_arith
    refine wp_find (enc := fun p : List Int × Nat => D.tup [.int (p.2 : Nat), eT p.1]) (fun p => (earlyR cr.cx cr.mv.length rows p.2 p.1).map fun q => eF "early" (p.2, q.1, q.2)) (fun done s => ∃ (l : List (Int × Int)) (x2 x3 x4 x7 x8 x9 : Option D), KeyT cr.mv.length rows done.length l ∧ s = ⟨[some (.val (eCr cr)), some (.val (.lst (rows.map eT))), jv x2, jv x3, jv x4, jv x5, some (.ownK (dks l) (dvs D.int l)), jv x7, jv x8, jv x9], c⟩) (fun s => s.src = c) ⟨[], x2, x3, x4, none, none, none, ⟨by simp, fun k => rfl, by simp⟩, rfl⟩ ?_ ?_ ?_
    · rintro done ⟨row, t⟩ rest _ hx ⟨l, x2, x3, x4, x7, x8, x9, hk, rfl⟩
      obtain ⟨rfl, hrow, htl⟩ := zip_at hx
      have hrr := hrg row (List.mem_of_getElem? hrow)
      simp_arith
      rw [wp_lstO (l := l.map (·.1)) (ds := dvs D.int l) (by rw [dks_keys]; rfl)]
      simp_arith
      have hkl := hk.len
      refine ⟨by rw [List.length_map]; omega, ?_⟩
      have e1 : isort (l.map (·.1)) = (zIn cr.mv.length).filter fun i => (lastT rows done.length i).isSome := hk.srt
      rw [e1]
      let f : Int → Option D := fun i => (row.find? (earlyJ cr.cx rows done.length i)).map fun j => eF "early" (done.length, i, j)
      have hf : ((zIn cr.mv.length).filter fun i => (lastT rows done.length i).isSome).findSome? f = (zIn cr.mv.length).findSome? f := find_filter _ _ _ fun i _ hi => by
        have : lastT rows done.length i = none := by simpa using hi
        show (row.find? (earlyJ cr.cx rows done.length i)).map _ = none
        rw [List.find?_eq_none.mpr fun j _ => by simp [earlyJ, this, tooE]]; rfl
      refine wp_find (enc := D.int) f (fun _ s => ∃ (x4 x7 x8 x9 : Option D), s = ⟨[some (.val (eCr cr)), some (.val (.lst (rows.map eT))), some (.val (.int (done.length : Nat))), some (.val (eT row)), jv x4, jv x5, some (.ownK (dks l) (dvs D.int l)), jv x7, jv x8, jv x9], c⟩) (fun s => s.src = c) ⟨x4, x7, x8, x9, rfl⟩ ?_ ?_ ?_
      · rintro done2 i rest2 _ hx2 ⟨x4, x7, x8, x9, rfl⟩
        have hi : (lastT rows done.length i).isSome = true := by
          have : i ∈ (zIn cr.mv.length).filter fun i => (lastT rows done.length i).isSome := by rw [hx2]; simp
          exact (List.mem_filter.mp this).2
        obtain ⟨u, hu⟩ := Option.isSome_iff_exists.mp hi
        have hlk : lkp l i = some (u : Int) := by rw [hk.lk, hu]; rfl
        simp_arith
        refine wp_find (enc := D.int) (fun j => if earlyJ cr.cx rows done.length i j = true then some (eF "early" (done.length, i, j)) else none) (fun _ s => ∃ (x7 x8 x9 : Option D), s = ⟨[some (.val (eCr cr)), some (.val (.lst (rows.map eT))), some (.val (.int (done.length : Nat))), some (.val (eT row)), some (.val (.int i)), jv x5, some (.ownK (dks l) (dvs D.int l)), jv x7, jv x8, jv x9], c⟩) (fun s => s.src = c) ⟨x7, x8, x9, rfl⟩ ?_ ?_ ?_
        · rintro done3 j rest3 _ hx3 ⟨x7, x8, x9, rfl⟩
          simp_all_arith
          refine wp_mid' (fun s => s = ⟨[some (.val (eCr cr)), some (.val (.lst (rows.map eT))), some (.val (.int (done.length : Nat))), some (.val (eT row)), some (.val (.int i)), jv x5, some (.ownK (dks l) (dvs D.int l)), some (.val (.int j)), some (.val (eN (clr cr.cx i j))), jv x9], c⟩) ?_ ?_
          · have hII : clr cr.cx i i = none := clr_self hg.ns i
            simp_arith [cl_eq (law_clr_eq cr i j c)]
            refine ⟨fun hij => .inl ?_, fun _ => .inl trivial⟩
            rw [← hij, hII]; rfl
          · rintro _ rfl
            refine wp_mid' (fun s => s = ⟨[some (.val (eCr cr)), some (.val (.lst (rows.map eT))), some (.val (.int (done.length : Nat))), some (.val (eT row)), some (.val (.int i)), jv x5, some (.ownK (dks l) (dvs D.int l)), some (.val (.int j)), some (.val (eN (clr cr.cx i j))), some (.val (.bl (!decide (j ∈ aheadT rows done.length))))], c⟩) ?_ ?_
            · simp_arith
              refine ⟨fun h => ?_, fun h => ?_⟩
              · have h0 : done.length = 0 := by omega
                have e1 : decide ((done.length : Int) = 0) = !decide (j ∈ aheadT rows done.length) := by rw [h0]; simp [aheadT]
                rw [e1]
                exact .inl rfl
              · refine (at_nth (xs := rows) (by omega) (by omega)).mpr ?_
                simp_arith [sm_ninE]
                rw [← aheadT_pos (by omega)]
                exact .inl rfl
            · rintro _ rfl
              cases hc : clr cr.cx i j with
              | none =>
                have hE : earlyJ cr.cx rows done.length i j = false := by simp [earlyJ, hu, tooE, hc]
                simp_arith [eN, hE]
                exact .inl ⟨rfl, some (.int j), some .non, some (.bl (!decide (j ∈ aheadT rows done.length))), rfl⟩
              | some w =>
                have hE : earlyJ cr.cx rows done.length i j = (!decide (j ∈ aheadT rows done.length) && decide ((done.length : Int) - (u : Nat) - 1 < w)) := by simp [earlyJ, hu, tooE, hc]
                simp_arith [eN, hE, hlk]
                refine ⟨fun h => .inl ⟨by rw [decide_eq_true h]; rfl, some (.int j), some (.int w), some (.bl (!decide (j ∈ aheadT rows done.length))), rfl⟩, fun h => ⟨fun h2 => .inr ⟨_, rfl, by rw [decide_eq_false h, decide_eq_true h2]; rfl⟩, fun h2 => .inl ⟨by rw [decide_eq_false h, decide_eq_false h2]; rfl, some (.int j), some (.int w), some (.bl (!decide (j ∈ aheadT rows done.length))), rfl⟩⟩⟩
        · rintro _ ⟨x7, x8, x9, rfl⟩ hn
          rw [find_ite, Option.map_eq_none_iff] at hn
          exact .inl ⟨rfl, by show (row.find? _).map _ = none; rw [hn]; rfl, some (.int i), x7, x8, x9, rfl⟩
        · intro d s hs hd
          rw [find_ite] at hd
          exact .inr ⟨d, rfl, hd, hs⟩
      · rintro _ ⟨x4, x7, x8, x9, rfl⟩ hn
        rw [hf] at hn
        simp_arith
        refine wp_for (enc := D.int) (fun done2 _ s => ∃ (l2 : List (Int × Int)) (x4 : Option D), (l2.map (·.1)).Nodup ∧ (∀ k, lkp l2 k = if k ∈ done2 then some (done.length : Int) else lkp l k) ∧ (∀ k : Int, k ∈ l2.map (·.1) → 0 ≤ k ∧ k < (cr.mv.length : Int)) ∧ s = ⟨[some (.val (eCr cr)), some (.val (.lst (rows.map eT))), some (.val (.int (done.length : Nat))), some (.val (eT row)), jv x4, jv x5, some (.ownK (dks l2) (dvs D.int l2)), jv x7, jv x8, jv x9], c⟩) ⟨l, x4, hk.nd, fun k => by simp, hk.rg, rfl⟩ ?_ ?_
        · rintro done2 i rest2 _ hx2 ⟨l2, x4, k1, k2, k3, rfl⟩
          have hi := hrr i (by rw [hx2]; simp)
          have hlen : l2.length ≤ 1000 := by
            have hsub : (l2.map (·.1)).Nodup := k1
            have := List.Nodup.length_le_of_subset (l₂ := zIn cr.mv.length) hsub fun k hk => zIn_mem.mpr (k3 k hk)
            have e2 : (zIn cr.mv.length).length = cr.mv.length := by simp [zIn]
            rw [List.length_map] at this
            omega
          obtain ⟨p1, p2⟩ := put_stp (l := l2) (k := i) (v := (done.length : Int)) (f := D.int) k1
          simp_arith
          refine ⟨by unfold dks; rw [List.length_map]; omega, stp l2 i done.length, some (.int i), stp_nodup k1, fun k => ?_, fun k hk => ?_, ?_⟩
          · rw [lkp_stp]
            by_cases hki : k = i
            · subst hki; simp
            · rw [if_neg hki, k2 k]
              have : k ∈ done2 ++ [i] ↔ k ∈ done2 := by simp [hki]
              simp only [this]
          · rcases stp_keys.mp hk with rfl | h
            · exact hi
            · exact k3 k h
          · rw [p1, p2]; rfl
        · rintro _ ⟨l2, x4, k1, k2, k3, rfl⟩
          refine .inl ⟨rfl, ?_, l2, some (.int (done.length : Nat)), some (eT row), x4, x7, x8, x9, ?_, rfl⟩
          · show (earlyR cr.cx cr.mv.length rows done.length row).map (fun q => eF "early" (done.length, q.1, q.2)) = none
            rw [early_map]; exact hn
          · rw [show (done ++ [(row, done.length)]).length = done.length + 1 by simp]
            exact hk.row hrow k1 k2 k3
      · intro d s hs hd
        rw [hf] at hd
        simp_arith
        refine .inr ⟨d, rfl, ?_, hs⟩
        show (earlyR cr.cx cr.mv.length rows done.length row).map (fun q => eF "early" (done.length, q.1, q.2)) = some d
        rw [early_map]; exact hd
    · rintro _ ⟨l, x2, x3, x4, x7, x8, x9, hk, rfl⟩ hn2
      rw [earlyF_map, hn2]
      simp_arith
      rfl
    · intro d s hs hd
      rw [earlyF_map, hd]
      simp_arith
      exact ⟨rfl, hs⟩
  · intro d s hs hd
    have hm : (crossF cr.cx rows).map (eF "crossed") = rows.zipIdx.findSome? fun p : List Int × Nat => (crossRow cr.cx p.1).map fun q => eF "crossed" (p.2, q.1, q.2) := by
      unfold crossF; rw [List.map_findSome?]; congr 1; funext i; simp [Function.comp_def, Option.map_map]
    rw [← hm] at hd
    obtain ⟨f, hf, rfl⟩ := Option.map_eq_some_iff.mp hd
    unfold faultF
    rw [hf]
    simp_arith
    exact hs
end GW
end

noncomputable section
namespace GW
open GH
structure Safe (cx : List C4) (n : Nat) (rows : List (List Int)) : Prop where
  free : ∀ row ∈ rows, ∀ i ∈ row, ∀ j ∈ row, clr cx i j = none
  gap : ∀ u t : Nat, u < t → ∀ i ∈ rows.getD u [], ∀ j ∈ rows.getD t [], ∀ w, clr cx i j = some w → (u : Int) + 1 + w ≤ t
  tail : ∀ u : Nat, ∀ i ∈ rows.getD u [], ∀ j : Int, 0 ≤ j → j < n → ∀ w, clr cx i j = some w → (u : Int) + 1 + w ≤ rows.length
theorem safe_0 (cx : List C4) (n : Nat) : Safe cx n [] := ⟨by simp, by simp, by simp⟩
theorem Safe.seg {cx : List C4} {n : Nat} {rows : List (List Int)} (h : Safe cx n rows) {st : List Int} (hs : Lot cx n st) (ticks k : Nat) (hk : ∀ i ∈ st, ∀ j : Int, 0 ≤ j → j < n → ∀ w, clr cx i j = some w → w ≤ k) : Safe cx n (rows ++ (List.replicate ticks st ++ List.replicate k [])) := by
  have hget : ∀ u : Nat, (rows ++ (List.replicate ticks st ++ List.replicate k [])).getD u [] = if u < rows.length then rows.getD u [] else if u - rows.length < ticks then st else [] := fun u => by
    rw [getD_app, getD_app, List.length_replicate, getD_rep, getD_rep]
    by_cases h1 : u < rows.length
    · rw [if_pos h1, if_pos h1]
    · rw [if_neg h1, if_neg h1]
      by_cases h2 : u - rows.length < ticks
      · simp only [if_pos h2]
      · simp only [if_neg h2, ite_self]
  have hlen : (rows ++ (List.replicate ticks st ++ List.replicate k [])).length = rows.length + (ticks + k) := by simp
  refine ⟨fun row hr i hi j hj => ?_, fun u t hut i hi j hj w hw => ?_, fun u i hi j h0 h1 w hw => ?_⟩
  · rcases List.mem_append.mp hr with z | z
    · exact h.free row z i hi j hj
    · rcases List.mem_append.mp z with y | y
      · rw [List.eq_of_mem_replicate y] at hi hj
        exact hs.free i hi j hj
      · rw [List.eq_of_mem_replicate y] at hi; cases hi
  · rw [hget] at hi hj
    by_cases ht : t < rows.length
    · rw [if_pos (by omega)] at hi
      rw [if_pos ht] at hj
      exact h.gap u t hut i hi j hj w hw
    · rw [if_neg ht] at hj
      split at hj
      · have hjn := hs.inn j hj
        split at hi
        · have := h.tail u i hi j hjn.1 hjn.2 w hw
          omega
        · split at hi
          · rw [hs.free i hi j hj] at hw; cases hw
          · cases hi
      · cases hj
  · rw [hget] at hi
    rw [hlen]
    split at hi
    · have := h.tail u i hi j h0 h1 w hw
      omega
    · split at hi
      · have := hk i hi j h0 h1 w hw
        omega
      · cases hi
theorem clg_ge {cr : Cr} (hg : GoodX cr) {st : List Int} {i j w : Int} (hi : i ∈ st) (h0 : 0 ≤ j) (h1 : j < cr.mv.length) (hw : clr cr.cx i j = some w) : w ≤ clg cr.cx cr.mv.length st := by
  refine (fold_ge (clrL cr.cx cr.mv.length st) 0).2 w ?_
  refine List.mem_flatMap.mpr ⟨i, hi, List.mem_map.mpr ⟨j.toNat, List.mem_range.mpr (by omega), ?_⟩⟩
  unfold cell
  rw [show ((j.toNat : Nat) : Int) = j by omega, hw]; rfl
theorem Safe.plan {cr : Cr} (hg : GoodX cr) : ∀ {plan : List (Int × Int)} {rows : List (List Int)}, (∀ p ∈ plan, 0 ≤ p.1 ∧ p.1 < (stg cr.cx cr.mv.length).length) → Safe cr.cx cr.mv.length rows → Safe cr.cx cr.mv.length (rows ++ someR cr plan)
  | [], rows, _, h => by simpa [someR] using h
  | p :: r, rows, hp, h => by
    obtain ⟨b1, b2⟩ := hp p List.mem_cons_self
    have hc := hg.clgS p.1
    have := h.seg (hg.st b1 b2).2 p.2.toNat (clgS cr p.1).toNat fun i hi j h0 h1 w hw => by
      have := clg_ge hg hi h0 h1 hw
      have e : clgS cr p.1 = clg cr.cx cr.mv.length (stgS cr p.1) := rfl
      omega
    have h2 := Safe.plan hg (plan := r) (fun q hq => hp q (List.mem_cons_of_mem _ hq)) this
    have e : someR cr (p :: r) = segR cr p ++ someR cr r := rfl
    rw [e, ← List.append_assoc]
    exact h2
theorem Safe.lamps {cr : Cr} (hg : GoodX cr) : ∀ {plans : List (List (Int × Int))} {rows : List (List Int)}, (∀ p ∈ plans, PlanG cr p) → Safe cr.cx cr.mv.length rows → Safe cr.cx cr.mv.length (rows ++ lampsF cr plans)
  | [], rows, _, h => by simpa [lampsF] using h
  | p :: r, rows, hp, h => by
    have h1 := h.plan hg (plan := p) fun q hq => ⟨((hp p List.mem_cons_self).inn q hq).1, ((hp p List.mem_cons_self).inn q hq).2.1⟩
    have h2 := h1.seg (lot_nil cr.cx cr.mv.length) 0 (cr.len - (someR cr p).length).toNat (by simp)
    have h3 := Safe.lamps hg (plans := r) (fun q hq => hp q (List.mem_cons_of_mem _ hq)) h2
    have e : lampsF cr (p :: r) = frmR cr p ++ lampsF cr r := rfl
    rw [e]
    unfold frmR
    simpa using h3
theorem lastT_some {rows : List (List Int)} {i : Int} : ∀ {t u : Nat}, lastT rows t i = some u → u < t ∧ i ∈ rows.getD u []
  | 0, _, h => by cases h
  | t + 1, u, h => by
    unfold lastT at h
    split at h
    · rename_i hi
      cases h
      exact ⟨by omega, hi⟩
    · obtain ⟨a, b⟩ := lastT_some h
      exact ⟨by omega, b⟩
theorem Safe.fault {cx : List C4} {n : Nat} {rows : List (List Int)} (h : Safe cx n rows) : faultF cx n rows = .non := by
  have h1 : crossF cx rows = none := by
    unfold crossF
    rw [List.findSome?_eq_none_iff]
    rintro ⟨row, t⟩ hp
    have hr : row ∈ rows := by
      have := List.mem_zipIdx' hp
      exact this.2 ▸ List.getElem_mem _
    rw [Option.map_eq_none_iff]
    unfold crossRow
    rw [List.findSome?_eq_none_iff]
    intro i hi
    rw [Option.map_eq_none_iff]
    unfold cr2
    rw [List.find?_eq_none]
    intro j hj
    rw [h.free row hr i hi j hj]
    simp
  have h2 : earlyF cx n rows = none := by
    unfold earlyF
    rw [List.findSome?_eq_none_iff]
    rintro ⟨row, t⟩ hp
    have hr := List.mem_zipIdx' hp
    have hrow : rows.getD t [] = row := by
      rw [List.getD_eq_getElem?_getD, List.getElem?_eq_getElem hr.1]; exact hr.2.symm
    rw [Option.map_eq_none_iff]
    unfold earlyR
    rw [List.findSome?_eq_none_iff]
    intro i hi
    rw [Option.map_eq_none_iff, List.find?_eq_none]
    intro j hj z
    unfold earlyJ at z
    rw [Bool.and_eq_true] at z
    have z2 := z.2
    unfold tooE at z2
    cases e : lastT rows t i with
    | none => rw [e] at z2; cases z2
    | some u =>
      rw [e] at z2
      simp only at z2
      obtain ⟨hu, hiu⟩ := lastT_some e
      cases e2 : clr cx i j with
      | none => rw [e2] at z2; cases z2
      | some w =>
        rw [e2] at z2
        have := h.gap u t hu i hiu j (by rw [hrow]; exact hj) w e2
        have z3 := of_decide_eq_true z2
        omega
  unfold faultF
  rw [h1, h2]; rfl
theorem lamps_fault {cr : Cr} (hg : GoodX cr) {plans : List (List (Int × Int))} (hp : ∀ p ∈ plans, PlanG cr p) : faultF cr.cx cr.mv.length (lampsF cr plans) = .non := by
  have := Safe.lamps hg hp (safe_0 cr.cx cr.mv.length)
  rw [List.nil_append] at this
  exact this.fault
end GW
end

noncomputable section
namespace GW
open GH
end GW
end

noncomputable section
namespace GW
open GH
def Valid (cr : Cr) (plan : List (Int × Int)) : Prop := ∀ p ∈ plan, 0 ≤ p.1 ∧ p.1 < (stg cr.cx cr.mv.length).length
theorem PlanG.valid {cr : Cr} {plan : List (Int × Int)} (h : PlanG cr plan) : Valid cr plan := fun p hp => ⟨(h.inn p hp).1, (h.inn p hp).2.1⟩
theorem need_of_eq (cr : Cr) (plan : List (Int × Int)) (c : Src) (hg : GoodX cr) (hv : Valid cr plan) (hl : plan.length ≤ 1000) : S_need_of [eCr cr, ePl plan] c = some (.int (need cr plan), c) := by
  simp_arith! [m_need_of, sm_seqPl]
  refine wp_compM (enc := eP2) (fun p => D.int (p.2 + clgS cr p.1)) (by omega) (by simp_arith) (fun p hp => by
    obtain ⟨b1, b2⟩ := hv p hp
    have hcl : S_clear_ticks [eCr cr, .int p.1] c = some (.int (clgS cr p.1), c) := clear_eq cr p.1 c hg b1 b2
    rw [show eP2 p = D.tup [.int p.1, .int p.2] from rfl]
    simp_arith [cl_eq hcl]) ?_
  rw [show plan.map (fun p => D.int (p.2 + clgS cr p.1)) = (plan.map fun p => p.2 + clgS cr p.1).map D.int by rw [List.map_map]; rfl]
  simp_arith
  rfl
def capSt (t : Int) (a : List Int) (i : Int) : List Int := a.set i.toNat (nth a i + (t - 1))
def capP (cr : Cr) (a : List Int) (p : Int × Int) : List Int := (stgS cr p.1).foldl (capSt p.2) a
def capF (cr : Cr) (plan : List (Int × Int)) : List Int := plan.foldl (capP cr) (List.replicate cr.mv.length 0)
theorem capSt_len (t : Int) : ∀ (l : List Int) (a : List Int), (l.foldl (capSt t) a).length = a.length
  | [], _ => rfl
  | i :: r, a => by rw [List.foldl_cons, capSt_len t r]; simp [capSt]
theorem capP_len (cr : Cr) : ∀ (pl : List (Int × Int)) (a : List Int), (pl.foldl (capP cr) a).length = a.length
  | [], _ => rfl
  | p :: r, a => by rw [List.foldl_cons, capP_len cr r]; exact capSt_len _ _ _
theorem capF_len (cr : Cr) (plan : List (Int × Int)) : (capF cr plan).length = cr.mv.length := by unfold capF; rw [capP_len]; simp
theorem capacity_eq (cr : Cr) (plan : List (Int × Int)) (c : Src) (hg : GoodX cr) (hv : Valid cr plan) : S_capacity_of [eCr cr, ePl plan] c = some (eT (capF cr plan), c) := by
  have h6 := hg.le
  simp_arith! [m_capacity_of]
  rw [cl_eq (stages_eq cr c hg.ns (by have := hg.cl; omega) hg.ne hg.le)]
  simp_arith
  refine wp_compM (fun _ : Mv => D.int 0) (by omega) (by simp_arith) (fun x _ => by simp_arith) ?_
  have e0 : (cr.mv.map fun _ => D.int 0) = (List.replicate cr.mv.length (0 : Int)).map D.int := by rw [List.map_replicate, List.map_const']
  rw [e0]
  simp_arith [sm_seqPl]
  refine wp_for (enc := eP2) (fun done _ s => ∃ (x4 x5 x6 : Option D), s = ⟨[some (.val (eCr cr)), some (.val (ePl plan)), some (.val (eR (stg cr.cx cr.mv.length))), some (.own ((done.foldl (capP cr) (List.replicate cr.mv.length 0)).map D.int)), jv x4, jv x5, jv x6, none], c⟩) ⟨none, none, none, rfl⟩ ?_ ?_
  · rintro done ⟨s0, ticks⟩ rest _ hx ⟨x4, x5, x6, rfl⟩
    obtain ⟨b1, b2⟩ := hv (s0, ticks) (by rw [hx]; simp)
    simp only at b1 b2
    have hst := (hg.st b1 b2).2
    have hlen := capP_len cr done (List.replicate cr.mv.length 0)
    rw [List.length_replicate] at hlen
    simp_arith [eP2, at_nth (xs := stg cr.cx cr.mv.length) b1 b2]
    refine wp_for (fun done2 _ s => ∃ (x6 : Option D), s = ⟨[some (.val (eCr cr)), some (.val (ePl plan)), some (.val (eR (stg cr.cx cr.mv.length))), some (.own ((done2.foldl (capSt ticks) (done.foldl (capP cr) (List.replicate cr.mv.length 0))).map D.int)), some (.val (.int s0)), some (.val (.int ticks)), jv x6, none], c⟩) ⟨x6, rfl⟩ ?_ ?_
    · rintro done2 i rest2 _ hx2 ⟨x6, rfl⟩
      obtain ⟨i1, i2⟩ := hst.inn i (by show i ∈ nth (stg cr.cx cr.mv.length) s0; rw [hx2]; simp)
      have hl2 := capSt_len ticks done2 (done.foldl (capP cr) (List.replicate cr.mv.length 0))
      obtain ⟨a, ha⟩ : ∃ a, a = done2.foldl (capSt ticks) (done.foldl (capP cr) (List.replicate cr.mv.length 0)) := ⟨_, rfl⟩
      rw [← ha] at hl2 ⊢
      simp_arith [at_nth (xs := a) i1 (by omega), List.length_map]
      rw [ix_ok i1 (by omega)]
      simp_arith
      exact ⟨some (.int i), by rw [List.foldl_append, List.foldl_cons, List.foldl_nil, ← ha]; unfold capSt; rw [List.map_set]; rfl⟩
    · rintro _ ⟨x6, rfl⟩
      refine ⟨some (.int s0), some (.int ticks), x6, ?_⟩
      rw [List.foldl_append]
      rfl
  · rintro _ ⟨x4, x5, x6, rfl⟩
    simp_arith
    rfl
def geAll (a b : List Int) : Bool := (a.zip b).all fun p => decide (p.1 ≥ p.2)
theorem sm_neTT {a b : List Int} {P : D → Prop} : Sm (neD (eT a) (eT b)) P ↔ P (.bl (!decide (a = b))) := by unfold eT; rw [sm_neIT]
theorem least_eq (a b : List Int) (c : Src) (h : a.length ≤ 1000) : S__law_is_least [eT a, eT b] c = some (.bl (geAll a b), c) := by
  simp_arith! [m__law_is_least]
  refine wp_compM (fun p : Int × Int => D.bl (decide (p.1 ≥ p.2))) (by simp; omega) (by simp_arith) (fun p _ => by simp_arith) ?_
  simp_arith
  rfl
theorem above_eq (a b : List Int) (c : Src) (h : a.length ≤ 1000) : S_is_above [eT a, eT b] c = some (.bl (!decide (a = b) && geAll a b), c) := by
  simp_arith! [m_is_above, sm_neTT]
  refine ⟨fun e => ?_, fun e => ?_⟩
  · rw [decide_eq_true e]; first | rfl | exact ⟨rfl, rfl⟩
  · refine wp_compM (fun p : Int × Int => D.bl (decide (p.1 ≥ p.2))) (by simp; omega) (by simp_arith) (fun p _ => by simp_arith) ?_
    simp_arith
    rw [decide_eq_false e]
    first | rfl | exact ⟨rfl, rfl⟩
theorem one_crossing_cl (c : Src) : Cl S__law_one_crossing [.src] c fun d _ => ∃ cr, CrOk 4 cr ∧ d = eCr cr := by
  refine fn_cl ?_
  simp only [startE_s, startE_n, startE_z, m__law_one_crossing]
  simp_arith
  refine cl_pick (by decide) (by decide) fun r c1 hr hr' => ?_
  simp_arith
  rw [show [D.int 0, D.int 1, D.int 2] = [(0 : Int), 1, 2].map D.int from rfl, cutL_map, cutL_to (by omega)]
  refine cl_pick (by decide) (by decide) fun r2 c2 hr2 hr2' => ?_
  simp_arith
  refine (crossing_cl 4 (3 + r2) (([(0 : Int), 1, 2]).take (1 + r).toNat) c2 (by decide) (by decide) ?_ ?_ ?_ (by omega) (by omega)).mono fun d c3 ⟨cr, h1, _, h3⟩ => ?_
  · intro e
    have := congrArg List.length e
    simp at this; omega
  · simp; omega
  · intro q hq
    have := List.mem_of_mem_take hq
    simp at this; omega
  · subst h3
    simp_arith
    exact ⟨cr, h1, rfl⟩
end GW
end

noncomputable section
namespace GW
open GH
def XOk : D → Prop
  | .rng _ _ => False
  | .src => False
  | .dtt _ _ => False
  | .tpx _ => False
  | _ => True
def isInt : D → Bool
  | .int _ => true
  | _ => false
structure EOk (e : D) : Prop where
  x : XOk e
  t : ∀ es, e = .tup es → es.length ≤ 1000 ∧ ∀ x ∈ es, XOk x
structure VOk (v : D) : Prop where
  x : XOk v
  t : ∀ ds, v = .tup ds → ds.length ≤ 1000 ∧ ∀ e ∈ ds, EOk e
section
variable {g : D → M Unit} {cc : M Bool} {el : M D} {vs : List Nat} {env : List (Option Sl)} {src : Src}
end
theorem sm_lenPl {pl : List (Int × Int)} {P : D → Prop} : Sm (lenG [ePl pl]) P ↔ P (.int pl.length) := by unfold ePl; rw [sm_lenT, List.length_map]
end GW
end

noncomputable section
namespace GW
open GH
abbrev Pl := List (Int × Int)
theorem need_nil (cr : Cr) : need cr [] = 0 := rfl
theorem need_cons (cr : Cr) (p : Int × Int) (t : Pl) : need cr (p :: t) = (p.2 + clgS cr p.1) + need cr t := rfl
theorem need_one (cr : Cr) (p : Int × Int) : need cr [p] = p.2 + clgS cr p.1 := by unfold need; simp
def rngT (room : Int) : List Int := (List.range (room + 1 - 2).toNat).map fun i => (2 : Int) + (i : Nat)
theorem mem_rngT {room t : Int} : t ∈ rngT room ↔ 2 ≤ t ∧ t ≤ room := by
  unfold rngT
  constructor
  · intro h
    obtain ⟨i, hi, rfl⟩ := List.mem_map.mp h
    have := List.mem_range.mp hi
    omega
  · rintro ⟨h1, h2⟩
    exact List.mem_map.mpr ⟨(t - 2).toNat, List.mem_range.mpr (by omega), by omega⟩
def kid (s : Nat) (pl : Pl) (t : Int) : Pl := pl ++ [((s : Int), t)]
def kids (cr : Cr) (s : Nat) (pl : Pl) : List Pl := (rngT (cr.len - need cr pl - clgS cr s)).map (kid s pl)
def Us (cr : Cr) : Nat → List Pl
  | 0 => [[]]
  | s + 1 => Us cr s ++ (Us cr s).flatMap (kids cr s)
structure Up (cr : Cr) (n : Nat) (pl : Pl) : Prop where
  inn : ∀ p ∈ pl, 0 ≤ p.1 ∧ p.1 < n ∧ 2 ≤ p.2
  asc : pl.Pairwise (fun a b => a.1 < b.1)
  fit : need cr pl ≤ cr.len
theorem Us_up {cr : Cr} (h0 : 0 ≤ cr.len) : ∀ (n : Nat) (pl : Pl), pl ∈ Us cr n → Up cr n pl
  | 0, pl, h => by
    have : pl = [] := by simpa [Us] using h
    subst this
    exact ⟨by simp, List.Pairwise.nil, h0⟩
  | n + 1, pl, h => by
    rcases List.mem_append.mp h with h | h
    · have := Us_up h0 n pl h
      exact ⟨fun p hp => by have := this.inn p hp; omega, this.asc, this.fit⟩
    · obtain ⟨q, hq, hk⟩ := List.mem_flatMap.mp h
      obtain ⟨t, ht, rfl⟩ := List.mem_map.mp hk
      have := Us_up h0 n q hq
      have ht := mem_rngT.mp ht
      refine ⟨fun p hp => ?_, ?_, ?_⟩
      · rcases List.mem_append.mp hp with z | z
        · have := this.inn p z; omega
        · simp at z; subst z; simp only; omega
      · unfold kid
        rw [List.pairwise_append]
        refine ⟨this.asc, List.pairwise_singleton _ _, fun a ha b hb => ?_⟩
        simp at hb; subst hb
        exact (this.inn a ha).2.1
      · unfold kid
        rw [need_app, need_one]; simp only; omega
theorem Us_mono {cr : Cr} {pl : Pl} : ∀ {n : Nat}, pl ∈ Us cr n → pl ∈ Us cr (n + 1) := fun h => List.mem_append_left _ h
theorem nil_Us (cr : Cr) : ∀ n, ([] : Pl) ∈ Us cr n
  | 0 => by simp [Us]
  | n + 1 => Us_mono (nil_Us cr n)
theorem up_Us {cr : Cr} (hg : GoodX cr) : ∀ (n : Nat) (pl : Pl), Up cr n pl → pl ∈ Us cr n
  | 0, pl, h => by
    cases pl with
    | nil => exact nil_Us cr 0
    | cons p t => have := h.inn p List.mem_cons_self; omega
  | n + 1, pl, h => by
    rcases List.eq_nil_or_concat pl with rfl | ⟨q, b, rfl⟩
    · exact nil_Us cr _
    · rw [List.concat_eq_append] at h ⊢
      have hasc := List.pairwise_append.mp h.asc
      have hfit := h.fit
      rw [need_app, need_one] at hfit
      have hb := h.inn b (by simp)
      have hcl := hg.clgS b.1
      have hq1 : ∀ p ∈ q, 0 ≤ p.1 ∧ p.1 < b.1 ∧ 2 ≤ p.2 := fun p hp => ⟨(h.inn p (by simp [hp])).1, hasc.2.2 p hp b (by simp), (h.inn p (by simp [hp])).2.2⟩
      by_cases e : b.1 = n
      · have hU := up_Us hg n q ⟨fun p hp => by have := hq1 p hp; omega, hasc.1, by omega⟩
        refine List.mem_append_right _ (List.mem_flatMap.mpr ⟨q, hU, List.mem_map.mpr ⟨b.2, mem_rngT.mpr ⟨hb.2.2, by rw [← e]; omega⟩, ?_⟩⟩)
        unfold kid
        rw [← e]
      · refine List.mem_append_left _ (up_Us hg n _ ⟨fun p hp => ?_, h.asc, by rw [need_app, need_one]; exact hfit⟩)
        rcases List.mem_append.mp hp with z | z
        · have := hq1 p z; omega
        · simp at z; subst z; omega
def wtU (cr : Cr) (l : List Pl) : Nat := (l.map fun pl => 2 ^ (cr.len - need cr pl).toNat).sum
theorem wtU_app (cr : Cr) (a b : List Pl) : wtU cr (a ++ b) = wtU cr a + wtU cr b := by unfold wtU; rw [List.map_append, List.sum_append]
theorem len_le_wt (cr : Cr) : ∀ l : List Pl, l.length ≤ wtU cr l
  | [] => Nat.le_refl _
  | x :: r => by
    have := len_le_wt cr r
    have h2 : 1 ≤ 2 ^ (cr.len - need cr x).toNat := Nat.one_le_two_pow
    have e : wtU cr (x :: r) = 2 ^ (cr.len - need cr x).toNat + wtU cr r := by unfold wtU; simp
    rw [e, List.length_cons]; omega
theorem pow_sum (f : Nat → Nat) : ∀ m a, (∀ i, i < m → f i ≤ a - i) → m ≤ a + 1 → ((List.range m).map fun i => 2 ^ f i).sum + 1 ≤ 2 ^ (a + 1)
  | 0, a, _, _ => by simp; exact Nat.one_le_two_pow
  | m + 1, a, h, hm => by
    rw [List.range_succ_eq_map, List.map_cons, List.sum_cons, List.map_map]
    cases a with
    | zero =>
      have : m = 0 := by omega
      subst this
      have := h 0 (by omega)
      have e : f 0 = 0 := by omega
      simp [e]
    | succ a =>
      have ih := pow_sum (fun i => f (i + 1)) m a (fun i hi => by have := h (i + 1) (by omega); omega) (by omega)
      have h0 : 2 ^ f 0 ≤ 2 ^ (a + 1) := Nat.pow_le_pow_right (by decide) (by have := h 0 (by omega); omega)
      have e : 2 ^ (a + 1 + 1) = 2 ^ (a + 1) + 2 ^ (a + 1) := by rw [Nat.pow_succ]; omega
      have e2 : ((fun i => 2 ^ f i) ∘ Nat.succ) = fun i => 2 ^ f (i + 1) := rfl
      rw [e, e2]; omega
theorem wt_kids {cr : Cr} (hg : GoodX cr) (s : Nat) (pl : Pl) : 2 * wtU cr (kids cr s pl) ≤ 2 ^ (cr.len - need cr pl).toNat := by
  have hcl := hg.clgS s
  generalize hr : cr.len - need cr pl - clgS cr s = room
  have e : wtU cr (kids cr s pl) = ((List.range (room + 1 - 2).toNat).map fun i => 2 ^ (cr.len - need cr (kid s pl (2 + (i : Nat)))).toNat).sum := by
    unfold wtU kids rngT
    rw [hr, List.map_map, List.map_map]; rfl
  rw [e]
  by_cases h2 : room < 2
  · have : (room + 1 - 2).toNat = 0 := by omega
    rw [this]; simp
  · obtain ⟨a, ha⟩ : ∃ a : Nat, room = a + 2 := ⟨(room - 2).toNat, by omega⟩
    have hk : ∀ i, i < (room + 1 - 2).toNat → (cr.len - need cr (kid s pl (2 + (i : Nat)))).toNat ≤ a - i := fun i hi => by
      unfold kid
      rw [need_app, need_one]; simp only; omega
    have := pow_sum (fun i => (cr.len - need cr (kid s pl (2 + (i : Nat)))).toNat) (room + 1 - 2).toNat a hk (by omega)
    have h3 : 2 ^ (a + 2) ≤ 2 ^ (cr.len - need cr pl).toNat := Nat.pow_le_pow_right (by decide) (by omega)
    have e4 : 2 ^ (a + 2) = 2 * 2 ^ (a + 1) := by rw [Nat.pow_succ]; omega
    omega
theorem wt_flat {cr : Cr} (hg : GoodX cr) (s : Nat) : ∀ l : List Pl, 2 * wtU cr (l.flatMap (kids cr s)) ≤ wtU cr l
  | [] => by simp [wtU]
  | x :: r => by
    have h1 := wt_kids hg s x
    have h2 := wt_flat hg s r
    have e : wtU cr (x :: r) = 2 ^ (cr.len - need cr x).toNat + wtU cr r := by unfold wtU; simp
    rw [List.flatMap_cons, wtU_app, e]; omega
theorem Us_wt {cr : Cr} (hg : GoodX cr) : ∀ n, 2 ^ n * wtU cr (Us cr n) ≤ 3 ^ n * 2 ^ cr.len.toNat
  | 0 => by simp [Us, wtU, need_nil]
  | n + 1 => by
    have ih := Us_wt hg n
    have h := wt_flat hg n (Us cr n)
    have e : wtU cr (Us cr (n + 1)) = wtU cr (Us cr n) + wtU cr ((Us cr n).flatMap (kids cr n)) := wtU_app cr _ _
    have e2 : 2 ^ (n + 1) * wtU cr (Us cr (n + 1)) = 2 ^ n * (2 * wtU cr (Us cr (n + 1))) := by rw [Nat.pow_succ, Nat.mul_assoc]
    have h3 : 2 ^ n * (2 * wtU cr (Us cr (n + 1))) ≤ 2 ^ n * (3 * wtU cr (Us cr n)) := Nat.mul_le_mul_left _ (by omega)
    have e4 : 2 ^ n * (3 * wtU cr (Us cr n)) = 3 * (2 ^ n * wtU cr (Us cr n)) := by rw [← Nat.mul_assoc, Nat.mul_comm (2 ^ n) 3, Nat.mul_assoc]
    have e5 : 3 ^ (n + 1) * 2 ^ cr.len.toNat = 3 * (3 ^ n * 2 ^ cr.len.toNat) := by rw [Nat.pow_succ, Nat.mul_comm (3 ^ n) 3, Nat.mul_assoc]
    rw [e2, e5]
    exact Nat.le_trans h3 (by rw [e4]; exact Nat.mul_le_mul_left _ ih)
theorem Us_len {cr : Cr} (hg : GoodX cr) (h8 : cr.len ≤ 8) {n : Nat} (hn : n ≤ 16) : (Us cr n).length ≤ 200000 := by
  have h := Us_wt hg n
  have h1 := len_le_wt cr (Us cr n)
  have h2 : 2 ^ cr.len.toNat ≤ 2 ^ 8 := Nat.pow_le_pow_right (by decide) (by omega)
  have h3 : 2 ^ n * wtU cr (Us cr n) ≤ 3 ^ n * 2 ^ 8 := Nat.le_trans h (Nat.mul_le_mul_left _ h2)
  have key : ∀ (m w : Nat), m ≤ 16 → 2 ^ m * w ≤ 3 ^ m * 2 ^ 8 → w ≤ 200000 := by
    intro m w hm hw
    have : m = 0 ∨ m = 1 ∨ m = 2 ∨ m = 3 ∨ m = 4 ∨ m = 5 ∨ m = 6 ∨ m = 7 ∨ m = 8 ∨ m = 9 ∨ m = 10 ∨ m = 11 ∨ m = 12 ∨ m = 13 ∨ m = 14 ∨ m = 15 ∨ m = 16 := by omega
    rcases this with rfl | rfl | rfl | rfl | rfl | rfl | rfl | rfl | rfl | rfl | rfl | rfl | rfl | rfl | rfl | rfl | rfl <;> simp at hw <;> omega
  exact Nat.le_trans h1 (key n _ hn h3)
end GW
end

noncomputable section
namespace GW
open GH
def capV (cr : Cr) (pl : Pl) (i : Nat) : Int := (pl.map fun p => if (i : Int) ∈ stgS cr p.1 then p.2 - 1 else 0).sum
theorem capV_nil (cr : Cr) (i : Nat) : capV cr [] i = 0 := rfl
theorem capV_cons (cr : Cr) (p : Int × Int) (t : Pl) (i : Nat) : capV cr (p :: t) i = (if (i : Int) ∈ stgS cr p.1 then p.2 - 1 else 0) + capV cr t i := by unfold capV; simp
theorem capV_app (cr : Cr) (a b : Pl) (i : Nat) : capV cr (a ++ b) i = capV cr a i + capV cr b i := by unfold capV; rw [List.map_append, List.sum_append]
theorem capV_nn (cr : Cr) {pl : Pl} (h : ∀ p ∈ pl, 1 ≤ p.2) (i : Nat) : 0 ≤ capV cr pl i := by
  induction pl with
  | nil => exact Int.le_refl _
  | cons p t ih =>
    have h1 := h p List.mem_cons_self
    have := ih fun q hq => h q (List.mem_cons_of_mem _ hq)
    rw [capV_cons]
    split <;> omega
theorem getD_set (a : List Int) (j i : Nat) (v : Int) (hj : j < a.length) : (a.set j v).getD i 0 = if i = j then v else a.getD i 0 := by
  rw [List.getD_eq_getElem?_getD, List.getD_eq_getElem?_getD]
  by_cases h : i = j
  · subst h; rw [if_pos rfl, List.getElem?_set_self hj]; rfl
  · rw [if_neg h, List.getElem?_set_ne (fun z => h z.symm)]
theorem nth_nat (a : List Int) (i : Int) : nth a i = a.getD i.toNat 0 := rfl
theorem capSt_get (t : Int) (m : Nat) : ∀ (l : List Int) (a : List Int), a.length = m → (∀ x ∈ l, 0 ≤ x ∧ x < m) → l.Pairwise (· < ·) → ∀ i : Nat, i < m → (l.foldl (capSt t) a).getD i 0 = a.getD i 0 + (if (i : Int) ∈ l then t - 1 else 0)
  | [], a, _, _, _, i, _ => by simp
  | x :: r, a, ha, hx, hp, i, hi => by
    have hx0 := hx x List.mem_cons_self
    have hp' := List.pairwise_cons.mp hp
    have hl : (capSt t a x).length = m := by unfold capSt; rw [List.length_set]; exact ha
    rw [List.foldl_cons, capSt_get t m r (capSt t a x) hl (fun y hy => hx y (List.mem_cons_of_mem _ hy)) hp'.2 i hi]
    unfold capSt
    rw [getD_set _ _ _ _ (by omega), nth_nat]
    by_cases e : (i : Int) = x
    · have e2 : i = x.toNat := by omega
      have hn : ¬ (i : Int) ∈ r := fun z => by have := hp'.1 _ z; omega
      rw [if_pos e2, if_neg hn, if_pos (by rw [e]; exact List.mem_cons_self), ← e2]; omega
    · have e2 : ¬ i = x.toNat := by omega
      rw [if_neg e2]
      congr 1
      have : (i : Int) ∈ x :: r ↔ (i : Int) ∈ r := by rw [List.mem_cons]; exact ⟨fun z => z.resolve_left e, .inr⟩
      by_cases hr : (i : Int) ∈ r
      · rw [if_pos hr, if_pos (this.mpr hr)]
      · rw [if_neg hr, if_neg (fun z => hr (this.mp z))]
theorem capP_get {cr : Cr} (hg : GoodX cr) : ∀ (pl : Pl) (a : List Int), Valid cr pl → a.length = cr.mv.length → ∀ i : Nat, i < cr.mv.length → (pl.foldl (capP cr) a).getD i 0 = a.getD i 0 + capV cr pl i
  | [], a, _, _, i, _ => by simp [capV]
  | p :: t, a, hv, ha, i, hi => by
    have hv0 := hv p List.mem_cons_self
    have hst := (hg.st hv0.1 hv0.2).2
    have hl : (capP cr a p).length = cr.mv.length := by unfold capP; rw [capSt_len]; exact ha
    rw [List.foldl_cons, capP_get hg t (capP cr a p) (fun q hq => hv q (List.mem_cons_of_mem _ hq)) hl i hi, capV_cons]
    unfold capP
    rw [capSt_get p.2 cr.mv.length (stgS cr p.1) a ha hst.inn hst.asc i hi]
    omega
theorem capF_eq {cr : Cr} (hg : GoodX cr) {pl : Pl} (hv : Valid cr pl) : capF cr pl = (List.range cr.mv.length).map (capV cr pl) := by
  have hl := capF_len cr pl
  refine List.ext_getElem? fun i => ?_
  by_cases hi : i < cr.mv.length
  · have h := capP_get hg pl (List.replicate cr.mv.length 0) hv (by simp) i hi
    have h0 : (List.replicate cr.mv.length (0 : Int)).getD i 0 = 0 := by rw [List.getD_eq_getElem?_getD, List.getElem?_replicate]; split <;> rfl
    rw [h0, List.getD_eq_getElem?_getD] at h
    have e : (capF cr pl)[i]? = some ((capF cr pl)[i]'(by omega)) := List.getElem?_eq_getElem _
    have h : ((capF cr pl)[i]?).getD 0 = 0 + capV cr pl i := h
    rw [e] at h ⊢
    rw [List.getElem?_map, List.getElem?_range hi]
    simp only [Option.getD_some, Option.map_some] at h ⊢
    rw [h]; simp
  · rw [List.getElem?_eq_none (by omega), List.getElem?_eq_none (by simpa using hi)]
theorem Up.valid {cr : Cr} {n : Nat} {pl : Pl} (h : Up cr n pl) (hn : n ≤ (stg cr.cx cr.mv.length).length) : Valid cr pl := fun p hp => by have := h.inn p hp; omega
theorem ge_cons (x y : Int) (r t : List Int) : geAll (x :: r) (y :: t) = (decide (x ≥ y) && geAll r t) := rfl
theorem ge_refl : ∀ a : List Int, geAll a a = true
  | [] => rfl
  | x :: r => by rw [ge_cons, ge_refl r]; simp
theorem ge_trans : ∀ {a b c : List Int}, a.length = b.length → b.length = c.length → geAll a b = true → geAll b c = true → geAll a c = true
  | [], [], [], _, _, _, _ => rfl
  | x :: a, y :: b, z :: c, h1, h2, h3, h4 => by
    rw [ge_cons, Bool.and_eq_true] at h3 h4 ⊢
    have e1 := of_decide_eq_true h3.1
    have e2 := of_decide_eq_true h4.1
    exact ⟨decide_eq_true (by omega), ge_trans (by simpa using h1) (by simpa using h2) h3.2 h4.2⟩
  | [], _ :: _, _, h, _, _, _ => by cases h
  | _ :: _, [], _, h, _, _, _ => by cases h
  | [], [], _ :: _, _, h, _, _ => by cases h
  | _ :: _, _ :: _, [], _, h, _, _ => by cases h
theorem ge_sum : ∀ {a b : List Int}, a.length = b.length → geAll a b = true → b.sum ≤ a.sum ∧ (a ≠ b → b.sum < a.sum)
  | [], [], _, _ => ⟨Int.le_refl _, fun h => absurd rfl h⟩
  | x :: a, y :: b, h1, h2 => by
    rw [ge_cons, Bool.and_eq_true] at h2
    have e := of_decide_eq_true h2.1
    obtain ⟨i1, i2⟩ := ge_sum (by simpa using h1) h2.2
    rw [List.sum_cons, List.sum_cons]
    refine ⟨by omega, fun hne => ?_⟩
    by_cases hxy : x = y
    · subst hxy
      have := i2 fun z => hne (by rw [z])
      omega
    · omega
  | [], _ :: _, h, _ => by cases h
  | _ :: _, [], h, _ => by cases h
theorem ge_map {m : List Nat} {f g : Nat → Int} : geAll (m.map f) (m.map g) = true ↔ ∀ i ∈ m, g i ≤ f i := by
  induction m with
  | nil => simp [geAll]
  | cons i r ih =>
    rw [List.map_cons, List.map_cons, ge_cons, Bool.and_eq_true, ih]
    simp
def abv (a b : List Int) : Bool := !decide (a = b) && geAll a b
section
variable {α : Type} (cap : α → List Int) (lt : α → α → Bool)
def kst (K : List (List Int × α)) (p : α) : List (List Int × α) := match lkT K (cap p) with
  | none => stT K (cap p) p
  | some q => if lt p q = true then stT K (cap p) p else K
structure KOk (done : List α) (K : List (List Int × α)) : Prop where
  nd : (K.map (·.1)).Nodup
  own : ∀ x ∈ K, x.1 = cap x.2 ∧ x.2 ∈ done
  all : ∀ p ∈ done, cap p ∈ K.map (·.1)
  len : K.length ≤ done.length
theorem mem_stT {l : List (List Int × α)} {k : List Int} {v : α} {x : List Int × α} (h : x ∈ stT l k v) : x = (k, v) ∨ x ∈ l := by
  induction l with
  | nil => exact .inl (by simpa [stT] using h)
  | cons p r ih =>
    unfold stT at h
    split at h
    · rcases List.mem_cons.mp h with z | z
      · exact .inl z
      · exact .inr (List.mem_cons_of_mem _ z)
    · rcases List.mem_cons.mp h with z | z
      · exact .inr (by rw [z]; exact List.mem_cons_self)
      · exact (ih z).imp id (List.mem_cons_of_mem _)
theorem stT_len {l : List (List Int × α)} {k : List Int} {v : α} : (stT l k v).length ≤ l.length + 1 := by
  induction l with
  | nil => simp [stT]
  | cons p r ih =>
    unfold stT
    split
    · simp
    · simp; exact ih
theorem kst_ok {done : List α} {K : List (List Int × α)} (h : KOk cap done K) (p : α) : KOk cap (done ++ [p]) (kst cap lt K p) := by
  have base : KOk cap (done ++ [p]) (stT K (cap p) p) := by
    refine ⟨stT_nodup h.nd, fun x hx => ?_, fun q hq => ?_, ?_⟩
    · rcases mem_stT hx with rfl | z
      · exact ⟨rfl, by simp⟩
      · exact ⟨(h.own x z).1, List.mem_append_left _ (h.own x z).2⟩
    · rw [stT_keys]
      rcases List.mem_append.mp hq with z | z
      · exact .inr (h.all q z)
      · simp at z; exact .inl (by rw [z])
    · have := stT_len (l := K) (k := cap p) (v := p)
      have := h.len
      rw [List.length_append]; simp; omega
  unfold kst
  split
  · exact base
  · rename_i q e
    split
    · exact base
    · refine ⟨h.nd, fun x hx => ⟨(h.own x hx).1, List.mem_append_left _ (h.own x hx).2⟩, fun r hr => ?_, by rw [List.length_append]; have := h.len; omega⟩
      rcases List.mem_append.mp hr with z | z
      · exact h.all r z
      · simp at z; subst z
        exact by_contra' fun y => by rw [lkT_none.mpr y] at e; cases e
theorem kall_ok : ∀ (l done : List α) (K : List (List Int × α)), KOk cap done K → KOk cap (done ++ l) (l.foldl (kst cap lt) K)
  | [], done, K, h => by rw [List.append_nil]; exact h
  | p :: r, done, K, h => by
    have := kall_ok r (done ++ [p]) _ (kst_ok cap lt h p)
    rw [List.append_assoc] at this
    exact this
def kTab (l : List α) : List (List Int × α) := l.foldl (kst cap lt) []
theorem kTab_ok (l : List α) : KOk cap l (kTab cap lt l) := by
  have := kall_ok cap lt l [] [] ⟨by simp, by simp, by simp, by simp⟩
  rwa [List.nil_append] at this
end
section
variable {α : Type}
def leadB (K : List (List Int × α)) (c : List Int) : Bool := !((K.map (·.1)).any fun o => abv o c)
def leadK (K : List (List Int × α)) : List (List Int × α) := K.filter fun x => leadB K x.1
theorem max_of {β : Type} (f : β → Int) : ∀ (l : List β), l ≠ [] → ∃ y ∈ l, ∀ z ∈ l, f z ≤ f y
  | [], h => absurd rfl h
  | [x], _ => ⟨x, by simp, by simp⟩
  | x :: y :: r, _ => by
    obtain ⟨m, h1, h2⟩ := max_of f (y :: r) (by simp)
    by_cases h : f m ≤ f x
    · exact ⟨x, List.mem_cons_self, fun z hz => by
        rcases List.mem_cons.mp hz with rfl | hz
        · exact Int.le_refl _
        · exact Int.le_trans (h2 z hz) h⟩
    · exact ⟨m, List.mem_cons_of_mem _ h1, fun z hz => by
        rcases List.mem_cons.mp hz with rfl | hz
        · omega
        · exact h2 z hz⟩
theorem lead_above {K : List (List Int × α)} {m : Nat} (hl : ∀ x ∈ K, x.1.length = m) {x : List Int × α} (hx : x ∈ K) : ∃ y ∈ leadK K, geAll y.1 x.1 = true := by
  have hne : (K.filter fun y => geAll y.1 x.1) ≠ [] := fun e => by
    have : x ∈ K.filter fun y => geAll y.1 x.1 := List.mem_filter.mpr ⟨hx, ge_refl _⟩
    rw [e] at this; cases this
  obtain ⟨y, hy, hmax⟩ := max_of (fun y : List Int × α => y.1.sum) _ hne
  obtain ⟨hy1, hy2⟩ := List.mem_filter.mp hy
  refine ⟨y, List.mem_filter.mpr ⟨hy1, ?_⟩, hy2⟩
  cases hb : leadB K y.1 with
  | true => rfl
  | false =>
    exfalso
    unfold leadB at hb
    simp only [Bool.not_eq_false'] at hb
    obtain ⟨o, ho, hab⟩ := List.any_eq_true.mp hb
    obtain ⟨z, hz, rfl⟩ := List.mem_map.mp ho
    unfold abv at hab
    simp only [Bool.and_eq_true, Bool.not_eq_true', decide_eq_false_iff_not] at hab
    have h1 := (ge_sum ((hl z hz).trans (hl y hy1).symm) hab.2).2 hab.1
    have h2 : z.1.sum ≤ y.1.sum := hmax z (List.mem_filter.mpr ⟨hz, ge_trans ((hl z hz).trans (hl y hy1).symm) ((hl y hy1).trans (hl x hx).symm) hab.2 hy2⟩)
    omega
theorem lead_none {K : List (List Int × α)} {x y : List Int × α} (hx : x ∈ leadK K) (hy : y ∈ leadK K) : abv y.1 x.1 = false := by
  obtain ⟨_, h⟩ := List.mem_filter.mp hx
  unfold leadB at h
  simp only [Bool.not_eq_true'] at h
  cases e : abv y.1 x.1 with
  | false => rfl
  | true =>
    have : ((K.map (·.1)).any fun o => abv o x.1) = true := List.any_eq_true.mpr ⟨y.1, List.mem_map_of_mem (List.mem_filter.mp hy).1, e⟩
    rw [h] at this; cases this
end
end GW
end

noncomputable section
namespace GW
open GH
structure SmC (cr : Cr) : Prop where
  g : GoodX cr
  l0 : 3 ≤ cr.len
  l8 : cr.len ≤ 8
  n : (stg cr.cx cr.mv.length).length ≤ 16
theorem need_len {cr : Cr} (hg : GoodX cr) : ∀ {pl : Pl}, (∀ p ∈ pl, 2 ≤ p.2) → 2 * (pl.length : Int) ≤ need cr pl
  | [], _ => Int.le_refl _
  | p :: t, h => by
    have h1 := h p List.mem_cons_self
    have h2 := hg.clgS p.1
    have := need_len hg (pl := t) fun q hq => h q (List.mem_cons_of_mem _ hq)
    rw [need_cons, List.length_cons]; omega
theorem Up.len {cr : Cr} (hg : GoodX cr) (h8 : cr.len ≤ 8) {n : Nat} {pl : Pl} (h : Up cr n pl) : pl.length ≤ 4 ∧ 0 ≤ need cr pl := by
  have h1 := need_len hg fun p hp => (h.inn p hp).2.2
  have := h.fit
  omega
theorem useful_eq (cr : Cr) (c : Src) (h : SmC cr) : S_useful_plans [eCr cr] c = some (.lst ((Us cr ((stg cr.cx cr.mv.length).length)).map ePl), c) := by
  have hg := h.g
  have hn : (stg cr.cx cr.mv.length).length ≤ 16 := h.n
  simp_arith! [m_useful_plans]
  rw [cl_eq (stages_eq cr c hg.ns (by have := hg.cl; omega) hg.ne hg.le)]
  simp_arith
  refine ⟨okR_of (by omega) (by omega), ?_⟩
  rw [Int.toNat_natCast]
  refine wp_for (enc := fun k : Nat => D.int (k : Nat)) (fun done _ s => ∃ (x2 x3 x4 x5 x6 : Option D), s = ⟨[some (.val (eCr cr)), some (.val (.lst ((Us cr done.length).map ePl))), jv x2, jv x3, jv x4, jv x5, jv x6], c⟩) ⟨none, none, none, none, none, rfl⟩ ?_ ?_
  · rintro done s rest _ hx ⟨x2, x3, x4, x5, x6, rfl⟩
    have hs : s = done.length := by
      have := congrArg (fun l => l[done.length]?) hx
      simp at this
      rw [List.getElem?_range (by have := congrArg List.length hx; simp at this; omega)] at this
      injection this with this
      exact this.symm
    have hs1 : s < (stg cr.cx cr.mv.length).length := by have := congrArg List.length hx; simp at this; rw [hs]; show done.length < (stg cr.cx cr.mv.length).length; omega
    rw [← hs, List.length_append]
    simp only [List.length_singleton]
    rw [← hs]
    have hUl := Us_len hg h.l8 (n := s) (by omega)
    have hUl2 := Us_len hg h.l8 (n := s + 1) (by omega)
    have hup := Us_up (cr := cr) (by have := h.l0; omega) s
    have hcl : ∀ c, S_clear_ticks [eCr cr, .int (s : Nat)] c = some (.int (clgS cr s), c) := fun c => clear_eq cr s c hg (by omega) (by show ((s : Nat) : Int) < (stg cr.cx cr.mv.length).length; have : s < (stg cr.cx cr.mv.length).length := hs1; omega)
    simp_arith
    refine wp_for (enc := ePl) (fun done2 _ st => ∃ (x4 x5 x6 : Option D), st = ⟨[some (.val (eCr cr)), some (.val (.lst ((Us cr s).map ePl))), some (.val (.int (s : Nat))), some (.own ((done2.flatMap (kids cr s)).map ePl)), jv x4, jv x5, jv x6], c⟩) ⟨x4, x5, x6, rfl⟩ ?_ ?_
    · rintro done2 pl rest2 _ hx2 ⟨x4, x5, x6, rfl⟩
      have hpl := hup pl (by rw [hx2]; simp)
      have hv : Valid cr pl := hpl.valid (by omega)
      have hle := hpl.len hg h.l8
      have hcg := hg.clgS s
      have := h.l8
      have hf := hpl.fit
      simp_arith
      rw [cl_eq (need_of_eq cr pl c hg hv (by omega))]
      simp_arith
      rw [cl_eq (hcl c)]
      simp_arith
      have hkd : (kids cr s pl).map ePl = (List.range (cr.len - need cr pl - clgS cr s + 1 - 2).toNat).map fun k : Nat => ePl (kid s pl (2 + (k : Nat))) := by
        unfold kids rngT; rw [List.map_map, List.map_map]; rfl
      have hlen : (done2.flatMap (kids cr s)).length + (cr.len - need cr pl - clgS cr s + 1 - 2).toNat ≤ 200000 := by
        have e : (Us cr (s + 1)).length = (Us cr s).length + ((Us cr s).flatMap (kids cr s)).length := List.length_append
        rw [hx2, List.flatMap_append, List.flatMap_cons, List.length_append, List.length_append] at e
        have e3 : (kids cr s pl).length = (cr.len - need cr pl - clgS cr s + 1 - 2).toNat := by unfold kids rngT; simp
        simp only [List.length_append] at e
        omega
      refine ⟨okR_of (by omega) (by omega), ⟨by omega, by omega⟩, ?_⟩
      refine wp_compM (enc := fun k : Nat => D.int (2 + (k : Nat))) (fun k => ePl (kid s pl (2 + (k : Nat)))) (by rw [List.length_range]; omega) (by simp_arith) (fun k _ => by
        simp_arith
        rw [sm_addPl]
        refine ⟨by omega, ?_⟩
        simp_arith
        rfl) ?_
      rw [← hkd]
      simp_arith
      refine ⟨by rw [List.length_map, List.length_map]; have : (kids cr s pl).length = (cr.len - need cr pl - clgS cr s + 1 - 2).toNat := by (unfold kids rngT; simp)
                 omega, some (ePl pl), some (.int (cr.len - need cr pl - clgS cr s)), x6, ?_⟩
      rw [List.flatMap_append, List.map_append]
      simp only [List.flatMap_cons, List.flatMap_nil, List.append_nil]
      rfl
    · rintro _ ⟨x4, x5, x6, rfl⟩
      simp_arith
      have e : (Us cr (s + 1)).length = (Us cr s).length + ((Us cr s).flatMap (kids cr s)).length := List.length_append
      refine ⟨by rw [List.length_map, List.length_map]; omega, some (.int (s : Nat)), some (.lst (((Us cr s).flatMap (kids cr s)).map ePl)), x4, x5, x6, ?_⟩
      rw [← List.map_append]
      rfl
  · rintro _ ⟨x2, x3, x4, x5, x6, rfl⟩
    simp_arith
    rw [List.length_range]
def oPr : Od (Int × Int) := odT (otCons odI (otLast odI))
def oPl : Od Pl := odT (otList oPr)
def tKey : Ot (Int × Int × Pl) := otCons odI (otCons odI (otLast oPl))
def oCap : Od (List Int) := odT (otList odI)
def tPc : Ot (Pl × List Int) := otCons oPl (otLast oCap)
def oPc : Od (Pl × List Int) := odT tPc
def keyP (cr : Cr) (pl : Pl) : Int × Int × Pl := (need cr pl, (pl.length : Int), pl)
def eKey (k : Int × Int × Pl) : D := .tup [.int k.1, .int k.2.1, ePl k.2.2]
theorem tKey_n : tKey.n ≤ 59 := by decide
theorem oPc_n : oPc.n ≤ 60 := by decide
theorem oPl_n : oPl.n ≤ 60 := by decide
def ltK (cr : Cr) (a b : Pl) : Bool := tKey.lt (keyP cr a) (keyP cr b)
theorem sm_ltK {cr : Cr} {a b : Pl} {P : D → Prop} : Sm (ltN (eKey (keyP cr a)) (eKey (keyP cr b))) P ↔ P (.bl (ltK cr a b)) := sm_ltN tKey tKey_n
theorem key_eq (cr : Cr) (pl : Pl) (c : Src) (hg : GoodX cr) (hv : Valid cr pl) (hl : pl.length ≤ 1000) : S_choice_key [eCr cr, ePl pl] c = some (eKey (keyP cr pl), c) := by
  simp_arith! [m_choice_key]
  rw [cl_eq (need_of_eq cr pl c hg hv hl)]
  simp_arith [sm_lenPl]
  rfl
end GW
end

local macro_rules | `(tactic| simp_arith [$ls,*]) => `(tactic| simp only [↓GW.sm_lenE, ↓GW.sm_seqE, ↓GW.sm_ixE, ↓GW.sm_tupE, ↓GW.sm_tupEE, ↓GW.sm_slE, ↓GW.sm_addE, ↓GW.sm_lenR, ↓GW.sm_seqR, ↓GW.sm_ixR, ↓GW.sm_tupR, ↓GW.sm_slR, ↓GW.sm_addR, ↓GW.sm_cr0, ↓GW.sm_cr1, ↓GW.sm_cr2, ↓GW.sm_seqMvs, ↓GW.sm_lenMvs, ↓GW.sm_mv0, ↓GH.wp_ret, ↓GH.wp_lift, ↓GH.sm_some, ↓GH.sm_map, ↓GH.sm_bind, ↓GH.ifB_tt, ↓GH.ifB_ff, ↓GH.ifB_dec, ↓GH.ifB_not, ↓GH.nx_nx, ↓GH.nx_ret, ↓GH.nx_brk, ↓GH.nx_cnt, ↓GH.varAt_z, ↓GH.varAt_s, ↓GH.slAt_z, ↓GH.slAt_s, ↓GH.ownAt_z, ↓GH.ownAt_s, ↓GH.setAt_z, ↓GH.setAt_s, ↓GH.frzAt_z, ↓GH.frzAt_s, ↓GH.bor_val, ↓GH.bor_own, ↓GH.bor_ownK, ↓GH.bor_ownT, ↓GH.len_0, ↓GH.len_1, ↓GH.len_2, ↓GH.len_3, ↓GH.len_4, ↓GH.len_5, ↓GH.len_6, ↓GH.isB_bl, ↓GH.isI_int, ↓GH.wp_var, ↓GH.wp_frz, ↓GH.wp_C, ↓GH.wp_bin, ↓GH.wp_un, ↓GH.wp_tst, ↓GH.wp_tru, ↓GH.wp_and2, ↓GH.wp_or2, ↓GH.wp_not1, ↓GH.wp_eAnd, ↓GH.wp_eOr, ↓GH.wp_eIf, ↓GH.wp_chain, ↓GH.wp_aNil, ↓GH.wp_aCons, ↓GH.wp_aStar, ↓GH.wp_tup, ↓GH.wp_disp, ↓GH.wp_lst, ↓GH.wp_call, ↓GH.wp_callL, ↓GH.wp_fn, ↓GH.wp_fld, ↓GH.wp_oNo, ↓GH.wp_oAt, ↓GH.wp_sl, ↓GH.wp_here, ↓GH.wp_putL, ↓GH.wp_app, ↓GH.sm_app, ↓GH.wp_popAt, ↓GH.wp_bor, ↓GH.wp_tBor, ↓GH.isFlat_int, ↓GH.isFlat_bl, ↓GH.isFlat_non, ↓GH.isFlat_str, ↓GH.wp_seq, ↓GH.wp_nx, ↓GH.wp_sRet, ↓GH.wp_sIf, ↓GH.wp_sExpr, ↓GH.wp_asg, ↓GH.wp_gN, ↓GH.wp_gT, ↓GH.wp_gCons, ↓GH.wp_gNil, ↓GH.wp_set, ↓GH.wp_own, ↓GH.wp_aug, ↓GH.sm_aug, ↓GH.wp_ownGet, ↓GH.wp_augIx, ↓GH.wp_sFor, ↓GH.wp_pNil, ↓GH.wp_pVal, ↓GH.wp_pOwn, ↓GH.wp_par, ↓GH.sm_put0, ↓GH.sm_put, ↓GH.wp_iSeq, ↓GH.wp_rg1, ↓GH.wp_rg2, ↓GH.wp_enum, ↓GH.wp_zip2, ↓GH.sm_addI, ↓GH.sm_addT, ↓GH.sm_addL, ↓GH.sm_subI, ↓GH.sm_mulI, ↓GH.sm_mulL, ↓GH.sm_modI, ↓GH.sm_fdivI, ↓GH.sm_ltI, ↓GH.sm_leI, ↓GH.sm_gtI, ↓GH.sm_geI, ↓GH.sm_eqI, ↓GH.sm_neI, ↓GH.sm_notN, ↓GH.sm_ixT, ↓GH.sm_ixL, ↓GH.at_0, ↓GH.at_1, ↓GH.at_2, ↓GH.at_3, ↓GH.at_4, ↓GH.at_map, ↓GH.sm_lenL, ↓GH.sm_lenT, ↓GH.sm_intI, ↓GH.sm_intB, ↓GH.sm_absI, ↓GH.sm_tupT, ↓GH.sm_lstL, ↓GH.sm_lstT, ↓GH.sm_sumL1, ↓GH.sm_sumT1, ↓GH.sm_sumL, ↓GH.sm_sumT, ↓GH.sm_maxI, ↓GH.sm_maxL1, ↓GH.sm_maxL, ↓GH.sm_anyL, ↓GH.sm_allL, ↓GH.sm_negI, ↓GH.sm_seqL, ↓GH.sm_seqT, ↓GH.sm_slL, ↓GH.sm_slT, ↓GH.sm_truB, ↓GH.sm_truN, ↓GH.sm_truI, ↓GH.sm_truL, ↓GH.sm_truT, ↓GH.sm_inR, ↓GH.sm_inT, ↓GH.sm_inL, ↓GH.sm_ninT, ↓GH.sm_ninL, ↓GH.sm_setL, ↓GH.wp_comp, ↓GH.wp_turn, ↓GH.lp_nx, ↓GH.lp_cnt, ↓GH.lp_brk, ↓GH.lp_ret, ↓GH.outR_ret, ↓GH.outR_nx, ↓GH.ownB_L, ↓GH.ownB_K, ↓GH.ownB_T, ↓GH.wp_nw, ↓GH.wp_nK0, ↓GH.wp_nT0, ↓GH.wp_ownN, ↓GH.wp_dgO, ↓GH.own2_K, ↓GH.own2_T, ↓GH.own2_s, ↓GH.wp_here2, ↓GH.wp_putD, ↓GH.putAt_s, ↓GH.putAt_K, ↓GH.putAt_T, ↓GH.wp_sPutD, ↓GH.sm_keyI, ↓GH.sm_keyS, ↓GH.sm_keysT, ↓GH.sm_dgK, ↓GH.sm_dgT, ↓GH.sm_dninK, ↓GH.sm_dninT, ↓GH.dctAt_KI, ↓GH.dctAt_T, ↓GH.dctAt_s, ↓GH.wp_forD, ↓GH.wp_lSl, ↓GH.sm_lstD, ↓GH.enumP_map, ↓GH.zip2P_map, ↓GH.sm_eqNilI, ↓GH.sm_neNilI, ↓GH.sm_eqIL, ↓GH.sm_neIL, ↓GH.sm_eqIT, ↓GH.sm_neIT, ↓GH.at_snoc, ↓GH.sm_ne3, ↓GH.sm_ne2, ↓GH.sm_srtI, ↓GH.wp_rgV, ↓GH.isR_rng, ↓GH.sm_rng1, ↓GH.wp_ext, ↓GH.sm_extL, ↓GH.sm_keysE, ↓GH.wp_lstT, ↓GH.ownTAt_z, ↓GH.ownTAt_s, ↓GH.wp_nDcT, ↓GH.wp_iDct, ↓GH.wp_vals, ↓GH.sm_valsT, ↓GH.wp_turnK, GH.isV_none, GH.isV_val, GH.isV_jv, GH.allV_nil, GH.allV_cons, GH.jv_some, GH.jv_none, GH.out_nx, GH.kGet_lkp, GH.lkp_isSome, GH.borF, GH.bor_z, GH.bor_tt, GH.bor_no, GH.clean_nil, GH.clean_cons, GH.cleanAt_s, GH.cleanAt_n, GH.cleanAt_v, GH.cleanAt_j, GH.wipe_nil, GH.wipe_cons, GH.startE_z, GH.startE_n, GH.startE_s, GH.kGet_lkT, GH.lkT_isSome, GH.dkT_keysD, eq_self, Option.isSome_map, List.set_cons_zero, List.set_cons_succ, List.cons_append, List.nil_append, and_true, true_and, and_self, true_implies, implies_true, not_false_eq_true, not_true_eq_false, false_implies, Option.some.injEq, List.contains_cons, List.contains_nil, Nat.reduceBEq, Bool.or_false, Bool.or_true, Bool.false_or, Bool.true_or, Nat.zero_add, Nat.reduceAdd, $ls,*])
local macro_rules | `(tactic| simp_all_arith [$ls,*]) => `(tactic| simp only [↓GW.sm_lenE, ↓GW.sm_seqE, ↓GW.sm_ixE, ↓GW.sm_tupE, ↓GW.sm_tupEE, ↓GW.sm_slE, ↓GW.sm_addE, ↓GW.sm_lenR, ↓GW.sm_seqR, ↓GW.sm_ixR, ↓GW.sm_tupR, ↓GW.sm_slR, ↓GW.sm_addR, ↓GW.sm_cr0, ↓GW.sm_cr1, ↓GW.sm_cr2, ↓GW.sm_seqMvs, ↓GW.sm_lenMvs, ↓GW.sm_mv0, ↓GH.wp_ret, ↓GH.wp_lift, ↓GH.sm_some, ↓GH.sm_map, ↓GH.sm_bind, ↓GH.ifB_tt, ↓GH.ifB_ff, ↓GH.ifB_dec, ↓GH.ifB_not, ↓GH.nx_nx, ↓GH.nx_ret, ↓GH.nx_brk, ↓GH.nx_cnt, ↓GH.varAt_z, ↓GH.varAt_s, ↓GH.slAt_z, ↓GH.slAt_s, ↓GH.ownAt_z, ↓GH.ownAt_s, ↓GH.setAt_z, ↓GH.setAt_s, ↓GH.frzAt_z, ↓GH.frzAt_s, ↓GH.bor_val, ↓GH.bor_own, ↓GH.bor_ownK, ↓GH.bor_ownT, ↓GH.len_0, ↓GH.len_1, ↓GH.len_2, ↓GH.len_3, ↓GH.len_4, ↓GH.len_5, ↓GH.len_6, ↓GH.isB_bl, ↓GH.isI_int, ↓GH.wp_var, ↓GH.wp_frz, ↓GH.wp_C, ↓GH.wp_bin, ↓GH.wp_un, ↓GH.wp_tst, ↓GH.wp_tru, ↓GH.wp_and2, ↓GH.wp_or2, ↓GH.wp_not1, ↓GH.wp_eAnd, ↓GH.wp_eOr, ↓GH.wp_eIf, ↓GH.wp_chain, ↓GH.wp_aNil, ↓GH.wp_aCons, ↓GH.wp_aStar, ↓GH.wp_tup, ↓GH.wp_disp, ↓GH.wp_lst, ↓GH.wp_call, ↓GH.wp_callL, ↓GH.wp_fn, ↓GH.wp_fld, ↓GH.wp_oNo, ↓GH.wp_oAt, ↓GH.wp_sl, ↓GH.wp_here, ↓GH.wp_putL, ↓GH.wp_app, ↓GH.sm_app, ↓GH.wp_popAt, ↓GH.wp_bor, ↓GH.wp_tBor, ↓GH.isFlat_int, ↓GH.isFlat_bl, ↓GH.isFlat_non, ↓GH.isFlat_str, ↓GH.wp_nx, ↓GH.wp_sRet, ↓GH.wp_sIf, ↓GH.wp_sExpr, ↓GH.wp_asg, ↓GH.wp_gN, ↓GH.wp_gT, ↓GH.wp_gCons, ↓GH.wp_gNil, ↓GH.wp_set, ↓GH.wp_own, ↓GH.wp_aug, ↓GH.sm_aug, ↓GH.wp_ownGet, ↓GH.wp_augIx, ↓GH.wp_sFor, ↓GH.wp_pNil, ↓GH.wp_pVal, ↓GH.wp_pOwn, ↓GH.wp_par, ↓GH.sm_put0, ↓GH.sm_put, ↓GH.wp_iSeq, ↓GH.wp_rg1, ↓GH.wp_rg2, ↓GH.wp_enum, ↓GH.wp_zip2, ↓GH.sm_addI, ↓GH.sm_addT, ↓GH.sm_addL, ↓GH.sm_subI, ↓GH.sm_mulI, ↓GH.sm_mulL, ↓GH.sm_modI, ↓GH.sm_fdivI, ↓GH.sm_ltI, ↓GH.sm_leI, ↓GH.sm_gtI, ↓GH.sm_geI, ↓GH.sm_eqI, ↓GH.sm_neI, ↓GH.sm_notN, ↓GH.sm_ixT, ↓GH.sm_ixL, ↓GH.at_0, ↓GH.at_1, ↓GH.at_2, ↓GH.at_3, ↓GH.at_4, ↓GH.at_map, ↓GH.sm_lenL, ↓GH.sm_lenT, ↓GH.sm_intI, ↓GH.sm_intB, ↓GH.sm_absI, ↓GH.sm_tupT, ↓GH.sm_lstL, ↓GH.sm_lstT, ↓GH.sm_sumL1, ↓GH.sm_sumT1, ↓GH.sm_sumL, ↓GH.sm_sumT, ↓GH.sm_maxI, ↓GH.sm_maxL1, ↓GH.sm_maxL, ↓GH.sm_anyL, ↓GH.sm_allL, ↓GH.sm_negI, ↓GH.sm_seqL, ↓GH.sm_seqT, ↓GH.sm_slL, ↓GH.sm_slT, ↓GH.sm_truB, ↓GH.sm_truN, ↓GH.sm_truI, ↓GH.sm_truL, ↓GH.sm_truT, ↓GH.sm_inR, ↓GH.sm_inT, ↓GH.sm_inL, ↓GH.sm_ninT, ↓GH.sm_ninL, ↓GH.sm_setL, ↓GH.wp_comp, ↓GH.wp_turn, ↓GH.lp_nx, ↓GH.lp_cnt, ↓GH.lp_brk, ↓GH.lp_ret, ↓GH.outR_ret, ↓GH.outR_nx, ↓GH.ownB_L, ↓GH.ownB_K, ↓GH.ownB_T, ↓GH.wp_nw, ↓GH.wp_nK0, ↓GH.wp_nT0, ↓GH.wp_ownN, ↓GH.wp_dgO, ↓GH.own2_K, ↓GH.own2_T, ↓GH.own2_s, ↓GH.wp_here2, ↓GH.wp_putD, ↓GH.putAt_s, ↓GH.putAt_K, ↓GH.putAt_T, ↓GH.wp_sPutD, ↓GH.sm_keyI, ↓GH.sm_keyS, ↓GH.sm_keysT, ↓GH.sm_dgK, ↓GH.sm_dgT, ↓GH.sm_dninK, ↓GH.sm_dninT, ↓GH.dctAt_KI, ↓GH.dctAt_T, ↓GH.dctAt_s, ↓GH.wp_forD, ↓GH.wp_lSl, ↓GH.sm_lstD, ↓GH.enumP_map, ↓GH.zip2P_map, ↓GH.sm_eqNilI, ↓GH.sm_neNilI, ↓GH.sm_eqIL, ↓GH.sm_neIL, ↓GH.sm_eqIT, ↓GH.sm_neIT, ↓GH.at_snoc, ↓GH.sm_ne3, ↓GH.sm_ne2, ↓GH.sm_srtI, ↓GH.wp_rgV, ↓GH.isR_rng, ↓GH.sm_rng1, ↓GH.wp_ext, ↓GH.sm_extL, ↓GH.sm_keysE, ↓GH.wp_lstT, ↓GH.ownTAt_z, ↓GH.ownTAt_s, ↓GH.wp_nDcT, ↓GH.wp_iDct, ↓GH.wp_vals, ↓GH.sm_valsT, ↓GH.wp_turnK, GH.isV_none, GH.isV_val, GH.isV_jv, GH.allV_nil, GH.allV_cons, GH.jv_some, GH.jv_none, GH.out_nx, GH.kGet_lkp, GH.lkp_isSome, GH.borF, GH.bor_z, GH.bor_tt, GH.bor_no, GH.clean_nil, GH.clean_cons, GH.cleanAt_s, GH.cleanAt_n, GH.cleanAt_v, GH.cleanAt_j, GH.wipe_nil, GH.wipe_cons, GH.startE_z, GH.startE_n, GH.startE_s, GH.kGet_lkT, GH.lkT_isSome, GH.dkT_keysD, eq_self, Option.isSome_map, List.set_cons_zero, List.set_cons_succ, List.cons_append, List.nil_append, and_true, true_and, and_self, true_implies, implies_true, not_false_eq_true, not_true_eq_false, false_implies, Option.some.injEq, List.contains_cons, List.contains_nil, Nat.reduceBEq, Bool.or_false, Bool.or_true, Bool.false_or, Bool.true_or, Nat.zero_add, Nat.reduceAdd, $ls,*])
local macro_rules | `(tactic| simp_all_arith) => `(tactic| simp_all_arith [and_true])
local macro_rules | `(tactic| simp_arith! [$ls,*]) => `(tactic| (refine GH.fn_val ?_; simp only [GH.startE_s, GH.startE_n, GH.startE_z, $ls,*]; simp_arith [$ls,*]))
local macro_rules | `(tactic| simp_arith) => `(tactic| simp_arith [and_true])
noncomputable section
namespace GW
open GH
abbrev KT (cr : Cr) (U : List Pl) : List (List Int × Pl) := kTab (capF cr) (ltK cr) U
def tab (cr : Cr) : List (List Int × Pl) := KT cr (Us cr (stg cr.cx cr.mv.length).length)
def lead (cr : Cr) : List (List Int × Pl) := leadK (tab cr)
theorem tab_ok (cr : Cr) : KOk (capF cr) (Us cr (stg cr.cx cr.mv.length).length) (tab cr) := kTab_ok _ _ _
theorem tab_len (cr : Cr) : ∀ x ∈ tab cr, x.1.length = cr.mv.length := fun x hx => by rw [((tab_ok cr).own x hx).1]; exact capF_len _ _
theorem kTab_snoc (cr : Cr) (a : List Pl) (p : Pl) : KT cr (a ++ [p]) = kst (capF cr) (ltK cr) (KT cr a) p := by
  unfold KT kTab; rw [List.foldl_append]; rfl
theorem wp_eq_arg {α β : Type} {f : List β → M α} {xs ys : List β} {s : S} {Q : α → S → Prop} (e : xs = ys) (h : Wp (f ys) s Q) : Wp (f xs) s Q := by rw [e]; exact h
theorem table_eq (cr : Cr) (c : Src) (h : SmC cr) : S_leading_table [eCr cr] c = some (.dtt (dkT (lead cr)) (dvT ePl (lead cr)), c) := by
  have hg := h.g
  have hn : (stg cr.cx cr.mv.length).length ≤ 16 := h.n
  have hUl := Us_len hg h.l8 (n := (stg cr.cx cr.mv.length).length) hn
  have hup := Us_up (cr := cr) (by have := h.l0; omega) (stg cr.cx cr.mv.length).length
  simp_arith! [m_leading_table]
  rw [cl_eq (useful_eq cr c h)]
  simp_arith
  refine wp_for (enc := ePl) (fun done _ st => ∃ (x2 x3 : Option D), st = ⟨[some (.val (eCr cr)), some (.ownT (dkT (KT cr done)) (dvT ePl (KT cr done))), jv x2, jv x3, none, none, none], c⟩) ⟨none, none, rfl⟩ ?_ ?_
  · rintro done pl rest _ hx ⟨x2, x3, rfl⟩
    have hpl := hup pl (by rw [hx]; simp)
    have hv : Valid cr pl := hpl.valid (Nat.le_refl _)
    have hle := hpl.len hg h.l8
    have hK : KOk (capF cr) done (KT cr done) := kTab_ok _ _ _
    have hKl : (KT cr done).length < 200001 := by
      have := hK.len
      have := congrArg List.length hx
      simp at this; omega
    rw [kTab_snoc]
    simp_arith
    rw [cl_eq (capacity_eq cr pl c hg hv)]
    simp_arith
    obtain ⟨hp1, hp2⟩ := put_stT (f := ePl) (k := capF cr pl) (v := pl) hK.nd
    have hput : ∀ (K' : List (List Int × Pl)), K' = stT (KT cr done) (capF cr pl) pl → ∃ (y2 y3 : Option D), (⟨[some (.val (eCr cr)), some (.ownT (kPutK (dkT (KT cr done)) (tk (capF cr pl))) (kPutD (dkT (KT cr done)) (dvT ePl (KT cr done)) (tk (capF cr pl)) (ePl pl))), some (.val (ePl pl)), some (.val (eT (capF cr pl))), none, none, none], c⟩ : S) = ⟨[some (.val (eCr cr)), some (.ownT (dkT K') (dvT ePl K')), jv y2, jv y3, none, none, none], c⟩ := fun K' hK' => ⟨some (ePl pl), some (eT (capF cr pl)), by rw [hp1, hp2, hK']; rfl⟩
    refine ⟨fun hin => ?_, fun hnin => ?_⟩
    · obtain ⟨q, hq⟩ : ∃ q, lkT (KT cr done) (capF cr pl) = some q := by
        cases e : lkT (KT cr done) (capF cr pl) with
        | none => exact absurd hin (lkT_none.mp e)
        | some q => exact ⟨q, rfl⟩
      have hqm : q ∈ done := by
        obtain ⟨x, hx1, hx2⟩ := List.mem_map.mp hin
        have := lkT_of hK.nd hx1
        rw [hx2, hq] at this
        rw [Option.some.inj this]
        exact (hK.own x hx1).2
      have hqu := hup q (by rw [hx]; exact List.mem_append_left _ hqm)
      have hkst : kst (capF cr) (ltK cr) (KT cr done) pl = if ltK cr pl q = true then stT (KT cr done) (capF cr pl) pl else KT cr done := by unfold kst; rw [hq]
      rw [cl_eq (key_eq cr pl c hg hv (by omega))]
      simp_arith [hq, Option.map_some]
      rw [cl_eq (key_eq cr q c hg (hqu.valid (Nat.le_refl _)) (by have := hqu.len hg h.l8; omega))]
      rw [sm_ltK]
      simp_arith
      cases hlt : ltK cr pl q with
      | true =>
        simp_arith [dkT_len]
        exact ⟨by omega, hput _ (by rw [hkst, hlt]; rfl)⟩
      | false =>
        simp_arith
        exact ⟨some (ePl pl), some (eT (capF cr pl)), by rw [hkst, hlt]; rfl⟩
    · have hq : lkT (KT cr done) (capF cr pl) = none := lkT_none.mpr hnin
      have hkst : kst (capF cr) (ltK cr) (KT cr done) pl = stT (KT cr done) (capF cr pl) pl := by unfold kst; rw [hq]
      simp_arith [dkT_len]
      exact ⟨by omega, hput _ hkst⟩
  · rintro _ ⟨x2, x3, rfl⟩
    have hK := tab_ok cr
    simp_arith
    rw [dkT_keysD]
    show Wp (dcE _ _ _ _ _ (((tab cr).map (·.1)).map eT)) ⟨[some (.val (eCr cr)), some (.ownT (dkT (tab cr)) (dvT ePl (tab cr))), jv x2, jv x3, some (.val (.lst (((tab cr).map (·.1)).map eT))), none, none], c⟩ _
    have hl := hK.len
    refine wp_eq_arg (by rw [List.map_map]; rfl) (wp_dcF (enc := fun x : List Int × Pl => eT x.1) (fun x => leadB (tab cr) x.1) (fun x => x.1) (fun x => ePl x.2) (xs := tab cr) (by omega) hK.nd (by simp_arith) (fun x hx => ?_) ?_)
    · simp_arith
      refine wp_compM (enc := eT) (fun o => D.bl (abv o x.1)) (by rw [List.length_map]; omega) (by simp_arith) (fun o ho => by
        simp_arith
        rw [cl_eq (above_eq o x.1 c (by have := h.g.le; obtain ⟨y, hy, rfl⟩ := List.mem_map.mp ho; rw [tab_len cr y hy]; omega))]
        simp_arith
        rfl) ?_
      simp_arith
      have hlk := lkT_of hK.nd hx
      cases hb : (((tab cr).map (·.1)).any fun o => abv o x.1) with
      | true =>
        have : leadB (tab cr) x.1 = false := by unfold leadB; rw [hb]; rfl
        simp_arith
        rw [this]
        rfl
      | false =>
        have : leadB (tab cr) x.1 = true := by unfold leadB; rw [hb]; rfl
        simp_arith [hlk, Option.map_some]
        rw [this]
        rfl
    · simp_arith
      rfl
end GW
end

noncomputable section
namespace GW
open GH
theorem capF_cons_pos {cr : Cr} (hg : GoodX cr) {pl : Pl} {n : Nat} (h : Up cr n pl) (hn : n ≤ (stg cr.cx cr.mv.length).length) (hne : pl ≠ []) : abv (capF cr pl) (capF cr []) = true := by
  cases pl with
  | nil => exact absurd rfl hne
  | cons p t =>
    have hv := h.valid hn
    have hp := h.inn p List.mem_cons_self
    have hst := hg.st (hv p List.mem_cons_self).1 (hv p List.mem_cons_self).2
    obtain ⟨i, hi⟩ := List.exists_mem_of_ne_nil _ hst.1
    obtain ⟨i1, i2⟩ := hst.2.inn i hi
    have hpos : ∀ q ∈ p :: t, 1 ≤ q.2 := fun q hq => by have := h.inn q hq; omega
    rw [capF_eq hg hv, capF_eq hg (pl := []) (fun q hq => by cases hq)]
    have hc : 1 ≤ capV cr (p :: t) i.toNat := by
      rw [capV_cons, if_pos (by rw [show ((i.toNat : Nat) : Int) = i by omega]; exact hi)]
      have := capV_nn cr (pl := t) (fun q hq => hpos q (List.mem_cons_of_mem _ hq)) i.toNat
      omega
    unfold abv
    rw [Bool.and_eq_true]
    refine ⟨?_, ge_map.mpr fun j _ => by rw [capV_nil]; exact capV_nn cr hpos j⟩
    rw [Bool.not_eq_true', decide_eq_false_iff_not]
    intro e
    have := congrArg (fun l => l[i.toNat]?) e
    simp only [List.getElem?_map] at this
    rw [List.getElem?_range (by omega)] at this
    simp [capV_nil] at this
    omega
theorem lead_sub (cr : Cr) : ∀ x ∈ lead cr, x ∈ tab cr := fun x hx => (List.mem_filter.mp hx).1
theorem lead_nd (cr : Cr) : ((lead cr).map (·.1)).Nodup := ((List.filter_sublist (l := tab cr)).map _).nodup (tab_ok cr).nd
theorem lead_up {cr : Cr} (h : SmC cr) {x : List Int × Pl} (hx : x ∈ lead cr) : x.1 = capF cr x.2 ∧ Up cr (stg cr.cx cr.mv.length).length x.2 := by
  obtain ⟨h1, h2⟩ := (tab_ok cr).own x (lead_sub cr x hx)
  exact ⟨h1, Us_up (by have := h.l0; omega) _ _ h2⟩
theorem lead_or {cr : Cr} (h : SmC cr) : (∀ x ∈ lead cr, x.2 ≠ []) ∨ (lead cr).map (·.2) = [[]] := by
  by_cases hh : ∀ x ∈ lead cr, x.2 ≠ []
  · exact .inl hh
  · refine .inr ?_
    obtain ⟨x, hx⟩ := Classical.not_forall.mp hh
    have hx1 : x ∈ lead cr := by_contra' fun z => hx fun y => absurd y z
    have hx2 : x.2 = [] := by_contra' fun z => hx fun _ => z
    have all : ∀ y ∈ lead cr, y = x := fun y hy => by
      obtain ⟨e1, u1⟩ := lead_up h hy
      obtain ⟨e2, u2⟩ := lead_up h hx1
      have hy2 : y.2 = [] := by_contra' fun z => by
        have := capF_cons_pos h.g u1 (Nat.le_refl _) z
        rw [← e1, ← hx2, ← e2, lead_none hx1 hy] at this
        cases this
      exact Prod.ext (by rw [e1, e2, hy2, hx2]) (by rw [hy2, hx2])
    have nd := lead_nd cr
    cases hl : lead cr with
    | nil => rw [hl] at hx1; cases hx1
    | cons a r =>
      rw [hl] at all nd
      have ha := all a List.mem_cons_self
      cases r with
      | nil => rw [List.map_singleton, ha, hx2]
      | cons b t =>
        have hb := all b (by simp)
        subst ha
        rw [hb] at nd
        simp at nd
def leadP (cr : Cr) : List Pl := osort oPl ((lead cr).map (·.2))
theorem mem_leadP {cr : Cr} {p : Pl} : p ∈ leadP cr ↔ ∃ x ∈ lead cr, x.2 = p := by
  unfold leadP
  rw [(osort_perm oPl _).mem_iff, List.mem_map]
theorem lead_lens {cr : Cr} (h : SmC cr) : (lead cr).length ≤ 200000 ∧ (leadP cr).length = (lead cr).length := by
  have h1 := (tab_ok cr).len
  have h2 := Us_len h.g h.l8 h.n
  have h3 : (lead cr).length ≤ (tab cr).length := List.length_filter_le _ _
  refine ⟨by omega, ?_⟩
  unfold leadP
  rw [(osort_perm oPl _).length_eq, List.length_map]
theorem sm_srtLead {cr : Cr} (h : SmC cr) {P : List D → Prop} : Sm (srtH [.lst (dvT ePl (lead cr))]) P ↔ P ((leadP cr).map ePl) := by
  have e : dvT ePl (lead cr) = ((lead cr).map (·.2)).map oPl.e := by unfold dvT; rw [List.map_map]; rfl
  rw [e]
  rcases lead_or h with hh | hh
  · rw [sm_srtHO oPl (fun p hp => by
      obtain ⟨x, hx, rfl⟩ := List.mem_map.mp hp
      have := hh x hx
      cases hq : x.2 with
      | nil => exact absurd hq this
      | cons a r => exact ⟨_, _, rfl⟩) oPl_n]
    have := (lead_lens h).1
    exact ⟨fun z => z.2, fun z => ⟨by rw [List.length_map]; omega, z⟩⟩
  · have e2 : leadP cr = [[]] := by unfold leadP; rw [hh]; unfold osort; exact List.mergeSort_singleton _
    rw [e2, hh]
    exact sm_srtH1
theorem plans_eq (cr : Cr) (c : Src) (h : SmC cr) : S_leading_plans [eCr cr] c = some (.tup ((leadP cr).map ePl), c) := by
  simp_arith! [m_leading_plans]
  rw [cl_eq (table_eq cr c h)]
  simp_arith
  rw [sm_srtLead h]
  have := lead_lens h
  simp_arith [sm_tupL, List.length_map]
  try omega
theorem caps_eq (cr : Cr) (c : Src) (h : SmC cr) : S_leading_capacities [eCr cr] c = some (.tup ((leadP cr).map fun p => eT (capF cr p)), c) := by
  have hll := lead_lens h
  simp_arith! [m_leading_capacities]
  rw [cl_eq (plans_eq cr c h)]
  simp_arith
  refine wp_compM (enc := ePl) (fun p => eT (capF cr p)) (by omega) (by simp_arith) (fun p hp => by
    obtain ⟨x, hx, rfl⟩ := mem_leadP.mp hp
    have hv := (lead_up h hx).2.valid (Nat.le_refl _)
    simp_arith
    rw [cl_eq (capacity_eq cr x.2 c h.g hv)]
    simp_arith) ?_
  simp_arith [sm_tupL, List.length_map]
  try omega
end GW
end

noncomputable section
namespace GW
open GH
def eU (cr : Cr) (pl : Pl) : D := .tup [ePl pl, eT (capF cr pl), .int (need cr pl)]
theorem zipIdx_range {α β : Type} (m : Nat) (f : Nat → α) (g : α × Nat → β) : (((List.range m).map f).zipIdx).map g = (List.range m).map fun i => g (f i, i) := by
  refine List.ext_getElem? fun i => ?_
  by_cases h : i < m
  · simp [List.getElem?_zipIdx, List.getElem?_range h]
  · rw [List.getElem?_eq_none (by simpa using h), List.getElem?_eq_none (by simpa using h)]
theorem capV_kid (cr : Cr) (s : Nat) (pl : Pl) (t : Int) (i : Nat) : capV cr (kid s pl t) i = capV cr pl i + (t - 1) * (if (i : Int) ∈ stgS cr s then 1 else 0) := by
  unfold kid
  rw [capV_app, capV_cons, capV_nil]
  simp only
  split <;> omega
theorem law_useful_eq (cr : Cr) (c : Src) (h : SmC cr) : S__law_useful [eCr cr] c = some (.lst ((Us cr (stg cr.cx cr.mv.length).length).map (eU cr)), c) := by
  have hg := h.g
  have h6 := hg.le
  have hn : (stg cr.cx cr.mv.length).length ≤ 16 := h.n
  simp_arith! [m__law_useful]
  rw [cl_eq (law_stages_eq cr c hg.ns hg.ne hg.le)]
  simp_arith
  refine wp_compM (fun _ : Mv => D.int 0) (by omega) (by simp_arith) (fun x _ => by simp_arith) ?_
  have e0 : (cr.mv.map fun _ => D.int 0) = (capF cr []).map D.int := by
    unfold capF; rw [List.foldl_nil, List.map_replicate, List.map_const']
  rw [e0]
  simp_arith [sm_tupL, List.length_map]
  refine wp_for (enc := fun p : List Int × Nat => D.tup [.int (p.2 : Nat), eT p.1]) (fun done _ s => ∃ (x3 x4 x5 x6 x7 x8 x9 x10 x11 : Option D), s = ⟨[some (.val (eCr cr)), some (.val (.lst ((stg cr.cx cr.mv.length).map eT))), some (.val (.lst ((Us cr done.length).map (eU cr)))), jv x3, jv x4, jv x5, jv x6, jv x7, jv x8, jv x9, jv x10, jv x11, none, none, none], c⟩) ⟨none, none, none, none, none, none, none, none, none, rfl⟩ ?_ ?_
  · rintro done ⟨st, s⟩ rest _ hx ⟨x3, x4, x5, x6, x7, x8, x9, x10, x11, rfl⟩
    have hz : (stg cr.cx cr.mv.length).zipIdx[done.length]? = some (st, s) := by rw [hx]; simp
    rw [List.getElem?_zipIdx] at hz
    obtain ⟨st', hst', e1⟩ := Option.map_eq_some_iff.mp hz
    have hs : s = done.length := by have := congrArg Prod.snd e1; simp at this; exact this.symm
    have hst : st' = st := congrArg Prod.fst e1
    subst hst
    have hs1 : s < (stg cr.cx cr.mv.length).length := by rw [hs]; exact (List.getElem?_eq_some_iff.mp hst').1
    have hstS : st' = stgS cr s := by
      unfold stgS nth
      rw [List.getD_eq_getElem?_getD, show ((s : Nat) : Int).toNat = s by omega, hs, hst']; rfl
    have hlot := hg.st (s := s) (by omega) (by omega)
    rw [← hstS] at hlot
    have hsl := hlot.2.len
    rw [List.length_append]
    simp only [List.length_singleton]
    rw [← hs]
    have hUl := Us_len hg h.l8 (n := s) (by omega)
    have hUl2 := Us_len hg h.l8 (n := s + 1) (by omega)
    have hup := Us_up (cr := cr) (by have := h.l0; omega) s
    have hcl : ∀ c, S__law_clearing [eCr cr, eT st'] c = some (.int (clgS cr s), c) := fun c => by rw [hstS]; exact law_clearing_eq cr (stgS cr s) c hg (by rw [← hstS]; omega)
    simp_arith
    rw [cl_eq (hcl c)]
    simp_arith
    refine wp_for (enc := eU cr) (fun done2 _ s1 => ∃ (x7 x8 x9 x10 x11 : Option D), s1 = ⟨[some (.val (eCr cr)), some (.val (.lst ((stg cr.cx cr.mv.length).map eT))), some (.val (.lst ((Us cr s).map (eU cr)))), some (.val (.int (s : Nat))), some (.val (eT st')), some (.val (.int (clgS cr s))), some (.own ((done2.flatMap (kids cr s)).map (eU cr))), jv x7, jv x8, jv x9, jv x10, jv x11, none, none, none], c⟩) ⟨x7, x8, x9, x10, x11, rfl⟩ ?_ ?_
    · rintro done2 pl rest2 _ hx2 ⟨x7, x8, x9, x10, x11, rfl⟩
      have hpl := hup pl (by rw [hx2]; simp)
      have hv : Valid cr pl := hpl.valid (by omega)
      have hle := hpl.len hg h.l8
      have hcg := hg.clgS s
      have := h.l8
      have hf := hpl.fit
      have hlen : (done2.flatMap (kids cr s)).length + (cr.len - need cr pl - clgS cr s + 1 - 2).toNat ≤ 200000 := by
        have e : (Us cr (s + 1)).length = (Us cr s).length + ((Us cr s).flatMap (kids cr s)).length := List.length_append
        rw [hx2, List.flatMap_append, List.flatMap_cons, List.length_append, List.length_append] at e
        have e3 : (kids cr s pl).length = (cr.len - need cr pl - clgS cr s + 1 - 2).toNat := by unfold kids rngT; simp
        simp only [List.length_append] at e
        omega
      rw [show eU cr pl = D.tup [ePl pl, eT (capF cr pl), .int (need cr pl)] from rfl]
      simp_arith
      refine ⟨okR_of (by omega) (by omega), ⟨by omega, by omega⟩, ?_⟩
      refine wp_for (enc := fun k : Nat => D.int (2 + (k : Nat))) (fun done3 _ s2 => ∃ (x10 x11 : Option D), s2 = ⟨[some (.val (eCr cr)), some (.val (.lst ((stg cr.cx cr.mv.length).map eT))), some (.val (.lst ((Us cr s).map (eU cr)))), some (.val (.int (s : Nat))), some (.val (eT st')), some (.val (.int (clgS cr s))), some (.own ((done2.flatMap (kids cr s)).map (eU cr) ++ done3.map fun k : Nat => eU cr (kid s pl (2 + (k : Nat))))), some (.val (ePl pl)), some (.val (eT (capF cr pl))), some (.val (.int (need cr pl))), jv x10, jv x11, none, none, none], c⟩) ⟨x10, x11, by simp⟩ ?_ ?_
      · rintro done3 k rest3 _ hx3 ⟨x10, x11, rfl⟩
        have hk : done3.length < (cr.len - need cr pl - clgS cr s + 1 - 2).toNat := by have := congrArg List.length hx3; simp at this; omega
        have hcl2 := capF_len cr pl
        simp_arith
        refine wp_compM (enc := fun p : Int × Nat => D.tup [.int (p.2 : Nat), .int p.1]) (fun p => D.int (p.1 + (2 + (k : Nat) - 1) * (if ((p.2 : Nat) : Int) ∈ st' then 1 else 0))) (by rw [List.length_zipIdx]; omega) (by simp_arith) (fun p _ => by
          simp_arith [sm_inE]
          refine ⟨mulOk_r (by split <;> omega) (by split <;> omega), ?_⟩
          simp only [decide_eq_true_eq]) ?_
        have hkv : Valid cr (kid s pl (2 + (k : Nat))) := fun q hq => by
          rcases List.mem_append.mp hq with z | z
          · exact hv q z
          · simp at z; subst z; simp only; omega
        have hcap : ((capF cr pl).zipIdx.map fun p : Int × Nat => D.int (p.1 + (2 + (k : Nat) - 1) * (if ((p.2 : Nat) : Int) ∈ st' then 1 else 0))) = (capF cr (kid s pl (2 + (k : Nat)))).map D.int := by
          rw [capF_eq hg hv, zipIdx_range, capF_eq hg hkv, List.map_map]
          refine List.map_congr_left fun i _ => ?_
          show D.int _ = D.int _
          rw [capV_kid, ← hstS]
        rw [hcap]
        simp_arith [sm_tupL, List.length_map]
        rw [sm_addPl]
        refine ⟨by omega, ?_⟩
        simp_arith
        refine ⟨by rw [List.length_append, List.length_map, List.length_map]; omega, some (.int (2 + (k : Nat))), some (eT (capF cr (kid s pl (2 + (k : Nat))))), ?_⟩
        have hnd : need cr (kid s pl (2 + (k : Nat))) = need cr pl + (2 + (k : Nat)) + clgS cr s := by unfold kid; rw [need_app, need_one]; simp only; omega
        rw [List.map_append, List.map_singleton, ← List.append_assoc, show eU cr (kid s pl (2 + (k : Nat))) = D.tup [ePl (pl ++ [((s : Int), (2 : Int) + (k : Nat))]), eT (capF cr (kid s pl (2 + (k : Nat)))), .int (need cr pl + (2 + (k : Nat)) + clgS cr s)] by unfold eU; rw [hnd]; rfl]
        rfl
      · rintro _ ⟨x10, x11, rfl⟩
        simp_arith
        refine ⟨some (ePl pl), some (eT (capF cr pl)), some (.int (need cr pl)), x10, x11, ?_⟩
        rw [List.flatMap_append, List.map_append]
        simp only [List.flatMap_cons, List.flatMap_nil, List.append_nil]
        rw [show (kids cr s pl).map (eU cr) = (List.range (cr.len - need cr pl - clgS cr s + 1 - 2).toNat).map fun k : Nat => eU cr (kid s pl (2 + (k : Nat))) by
          unfold kids rngT; rw [List.map_map, List.map_map]; rfl]
        rfl
    · rintro _ ⟨x7, x8, x9, x10, x11, rfl⟩
      simp_arith
      have e : (Us cr (s + 1)).length = (Us cr s).length + ((Us cr s).flatMap (kids cr s)).length := List.length_append
      refine ⟨by rw [List.length_map, List.length_map]; omega, some (.int (s : Nat)), some (eT st'), some (.int (clgS cr s)), some (.lst (((Us cr s).flatMap (kids cr s)).map (eU cr))), x7, x8, x9, x10, x11, ?_⟩
      rw [← List.map_append]
      rfl
  · rintro _ ⟨x3, x4, x5, x6, x7, x8, x9, x10, x11, rfl⟩
    simp_arith
    rw [List.length_zipIdx]
theorem law_sort {cr : Cr} (h : SmC cr) : osort oPc ((lead cr).map fun x => (x.2, x.1)) = (leadP cr).map fun p => (p, capF cr p) := by
  refine osort_eq oPc ?_ ?_
  · have e : ((lead cr).map fun x => (x.2, x.1)) = ((lead cr).map (·.2)).map fun p => (p, capF cr p) := by
      rw [List.map_map]
      refine List.map_congr_left fun x hx => ?_
      show (x.2, x.1) = (x.2, capF cr x.2)
      rw [(lead_up h hx).1]
    rw [e]
    exact (osort_perm oPl _).map _
  · rw [List.pairwise_map]
    refine (osort_le oPl ((lead cr).map (·.2))).imp fun {a b} hab => ?_
    have e : oPc.lt (b, capF cr b) (a, capF cr a) = (oPl.lt b a || (decide (b = a) && oCap.lt (capF cr b) (capF cr a))) := rfl
    rw [e]
    rw [Bool.not_eq_true'] at hab
    rw [hab]
    by_cases hba : b = a
    · subst hba; rw [oCap.lin.irr]; simp
    · rw [decide_eq_false hba]; rfl
theorem law_leading_eq (cr : Cr) (c : Src) (h : SmC cr) : S__law_leading [eCr cr] c = some (.lst ((leadP cr).map fun p => D.tup [ePl p, eT (capF cr p)]), c) := by
  have hg := h.g
  have hn : (stg cr.cx cr.mv.length).length ≤ 16 := h.n
  have hUl := Us_len hg h.l8 (n := (stg cr.cx cr.mv.length).length) hn
  have hup := Us_up (cr := cr) (by have := h.l0; omega) (stg cr.cx cr.mv.length).length
  simp_arith! [m__law_leading]
  rw [cl_eq (law_useful_eq cr c h)]
  simp_arith
  refine wp_for (enc := eU cr) (fun done _ st => ∃ (x2 x3 x4 x5 : Option D), st = ⟨[some (.val (eCr cr)), some (.ownT (dkT (KT cr done)) (dvT (fun pl => eKey (keyP cr pl)) (KT cr done))), jv x2, jv x3, jv x4, jv x5, none, none], c⟩) ⟨none, none, none, none, rfl⟩ ?_ ?_
  · rintro done pl rest _ hx ⟨x2, x3, x4, x5, rfl⟩
    have hpl := hup pl (by rw [hx]; simp)
    have hv : Valid cr pl := hpl.valid (Nat.le_refl _)
    have hle := hpl.len hg h.l8
    have hK : KOk (capF cr) done (KT cr done) := kTab_ok _ _ _
    have hKl : (KT cr done).length < 200001 := by
      have := hK.len
      have := congrArg List.length hx
      simp at this; omega
    rw [kTab_snoc, show eU cr pl = D.tup [ePl pl, eT (capF cr pl), .int (need cr pl)] from rfl]
    simp_arith [sm_lenPl]
    rw [show D.tup [.int (need cr pl), .int (pl.length : Nat), ePl pl] = eKey (keyP cr pl) from rfl]
    obtain ⟨hp1, hp2⟩ := put_stT (f := fun pl => eKey (keyP cr pl)) (k := capF cr pl) (v := pl) hK.nd
    have hput : ∀ (K' : List (List Int × Pl)), K' = stT (KT cr done) (capF cr pl) pl → ∃ (y2 y3 y4 y5 : Option D), (⟨[some (.val (eCr cr)), some (.ownT (kPutK (dkT (KT cr done)) (tk (capF cr pl))) (kPutD (dkT (KT cr done)) (dvT (fun pl => eKey (keyP cr pl)) (KT cr done)) (tk (capF cr pl)) (eKey (keyP cr pl)))), some (.val (ePl pl)), some (.val (eT (capF cr pl))), some (.val (.int (need cr pl))), some (.val (eKey (keyP cr pl))), none, none], c⟩ : S) = ⟨[some (.val (eCr cr)), some (.ownT (dkT K') (dvT (fun pl => eKey (keyP cr pl)) K')), jv y2, jv y3, jv y4, jv y5, none, none], c⟩ := fun K' hK' => ⟨some (ePl pl), some (eT (capF cr pl)), some (.int (need cr pl)), some (eKey (keyP cr pl)), by rw [hp1, hp2, hK']; rfl⟩
    refine ⟨fun hin => ?_, fun hnin => ?_⟩
    · obtain ⟨q, hq⟩ : ∃ q, lkT (KT cr done) (capF cr pl) = some q := by
        cases e : lkT (KT cr done) (capF cr pl) with
        | none => exact absurd hin (lkT_none.mp e)
        | some q => exact ⟨q, rfl⟩
      have hkst : kst (capF cr) (ltK cr) (KT cr done) pl = if ltK cr pl q = true then stT (KT cr done) (capF cr pl) pl else KT cr done := by unfold kst; rw [hq]
      rw [hq, sm_some, sm_ltK]
      simp_arith
      cases hlt : ltK cr pl q with
      | true =>
        simp_arith [dkT_len]
        exact ⟨by omega, hput _ (by rw [hkst, hlt]; rfl)⟩
      | false =>
        simp_arith
        exact ⟨some (ePl pl), some (eT (capF cr pl)), some (.int (need cr pl)), some (eKey (keyP cr pl)), by rw [hkst, hlt]; rfl⟩
    · have hq : lkT (KT cr done) (capF cr pl) = none := lkT_none.mpr hnin
      have hkst : kst (capF cr) (ltK cr) (KT cr done) pl = stT (KT cr done) (capF cr pl) pl := by unfold kst; rw [hq]
      simp_arith [dkT_len]
      exact ⟨by omega, hput _ hkst⟩
  · rintro _ ⟨x2, x3, x4, x5, rfl⟩
    have hK := tab_ok cr
    have hl := hK.len
    simp_arith
    rw [wp_bnd]
    simp_arith
    rw [show (dkT (KT cr (Us cr (stg cr.cx cr.mv.length).length))).map keysD = (tab cr).map fun x => eT x.1 by rw [dkT_keysD, List.map_map]; rfl]
    refine wp_for (enc := fun x : List Int × Pl => eT x.1) (fun done _ st => ∃ (y3 : Option D), st = ⟨[some (.val (eCr cr)), some (.val (.dtt (dkT (tab cr)) (dvT (fun pl => eKey (keyP cr pl)) (tab cr)))), jv x2, jv y3, jv x4, jv x5, some (.own ((done.filter fun x => leadB (tab cr) x.1).map fun x => D.tup [ePl x.2, eT x.1])), none], c⟩) ⟨x3, rfl⟩ ?_ ?_
    · rintro done x rest _ hx ⟨y3, rfl⟩
      have hxm : x ∈ tab cr := by rw [hx]; simp
      have hlk := lkT_of hK.nd hxm
      simp_arith
      rw [wp_bnd]
      simp_arith [wp_frzN, frzNAt_n, frzNAt_z, frzNAt_j, frzNAt_s]
      rw [show (dkT (tab cr)).map keysD = (tab cr).map fun x => eT x.1 by rw [dkT_keysD, List.map_map]; rfl]
      refine wp_compM (enc := fun y : List Int × Pl => eT y.1) (fun y => D.bl (abv y.1 x.1)) (by omega) (by simp_arith) (fun y hy => by
        simp_arith [sm_neTT]
        refine ⟨fun e => ?_, fun e => ?_⟩
        · unfold abv; rw [decide_eq_true e]; first | rfl | exact ⟨rfl, rfl⟩
        · rw [cl_eq (least_eq y.1 x.1 c (by rw [tab_len cr y hy]; have := hg.le; omega))]
          simp_arith
          unfold abv
          rw [decide_eq_false e]
          first | rfl | exact ⟨rfl, rfl⟩) ?_
      have hlb : leadB (tab cr) x.1 = !((tab cr).any fun y => abv y.1 x.1) := by unfold leadB; rw [List.any_map]; rfl
      simp_arith
      cases hb : (tab cr).any fun y => abv y.1 x.1 with
      | true =>
        rw [hb] at hlb
        simp_arith
        exact ⟨some (eT x.1), by rw [List.filter_append, List.filter_cons, hlb]; simp [jv]⟩
      | false =>
        rw [hb] at hlb
        simp_arith [hlk, Option.map_some]
        rw [show eKey (keyP cr x.2) = D.tup [.int (need cr x.2), .int (x.2.length : Nat), ePl x.2] from rfl]
        simp_arith
        refine ⟨by have := congrArg List.length hx; have h9 := List.length_filter_le (fun x => leadB (tab cr) x.1) done; rw [List.length_append] at this; rw [List.length_map]; omega, some (eT x.1), ?_⟩
        rw [List.filter_append, List.filter_cons, hlb]; simp [jv]
    · rintro _ ⟨y3, rfl⟩
      have hll := (lead_lens h).1
      simp_arith
      rw [show (((tab cr).filter fun x => leadB (tab cr) x.1).map fun x => D.tup [ePl x.2, eT x.1]) = ((lead cr).map fun x => (x.2, x.1)).map oPc.e by rw [List.map_map]; rfl]
      rw [sm_srtHO oPc (fun x _ => ⟨_, _, rfl⟩) oPc_n, List.length_map, law_sort h, List.map_map]
      simp_arith
      exact ⟨by omega, rfl⟩
end GW
end

noncomputable section
namespace GW
open GH
end GW
end

noncomputable section
namespace GW
open GH
theorem cr_sm {n : Int} {cr : Cr} (h : CrOk n cr) : SmC cr where
  g := h.good
  l0 := h.len.1
  l8 := h.len.2
  n := by
    have h1 := h.good.sgs.len
    have h2 : 2 ^ cr.mv.length ≤ 2 ^ 4 := Nat.pow_le_pow_right (by decide) h.le
    omega
theorem lead_up' {cr : Cr} (h : SmC cr) {p : Pl} (hp : p ∈ leadP cr) : Up cr (stg cr.cx cr.mv.length).length p := by
  obtain ⟨x, hx, rfl⟩ := mem_leadP.mp hp
  exact (lead_up h hx).2
theorem lead_above' {cr : Cr} (h : SmC cr) {u : Pl} (hu : Up cr (stg cr.cx cr.mv.length).length u) : ∃ q ∈ leadP cr, geAll (capF cr q) (capF cr u) = true := by
  have hm := (tab_ok cr).all u (up_Us h.g _ _ hu)
  obtain ⟨x, hx, e⟩ := List.mem_map.mp hm
  obtain ⟨y, hy, hge⟩ := lead_above (tab_len cr) hx
  refine ⟨y.2, mem_leadP.mpr ⟨y, hy, rfl⟩, ?_⟩
  rw [← (lead_up h hy).1, ← e]
  exact hge
end GW
end

noncomputable section
namespace GW
open GH
theorem fdiv_nat (a b : Nat) : (a : Int).fdiv (b : Int) = ((a / b : Nat) : Int) := by
  rw [Int.fdiv_eq_ediv_of_nonneg _ (Int.natCast_nonneg _)]; rfl
theorem fmod_nat (a b : Nat) : (a : Int).fmod (b : Int) = ((a % b : Nat) : Int) := by
  rw [Int.fmod_eq_emod_of_nonneg _ (Int.natCast_nonneg _)]; rfl
theorem gcd_nat (a b : Nat) : ((Nat.gcd (a : Int).natAbs (b : Int).natAbs : Nat) : Int) = ((Nat.gcd a b : Nat) : Int) := by
  rw [Int.natAbs_natCast, Int.natAbs_natCast]
theorem abs_nat (a : Nat) : (if (a : Int) < 0 then -(a : Int) else (a : Int)) = (a : Int) := by
  rw [if_neg (by omega)]
theorem common_eq (a b : Nat) (c : Src) : S__law_common [.int a, .int b] c = some (.int (Nat.gcd a b : Nat), c) := by
  simp_arith! [m__law_common, abs_nat]
  refine wp_while (fun n st => ∃ a' b' : Nat, n = b' ∧ Nat.gcd a' b' = Nat.gcd a b ∧ st = ⟨[some (.val (.int a')), some (.val (.int b'))], c⟩) ⟨a, b, rfl, rfl, rfl⟩ ?_
  rintro n _ ⟨a', b', rfl, hg, rfl⟩
  simp_arith
  refine ⟨fun hb => ?_, fun hb => ?_⟩
  · have hn : n = 0 := by omega
    subst hn
    rw [← hg, Nat.gcd_zero_right]
  · refine ⟨hb, a' % n, Nat.mod_lt _ (by omega), n, a' % n, rfl, ?_, by rw [fmod_nat]⟩
    rw [← hg, Nat.gcd_comm n, Nat.gcd_comm a', Nat.gcd_rec n a']
end GW
end

noncomputable section
namespace GW
open GH
def lcF (dens : List Nat) (f : Nat) : Nat := dens.foldl (fun f q => f * (q / Nat.gcd q f)) f
theorem lc_step (f q : Nat) : f * (q / Nat.gcd q f) = Nat.lcm f q := by
  unfold Nat.lcm
  rw [Nat.gcd_comm f q, Nat.mul_div_assoc _ (Nat.gcd_dvd_left q f)]
theorem lcF_ok {S : Nat} : ∀ (dens : List Nat) (f : Nat), (∀ q ∈ dens, q ∣ S) → f ∣ S → lcF dens f ∣ S ∧ f ∣ lcF dens f ∧ ∀ q ∈ dens, q ∣ lcF dens f
  | [], f, _, hf => ⟨hf, Nat.dvd_refl _, fun q h => by cases h⟩
  | q :: r, f, h, hf => by
    have h1 : Nat.lcm f q ∣ S := Nat.lcm_dvd hf (h q List.mem_cons_self)
    obtain ⟨a, b, d⟩ := lcF_ok r (f * (q / Nat.gcd q f)) (fun x hx => h x (List.mem_cons_of_mem _ hx)) (by rw [lc_step]; exact h1)
    have e : lcF (q :: r) f = lcF r (f * (q / Nat.gcd q f)) := rfl
    rw [e]
    rw [lc_step] at a b d ⊢
    refine ⟨a, Nat.dvd_trans (Nat.dvd_lcm_left f q) b, fun x hx => ?_⟩
    rcases List.mem_cons.mp hx with rfl | hx
    · exact Nat.dvd_trans (Nat.dvd_lcm_right f x) b
    · exact d x hx
def denS (S k : Nat) : Nat := S / Nat.gcd k S
def numS (S k : Nat) : Nat := k / Nat.gcd k S
def fraS (cuts : List Nat) : Nat := lcF (cuts.map (denS cuts.sum)) 1
def cntS (cuts : List Nat) (k : Nat) : Nat := numS cuts.sum k * (fraS cuts / denS cuts.sum k)
theorem den_dvd (S k : Nat) : denS S k ∣ S := Nat.div_dvd_of_dvd (Nat.gcd_dvd_right k S)
theorem den_pos {S k : Nat} (hS : 0 < S) : 0 < denS S k := Nat.div_pos (Nat.le_of_dvd hS (Nat.gcd_dvd_right k S)) (Nat.gcd_pos_of_pos_right _ hS)
theorem fra_ok (cuts : List Nat) (hS : 0 < cuts.sum) : fraS cuts ∣ cuts.sum ∧ 0 < fraS cuts ∧ ∀ k ∈ cuts, denS cuts.sum k ∣ fraS cuts := by
  obtain ⟨a, b, d⟩ := lcF_ok (S := cuts.sum) (cuts.map (denS cuts.sum)) 1 (fun q hq => by
    obtain ⟨k, _, rfl⟩ := List.mem_map.mp hq
    exact den_dvd _ _) (Nat.one_dvd _)
  exact ⟨a, Nat.pos_of_dvd_of_pos a hS, fun k hk => d _ (List.mem_map_of_mem hk)⟩
theorem cnt_mul {cuts : List Nat} (hS : 0 < cuts.sum) {k : Nat} (hk : k ∈ cuts) : cntS cuts k * cuts.sum = k * fraS cuts := by
  obtain ⟨m, hm⟩ := (fra_ok cuts hS).2.2 k hk
  have hg := Nat.gcd_pos_of_pos_right k hS
  have e1 : denS cuts.sum k * Nat.gcd k cuts.sum = cuts.sum := Nat.div_mul_cancel (Nat.gcd_dvd_right k cuts.sum)
  have e2 : numS cuts.sum k * Nat.gcd k cuts.sum = k := Nat.div_mul_cancel (Nat.gcd_dvd_left k cuts.sum)
  have e3 : fraS cuts / denS cuts.sum k = m := by rw [hm]; exact Nat.mul_div_cancel_left _ (den_pos hS)
  unfold cntS
  rw [e3]
  generalize hd : denS cuts.sum k = d at *
  generalize hn : numS cuts.sum k = n at *
  generalize hgg : Nat.gcd k cuts.sum = g at *
  calc n * m * cuts.sum = n * m * (d * g) := by rw [e1]
    _ = (n * g) * (d * m) := by rw [Nat.mul_assoc, Nat.mul_left_comm m d g, Nat.mul_comm m g, ← Nat.mul_assoc d g m, Nat.mul_comm d g, Nat.mul_assoc g d m, ← Nat.mul_assoc]
    _ = k * fraS cuts := by rw [e2, hm]
theorem sum_cnt {F S : Nat} (f : Nat → Nat) : ∀ l : List Nat, (∀ k ∈ l, f k * S = k * F) → (l.map f).sum * S = l.sum * F
  | [], _ => by simp
  | k :: r, h => by
    rw [List.map_cons, List.sum_cons, List.sum_cons, Nat.add_mul, Nat.add_mul, h k List.mem_cons_self, sum_cnt f r fun x hx => h x (List.mem_cons_of_mem _ hx)]
theorem cnt_sum {cuts : List Nat} (hS : 0 < cuts.sum) : (cuts.map (cntS cuts)).sum = fraS cuts := by
  have := sum_cnt (F := fraS cuts) (S := cuts.sum) (cntS cuts) cuts fun k hk => cnt_mul hS hk
  rw [Nat.mul_comm] at this
  exact Nat.eq_of_mul_eq_mul_left hS this
def sprS : List Nat → Nat → List Nat
  | [], _ => []
  | n :: r, j => List.replicate n j ++ sprS r (j + 1)
theorem spr_len : ∀ (l : List Nat) (j : Nat), (sprS l j).length = l.sum
  | [], _ => rfl
  | n :: r, j => by unfold sprS; rw [List.length_append, List.length_replicate, spr_len r, List.sum_cons]
theorem spr_mem : ∀ (l : List Nat) (j x : Nat), x ∈ sprS l j → x < j + l.length
  | [], _, _, h => by cases h
  | n :: r, j, x, h => by
    unfold sprS at h
    rcases List.mem_append.mp h with h | h
    · have := List.eq_of_mem_replicate h
      rw [List.length_cons]; omega
    · have := spr_mem r (j + 1) x h
      rw [List.length_cons]; omega
end GW
end

noncomputable section
namespace GW
open GH
theorem law_fraction_eq (u d : Nat) (c : Src) (hd : 0 < d) (hd2 : d ≤ 1000000000) : S__law_fraction [.int u, .int d] c = some (.tup [.int (numS d u : Nat), .int (denS d u : Nat)], c) := by
  have hg := Nat.gcd_pos_of_pos_right u hd
  have hg2 : Nat.gcd u d ≤ d := Nat.le_of_dvd hd (Nat.gcd_dvd_right u d)
  simp_arith! [m__law_fraction]
  rw [cl_eq (common_eq u d c)]
  simp_arith
  refine ⟨fun _ => ?_, fun h => absurd h (by omega)⟩
  refine ⟨mulOk_r (by omega) (by omega), divOk (by omega) (by omega) (by omega), divOk (by omega) (by omega) (by omega), ?_⟩
  rw [Int.mul_one, fdiv_nat, fdiv_nat]
  rfl
theorem fraction_eq (u d : Nat) (c : Src) (hd : 0 < d) (hd2 : d ≤ 1000000000) : S_fraction [.int u, .int d] c = some (.tup [.int (numS d u : Nat), .int (denS d u : Nat)], c) := by
  have hg := Nat.gcd_pos_of_pos_right u hd
  have hg2 : Nat.gcd u d ≤ d := Nat.le_of_dvd hd (Nat.gcd_dvd_right u d)
  simp_arith! [m_fraction]
  refine ⟨fun _ => ?_, fun h => absurd h (by omega)⟩
  rw [sm_gcd, gcd_nat]
  simp_arith
  refine ⟨divOk (by omega) (by omega) (by omega), divOk (by omega) (by omega) (by omega), ?_⟩
  rw [fdiv_nat, fdiv_nat]
  rfl
def shD (S k : Nat) : D := .tup [.int (numS S k : Nat), .int (denS S k : Nat)]
theorem frames_of_eq (cuts : List Nat) (c : Src) (hS : 0 < cuts.sum) (hS2 : cuts.sum ≤ 1000000000) : S_frames_of [.tup (cuts.map (shD cuts.sum))] c = some (.int (fraS cuts : Nat), c) := by
  simp_arith! [m_frames_of]
  refine wp_for (enc := shD cuts.sum) (fun done _ s => ∃ x2 : Option D, s = ⟨[some (.val (.tup (cuts.map (shD cuts.sum)))), some (.val (.int (lcF (done.map (denS cuts.sum)) 1 : Nat))), jv x2], c⟩) ⟨none, rfl⟩ ?_ ?_
  · rintro done k rest _ hx ⟨x2, rfl⟩
    obtain ⟨h1, h2, h3⟩ := lcF_ok (S := cuts.sum) (done.map (denS cuts.sum)) 1 (fun q hq => by
      obtain ⟨k, _, rfl⟩ := List.mem_map.mp hq
      exact den_dvd _ _) (Nat.one_dvd _)
    have hpos : 0 < lcF (done.map (denS cuts.sum)) 1 := Nat.pos_of_dvd_of_pos h1 hS
    have hle : lcF (done.map (denS cuts.sum)) 1 ≤ cuts.sum := Nat.le_of_dvd hS h1
    have hsn : lcF ((done ++ [k]).map (denS cuts.sum)) 1 = lcF (done.map (denS cuts.sum)) 1 * (denS cuts.sum k / Nat.gcd (denS cuts.sum k) (lcF (done.map (denS cuts.sum)) 1)) := by
      unfold lcF; rw [List.map_append, List.foldl_append]; rfl
    rw [hsn, show shD cuts.sum k = D.tup [.int (numS cuts.sum k : Nat), .int (denS cuts.sum k : Nat)] from rfl]
    simp_arith [wp_augO]
    rw [cl_eq (fraction_eq (denS cuts.sum k) (lcF (done.map (denS cuts.sum)) 1) c hpos (by omega))]
    simp_arith [sm_imul]
    refine ⟨.inl ⟨by omega, by omega⟩, some (.tup [.int (numS cuts.sum k : Nat), .int (denS cuts.sum k : Nat)]), ?_⟩
    rw [← Int.natCast_mul]
    rfl
  · rintro _ ⟨x2, rfl⟩
    simp_arith
    rfl
theorem counts_eq (cr : Cr) (cuts : List Nat) (c : Src) (hS : 0 < cuts.sum) (hS2 : cuts.sum ≤ 1000000000) (hl : cuts.length ≤ 1000000) : S_round_counts [eCr cr, .tup (cuts.map (shD cuts.sum))] c = some (.tup (cuts.map fun k => D.int (cntS cuts k : Nat)), c) := by
  obtain ⟨f1, f2, f3⟩ := fra_ok cuts hS
  have hF : fraS cuts ≤ cuts.sum := Nat.le_of_dvd hS f1
  simp_arith! [m_round_counts]
  rw [cl_eq (frames_of_eq cuts c hS hS2)]
  simp_arith
  refine wp_compM (enc := shD cuts.sum) (fun k => D.int (cntS cuts k : Nat)) (by omega) (by simp_arith) (fun k hk => by
    rw [show shD cuts.sum k = D.tup [.int (numS cuts.sum k : Nat), .int (denS cuts.sum k : Nat)] from rfl]
    have hdp := den_pos (S := cuts.sum) (k := k) hS
    have hdl : denS cuts.sum k ≤ cuts.sum := Nat.le_of_dvd hS (den_dvd _ _)
    simp_arith
    refine ⟨divOk (by omega) (by omega) (by omega), ?_⟩
    rw [fdiv_nat]
    have hq : fraS cuts / denS cuts.sum k ≤ fraS cuts := Nat.div_le_self _ _
    have hcs : cntS cuts k = numS cuts.sum k * (fraS cuts / denS cuts.sum k) := rfl
    rw [hcs]
    generalize fraS cuts / denS cuts.sum k = z at hq ⊢
    refine ⟨mulOk_r (by omega) (by omega), ?_⟩
    rw [← Int.natCast_mul]) ?_
  simp_arith [sm_tupL]
theorem spr_snoc (n : Nat) : ∀ (l : List Nat) (j : Nat), sprS (l ++ [n]) j = sprS l j ++ List.replicate n (j + l.length)
  | [], j => by simp [sprS]
  | x :: r, j => by
    rw [List.cons_append]
    unfold sprS
    rw [spr_snoc n r (j + 1), List.append_assoc, List.length_cons, show j + 1 + r.length = j + (r.length + 1) by omega]
theorem spread_eq (cr : Cr) (cuts : List Nat) (c : Src) (hS : 0 < cuts.sum) (hS2 : cuts.sum ≤ 10000000) (hl : cuts.length ≤ 1000000) : S_spread_round [eCr cr, .tup (cuts.map (shD cuts.sum))] c = some (.tpx ((sprS (cuts.map (cntS cuts)) 0).map fun j : Nat => (j : Int)), c) := by
  obtain ⟨f1, f2, f3⟩ := fra_ok cuts hS
  have hF : fraS cuts ≤ cuts.sum := Nat.le_of_dvd hS f1
  have htot := cnt_sum hS
  simp_arith! [m_spread_round]
  rw [cl_eq (counts_eq cr cuts c hS (by omega) hl)]
  simp_arith
  refine wp_for (enc := fun p : Nat × Nat => D.tup [.int (p.2 : Nat), .int (cntS cuts p.1 : Nat)]) (fun done _ s => ∃ (x3 x4 : Option D), s = ⟨[some (.val (eCr cr)), some (.val (.tup (cuts.map (shD cuts.sum)))), some (.own ((sprS (done.map fun p => cntS cuts p.1) 0).map fun j : Nat => D.int (j : Nat))), jv x3, jv x4], c⟩) ⟨none, none, rfl⟩ ?_ ?_
  · rintro done ⟨k, j⟩ rest _ hx ⟨x3, x4, rfl⟩
    have hfst : cuts = done.map (·.1) ++ k :: rest.map (·.1) := by
      have := congrArg (List.map Prod.fst) hx
      rw [List.zipIdx_map_fst] at this
      rw [this]; simp
    have hj : j = done.length := by
      have := congrArg (fun l => l[done.length]?) hx
      simp at this
      obtain ⟨_, _, _, h⟩ := this
      exact h.symm
    have hsum : (done.map fun p => cntS cuts p.1).sum + cntS cuts k ≤ fraS cuts := by
      rw [← htot]
      have e : (cuts.map (cntS cuts)) = (done.map fun p => cntS cuts p.1) ++ cntS cuts k :: (rest.map fun p => cntS cuts p.1) := by
        conv => lhs; arg 2; rw [hfst]
        rw [List.map_append, List.map_cons, List.map_map, List.map_map]; rfl
      rw [e, List.sum_append, List.sum_cons]; omega
    have hsl := spr_len (done.map fun p => cntS cuts p.1) 0
    simp_arith
    rw [Int.toNat_natCast, List.flatten_replicate_singleton]
    refine ⟨⟨by omega, by omega, by simp; omega⟩, by rw [List.length_map, List.length_replicate]; omega, some (.int (j : Nat)), some (.int (cntS cuts k : Nat)), ?_⟩
    rw [List.map_append, List.map_singleton, spr_snoc, List.map_append, List.map_replicate, List.length_map, hj, Nat.zero_add]
    rfl
  · rintro _ ⟨x3, x4, rfl⟩
    simp_arith
    rw [show cuts.zipIdx.map (fun p => cntS cuts p.1) = cuts.map (cntS cuts) by
      have := congrArg (List.map (cntS cuts)) (List.zipIdx_map_fst (l := cuts) (i := 0))
      rw [List.map_map] at this
      exact this]
    rw [show ((sprS (cuts.map (cntS cuts)) 0).map fun j : Nat => D.int (j : Nat)) = ((sprS (cuts.map (cntS cuts)) 0).map fun j : Nat => (j : Int)).map D.int by rw [List.map_map]; rfl]
    simp_arith [sm_tpxL]
end GW
end

noncomputable section
namespace GW
open GH
theorem sum_set : ∀ (l : List Nat) (i : Nat) (h : i < l.length), (l.set i (l[i] + 1)).sum = l.sum + 1
  | [], i, h => by simp at h
  | x :: r, 0, _ => by simp; omega
  | x :: r, i + 1, h => by
    have := sum_set r i (by simpa using h)
    simp only [List.set_cons_succ, List.getElem_cons_succ, List.sum_cons]
    omega
theorem sum_le3 {m : Nat} : ∀ l : List Nat, (∀ x ∈ l, x ≤ m) → l.sum ≤ m * l.length
  | [], _ => by simp
  | x :: r, h => by
    have h1 := h x List.mem_cons_self
    have := sum_le3 r fun y hy => h y (List.mem_cons_of_mem _ hy)
    rw [List.sum_cons, List.length_cons, Nat.mul_add]; omega
theorem draw_shares_cl (m : Nat) (c : Src) (h1 : 1 ≤ m) (h2 : m ≤ 200000) : Cl S__law_draw_shares [.src, .int m] c fun d _ => ∃ cuts : List Nat, cuts.length = m ∧ 0 < cuts.sum ∧ cuts.sum ≤ 3 * m + 3 ∧ d = .tup (cuts.map (shD cuts.sum)) := by
  refine fn_cl ?_
  simp only [startE_s, startE_n, startE_z, m__law_draw_shares]
  simp_arith
  refine ⟨⟨by omega, by omega⟩, ?_⟩
  rw [Int.toNat_natCast]
  refine wp_compD (enc := fun k : Nat => D.int (k : Nat)) (fun n : Nat => D.int (n : Nat)) (fun _ y => y ≤ 3) (by rw [List.length_range]; omega) (by simp_arith) (fun x _ s0 => by
    simp_arith
    refine cl_pick (by decide) (by decide) fun r c3 hr hr' => ?_
    simp_arith
    exact ⟨r.toNat, by rw [show ((r.toNat : Nat) : Int) = r by omega], by omega⟩) fun ys c2 hyl hys => ?_
  rw [List.length_range] at hyl
  have hy3 : ∀ y ∈ ys, y ≤ 3 := fun y hy => by
    obtain ⟨i, hi, rfl⟩ := List.mem_iff_getElem.mp hy
    exact hys i i ys[i] (List.getElem?_range (by omega)) (List.getElem?_eq_getElem hi)
  have hs3 := sum_le3 ys hy3
  simp_arith
  refine cl_pick (by omega) (by omega) fun r c3 hr hr' => ?_
  simp_arith
  have hri : r.toNat < ys.length := by omega
  have hnth : nth ys r = ys[r.toNat] := by unfold nth; rw [List.getD_eq_getElem?_getD, List.getElem?_eq_getElem hri]; rfl
  rw [at_nth (xs := ys) hr (by omega), hnth]
  simp_arith [List.length_map]
  rw [ix_ok hr (by omega)]
  simp_arith
  have hcs := sum_set ys r.toNat hri
  have hset : (ys.map fun n : Nat => D.int (n : Nat)).set r.toNat (.int ((ys[r.toNat] : Nat) + 1)) = (ys.set r.toNat (ys[r.toNat] + 1)).map fun n : Nat => D.int (n : Nat) := by
    rw [List.map_set]; rfl
  rw [hset]
  have hcl : (ys.set r.toNat (ys[r.toNat] + 1)).length = m := by rw [List.length_set]; exact hyl
  generalize ys.set r.toNat (ys[r.toNat] + 1) = cuts at hcs hcl ⊢
  have hsumI : (cuts.map fun n : Nat => (n : Int)).sum = (cuts.sum : Nat) := by
    clear hset hcs hcl
    induction cuts with
    | nil => rfl
    | cons x r ih => rw [List.map_cons, List.sum_cons, ih, List.sum_cons]; push_cast; rfl
  have hS : 0 < cuts.sum := by omega
  have hS2 : cuts.sum ≤ 3 * m + 3 := by omega
  refine wp_compM (enc := fun n : Nat => D.int (n : Nat)) (fun k => shD cuts.sum k) (by omega) (by simp_arith) (fun k hk => by
    simp_arith
    rw [hsumI, cl_eq (law_fraction_eq k cuts.sum c3 hS (by omega))]
    simp_arith
    rfl) ?_
  simp_arith [sm_tupL]
  exact ⟨cuts, hcl, hS, hS2, rfl⟩
end GW
end

noncomputable section
namespace GW
open GH
end GW
end

noncomputable section
namespace GW
open GH
end GW
end

local macro_rules | `(tactic| simp_arith [$ls,*]) => `(tactic| simp only [↓GW.sm_lenE, ↓GW.sm_seqE, ↓GW.sm_ixE, ↓GW.sm_tupE, ↓GW.sm_tupEE, ↓GW.sm_slE, ↓GW.sm_addE, ↓GW.sm_lenR, ↓GW.sm_seqR, ↓GW.sm_ixR, ↓GW.sm_tupR, ↓GW.sm_slR, ↓GW.sm_addR, ↓GW.sm_cr0, ↓GW.sm_cr1, ↓GW.sm_cr2, ↓GW.sm_seqMvs, ↓GW.sm_lenMvs, ↓GW.sm_mv0, ↓GH.wp_ret, ↓GH.wp_lift, ↓GH.sm_some, ↓GH.sm_map, ↓GH.sm_bind, ↓GH.ifB_tt, ↓GH.ifB_ff, ↓GH.ifB_dec, ↓GH.ifB_not, ↓GH.nx_nx, ↓GH.nx_ret, ↓GH.nx_brk, ↓GH.nx_cnt, ↓GH.varAt_z, ↓GH.varAt_s, ↓GH.slAt_z, ↓GH.slAt_s, ↓GH.ownAt_z, ↓GH.ownAt_s, ↓GH.setAt_z, ↓GH.setAt_s, ↓GH.frzAt_z, ↓GH.frzAt_s, ↓GH.bor_val, ↓GH.bor_own, ↓GH.bor_ownK, ↓GH.bor_ownT, ↓GH.len_0, ↓GH.len_1, ↓GH.len_2, ↓GH.len_3, ↓GH.len_4, ↓GH.len_5, ↓GH.len_6, ↓GH.isB_bl, ↓GH.isI_int, ↓GH.wp_var, ↓GH.wp_frz, ↓GH.wp_C, ↓GH.wp_bin, ↓GH.wp_un, ↓GH.wp_tst, ↓GH.wp_tru, ↓GH.wp_and2, ↓GH.wp_or2, ↓GH.wp_not1, ↓GH.wp_eAnd, ↓GH.wp_eOr, ↓GH.wp_eIf, ↓GH.wp_chain, ↓GH.wp_aNil, ↓GH.wp_aCons, ↓GH.wp_aStar, ↓GH.wp_tup, ↓GH.wp_disp, ↓GH.wp_lst, ↓GH.wp_call, ↓GH.wp_callL, ↓GH.wp_fn, ↓GH.wp_fld, ↓GH.wp_oNo, ↓GH.wp_oAt, ↓GH.wp_sl, ↓GH.wp_here, ↓GH.wp_putL, ↓GH.wp_app, ↓GH.sm_app, ↓GH.wp_popAt, ↓GH.wp_bor, ↓GH.wp_tBor, ↓GH.isFlat_int, ↓GH.isFlat_bl, ↓GH.isFlat_non, ↓GH.isFlat_str, ↓GH.wp_seq, ↓GH.wp_nx, ↓GH.wp_sRet, ↓GH.wp_sIf, ↓GH.wp_sExpr, ↓GH.wp_asg, ↓GH.wp_gN, ↓GH.wp_gT, ↓GH.wp_gCons, ↓GH.wp_gNil, ↓GH.wp_set, ↓GH.wp_own, ↓GH.wp_aug, ↓GH.sm_aug, ↓GH.wp_ownGet, ↓GH.wp_augIx, ↓GH.wp_sFor, ↓GH.wp_pNil, ↓GH.wp_pVal, ↓GH.wp_pOwn, ↓GH.wp_par, ↓GH.sm_put0, ↓GH.sm_put, ↓GH.wp_iSeq, ↓GH.wp_rg1, ↓GH.wp_rg2, ↓GH.wp_enum, ↓GH.wp_zip2, ↓GH.sm_addI, ↓GH.sm_addT, ↓GH.sm_addL, ↓GH.sm_subI, ↓GH.sm_mulI, ↓GH.sm_mulL, ↓GH.sm_modI, ↓GH.sm_fdivI, ↓GH.sm_ltI, ↓GH.sm_leI, ↓GH.sm_gtI, ↓GH.sm_geI, ↓GH.sm_eqI, ↓GH.sm_neI, ↓GH.sm_notN, ↓GH.sm_ixT, ↓GH.sm_ixL, ↓GH.at_0, ↓GH.at_1, ↓GH.at_2, ↓GH.at_3, ↓GH.at_4, ↓GH.at_map, ↓GH.sm_lenL, ↓GH.sm_lenT, ↓GH.sm_intI, ↓GH.sm_intB, ↓GH.sm_absI, ↓GH.sm_tupT, ↓GH.sm_lstL, ↓GH.sm_lstT, ↓GH.sm_sumL1, ↓GH.sm_sumT1, ↓GH.sm_sumL, ↓GH.sm_sumT, ↓GH.sm_maxI, ↓GH.sm_maxL1, ↓GH.sm_maxL, ↓GH.sm_anyL, ↓GH.sm_allL, ↓GH.sm_negI, ↓GH.sm_seqL, ↓GH.sm_seqT, ↓GH.sm_slL, ↓GH.sm_slT, ↓GH.sm_truB, ↓GH.sm_truN, ↓GH.sm_truI, ↓GH.sm_truL, ↓GH.sm_truT, ↓GH.sm_inR, ↓GH.sm_inT, ↓GH.sm_inL, ↓GH.sm_ninT, ↓GH.sm_ninL, ↓GH.sm_setL, ↓GH.wp_comp, ↓GH.wp_turn, ↓GH.lp_nx, ↓GH.lp_cnt, ↓GH.lp_brk, ↓GH.lp_ret, ↓GH.outR_ret, ↓GH.outR_nx, ↓GH.ownB_L, ↓GH.ownB_K, ↓GH.ownB_T, ↓GH.wp_nw, ↓GH.wp_nK0, ↓GH.wp_nT0, ↓GH.wp_ownN, ↓GH.wp_dgO, ↓GH.own2_K, ↓GH.own2_T, ↓GH.own2_s, ↓GH.wp_here2, ↓GH.wp_putD, ↓GH.putAt_s, ↓GH.putAt_K, ↓GH.putAt_T, ↓GH.wp_sPutD, ↓GH.sm_keyI, ↓GH.sm_keyS, ↓GH.sm_keysT, ↓GH.sm_dgK, ↓GH.sm_dgT, ↓GH.sm_dninK, ↓GH.sm_dninT, ↓GH.dctAt_KI, ↓GH.dctAt_T, ↓GH.dctAt_s, ↓GH.wp_forD, ↓GH.wp_lSl, ↓GH.sm_lstD, ↓GH.enumP_map, ↓GH.zip2P_map, ↓GH.sm_eqNilI, ↓GH.sm_neNilI, ↓GH.sm_eqIL, ↓GH.sm_neIL, ↓GH.sm_eqIT, ↓GH.sm_neIT, ↓GH.at_snoc, ↓GH.sm_ne3, ↓GH.sm_ne2, ↓GH.sm_srtI, ↓GH.wp_rgV, ↓GH.isR_rng, ↓GH.sm_rng1, ↓GH.wp_ext, ↓GH.sm_extL, ↓GH.sm_keysE, ↓GH.wp_lstT, ↓GH.ownTAt_z, ↓GH.ownTAt_s, ↓GH.wp_nDcT, ↓GH.wp_iDct, ↓GH.wp_vals, ↓GH.sm_valsT, ↓GH.wp_turnK, ↓GH.wp_frzN, ↓GH.frzNAt_n, ↓GH.frzNAt_z, ↓GH.frzNAt_j, ↓GH.frzNAt_s, ↓GH.sm_tpxL, ↓GH.sm_seqX, ↓GH.sm_lenX, ↓GH.sm_cntP, ↓GH.sm_lstX, ↓GH.wp_slX, ↓GH.sm_slX, GH.isV_none, GH.isV_val, GH.isV_jv, GH.allV_nil, GH.allV_cons, GH.jv_some, GH.jv_none, GH.out_nx, GH.kGet_lkp, GH.lkp_isSome, GH.borF, GH.bor_z, GH.bor_tt, GH.bor_no, GH.clean_nil, GH.clean_cons, GH.cleanAt_s, GH.cleanAt_n, GH.cleanAt_v, GH.cleanAt_j, GH.wipe_nil, GH.wipe_cons, GH.startE_z, GH.startE_n, GH.startE_s, GH.kGet_lkT, GH.lkT_isSome, GH.dkT_keysD, eq_self, Option.isSome_map, List.set_cons_zero, List.set_cons_succ, List.cons_append, List.nil_append, and_true, true_and, and_self, true_implies, implies_true, not_false_eq_true, not_true_eq_false, false_implies, Option.some.injEq, List.contains_cons, List.contains_nil, Nat.reduceBEq, Bool.or_false, Bool.or_true, Bool.false_or, Bool.true_or, Nat.zero_add, Nat.reduceAdd, $ls,*])
local macro_rules | `(tactic| simp_all_arith [$ls,*]) => `(tactic| simp only [↓GW.sm_lenE, ↓GW.sm_seqE, ↓GW.sm_ixE, ↓GW.sm_tupE, ↓GW.sm_tupEE, ↓GW.sm_slE, ↓GW.sm_addE, ↓GW.sm_lenR, ↓GW.sm_seqR, ↓GW.sm_ixR, ↓GW.sm_tupR, ↓GW.sm_slR, ↓GW.sm_addR, ↓GW.sm_cr0, ↓GW.sm_cr1, ↓GW.sm_cr2, ↓GW.sm_seqMvs, ↓GW.sm_lenMvs, ↓GW.sm_mv0, ↓GH.wp_ret, ↓GH.wp_lift, ↓GH.sm_some, ↓GH.sm_map, ↓GH.sm_bind, ↓GH.ifB_tt, ↓GH.ifB_ff, ↓GH.ifB_dec, ↓GH.ifB_not, ↓GH.nx_nx, ↓GH.nx_ret, ↓GH.nx_brk, ↓GH.nx_cnt, ↓GH.varAt_z, ↓GH.varAt_s, ↓GH.slAt_z, ↓GH.slAt_s, ↓GH.ownAt_z, ↓GH.ownAt_s, ↓GH.setAt_z, ↓GH.setAt_s, ↓GH.frzAt_z, ↓GH.frzAt_s, ↓GH.bor_val, ↓GH.bor_own, ↓GH.bor_ownK, ↓GH.bor_ownT, ↓GH.len_0, ↓GH.len_1, ↓GH.len_2, ↓GH.len_3, ↓GH.len_4, ↓GH.len_5, ↓GH.len_6, ↓GH.isB_bl, ↓GH.isI_int, ↓GH.wp_var, ↓GH.wp_frz, ↓GH.wp_C, ↓GH.wp_bin, ↓GH.wp_un, ↓GH.wp_tst, ↓GH.wp_tru, ↓GH.wp_and2, ↓GH.wp_or2, ↓GH.wp_not1, ↓GH.wp_eAnd, ↓GH.wp_eOr, ↓GH.wp_eIf, ↓GH.wp_chain, ↓GH.wp_aNil, ↓GH.wp_aCons, ↓GH.wp_aStar, ↓GH.wp_tup, ↓GH.wp_disp, ↓GH.wp_lst, ↓GH.wp_call, ↓GH.wp_callL, ↓GH.wp_fn, ↓GH.wp_fld, ↓GH.wp_oNo, ↓GH.wp_oAt, ↓GH.wp_sl, ↓GH.wp_here, ↓GH.wp_putL, ↓GH.wp_app, ↓GH.sm_app, ↓GH.wp_popAt, ↓GH.wp_bor, ↓GH.wp_tBor, ↓GH.isFlat_int, ↓GH.isFlat_bl, ↓GH.isFlat_non, ↓GH.isFlat_str, ↓GH.wp_nx, ↓GH.wp_sRet, ↓GH.wp_sIf, ↓GH.wp_sExpr, ↓GH.wp_asg, ↓GH.wp_gN, ↓GH.wp_gT, ↓GH.wp_gCons, ↓GH.wp_gNil, ↓GH.wp_set, ↓GH.wp_own, ↓GH.wp_aug, ↓GH.sm_aug, ↓GH.wp_ownGet, ↓GH.wp_augIx, ↓GH.wp_sFor, ↓GH.wp_pNil, ↓GH.wp_pVal, ↓GH.wp_pOwn, ↓GH.wp_par, ↓GH.sm_put0, ↓GH.sm_put, ↓GH.wp_iSeq, ↓GH.wp_rg1, ↓GH.wp_rg2, ↓GH.wp_enum, ↓GH.wp_zip2, ↓GH.sm_addI, ↓GH.sm_addT, ↓GH.sm_addL, ↓GH.sm_subI, ↓GH.sm_mulI, ↓GH.sm_mulL, ↓GH.sm_modI, ↓GH.sm_fdivI, ↓GH.sm_ltI, ↓GH.sm_leI, ↓GH.sm_gtI, ↓GH.sm_geI, ↓GH.sm_eqI, ↓GH.sm_neI, ↓GH.sm_notN, ↓GH.sm_ixT, ↓GH.sm_ixL, ↓GH.at_0, ↓GH.at_1, ↓GH.at_2, ↓GH.at_3, ↓GH.at_4, ↓GH.at_map, ↓GH.sm_lenL, ↓GH.sm_lenT, ↓GH.sm_intI, ↓GH.sm_intB, ↓GH.sm_absI, ↓GH.sm_tupT, ↓GH.sm_lstL, ↓GH.sm_lstT, ↓GH.sm_sumL1, ↓GH.sm_sumT1, ↓GH.sm_sumL, ↓GH.sm_sumT, ↓GH.sm_maxI, ↓GH.sm_maxL1, ↓GH.sm_maxL, ↓GH.sm_anyL, ↓GH.sm_allL, ↓GH.sm_negI, ↓GH.sm_seqL, ↓GH.sm_seqT, ↓GH.sm_slL, ↓GH.sm_slT, ↓GH.sm_truB, ↓GH.sm_truN, ↓GH.sm_truI, ↓GH.sm_truL, ↓GH.sm_truT, ↓GH.sm_inR, ↓GH.sm_inT, ↓GH.sm_inL, ↓GH.sm_ninT, ↓GH.sm_ninL, ↓GH.sm_setL, ↓GH.wp_comp, ↓GH.wp_turn, ↓GH.lp_nx, ↓GH.lp_cnt, ↓GH.lp_brk, ↓GH.lp_ret, ↓GH.outR_ret, ↓GH.outR_nx, ↓GH.ownB_L, ↓GH.ownB_K, ↓GH.ownB_T, ↓GH.wp_nw, ↓GH.wp_nK0, ↓GH.wp_nT0, ↓GH.wp_ownN, ↓GH.wp_dgO, ↓GH.own2_K, ↓GH.own2_T, ↓GH.own2_s, ↓GH.wp_here2, ↓GH.wp_putD, ↓GH.putAt_s, ↓GH.putAt_K, ↓GH.putAt_T, ↓GH.wp_sPutD, ↓GH.sm_keyI, ↓GH.sm_keyS, ↓GH.sm_keysT, ↓GH.sm_dgK, ↓GH.sm_dgT, ↓GH.sm_dninK, ↓GH.sm_dninT, ↓GH.dctAt_KI, ↓GH.dctAt_T, ↓GH.dctAt_s, ↓GH.wp_forD, ↓GH.wp_lSl, ↓GH.sm_lstD, ↓GH.enumP_map, ↓GH.zip2P_map, ↓GH.sm_eqNilI, ↓GH.sm_neNilI, ↓GH.sm_eqIL, ↓GH.sm_neIL, ↓GH.sm_eqIT, ↓GH.sm_neIT, ↓GH.at_snoc, ↓GH.sm_ne3, ↓GH.sm_ne2, ↓GH.sm_srtI, ↓GH.wp_rgV, ↓GH.isR_rng, ↓GH.sm_rng1, ↓GH.wp_ext, ↓GH.sm_extL, ↓GH.sm_keysE, ↓GH.wp_lstT, ↓GH.ownTAt_z, ↓GH.ownTAt_s, ↓GH.wp_nDcT, ↓GH.wp_iDct, ↓GH.wp_vals, ↓GH.sm_valsT, ↓GH.wp_turnK, ↓GH.wp_frzN, ↓GH.frzNAt_n, ↓GH.frzNAt_z, ↓GH.frzNAt_j, ↓GH.frzNAt_s, ↓GH.sm_tpxL, ↓GH.sm_seqX, ↓GH.sm_lenX, ↓GH.sm_cntP, ↓GH.sm_lstX, ↓GH.wp_slX, ↓GH.sm_slX, GH.isV_none, GH.isV_val, GH.isV_jv, GH.allV_nil, GH.allV_cons, GH.jv_some, GH.jv_none, GH.out_nx, GH.kGet_lkp, GH.lkp_isSome, GH.borF, GH.bor_z, GH.bor_tt, GH.bor_no, GH.clean_nil, GH.clean_cons, GH.cleanAt_s, GH.cleanAt_n, GH.cleanAt_v, GH.cleanAt_j, GH.wipe_nil, GH.wipe_cons, GH.startE_z, GH.startE_n, GH.startE_s, GH.kGet_lkT, GH.lkT_isSome, GH.dkT_keysD, eq_self, Option.isSome_map, List.set_cons_zero, List.set_cons_succ, List.cons_append, List.nil_append, and_true, true_and, and_self, true_implies, implies_true, not_false_eq_true, not_true_eq_false, false_implies, Option.some.injEq, List.contains_cons, List.contains_nil, Nat.reduceBEq, Bool.or_false, Bool.or_true, Bool.false_or, Bool.true_or, Nat.zero_add, Nat.reduceAdd, $ls,*])
local macro_rules | `(tactic| simp_all_arith) => `(tactic| simp_all_arith [and_true])
local macro_rules | `(tactic| simp_arith! [$ls,*]) => `(tactic| (refine GH.fn_val ?_; simp only [GH.startE_s, GH.startE_n, GH.startE_z, $ls,*]; simp_arith [$ls,*]))
local macro_rules | `(tactic| simp_arith) => `(tactic| simp_arith [and_true])
noncomputable section
namespace GW
open GH
theorem capV_le {cr : Cr} (hg : GoodX cr) (i : Nat) : ∀ {pl : Pl}, (∀ p ∈ pl, 1 ≤ p.2) → capV cr pl i ≤ need cr pl
  | [], _ => by rw [capV_nil, need_nil]; exact Int.le_refl _
  | p :: t, h => by
    have ih := capV_le hg i (pl := t) fun q hq => h q (List.mem_cons_of_mem _ hq)
    have h1 := h p List.mem_cons_self
    have h2 := (hg.clgS p.1).1
    rw [capV_cons, need_cons]
    split <;> omega
theorem lead_plan {cr : Cr} (h : SmC cr) {p : Pl} (hp : p ∈ leadP cr) : PlanG cr p := by
  have hu := lead_up' h hp
  have hul := hu.len h.g h.l8
  exact ⟨by omega, fun q hq => by have := hu.inn q hq; omega, hu.fit⟩
theorem le_sumN {l : List Nat} {x : Nat} (h : x ∈ l) : x ≤ l.sum := by
  induction l with
  | nil => cases h
  | cons y t ih =>
    rw [List.sum_cons]
    rcases List.mem_cons.mp h with z | z
    · omega
    · have := ih z; omega
theorem capF_nn {cr : Cr} (hg : GoodX cr) {pl : Pl} (h : PlanG cr pl) : ∀ x ∈ capF cr pl, 0 ≤ x := fun x hx => by
  rw [capF_eq hg h.valid] at hx
  obtain ⟨i, _, rfl⟩ := List.mem_map.mp hx
  exact capV_nn cr (fun p hp => (h.inn p hp).2.2) i
theorem capF_le {cr : Cr} (hg : GoodX cr) {pl : Pl} (h : PlanG cr pl) : ∀ x ∈ capF cr pl, x ≤ cr.len := fun x hx => by
  rw [capF_eq hg h.valid] at hx
  obtain ⟨i, _, rfl⟩ := List.mem_map.mp hx
  have := capV_le hg i fun p hp => (h.inn p hp).2.2
  have := h.fit
  omega
theorem nodup_ltN : ∀ (N : Nat) (l : List Nat), l.Nodup → (∀ x ∈ l, x < N) → l.length ≤ N
  | 0, l, _, h => by
    cases l with
    | nil => simp
    | cons x t => exact absurd (h x List.mem_cons_self) (by omega)
  | N + 1, l, hn, h => by
    by_cases hm : N ∈ l
    · have h1 := nodup_ltN N (l.erase N) (hn.erase N) fun x hx => by
        have h2 := hn.mem_erase_iff.mp hx
        have h3 := h x h2.2
        have h4 := h2.1
        omega
      have h5 := List.length_erase_of_mem hm
      have h6 := List.length_pos_of_mem hm
      omega
    · have h1 := nodup_ltN N l hn fun x hx => by
        have h2 := h x hx
        have h3 : x ≠ N := fun e => hm (e ▸ hx)
        omega
      omega
def code3 (v : List Int) : Nat := (v.getD 0 0).toNat * 81 + (v.getD 1 0).toNat * 9 + (v.getD 2 0).toNat
theorem code_lt {v : List Int} (h : ∀ x ∈ v, 0 ≤ x ∧ x ≤ 8) : code3 v < 729 := by
  have g : ∀ i, 0 ≤ v.getD i 0 ∧ v.getD i 0 ≤ 8 := fun i => by
    rw [List.getD_eq_getElem?_getD]
    cases e : v[i]? with
    | none => simp
    | some x => exact h x (List.mem_of_getElem? e)
  have a := g 0
  have b := g 1
  have c := g 2
  unfold code3
  omega
theorem code_abv {v w : List Int} (hv : ∀ x ∈ v, 0 ≤ x ∧ x ≤ 8) (hw : ∀ x ∈ w, 0 ≤ x ∧ x ≤ 8) (hl : v.length = w.length) (h4 : v.length ≤ 4) (hne : v ≠ w) (hc : code3 v = code3 w) : abv v w = true ∨ abv w v = true := by
  match v, w, hl, h4 with
  | [], [], _, _ => exact absurd rfl hne
  | [a], [b], _, _ =>
    simp [code3] at hc hv hw
    exact absurd (by rw [show a = b by omega]) hne
  | [a, a2], [b, b2], _, _ =>
    simp [code3] at hc hv hw
    exact absurd (by rw [show a = b by omega, show a2 = b2 by omega]) hne
  | [a, a2, a3], [b, b2, b3], _, _ =>
    simp [code3] at hc hv hw
    exact absurd (by rw [show a = b by omega, show a2 = b2 by omega, show a3 = b3 by omega]) hne
  | [a, a2, a3, a4], [b, b2, b3, b4], _, _ =>
    simp [code3] at hc hv hw
    have e1 : a = b := by omega
    have e2 : a2 = b2 := by omega
    have e3 : a3 = b3 := by omega
    subst e1 e2 e3
    have hn : a4 ≠ b4 := fun e => hne (by rw [e])
    by_cases hlt : b4 < a4
    · left; simp [abv, geAll]; omega
    · right; simp [abv, geAll]; omega
theorem lead_caps {cr : Cr} (h : SmC cr) (h4 : cr.mv.length ≤ 4) {x : List Int × Pl} (hx : x ∈ lead cr) : x.1.length = cr.mv.length ∧ ∀ v ∈ x.1, 0 ≤ v ∧ v ≤ 8 := by
  have e := (lead_up h hx).1
  have hP := lead_plan h (mem_leadP.mpr ⟨x, hx, rfl⟩)
  have h8 := h.l8
  refine ⟨by rw [e, capF_len], fun v hv => ?_⟩
  rw [e] at hv
  exact ⟨capF_nn h.g hP v hv, by have := capF_le h.g hP v hv; omega⟩
theorem lead_few {cr : Cr} (h : SmC cr) (h4 : cr.mv.length ≤ 4) : (leadP cr).length ≤ 729 := by
  rw [(lead_lens h).2]
  have hnd := List.pairwise_map.mp (lead_nd cr)
  have h1 : ((lead cr).map fun x => code3 x.1).Nodup := List.pairwise_map.mpr (hnd.imp_of_mem fun {a b} ha hb hne hc => by
    obtain ⟨a1, a2⟩ := lead_caps h h4 ha
    obtain ⟨b1, b2⟩ := lead_caps h h4 hb
    rcases code_abv a2 b2 (by omega) (by omega) hne hc with z | z
    · rw [lead_none hb ha] at z; cases z
    · rw [lead_none ha hb] at z; cases z)
  have h2 := nodup_ltN 729 _ h1 fun k hk => by
    obtain ⟨x, hx, rfl⟩ := List.mem_map.mp hk
    exact code_lt (lead_caps h h4 hx).2
  rwa [List.length_map] at h2
theorem num_scale {u d t : Nat} (ht : 0 < t) : numS (d * t) (u * t) = numS d u ∧ denS (d * t) (u * t) = denS d u := by
  unfold numS denS
  rw [Nat.gcd_mul_right]
  exact ⟨Nat.mul_div_mul_right _ _ ht, Nat.mul_div_mul_right _ _ ht⟩
theorem shD_eq {u1 d1 u2 d2 : Nat} (h1 : 0 < d1) (h2 : 0 < d2) (h : u1 * d2 = u2 * d1) : shD d1 u1 = shD d2 u2 := by
  obtain ⟨a1, a2⟩ := num_scale (u := u1) (d := d1) h2
  obtain ⟨b1, b2⟩ := num_scale (u := u2) (d := d2) h1
  unfold shD
  rw [← a1, ← a2, ← b1, ← b2, h, Nat.mul_comm d1 d2]
theorem shD_1 (k : Nat) : shD 1 k = .tup [.int (k : Nat), .int 1] := by
  unfold shD numS denS
  rw [Nat.gcd_one_right, Nat.div_one, Nat.div_one]
  rfl
theorem num_mul {S a : Nat} (hS : 0 < S) : numS S a * S = a * denS S a := by
  have hg := Nat.gcd_pos_of_pos_right a hS
  have e1 : denS S a * Nat.gcd a S = S := Nat.div_mul_cancel (Nat.gcd_dvd_right a S)
  have e2 : numS S a * Nat.gcd a S = a := Nat.div_mul_cancel (Nat.gcd_dvd_left a S)
  generalize numS S a = n at *
  generalize denS S a = d at *
  generalize Nat.gcd a S = g at *
  subst e1 e2
  ac_rfl
theorem den_le {S a : Nat} (hS : 0 < S) : 0 < denS S a ∧ denS S a ≤ S := ⟨den_pos hS, Nat.div_le_self _ _⟩
theorem sh_mulI (a b : Nat) : (a : Int) * (b : Int) = ((a * b : Nat) : Int) := by push_cast; rfl
theorem added_sh (S T a b : Nat) (c : Src) (hS : 0 < S) (hT : 0 < T) (hST : S * T < 1000000000) : S_added [shD S a, shD T b] c = some (shD (S * T) (a * T + b * S), c) := by
  obtain ⟨d1, d2⟩ := den_le (a := a) hS
  obtain ⟨d3, d4⟩ := den_le (a := b) hT
  have hD : denS S a * denS T b ≤ S * T := Nat.mul_le_mul d2 d4
  have hD0 : 0 < denS S a * denS T b := Nat.mul_pos d1 d3
  have hSl : S ≤ S * T := Nat.le_mul_of_pos_right _ hT
  have hTl : T ≤ S * T := Nat.le_mul_of_pos_left _ hS
  have n1 := num_mul (a := a) hS
  have n2 := num_mul (a := b) hT
  rw [show shD S a = .tup [.int (numS S a : Nat), .int (denS S a : Nat)] from rfl, show shD T b = .tup [.int (numS T b : Nat), .int (denS T b : Nat)] from rfl]
  simp_arith! [m_added]
  refine ⟨mulOk_r (by omega) (by omega), mulOk_r (by omega) (by omega), mulOk_r (by omega) (by omega), ?_⟩
  rw [sh_mulI, sh_mulI, sh_mulI, ← Int.natCast_add, cl_eq (fraction_eq _ _ c hD0 (by omega))]
  simp_arith
  show shD _ _ = _
  refine shD_eq hD0 (Nat.mul_pos hS hT) ?_
  generalize numS S a = na at *
  generalize numS T b = nb at *
  generalize denS S a = da at *
  generalize denS T b = db at *
  calc (na * db + nb * da) * (S * T) = (na * S) * (db * T) + (nb * T) * (da * S) := by rw [Nat.add_mul]; congr 1 <;> ac_rfl
    _ = (a * da) * (db * T) + (b * db) * (da * S) := by rw [n1, n2]
    _ = (a * T + b * S) * (da * db) := by rw [Nat.add_mul]; congr 1 <;> ac_rfl
theorem added_same (S a b : Nat) (c : Src) (hS : 0 < S) (hS2 : S * S < 1000000000) : S_added [shD S a, shD S b] c = some (shD S (a + b), c) := by
  rw [added_sh S S a b c hS hS hS2]
  congr 2
  refine shD_eq (Nat.mul_pos hS hS) hS ?_
  rw [← Nat.add_mul, Nat.mul_assoc]
theorem mult_sh (S T a b : Nat) (c : Src) (hS : 0 < S) (hT : 0 < T) (hST : S * T < 1000000000) (ha : a < 1000000000 ∨ b < 1000000000) : S_multiplied [shD S a, shD T b] c = some (shD (S * T) (a * b), c) := by
  obtain ⟨d1, d2⟩ := den_le (a := a) hS
  obtain ⟨d3, d4⟩ := den_le (a := b) hT
  have hD : denS S a * denS T b ≤ S * T := Nat.mul_le_mul d2 d4
  have hD0 : 0 < denS S a * denS T b := Nat.mul_pos d1 d3
  have hSl : S ≤ S * T := Nat.le_mul_of_pos_right _ hT
  have hTl : T ≤ S * T := Nat.le_mul_of_pos_left _ hS
  have n1 := num_mul (a := a) hS
  have n2 := num_mul (a := b) hT
  have m1 : numS S a ≤ a := Nat.div_le_self _ _
  have m2 : numS T b ≤ b := Nat.div_le_self _ _
  rw [show shD S a = .tup [.int (numS S a : Nat), .int (denS S a : Nat)] from rfl, show shD T b = .tup [.int (numS T b : Nat), .int (denS T b : Nat)] from rfl]
  simp_arith! [m_multiplied]
  refine ⟨by rcases ha with z | z; exact mulOk_l (by omega) (by omega); exact mulOk_r (by omega) (by omega), mulOk_r (by omega) (by omega), ?_⟩
  rw [sh_mulI, sh_mulI, cl_eq (fraction_eq _ _ c hD0 (by omega))]
  simp_arith
  show shD _ _ = _
  refine shD_eq hD0 (Nat.mul_pos hS hT) ?_
  generalize numS S a = na at *
  generalize numS T b = nb at *
  generalize denS S a = da at *
  generalize denS T b = db at *
  calc (na * nb) * (S * T) = (na * S) * (nb * T) := by ac_rfl
    _ = (a * da) * (b * db) := by rw [n1, n2]
    _ = (a * b) * (da * db) := by ac_rfl
theorem law_times_sh (S T a b : Nat) (c : Src) (hS : 0 < S) (hT : 0 < T) (hST : S * T < 1000000000) (ha : a < 1000000000 ∨ b < 1000000000) : S__law_times [shD S a, shD T b] c = some (shD (S * T) (a * b), c) := by
  obtain ⟨d1, d2⟩ := den_le (a := a) hS
  obtain ⟨d3, d4⟩ := den_le (a := b) hT
  have hD : denS S a * denS T b ≤ S * T := Nat.mul_le_mul d2 d4
  have hD0 : 0 < denS S a * denS T b := Nat.mul_pos d1 d3
  have hSl : S ≤ S * T := Nat.le_mul_of_pos_right _ hT
  have hTl : T ≤ S * T := Nat.le_mul_of_pos_left _ hS
  have n1 := num_mul (a := a) hS
  have n2 := num_mul (a := b) hT
  have m1 : numS S a ≤ a := Nat.div_le_self _ _
  have m2 : numS T b ≤ b := Nat.div_le_self _ _
  rw [show shD S a = .tup [.int (numS S a : Nat), .int (denS S a : Nat)] from rfl, show shD T b = .tup [.int (numS T b : Nat), .int (denS T b : Nat)] from rfl]
  simp_arith! [m__law_times]
  refine ⟨by rcases ha with z | z; exact mulOk_l (by omega) (by omega); exact mulOk_r (by omega) (by omega), mulOk_r (by omega) (by omega), ?_⟩
  rw [sh_mulI, sh_mulI, cl_eq (law_fraction_eq _ _ c hD0 (by omega))]
  simp_arith
  show shD _ _ = _
  refine shD_eq hD0 (Nat.mul_pos hS hT) ?_
  generalize numS S a = na at *
  generalize numS T b = nb at *
  generalize denS S a = da at *
  generalize denS T b = db at *
  calc (na * nb) * (S * T) = (na * S) * (nb * T) := by ac_rfl
    _ = (a * da) * (b * db) := by rw [n1, n2]
    _ = (a * b) * (da * db) := by ac_rfl
def capN (cr : Cr) (p : Pl) (i : Nat) : Nat := ((capF cr p).getD i 0).toNat
def mixL (cr : Cr) (l : List (Pl × Nat)) (i : Nat) : Nat := (l.map fun p => p.2 * capN cr p.1 i).sum
theorem mixL_snoc (cr : Cr) (l : List (Pl × Nat)) (p : Pl × Nat) (i : Nat) : mixL cr (l ++ [p]) i = mixL cr l i + p.2 * capN cr p.1 i := by
  unfold mixL; rw [List.map_append, List.sum_append]; simp
theorem mixed_eq (cr : Cr) (cuts : List Nat) (c : Src) (h : SmC cr) (hS : 0 < cuts.sum) (hS2 : cuts.sum ≤ 20000) : S_mixed_capacity [eCr cr, .tup (cuts.map (shD cuts.sum))] c = some (.tup ((List.range cr.mv.length).map fun i => shD cuts.sum (mixL cr ((leadP cr).zip cuts) i)), c) := by
  have hg := h.g
  have h6 := hg.le
  have hSS : cuts.sum * cuts.sum < 1000000000 := Nat.lt_of_le_of_lt (Nat.mul_le_mul hS2 hS2) (by decide)
  generalize hSd : cuts.sum = S at *
  simp_arith! [m_mixed_capacity]
  refine wp_compM (enc := eMv) (fun _ => shD S 0) (by omega) (by simp_arith) (fun m _ => by
    simp_arith
    rw [show shD S 0 = shD 1 0 from shD_eq hS (by decide) (by omega), shD_1]
    rfl) ?_
  simp_arith
  rw [cl_eq (caps_eq cr c h)]
  simp_arith
  rw [show (cr.mv.map fun _ => shD S 0) = (List.range cr.mv.length).map fun i => shD S (mixL cr [] i) from List.ext_getElem (by simp) fun i _ _ => by simp [mixL]]
  refine wp_for (enc := fun p : Pl × Nat => D.tup [eT (capF cr p.1), shD S p.2]) (fun done _ s => ∃ (x3 x4 x5 x6 x7 : Option D), s = ⟨[some (.val (eCr cr)), some (.val (.tup (cuts.map (shD S)))), some (.val (.lst ((List.range cr.mv.length).map fun i => shD S (mixL cr done i)))), jv x3, jv x4, jv x5, jv x6, jv x7], c⟩) ⟨none, none, none, none, none, rfl⟩ ?_ ?_
  · rintro done ⟨p, k⟩ rest _ hx ⟨x3, x4, x5, x6, x7, rfl⟩
    have hm := List.of_mem_zip (show (p, k) ∈ (leadP cr).zip cuts by rw [hx]; simp)
    have hP := lead_plan h hm.1
    have hcl := capF_len cr p
    have hkS : k ≤ S := by rw [← hSd]; exact le_sumN hm.2
    simp_arith
    refine wp_compM (enc := fun q : Nat × Int => D.tup [shD S (mixL cr done q.1), .int q.2]) (fun q : Nat × Int => shD S (mixL cr done q.1 + k * q.2.toNat)) (by simp; omega) (by simp_arith) (fun q hq => by
      have hq2 := (List.of_mem_zip (show (q.1, q.2) ∈ _ from hq)).2
      have h0 := capF_nn hg hP q.2 hq2
      have h8 := capF_le hg hP q.2 hq2
      have hl8 := h.l8
      simp_arith
      rw [show D.tup [.int q.2, .int 1] = shD 1 q.2.toNat by rw [shD_1, Int.toNat_of_nonneg h0]]
      rw [cl_eq (mult_sh S 1 k q.2.toNat c hS (by decide) (by omega) (.inl (by omega)))]
      simp_arith
      rw [Nat.mul_one, cl_eq (added_same S _ _ c hS hSS)]
      simp_arith) ?_
    simp_arith
    refine ⟨some (eT (capF cr p)), some (shD S k), x5, x6, x7, ?_⟩
    rw [show ((List.range cr.mv.length).zip (capF cr p)).map (fun q : Nat × Int => shD S (mixL cr done q.1 + k * q.2.toNat)) = (List.range cr.mv.length).map fun i => shD S (mixL cr (done ++ [(p, k)]) i) from List.ext_getElem (by simp; omega) fun i h1 h2 => by
      simp only [List.getElem_map, List.getElem_zip, List.getElem_range, mixL_snoc, capN]
      simp only [List.length_map, List.length_range] at h2
      rw [List.getD_eq_getElem?_getD, List.getElem?_eq_getElem (by omega)]
      rfl]
    rfl
  · rintro _ ⟨x3, x4, x5, x6, x7, rfl⟩
    simp_arith [sm_tupL]
end GW
end

noncomputable section
namespace GW
open GH
theorem spr_ge : ∀ (l : List Nat) (j x : Nat), x ∈ sprS l j → j ≤ x
  | [], _, _, h => by cases h
  | n :: r, j, x, h => by
    unfold sprS at h
    rcases List.mem_append.mp h with h | h
    · rw [List.eq_of_mem_replicate h]; exact Nat.le_refl _
    · have := spr_ge r (j + 1) x h; omega
theorem spr_count : ∀ (l : List Nat) (j i : Nat), (sprS l j).count (j + i) = l.getD i 0
  | [], j, i => by simp [sprS]
  | n :: r, j, 0 => by
    unfold sprS
    have h0 : (sprS r (j + 1)).count j = 0 := List.count_eq_zero.mpr fun h => by have := spr_ge r (j + 1) j h; omega
    rw [List.count_append, Nat.add_zero, List.count_replicate_self, h0]; simp
  | n :: r, j, i + 1 => by
    unfold sprS
    rw [List.count_append, show j + (i + 1) = (j + 1) + i by omega, spr_count r (j + 1) i, List.count_replicate, if_neg (by simp; omega)]; simp
theorem count_castI (x : Nat) : ∀ l : List Nat, (l.map fun j : Nat => (j : Int)).count ((x : Nat) : Int) = l.count x
  | [] => rfl
  | y :: t => by
    rw [List.map_cons, List.count_cons, List.count_cons, count_castI x t]
    by_cases h : y = x
    · subst h; simp
    · have h1 : (y == x) = false := by simpa using h
      have h2 : (((y : Nat) : Int) == ((x : Nat) : Int)) = false := by simp; omega
      rw [h1, h2]
theorem spr_sorted : ∀ (l : List Nat) (j : Nat), (sprS l j).Pairwise (· ≤ ·)
  | [], _ => List.Pairwise.nil
  | n :: r, j => by
    unfold sprS
    refine List.pairwise_append.mpr ⟨?_, spr_sorted r (j + 1), fun a ha b hb => ?_⟩
    · exact List.pairwise_iff_getElem.mpr fun i k h1 h2 _ => by simp
    · have := spr_ge r (j + 1) b hb
      rw [List.eq_of_mem_replicate ha]; omega
theorem isort_spr (l : List Nat) (j : Nat) : isort ((sprS l j).map fun j : Nat => (j : Int)) = (sprS l j).map fun j : Nat => (j : Int) :=
  isort_eq (List.Perm.refl _) (List.pairwise_map.mpr ((spr_sorted l j).imp fun h => by omega))
theorem spr_sum (f : Nat → Nat) : ∀ (l : List Nat) (j : Nat), ((sprS l j).map f).sum = ((l.zipIdx j).map fun p => p.1 * f p.2).sum
  | [], _ => rfl
  | n :: r, j => by
    unfold sprS
    rw [List.map_append, List.sum_append, List.map_replicate, List.sum_replicate_nat, spr_sum f r (j + 1), List.zipIdx_cons, List.map_cons, List.sum_cons]
theorem fg : ∀ (l : List Nat) (a : Nat), (l.foldl Nat.gcd a ∣ a) ∧ ∀ x ∈ l, l.foldl Nat.gcd a ∣ x
  | [], a => ⟨Nat.dvd_refl a, by simp⟩
  | y :: t, a => by
    obtain ⟨h1, h2⟩ := fg t (Nat.gcd a y)
    rw [List.foldl_cons]
    refine ⟨Nat.dvd_trans h1 (Nat.gcd_dvd_left a y), fun x hx => ?_⟩
    rcases List.mem_cons.mp hx with rfl | z
    · exact Nat.dvd_trans h1 (Nat.gcd_dvd_right a x)
    · exact h2 x z
theorem dvd_sumN {g : Nat} : ∀ l : List Nat, (∀ x ∈ l, g ∣ x) → g ∣ l.sum
  | [], _ => by simp
  | y :: t, h => by rw [List.sum_cons]; exact Nat.dvd_add (h y List.mem_cons_self) (dvd_sumN t fun x hx => h x (List.mem_cons_of_mem _ hx))
theorem cnt_gcd {cuts : List Nat} (hS : 0 < cuts.sum) : (cuts.map (cntS cuts)).foldl Nat.gcd 0 = 1 := by
  obtain ⟨_, h2⟩ := fg (cuts.map (cntS cuts)) 0
  generalize (cuts.map (cntS cuts)).foldl Nat.gcd 0 = g at h2 ⊢
  have hF := (fra_ok cuts hS).2.1
  have hg : g ∣ fraS cuts := by rw [← cnt_sum hS]; exact dvd_sumN _ h2
  obtain ⟨F', hF'⟩ := hg
  have hg0 : 0 < g := Nat.pos_of_ne_zero fun e => by rw [hF', e, Nat.zero_mul] at hF; omega
  have hF0 : 0 < F' := Nat.pos_of_ne_zero fun e => by rw [hF', e, Nat.mul_zero] at hF; omega
  have hd : ∀ q ∈ cuts.map (denS cuts.sum), q ∣ F' := fun q hq => by
    obtain ⟨k, hk, rfl⟩ := List.mem_map.mp hq
    obtain ⟨c', hc'⟩ := h2 _ (List.mem_map.mpr ⟨k, hk, rfl⟩)
    have hm := cnt_mul hS hk
    rw [hc', hF'] at hm
    have hgg := Nat.gcd_pos_of_pos_right k hS
    have e1 : denS cuts.sum k * Nat.gcd k cuts.sum = cuts.sum := Nat.div_mul_cancel (Nat.gcd_dvd_right k cuts.sum)
    have e2 : numS cuts.sum k * Nat.gcd k cuts.sum = k := Nat.div_mul_cancel (Nat.gcd_dvd_left k cuts.sum)
    have hco : Nat.Coprime (numS cuts.sum k) (denS cuts.sum k) := Nat.coprime_div_gcd_div_gcd hgg
    have e3 : c' * denS cuts.sum k = numS cuts.sum k * F' := by
      have e4 : (g * Nat.gcd k cuts.sum) * (c' * denS cuts.sum k) = (g * Nat.gcd k cuts.sum) * (numS cuts.sum k * F') := by
        calc (g * Nat.gcd k cuts.sum) * (c' * denS cuts.sum k) = g * c' * (denS cuts.sum k * Nat.gcd k cuts.sum) := by ac_rfl
          _ = g * c' * cuts.sum := by rw [e1]
          _ = k * (g * F') := hm
          _ = (numS cuts.sum k * Nat.gcd k cuts.sum) * (g * F') := by rw [e2]
          _ = (g * Nat.gcd k cuts.sum) * (numS cuts.sum k * F') := by ac_rfl
      exact Nat.eq_of_mul_eq_mul_left (Nat.mul_pos hg0 hgg) e4
    exact hco.symm.dvd_of_dvd_mul_left ⟨c', by rw [← e3, Nat.mul_comm]⟩
  have hl := (lcF_ok (S := F') (cuts.map (denS cuts.sum)) 1 hd (Nat.one_dvd _)).1
  have hle : fraS cuts ≤ F' := Nat.le_of_dvd hF0 hl
  rw [hF'] at hle
  have : g * F' ≤ 1 * F' := by rw [Nat.one_mul]; exact hle
  have := Nat.le_of_mul_le_mul_right this hF0
  omega
theorem cnt_frac {cuts : List Nat} (hS : 0 < cuts.sum) {k : Nat} (hk : k ∈ cuts) : shD (fraS cuts) (cntS cuts k) = shD cuts.sum k := shD_eq (fra_ok cuts hS).2.1 hS (cnt_mul hS hk)
theorem shD_0 {e : Nat} (he : 0 < e) : shD e 0 = .tup [.int 0, .int 1] := by
  rw [show shD e 0 = shD 1 0 from shD_eq he (by decide) (by omega), shD_1]; rfl
def wideS (u e m : Nat) : List Nat := u :: (e - u) :: List.replicate (m - 2) 0
theorem wide_sum {u e m : Nat} (h : u ≤ e) : (wideS u e m).sum = e := by
  unfold wideS
  rw [List.sum_cons, List.sum_cons, List.sum_replicate_nat, Nat.mul_zero]; omega
theorem wide_cnt {u e m : Nat} (hu : 0 < u) (h : u ≤ e) : (wideS u e m).map (cntS (wideS u e m)) = (u / Nat.gcd u e) :: ((e - u) / Nat.gcd u e) :: List.replicate (m - 2) 0 := by
  have hs := wide_sum (m := m) h
  have he : 0 < e := by omega
  have hg : Nat.gcd (e - u) e = Nat.gcd u e := Nat.gcd_self_sub_left h
  have d1 : denS e u = e / Nat.gcd u e := rfl
  have d2 : denS e (e - u) = e / Nat.gcd u e := by unfold denS; rw [hg]
  have d3 : denS e 0 = 1 := by unfold denS; rw [Nat.gcd_zero_left, Nat.div_self he]
  have dp : 0 < e / Nat.gcd u e := by rw [← d1]; exact den_pos he
  have hF : fraS (wideS u e m) = e / Nat.gcd u e := by
    unfold fraS
    rw [hs]
    obtain ⟨a, _, b⟩ := lcF_ok (S := e / Nat.gcd u e) ((wideS u e m).map (denS e)) 1 (fun q hq => by
      obtain ⟨k, hk, rfl⟩ := List.mem_map.mp hq
      unfold wideS at hk
      simp only [List.mem_cons, List.mem_replicate] at hk
      rcases hk with rfl | rfl | ⟨_, rfl⟩
      · rw [d1]; exact Nat.dvd_refl _
      · rw [d2]; exact Nat.dvd_refl _
      · rw [d3]; exact Nat.one_dvd _) (Nat.one_dvd _)
    exact Nat.dvd_antisymm a (b _ (List.mem_map.mpr ⟨u, by unfold wideS; simp, d1⟩))
  have c1 : cntS (wideS u e m) u = u / Nat.gcd u e := by
    unfold cntS; rw [hs, hF, d1, Nat.div_self dp, Nat.mul_one]; rfl
  have c2 : cntS (wideS u e m) (e - u) = (e - u) / Nat.gcd u e := by
    unfold cntS; rw [hs, hF, d2, Nat.div_self dp, Nat.mul_one]; unfold numS; rw [hg]
  have c3 : cntS (wideS u e m) 0 = 0 := by
    unfold cntS numS; rw [Nat.zero_div, Nat.zero_mul]
  conv => lhs; arg 2; unfold wideS
  rw [List.map_cons, List.map_cons, List.map_replicate, c1, c2, c3]
theorem sum_castN {α : Type} (f : α → Nat) : ∀ l : List α, (l.map fun k => ((f k : Nat) : Int)).sum = ((l.map f).sum : Nat)
  | [] => rfl
  | x :: r => by rw [List.map_cons, List.sum_cons, sum_castN f r, List.map_cons, List.sum_cons]; push_cast; rfl
theorem round_let {cr : Cr} {cuts : List Nat} (hS : 0 < cuts.sum) (hl : cuts.length = (leadP cr).length) (i : Nat) : mixL cr ((leadP cr).zip cuts) i * fraS cuts = cuts.sum * ((sprS (cuts.map (cntS cuts)) 0).map fun j : Nat => capN cr (nth (leadP cr) (j : Int)) i).sum := by
  rw [spr_sum]
  have key : ∀ (ps : List Pl) (cs : List Nat) (off : Nat), cs.length = ps.length → (∀ c ∈ cs, c ∈ cuts) → (∀ j, j < ps.length → nth (leadP cr) ((off + j : Nat) : Int) = ps.getD j []) → mixL cr (ps.zip cs) i * fraS cuts = cuts.sum * (((cs.map (cntS cuts)).zipIdx off).map fun p => p.1 * capN cr (nth (leadP cr) (p.2 : Int)) i).sum := fun ps => by
    induction ps with
    | nil => intro cs off h _ _; rw [List.length_nil] at h; rw [List.eq_nil_of_length_eq_zero h]; simp [mixL]
    | cons p t ih =>
      intro cs off h hc hn
      match cs, h with
      | k :: r, h =>
        have h0 := hn 0 (by simp)
        have ih' := ih r (off + 1) (by simpa using h) (fun c hc' => hc c (List.mem_cons_of_mem _ hc')) fun j hj => by
          have := hn (j + 1) (by simp; omega)
          rw [show off + 1 + j = off + (j + 1) by omega, this]; rfl
        have hm := cnt_mul hS (hc k List.mem_cons_self)
        unfold mixL at ih' ⊢
        rw [List.zip_cons_cons, List.map_cons, List.sum_cons, Nat.add_mul, ih', List.map_cons, List.zipIdx_cons, List.map_cons, List.sum_cons, Nat.mul_add]
        congr 1
        rw [Nat.add_zero] at h0
        simp only [h0, List.getD_cons_zero]
        calc k * capN cr p i * fraS cuts = (k * fraS cuts) * capN cr p i := by ac_rfl
          _ = (cntS cuts k * cuts.sum) * capN cr p i := by rw [hm]
          _ = cuts.sum * (cntS cuts k * capN cr p i) := by ac_rfl
  exact key (leadP cr) cuts 0 hl (fun _ h => h) fun j hj => by
    rw [Nat.zero_add]
    have := nth_get (xs := leadP cr) (j := (j : Int)) (by omega) (by omega)
    rw [Int.toNat_natCast] at this
    rw [List.getD_eq_getElem?_getD, this]; rfl
end GW
end

noncomputable section
namespace GW
open GH
theorem lead_ne {cr : Cr} (h : SmC cr) : 1 ≤ (leadP cr).length := by
  have h3 := h.l0
  obtain ⟨q, hq, _⟩ := lead_above' h (Us_up (by omega) _ _ (nil_Us cr (stg cr.cx cr.mv.length).length))
  exact List.length_pos_of_mem hq
def lapC : M Out :=
 (sSeq (sFor (iRg1 (eCall lenG (aCons (eBin ixD (eVar 3) (eC (.int 0))) aNil))) (gN 15)
 (sSeq (sSet 16 (eCall sumG (aCons (eLst (eComp [20] (gN 20) (ret true) (eBin ixD (eBin ixD (eBin ixD (eVar 4) (eVar 20)) (eC (.int 1))) (eVar 15)) (iSeq (eVar 7)))) aNil)))
 (sIf (tst (eBin neD (eFn S__law_times (aCons (eBin ixD (eVar 8) (eVar 15)) (aCons (eTup (aCons (eVar 9) (aCons (eC (.int 1)) aNil))) aNil))) (eTup (aCons (eVar 16) (aCons (eC (.int 1)) aNil)))))
 (sRet (eC (.bl false)))
 sNx)))
 (sSeq (sIf (tst (eBin neD (eLst (eCallL lstG (aCons (eFn S_leading_capacities (aCons (eVar 3) aNil)) aNil))) (eLst (eComp [21] (gN 21) (ret true) (eBin ixD (eVar 21) (eC (.int 1))) (iSeq (eVar 4))))))
 (sRet (eC (.bl false)))
 sNx)
 (sSeq (sSet 17 (eFn S_leading_plans (aCons (eVar 3) aNil)))
 (sSeq (sSet 18 (eSl (eLst (eComp [20] (gN 20) (ret true) (eBin ixD (eVar 17) (eVar 20)) (iSeq (eBin addX (eVar 7) (eSlX (eVar 7) oNo (oAt (eC (.int 1)))))))) oNo (oAt (eC (.int 14)))))
 (sSeq (sSet 19 (eFn S_lamp_rows (aCons (eVar 3) (aCons (eVar 18) aNil))))
 (sIf (tOr2 (tst (eBin notND (eFn S_judge_lamps (aCons (eVar 3) (aCons (eVar 19) aNil))) (eC .non))) (tst (eBin notND (eFn S__law_lamp_fault (aCons (eVar 3) (aCons (eVar 19) aNil))) (eC .non))))
 (sRet (eC (.bl false)))
 sNx))))))
def lapB : M Out :=
 (sSeq (sSet 3 (eFn S__law_one_crossing (aCons (eVar 1) aNil)))
 (sSeq (sSet 4 (eFn S__law_leading (aCons (eVar 3) aNil)))
 (sSeq (sSet 5 (eFn S__law_draw_shares (aCons (eVar 1) (aCons (eCall lenG (aCons (eVar 4) aNil)) aNil))))
 (sSeq (sPar [6, 7] (pVal (eFn S_round_counts (aCons (eVar 3) (aCons (eVar 5) aNil))) (pVal (eFn S_spread_round (aCons (eVar 3) (aCons (eVar 5) aNil))) pNil)))
 (sSeq (sPar [8, 9] (pVal (eFn S_mixed_capacity (aCons (eVar 3) (aCons (eVar 5) aNil))) (pVal (eCall lenG (aCons (eVar 7) aNil)) pNil)))
 (sSeq (sIf (tOr2 (tst (eBin neD (eCall sumG (aCons (eVar 6) aNil)) (eVar 9))) (tst (eBin neD (eLst (eComp [20] (gN 20) (ret true) (eBin cntX (eVar 7) (eVar 20)) (iRg1 (eCall lenG (aCons (eVar 4) aNil))))) (eLst (eCallL lstG (aCons (eVar 6) aNil))))))
 (sRet (eC (.bl false)))
 sNx)
 (sSeq (sIf (tOr2 (tst (eBin neD (eLst (eComp [11] (gN 11) (ret true) (eFn S__law_fraction (aCons (eVar 11) (aCons (eVar 9) aNil))) (iSeq (eVar 6)))) (eLst (eCallL lstG (aCons (eVar 5) aNil))))) (tst (eBin neD (eLst (eCallL lstX (aCons (eVar 7) aNil))) (eLst (eCallL srtG (aCons (eLst (eCallL lstX (aCons (eVar 7) aNil))) aNil))))))
 (sRet (eC (.bl false)))
 sNx)
 (sSeq (sSet 10 (eC (.int 0)))
 (sSeq (sFor (iSeq (eVar 6)) (gN 11)
 (sSet 10 (eFn S__law_common (aCons (eVar 10) (aCons (eVar 11) aNil)))))
 (sSeq (sIf (tst (eBin neD (eVar 10) (eC (.int 1))))
 (sRet (eC (.bl false)))
 sNx)
 (sSeq (sIf (tst (eBin gtD (eCall lenG (aCons (eVar 4) aNil)) (eC (.int 1))))
 (sSeq (sPar [12, 13] (pVal (eBin addD (eC (.int 1)) (eFn S__law_pick (aCons (eVar 1) (aCons (eBin powD (eC (.int 10)) (eC (.int 8))) aNil)))) (pVal (eBin addD (eBin addD (eBin powD (eC (.int 10)) (eC (.int 8))) (eC (.int 7))) (eFn S__law_pick (aCons (eVar 1) (aCons (eBin powD (eC (.int 10)) (eC (.int 8))) aNil)))) pNil)))
 (sSeq (sSet 14 (eBin addD (eTup (aCons (eFn S__law_fraction (aCons (eVar 12) (aCons (eVar 13) aNil))) (aCons (eFn S__law_fraction (aCons (eBin subD (eVar 13) (eVar 12)) (aCons (eVar 13) aNil))) aNil))) (eCall tupG (aCons (eBin mulD (eLst (lDisp (aCons (eTup (aCons (eC (.int 0)) (aCons (eC (.int 1)) aNil))) aNil))) (eBin subD (eCall lenG (aCons (eVar 4) aNil)) (eC (.int 2)))) aNil))))
 (sSeq (sSet 10 (eFn S__law_common (aCons (eVar 12) (aCons (eVar 13) aNil))))
 (sIf (tst (eBin neD (eFn S_round_counts (aCons (eVar 3) (aCons (eVar 14) aNil))) (eBin addD (eTup (aCons (eBin fdivD (eVar 12) (eVar 10)) (aCons (eBin fdivD (eBin subD (eVar 13) (eVar 12)) (eVar 10)) aNil))) (eBin mulD (eTup (aCons (eC (.int 0)) aNil)) (eBin subD (eCall lenG (aCons (eVar 4) aNil)) (eC (.int 2)))))))
 (sRet (eC (.bl false)))
 sNx))))
 sNx)
 lapC)))))))))))
theorem m_law_is : m_law = sSeq (sFor (iRg1 (eC (.int 3))) (gN 2) lapB) (sRet (eC (.bl true))) := rfl
def eLd (cr : Cr) : D := .lst ((leadP cr).map fun p => D.tup [ePl p, eT (capF cr p)])
def rowI (cuts : List Nat) : List Int := (sprS (cuts.map (cntS cuts)) 0).map fun j : Nat => (j : Int)
theorem rowI_len {cuts : List Nat} (hS : 0 < cuts.sum) : (rowI cuts).length = fraS cuts := by
  unfold rowI; rw [List.length_map, spr_len, cnt_sum hS]
theorem ok_shs (S : Nat) (cuts : List Nat) : (D.lst (cuts.map (shD S))).ok := (D.okN_lst (n := 1) fun d hd => by
  obtain ⟨k, _, rfl⟩ := List.mem_map.mp hd
  exact D.okN_tup (n := 0) fun e he => by
    simp only [List.mem_cons, List.not_mem_nil, or_false] at he
    rcases he with rfl | rfl <;> exact D.okN_int _).ok
theorem nth_rangeN (n i : Nat) (h : i < n) : nth (List.range n) (i : Int) = i := by
  have h2 := nth_get (xs := List.range n) (j := (i : Int)) (by omega) (by rw [List.length_range]; omega)
  rw [Int.toNat_natCast, List.getElem?_range h] at h2
  exact (Option.some.inj h2).symm
theorem ok_sh (S a : Nat) : (shD S a).ok := (D.okN_tup (n := 0) fun e he => by
  simp only [List.mem_cons, List.not_mem_nil, or_false] at he
  rcases he with rfl | rfl <;> exact D.okN_int _).ok
theorem whole1 {n : Nat} (h : 1 ≤ n) : wholeX n none (some 1) = decide (n = 1) := by
  unfold wholeX HT.sIx
  by_cases h1 : n = 1
  · subst h1; decide
  · rw [decide_eq_false h1]
    simp
    omega
theorem add_row {xs : List Int} (hx : xs ≠ []) {P : D → Prop} : Sm (addX (.tpx xs) (if wholeX xs.length none (some 1) then .tpx xs else .tup (cutL (xs.map D.int) none (some 1)))) P ↔ xs.length + 1 ≤ PySem.sizeLine ∧ P (.tup ((xs ++ xs.take 1).map D.int)) := by
  have hl := List.length_pos_iff.mpr hx
  rw [whole1 hl]
  by_cases h1 : xs.length = 1
  · rw [decide_eq_true h1, if_pos rfl, sm_addXY hx hx, List.take_of_length_le (by omega), h1]
  · have h2 : xs.take 1 ≠ [] := fun e => by have := congrArg List.length e; rw [List.length_take, List.length_nil] at this; omega
    rw [decide_eq_false h1, if_neg (by simp), cutL_map, cutL_to (by decide), sm_addXX hx (by simpa using h2), List.length_map, List.length_take, List.map_append]
    rw [show min (Int.toNat 1) xs.length = 1 by have : Int.toNat 1 = 1 := rfl; omega]
    rfl
theorem lapC_ok (cr : Cr) (cuts : List Nat) (h0 : CrOk 4 cr) (h : SmC cr) (hl : cuts.length = (leadP cr).length) (hS : 0 < cuts.sum) (hS2 : cuts.sum ≤ 20000) (x2 x10 x11 x12 x13 x14 x15 x16 x17 x18 x19 x20 x21 : Option D) (c : Src) :
    Wp lapC ⟨[none, some (.val .src), jv x2, some (.val (eCr cr)), some (.val (eLd cr)), some (.val (.tup (cuts.map (shD cuts.sum)))), some (.val (.tup (cuts.map fun k => D.int (cntS cuts k : Nat)))), some (.val (.tpx (rowI cuts))), some (.val (.tup ((List.range cr.mv.length).map fun i => shD cuts.sum (mixL cr ((leadP cr).zip cuts) i)))), some (.val (.int (fraS cuts : Nat))), jv x10, jv x11, jv x12, jv x13, jv x14, jv x15, jv x16, jv x17, jv x18, jv x19, jv x20, jv x21], c⟩ fun o s' => o = Out.nx ∧ LawI 20 s' := by
  have hg := h.g
  have h6 := hg.le
  have h8 := h.l8
  have hll := lead_lens h
  have hlf := lead_few h h0.le
  obtain ⟨f1, f2, _⟩ := fra_ok cuts hS
  have hFS : fraS cuts ≤ cuts.sum := Nat.le_of_dvd hS f1
  have hrl := rowI_len hS
  have hrm : ∀ j ∈ rowI cuts, 0 ≤ j ∧ j < (leadP cr).length := fun j hj => by
    obtain ⟨k, hk, rfl⟩ := List.mem_map.mp hj
    have := spr_mem _ _ _ hk
    rw [List.length_map] at this
    omega
  have hrow : sprS (cuts.map (cntS cuts)) 0 = (rowI cuts).map Int.toNat := by
    unfold rowI; rw [List.map_map]; symm
    exact (List.map_congr_left fun x _ => by simp).trans (List.map_id _)
  unfold lapC
  simp_arith
  refine ⟨okR_of (by omega) (by omega), ?_⟩
  rw [Int.toNat_natCast]
  refine wp_for (enc := fun k : Nat => D.int (k : Nat)) (fun _ _ s => ∃ (x15 x16 x17 x18 x19 x20 x21 : Option D), s = ⟨[none, some (.val .src), jv x2, some (.val (eCr cr)), some (.val (eLd cr)), some (.val (.tup (cuts.map (shD cuts.sum)))), some (.val (.tup (cuts.map fun k => D.int (cntS cuts k : Nat)))), some (.val (.tpx (rowI cuts))), some (.val (.tup ((List.range cr.mv.length).map fun i => shD cuts.sum (mixL cr ((leadP cr).zip cuts) i)))), some (.val (.int (fraS cuts : Nat))), jv x10, jv x11, jv x12, jv x13, jv x14, jv x15, jv x16, jv x17, jv x18, jv x19, jv x20, jv x21], c⟩) ⟨x15, x16, x17, x18, x19, x20, x21, rfl⟩ ?_ ?_
  · rintro done i rest _ hx ⟨x15, x16, x17, x18, x19, x20, x21, rfl⟩
    have hi : i < cr.mv.length := (range_at' hx).2
    unfold eLd
    simp_arith
    refine wp_compM (enc := D.int) (fun j : Int => D.int (capN cr (nth (leadP cr) j) i : Nat)) (by omega) (by simp_arith) (fun j hj => by
      obtain ⟨j0, j1⟩ := hrm j hj
      have hP := lead_plan h (nth_mem (xs := leadP cr) j0 j1)
      have hcl := capF_len cr (nth (leadP cr) j)
      have hnn := capF_nn hg hP _ (nth_mem (xs := capF cr (nth (leadP cr) j)) (j := (i : Int)) (by omega) (by omega))
      simp_arith
      rw [at_nth (xs := leadP cr) j0 j1]
      simp_arith
      rw [at_nth (xs := capF cr (nth (leadP cr) j)) (by omega) (by omega)]
      simp_arith
      rw [show ((capN cr (nth (leadP cr) j) i : Nat) : Int) = nth (capF cr (nth (leadP cr) j)) (i : Int) from by
        unfold capN
        rw [show (capF cr (nth (leadP cr) j)).getD i 0 = nth (capF cr (nth (leadP cr) j)) (i : Int) from rfl]
        omega]) ?_
    simp_arith [sm_sumL (f := fun j : Int => ((capN cr (nth (leadP cr) j) i : Nat) : Int))]
    rw [sum_castN]
    generalize hL : ((rowI cuts).map fun j : Int => capN cr (nth (leadP cr) j) i).sum = L
    rw [at_nth (xs := List.range cr.mv.length) (by omega) (by simp; omega)]
    simp_arith
    rw [nth_rangeN _ _ hi, show D.tup [.int (fraS cuts : Nat), .int 1] = shD 1 (fraS cuts) from (shD_1 _).symm, cl_eq (law_times_sh cuts.sum 1 _ _ c hS (by decide) (by omega) (.inr (by omega)))]
    simp_arith
    have hrt := round_let (cr := cr) hS hl i
    rw [show ((sprS (cuts.map (cntS cuts)) 0).map fun j : Nat => capN cr (nth (leadP cr) (j : Int)) i).sum = L by rw [← hL]; unfold rowI; rw [List.map_map]; rfl] at hrt
    rw [hrt, Nat.mul_one, show shD cuts.sum (cuts.sum * L) = shD 1 L from shD_eq hS (by decide) (by rw [Nat.mul_one, Nat.mul_comm]), show D.tup [.int (L : Nat), .int 1] = shD 1 L from (shD_1 _).symm, sm_neS (ok_sh 1 L)]
    simp_arith
    exact ⟨some (.int (i : Nat)), some (.int (L : Nat)), x17, x18, x19, x20, x21, rfl⟩
  · rintro _ ⟨x15, x16, x17, x18, x19, x20, x21, rfl⟩
    unfold eLd
    simp_arith
    rw [cl_eq (caps_eq cr c h)]
    simp_arith
    refine wp_compM (enc := fun p : Pl => D.tup [ePl p, eT (capF cr p)]) (fun p => eT (capF cr p)) (by omega) (by simp_arith) (fun p _ => by simp_arith) ?_
    try simp_arith
    rw [sm_neS ((D.okN_lst (n := 1) fun d hd => by
      obtain ⟨p, _, rfl⟩ := List.mem_map.mp hd
      exact okN_intsT _).ok)]
    simp_arith
    rw [cl_eq (plans_eq cr c h)]
    simp_arith
    have hF1 : 1 ≤ (rowI cuts).length := by omega
    have hRne : rowI cuts ≠ [] := List.length_pos_iff.mp hF1
    rw [add_row hRne]
    refine ⟨by unfold PySem.sizeLine; omega, ?_⟩
    simp_arith
    have hrm2 : ∀ j ∈ rowI cuts ++ (rowI cuts).take 1, 0 ≤ j ∧ j < (leadP cr).length := fun j hj => by
      rcases List.mem_append.mp hj with z | z
      · exact hrm j z
      · exact hrm j (List.mem_of_mem_take z)
    refine wp_compM (enc := D.int) (fun j : Int => ePl (nth (leadP cr) j)) (by simp; omega) (by simp_arith) (fun j hj => by
      obtain ⟨j0, j1⟩ := hrm2 j hj
      simp_arith
      rw [at_nth (xs := leadP cr) j0 j1]
      simp_arith) ?_
    simp_arith
    rw [show ((rowI cuts ++ (rowI cuts).take 1).map fun j : Int => ePl (nth (leadP cr) j)) = ((rowI cuts ++ (rowI cuts).take 1).map fun j : Int => nth (leadP cr) j).map ePl by rw [List.map_map]; rfl, cutL_map, cutL_to (by decide)]
    have hpp : ∀ p ∈ ((rowI cuts ++ (rowI cuts).take 1).map fun j : Int => nth (leadP cr) j).take (Int.toNat 14), PlanG cr p := fun p hp => by
      obtain ⟨j, hj, rfl⟩ := List.mem_map.mp (List.mem_of_mem_take hp)
      obtain ⟨j0, j1⟩ := hrm2 j hj
      exact lead_plan h (nth_mem (xs := leadP cr) j0 j1)
    have hplen : (((rowI cuts ++ (rowI cuts).take 1).map fun j : Int => nth (leadP cr) j).take (Int.toNat 14)).length ≤ 14 := by rw [List.length_take]; have : Int.toNat 14 = 14 := rfl; omega
    generalize ((rowI cuts ++ (rowI cuts).take 1).map fun j : Int => nth (leadP cr) j).take (Int.toNat 14) = plans at hpp hplen ⊢
    have hl0 := h.l0
    have hrl := lamps_len hg hpp
    have hrow : ∀ row ∈ lampsF cr plans, Lot cr.cx cr.mv.length row := fun row hr => by
      obtain ⟨p, hpm, hm⟩ := List.mem_flatMap.mp hr
      have hq := hpp p hpm
      rcases List.mem_append.mp hm with z | z
      · exact some_row hg (fun q h => ⟨(hq.inn q h).1, (hq.inn q h).2.1⟩) row z
      · rw [List.eq_of_mem_replicate z]; exact lot_nil _ _
    have hrr : ∀ row ∈ lampsF cr plans, ∀ i ∈ row, 0 ≤ i ∧ i < (cr.mv.length : Int) := fun row h => (hrow row h).inn
    have hrll : (lampsF cr plans).length ≤ 200 := by
      have h1 : (plans.length : Int) * cr.len ≤ 14 * cr.len := Int.mul_le_mul_of_nonneg_right (by omega) (by omega)
      omega
    have hjl := judge_lamps_eq cr (.lst ((lampsF cr plans).map eT)) (lampsF cr plans) c hg (rowsD_lst _) hrr
    have hfl := law_fault_eq cr (lampsF cr plans) c hg (by omega) (fun row h => by have := (hrow row h).len; omega) hrr
    rw [lamps_fault hg hpp] at hjl hfl
    rw [cl_eq (lamp_rows_eq cr plans c hg (by omega) (by omega) hpp (by omega))]
    simp_arith
    rw [cl_eq hjl]
    simp_arith
    rw [cl_eq hfl]
    simp_arith
    refine LawI.of rfl ?_
    simp_arith
theorem lap_ok {s : S} (hI : LawI 20 s) : Wp lapB s fun o s' => o = .nx ∧ LawI 20 s' := by
  obtain ⟨ys1, c, rfl, hys1⟩ := hI.open_
  obtain ⟨x2, ys2, rfl, hys2⟩ := uncons hys1
  obtain ⟨x3, ys3, rfl, hys3⟩ := uncons hys2
  obtain ⟨x4, ys4, rfl, hys4⟩ := uncons hys3
  obtain ⟨x5, ys5, rfl, hys5⟩ := uncons hys4
  obtain ⟨x6, ys6, rfl, hys6⟩ := uncons hys5
  obtain ⟨x7, ys7, rfl, hys7⟩ := uncons hys6
  obtain ⟨x8, ys8, rfl, hys8⟩ := uncons hys7
  obtain ⟨x9, ys9, rfl, hys9⟩ := uncons hys8
  obtain ⟨x10, ys10, rfl, hys10⟩ := uncons hys9
  obtain ⟨x11, ys11, rfl, hys11⟩ := uncons hys10
  obtain ⟨x12, ys12, rfl, hys12⟩ := uncons hys11
  obtain ⟨x13, ys13, rfl, hys13⟩ := uncons hys12
  obtain ⟨x14, ys14, rfl, hys14⟩ := uncons hys13
  obtain ⟨x15, ys15, rfl, hys15⟩ := uncons hys14
  obtain ⟨x16, ys16, rfl, hys16⟩ := uncons hys15
  obtain ⟨x17, ys17, rfl, hys17⟩ := uncons hys16
  obtain ⟨x18, ys18, rfl, hys18⟩ := uncons hys17
  obtain ⟨x19, ys19, rfl, hys19⟩ := uncons hys18
  obtain ⟨x20, ys20, rfl, hys20⟩ := uncons hys19
  obtain ⟨x21, ys21, rfl, hys21⟩ := uncons hys20
  obtain rfl := unnil hys21
  simp only [List.map_cons, List.map_nil]
  clear hI hys1 hys2 hys3 hys4 hys5 hys6 hys7 hys8 hys9 hys10 hys11 hys12 hys13 hys14 hys15 hys16 hys17 hys18 hys19 hys20 hys21
  unfold lapB
  simp_arith
  refine (one_crossing_cl c).mono fun d c1 ⟨cr, h0, e⟩ => ?_
  subst e
  have h : SmC cr := cr_sm h0
  have hg := h.g
  have h6 := hg.le
  have hll := lead_lens h
  have hlf := lead_few h h0.le
  have hln := lead_ne h
  simp_arith
  rw [cl_eq (law_leading_eq cr c1 h)]
  simp_arith [List.length_map]
  refine (draw_shares_cl (leadP cr).length c1 (by omega) (by omega)).mono fun d c2 ⟨cuts, hl, hS, hS2, e⟩ => ?_
  subst e
  obtain ⟨f1, f2, f3⟩ := fra_ok cuts hS
  have hFS : fraS cuts ≤ cuts.sum := Nat.le_of_dvd hS f1
  simp_arith
  rw [cl_eq (counts_eq cr cuts c2 hS (by omega) (by omega))]
  simp_arith
  rw [cl_eq (spread_eq cr cuts c2 hS (by omega) (by omega))]
  simp_arith
  rw [cl_eq (mixed_eq cr cuts c2 h hS (by omega)), show ((sprS (cuts.map (cntS cuts)) 0).map fun j : Nat => (j : Int)) = rowI cuts from rfl]
  simp_arith
  have hrl := rowI_len hS
  rw [hrl]
  have hcN : ∀ k ∈ cuts, cntS cuts k ≤ fraS cuts := fun k hk => by
    rw [← cnt_sum hS]
    exact le_sumN (List.mem_map.mpr ⟨k, hk, rfl⟩)
  refine ⟨fun _ => ?_, fun hne => absurd (by rw [sum_castN, cnt_sum hS]) hne⟩
  refine ⟨okR_of (by omega) (by rw [List.length_map]; omega), ?_⟩
  rw [Int.toNat_natCast, List.length_map]
  refine wp_compM (enc := fun k : Nat => D.int (k : Nat)) (fun j : Nat => D.int ((rowI cuts).count ((j : Nat) : Int) : Nat)) (by rw [List.length_range]; omega) (by simp_arith) (fun j _ => by simp_arith) ?_
  rw [show (List.range (leadP cr).length).map (fun j : Nat => D.int ((rowI cuts).count ((j : Nat) : Int) : Nat)) = cuts.map fun k => D.int (cntS cuts k : Nat) from List.ext_getElem (by simp [hl]) fun i g1 g2 => by
    simp only [List.getElem_map, List.getElem_range]
    simp only [List.length_map] at g2
    congr 2
    unfold rowI
    have := spr_count (cuts.map (cntS cuts)) 0 i
    rw [Nat.zero_add] at this
    rw [count_castI, this, List.getD_eq_getElem?_getD, List.getElem?_map, List.getElem?_eq_getElem g2]
    rfl]
  simp_arith
  rw [sm_neS ((D.okN_lst (n := 0) fun d hd => by
    obtain ⟨k, _, rfl⟩ := List.mem_map.mp hd
    exact D.okN_int _).ok)]
  simp_arith
  refine wp_compM (enc := fun k : Nat => D.int (cntS cuts k : Nat)) (fun k => shD cuts.sum k) (by omega) (by simp_arith) (fun k hk => by
    simp_arith
    rw [cl_eq (law_fraction_eq (cntS cuts k) (fraS cuts) c2 f2 (by omega)), show D.tup [.int (numS (fraS cuts) (cntS cuts k) : Nat), .int (denS (fraS cuts) (cntS cuts k) : Nat)] = shD (fraS cuts) (cntS cuts k) from rfl, cnt_frac hS hk]
    simp_arith) ?_
  simp_arith
  rw [sm_neS (ok_shs _ _)]
  simp_arith
  refine ⟨by omega, ?_⟩
  rw [show isort (rowI cuts) = rowI cuts from isort_spr _ _]
  refine ⟨fun _ => ?_, fun hne => absurd rfl hne⟩
  refine wp_for (enc := fun k : Nat => D.int (cntS cuts k : Nat)) (fun done _ s => ∃ (x11 : Option D), s = ⟨[none, some (.val .src), jv x2, some (.val (eCr cr)), some (.val (.lst ((leadP cr).map fun p => D.tup [ePl p, eT (capF cr p)]))), some (.val (.tup (cuts.map (shD cuts.sum)))), some (.val (.tup (cuts.map fun k => D.int (cntS cuts k : Nat)))), some (.val (.tpx (rowI cuts))), some (.val (.tup ((List.range cr.mv.length).map fun i => shD cuts.sum (mixL cr ((leadP cr).zip cuts) i)))), some (.val (.int (fraS cuts : Nat))), some (.val (.int ((done.map (cntS cuts)).foldl Nat.gcd 0 : Nat))), jv x11, jv x12, jv x13, jv x14, jv x15, jv x16, jv x17, jv x18, jv x19, jv x20, jv x21], c2⟩) ⟨x11, rfl⟩ ?_ ?_
  · rintro done k rest _ hx ⟨x11, rfl⟩
    simp_arith
    rw [cl_eq (common_eq _ _ c2)]
    simp_arith
    refine ⟨some (.int (cntS cuts k : Nat)), ?_⟩
    rw [List.map_append, List.foldl_append]
    rfl
  · rintro _ ⟨x11, rfl⟩
    rw [cnt_gcd hS]
    simp_arith
    have hp8 : powD (.int 10) (.int 8) = some (.int 100000000) := by rfl
    refine ⟨fun _ => ⟨fun hlt => ?_, fun hge => ?_⟩, fun hne => absurd rfl hne⟩
    · rw [sm_eq hp8]
      simp_arith
      refine cl_pick (by decide) (by decide) fun u0 c3 hu0 hu0' => ?_
      obtain ⟨u1, rfl⟩ := Int.eq_ofNat_of_zero_le hu0
      simp_arith
      rw [sm_eq hp8]
      simp_arith
      rw [sm_eq hp8]
      simp_arith
      refine cl_pick (by decide) (by decide) fun e0 c4 he0 he0' => ?_
      obtain ⟨e1, rfl⟩ := Int.eq_ofNat_of_zero_le he0
      simp_arith
      obtain ⟨u, hu⟩ : ∃ u, u = 1 + u1 := ⟨_, rfl⟩
      obtain ⟨e, he⟩ : ∃ e, e = 100000007 + e1 := ⟨_, rfl⟩
      rw [show (1 : Int) + (u1 : Int) = (u : Int) by omega, show (100000000 : Int) + 7 + (e1 : Int) = (e : Int) by omega]
      have hue : u < e := by omega
      have hu0 : 0 < u := by omega
      have he9 : e ≤ 1000000000 := by omega
      rw [List.length_map] at hlt
      obtain ⟨m2, hm2⟩ : ∃ m2, (leadP cr).length = m2 + 2 := ⟨(leadP cr).length - 2, by omega⟩
      clear hu he hu0' he0'
      rw [cl_eq (law_fraction_eq u e c4 (by omega) (by omega))]
      simp_arith
      rw [show ((e : Int) - (u : Int)) = ((e - u : Nat) : Int) by omega, cl_eq (law_fraction_eq (e - u) e c4 (by omega) (by omega))]
      simp_arith
      rw [List.length_map, show (((leadP cr).length : Nat) : Int) - 2 = (m2 : Int) by omega, Int.toNat_natCast, List.flatten_replicate_singleton]
      refine ⟨⟨by omega, by omega, by simp; omega⟩, ?_⟩
      simp_arith [sm_tupL]
      refine ⟨by simp; omega, ?_⟩
      rw [cl_eq (common_eq u e c4)]
      simp_arith
      have hws := wide_sum (m := m2 + 2) (Nat.le_of_lt hue)
      have hwc := wide_cnt (m := m2 + 2) hu0 (Nat.le_of_lt hue)
      have hgp := Nat.gcd_pos_of_pos_left e hu0
      have hgl : Nat.gcd u e ≤ u := Nat.le_of_dvd hu0 (Nat.gcd_dvd_left u e)
      have hwl : (wideS u e (m2 + 2)).length = m2 + 2 := by unfold wideS; simp
      rw [show D.tup (D.tup [.int (numS e u : Nat), .int (denS e u : Nat)] :: D.tup [.int (numS e (e - u) : Nat), .int (denS e (e - u) : Nat)] :: List.replicate m2 (D.tup [.int 0, .int 1])) = D.tup ((wideS u e (m2 + 2)).map (shD (wideS u e (m2 + 2)).sum)) by
        rw [hws, ← shD_0 (show 0 < e by omega)]
        conv => rhs; unfold wideS
        rw [List.map_cons, List.map_cons, List.map_replicate]
        rfl]
      rw [cl_eq (counts_eq cr (wideS u e (m2 + 2)) c4 (by omega) (by omega) (by omega))]
      simp_arith
      rw [show ((wideS u e (m2 + 2)).map fun k => D.int (cntS (wideS u e (m2 + 2)) k : Nat)) = D.int (u / Nat.gcd u e : Nat) :: D.int ((e - u) / Nat.gcd u e : Nat) :: List.replicate m2 (D.int 0) by
        have := congrArg (List.map fun k : Nat => D.int (k : Nat)) hwc
        rw [List.map_map, List.map_cons, List.map_cons, List.map_replicate] at this
        exact this]
      refine ⟨divOk (by omega) (by omega) (by omega), divOk (by omega) (by omega) (by omega), ?_⟩
      rw [show ((e : Int) - (u : Int)) = ((e - u : Nat) : Int) by omega, fdiv_nat, fdiv_nat, List.length_map, show (((leadP cr).length : Nat) : Int) - 2 = (m2 : Int) by omega, sm_eq (show mulD (.tup [.int 0]) (.int (m2 : Int)) = some (.tup (List.replicate m2 (.int 0))) by
        show (if -2 ^ 63 ≤ (m2 : Int) ∧ (m2 : Int) ≤ 1000 ∧ [D.int 0].length ≤ 1000 then some (D.tup (List.replicate (m2 : Int).toNat [D.int 0]).flatten) else none) = _
        rw [if_pos ⟨by omega, by omega, by simp⟩, Int.toNat_natCast, List.flatten_replicate_singleton])]
      simp_arith
      refine ⟨by simp; omega, ?_⟩
      rw [sm_neS ((D.okN_tup (n := 0) fun d hd => by
        simp only [List.mem_cons, List.mem_replicate] at hd
        rcases hd with rfl | rfl | ⟨_, rfl⟩ <;> exact D.okN_int _).ok)]
      simp_arith
      exact lapC_ok cr cuts h0 h hl hS (by omega) x2 (some (.int (Nat.gcd u e : Nat))) x11 (some (.int (u : Nat))) (some (.int (e : Nat))) (some (.tup ((wideS u e (m2 + 2)).map (shD (wideS u e (m2 + 2)).sum)))) x15 x16 x17 x18 x19 x20 x21 c4
    · exact lapC_ok cr cuts h0 h hl hS (by omega) _ (some (.int ((1 : Nat) : Int))) _ _ _ _ _ _ _ _ _ _ _ _
theorem plain_law : ∀ src, ∃ s', m_law ⟨lawEnv 22 1, src⟩ = some (.ret (.bl true), s') := fun src => by
  refine law_ok ?_
  rw [m_law_is]
  simp_arith
  refine ⟨okR_of (by omega) (by omega), ?_⟩
  refine wp_for (fun _ _ st => LawI 20 st) (lawI_start 20 src) (fun done x rest s _ hI => ?_) fun s hI => ?_
  · obtain ⟨xs, c, rfl, hxs⟩ := hI.open_
    obtain ⟨x2, xs, rfl, hxs⟩ := uncons hxs
    simp_arith [List.map_cons]
    refine (lap_ok (LawI.of (by simpa using hxs) ?_)).mono fun o s' ⟨h1, h2⟩ => by subst h1; exact h2
    simp_arith
    have : ∀ ys : List (Option D), AllV (ys.map jv) := fun ys => by
      induction ys with
      | nil => trivial
      | cons y t ih => exact ⟨⟨y, rfl⟩, ih⟩
    exact this xs
  · obtain ⟨xs, c, rfl, hxs⟩ := hI.open_
    simp_arith
end GW
end

noncomputable section
namespace GW
open PySem PySem.Spec PyProof.Rows L2 GH
theorem facts (ok : ∀ src, ∃ s', m_law ⟨lawEnv 22 1, src⟩ = some (.ret (.bl true), s')) {P : Program} {w : World} {K : PySem.W.Frag} {h : Heap} {mg : Str → Option Value} (X : K.In h) (G : h.Ns mainGlobals mg) (c : He.SaysD fcs dfs K) (h_gcd : mg "gcd" = some (.builtin "math.gcd")) (base : Heap) : FnW P w K mg base 11 "law" (spLaw K) := by
  obtain ⟨fd_do_cross, D_do_cross⟩ := c.def_ 0 (d := d_do_cross) rfl
  obtain ⟨fd_clearance, D_clearance⟩ := c.def_ 1 (d := d_clearance) rfl
  obtain ⟨fd_free_sets, D_free_sets⟩ := c.def_ 2 (d := d_free_sets) rfl
  obtain ⟨fd_is_full, D_is_full⟩ := c.def_ 3 (d := d_is_full) rfl
  obtain ⟨fd_stages, D_stages⟩ := c.def_ 4 (d := d_stages) rfl
  obtain ⟨fd_clear_ticks, D_clear_ticks⟩ := c.def_ 5 (d := d_clear_ticks) rfl
  obtain ⟨fd_need_of, D_need_of⟩ := c.def_ 6 (d := d_need_of) rfl
  obtain ⟨fd_capacity_of, D_capacity_of⟩ := c.def_ 7 (d := d_capacity_of) rfl
  obtain ⟨fd_is_above, D_is_above⟩ := c.def_ 8 (d := d_is_above) rfl
  obtain ⟨fd_fraction, D_fraction⟩ := c.def_ 9 (d := d_fraction) rfl
  obtain ⟨fd_added, D_added⟩ := c.def_ 10 (d := d_added) rfl
  obtain ⟨fd_multiplied, D_multiplied⟩ := c.def_ 11 (d := d_multiplied) rfl
  obtain ⟨fd_useful_plans, D_useful_plans⟩ := c.def_ 12 (d := d_useful_plans) rfl
  obtain ⟨fd_choice_key, D_choice_key⟩ := c.def_ 13 (d := d_choice_key) rfl
  obtain ⟨fd_leading_table, D_leading_table⟩ := c.def_ 14 (d := d_leading_table) rfl
  obtain ⟨fd_leading_plans, D_leading_plans⟩ := c.def_ 15 (d := d_leading_plans) rfl
  obtain ⟨fd_leading_capacities, D_leading_capacities⟩ := c.def_ 16 (d := d_leading_capacities) rfl
  obtain ⟨fd_mixed_capacity, D_mixed_capacity⟩ := c.def_ 17 (d := d_mixed_capacity) rfl
  obtain ⟨fd_frames_of, D_frames_of⟩ := c.def_ 18 (d := d_frames_of) rfl
  obtain ⟨fd_round_counts, D_round_counts⟩ := c.def_ 19 (d := d_round_counts) rfl
  obtain ⟨fd_spread_round, D_spread_round⟩ := c.def_ 20 (d := d_spread_round) rfl
  obtain ⟨fd_greens, D_greens⟩ := c.def_ 21 (d := d_greens) rfl
  obtain ⟨fd_lamps_at, D_lamps_at⟩ := c.def_ 22 (d := d_lamps_at) rfl
  obtain ⟨fd_lamp_rows, D_lamp_rows⟩ := c.def_ 23 (d := d_lamp_rows) rfl
  obtain ⟨fd_first_crossed, D_first_crossed⟩ := c.def_ 24 (d := d_first_crossed) rfl
  obtain ⟨fd_first_early, D_first_early⟩ := c.def_ 25 (d := d_first_early) rfl
  obtain ⟨fd_judge_lamps, D_judge_lamps⟩ := c.def_ 26 (d := d_judge_lamps) rfl
  obtain ⟨fd__law_open_cells, D__law_open_cells⟩ := c.def_ 27 (d := d__law_open_cells) rfl
  obtain ⟨fd__law_pick, D__law_pick⟩ := c.def_ 28 (d := d__law_pick) rfl
  obtain ⟨fd__law_any_order, D__law_any_order⟩ := c.def_ 29 (d := d__law_any_order) rfl
  obtain ⟨fd__law_common, D__law_common⟩ := c.def_ 30 (d := d__law_common) rfl
  obtain ⟨fd__law_fraction, D__law_fraction⟩ := c.def_ 31 (d := d__law_fraction) rfl
  obtain ⟨fd__law_times, D__law_times⟩ := c.def_ 32 (d := d__law_times) rfl
  obtain ⟨fd__law_clearance, D__law_clearance⟩ := c.def_ 33 (d := d__law_clearance) rfl
  obtain ⟨fd__law_crosses_one, D__law_crosses_one⟩ := c.def_ 34 (d := d__law_crosses_one) rfl
  obtain ⟨fd__law_stages, D__law_stages⟩ := c.def_ 35 (d := d__law_stages) rfl
  obtain ⟨fd__law_clearing, D__law_clearing⟩ := c.def_ 36 (d := d__law_clearing) rfl
  obtain ⟨fd__law_draw_crossing, D__law_draw_crossing⟩ := c.def_ 37 (d := d__law_draw_crossing) rfl
  obtain ⟨fd__law_one_crossing, D__law_one_crossing⟩ := c.def_ 38 (d := d__law_one_crossing) rfl
  obtain ⟨fd__law_useful, D__law_useful⟩ := c.def_ 39 (d := d__law_useful) rfl
  obtain ⟨fd__law_is_least, D__law_is_least⟩ := c.def_ 40 (d := d__law_is_least) rfl
  obtain ⟨fd__law_leading, D__law_leading⟩ := c.def_ 41 (d := d__law_leading) rfl
  obtain ⟨fd__law_draw_shares, D__law_draw_shares⟩ := c.def_ 42 (d := d__law_draw_shares) rfl
  obtain ⟨fd__law_lamp_fault, D__law_lamp_fault⟩ := c.def_ 43 (d := d__law_lamp_fault) rfl
  obtain ⟨fd_law, D_law⟩ := c.def_ 44 (d := d_law) rfl
  have g_do_cross := He.glo_ok X G (c.fact 0 (f := .glo "do_cross") rfl)
  have g_clearance := He.glo_ok X G (c.fact 1 (f := .glo "clearance") rfl)
  have g_free_sets := He.glo_ok X G (c.fact 2 (f := .glo "free_sets") rfl)
  have g_is_full := He.glo_ok X G (c.fact 3 (f := .glo "is_full") rfl)
  have g_stages := He.glo_ok X G (c.fact 4 (f := .glo "stages") rfl)
  have g_clear_ticks := He.glo_ok X G (c.fact 5 (f := .glo "clear_ticks") rfl)
  have g_need_of := He.glo_ok X G (c.fact 6 (f := .glo "need_of") rfl)
  have g_capacity_of := He.glo_ok X G (c.fact 7 (f := .glo "capacity_of") rfl)
  have g_is_above := He.glo_ok X G (c.fact 8 (f := .glo "is_above") rfl)
  have g_fraction := He.glo_ok X G (c.fact 9 (f := .glo "fraction") rfl)
  have g_added := He.glo_ok X G (c.fact 10 (f := .glo "added") rfl)
  have g_multiplied := He.glo_ok X G (c.fact 11 (f := .glo "multiplied") rfl)
  have g_useful_plans := He.glo_ok X G (c.fact 12 (f := .glo "useful_plans") rfl)
  have g_choice_key := He.glo_ok X G (c.fact 13 (f := .glo "choice_key") rfl)
  have g_leading_table := He.glo_ok X G (c.fact 14 (f := .glo "leading_table") rfl)
  have g_leading_plans := He.glo_ok X G (c.fact 15 (f := .glo "leading_plans") rfl)
  have g_leading_capacities := He.glo_ok X G (c.fact 16 (f := .glo "leading_capacities") rfl)
  have g_mixed_capacity := He.glo_ok X G (c.fact 17 (f := .glo "mixed_capacity") rfl)
  have g_frames_of := He.glo_ok X G (c.fact 18 (f := .glo "frames_of") rfl)
  have g_round_counts := He.glo_ok X G (c.fact 19 (f := .glo "round_counts") rfl)
  have g_spread_round := He.glo_ok X G (c.fact 20 (f := .glo "spread_round") rfl)
  have g_greens := He.glo_ok X G (c.fact 21 (f := .glo "greens") rfl)
  have g_lamps_at := He.glo_ok X G (c.fact 22 (f := .glo "lamps_at") rfl)
  have g_lamp_rows := He.glo_ok X G (c.fact 23 (f := .glo "lamp_rows") rfl)
  have g_first_crossed := He.glo_ok X G (c.fact 24 (f := .glo "first_crossed") rfl)
  have g_first_early := He.glo_ok X G (c.fact 25 (f := .glo "first_early") rfl)
  have g_judge_lamps := He.glo_ok X G (c.fact 26 (f := .glo "judge_lamps") rfl)
  have g__law_open_cells := He.glo_ok X G (c.fact 27 (f := .glo "_law_open_cells") rfl)
  have g__law_pick := He.glo_ok X G (c.fact 28 (f := .glo "_law_pick") rfl)
  have g__law_any_order := He.glo_ok X G (c.fact 29 (f := .glo "_law_any_order") rfl)
  have g__law_common := He.glo_ok X G (c.fact 30 (f := .glo "_law_common") rfl)
  have g__law_fraction := He.glo_ok X G (c.fact 31 (f := .glo "_law_fraction") rfl)
  have g__law_times := He.glo_ok X G (c.fact 32 (f := .glo "_law_times") rfl)
  have g__law_clearance := He.glo_ok X G (c.fact 33 (f := .glo "_law_clearance") rfl)
  have g__law_crosses_one := He.glo_ok X G (c.fact 34 (f := .glo "_law_crosses_one") rfl)
  have g__law_stages := He.glo_ok X G (c.fact 35 (f := .glo "_law_stages") rfl)
  have g__law_clearing := He.glo_ok X G (c.fact 36 (f := .glo "_law_clearing") rfl)
  have g__law_draw_crossing := He.glo_ok X G (c.fact 37 (f := .glo "_law_draw_crossing") rfl)
  have g__law_one_crossing := He.glo_ok X G (c.fact 38 (f := .glo "_law_one_crossing") rfl)
  have g__law_useful := He.glo_ok X G (c.fact 39 (f := .glo "_law_useful") rfl)
  have g__law_is_least := He.glo_ok X G (c.fact 40 (f := .glo "_law_is_least") rfl)
  have g__law_leading := He.glo_ok X G (c.fact 41 (f := .glo "_law_leading") rfl)
  have g__law_draw_shares := He.glo_ok X G (c.fact 42 (f := .glo "_law_draw_shares") rfl)
  have g__law_lamp_fault := He.glo_ok X G (c.fact 43 (f := .glo "_law_lamp_fault") rfl)
  have g_law := He.glo_ok X G (c.fact 44 (f := .glo "law") rfl)
  have h_abs := He.free_ok X G (c.fact 45 (f := .free "abs") rfl)
  have h_all := He.free_ok X G (c.fact 46 (f := .free "all") rfl)
  have h_any := He.free_ok X G (c.fact 47 (f := .free "any") rfl)
  have h_enumerate := He.free_ok X G (c.fact 48 (f := .free "enumerate") rfl)
  have h_int := He.free_ok X G (c.fact 49 (f := .free "int") rfl)
  have h_len := He.free_ok X G (c.fact 50 (f := .free "len") rfl)
  have h_list := He.free_ok X G (c.fact 51 (f := .free "list") rfl)
  have h_max := He.free_ok X G (c.fact 52 (f := .free "max") rfl)
  have h_range := He.free_ok X G (c.fact 53 (f := .free "range") rfl)
  have h_sorted := He.free_ok X G (c.fact 54 (f := .free "sorted") rfl)
  have h_sum := He.free_ok X G (c.fact 55 (f := .free "sum") rfl)
  have h_tuple := He.free_ok X G (c.fact 56 (f := .free "tuple") rfl)
  have h_zip := He.free_ok X G (c.fact 57 (f := .free "zip") rfl)
  have F_do_cross : Fn P w K mg base 1 "do_cross" 3 S_do_cross := w_do_cross D_do_cross g_do_cross (h_any := h_any)
  have F_clearance : Fn P w K mg base 1 "clearance" 3 S_clearance := w_clearance D_clearance g_clearance
  have F_free_sets : Fn P w K mg base 2 "free_sets" 1 S_free_sets := w_free_sets D_free_sets g_free_sets (h_any := h_any) (h_len := h_len) (h_range := h_range) (F_do_cross := F_do_cross)
  have F_is_full : Fn P w K mg base 2 "is_full" 2 S_is_full := w_is_full D_is_full g_is_full (h_all := h_all) (h_any := h_any) (h_len := h_len) (h_range := h_range) (F_do_cross := F_do_cross)
  have F_stages : Fn P w K mg base 3 "stages" 1 S_stages := w_stages D_stages g_stages (h_sorted := h_sorted) (h_tuple := h_tuple) (F_free_sets := F_free_sets) (F_is_full := F_is_full)
  have F_clear_ticks : Fn P w K mg base 4 "clear_ticks" 2 S_clear_ticks := w_clear_ticks D_clear_ticks g_clear_ticks (h_len := h_len) (h_max := h_max) (h_range := h_range) (F_clearance := F_clearance) (F_stages := F_stages)
  have F_need_of : Fn P w K mg base 5 "need_of" 2 S_need_of := w_need_of D_need_of g_need_of (h_sum := h_sum) (F_clear_ticks := F_clear_ticks)
  have F_capacity_of : Fn P w K mg base 4 "capacity_of" 2 S_capacity_of := w_capacity_of D_capacity_of g_capacity_of (h_tuple := h_tuple) (F_stages := F_stages)
  have F_is_above : Fn P w K mg base 1 "is_above" 2 S_is_above := w_is_above D_is_above g_is_above (h_all := h_all) (h_zip := h_zip)
  have F_fraction : Fn P w K mg base 1 "fraction" 2 S_fraction := w_fraction D_fraction g_fraction (h_gcd := h_gcd)
  have F_added : Fn P w K mg base 2 "added" 2 S_added := w_added D_added g_added (F_fraction := F_fraction)
  have F_multiplied : Fn P w K mg base 2 "multiplied" 2 S_multiplied := w_multiplied D_multiplied g_multiplied (F_fraction := F_fraction)
  have F_useful_plans : Fn P w K mg base 6 "useful_plans" 1 S_useful_plans := w_useful_plans D_useful_plans g_useful_plans (h_len := h_len) (h_range := h_range) (F_clear_ticks := F_clear_ticks) (F_need_of := F_need_of) (F_stages := F_stages)
  have F_choice_key : Fn P w K mg base 6 "choice_key" 2 S_choice_key := w_choice_key D_choice_key g_choice_key (h_len := h_len) (F_need_of := F_need_of)
  have F_leading_table : Fn P w K mg base 7 "leading_table" 1 S_leading_table := w_leading_table D_leading_table g_leading_table (h_any := h_any) (h_list := h_list) (F_capacity_of := F_capacity_of) (F_choice_key := F_choice_key) (F_is_above := F_is_above) (F_useful_plans := F_useful_plans)
  have F_leading_plans : Fn P w K mg base 8 "leading_plans" 1 S_leading_plans := w_leading_plans D_leading_plans g_leading_plans (h_list := h_list) (h_sorted := h_sorted) (h_tuple := h_tuple) (F_leading_table := F_leading_table)
  have F_leading_capacities : Fn P w K mg base 9 "leading_capacities" 1 S_leading_capacities := w_leading_capacities D_leading_capacities g_leading_capacities (h_tuple := h_tuple) (F_capacity_of := F_capacity_of) (F_leading_plans := F_leading_plans)
  have F_mixed_capacity : Fn P w K mg base 10 "mixed_capacity" 2 S_mixed_capacity := w_mixed_capacity D_mixed_capacity g_mixed_capacity (h_tuple := h_tuple) (h_zip := h_zip) (F_added := F_added) (F_leading_capacities := F_leading_capacities) (F_multiplied := F_multiplied)
  have F_frames_of : Fn P w K mg base 2 "frames_of" 1 S_frames_of := w_frames_of D_frames_of g_frames_of (F_fraction := F_fraction)
  have F_round_counts : Fn P w K mg base 3 "round_counts" 2 S_round_counts := w_round_counts D_round_counts g_round_counts (h_tuple := h_tuple) (F_frames_of := F_frames_of)
  have F_spread_round : Fn P w K mg base 4 "spread_round" 2 S_spread_round := w_spread_round D_spread_round g_spread_round (h_enumerate := h_enumerate) (h_tuple := h_tuple) (F_round_counts := F_round_counts)
  have F_greens : Fn P w K mg base 5 "greens" 2 S_greens := w_greens D_greens g_greens (h_sorted := h_sorted) (h_tuple := h_tuple) (F_clear_ticks := F_clear_ticks) (F_stages := F_stages)
  have F_lamps_at : Fn P w K mg base 6 "lamps_at" 3 S_lamps_at := w_lamps_at D_lamps_at g_lamps_at (h_tuple := h_tuple) (F_greens := F_greens)
  have F_lamp_rows : Fn P w K mg base 7 "lamp_rows" 2 S_lamp_rows := w_lamp_rows D_lamp_rows g_lamp_rows (h_range := h_range) (F_lamps_at := F_lamps_at)
  have F_first_crossed : Fn P w K mg base 2 "first_crossed" 2 S_first_crossed := w_first_crossed D_first_crossed g_first_crossed (h_enumerate := h_enumerate) (F_do_cross := F_do_cross)
  have F_first_early : Fn P w K mg base 2 "first_early" 2 S_first_early := w_first_early D_first_early g_first_early (h_enumerate := h_enumerate) (h_sorted := h_sorted) (F_clearance := F_clearance) (F_do_cross := F_do_cross)
  have F_judge_lamps : Fn P w K mg base 3 "judge_lamps" 2 S_judge_lamps := w_judge_lamps D_judge_lamps g_judge_lamps (F_first_crossed := F_first_crossed) (F_first_early := F_first_early)
  have F_open : FnW P w K mg base 10 "_law_open_cells" (spOpen K) := w__law_open_cells (k := 9) D__law_open_cells g__law_open_cells (h_abs := h_abs) (h_int := h_int)
  have F__law_pick : Fn P w K mg base 1 "_law_pick" 2 S__law_pick := w__law_pick D__law_pick g__law_pick (h_int := h_int) (h_len := h_len)
  have F__law_any_order : Fn P w K mg base 2 "_law_any_order" 2 S__law_any_order := w__law_any_order D__law_any_order g__law_any_order (h_len := h_len) (h_list := h_list) (h_range := h_range) (F__law_pick := F__law_pick)
  have F__law_common : Fn P w K mg base 1 "_law_common" 2 S__law_common := w__law_common D__law_common g__law_common (h_abs := h_abs) (h_int := h_int)
  have F__law_fraction : Fn P w K mg base 2 "_law_fraction" 2 S__law_fraction := w__law_fraction D__law_fraction g__law_fraction (F__law_common := F__law_common)
  have F__law_times : Fn P w K mg base 3 "_law_times" 2 S__law_times := w__law_times D__law_times g__law_times (F__law_fraction := F__law_fraction)
  have F__law_clearance : Fn P w K mg base 1 "_law_clearance" 3 S__law_clearance := w__law_clearance D__law_clearance g__law_clearance
  have F__law_crosses_one : Fn P w K mg base 2 "_law_crosses_one" 3 S__law_crosses_one := w__law_crosses_one D__law_crosses_one g__law_crosses_one (h_any := h_any) (F__law_clearance := F__law_clearance)
  have F__law_stages : Fn P w K mg base 3 "_law_stages" 1 S__law_stages := w__law_stages D__law_stages g__law_stages (h_all := h_all) (h_len := h_len) (h_range := h_range) (h_sorted := h_sorted) (h_tuple := h_tuple) (F__law_crosses_one := F__law_crosses_one)
  have F__law_clearing : Fn P w K mg base 2 "_law_clearing" 2 S__law_clearing := w__law_clearing D__law_clearing g__law_clearing (h_len := h_len) (h_max := h_max) (h_range := h_range) (F__law_clearance := F__law_clearance)
  have F__law_draw_crossing : Fn P w K mg base 3 "_law_draw_crossing" 4 S__law_draw_crossing := w__law_draw_crossing D__law_draw_crossing g__law_draw_crossing (h_int := h_int) (h_len := h_len) (h_range := h_range) (h_tuple := h_tuple) (F__law_any_order := F__law_any_order) (F__law_pick := F__law_pick)
  have F__law_one_crossing : Fn P w K mg base 4 "_law_one_crossing" 1 S__law_one_crossing := w__law_one_crossing D__law_one_crossing g__law_one_crossing (F__law_draw_crossing := F__law_draw_crossing) (F__law_pick := F__law_pick)
  have F__law_useful : Fn P w K mg base 4 "_law_useful" 1 S__law_useful := w__law_useful D__law_useful g__law_useful (h_enumerate := h_enumerate) (h_int := h_int) (h_range := h_range) (h_tuple := h_tuple) (F__law_clearing := F__law_clearing) (F__law_stages := F__law_stages)
  have F__law_is_least : Fn P w K mg base 1 "_law_is_least" 2 S__law_is_least := w__law_is_least D__law_is_least g__law_is_least (h_all := h_all) (h_zip := h_zip)
  have F__law_leading : Fn P w K mg base 5 "_law_leading" 1 S__law_leading := w__law_leading D__law_leading g__law_leading (h_any := h_any) (h_len := h_len) (h_sorted := h_sorted) (F__law_is_least := F__law_is_least) (F__law_useful := F__law_useful)
  have F__law_draw_shares : Fn P w K mg base 3 "_law_draw_shares" 2 S__law_draw_shares := w__law_draw_shares D__law_draw_shares g__law_draw_shares (h_range := h_range) (h_sum := h_sum) (h_tuple := h_tuple) (F__law_fraction := F__law_fraction) (F__law_pick := F__law_pick)
  have F__law_lamp_fault : Fn P w K mg base 2 "_law_lamp_fault" 2 S__law_lamp_fault := w__law_lamp_fault D__law_lamp_fault g__law_lamp_fault (h_enumerate := h_enumerate) (h_list := h_list) (h_sorted := h_sorted) (F__law_clearance := F__law_clearance)
  exact w_law D_law g_law (h_len := h_len) (h_list := h_list) (h_range := h_range) (h_sorted := h_sorted) (h_sum := h_sum) (h_tuple := h_tuple) (F__law_common := F__law_common) (F__law_draw_shares := F__law_draw_shares) (F__law_fraction := F__law_fraction) (F__law_lamp_fault := F__law_lamp_fault) (F__law_leading := F__law_leading) (F__law_one_crossing := F__law_one_crossing) (F__law_pick := F__law_pick) (F__law_times := F__law_times) (F_judge_lamps := F_judge_lamps) (F_lamp_rows := F_lamp_rows) (F_leading_capacities := F_leading_capacities) (F_leading_plans := F_leading_plans) (F_mixed_capacity := F_mixed_capacity) (F_round_counts := F_round_counts) (F_spread_round := F_spread_round) (F_open := F_open) ok
end GW
open PySem PySem.W PySem.Calls PyProof.Rows
theorem PySem.Challenge.cw_greenheld_k40_whole_rounds_of_shares_holds : PySem.Challenge.rw_greenheld_k40_whole_rounds_of_shares.Holds :=
  GW.pre fun P w K h mg X G c hg base => GW.facts GW.plain_law X G c hg base
end
