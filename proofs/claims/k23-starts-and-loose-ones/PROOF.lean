import PyProof.Rows.All
import Wide.All
import OpenK.AllK
import Wide.FinOn
import KE.KStateDown
import HandS.ForMost
import HandS.Defaults
import PySem.Challenge.RW_fewspeak_k23_starts_and_loose_ones_throw
import HandS.Lambda
import HandS.Evl
import HandS.Walk
import HandS.Zip
import HandS.Wide
import HandS.IsInst
import HandS.Deep
import HandS.Conv
import HandS.Style
import HandS.Steps
import HandS.More
import HandS.WordsExc
import HandS.Head0
import HandS.Head1
import HandS.Head2
import HandS.HeadEnd
import HandS.HeadHook1
import HandS.HeadHook2
import HandS.HeadHook3
import HandS.HeadHook4
import HandS.HeadWalk
set_option Elab.async false
set_option linter.all false
set_option maxRecDepth 100000
set_option maxHeartbeats 0
/-! the text by places; by gen_head.py -/
namespace Fk
open PySem PySem.Spec PyProof.Rows L2
def topS (i : Nat) : Stmt := PySem.Challenge.pw_fewspeak_k23_starts_and_loose_ones_throw.main.body.getD i (.Pass ⟨0, 0, 0, 0⟩)
abbrev s_divisor : Stmt := topS 6
abbrev s_share : Stmt := topS 7
abbrev s_times : Stmt := topS 8
abbrev s_Node_is_told : Stmt := inClass (topS 10) 0
abbrev s_Node_kept : Stmt := inClass (topS 10) 1
abbrev s_Node_sides : Stmt := inClass (topS 10) 2
abbrev s_Node_parts : Stmt := inClass (topS 10) 3
abbrev s_Told_init : Stmt := inClass (topS 11) 0
abbrev s_Told_is_told : Stmt := inClass (topS 11) 1
abbrev s_Told_kept : Stmt := inClass (topS 11) 2
abbrev s_Die_init : Stmt := inClass (topS 12) 0
abbrev s_Die_sides : Stmt := inClass (topS 12) 1
abbrev s_Die_parts : Stmt := inClass (topS 12) 2
abbrev s_Die_after : Stmt := inClass (topS 12) 3
abbrev s_drawn : Stmt := topS 13
abbrev s_is_whole : Stmt := topS 15
abbrev s_size_left : Stmt := topS 19
abbrev s_wished : Stmt := topS 20
abbrev s_Plan_matrix : Stmt := inClass (topS 21) 1
abbrev s_places_of : Stmt := topS 22
abbrev s_start_part : Stmt := topS 23
abbrev s_Start_init : Stmt := inClass (topS 24) 0
abbrev s_Start_node : Stmt := inClass (topS 24) 1
abbrev s_Start_chance : Stmt := inClass (topS 24) 2
abbrev s_Start_bounds : Stmt := inClass (topS 24) 3
abbrev s_Start_text : Stmt := inClass (topS 24) 4
abbrev s_loose_die : Stmt := topS 25
abbrev s_loose_node : Stmt := topS 26
abbrev s_wished_of : Stmt := topS 27
abbrev s_Loose_init : Stmt := inClass (topS 28) 0
abbrev s_Loose_node : Stmt := inClass (topS 28) 1
abbrev s_Loose_matrix : Stmt := inClass (topS 28) 2
abbrev s_Loose_bounds : Stmt := inClass (topS 28) 3
abbrev s_Loose_text : Stmt := inClass (topS 28) 4
abbrev s__law_cell : Stmt := topS 30
abbrev s__law_mix : Stmt := topS 31
abbrev s__law_row : Stmt := topS 32
abbrev s__law_whole : Stmt := topS 33
abbrev s__law_low : Stmt := topS 34
abbrev s__law_times : Stmt := topS 35
abbrev s__law_fraction : Stmt := topS 36
abbrev s__law_matrix : Stmt := topS 37
abbrev s__law_crowd : Stmt := topS 38
abbrev s__law_wished : Stmt := topS 39
abbrev s__law_thrown : Stmt := topS 40
abbrev s__law_loose : Stmt := topS 41
abbrev s__law_start : Stmt := topS 42
abbrev s__law_both : Stmt := topS 43
abbrev s__law_steps : Stmt := topS 44
abbrev s__law_right : Stmt := topS 45
abbrev s_law : Stmt := topS 46
abbrev n_divisor : List Str := ["one", "other"]
theorem c_divisor : FnScope n_divisor ["one", "other"] (defScope s_divisor) := ⟨rfl, rfl, rfl, by decide +kernel, rfl, by decide +kernel, by decide +kernel⟩
abbrev n_share : List Str := ["top", "bottom", "many"]
theorem c_share : FnScope n_share ["top", "bottom"] (defScope s_share) := ⟨rfl, rfl, rfl, by decide +kernel, rfl, by decide +kernel, by decide +kernel⟩
abbrev n_times : List Str := ["one", "other"]
theorem c_times : FnScope n_times ["one", "other"] (defScope s_times) := ⟨rfl, rfl, rfl, by decide +kernel, rfl, by decide +kernel, by decide +kernel⟩
abbrev n_Node_is_told : List Str := ["self"]
theorem c_Node_is_told : FnScope n_Node_is_told ["self"] (defScope s_Node_is_told) := ⟨rfl, rfl, rfl, by decide +kernel, rfl, by decide +kernel, by decide +kernel⟩
abbrev n_Node_kept : List Str := ["self"]
theorem c_Node_kept : FnScope n_Node_kept ["self"] (defScope s_Node_kept) := ⟨rfl, rfl, rfl, by decide +kernel, rfl, by decide +kernel, by decide +kernel⟩
abbrev n_Node_sides : List Str := ["self"]
theorem c_Node_sides : FnScope n_Node_sides ["self"] (defScope s_Node_sides) := ⟨rfl, rfl, rfl, by decide +kernel, rfl, by decide +kernel, by decide +kernel⟩
abbrev n_Node_parts : List Str := ["self"]
theorem c_Node_parts : FnScope n_Node_parts ["self"] (defScope s_Node_parts) := ⟨rfl, rfl, rfl, by decide +kernel, rfl, by decide +kernel, by decide +kernel⟩
abbrev n_Told_init : List Str := ["self", "kept"]
theorem c_Told_init : FnScope n_Told_init ["self", "kept"] (defScope s_Told_init) := ⟨rfl, rfl, rfl, by decide +kernel, rfl, by decide +kernel, by decide +kernel⟩
abbrev n_Told_is_told : List Str := ["self"]
theorem c_Told_is_told : FnScope n_Told_is_told ["self"] (defScope s_Told_is_told) := ⟨rfl, rfl, rfl, by decide +kernel, rfl, by decide +kernel, by decide +kernel⟩
abbrev n_Told_kept : List Str := ["self"]
theorem c_Told_kept : FnScope n_Told_kept ["self"] (defScope s_Told_kept) := ⟨rfl, rfl, rfl, by decide +kernel, rfl, by decide +kernel, by decide +kernel⟩
abbrev n_Die_init : List Str := ["self", "parts"]
theorem c_Die_init : FnScope n_Die_init ["self", "parts"] (defScope s_Die_init) := ⟨rfl, rfl, rfl, by decide +kernel, rfl, by decide +kernel, by decide +kernel⟩
abbrev n_Die_sides : List Str := ["self", "many", "make"]
theorem c_Die_sides : FnScope n_Die_sides ["self"] (defScope s_Die_sides) := ⟨rfl, rfl, rfl, by decide +kernel, rfl, by decide +kernel, by decide +kernel⟩
abbrev n_Die_parts : List Str := ["self", "many", "make"]
theorem c_Die_parts : FnScope n_Die_parts ["self"] (defScope s_Die_parts) := ⟨rfl, rfl, rfl, by decide +kernel, rfl, by decide +kernel, by decide +kernel⟩
abbrev n_Die_after : List Str := ["self", "throw", "many", "make"]
theorem c_Die_after : FnScope n_Die_after ["self", "throw"] (defScope s_Die_after) := ⟨rfl, rfl, rfl, by decide +kernel, rfl, by decide +kernel, by decide +kernel⟩
abbrev n_drawn : List Str := ["node", "throws", "place", "throw"]
theorem c_drawn : FnScope n_drawn ["node", "throws"] (defScope s_drawn) := ⟨rfl, rfl, rfl, by decide +kernel, rfl, by decide +kernel, by decide +kernel⟩
abbrev n_is_whole : List Str := ["thing", "low", "high"]
theorem c_is_whole : FnScope n_is_whole ["thing", "low", "high"] (defScope s_is_whole) := ⟨rfl, rfl, rfl, by decide +kernel, rfl, by decide +kernel, by decide +kernel⟩
abbrev n_size_left : List Str := ["sizes", "aside", "at", "size"]
theorem c_size_left : FnScope n_size_left ["sizes", "aside"] (defScope s_size_left) := ⟨rfl, rfl, rfl, by decide +kernel, rfl, by decide +kernel, by decide +kernel⟩
abbrev n_wished : List Str := ["sizes", "many", "aside", "more", "total", "at", "found", "size"]
theorem c_wished : FnScope n_wished ["sizes", "many"] (defScope s_wished) := ⟨rfl, rfl, rfl, by decide +kernel, rfl, by decide +kernel, by decide +kernel⟩
abbrev n_Plan_matrix : List Str := ["self", "crowd", "one", "other"]
theorem c_Plan_matrix : FnScope n_Plan_matrix ["self", "crowd"] (defScope s_Plan_matrix) := ⟨rfl, rfl, rfl, by decide +kernel, rfl, by decide +kernel, by decide +kernel⟩
abbrev n_places_of : List Str := ["crowd", "place", "size", "path"]
theorem c_places_of : FnScope n_places_of ["crowd"] (defScope s_places_of) := ⟨rfl, rfl, rfl, by decide +kernel, rfl, by decide +kernel, by decide +kernel⟩
abbrev n_start_part : List Str := ["places", "step", "at"]
theorem c_start_part : FnScope n_start_part ["places", "step", "at"] (defScope s_start_part) := ⟨rfl, rfl, rfl, by decide +kernel, rfl, by decide +kernel, by decide +kernel⟩
abbrev n_Start_init : List Str := ["self", "step"]
theorem c_Start_init : FnScope n_Start_init ["self", "step"] (defScope s_Start_init) := ⟨rfl, rfl, rfl, by decide +kernel, rfl, by decide +kernel, by decide +kernel⟩
abbrev n_Start_node : List Str := ["self", "crowd", "places", "at"]
theorem c_Start_node : FnScope n_Start_node ["self", "crowd"] (defScope s_Start_node) := ⟨rfl, rfl, rfl, by decide +kernel, rfl, by decide +kernel, by decide +kernel⟩
abbrev n_Start_chance : List Str := ["self", "crowd", "one", "other"]
theorem c_Start_chance : FnScope n_Start_chance ["self", "crowd", "one", "other"] (defScope s_Start_chance) := ⟨rfl, rfl, rfl, by decide +kernel, rfl, by decide +kernel, by decide +kernel⟩
abbrev n_Start_bounds : List Str := ["self", "crowd"]
theorem c_Start_bounds : FnScope n_Start_bounds ["self", "crowd"] (defScope s_Start_bounds) := ⟨rfl, rfl, rfl, by decide +kernel, rfl, by decide +kernel, by decide +kernel⟩
abbrev n_Start_text : List Str := ["self"]
theorem c_Start_text : FnScope n_Start_text ["self"] (defScope s_Start_text) := ⟨rfl, rfl, rfl, by decide +kernel, rfl, by decide +kernel, by decide +kernel⟩
abbrev n_loose_die : List Str := ["places", "shares", "kept", "top", "bottom", "first", "second"]
theorem c_loose_die : FnScope n_loose_die ["places", "shares", "kept"] (defScope s_loose_die) := ⟨rfl, rfl, rfl, by decide +kernel, rfl, by decide +kernel, by decide +kernel⟩
abbrev n_loose_node : List Str := ["places", "shares", "kept", "at"]
theorem c_loose_node : FnScope n_loose_node ["places", "shares", "kept"] (defScope s_loose_node) := ⟨rfl, rfl, rfl, by decide +kernel, rfl, by decide +kernel, by decide +kernel⟩
abbrev n_wished_of : List Str := ["crowd", "many", "place", "size", "path"]
theorem c_wished_of : FnScope n_wished_of ["crowd", "many"] (defScope s_wished_of) := ⟨rfl, rfl, rfl, by decide +kernel, rfl, by decide +kernel, by decide +kernel⟩
abbrev n_Loose_init : List Str := ["self", "many"]
theorem c_Loose_init : FnScope n_Loose_init ["self", "many"] (defScope s_Loose_init) := ⟨rfl, rfl, rfl, by decide +kernel, rfl, by decide +kernel, by decide +kernel⟩
abbrev n_Loose_node : List Str := ["self", "crowd"]
theorem c_Loose_node : FnScope n_Loose_node ["self", "crowd"] (defScope s_Loose_node) := ⟨rfl, rfl, rfl, by decide +kernel, rfl, by decide +kernel, by decide +kernel⟩
abbrev n_Loose_matrix : List Str := ["self", "crowd", "shares", "found", "at", "one", "row", "other"]
theorem c_Loose_matrix : FnScope n_Loose_matrix ["self", "crowd"] (defScope s_Loose_matrix) := ⟨rfl, rfl, rfl, by decide +kernel, rfl, by decide +kernel, by decide +kernel⟩
abbrev n_Loose_bounds : List Str := ["self", "crowd", "shares", "one"]
theorem c_Loose_bounds : FnScope n_Loose_bounds ["self", "crowd"] (defScope s_Loose_bounds) := ⟨rfl, rfl, rfl, by decide +kernel, rfl, by decide +kernel, by decide +kernel⟩
abbrev n_Loose_text : List Str := ["self"]
theorem c_Loose_text : FnScope n_Loose_text ["self"] (defScope s_Loose_text) := ⟨rfl, rfl, rfl, by decide +kernel, rfl, by decide +kernel, by decide +kernel⟩
abbrev n__law_cell : List Str := ["_law_script", "_law_k"]
theorem c__law_cell : FnScope n__law_cell ["_law_script", "_law_k"] (defScope s__law_cell) := ⟨rfl, rfl, rfl, by decide +kernel, rfl, by decide +kernel, by decide +kernel⟩
abbrev n__law_mix : List Str := ["_law_cell_here", "_law_k", "_law_number"]
theorem c__law_mix : FnScope n__law_mix ["_law_cell_here", "_law_k"] (defScope s__law_mix) := ⟨rfl, rfl, rfl, by decide +kernel, rfl, by decide +kernel, by decide +kernel⟩
abbrev n__law_row : List Str := ["_law_cell_here", "_law_bit", "_law_many", "_law_most", "_law_row_here", "_law_k"]
theorem c__law_row : FnScope n__law_row ["_law_cell_here", "_law_bit", "_law_many", "_law_most"] (defScope s__law_row) := ⟨rfl, rfl, rfl, by decide +kernel, rfl, by decide +kernel, by decide +kernel⟩
abbrev n__law_whole : List Str := ["_law_found"]
theorem c__law_whole : FnScope n__law_whole ["_law_found"] (defScope s__law_whole) := ⟨rfl, rfl, rfl, by decide +kernel, rfl, by decide +kernel, by decide +kernel⟩
abbrev n__law_low : List Str := ["_law_top", "_law_bottom", "_law_one", "_law_other"]
theorem c__law_low : FnScope n__law_low ["_law_top", "_law_bottom"] (defScope s__law_low) := ⟨rfl, rfl, rfl, by decide +kernel, rfl, by decide +kernel, by decide +kernel⟩
abbrev n__law_times : List Str := ["_law_one", "_law_other"]
theorem c__law_times : FnScope n__law_times ["_law_one", "_law_other"] (defScope s__law_times) := ⟨rfl, rfl, rfl, by decide +kernel, rfl, by decide +kernel, by decide +kernel⟩
abbrev n__law_fraction : List Str := ["_law_found", "_law_due"]
theorem c__law_fraction : FnScope n__law_fraction ["_law_found", "_law_due"] (defScope s__law_fraction) := ⟨rfl, rfl, rfl, by decide +kernel, rfl, by decide +kernel, by decide +kernel⟩
abbrev n__law_matrix : List Str := ["_law_found", "_law_due", "_law_row_here", "_law_others", "_law_one", "_law_other"]
theorem c__law_matrix : FnScope n__law_matrix ["_law_found", "_law_due"] (defScope s__law_matrix) := ⟨rfl, rfl, rfl, by decide +kernel, rfl, by decide +kernel, by decide +kernel⟩
abbrev n__law_crowd : List Str := ["_law_script", "_law_start_here", "_law_most", "_law_many", "_law_bit", "_law_sizes", "_law_left", "_law_places", "_law_pick", "_law_path", "_law_k"]
theorem c__law_crowd : FnScope n__law_crowd ["_law_script", "_law_start_here", "_law_most"] (defScope s__law_crowd) := ⟨rfl, rfl, rfl, by decide +kernel, rfl, by decide +kernel, by decide +kernel⟩
abbrev n__law_wished : List Str := ["_law_sizes", "_law_many", "_law_sure", "_law_more", "_law_k", "_law_total", "_law_high", "_law_found", "_law_size"]
theorem c__law_wished : FnScope n__law_wished ["_law_sizes", "_law_many"] (defScope s__law_wished) := ⟨rfl, rfl, rfl, by decide +kernel, rfl, by decide +kernel, by decide +kernel⟩
abbrev n__law_thrown : List Str := ["_law_node", "_law_rows", "_law_kept", "_law_sizes", "_law_throw", "_law_many", "_law_part"]
theorem c__law_thrown : FnScope n__law_thrown ["_law_node", "_law_rows", "_law_kept"] (defScope s__law_thrown) := ⟨rfl, rfl, rfl, by decide +kernel, rfl, by decide +kernel, by decide +kernel⟩
abbrev n__law_loose : List Str := ["_law_places", "_law_shares", "_law_throws", "_law_rows", "_law_kept", "_law_k", "_law_top", "_law_bottom", "_law_throw"]
theorem c__law_loose : FnScope n__law_loose ["_law_places", "_law_shares", "_law_throws"] (defScope s__law_loose) := ⟨rfl, rfl, rfl, by decide +kernel, rfl, by decide +kernel, by decide +kernel⟩
abbrev n__law_start : List Str := ["_law_places", "_law_step", "_law_throw", "_law_kept", "_law_k", "_law_side"]
theorem c__law_start : FnScope n__law_start ["_law_places", "_law_step", "_law_throw"] (defScope s__law_start) := ⟨rfl, rfl, rfl, by decide +kernel, rfl, by decide +kernel, by decide +kernel⟩
abbrev n__law_both : List Str := ["_law_shares", "_law_found", "_law_k", "_law_row_here", "_law_other"]
theorem c__law_both : FnScope n__law_both ["_law_shares"] (defScope s__law_both) := ⟨rfl, rfl, rfl, by decide +kernel, rfl, by decide +kernel, by decide +kernel⟩
abbrev n__law_steps : List Str := ["_law_every", "_law_step", "_law_found", "_law_k", "_law_j", "_law_row_here"]
theorem c__law_steps : FnScope n__law_steps ["_law_every", "_law_step"] (defScope s__law_steps) := ⟨rfl, rfl, rfl, by decide +kernel, rfl, by decide +kernel, by decide +kernel⟩
abbrev n__law_right : List Str := ["_law_plan", "_law_crowd_here", "_law_rows", "_law_kept", "_law_due", "_law_ends", "_law_handed", "_law_node", "_law_found", "_law_row_here", "_law_others", "_law_sizes", "_law_throw"]
theorem c__law_right : FnScope n__law_right ["_law_plan", "_law_crowd_here", "_law_rows", "_law_kept", "_law_due", "_law_ends"] (defScope s__law_right) := ⟨rfl, rfl, rfl, by decide +kernel, rfl, by decide +kernel, by decide +kernel⟩
abbrev n_law : List Str := ["_law_script", "_law_crowd_here", "_law_places", "_law_throws", "_law_step", "_law_rows", "_law_kept", "_law_ends", "_law_many", "_law_shares", "_law_row_here"]
theorem c_law : FnScope n_law ["_law_script"] (defScope s_law) := ⟨rfl, rfl, rfl, by decide +kernel, rfl, by decide +kernel, by decide +kernel⟩
/-- a def of the text, as it stands behind the top -/
abbrev FnP (K : PySem.W.Frag) (x qual : Str) (st : Stmt) (f : Addr) (fd : FuncData) : Prop := FunD K x qual (defArgs st) (defBody st) (defScope st) [] [] f fd
end Fk
/-! Clo: lambdas without parameters that capture cells, made in one def, kept in data, called by another one after the maker has ended. -/
namespace Fk
open PySem PySem.Spec PyProof.Rows L2 LamX
/-- the cell at c holds v; the function object of a lambda at f -/
def CellO (c : Addr) (v : V) : HO := .ext fun h => ∃ u, RelV v u ∧ h.IsCell c (some u)
def CloO (f : Addr) (q : Str) (ps : Arguments) (bd : Expr) (sc : Scope) (cl : List (Str × Addr)) (cc : Addr) : HO :=
  .ext fun h => ∃ pm ctv, h.get? f = some (PySem.W.kla_obj "<lambda>" q ps bd sc cl pm cc ctv)
theorem clo_new {P : Program} {w : World} {H : Hp} {h : Heap} {f cc : Addr} {q : Str} {ps : Arguments} {bd : Expr} {sc : Scope} {cl : List (Str × Addr)} {pm ctv : Value}
    (e : h.get? f = some (PySem.W.kla_obj "<lambda>" q ps bd sc cl pm cc ctv)) : ObjOk P w H h f (CloO f q ps bd sc cl cc) :=
  ⟨⟨pm, ctv, e⟩, ⟨_, e⟩, fun h1 h2 ⟨a, b, z⟩ st => ⟨a, b, st _ z⟩⟩
theorem cell_new {P : Program} {w : World} {H : Hp} {h : Heap} {c : Addr} {v : V} {u : Value} (r : RelV v u) (e : h.IsCell c (some u)) : ObjOk P w H h c (CellO c v) := by
  obtain ⟨o, e1, e2⟩ := e
  exact ⟨⟨u, r, o, e1, e2⟩, ⟨o, e1⟩, fun h1 h2 ⟨u', r', o', z1, z2⟩ st => ⟨u', r', o', st _ z1, z2⟩⟩
theorem clo_ntab {f cc : Addr} {q : Str} {ps : Arguments} {bd : Expr} {sc : Scope} {cl : List (Str × Addr)} (t : Array Value) : CloO f q ps bd sc cl cc ≠ .tbl t := fun z => by
  unfold CloO at z
  cases z
theorem cell_ntab {c : Addr} {v : V} (t : Array Value) : CellO c v ≠ .tbl t := fun z => by
  unfold CellO at z
  cases z
/-! ### a lambda is made -/
/-- e, a lambda, at whatever heap whose tables are good -/
def tLm (T : List (Addr × Str)) (q : Str) (ps : Arguments) (bd : Expr) (sc : Scope) (cl : List (Str × Addr)) : TE := fun _ H Q =>
  Tabs T H ∧ ∀ f cc H1, ExtN H H1 → Tabs T H1 → H f = none → H1 f = some (CloO f q ps bd sc cl cc) → H1 cc = some (CodeO cc q) → Q (.ref f) H1
section
variable {X : Cx} {pins : List (Addr × Obj)} {σ : L2.St} {H : Hp} {s : Shared}
theorem pe_lm {T : List (Addr × Str)} {c P : Addr} {ps : Arguments} {bd : Expr} {sc : Scope} {pos : Pos} (B : TabB X.base X.mg c P) (hcode : X.env.code = .ref c)
    (hm : (P, X.env.qual ++ "<lambda>") ∈ T) (hu : ∀ p ∈ T, p.1 = P → p.2 = X.env.qual ++ "<lambda>") (hdef : defaultsOf ps X.env = ([], []))
    (hfree : ∀ y ∈ sc.names, y.2 = .free → X.env.kindOf y.1 = some .cell) :
    PE X (.Lambda ps bd sc pos) (tLm T (X.env.qual ++ "<lambda>") ps bd sc (cloFrom X.env.cells sc.names [])) := by
  refine ⟨fun pins s σ H Q I h => ?_⟩
  obtain ⟨hT, h⟩ := h
  have hfr : ∀ y ∈ sc.names, y.2 = .free → ∃ c, X.env.cells.lookup y.1 = some c := fun y hy e => I.ok.has _ (.inl (hfree y hy e))
  obtain ⟨tps, hP, ht, ha⟩ := hT _ hm
  have bP : s.heap.BuiltinsAt X.mg P := B.bm.keeps I.bk
  have hP' : s.heap.get? P = some { cls := .none, data := .fields tps } := I.hok P _ hP
  refine PySem.W.kla_eval hdef ?_
  cases hc : codeAmong pos tps.toList with
  | none =>
    refine PySem.W.kla_makeFunction (mg := X.mg) (c := c) (P := P) (ps := tps) (closure_ok hfr) I.ok.glob (I.mod.glob.keeps I.bk) hcode (B.code.keeps I.bk) hP' ht hc B.gP bP fun cc ctv h1 tk hx hge hlt hrec htb => ?_
    obtain ⟨c2, oc, vs, t, e2, hoc, hd, hv⟩ := hrec
    cases e2
    have hsz : s.heap.objs.size ≤ h1.objs.size := Nat.le_trans hge (Nat.le_of_lt hlt)
    have nC : H cc = none := I.hok.fresh hge
    have I1 := inv_table (t' := tk) (more := #[rawInt pos.line, rawInt pos.col, .ref cc]) (h' := h1) I hP (fun b o hb e => hx b o hb e) htb hge ⟨oc, vs, t, hoc, hd, hv⟩
    generalize hH1 : upd (upd H P (.tbl (tps ++ #[rawInt pos.line, rawInt pos.col, .ref cc]))) cc (CodeO cc (X.env.qual ++ "<lambda>")) = H1 at I1
    have hE : ExtN H H1 := fun b o e n => by
      rw [← hH1, upd_ne (ne_of_none e nC), upd_ne (fun z => n tps (Option.some.inj (e.symm.trans (by rw [z]; exact hP))))]
      exact e
    have fn : H1 h1.objs.size = none := I1.hok.fresh (Nat.le_refl _)
    have fn0 : H h1.objs.size = none := I.hok.fresh hsz
    have I2 := I1.laid (a := h1.objs.size) (t' := tk) (o := CloO h1.objs.size (X.env.qual ++ "<lambda>") ps bd sc (cloFrom X.env.cells sc.names []) cc)
      (h' := h1.push (PySem.W.kla_obj "<lambda>" (X.env.qual ++ "<lambda>") ps bd sc (cloFrom X.env.cells sc.names []) ((X.mg "__name__").getD .none) cc ctv)) (fun b u e => Heap.get?_push_of_some _ e) (Nat.le_refl _) (clo_new (Heap.get?_push_size _ rfl))
    have kp : ∀ b o, H1 b = some o → upd H1 h1.objs.size (CloO h1.objs.size (X.env.qual ++ "<lambda>") ps bd sc (cloFrom X.env.cells sc.names []) cc) b = some o := fun b o e => by
      rw [upd_ne (ne_of_none e fn)]
      exact e
    have eC : H1 cc = some (CodeO cc (X.env.qual ++ "<lambda>")) := by
      rw [← hH1]
      exact upd_same
    have T1 : Tabs T H1 := fun p hp => by
      by_cases hb : p.1 = P
      · rw [hu p hp hb, hb]
        refine ⟨tps ++ #[rawInt pos.line, rawInt pos.col, .ref cc], by rw [← hH1, upd_ne (ne_of_none hP nC), upd_same], ?_, fun p' cv hcv => ?_⟩
        · rw [show (tps ++ #[rawInt pos.line, rawInt pos.col, Value.ref cc]).toList = tps.toList ++ [rawInt pos.line, rawInt pos.col, .ref cc] by simp]
          exact PySem.TriplesOk_snoc _ _ _ _ ht
        · rw [show (tps ++ #[rawInt pos.line, rawInt pos.col, Value.ref cc]).toList = tps.toList ++ [rawInt pos.line, rawInt pos.col, .ref cc] by simp] at hcv
          rcases among_app _ ht hcv with z | z
          · obtain ⟨c0, e1, e2⟩ := ha p' cv z
            exact ⟨c0, e1, hE _ _ e2 codeO_ne⟩
          · exact ⟨cc, z, eC⟩
      · obtain ⟨ps', a1, a2, a3⟩ := hT p hp
        refine ⟨ps', by rw [← hH1, upd_ne (ne_of_none a1 nC), upd_ne hb]; exact a1, a2, fun p' cv hcv => ?_⟩
        obtain ⟨c0, e1, e2⟩ := a3 p' cv hcv
        exact ⟨c0, e1, hE _ _ e2 codeO_ne⟩
    exact ⟨.ref h1.objs.size, _, I2, rfl, h _ cc _ (fun b o e n => kp b o (hE b o e n)) (T1.ext kp) fn0 upd_same (kp _ _ eC)⟩
  | some cv =>
    obtain ⟨cc, e, hco⟩ := ha pos cv hc
    subst e
    refine PySem.W.kla_makeFunctionHit (mg := X.mg) (c := c) (P := P) (ps := tps) (closure_ok hfr) I.ok.glob (I.mod.glob.keeps I.bk) hcode (B.code.keeps I.bk) hP' ht hc bP fun ctv h1 tk hx hsz => ?_
    have fn : H h1.objs.size = none := I.hok.fresh hsz
    have I2 := I.laid (a := h1.objs.size) (t' := tk) (o := CloO h1.objs.size (X.env.qual ++ "<lambda>") ps bd sc (cloFrom X.env.cells sc.names []) cc)
      (h' := h1.push (PySem.W.kla_obj "<lambda>" (X.env.qual ++ "<lambda>") ps bd sc (cloFrom X.env.cells sc.names []) ((X.mg "__name__").getD .none) cc ctv)) (fun b u e => Heap.get?_push_of_some _ (hx b u e)) hsz (clo_new (Heap.get?_push_size _ rfl))
    have kp : ∀ b o, H b = some o → upd H h1.objs.size (CloO h1.objs.size (X.env.qual ++ "<lambda>") ps bd sc (cloFrom X.env.cells sc.names []) cc) b = some o := fun b o e => by
      rw [upd_ne (ne_of_none e fn)]
      exact e
    exact ⟨.ref h1.objs.size, _, I2, rfl, h _ cc _ (fun b o e _ => kp b o e) (hT.ext kp) fn upd_same (kp _ _ hco)⟩
end
/-! ### a def whose cells are told when it ends: its body's last row is a return -/
/-- the heap behind, with the cells told: the slots σ are the names' values at the end -/
def Told3 (cells : List (Str × Addr)) (sc : Scope) (N : List Str) (σ : L2.St) (H : Hp) (R : Hp → Prop) : Prop :=
  ∀ H3 : Hp, (∀ b o, H b = some o → H3 b = some o) → (∀ (i : Nat) (x : Str) (c : Addr) (v : V), N[i]? = some x → sc.names.lookup x = some .cell → cells.lookup x = some c → σ[i]? = some (some v) → H3 c = some (CellO c v)) → R H3
/-- a block that ends in a return, the slots told at the end -/
abbrev TR : Type := (L2.St → V → Hp → Prop) → L2.St → Hp → Prop
structure PR (X : Cx) (sts : List Stmt) (t : TR) : Prop where
  run : ∀ (pins : List (Addr × Obj)) (s : Shared) (σ : L2.St) (H : Hp) (R : L2.St → V → Hp → Prop), Inv X pins σ H s → t R σ H →
    wpAny (model X.prog X.w) X.A (execs sts X.env) (fun fl s1 => ∃ u v σ1 H1, fl = .ret u ∧ Inv X pins σ1 H1 s1 ∧ RelV v u ∧ R σ1 v H1) X.xe s
def rLast (te : TE) : TR := fun R σ H => te σ H fun v H1 => R σ v H1
def rCons (t : TS) (u : TR) : TR := fun R σ H => t { nx := fun σ1 H1 => u R σ1 H1, rt := fun _ _ => False } σ H
section
variable {X : Cx}
theorem pr_last {e : Expr} {te : TE} {rp : Pos} (h : PE X e te) : PR X [.Return (some e) rp] (rLast te) := by
  refine ⟨fun pins s σ H R I q => ?_⟩
  refine wpAny_execs_cons (wpAny_Return_some (thn (h.run pins s σ H _ I q) fun u s1 hu => ?_))
  obtain ⟨v, H1, J, r, q1⟩ := hu
  exact ⟨u, v, σ, H1, rfl, J, r, q1⟩
theorem pr_cons {st : Stmt} {sts : List Stmt} {t : TS} {u : TR} (h1 : PS X st t) (h2 : PR X sts u) : PR X (st :: sts) (rCons t u) := by
  refine ⟨fun pins s σ H R I q => ?_⟩
  refine wpAny_execs_cons (thn (h1.run pins s σ H _ I q) fun fl s1 hs => ?_)
  cases fl with
  | next =>
    obtain ⟨σ1, H1, J, q1⟩ := hs
    exact h2.run pins s1 σ1 H1 R J q1
  | ret v =>
    obtain ⟨_, _, _, _, _, z⟩ := hs
    exact False.elim z
  | brk =>
    obtain ⟨_, _, _, z⟩ := hs
    exact False.elim z
  | cont =>
    obtain ⟨_, _, _, z⟩ := hs
    exact False.elim z
end
theorem fn_cells {P : Program} {w : World} {K : PySem.W.Frag} {mg : Str → Option Value} {base : Heap} {x qual : Str} {params : Arguments} {body : List Stmt} {scope : Scope} {f : Addr} {fd : FuncData} {N ps : List Str} {k : Nat} {sp : Sp}
    (F : FunD K x qual params body scope [] [] f fd) (S : FnScope N ps scope) (len : ∀ vs H Q E, sp vs H Q E → vs.length = ps.length)
    (hbody : ∀ (cdv : Value) (A : Around) (outer : List Env) (s : Shared) (H : Hp) (vs : List V) (Q : VK) (E : XK), PySem.W.codeIn K cdv qual = true → (∃ oc od osl, K.lookup f = some ⟨oc, od, .func fd, osl⟩ ∧ fd.code = cdv) → Room k (A.deeper (envOfC qual scope s.heap.objs.size f cdv)) → sp vs H Q E →
      ∃ t : TR, PR (cxOf CX0 P w K mg base N qual scope f cdv A outer s H E).nox body t ∧ t (fun σ v H2 => Told3 (cellsFrom (s.heap.objs.size + 1) scope.names []) scope N σ H2 (Q v)) (start N vs) H) :
    FnOk P w K mg base CX0 (k + 1) f fd ps sp := by
  obtain ⟨oc, od, dV, kV, doc, pm, an, cdv, ct, osl, rfl, lk, hcd, _, _⟩ := F.ex
  refine ⟨len, fun A outer s H args us vs Q E hr e0 hbind rv hsp => ?_⟩
  have hl := len _ _ _ _ hsp
  have KX : K.In s.heap := e0.mod.kin.keeps fun b o e => (e0.bs b o e).1
  have lim : s.heap.NoLimit := e0.mod.nolimit.keeps fun b o e => (e0.bs b o e).1
  have hkd : ∀ y ∈ ps.zip us, scope.names.lookup y.1 = some .local ∨ (scope.names.lookup y.1 = some .cell ∧ ((cellsFrom (s.heap.objs.size + 1) scope.names []).lookup y.1).isSome = true) := by
    rintro ⟨n, v⟩ hy
    rcases S.par n (List.of_mem_zip hy).1 with z | z
    · exact .inl z
    · exact .inr ⟨z, PySem.W.cellsFrom_some _ _ _ (.inl z)⟩
  refine codeAny_call_function hr.depth (KX _ _ lk) rfl S.co S.gen rfl (PySem.W.codeRec_of KX hcd) (hbind _ _ _ _ ?_)
  refine wpAny_newFunctionEnv_cells S.kind hkd fun env he s1 xx => ?_
  subst he
  refine ⟨lim.keeps xx.toInCall.keep, codeAny_func ?_⟩
  obtain ⟨t, h1, hq⟩ := hbody cdv A outer s H vs Q E hcd ⟨oc, od, osl, lk, rfl⟩ (hr.deeper _) hsp
  have I : Inv (cxOf CX0 P w K mg base N qual scope f cdv A outer s H E).nox [] (start N vs) H s1 := (inv_start S hr.hd e0 hl rv xx).wish _
  refine wpAny_mono (h1.run [] s1 (start N vs) H _ I hq) (fun fl s3 hs => ?_) fun e s' hs => False.elim hs
  obtain ⟨u, v, σ, H3, rfl, J, r, q⟩ := hs
  have fin : CE outer P w H s Q u s3 := by
    -- the cells told
    let tell : Hp := fun b => match H3 b with
      | some o => some o
      | none => (match (List.range N.length).find? fun i => match N[i]? with
          | some x => decide (scope.names.lookup x = some .cell) && decide ((cellsFrom (s.heap.objs.size + 1) scope.names []).lookup x = some b) && (match σ[i]? with | some (some _) => true | _ => false)
          | none => false with
        | some i => (match σ[i]? with | some (some v) => some (CellO b v) | _ => none)
        | none => none)
    have ndN := S.nd
    have inj : ∀ y z c, (cellsFrom (s.heap.objs.size + 1) scope.names []).lookup y = some c → (cellsFrom (s.heap.objs.size + 1) scope.names []).lookup z = some c → y = z := fun y z c => J.ok.inj y z c
    have t1 : ∀ b o, H3 b = some o → tell b = some o := fun b o e => by
      show (match H3 b with | some o => some o | none => _) = some o
      rw [e]
    have t2 : ∀ (i : Nat) (x : Str) (c : Addr) (v : V), N[i]? = some x → scope.names.lookup x = some .cell → (cellsFrom (s.heap.objs.size + 1) scope.names []).lookup x = some c → σ[i]? = some (some v) → tell c = some (CellO c v) := by
      intro i x c v e1 e2 e3 e4
      have n3 : H3 c = none := J.freeC x c e3
      show (match H3 c with | some o => some o | none => _) = _
      rw [n3]
      show (match (List.range N.length).find? _ with | some i => _ | none => none) = _
      cases hf : (List.range N.length).find? (fun i => match N[i]? with
          | some x => decide (scope.names.lookup x = some .cell) && decide ((cellsFrom (s.heap.objs.size + 1) scope.names []).lookup x = some c) && (match σ[i]? with | some (some _) => true | _ => false)
          | none => false) with
      | none =>
        have z := List.find?_eq_none.mp hf i (List.mem_range.mpr (List.getElem?_eq_some_iff.mp e1).1)
        simp [e1, e2, e3, e4] at z
      | some j =>
        have z := List.find?_some hf
        cases ej : N[j]? with
        | none =>
          rw [ej] at z
          cases z
        | some y =>
          rw [ej] at z
          simp only [Bool.and_eq_true, decide_eq_true_eq] at z
          have exy : x = y := inj x y c e3 z.1.2
          subst exy
          have eij : i = j := nodup_ix ndN e1 ej
          subst eij
          show (match σ[i]? with | some (some v) => some (CellO c v) | _ => none) = some (CellO c v)
          rw [e4]
    have t3 : ∀ b o, tell b = some o → H3 b = some o ∨ (H3 b = none ∧ ∃ (i : Nat) (x : Str) (v : V), N[i]? = some x ∧ scope.names.lookup x = some .cell ∧ (cellsFrom (s.heap.objs.size + 1) scope.names []).lookup x = some b ∧ σ[i]? = some (some v) ∧ o = CellO b v) := by
      intro b o h
      cases e : H3 b with
      | some o' =>
        have h' := t1 b o' e
        rw [h] at h'
        exact .inl h'.symm
      | none =>
        refine .inr ⟨rfl, ?_⟩
        have h' : (match (List.range N.length).find? (fun i => match N[i]? with
          | some x => decide (scope.names.lookup x = some .cell) && decide ((cellsFrom (s.heap.objs.size + 1) scope.names []).lookup x = some b) && (match σ[i]? with | some (some _) => true | _ => false)
          | none => false) with
        | some i => (match σ[i]? with | some (some v) => some (CellO b v) | _ => none)
        | none => none) = some o := by
          have h2 : (match H3 b with | some o => some o | none => _) = some o := h
          rw [e] at h2
          exact h2
        cases hf : (List.range N.length).find? (fun i => match N[i]? with
          | some x => decide (scope.names.lookup x = some .cell) && decide ((cellsFrom (s.heap.objs.size + 1) scope.names []).lookup x = some b) && (match σ[i]? with | some (some _) => true | _ => false)
          | none => false) with
        | none =>
          rw [hf] at h'
          cases h'
        | some j =>
          rw [hf] at h'
          have z := List.find?_some hf
          cases ej : N[j]? with
          | none =>
            rw [ej] at z
            cases z
          | some y =>
            rw [ej] at z
            simp only [Bool.and_eq_true, decide_eq_true_eq] at z
            cases es : σ[j]? with
            | none =>
              have hh : (match σ[j]? with | some (some v) => some (CellO b v) | _ => none) = some o := h'
              rw [es] at hh
              cases hh
            | some r =>
              have hh : (match σ[j]? with | some (some v) => some (CellO b v) | _ => none) = some o := h'
              rw [es] at hh
              cases r with
              | none => cases hh
              | some v => exact ⟨j, y, v, ej, z.1.1, z.1.2, es, (Option.some.inj hh).symm⟩
    have ab : ∀ b, tell b ≠ none → H3 b ≠ none ∨ s.heap.objs.size ≤ b := by
      intro b hb
      cases e : tell b with
      | none => exact absurd e hb
      | some o =>
        rcases t3 b o e with z | ⟨_, i, y, v, _, _, z, _, _⟩
        · exact .inl (by rw [z]; simp)
        · exact .inr (J.ok.cab y b rfl z)
    have un : Un (frs outer) [] H H3 s.heap s3.heap := J.base
    have hx : ∀ b, b ∉ ([] : List Addr) := fun b z => nomatch z
    refine ⟨v, tell, J.os, J.bare, ⟨un.keep, un.slot, fun b o e n z => ?_, un.there, fun b xs h => t1 _ _ (un.tups b xs h), fun b o u h => t1 _ _ (un.frzs b o u h), fun b tps h => ?_⟩, fun b o h => ?_, r, q tell t1 t2⟩
    · cases e2 : tell b with
      | none => rfl
      | some o' =>
        rcases ab b (by rw [e2]; simp) with z | z
        · exact absurd (un.free b o e n (hx b)) z
        · exact absurd (Nat.lt_of_lt_of_le (Heap.lt_size e) z) (Nat.lt_irrefl _)
    · obtain ⟨more, z⟩ := un.tbls b tps h
      exact ⟨more, t1 _ _ z⟩
    · rcases t3 b o h with z | ⟨_, i, y, v, e1, e2, e3, e4, rfl⟩
      · exact (J.hok b o z).stay (fun _ _ _ q => q) (fun c q => t1 _ _ q) fun c xs q => t1 _ _ q
      · obtain ⟨m, hn, hlk⟩ := J.loc
        obtain ⟨u', r', l⟩ := hlk i y v e1 e4 (.inr (.inl e2))
        rcases l with ⟨k1, _⟩ | ⟨_, c2, k2, k3⟩
        · have k1 : scope.names.lookup y = some .local := k1
          rw [e2] at k1
          cases k1
        · have k2 : (cellsFrom (s.heap.objs.size + 1) scope.names []).lookup y = some c2 := k2
          rw [e3] at k2
          cases k2
          exact cell_new r' k3
  exact fin
end Fk
/-! Clo2: the call of such a lambda. -/
namespace Fk
open PySem PySem.Spec PyProof.Rows L2 LamX
theorem PE.or {X : Cx} {e : Expr} {t u : TE} (h1 : PE X e t) (h2 : PE X e u) : PE X e (fun σ H Q => t σ H Q ∨ u σ H Q) :=
  ⟨fun pins s σ H Q I h => h.elim (h1.run pins s σ H Q I) (h2.run pins s σ H Q I)⟩
theorem PT.or {X : Cx} {e : Expr} {t u : TT} (h1 : PT X e t) (h2 : PT X e u) : PT X e (fun σ H Q => t σ H Q ∨ u σ H Q) :=
  ⟨fun pins s σ H Q I h => h.elim (h1.run pins s σ H Q I) (h2.run pins s σ H Q I)⟩
/-- the lambda's names: captured ones (all in N), globals -/
structure LScope (N : List Str) (sc : Scope) : Prop where
  kind : sc.kind = .function
  co : sc.isCoroutine = false
  gen : sc.isGenerator = false
  own : ∀ y ∈ sc.names, y.2 ≠ .local ∧ y.2 ≠ .cell
  fr : ∀ y ∈ sc.names, y.2 = .free → y.1 ∈ N
abbrev clEnv (q : Str) (sc : Scope) (L f cc : Addr) (cl : List (Str × Addr)) : Env := PySem.W.envX q sc L f (.ref cc) cl
def clCx (P : Program) (w : World) (K : PySem.W.Frag) (mg : Str → Option Value) (base : Heap) (N : List Str) (q : Str) (sc : Scope) (f cc : Addr) (cl : List (Str × Addr)) (A : Around) (outer : List Env) (s : Shared) (H : Hp) : Cx :=
  { prog := P, w := w, K := K, mg := mg, base := base, A := A.deeper (clEnv q sc s.heap.objs.size f cc cl), N := N, s_0 := s, H_0 := H, env := clEnv q sc s.heap.objs.size f cc cl, outer := outer, stack := clEnv q sc s.heap.objs.size f cc cl :: outer,
    ex := [], fn := fun _ => false, calm := true, pn := [], xe := fun _ _ => False }
/-- the captured cells cl hold vs, by the names N -/
structure Cells (H : Hp) (cl : List (Str × Addr)) (N : List Str) (vs : List V) : Prop where
  len : vs.length = N.length
  at_ : ∀ (i : Nat) (x : Str) (v : V), N[i]? = some x → vs[i]? = some v → ∃ c, cl.lookup x = some c ∧ H c = some (CellO c v)
  all : ∀ x c, cl.lookup x = some c → ∃ v, H c = some (CellO c v)
  inj : ∀ x y c, cl.lookup x = some c → cl.lookup y = some c → x = y
open Classical in
/-- without the cells -/
noncomputable def hid (cl : List (Str × Addr)) (H : Hp) : Hp := fun b => if ∃ x, cl.lookup x = some b then none else H b
open Classical in
noncomputable def back (cl : List (Str × Addr)) (H H' : Hp) : Hp := fun b => if ∃ x, cl.lookup x = some b then H b else H' b
section
variable {cl : List (Str × Addr)} {H H' : Hp} {N : List Str} {vs : List V}
theorem hid_in {b : Addr} (h : ∃ x, cl.lookup x = some b) : hid cl H b = none := if_pos h
theorem hid_out {b : Addr} (h : ¬ ∃ x, cl.lookup x = some b) : hid cl H b = H b := if_neg h
theorem back_in {b : Addr} (h : ∃ x, cl.lookup x = some b) : back cl H H' b = H b := if_pos h
theorem back_out {b : Addr} (h : ¬ ∃ x, cl.lookup x = some b) : back cl H H' b = H' b := if_neg h
theorem hid_some {b : Addr} {o : HO} (e : hid cl H b = some o) : H b = some o ∧ ¬ ∃ x, cl.lookup x = some b := by
  by_cases h : ∃ x, cl.lookup x = some b
  · rw [hid_in h] at e
    cases e
  · rw [hid_out h] at e
    exact ⟨e, h⟩
theorem hid_of {b : Addr} {o : HO} (C : Cells H cl N vs) (e : H b = some o) (n : ∀ v, o ≠ CellO b v) : hid cl H b = some o := by
  by_cases h : ∃ x, cl.lookup x = some b
  · obtain ⟨x, hx⟩ := h
    obtain ⟨v, hv⟩ := C.all x b hx
    rw [e] at hv
    exact absurd (Option.some.inj hv) (n v)
  · rw [hid_out h]
    exact e
theorem hid_ok {P : Program} {w : World} {h : Heap} (C : Cells H cl N vs) (k : HOk P w H h) : HOk P w (hid cl H) h := fun a o e => by
  refine (k a o (hid_some e).1).stay (fun _ _ _ q => q) (fun b q => hid_of C q fun v z => ?_) fun b xs q => hid_of C q fun v z => ?_
  · unfold CellO at z
    cases z
  · unfold CellO at z
    cases z
end
section
variable {X : Cx} {pins : List (Addr × Obj)} {σ : L2.St} {H : Hp} {s : Shared}
theorem clo_run {f cc : Addr} {q : Str} {ps : Arguments} {bd : Expr} {sc : Scope} {cl : List (Str × Addr)} {N : List Str} {vs : List V} {k : Nat} {tb : TE} {Q : VK} (I : Inv X pins σ H s) (hf : H f = some (CloO f q ps bd sc cl cc)) (hc : H cc = some (CodeO cc q)) (C : Cells H cl N vs)
    (hr : Room (k + 1) X.A) (L : LScope N sc) (hbind : ∀ pm ctv : Value, bindArgs (PySem.W.kla_fn "<lambda>" q ps bd sc cl pm (.ref cc) ctv) ⟨[], []⟩ = pure [])
    (hbody : ∀ (A : Around) (outer : List Env) (s : Shared) (H : Hp), Room k (A.deeper (clEnv q sc s.heap.objs.size f cc cl)) → PE (clCx X.prog X.w X.K X.mg X.base N q sc f cc cl A outer s H) bd tb)
    (hq : tb (vs.map some) (hid cl H) fun v H' => (∀ b, (∃ x, cl.lookup x = some b) → H' b = none) → Q v (back cl H H')) :
    wpAny (model X.prog X.w) X.A (call (.ref f) []) (EP X pins σ Q) X.xe s := by
  obtain ⟨⟨pm, ctv, of1⟩, _, _⟩ := I.hok f _ hf
  obtain ⟨⟨oc, wv, t, hoc, hdc, hvc⟩, _, _⟩ := I.hok cc _ hc
  have e0 := I.env0
  have cellAt : ∀ b, (∃ x, cl.lookup x = some b) → H b ≠ none := fun b ⟨x, hx⟩ z => by
    obtain ⟨v, hv⟩ := C.all x b hx
    rw [hv] at z
    cases z
  have hidN : ∀ b, H b = none → hid cl H b = none := fun b n => by
    by_cases h : ∃ x, cl.lookup x = some b
    · exact hid_in h
    · rw [hid_out h]
      exact n
  have nofr : ∀ b, (∃ x, cl.lookup x = some b) → b ∉ frs X.stack := fun b hb z => cellAt b hb (e0.frf b z)
  have hokM : HOk X.prog X.w (hid cl H) s.heap := hid_ok C I.hok
  have rc : codeAny (model X.prog X.w) X.A (.call (.ref f) ⟨[], []⟩) (CR CX0 X.stack X.prog X.w H s Q E0) s := by
    refine PySem.W.kla_callFunE hr.depth of1 rfl L.co L.gen rfl ⟨cc, oc, wv, t, rfl, hoc, hdc, hvc⟩ ?_
    rw [hbind]
    refine wpAny_pure (wpAny_newFunctionEnv (fun y hy => (L.own y hy).2) (fun y hy => absurd hy (by simp)) (fun h1 hns hsb => ⟨I.nolimit.fresh _ hsb, ?_⟩) L.kind)
    show codeAny _ _ (.expr bd (clEnv q sc s.heap.objs.size f cc cl)) _ _
    have kp : ∀ b o, s.heap.get? b = some o → h1.get? b = some o := fun b o e => hsb.extBut b o (Nat.ne_of_lt (Heap.lt_size e)) (Heap.get?_push_of_some _ e)
    have cellK : ∀ {c : Addr} {v : V}, H c = some (CellO c v) → ∃ u, RelV v u ∧ h1.IsCell c (some u) := fun {c v} e => by
      obtain ⟨⟨u, r, o, z1, z2⟩, _, _⟩ := I.hok c _ e
      exact ⟨u, r, o, kp _ _ z1, z2⟩
    have free_look : ∀ y, sc.names.lookup y = some .free → ∃ c, cl.lookup y = some c := fun y hy => by
      have hyN : y ∈ N := L.fr _ (PySem.mem_of_lookup hy) rfl
      obtain ⟨i, hi, e⟩ := List.mem_iff_getElem.mp hyN
      have e1 : N[i]? = some y := by rw [List.getElem?_eq_getElem hi, e]
      have hv : i < vs.length := by rw [C.len]; exact hi
      obtain ⟨c, z, _⟩ := C.at_ i y vs[i] e1 (List.getElem?_eq_getElem hv)
      exact ⟨c, z⟩
    have J : Inv (clCx X.prog X.w X.K X.mg X.base N q sc f cc cl X.A X.stack s (hid cl H)) [] (vs.map some) (hid cl H) { s with heap := h1, toks := s.toks + ([] : List (Str × Value)).length } := by
      have noA : ∀ b : Addr, b ∉ (clCx X.prog X.w X.K X.mg X.base N q sc f cc cl X.A X.stack s (hid cl H)).ex := fun b z => absurd (show b ∈ ([] : List Addr) from z) (by simp)
      refine ⟨⟨e0.mod, L.kind, rfl, rfl, Nat.le_refl _, fun y z c e1 e2 => C.inj y z c e1 e2, fun y hy => ?_, fun y c z _ => ?_, fun _ => hr.hd, Around.frames_deeper e0.frames, .inr ⟨rfl, rfl⟩, fun b z => absurd z (noA b), fun b o e => ⟨(e0.bs b o e).1, hidN b (e0.bs b o e).2⟩, e0.bsz, fun b _ _ => noA b,
          fun b z => absurd z (noA b), e0.funs, fun b hb => hidN b (e0.frf b hb)⟩,
        rfl, e0.bare, Un.kept kp, ⟨_, hns, fun i y v e1 e2 e3 => ?_⟩, fun y c e => ?_, hokM.fresh (Nat.le_refl _), fun y c e => hid_in ⟨y, e⟩, fun z hz => absurd (show z ∈ ([] : List (Addr × Obj)) ++ [] from hz) (by simp), hokM.kept kp, ?_⟩
      · have hy : sc.names.lookup y = some .cell ∨ sc.names.lookup y = some .free := hy
        rcases hy with hy | hy
        · exact absurd rfl (L.own _ (PySem.mem_of_lookup hy)).2
        · exact free_look y hy
      · have z : false = true := z
        cases z
      · have e3 : Vis sc y := e3
        rcases e3 with z | z | z
        · exact absurd rfl (L.own _ (PySem.mem_of_lookup z)).1
        · exact absurd rfl (L.own _ (PySem.mem_of_lookup z)).2
        · have e4 : vs[i]? = some v := by
            rw [List.getElem?_map] at e2
            cases ev : vs[i]? with
            | none =>
              rw [ev] at e2
              cases e2
            | some v' =>
              rw [ev] at e2
              cases e2
              rfl
          obtain ⟨c, k1, k2⟩ := C.at_ i y v e1 e4
          obtain ⟨u, r, ic⟩ := cellK k2
          exact ⟨u, r, .inr ⟨.inr z, c, k1, ic⟩⟩
      · obtain ⟨v, hv⟩ := C.all y c e
        obtain ⟨u, _, ic⟩ := cellK hv
        exact ⟨some u, ic⟩
      · show (vs.map some).length = N.length
        rw [List.length_map, C.len]
    refine PySem.W.kla_codeExpr (wpAny_mono ((hbody X.A X.stack s (hid cl H) (hr.deeper _)).run [] _ _ _ _ J hq) (fun v s' hv => ?_) fun e s' hz => False.elim hz)
    obtain ⟨v', H', J', rv, qq⟩ := hv
    have un : Un (frs X.stack) [] (hid cl H) H' s.heap s'.heap := J'.base
    have out : ∀ b, (∃ x, cl.lookup x = some b) → H' b = none := fun b ⟨x, hx⟩ => J'.freeC x b hx
    have bk : ∀ b o, H' b = some o → back cl H H' b = some o := fun b o e => by
      by_cases h : ∃ x, cl.lookup x = some b
      · rw [out b h] at e
        cases e
      · rw [back_out h]
        exact e
    have nin : ∀ b, H b = none → ¬ ∃ x, cl.lookup x = some b := fun b n h => cellAt b h n
    have cN : ∀ b (o : HO), H b = some o → (∀ v, o ≠ CellO b v) → back cl H H' b = H' b ∧ hid cl H b = some o := fun b o e n => by
      have z := hid_of C e n
      exact ⟨back_out (hid_some z).2, z⟩
    refine ⟨v', back cl H H', J'.os, J'.bare, ⟨fun b o e n => un.keep b o e (hidN b n), fun b o e n => un.slot b o e (hidN b n), fun b o e n hx => ?_, un.there, fun b xs e => ?_, fun b o u e => ?_, fun b tps e => ?_⟩, fun b o e => ?_, rv, qq out⟩
    · rw [back_out (nin b n)]
      exact un.free b o e (hidN b n) hx
    · obtain ⟨z1, z2⟩ := cN b _ e fun v z => by
        unfold CellO at z
        cases z
      rw [z1]
      exact un.tups b xs z2
    · obtain ⟨z1, z2⟩ := cN b _ e fun v z => by
        unfold CellO at z
        cases z
      rw [z1]
      exact un.frzs b o u z2
    · obtain ⟨z1, z2⟩ := cN b _ e fun v z => by
        unfold CellO at z
        cases z
      obtain ⟨more, z3⟩ := un.tbls b tps z2
      exact ⟨more, z1.trans z3⟩
    · by_cases h : ∃ x, cl.lookup x = some b
      · rw [back_in h] at e
        obtain ⟨x, hx⟩ := h
        obtain ⟨v, hv⟩ := C.all x b hx
        rw [e] at hv
        cases hv
        obtain ⟨⟨u, r, o, z1, z2⟩, _, _⟩ := I.hok b _ e
        have z3 := un.keep b o z1 (hid_in ⟨x, hx⟩) (nofr b ⟨x, hx⟩) (by simp)
        exact cell_new r ⟨o, z3, z2⟩
      · rw [back_out h] at e
        exact (J'.hok b o e).stay (fun _ _ _ q => q) (fun c q => bk _ _ q) fun c xs q => bk _ _ q
  refine wpAny_call (codeAny_mono rc fun r s' hh => ?_)
  cases r with
  | error e => exact False.elim hh
  | ok fl =>
    cases fl with
    | ret u => exact I.after hh
    | next => exact False.elim hh
    | brk => exact False.elim hh
    | cont => exact False.elim hh
/-- a lambda at f: q, ps, bd, sc of the text, the values vs of the names N -/
def CloAt (H : Hp) (f : Addr) (q : Str) (ps : Arguments) (bd : Expr) (sc : Scope) (N : List Str) (vs : List V) : Prop :=
  ∃ cl cc, H f = some (CloO f q ps bd sc cl cc) ∧ H cc = some (CodeO cc q) ∧ Cells H cl N vs
/-- a(), a lambda of this text at the slot i; it is run on the heap without its cells -/
def tClo (i : Nat) (q : Str) (ps : Arguments) (bd : Expr) (sc : Scope) (N : List Str) (tb : TE) : TE := fun σ H Q => ∃ f vs cl cc, σ[i]? = some (some (.ref f)) ∧ H f = some (CloO f q ps bd sc cl cc) ∧ H cc = some (CodeO cc q) ∧ Cells H cl N vs ∧
  tb (vs.map some) (hid cl H) fun v H1 => (∀ b, (∃ x, cl.lookup x = some b) → H1 b = none) → Q v (back cl H H1)
theorem cell_ne {c : Addr} {v : V} {o : HO} (h : ∀ φ, o ≠ .ext φ) : o ≠ CellO c v := fun z => h _ z
theorem back_of {cl : List (Str × Addr)} {H H1 : Hp} (out : ∀ b, (∃ x, cl.lookup x = some b) → H1 b = none) {b : Addr} {o : HO} (e : H1 b = some o) : back cl H H1 b = some o := by
  by_cases h : ∃ x, cl.lookup x = some b
  · rw [out b h] at e
    cases e
  · rw [back_out h]
    exact e
theorem back_ext {cl : List (Str × Addr)} {H H1 : Hp} (out : ∀ b, (∃ x, cl.lookup x = some b) → H1 b = none) (e : ExtN (hid cl H) H1) : ExtN H (back cl H H1) := fun b o hb n => by
  by_cases h : ∃ x, cl.lookup x = some b
  · rw [back_in h]
    exact hb
  · rw [back_out h]
    exact e b o (by rw [hid_out h]; exact hb) n
theorem heap_sized : ∀ n : Nat, ∃ h : Heap, h.objs.size = n
  | 0 => ⟨{}, rfl⟩
  | n + 1 => by
    obtain ⟨h, e⟩ := heap_sized n
    exact ⟨h.push { cls := .none, data := .fields #[] }, by rw [Heap.size_push, e]⟩
/-- a code object is no cell -/
theorem codeO_ncell (c : Addr) (q : Str) (v : V) : CodeO c q ≠ CellO c v := fun z => by
  unfold CodeO CellO at z
  have z1 := congrFun (HO.ext.inj z)
  obtain ⟨h, e⟩ := heap_sized c
  have g : (h.push { cls := .none, data := .fields #[.none, .str q 0] }).get? c = some { cls := .none, data := .fields #[.none, .str q 0] } := by
    rw [← e]
    exact Heap.get?_push_size _ rfl
  have z2 := (z1 (h.push { cls := .none, data := .fields #[.none, .str q 0] })).mp ⟨_, _, 0, g, rfl, rfl⟩
  obtain ⟨u, _, o, b1, b2⟩ := z2
  rw [g] at b1
  cases b1
  cases b2
theorem tabs_hid {T : List (Addr × Str)} {cl : List (Str × Addr)} {N : List Str} {vs : List V} {H : Hp} (C : Cells H cl N vs) (t : Tabs T H) : Tabs T (hid cl H) := fun p hp => by
  obtain ⟨tps, a1, a2, a3⟩ := t p hp
  refine ⟨tps, (hid_of C a1 fun v z => nomatch (show HO.tbl tps = HO.ext _ from z)), a2, fun pos cv e => ?_⟩
  obtain ⟨c, e1, e2⟩ := a3 pos cv e
  exact ⟨c, e1, hid_of C e2 (codeO_ncell c _)⟩
theorem sqL_hid {K : PySem.W.Frag} {cl : List (Str × Addr)} {N : List Str} {vs : List V} {H : Hp} (C : Cells H cl N vs) {a : Addr} {xs : List V} (h : SqL K H a xs) : SqL K (hid cl H) a xs := by
  rcases h with (h | ⟨o, h⟩) | h
  · exact .inl (.inl (hid_of C h fun v z => nomatch (show _ = HO.ext _ from z)))
  · exact .inl (.inr ⟨o, hid_of C h fun v z => nomatch (show _ = HO.ext _ from z)⟩)
  · exact .inr h
theorem sqT_hid {K : PySem.W.Frag} {cl : List (Str × Addr)} {N : List Str} {vs : List V} {H : Hp} (C : Cells H cl N vs) {a : Addr} {xs : List V} (h : SqT K H a xs) : SqT K (hid cl H) a xs := by
  rcases h with (h | ⟨o, h⟩) | h
  · exact .inl (.inl (hid_of C h fun v z => nomatch (show _ = HO.ext _ from z)))
  · exact .inl (.inr ⟨o, hid_of C h fun v z => nomatch (show _ = HO.ext _ from z)⟩)
  · exact .inr h
theorem tabs_back {T : List (Addr × Str)} {cl : List (Str × Addr)} {H H1 : Hp} (out : ∀ b, (∃ x, cl.lookup x = some b) → H1 b = none) (t : Tabs T H1) : Tabs T (back cl H H1) := t.ext fun _ _ e => back_of out e
theorem pe_clo {i : Nat} {a : Str} {q : Str} {ps : Arguments} {bd : Expr} {sc : Scope} {N : List Str} {tb : TE} {k : Nat} {p1 p2 : Pos} (hr : Room (k + 1) X.A) (L : LScope N sc)
    (hbind : ∀ (cl : List (Str × Addr)) (pm cv ctv : Value), bindArgs (PySem.W.kla_fn "<lambda>" q ps bd sc cl pm cv ctv) ⟨[], []⟩ = pure [])
    (hbody : ∀ (f cc : Addr) (cl : List (Str × Addr)) (A : Around) (outer : List Env) (s : Shared) (H : Hp), Room k (A.deeper (clEnv q sc s.heap.objs.size f cc cl)) → PE (clCx X.prog X.w X.K X.mg X.base N q sc f cc cl A outer s H) bd tb)
    (hN : X.N[i]? = some a) (hv : Vis X.env.scope a) (hd : (a == ("__debug__" : Str)) = false := by decide) (hcd : (a == ("__classdict__" : Str)) = false := by decide) :
    PE X (.Call (.Name a p1) [] [] p2) (tClo i q ps bd sc N tb) := by
  refine ⟨fun pins s σ H Q I h => ?_⟩
  obtain ⟨f, vs, cl, cc, hs, hf, hc, C, ht⟩ := h
  refine wpAny_Call_Name_kw (thn ((pe_var (pos := p1) (i := i) hN hv hd hcd).run pins s σ H (fun v H1 => v = .ref f ∧ H1 = H) I ⟨.ref f, hs, rfl, rfl⟩) fun u s1 ⟨v, H1, I1, r1, q1⟩ => ?_)
  obtain ⟨ev, eH⟩ := q1
  subst ev
  rw [eH] at I1
  obtain rfl : u = Value.ref f := r1
  obtain ⟨⟨pm, ctv, of1⟩, _, _⟩ := I1.hok f _ hf
  refine PySem.W.callWith_F0 ⟨_, _, _, _, of1⟩ ?_
  exact clo_run I1 hf hc C hr L (fun pm ctv => hbind cl pm _ ctv) (hbody f cc cl) ht
end
end Fk
/-! Bs: rules that the layer lacks (a slice with a step, count of tuples), relations between heaps, lists and what they stand for, a comprehension's general form. -/
namespace Fk
open PySem PySem.Spec PyProof.Rows L2 LamX
/-! ### xs[i:j:k] -/
def pickV (xs : List V) (lo hi st : Option Int) : List V := (sliceRange (sliceBounds lo hi st xs.length).1 (sliceBounds lo hi st xs.length).2.1 (sliceBounds lo hi st xs.length).2.2).filterMap (xs[·]?)
theorem vals_pick {xs : List V} {us : List Value} (r : Vals xs us) : ∀ l : List Nat, Vals (l.filterMap (xs[·]?)) (l.filterMap (us[·]?))
  | [] => .nil
  | i :: l => by
    have ih := vals_pick r l
    cases e : xs[i]? with
    | none =>
      rw [List.filterMap_cons_none e, List.filterMap_cons_none (r.none_of e)]
      exact ih
    | some x =>
      obtain ⟨u, e2, ru⟩ := r.get e
      rw [List.filterMap_cons_some e, List.filterMap_cons_some e2]
      exact .cons ru ih
def tSl3 (K : PySem.W.Frag) (te : TE) (tl th ts : TO) : TE := fun σ H Q => te σ H fun x H1 => tl σ H1 fun l H2 => th σ H2 fun u H3 => ts σ H3 fun o H4 => ∃ a xs, x = .ref a ∧ SqL K H4 a xs ∧ o ≠ some 0 ∧ ∀ p, H4 p = none → Q (.ref p) (upd H4 p (.lst (pickV xs l u o)))
theorem pe_sl3 {X : Cx} {e est : Expr} {lo hi : Option Expr} {p3 pos : Pos} {te : TE} {tl th ts : TO} (he : PE X e te) (hl : PO X lo tl) (hu : PO X hi th) (hs : PO X (some est) ts) : PE X (.Subscript e (.Slice lo hi (some est) p3) pos) (tSl3 X.K te tl th ts) := by
  refine ⟨fun pins s σ H Q I h => ?_⟩
  refine Subscript_ (thn (he.run pins s σ H _ I h) fun v s1 ⟨x, H1, I1, r1, q1⟩ => ?_)
  refine wpAny_Slice (thn (hl.run pins s1 σ H1 _ I1 q1) fun vl s2 ⟨l, H2, I2, pl, q2⟩ => thn (hu.run pins s2 σ H2 _ I2 q2) fun vu s3 ⟨u, H3, I3, pu, q3⟩ => thn (hs.run pins s3 σ H3 _ I3 q3) fun vs s4 ⟨o, H4, I4, ps, q4⟩ => ?_)
  obtain ⟨a, xs, rfl, hx, h0, q⟩ := q4
  cases r1
  have I5 : Inv X pins σ H4 { s4 with heap := s4.heap.push { cls := .type "slice", data := .fields #[vl, vu, vs] } } := I4.kept (t' := s4.toks) fun b ob z => Heap.get?_push_of_some _ z
  obtain ⟨its, r, ht, hz⟩ := I5.list hx
  have hlen := r.length
  show wpAny (model X.prog X.w) X.A (subscriptTail e (.Slice lo hi (some est) p3) (.ref a) (.ref s4.heap.objs.size)) (EP X pins σ Q) X.xe { s4 with heap := s4.heap.push { cls := .type "slice", data := .fields #[vl, vu, vs] } }
  refine tail_any (ops := [.ref a, .ref s4.heap.objs.size]) ht.isList.typeIs (PySem.slot_list_getitem.lookup) ?_ (by with_unfolding_all rfl)
  refine wpAny_getItem_list_slice ht.isList (Heap.IsSliceOf.new _ vl vu vs) pl pu ps h0 ?_ (by rw [List.size_toArray]; omega)
  have e1 : slicePick its.toArray l u o = ((sliceRange (sliceBounds l u o xs.length).1 (sliceBounds l u o xs.length).2.1 (sliceBounds l u o xs.length).2.2).filterMap (its[·]?)).toArray := by
    unfold slicePick
    rw [List.size_toArray, ← hlen]
    congr 1
    congr 1
    funext i
    simp
  rw [e1]
  have hle : (pickV xs l u o).length ≤ xs.length := by
    have z := slicePick_size_le its.toArray l u o
    rw [e1, List.size_toArray, List.size_toArray] at z
    have z2 := (vals_pick r (sliceRange (sliceBounds l u o xs.length).1 (sliceBounds l u o xs.length).2.1 (sliceBounds l u o xs.length).2.2)).length
    unfold pickV
    omega
  refine ⟨.ref _, _, I5.laid (t' := s4.toks) (o := .lst (pickV xs l u o)) (fun b ob z => Heap.get?_push_of_some _ z) (Nat.le_refl _) ?_, rfl, q _ (I5.hok.fresh (Nat.le_refl _))⟩
  exact ⟨Nat.le_trans hle hz, _, 0, vals_pick r _, Heap.get?_push_size _ rfl⟩
/-! ### xs.count(d), d data -/
def rCountD (K : PySem.W.Frag) : V → List V → Hp → VK → Prop := fun x xs H Q => ∃ (a : Addr) (y : V) (d : PyData) (ds : List PyData), x = V.ref a ∧ xs = [y] ∧ Dp K H (V.ref a) (.list ds) ∧ Dp K H y d ∧
  SeqAt.shaped (.list ds) = true ∧ SeqAt.shaped d = true ∧ Q (.int ((ds.countP fun z => PyData.eqv z d : Nat) : Int)) H
theorem mt_countD {X : Cx} (hu : X.A.units + 65 < cLine) : MtR X "list.count" (rCountD X.K) := by
  intro pins s σ H x xs v us Q I rx rxs h
  obtain ⟨a, y, d, ds, rfl, rfl, hl, hy, sl, sd, q⟩ := h
  cases rx
  obtain ⟨uy, rfl, ry⟩ := rxs.one
  obtain ⟨bs, r1⟩ := Dp.reads I d y uy hy ry
  have hxs : PyData.canLayAll0 ds = true := SeqAt.canLay_of_shaped sl
  have hroom : X.A.units + 1 + min (PyData.depthAll ds) d.depth < cLine := room_in_shaped sd hu
  cases hl with
  | lst hs ha =>
    obtain ⟨its, rv, ⟨⟨cls, dd, data, sls⟩, n, ho, hc, hdn, hdt⟩, hlen⟩ := I.list hs
    simp only at hc hdt
    subst hc hdt
    obtain ⟨as, h4⟩ := Dp.readsAll I ds _ its ha rv
    have hmap : its.map (SeqAt.readOf s.heap) = ds := SeqAt.readsAll_map ds its as hxs h4
    refine call_meets PySem.F.slot_list_count ⟨_, ho, rfl⟩ PySem.F.entry_list_count (PySem.F.args_list_count_2 _ _)
      (SeqAt.list_countAt a its.toArray n dd sls uy (fun u => PyData.eqv (SeqAt.readOf s.heap u) d)) ⟨ho, SeqAt.items_eqAt (vs := its.toArray) (show ReadsAll s.heap its.toArray.toList ds as from h4) r1 hxs (SeqAt.canLay_of_shaped sd) hroom, ?_⟩
    refine ⟨.int ((ds.countP fun z => PyData.eqv z d : Nat) : Int), H, I.tok _, ⟨s.toks, ?_⟩, q⟩
    have e : List.countP (fun u => PyData.eqv (SeqAt.readOf s.heap u) d) its.toArray.toList = ds.countP fun z => PyData.eqv z d := by
      rw [← hmap, List.countP_map]
      rfl
    rw [e]
/-! ### defs, methods, classes, by what they promise -/
structure Cal (P : Program) (w : World) (K : PySem.W.Frag) (mg : Str → Option Value) (base : Heap) (k : Nat) (x : Str) (sp : Sp) : Prop where
  ex : ∃ (f : Addr) (fd : FuncData) (ps : List Str), FnOk P w K mg base CX0 k f fd ps sp ∧ mg x = some (.ref f) ∧ PySem.W.keepIn K (.ref f) = true ∧ Binds K fd ps []
structure Mak (P : Program) (w : World) (K : PySem.W.Frag) (mg : Str → Option Value) (base : Heap) (k : Nat) (x : Str) (C : Addr) (sp : Sp) : Prop where
  ex : ∃ (f : Addr) (fd : FuncData) (ps : List Str), Mk K C f ∧ FnOk P w K mg base CX0 k f fd ps sp ∧ mg x = some (.ref C) ∧ Binds K fd ps []
structure Met (P : Program) (w : World) (K : PySem.W.Frag) (mg : Str → Option Value) (base : Heap) (k : Nat) (C : Addr) (m : Str) (sp : Sp) : Prop where
  ex : ∃ (f : Addr) (fd : FuncData) (ps : List Str), Cls K C ∧ Meth K C m f ∧ FnOk P w K mg base CX0 k f fd ps sp ∧ Binds K fd ps []
section
variable {X : Cx} {k j : Nat} {C : Addr} {x m : Str} {sp : Sp} {p pos apos : Pos} {e o : Expr} {es : List Expr} {ta : TE} {t : TA}
theorem pe_c (c : Cal X.prog X.w X.K X.mg X.base k x sp) (hr : Room j X.A) (hk : k ≤ j) (hg : Gl X x) (ha : PA X (e :: es) t) (hdb : (x == ("__debug__" : Str)) = false := by decide)
    (h1 : starEach (e :: es) X.env = (false, eval e X.env) :: starEach es X.env := by rfl) (h2 : (backTo pos (starEach es X.env)).any (·.1) = false := by rfl) : PE X (.Call (.Name x p) (e :: es) [] pos) (tCall sp [] E0 t) := by
  obtain ⟨f, fd, ps, F, hm, kp, b⟩ := c.ex
  exact pe_call F (hr.mono hk) hg hm kp b .nil pass0 ha hdb h1 h2
theorem pe_mk (c : Mak X.prog X.w X.K X.mg X.base k x C sp) (hr : Room j X.A) (hk : k + 1 ≤ j) (hg : Gl X x) (ha : PA X (e :: es) t) (hdb : (x == ("__debug__" : Str)) = false := by decide)
    (h1 : starEach (e :: es) X.env = (false, eval e X.env) :: starEach es X.env := by rfl) (h2 : (backTo pos (starEach es X.env)).any (·.1) = false := by rfl) : PE X (.Call (.Name x p) (e :: es) [] pos) (tMake C sp [] E0 t) := by
  obtain ⟨f, fd, ps, M, F, hm, b⟩ := c.ex
  exact pe_make M F (hr.mono hk) hg hm b .nil pass0 ha hdb h1 h2
theorem pe_mt {pl : Sem Bool} (c : Met X.prog X.w X.K X.mg X.base k C m sp) (hr : Room j X.A) (hk : k ≤ j) (he : PE X o ta) (ha : PA X (e :: es) t)
    (h1 : starEach (e :: es) X.env = (false, eval e X.env) :: starEach es X.env := by rfl) (h2 : (backTo pos (starEach es X.env)).any (·.1) = false := by rfl)
    (ht : eval (.Call (.Attribute o m apos) (e :: es) [] pos) X.env = (do
      let ov ← eval o X.env
      standAt apos.atName
      let (f, first) ← holding [ov] (getMethod ov m pl)
      callWith pos f first (backTo pos (starEach (e :: es) X.env)) (backToKw pos (keywordEach [] X.env))) := by rfl) : PE X (.Call (.Attribute o m apos) (e :: es) [] pos) (tMeth C m sp [] E0 ta t) := by
  obtain ⟨f, fd, ps, hc, hm, F, b⟩ := c.ex
  exact pe_meth (pl := pl) he hc hm F (hr.mono hk) b .nil pass0 ha h1 h2 ht
theorem pe_mt0 {pl : Sem Bool} (c : Met X.prog X.w X.K X.mg X.base k C m sp) (hr : Room j X.A) (hk : k ≤ j) (he : PE X o ta)
    (ht : eval (.Call (.Attribute o m apos) [] [] pos) X.env = (do
      let ov ← eval o X.env
      standAt apos.atName
      let (f, first) ← holding [ov] (getMethod ov m pl)
      callWith pos f first (backTo pos (starEach [] X.env)) (backToKw pos (keywordEach [] X.env))) := by rfl) : PE X (.Call (.Attribute o m apos) [] [] pos) (tMeth C m sp [] E0 ta tNil) := by
  obtain ⟨f, fd, ps, hc, hm, F, b⟩ := c.ex
  exact pe_meth0 (pl := pl) he hc hm F (hr.mono hk) b .nil pass0 ht
/-- a module's whole number -/
theorem pe_gc {i : Int} (hg : Gl X x) (h : ∃ t, X.mg x = some (.int i t)) (hd : (x == ("__debug__" : Str)) = false := by decide) : PE X (.Name x pos) (tC (.int i)) := by
  obtain ⟨t, e⟩ := h
  exact pe_glob hg e ⟨t, rfl⟩ hd
end
def rLenQ (K : PySem.W.Frag) : List V → Hp → VK → Prop := fun xs H Q => ∃ p ys, xs = [.ref p] ∧ (SqL K H p ys ∨ SqT K H p ys) ∧ Q (.int ys.length) H
/-! ### heaps -/
/-- all but the tables stays, the tables stay good -/
def Xt (T : List (Addr × Str)) (H H' : Hp) : Prop := ExtN H H' ∧ (Tabs T H → Tabs T H')
theorem Xt.refl {T : List (Addr × Str)} (H : Hp) : Xt T H H := ⟨ExtN.refl H, id⟩
theorem Xt.trans {T : List (Addr × Str)} {H H1 H2 : Hp} (a : Xt T H H1) (b : Xt T H1 H2) : Xt T H H2 := ⟨a.1.trans b.1, fun t => b.2 (a.2 t)⟩
theorem Xt.of {T : List (Addr × Str)} {H H' : Hp} (e : Same H H') : Xt T H H' := ⟨ExtN.of e, fun t => t.ext e⟩
theorem sames {H : Hp} {p : Addr} {o : HO} (h : H p = none) : Same H (upd H p o) := fun b x e => by
  rw [upd_ne (ne_of_none e h)]
  exact e
theorem same_mut {H H' : Hp} {p : Addr} {o : HO} (e : Same H H') (h : H p = none) : Same H (upd H' p o) := fun b x z => by
  rw [upd_ne (ne_of_none z h)]
  exact e b x z
/-- a relation of a heap to later ones -/
structure Rel (E : Hp → Hp → Prop) : Prop where
  refl : ∀ H, E H H
  trans : ∀ {H H1 H2}, E H H1 → E H1 H2 → E H H2
  new : ∀ {H p o}, H p = none → E H (upd H p o)
  chg : ∀ {H H' p xs ys}, E H H' → H p = none → H' p = some (.lst xs) → E H (upd H' p (.lst ys))
  keep : ∀ {H H' p o}, E H H' → H p = some o → (∀ ps, o ≠ .tbl ps) → H' p = some o
theorem rel_same : Rel Same := ⟨Same.refl, fun a b => a.trans b, sames, fun e h _ => same_mut e h, fun e h _ => e _ _ h⟩
theorem tabs_mut {T : List (Addr × Str)} {H : Hp} {p : Addr} {xs ys : List V} (t : Tabs T H) (h : H p = some (.lst xs)) : Tabs T (upd H p (.lst ys)) := fun q hq => by
  obtain ⟨tps, a1, a2, a3⟩ := t q hq
  have n1 : q.1 ≠ p := ne_of a1 h (fun z => nomatch z)
  refine ⟨tps, by rw [upd_ne n1]; exact a1, a2, fun pos cv e => ?_⟩
  obtain ⟨c, e1, e2⟩ := a3 pos cv e
  refine ⟨c, e1, ?_⟩
  rw [upd_ne (ne_of e2 h fun z => by unfold CodeO at z; cases z)]
  exact e2
theorem rel_xt (T : List (Addr × Str)) : Rel (Xt T) := ⟨Xt.refl, fun a b => a.trans b, fun h => Xt.of (sames h),
  fun {H H' p xs ys} e h h' => ⟨fun b o z n => by rw [upd_ne (ne_of_none z h)]; exact e.1 b o z n, fun t => tabs_mut (e.2 t) h'⟩, fun e h n => e.1 _ _ h n⟩
section
variable {E : Hp → Hp → Prop} {K : PySem.W.Frag} {H H' : Hp} {a : Addr} {xs : List V}
theorem Rel.sqL (R : Rel E) (e : E H H') (h : SqL K H a xs) : SqL K H' a xs := by
  rcases h with (h | ⟨o, h⟩) | h
  · exact .inl (.inl (R.keep e h fun _ z => nomatch z))
  · exact .inl (.inr ⟨o, R.keep e h fun _ z => nomatch z⟩)
  · exact .inr h
theorem Rel.sqT (R : Rel E) (e : E H H') (h : SqT K H a xs) : SqT K H' a xs := by
  rcases h with (h | ⟨o, h⟩) | h
  · exact .inl (.inl (R.keep e h fun _ z => nomatch z))
  · exact .inl (.inr ⟨o, R.keep e h fun _ z => nomatch z⟩)
  · exact .inr h
theorem Rel.free (R : Rel E) (e : E H H') (h : H' a = none) (n : ∀ ps, H a ≠ some (.tbl ps)) : H a = none := by
  cases z : H a with
  | none => rfl
  | some o =>
    rw [R.keep e z fun ps q => n ps (by rw [z, q])] at h
    cases h
/-- a tuple stays behind whatever is done to a list -/
theorem sqT_mut {D : Addr} {acc ys : List V} (hD : H D = some (.lst acc)) (h : SqT K H a xs) : SqT K (upd H D (.lst ys)) a xs := by
  rcases h with (h | ⟨o, h⟩) | h
  · exact .inl (.inl (by rw [upd_ne (ne_of h hD fun z => nomatch z)]; exact h))
  · exact .inl (.inr ⟨o, by rw [upd_ne (ne_of h hD fun z => nomatch z)]; exact h⟩)
  · exact .inr h
theorem sqL_mut {D : Addr} {acc ys : List V} (hD : H D = some (.lst acc)) (n : a ≠ D) (h : SqL K H a xs) : SqL K (upd H D (.lst ys)) a xs := by
  rcases h with (h | ⟨o, h⟩) | h
  · exact .inl (.inl (by rw [upd_ne n]; exact h))
  · exact .inl (.inr ⟨o, by rw [upd_ne n]; exact h⟩)
  · exact .inr h
end
/-! ### a list and what its items stand for -/
def AllR {α : Type} (R : V → α → Prop) (xs : List V) (ys : List α) : Prop := xs.length = ys.length ∧ ∀ (i : Nat) v y, xs[i]? = some v → ys[i]? = some y → R v y
section
variable {α β : Type} {R S : V → α → Prop} {xs : List V} {ys : List α} {v : V} {y : α}
theorem AllR.nil : AllR R [] ([] : List α) := ⟨rfl, fun i v y h _ => by simp at h⟩
theorem AllR.imp (h : AllR R xs ys) (f : ∀ v y, R v y → S v y) : AllR S xs ys := ⟨h.1, fun i v y a b => f v y (h.2 i v y a b)⟩
theorem AllR.snoc (h : AllR R xs ys) (r : R v y) : AllR R (xs ++ [v]) (ys ++ [y]) := by
  refine ⟨by rw [List.length_append, List.length_append, h.1] <;> rfl, fun i w z e1 e2 => ?_⟩
  by_cases hi : i < xs.length
  · rw [List.getElem?_append_left hi] at e1
    rw [List.getElem?_append_left (by rw [← h.1]; exact hi)] at e2
    exact h.2 i w z e1 e2
  · rw [List.getElem?_append_right (by omega)] at e1
    rw [List.getElem?_append_right (by rw [← h.1]; omega)] at e2
    cases q : i - xs.length with
    | zero =>
      rw [q] at e1
      rw [← h.1, q] at e2
      cases e1
      cases e2
      exact r
    | succ n =>
      rw [q] at e1
      simp at e1
theorem AllR.cons (r : R v y) (h : AllR R xs ys) : AllR R (v :: xs) (y :: ys) := by
  refine ⟨by rw [List.length_cons, List.length_cons, h.1], fun i w z e1 e2 => ?_⟩
  cases i with
  | zero =>
    cases e1
    cases e2
    exact r
  | succ i => exact h.2 i w z e1 e2
theorem AllR.get (h : AllR R xs ys) {i : Nat} (e : ys[i]? = some y) : ∃ v, xs[i]? = some v ∧ R v y := by
  have hi : i < xs.length := by
    rw [h.1]
    exact (List.getElem?_eq_some_iff.mp e).1
  exact ⟨xs[i], List.getElem?_eq_getElem hi, h.2 i _ y (List.getElem?_eq_getElem hi) e⟩
theorem AllR.getV (h : AllR R xs ys) {i : Nat} (e : xs[i]? = some v) : ∃ y, ys[i]? = some y ∧ R v y := by
  have hi : i < ys.length := by
    rw [← h.1]
    exact (List.getElem?_eq_some_iff.mp e).1
  exact ⟨ys[i], List.getElem?_eq_getElem hi, h.2 i v _ e (List.getElem?_eq_getElem hi)⟩
theorem AllR.drop (h : AllR R xs ys) (n : Nat) : AllR R (xs.drop n) (ys.drop n) :=
  ⟨by rw [List.length_drop, List.length_drop, h.1], fun i v y a b => h.2 (n + i) v y (by rw [← List.getElem?_drop]; exact a) (by rw [← List.getElem?_drop]; exact b)⟩
theorem AllR.set (h : AllR R xs ys) (n : Nat) (r : R v y) : AllR R (xs.set n v) (ys.set n y) := by
  refine ⟨by rw [List.length_set, List.length_set, h.1], fun i w z a b => ?_⟩
  by_cases e : n = i
  · subst e
    have hn : n < xs.length := by
      have := (List.getElem?_eq_some_iff.mp a).1
      rwa [List.length_set] at this
    rw [List.getElem?_set_self hn] at a
    rw [List.getElem?_set_self (by rw [← h.1]; exact hn)] at b
    cases a
    cases b
    exact r
  · rw [List.getElem?_set_ne e] at a b
    exact h.2 i w z a b
theorem AllR.map (h : AllR R xs ys) (f : α → β) {S : V → β → Prop} (k : ∀ v y, R v y → S v (f y)) : AllR S xs (ys.map f) :=
  ⟨by rw [List.length_map, h.1], fun i v z a b => by
    rw [List.getElem?_map] at b
    cases q : ys[i]? with
    | none =>
      rw [q] at b
      cases b
    | some y =>
      rw [q] at b
      cases b
      exact k v y (h.2 i v y a q)⟩
theorem allR_ints : ∀ {xs : List V} {ns : List Int}, AllR (fun v n => v = V.int n) xs ns → xs = ns.map V.int := fun {xs ns} h => by
  refine List.ext_getElem? fun i => ?_
  rw [List.getElem?_map]
  cases q : ns[i]? with
  | none =>
    have : ns.length ≤ i := List.getElem?_eq_none_iff.mp q
    exact List.getElem?_eq_none (by rw [h.1]; exact this)
  | some n =>
    obtain ⟨v, e, r⟩ := h.get q
    rw [e, r]
    rfl
theorem allR_dp {K : PySem.W.Frag} {H : Hp} {f : α → PyData} : ∀ {xs : List V} {ys : List α}, AllR (fun v y => Dp K H v (f y)) xs ys → DpAll K H xs (ys.map f)
  | [], [], _ => .nil
  | [], _ :: _, h => nomatch h.1
  | _ :: _, [], h => nomatch h.1
  | x :: xs, y :: ys, h => .cons (h.2 0 x y rfl rfl) (allR_dp ⟨Nat.succ.inj h.1, fun i v z a b => h.2 (i + 1) v z a b⟩)
end
/-! ### a comprehension: item by item, what the items stand for; E: how heaps follow one another; D: the new list -/
def outs {α : Type} (f : Nat → Option α) (n : Nat) : List α := (List.range n).filterMap f
theorem outs_succ {α : Type} (f : Nat → Option α) (n : Nat) : outs f (n + 1) = outs f n ++ (f n).toList := by
  unfold outs
  rw [List.range_succ, List.filterMap_append]
  cases h : f n with
  | none => simp [h]
  | some y => simp [h]
theorem outs_len {α : Type} (f : Nat → Option α) : ∀ n, (outs f n).length ≤ n
  | 0 => Nat.le_refl _
  | n + 1 => by
    rw [outs_succ, List.length_append]
    have := outs_len f n
    cases f n <;> simp <;> omega
theorem outs_congr {α : Type} {f g : Nat → Option α} {n : Nat} (h : ∀ i, i < n → f i = g i) : outs f n = outs g n := by
  induction n with
  | zero => rfl
  | succ n ih => rw [outs_succ, outs_succ, ih fun i hi => h i (by omega), h n (by omega)]
theorem outs_all {α : Type} (f : Nat → α) (n : Nat) : outs (fun i => some (f i)) n = (List.range n).map f := by
  unfold outs
  rw [List.filterMap_eq_map']
theorem lcE {E : Hp → Hp → Prop} (RE : Rel E) {α : Type} {R : Hp → V → α → Prop} {J : It} {n : Nat} {G : Hp → Prop} {Y : Nat → Hp → V → Hp → Prop} (w : Walk J n G Y) (f : Nat → Option α) {g : TG} {tt : TT} {te : TE} {vs : List Nat} {σ : L2.St} {H1 : Hp} {D : Addr} {Qd : Hp → Prop}
    (hD : H1 D = none) (hn : n ≤ 100000) (hG : ∀ H, E H1 H → G H) (hY : ∀ i H x H', E H1 H → Y i H x H' → E H H') (rE : ∀ H H' v y, E H1 H → E H H' → R H v y → R H' v y) (rM : ∀ H v y acc xs, H D = some (.lst acc) → R H v y → R (upd H D (.lst xs)) v y)
    (turn : ∀ i x H H' acc (C : Option V → Hp → Prop), i < n → E H1 H → E H1 H' → H' D = some (.lst acc) → Y i H x H' → (∀ v H2, E H' H2 → (∀ y, f i = some y → R H2 v y) → f i ≠ none → C (some v) H2) → (∀ H2, E H' H2 → f i = none → C none H2) →
      g x (wipe σ vs) H' fun σ2 H2 => wipe σ2 vs = wipe σ vs ∧ tt σ2 H2 fun b H3 => if b = true then te σ2 H3 fun y H4 => C (some y) H4 else C none H3)
    (hd : ∀ H2 xs, H2 D = some (.lst xs) → E H1 H2 → AllR (R H2) xs (outs f n) → Qd H2) :
    ∃ W : Nat → Nat → Hp → Prop, (∃ m, W 0 m (upd H1 D (.lst []))) ∧ ∀ i m H, W i m H →
      (J.stop i H ∧ Qd H) ∨ (J.go i H ∧ ∃ Nx : Hp → Prop, (∀ H', Nx H' → ∃ m', m' < m ∧ W (i + 1) m' H') ∧ ∀ x H', J.yld i H x H' → g x (wipe σ vs) H' fun σ2 H2 => wipe σ2 vs = wipe σ vs ∧ tt σ2 H2 fun b H3 =>
        if b = true then te σ2 H3 fun y H4 => ∃ acc, H4 D = some (.lst acc) ∧ acc.length < sizeLine ∧ Nx (upd H4 D (.lst (acc ++ [y]))) else Nx H3) := by
  have lk : ∀ {H H' : Hp} {xs : List V}, E H H' → H D = some (.lst xs) → H' D = some (.lst xs) := fun e h => RE.keep e h fun _ z => nomatch z
  refine lc_it w (fun i H => ∃ xs, H D = some (.lst xs) ∧ E H1 H ∧ AllR (R H) xs (outs f i)) ⟨[], upd_same, RE.new hD, AllR.nil⟩ (fun i H _ p => hG H p.choose_spec.2.1) (fun i x H H' hi p y => ?_) fun H p => ?_
  · obtain ⟨xs, h1, h2, h3⟩ := p
    have e1 : E H H' := hY i H x H' h2 y
    have hl : xs.length ≤ i := by
      rw [h3.1]
      exact outs_len f i
    refine turn i x H H' xs (fun o H4 => match o with
      | some y => ∃ acc, H4 D = some (.lst acc) ∧ acc.length < sizeLine ∧ ∃ zs, upd H4 D (.lst (acc ++ [y])) D = some (.lst zs) ∧ E H1 (upd H4 D (.lst (acc ++ [y]))) ∧ AllR (R (upd H4 D (.lst (acc ++ [y])))) zs (outs f (i + 1))
      | none => ∃ zs, H4 D = some (.lst zs) ∧ E H1 H4 ∧ AllR (R H4) zs (outs f (i + 1))) hi h2 (RE.trans h2 e1) (lk e1 h1) y (fun v H2 e r hf => ?_) fun H2 e hf => ?_
    · have k2 := lk e (lk e1 h1)
      have eH2 : E H1 H2 := RE.trans h2 (RE.trans e1 e)
      refine ⟨xs, k2, Nat.lt_of_le_of_lt hl (Nat.lt_of_lt_of_le (show i < 100001 by omega) (by decide)), xs ++ [v], upd_same, RE.chg eH2 hD k2, ?_⟩
      cases hfi : f i with
      | none => exact absurd hfi hf
      | some y =>
        rw [outs_succ, hfi]
        have h3' : AllR (R H2) xs (outs f i) := h3.imp fun v y r => rE H H2 v y h2 (RE.trans e1 e) r
        exact (h3'.imp fun v y r => rM H2 v y xs _ k2 r).snoc (rM H2 v y xs _ k2 (r y hfi))
    · refine ⟨xs, lk e (lk e1 h1), RE.trans h2 (RE.trans e1 e), ?_⟩
      rw [outs_succ, hf]
      have h3' : AllR (R H2) xs (outs f i) := h3.imp fun v y r => rE H H2 v y h2 (RE.trans e1 e) r
      simpa using h3'
  · obtain ⟨xs, h1, h2, h3⟩ := p
    exact hd H xs h1 h2 h3
end Fk
/-! A1: fractions, is_whole. -/
namespace Fk
open PySem PySem.Spec PyProof.Rows L2 LamX
def low (t b : Int) : Int × Int := (t / (Int.gcd t b : Nat), b / (Int.gcd t b : Nat))
/-- a new tuple is told -/
def RetT (xs : List V) (H : Hp) (Q : VK) : Prop := ∀ p H2, H p = none → Same H H2 → H2 p = some (.tup xs) → Q (.ref p) H2
def frV (p : Int × Int) : List V := [.int p.1, .int p.2]
def spDivisor : Sp := fun vs H Q _ => ∃ a b : Int, vs = [.int a, .int b] ∧ 0 ≤ b ∧ Q (.int (Int.gcd a b : Nat)) H
def spShare : Sp := fun vs H Q _ => ∃ a b : Int, vs = [.int a, .int b] ∧ 0 < b ∧ b.natAbs < 2 ^ 1000 ∧ RetT (frV (low a b)) H Q
def spTimes (K : PySem.W.Frag) : Sp := fun vs H Q _ => ∃ (a b : Addr) (x y : Int × Int), vs = [.ref a, .ref b] ∧ SqT K H a (frV x) ∧ SqT K H b (frV y) ∧ (-(2 ^ 64) < x.1 ∧ x.1 < 2 ^ 64) ∧ (0 < x.2 ∧ x.2 < 2 ^ 64) ∧ (0 < y.2 ∧ y.2 < 2 ^ 64) ∧ RetT (frV (low (x.1 * y.1) (x.2 * y.2))) H Q
theorem gcd_step {a b : Int} (hb : 0 < b) : Int.gcd b (a % b) = Int.gcd a b := by
  have e : a = b * (a / b) + a % b := (Int.mul_ediv_add_emod a b).symm
  refine Nat.dvd_antisymm (Int.dvd_gcd ?_ (Int.gcd_dvd_left _ _)) (Int.dvd_gcd (Int.gcd_dvd_right _ _) ?_)
  · have h1 : ((Int.gcd b (a % b) : Nat) : Int) ∣ b * (a / b) + a % b := Int.dvd_add (Int.dvd_trans (Int.gcd_dvd_left _ _) (Int.dvd_mul_right _ _)) (Int.gcd_dvd_right _ _)
    rw [← e] at h1
    exact h1
  · rw [Int.emod_def]
    exact Int.dvd_sub (Int.gcd_dvd_left _ _) (Int.dvd_trans (Int.gcd_dvd_right _ _) (Int.dvd_mul_right _ _))
theorem gcd_lt {a b : Int} (hb : 0 < b) {n : Nat} (h : b.natAbs < 2 ^ n) : ((Int.gcd a b : Nat) : Int).natAbs < 2 ^ n := by
  have h1 : Int.gcd a b ∣ b.natAbs := Int.gcd_dvd_natAbs_right a b
  have h2 := Nat.le_of_dvd (by omega) h1
  show Int.natAbs ((Int.gcd a b : Nat) : Int) < 2 ^ n
  rw [Int.natAbs_natCast]
  omega
theorem gcd_pos {a b : Int} (hb : 0 < b) : (0 : Int) < (Int.gcd a b : Nat) := by
  have : Int.gcd a b ≠ 0 := fun z => by
    have := (Int.gcd_eq_zero_iff.mp z).2
    omega
  omega
section
variable {P : Program} {w : World} {K : PySem.W.Frag} {mg : Str → Option Value} {base : Heap} {f : Addr} {fd : FuncData}
theorem ok_divisor (F : FnP K "divisor" "divisor" s_divisor f fd) (m_abs : mg "abs" = none) : FnOk P w K mg base CX0 1 f fd ["one", "other"] spDivisor := by
  refine F.ok c_divisor (fun vs H Q E h => ?_) (fun cdv A outer s H vs Q E hr h => ⟨_, PSs.nox (pss_cons (ps_while PassesOwn.never (pt_cmpR op_ne (pv 1) pe_int (nomark _)) (pss_one (ps_par (i := 0) (j := 1) (by rfl) c_divisor.nd rfl rfl (by decide) rfl rfl (pa_cons (pv 1) (pa_cons (pe_op op_mod (pv 0) (pv 1)) pa_nil)) (by rfl))))
      (pss_one (ps_ret (pe_callB call_abs (by rfl) m_abs (by decide +kernel) (pa_cons (pv 0) pa_nil))))), ?_⟩)
  · obtain ⟨a, b, rfl, _⟩ := h
    rfl
  · obtain ⟨a, b, rfl, hb, q⟩ := h
    refine ⟨fun m σ H' => ∃ x y : Int, σ = [some (.int x), some (.int y)] ∧ H' = H ∧ 0 ≤ y ∧ m = y.toNat ∧ Int.gcd x y = Int.gcd a b, ⟨_, a, b, rfl, rfl, hb, rfl, rfl⟩, fun m σ H' hW => ?_⟩
    obtain ⟨x, y, rfl, rfl, hy, rfl, hg⟩ := hW
    refine ⟨_, rfl, rfl, _, rfl, ?_⟩
    by_cases h0 : y = 0
    · subst h0
      refine iteNS (c := V.int 0 = V.int 0) rfl ?_
      refine ⟨_, rfl, _, rfl, ?_⟩
      rw [Int.gcd_zero_right] at hg
      have e : (if x < 0 then -x else x) = ((Int.gcd a b : Nat) : Int) := by
        rw [← hg]
        split <;> omega
      rw [e]
      exact q
    · have e : (!decide (V.int y = V.int 0)) = true := by
        rw [decide_eq_false (fun z => h0 (V.int.inj z))]
        rfl
      rw [e]
      refine iteT ?_
      have hp : 0 < y := by omega
      refine ⟨fun σ' H2 => ∃ x2 y2 : Int, σ' = [some (.int x2), some (.int y2)] ∧ H2 = H' ∧ 0 ≤ y2 ∧ y2.toNat < y.toNat ∧ Int.gcd x2 y2 = Int.gcd a b, fun σ' H2 hN => ?_, ?_⟩
      · obtain ⟨x2, y2, e1, e2, e3, e4, e5⟩ := hN
        exact ⟨_, e4, x2, y2, e1, e2, e3, rfl, e5⟩
      · refine ⟨_, rfl, _, rfl, _, rfl, _, _, rfl, rfl, hp, _, _, rfl, y, x % y, rfl, rfl, Int.emod_nonneg x h0, ?_, ?_⟩
        · have := Int.emod_lt_of_pos x hp
          omega
        · rw [gcd_step hp]
          exact hg
theorem ok_share (F : FnP K "share" "share" s_share f fd) (C_divisor : Cal P w K mg base 1 "divisor" spDivisor) : FnOk P w K mg base CX0 2 f fd ["top", "bottom"] spShare := by
  refine F.ok c_share (fun vs H Q E h => ?_) (fun cdv A outer s H vs Q E hr h => ⟨_, PSs.nox (pss_cons (ps_if (pt_cmpR op_lt (pv 1) pe_int (nomark _)) pss_never pss_nil)
      (pss_cons (ps_set (i := 2) c_share.nd rfl (Or.inl rfl) (pe_c C_divisor hr (by decide) (by rfl) (pa_cons (pv 0) (pa_cons (pv 1) pa_nil))))
      (pss_one (ps_ret (pe_tup (pa_cons (pe_op op_fdivW (pv 0) (pv 2)) (pa_cons (pe_op op_fdivW (pv 1) (pv 2)) pa_nil))))))), ?_⟩)
  · obtain ⟨a, b, rfl, _⟩ := h
    rfl
  · obtain ⟨a, b, rfl, hb, hl, q⟩ := h
    refine ⟨_, rfl, _, _, rfl, rfl, _, rfl, ite2 (fun e => ?_) fun e => ?_⟩
    · exact absurd (of_decide_eq_true e) (by omega)
    · have hg := gcd_pos (a := a) hb
      refine ⟨_, rfl, _, rfl, a, b, rfl, by omega, ?_⟩
      refine ⟨_, rfl, _, rfl, _, _, rfl, rfl, wide_div hg (gcd_lt hb hl) (by decide) (by decide), _, rfl, _, rfl, _, _, rfl, rfl, wide_div hg (gcd_lt hb hl) (by decide) (by decide), by show 2 ≤ sizeLine; decide, fun p hp => ?_⟩
      exact q p _ hp (sames hp) upd_same
theorem ok_times (F : FnP K "times" "times" s_times f fd) (C_share : Cal P w K mg base 2 "share" spShare) : FnOk P w K mg base CX0 3 f fd ["one", "other"] (spTimes K) := by
  refine F.ok c_times (fun vs H Q E h => ?_) (fun cdv A outer s H vs Q E hr h => ⟨_, PSs.nox (pss_one (ps_ret (pe_c C_share hr (by decide) (by rfl) (pa_cons (pe_op op_mul (pe_ix ix_tup (pv 0) pe_int (fun _ _ => rfl)) (pe_ix ix_tup (pv 1) pe_int (fun _ _ => rfl))) (pa_cons (pe_op op_mul (pe_ix ix_tup (pv 0) pe_int (fun _ _ => rfl)) (pe_ix ix_tup (pv 1) pe_int (fun _ _ => rfl))) pa_nil))))), ?_⟩)
  · obtain ⟨a, b, x, y, rfl, _⟩ := h
    rfl
  · obtain ⟨a, b, x, y, rfl, ha, hb, h1, h2, h3, q⟩ := h
    refine ⟨_, rfl, a, _, 0, .int x.1, rfl, rfl, ha, rfl, _, rfl, b, _, 0, .int y.1, rfl, rfl, hb, rfl, _, _, rfl, rfl, .inl h1, ?_⟩
    refine ⟨_, rfl, a, _, 1, .int x.2, rfl, rfl, ha, rfl, _, rfl, b, _, 1, .int y.2, rfl, rfl, hb, rfl, _, _, rfl, rfl, .inl ⟨by omega, h2.2⟩, ?_⟩
    refine ⟨_, _, rfl, Int.mul_pos h2.1 h3.1, ?_, q⟩
    exact Nat.lt_of_lt_of_le (wide_lt (a := 64) (b := 64) (by omega) (by omega)) (Nat.pow_le_pow_right (by decide) (by decide))
end
end Fk
/-! A2: the law's cells, rows, fractions; is_whole. -/
namespace Fk
open PySem PySem.Spec PyProof.Rows L2 LamX
/-- a new list is told -/
def RetLs (xs : List V) (H : Hp) (Q : VK) : Prop := ∀ p H2, H p = none → Same H H2 → H2 p = some (.lst xs) → Q (.ref p) H2
def spCell (K : PySem.W.Frag) : Sp := fun vs H Q _ => ∃ (a : Addr) (ns : List Int) (k : Nat), vs = [.ref a, .int k] ∧ SqL K H a (ns.map V.int) ∧ ∀ n, Q (.int n) H
def spMix : Sp := fun vs H Q _ => ∃ a k : Int, vs = [.int a, .int k] ∧ ∀ n, Q (.int n) H
def spRow : Sp := fun vs H Q _ => ∃ (c b : Int) (m : Nat) (most : Int), vs = [.int c, .int b, .int m, .int most] ∧ m ≤ 100 ∧ 0 < most ∧ most < 2 ^ 64 ∧ ∀ ns : List Int, ns.length = m → (∀ n ∈ ns, 0 ≤ n ∧ n < most) → RetLs (ns.map V.int) H Q
def spWhole : Sp := fun vs H Q _ => ∃ n : Int, vs = [.int n] ∧ Q (.bl true) H
def spIsWhole : Sp := fun vs H Q _ => ∃ n lo hi : Int, vs = [.int n, .int lo, .int hi] ∧ lo ≤ n ∧ n ≤ hi ∧ Q (.bl true) H
def spLow : Sp := fun vs H Q _ => ∃ a b : Int, vs = [.int a, .int b] ∧ 0 < b ∧ b.natAbs < 2 ^ 1000 ∧ RetT (frV (low a b)) H Q
theorem abs_gcd (a b : Int) : Int.gcd (if a < 0 then -a else a) b = Int.gcd a b := by
  split
  · exact Int.neg_gcd
  · rfl
theorem isi_int {K : PySem.W.Frag} : PySem.W.kitOne K (.type "int") (.type "int") = some true := kit_ty (by decide +kernel)
theorem isi_bool {K : PySem.W.Frag} : PySem.W.kitOne K (.type "int") (.type "bool") = some false := kit_ty (by decide +kernel)
section
variable {P : Program} {w : World} {K : PySem.W.Frag} {mg : Str → Option Value} {base : Heap} {f : Addr} {fd : FuncData}
theorem ok_law_cell (F : FnP K "_law_cell" "_law_cell" s__law_cell f fd) (m_len : mg "len" = none) : FnOk P w K mg base CX0 1 f fd ["_law_script", "_law_k"] (spCell K) := by
  refine F.ok c__law_cell (fun vs H Q E h => ?_) (fun cdv A outer s H vs Q E hr h => ⟨_, PSs.nox (pss_cons (ps_if (pt_cmpR op_lt (pv 1) (pe_callB call_len_seq (by rfl) m_len PySem.boot_len (pa_cons (pv 0) pa_nil)) (nomark _)) (pss_one (ps_ret (pe_ix ix_list (pv 0) (pv 1) (fun _ _ => rfl)))) pss_nil)
      (pss_one (ps_ret (pe_op op_add (pe_op op_mul pe_int (pv 1)) pe_int)))), ?_⟩)
  · obtain ⟨a, ns, k, rfl, _⟩ := h
    rfl
  · obtain ⟨a, ns, k, rfl, hS, q⟩ := h
    refine ⟨_, rfl, _, rfl, a, _, rfl, .inl hS, _, _, rfl, rfl, _, rfl, ite2 (fun e => ?_) fun e => ?_⟩
    · have hk : k < ns.length := by
        have := of_decide_eq_true e
        rw [List.length_map] at this
        omega
      refine ⟨_, rfl, _, rfl, a, _, k, .int ns[k], rfl, rfl, hS, atI_nat ?_, q _⟩
      rw [List.getElem?_map, List.getElem?_eq_getElem hk]
      rfl
    · exact ⟨_, rfl, _, _, rfl, rfl, .inl ⟨by decide, by decide⟩, _, _, rfl, rfl, q _⟩
theorem ok_law_mix (F : FnP K "_law_mix" "_law_mix" s__law_mix f fd) : FnOk P w K mg base CX0 1 f fd ["_law_cell_here", "_law_k"] spMix := by
  refine F.ok c__law_mix (fun vs H Q E h => ?_) (fun cdv A outer s H vs Q E hr h => ⟨_, PSs.nox (pss_cons (ps_set (i := 2) c__law_mix.nd rfl (Or.inl rfl) (pe_op op_mod (pe_op op_mul (pe_op op_add (pe_op op_add (pe_op op_mod (pv 0) pe_int) (pe_op op_mul pe_int (pv 1))) pe_int) pe_int) pe_int))
      (pss_cons (ps_set (i := 2) c__law_mix.nd rfl (Or.inl rfl) (pe_op op_mod (pe_op op_add (pe_op op_mul (pv 2) (pv 2)) (pe_op op_mul pe_int (pv 1))) pe_int))
      (pss_one (ps_ret (pe_op op_mod (pe_op op_mul (pv 2) (pe_op op_add (pv 2) pe_int)) pe_int))))), ?_⟩)
  · obtain ⟨a, k, rfl, _⟩ := h
    rfl
  · obtain ⟨a, k, rfl, q⟩ := h
    refine ⟨_, rfl, _, _, rfl, rfl, by show (0 : Int) < 2147483629; decide, _, rfl, _, _, rfl, rfl, .inl ⟨by decide, by decide⟩, _, _, rfl, rfl, _, _, rfl, rfl, _, _, rfl, rfl, .inr ⟨by decide, by decide⟩, _, _, rfl, rfl, by show (0 : Int) < 2147483647; decide, ?_⟩
    have b1 := Int.emod_nonneg ((a % 2147483629 + 7919 * k + 17) * 48271) (show (2147483647 : Int) ≠ 0 by decide)
    have b2 := Int.emod_lt_of_pos ((a % 2147483629 + 7919 * k + 17) * 48271) (show (0 : Int) < 2147483647 by decide)
    refine ⟨_, rfl, _, rfl, _, _, rfl, rfl, .inl ⟨by omega, by omega⟩, _, rfl, _, _, rfl, rfl, .inl ⟨by decide, by decide⟩, _, _, rfl, rfl, _, _, rfl, rfl, by show (0 : Int) < 2147483629; decide, ?_⟩
    generalize hz : ((a % 2147483629 + 7919 * k + 17) * 48271 % 2147483647 * ((a % 2147483629 + 7919 * k + 17) * 48271 % 2147483647) + 3 * k) % 2147483629 = z
    have c1 : 0 ≤ z := hz ▸ Int.emod_nonneg _ (by decide)
    have c2 : z < 2147483629 := hz ▸ Int.emod_lt_of_pos _ (by decide)
    exact ⟨_, rfl, _, rfl, _, _, rfl, rfl, _, _, rfl, rfl, .inl ⟨by omega, by omega⟩, _, _, rfl, rfl, by show (0 : Int) < 2147483587; decide, q _⟩
theorem ok_law_row (F : FnP K "_law_row" "_law_row" s__law_row f fd) (C_law_mix : Cal P w K mg base 1 "_law_mix" spMix) (m_range : mg "range" = none) : FnOk P w K mg base CX0 2 f fd ["_law_cell_here", "_law_bit", "_law_many", "_law_most"] spRow := by
  refine F.ok c__law_row (fun vs H Q E h => ?_) (fun cdv A outer s H vs Q E hr h => ⟨_, PSs.nox (pss_cons (ps_set (i := 4) c__law_row.nd rfl (Or.inl rfl) (pe_lst pa_nil))
      (pss_cons (ps_for PassesOwn.never rfl (pi_range1 (by rfl) m_range (pa_cons (pv 2) pa_nil)) (pg_name (i := 5) c__law_row.nd rfl (Or.inl rfl)) (pss_one (ps_if (pt_cmpR op_eq (pe_op op_mod (pv 1) pe_int) pe_int (nomark _)) (pss_cons (ps_expr (pe_bm PySem.F.plainAttrs_list PySem.F.slot_list_append PySem.F.type_list_append mt_append (pv 4) (pa_cons (pe_op op_mod (pv 0) (pv 3)) pa_nil)))
      (pss_one (ps_set (i := 0) c__law_row.nd rfl (Or.inl rfl) (pe_op op_fdivW (pv 0) (pv 3))))) (pss_one (ps_expr (pe_bm PySem.F.plainAttrs_list PySem.F.slot_list_append PySem.F.type_list_append mt_append (pv 4) (pa_cons (pe_op op_mod (pe_c C_law_mix hr (by decide) (by rfl) (pa_cons (pv 0) (pa_cons (pv 5) pa_nil))) (pv 3)) pa_nil)))))))
      (pss_one (ps_ret (pv 4))))), ?_⟩)
  · obtain ⟨c, b, m, most, rfl, _⟩ := h
    rfl
  · obtain ⟨c, b, m, most, rfl, hm, h0, hmo, q⟩ := h
    refine ⟨Nat.zero_le _, fun o no => ?_⟩
    have e1 : Same H (upd H o (.lst [])) := sames no
    refine ⟨_, rfl, (m : Int), rfl, by omega, by omega, for_it (n := m) walk_range (fun i σ H' => ∃ (c' : Int) (ns : List Int) (y5 : Option V), σ = [some (.int c'), some (.int b), some (.int m), some (.int most), some (.ref o), y5] ∧ Same H H' ∧ H' o = some (.lst (ns.map V.int)) ∧ ns.length = i ∧ ∀ n ∈ ns, 0 ≤ n ∧ n < most)
      ⟨c, [], none, rfl, e1, upd_same, rfl, fun n hn => by cases hn⟩ (fun _ _ _ _ _ => True.intro) (fun i x σ H1 H2 hi p y => ?_) fun σ H1 p => ?_⟩
    · obtain ⟨rfl, rfl⟩ := y
      obtain ⟨c', ns, y5, rfl, s1, ho, hl, hb⟩ := p
      have hz : (ns.map V.int).length < sizeLine := by
        rw [List.length_map]
        exact Nat.lt_of_le_of_lt (show ns.length ≤ 100 by omega) (by decide)
      refine ⟨_, rfl, _, _, rfl, rfl, by show (0 : Int) < 2; decide, rfl, _, rfl, ite2 (fun e => ?_) fun e => ?_⟩
      · refine ⟨_, rfl, .inl ⟨rfl, _, SqL.of ho⟩, _, rfl, _, rfl, _, _, rfl, rfl, h0, o, _, _, rfl, rfl, ho, hz, ?_⟩
        refine ⟨_, rfl, _, rfl, _, _, rfl, rfl, wide_div (b := 64) h0 (by omega) (by decide) (by decide), ?_⟩
        refine ⟨c' / most, ns ++ [c' % most], _, rfl, ?_, ?_, by rw [List.length_append, hl] <;> rfl, fun z hz => ?_⟩
        · rw [← List.map_singleton, ← List.map_append]
          exact same_mut s1 no
        · rw [← List.map_singleton, ← List.map_append]
          exact upd_same
        · rcases List.mem_append.mp hz with h | h
          · exact hb z h
          · rw [List.mem_singleton.mp h]
            exact ⟨Int.emod_nonneg _ (by omega), Int.emod_lt_of_pos _ h0⟩
      · refine ⟨_, rfl, .inl ⟨rfl, _, SqL.of ho⟩, _, rfl, _, rfl, c', 0 + (i : Int), rfl, fun n => ?_⟩
        refine ⟨_, rfl, _, _, rfl, rfl, h0, o, _, _, rfl, rfl, ho, hz, ?_⟩
        refine ⟨c', ns ++ [n % most], _, rfl, ?_, ?_, by rw [List.length_append, hl] <;> rfl, fun z hz => ?_⟩
        · rw [← List.map_singleton, ← List.map_append]
          exact same_mut s1 no
        · rw [← List.map_singleton, ← List.map_append]
          exact upd_same
        · rcases List.mem_append.mp hz with h | h
          · exact hb z h
          · rw [List.mem_singleton.mp h]
            exact ⟨Int.emod_nonneg _ (by omega), Int.emod_lt_of_pos _ h0⟩
    · obtain ⟨c', ns, y5, rfl, s1, ho, hl, hb⟩ := p
      exact ⟨_, rfl, q ns hl hb o H1 no s1 ho⟩
theorem ok_law_whole (F : FnP K "_law_whole" "_law_whole" s__law_whole f fd) (m_isinstance : mg "isinstance" = none) (m_int : mg "int" = none) (m_bool : mg "bool" = none) : FnOk P w K mg base CX0 1 f fd ["_law_found"] spWhole := by
  refine F.ok c__law_whole (fun vs H Q E h => ?_) (fun cdv A outer s H vs Q E hr h => ⟨_, PSs.nox (pss_one (ps_ret (pe_and (pe_callB call_isi (by rfl) m_isinstance (by decide +kernel) (pa_cons (pv 0) (pa_cons (pe_bltn (v := .ty "int") (by rfl) m_int (by decide +kernel) rfl) pa_nil))) (pe_one (pe_not (pe_callB call_isi (by rfl) m_isinstance (by decide +kernel) (pa_cons (pv 0) (pa_cons (pe_bltn (v := .ty "bool") (by rfl) m_bool (by decide +kernel) rfl) pa_nil)))))))), ?_⟩)
  · obtain ⟨n, rfl, _⟩ := h
    rfl
  · obtain ⟨n, rfl, q⟩ := h
    refine ⟨_, rfl, _, _, _, _, true, rfl, .ty "int", .base (.int n), isi_int, _, rfl, iteT ?_⟩
    exact ⟨_, rfl, _, _, _, _, false, rfl, .ty "bool", .base (.int n), isi_bool, _, rfl, q⟩
theorem ok_is_whole (F : FnP K "is_whole" "is_whole" s_is_whole f fd) (m_isinstance : mg "isinstance" = none) (m_int : mg "int" = none) (m_bool : mg "bool" = none) : FnOk P w K mg base CX0 1 f fd ["thing", "low", "high"] spIsWhole := by
  refine F.ok c_is_whole (fun vs H Q E h => ?_) (fun cdv A outer s H vs Q E hr h => ⟨_, PSs.nox (pss_cons (ps_if (PW.pt (pw_or (pt_not (pt_val (pe_callB call_isi (by rfl) m_isinstance (by decide +kernel) (pa_cons (pv 0) (pa_cons (pe_bltn (v := .ty "int") (by rfl) m_int (by decide +kernel) rfl) pa_nil))))) (pw_or1 (pt_val (pe_callB call_isi (by rfl) m_isinstance (by decide +kernel) (pa_cons (pv 0) (pa_cons (pe_bltn (v := .ty "bool") (by rfl) m_bool (by decide +kernel) rfl) pa_nil))))))) (pss_one (ps_ret pe_bl)) pss_nil)
      (pss_one (ps_ret (pe_chain op_le op_le (pv 1) (pv 0) (pv 2))))), ?_⟩)
  · obtain ⟨n, lo, hi, rfl, _⟩ := h
    rfl
  · obtain ⟨n, lo, hi, rfl, h1, h2, q⟩ := h
    refine ⟨_, rfl, _, _, _, _, true, rfl, .ty "int", .base (.int n), isi_int, _, rfl, iteF ?_⟩
    refine ⟨_, rfl, _, _, _, _, false, rfl, .ty "bool", .base (.int n), isi_bool, _, rfl, iteF ?_⟩
    refine ⟨_, rfl, _, rfl, _, _, rfl, rfl, _, rfl, ?_⟩
    rw [decide_eq_true h1]
    refine iteT ⟨_, rfl, _, _, rfl, rfl, ?_⟩
    show Q (.bl (decide (n ≤ hi))) H
    rw [decide_eq_true h2]
    exact q
theorem ok_law_low (F : FnP K "_law_low" "_law_low" s__law_low f fd) (m_abs : mg "abs" = none) : FnOk P w K mg base CX0 1 f fd ["_law_top", "_law_bottom"] spLow := by
  refine F.ok c__law_low (fun vs H Q E h => ?_) (fun cdv A outer s H vs Q E hr h => ⟨_, PSs.nox (pss_cons (ps_set (i := 2) c__law_low.nd rfl (Or.inl rfl) (pe_callB call_abs (by rfl) m_abs (by decide +kernel) (pa_cons (pv 0) pa_nil)))
      (pss_cons (ps_set (i := 3) c__law_low.nd rfl (Or.inl rfl) (pv 1))
      (pss_cons (ps_while PassesOwn.never (pt_cmpR op_gt (pv 3) pe_int (nomark _)) (pss_one (ps_par (i := 2) (j := 3) (by rfl) c__law_low.nd rfl rfl (by decide) rfl rfl (pa_cons (pv 3) (pa_cons (pe_op op_mod (pv 2) (pv 3)) pa_nil)) (by rfl))))
      (pss_one (ps_ret (pe_tup (pa_cons (pe_op op_fdivW (pv 0) (pv 2)) (pa_cons (pe_op op_fdivW (pv 1) (pv 2)) pa_nil)))))))), ?_⟩)
  · obtain ⟨a, b, rfl, _⟩ := h
    rfl
  · obtain ⟨a, b, rfl, hb, hl, q⟩ := h
    refine ⟨_, rfl, _, rfl, _, rfl, ?_⟩
    refine ⟨fun m σ H' => ∃ x y : Int, σ = [some (.int a), some (.int b), some (.int x), some (.int y)] ∧ H' = H ∧ 0 ≤ y ∧ 0 ≤ x ∧ m = y.toNat ∧ Int.gcd x y = Int.gcd a b, ⟨_, _, b, rfl, rfl, by omega, by split <;> omega, rfl, abs_gcd a b⟩, fun m σ H' hW => ?_⟩
    obtain ⟨x, y, rfl, rfl, hy, hx, rfl, hg⟩ := hW
    refine ⟨_, rfl, _, _, rfl, rfl, _, rfl, ?_⟩
    by_cases h0 : 0 < y
    · rw [decide_eq_true h0]
      refine iteT ?_
      refine ⟨fun σ' H2 => ∃ x2 y2 : Int, σ' = [some (.int a), some (.int b), some (.int x2), some (.int y2)] ∧ H2 = H' ∧ 0 ≤ y2 ∧ 0 ≤ x2 ∧ y2.toNat < y.toNat ∧ Int.gcd x2 y2 = Int.gcd a b, fun σ' H2 hN => ?_, ?_⟩
      · obtain ⟨x2, y2, e1, e2, e3, e4, e5, e6⟩ := hN
        exact ⟨_, e5, x2, y2, e1, e2, e3, e4, rfl, e6⟩
      · refine ⟨_, rfl, _, rfl, _, rfl, _, _, rfl, rfl, h0, _, _, rfl, y, x % y, rfl, rfl, Int.emod_nonneg x (by omega), hy, ?_, ?_⟩
        · have := Int.emod_lt_of_pos x h0
          omega
        · rw [gcd_step h0]
          exact hg
    · have e : y = 0 := by omega
      subst e
      rw [decide_eq_false h0]
      refine iteF ?_
      rw [Int.gcd_zero_right] at hg
      have ex : x = ((Int.gcd a b : Nat) : Int) := by omega
      subst ex
      have hg := gcd_pos (a := a) hb
      refine ⟨_, rfl, _, rfl, _, _, rfl, rfl, wide_div hg (gcd_lt hb hl) (by decide) (by decide), _, rfl, _, rfl, _, _, rfl, rfl, wide_div hg (gcd_lt hb hl) (by decide) (by decide), by show 2 ≤ sizeLine; decide, fun p hp => ?_⟩
      exact q p _ hp (sames hp) upd_same
theorem ok_law_times (F : FnP K "_law_times" "_law_times" s__law_times f fd) (C_law_low : Cal P w K mg base 1 "_law_low" spLow) : FnOk P w K mg base CX0 2 f fd ["_law_one", "_law_other"] (spTimes K) := by
  refine F.ok c__law_times (fun vs H Q E h => ?_) (fun cdv A outer s H vs Q E hr h => ⟨_, PSs.nox (pss_one (ps_ret (pe_c C_law_low hr (by decide) (by rfl) (pa_cons (pe_op op_mul (pe_ix ix_tup (pv 0) pe_int (fun _ _ => rfl)) (pe_ix ix_tup (pv 1) pe_int (fun _ _ => rfl))) (pa_cons (pe_op op_mul (pe_ix ix_tup (pv 0) pe_int (fun _ _ => rfl)) (pe_ix ix_tup (pv 1) pe_int (fun _ _ => rfl))) pa_nil))))), ?_⟩)
  · obtain ⟨a, b, x, y, rfl, _⟩ := h
    rfl
  · obtain ⟨a, b, x, y, rfl, ha, hb, h1, h2, h3, q⟩ := h
    refine ⟨_, rfl, a, _, 0, .int x.1, rfl, rfl, ha, rfl, _, rfl, b, _, 0, .int y.1, rfl, rfl, hb, rfl, _, _, rfl, rfl, .inl h1, ?_⟩
    refine ⟨_, rfl, a, _, 1, .int x.2, rfl, rfl, ha, rfl, _, rfl, b, _, 1, .int y.2, rfl, rfl, hb, rfl, _, _, rfl, rfl, .inl ⟨by omega, h2.2⟩, ?_⟩
    refine ⟨_, _, rfl, Int.mul_pos h2.1 h3.1, ?_, q⟩
    exact Nat.lt_of_lt_of_le (wide_lt (a := 64) (b := 64) (by omega) (by omega)) (Nat.pow_le_pow_right (by decide) (by decide))
end
end Fk
/-! Mw: the wished shares, plain. -/
namespace Fk
theorem outs_filter {α : Type} (p : Nat → Bool) (g : Nat → α) : ∀ n, outs (fun k => if p k = true then some (g k) else none) n = ((List.range n).filter p).map g
  | 0 => rfl
  | n + 1 => by
    rw [outs_succ, outs_filter p g n, List.range_succ, List.filter_append, List.map_append]
    cases h : p n <;> simp [h]
abbrev WS : Type := (Nat → Bool) × Int
def tot (z : Nat → Int) (n : Nat) (S : Nat → Bool) : Int := (((List.range n).filter fun k => !S k).map z).sum
def fnd (z : Nat → Int) (n : Nat) (st : WS) : List Nat := (List.range n).filter fun k => !st.1 k && decide (tot z n st.1 ≤ z k * st.2)
def wstep (z : Nat → Int) (n : Nat) (st : WS) : WS := (fun k => st.1 k || decide (k ∈ fnd z n st), st.2 - (fnd z n st).length)
def witer (z : Nat → Int) (n : Nat) : Nat → WS → WS
  | 0, st => st
  | j + 1, st => wstep z n (witer z n j st)
def unset (n : Nat) (S : Nat → Bool) : Nat := ((List.range n).filter fun k => !S k).length
def st0 (m : Int) : WS := (fun _ => false, m)
theorem filter_split {α : Type} (p q : α → Bool) : ∀ l : List α, (l.filter fun x => p x && q x).length + (l.filter fun x => p x && !q x).length = (l.filter p).length
  | [] => rfl
  | a :: l => by
    have ih := filter_split p q l
    cases h1 : p a <;> cases h2 : q a <;> simp [h1, h2] <;> omega
theorem unset_step (z : Nat → Int) (n : Nat) (st : WS) : unset n (wstep z n st).1 + (fnd z n st).length = unset n st.1 := by
  have h := filter_split (fun k => !st.1 k) (fun k => decide (tot z n st.1 ≤ z k * st.2)) (List.range n)
  have e : ((List.range n).filter fun k => !(wstep z n st).1 k) = (List.range n).filter fun k => !st.1 k && !decide (tot z n st.1 ≤ z k * st.2) := by
    refine List.filter_congr fun k hk => ?_
    show (!(st.1 k || decide (k ∈ fnd z n st))) = _
    have : decide (k ∈ fnd z n st) = (!st.1 k && decide (tot z n st.1 ≤ z k * st.2)) := by
      unfold fnd
      rw [Bool.eq_iff_iff]
      simp only [decide_eq_true_eq, List.mem_filter, hk, true_and]
    rw [this]
    cases st.1 k <;> simp
  unfold unset
  rw [e]
  unfold fnd
  omega
theorem unset_le (n : Nat) (S : Nat → Bool) : unset n S ≤ n := by
  unfold unset
  have := List.length_filter_le (fun k => !S k) (List.range n)
  rw [List.length_range] at this
  exact this
theorem unset0 (n : Nat) : unset n (fun _ => false) = n := by
  unfold unset
  have e : ((List.range n).filter fun k => !(fun _ => false : Nat → Bool) k) = List.range n := List.filter_eq_self.mpr fun _ _ => rfl
  rw [e, List.length_range]
theorem iter_m (z : Nat → Int) (n : Nat) (m : Int) : ∀ j, (witer z n j (st0 m)).2 = m - ((n : Int) - (unset n (witer z n j (st0 m)).1 : Nat))
  | 0 => by
    show m = m - ((n : Int) - (unset n (fun _ => false) : Nat))
    rw [unset0]
    omega
  | j + 1 => by
    have ih := iter_m z n m j
    have h := unset_step z n (witer z n j (st0 m))
    show (witer z n j (st0 m)).2 - ((fnd z n (witer z n j (st0 m))).length : Int) = m - ((n : Int) - (unset n (wstep z n (witer z n j (st0 m))).1 : Nat))
    omega
theorem fix_of_nil {z : Nat → Int} {n : Nat} {st : WS} (h : fnd z n st = []) : wstep z n st = st := by
  unfold wstep
  rw [h]
  obtain ⟨S, m⟩ := st
  refine Prod.ext ?_ ?_
  · funext k
    simp
  · show m - (([] : List Nat).length : Int) = m
    simp
theorem iter_fix {z : Nat → Int} {n : Nat} {st : WS} (h : wstep z n st = st) : ∀ j, witer z n j st = st
  | 0 => rfl
  | j + 1 => by
    show wstep z n (witer z n j st) = st
    rw [iter_fix h j, h]
theorem iter_add (z : Nat → Int) (n : Nat) (st : WS) (i : Nat) : ∀ j, witer z n (i + j) st = witer z n j (witer z n i st)
  | 0 => rfl
  | j + 1 => by
    show wstep z n (witer z n (i + j) st) = wstep z n (witer z n j (witer z n i st))
    rw [iter_add z n st i j]
/-- where the rounds end -/
def IsFin (z : Nat → Int) (n : Nat) (m : Int) (st : WS) : Prop := (∃ j, st = witer z n j (st0 m)) ∧ (0 < m → wstep z n st = st) ∧ (¬ 0 < m → st = st0 m)
theorem fin_one {z : Nat → Int} {n : Nat} {m : Int} {s t : WS} (a : IsFin z n m s) (b : IsFin z n m t) : s = t := by
  by_cases h : 0 < m
  · obtain ⟨⟨i, ei⟩, fi, _⟩ := a
    obtain ⟨⟨j, ej⟩, fj, _⟩ := b
    have key : ∀ {s t : WS} {i j : Nat}, s = witer z n i (st0 m) → t = witer z n j (st0 m) → wstep z n s = s → i ≤ j → t = s := fun {s t i j} e1 e2 f h => by
      obtain ⟨d, rfl⟩ := Nat.exists_eq_add_of_le h
      rw [e2, iter_add, ← e1, iter_fix f]
    rcases Nat.le_total i j with h' | h'
    · exact (key ei ej (fi h) h').symm
    · exact key ej ei (fj h) h'
  · rw [a.2.2 h, b.2.2 h]
def shr (z : Nat → Int) (n : Nat) (st : WS) (k : Nat) : Int × Int := if st.1 k = true then (1, 1) else low (z k * st.2) (tot z n st.1)
def zf (zs : List Int) (k : Nat) : Int := zs.getD k 0
/-- ps are the wished shares for m by the sizes zs -/
def IsW (zs : List Int) (m : Int) (ps : List (Int × Int)) : Prop :=
  ((zs.length : Int) ≤ m ∧ ps = (List.range zs.length).map fun _ => (1, 1)) ∨ (m < zs.length ∧ ∃ st, IsFin (zf zs) zs.length m st ∧ ps = (List.range zs.length).map (shr (zf zs) zs.length st))
theorem isW_one {zs : List Int} {m : Int} {ps qs : List (Int × Int)} (a : IsW zs m ps) (b : IsW zs m qs) : ps = qs := by
  rcases a with ⟨h1, rfl⟩ | ⟨h1, s, f1, rfl⟩ <;> rcases b with ⟨h2, rfl⟩ | ⟨h2, t, f2, rfl⟩
  · rfl
  · omega
  · omega
  · rw [fin_one f1 f2]
theorem isW_len {zs : List Int} {m : Int} {ps : List (Int × Int)} (a : IsW zs m ps) : ps.length = zs.length := by
  rcases a with ⟨h1, rfl⟩ | ⟨h1, s, f1, rfl⟩ <;> simp
def SzOk (zs : List Int) : Prop := zs.length ≤ 24 ∧ ∀ z ∈ zs, 1 ≤ z ∧ z ≤ 24000000
theorem zf_ok {zs : List Int} (h : SzOk zs) {k : Nat} (hk : k < zs.length) : 1 ≤ zf zs k ∧ zf zs k ≤ 24000000 := by
  have e : zf zs k = zs[k] := by
    unfold zf
    rw [List.getD_eq_getElem?_getD, List.getElem?_eq_getElem hk]
    rfl
  rw [e]
  exact h.2 _ (List.getElem_mem hk)
theorem sum_bounds {z : Nat → Int} : ∀ {l : List Nat}, (∀ k ∈ l, 1 ≤ z k ∧ z k ≤ 24000000) → (l.length : Int) ≤ (l.map z).sum ∧ (l.map z).sum ≤ 24000000 * (l.length : Int)
  | [], _ => by simp
  | k :: l, h => by
    have h1 := h k List.mem_cons_self
    have ih := sum_bounds (z := z) (l := l) fun i hi => h i (List.mem_cons_of_mem _ hi)
    rw [List.map_cons, List.sum_cons, List.length_cons]
    omega
theorem tot_ok {zs : List Int} (h : SzOk zs) (S : Nat → Bool) : 0 ≤ tot (zf zs) zs.length S ∧ tot (zf zs) zs.length S ≤ 576000000 ∧ ∀ k, k < zs.length → S k = false → 0 < tot (zf zs) zs.length S := by
  have hb := sum_bounds (z := zf zs) (l := (List.range zs.length).filter fun k => !S k) fun k hk => zf_ok h (List.mem_range.mp (List.mem_filter.mp hk).1)
  have hl := unset_le zs.length S
  have h24 := h.1
  unfold unset at hl
  unfold tot
  refine ⟨by omega, by omega, fun k hk hS => ?_⟩
  have : 0 < ((List.range zs.length).filter fun k => !S k).length := List.length_pos_of_mem (List.mem_filter.mpr ⟨List.mem_range.mpr hk, by rw [hS]; rfl⟩)
  omega
theorem low_ok {a b : Int} (hb : 0 < b) : 0 < (low a b).2 ∧ (low a b).2 ≤ b ∧ (low a b).1.natAbs ≤ a.natAbs := by
  have hg := gcd_pos (a := a) hb
  unfold low
  refine ⟨?_, ?_, ?_⟩
  · exact Int.ediv_pos_of_pos_of_dvd hb (by omega) (Int.gcd_dvd_right _ _)
  · exact Int.ediv_le_self _ (by omega)
  · show (a / (Int.gcd a b : Nat)).natAbs ≤ a.natAbs
    have : ((Int.gcd a b : Nat) : Int) ∣ a := Int.gcd_dvd_left _ _
    rw [Int.natAbs_ediv_of_dvd this]
    exact Nat.div_le_self _ _
/-- how great shares may be -/
def ShOk (p : Int × Int) : Prop := -(2 ^ 32) < p.1 ∧ p.1 < 2 ^ 32 ∧ 0 < p.2 ∧ p.2 < 2 ^ 32
theorem isW_ok {zs : List Int} {m : Int} {ps : List (Int × Int)} (h : SzOk zs) (h0 : 0 ≤ m) (hm : m ≤ 24) (a : IsW zs m ps) : ∀ p ∈ ps, ShOk p := by
  rcases a with ⟨h1, rfl⟩ | ⟨h1, s, f1, rfl⟩
  · intro p hp
    obtain ⟨_, _, rfl⟩ := List.mem_map.mp hp
    exact ⟨by decide, by decide, by decide, by decide⟩
  · intro p hp
    obtain ⟨k, hk, rfl⟩ := List.mem_map.mp hp
    have hk := List.mem_range.mp hk
    unfold shr
    split
    · exact ⟨by decide, by decide, by decide, by decide⟩
    · rename_i hS
      have hS : s.1 k = false := by simpa using hS
      obtain ⟨t1, t2, t3⟩ := tot_ok h s.1
      have hp := t3 k hk hS
      obtain ⟨l1, l2, l3⟩ := low_ok (a := zf zs k * s.2) hp
      obtain ⟨j, ej⟩ := f1.1
      have em := iter_m (zf zs) zs.length m j
      rw [← ej] at em
      have hu := unset_le zs.length s.1
      have h24 := h.1
      obtain ⟨z1, z2⟩ := zf_ok h hk
      have m1 : s.2.natAbs ≤ 48 := by omega
      have : (zf zs k * s.2).natAbs ≤ 24000000 * 48 := by
        rw [Int.natAbs_mul]
        exact Nat.mul_le_mul (by omega) m1
      exact ⟨by omega, by omega, l1, by omega⟩
end Fk
/-! A3: lists of fractions, matrices; the sizes left, the wished shares (the program's and the law's). -/
namespace Fk
open PySem PySem.Spec PyProof.Rows L2 LamX
def FrR (K : PySem.W.Frag) (H : Hp) (v : V) (p : Int × Int) : Prop := ∃ a, v = .ref a ∧ SqT K H a (frV p)
def FrLs (K : PySem.W.Frag) (H : Hp) (a : Addr) (ps : List (Int × Int)) : Prop := ∃ xs, SqL K H a xs ∧ AllR (FrR K H) xs ps
def MxLs (K : PySem.W.Frag) (H : Hp) (a : Addr) (M : List (List (Int × Int))) : Prop := ∃ xs, SqL K H a xs ∧ AllR (fun v r => ∃ b, v = .ref b ∧ FrLs K H b r) xs M
section
variable {E : Hp → Hp → Prop} {K : PySem.W.Frag} {H H' : Hp} {v : V} {p : Int × Int} {a : Addr} {ps : List (Int × Int)} {M : List (List (Int × Int))}
theorem FrR.mono (R : Rel E) (e : E H H') (h : FrR K H v p) : FrR K H' v p := by
  obtain ⟨a, rfl, h⟩ := h
  exact ⟨a, rfl, R.sqT e h⟩
theorem FrLs.mono (R : Rel E) (e : E H H') (h : FrLs K H a ps) : FrLs K H' a ps := by
  obtain ⟨xs, h1, h2⟩ := h
  exact ⟨xs, R.sqL e h1, h2.imp fun v p r => r.mono R e⟩
theorem MxLs.mono (R : Rel E) (e : E H H') (h : MxLs K H a M) : MxLs K H' a M := by
  obtain ⟨xs, h1, h2⟩ := h
  refine ⟨xs, R.sqL e h1, h2.imp fun v p r => ?_⟩
  obtain ⟨b, rfl, h⟩ := r
  exact ⟨b, rfl, h.mono R e⟩
theorem tyx_tup {xs : List V} (h : SqT K H a xs) : TyX K H (.ref a) (.type "tuple") := by
  rcases h with (h | ⟨o, h⟩) | ⟨o, its, n, h, c, _⟩
  · exact .base (.tup h)
  · exact .fTuple h
  · exact .kTuple h c
theorem tyx_lst {xs : List V} (h : SqL K H a xs) : TyX K H (.ref a) (.type "list") := by
  rcases h with (h | ⟨o, h⟩) | ⟨o, its, n, h, c, _⟩
  · exact .base (.lst h)
  · exact .base (.frz h)
  · exact .kList h c
def frD (p : Int × Int) : PyData := .tuple [.int p.1, .int p.2]
theorem fr_dp (h : FrR K H v p) : Dp K H v (frD p) := by
  obtain ⟨a, rfl, h⟩ := h
  exact .tup h (.cons (.int _) (.cons (.int _) .nil))
theorem frD_lay (p : Int × Int) : (frD p).canLay0 = true := by simp [frD, PyData.canLay0, PyData.canLayAll0]
theorem frD_depth (p : Int × Int) : (frD p).depth = 1 := by simp [frD, PyData.depth, PyData.depthAll]
theorem frD_shaped (p : Int × Int) : SeqAt.shaped (frD p) = true := by
  have h := frD_depth p
  show ((frD p).canLay0 && decide ((frD p).depth ≤ 64)) = true
  rw [frD_lay, h]
  rfl
theorem lay_all {α : Type} (f : α → PyData) (h : ∀ x, (f x).canLay0 = true) : ∀ l : List α, PyData.canLayAll0 (l.map f) = true
  | [] => by simp [PyData.canLayAll0]
  | x :: l => by simp [PyData.canLayAll0, h x, lay_all f h l]
theorem depth_all {α : Type} (f : α → PyData) {k : Nat} (h : ∀ x, (f x).depth ≤ k) : ∀ l : List α, PyData.depthAll (l.map f) ≤ k
  | [] => by simp [PyData.depthAll]
  | x :: l => by
    have h1 := depth_all f h l
    have h2 := h x
    simp only [List.map_cons, PyData.depthAll]
    omega
theorem list_shaped {α : Type} (f : α → PyData) {k : Nat} (hk : k ≤ 60) (h1 : ∀ x, (f x).canLay0 = true) (h2 : ∀ x, (f x).depth ≤ k) (l : List α) : SeqAt.shaped (.list (l.map f)) = true := by
  have a := depth_all f h2 l
  have b : PyData.depth (.list (l.map f)) ≤ 64 := by
    simp only [PyData.depth]
    omega
  show (PyData.canLay0 (.list (l.map f)) && decide (PyData.depth (.list (l.map f)) ≤ 64)) = true
  rw [Bool.and_eq_true]
  exact ⟨by simp only [PyData.canLay0]; exact lay_all f h1 l, decide_eq_true b⟩
end
def spFraction (K : PySem.W.Frag) : Sp := fun vs H Q _ => ∃ (v u : V) (p : Int × Int), vs = [v, u] ∧ FrR K H v p ∧ FrR K H u p ∧ Q (.bl true) H
def spMatrixEq (K : PySem.W.Frag) : Sp := fun vs H Q _ => ∃ (a b : Addr) (M : List (List (Int × Int))), vs = [.ref a, .ref b] ∧ MxLs K H a M ∧ MxLs K H b M ∧ ∀ H', Same H H' → Q (.bl true) H'
theorem kit_self {K : PySem.W.Frag} {T : String} (h : PySem.W.kitOne K (.type T) (.type T) = some true) : PySem.W.kitOne K (.type T) (.type T) = some true := h
section
variable {P : Program} {w : World} {K : PySem.W.Frag} {mg : Str → Option Value} {base : Heap} {f : Addr} {fd : FuncData}
theorem ok_law_fraction (F : FnP K "_law_fraction" "_law_fraction" s__law_fraction f fd) (C_law_whole : Cal P w K mg base 1 "_law_whole" spWhole) (m_isinstance : mg "isinstance" = none) (m_tuple : mg "tuple" = none) (m_len : mg "len" = none) :
    FnOk P w K mg base CX0 2 f fd ["_law_found", "_law_due"] (spFraction K) := by
  refine F.ok c__law_fraction (fun vs H Q E h => ?_) (fun cdv A outer s H vs Q E hr h => ⟨_, PSs.nox (pss_cons (ps_if (PW.pt (pw_or (pt_not (pt_val (pe_callB call_isi (by rfl) m_isinstance (by decide +kernel) (pa_cons (pv 0) (pa_cons (pe_bltn (v := .ty "tuple") (by rfl) m_tuple (by decide +kernel) rfl) pa_nil))))) (pw_or (pt_cmpR op_ne (pe_callB call_len_seq (by rfl) m_len PySem.boot_len (pa_cons (pv 0) pa_nil)) pe_int (nomark _)) (pw_or (pt_not (pt_val (pe_c C_law_whole hr (by decide) (by rfl) (pa_cons (pe_ix ix_tup (pv 0) pe_int (fun _ _ => rfl)) pa_nil)))) (pw_or1 (pt_not (pt_val (pe_c C_law_whole hr (by decide) (by rfl) (pa_cons (pe_ix ix_tup (pv 0) pe_int (fun _ _ => rfl)) pa_nil))))))))) (pss_one (ps_ret pe_bl)) pss_nil)
      (pss_one (ps_ret (pe_cmpR (op_eqD hr.units) (pv 0) (pv 1) (nomark _))))), ?_⟩)
  · obtain ⟨v, u, p, rfl, _⟩ := h
    rfl
  · obtain ⟨v, u, p, rfl, ⟨a, rfl, ha⟩, ⟨b, rfl, hb⟩, q⟩ := h
    refine ⟨_, rfl, _, _, _, _, true, rfl, .ty "tuple", tyx_tup ha, kit_ty (by decide +kernel), _, rfl, iteF ?_⟩
    refine ⟨_, rfl, a, _, rfl, .inr ha, rfl, _, rfl, ?_⟩
    refine iteF ?_
    refine ⟨_, rfl, a, _, 0, .int p.1, rfl, rfl, ha, rfl, p.1, rfl, _, rfl, iteF ?_⟩
    refine ⟨_, rfl, a, _, 1, .int p.2, rfl, rfl, ha, rfl, p.2, rfl, _, rfl, iteF ?_⟩
    refine ⟨_, rfl, _, rfl, frD p, frD p, fr_dp ⟨a, rfl, ha⟩, fr_dp ⟨b, rfl, hb⟩, frD_shaped p, frD_shaped p, ?_⟩
    rw [SeqAt.eqv_refl]
    · exact q
    · exact frD_lay p
theorem ok_law_matrix (F : FnP K "_law_matrix" "_law_matrix" s__law_matrix f fd) (C_law_fraction : Cal P w K mg base 2 "_law_fraction" (spFraction K)) (m_isinstance : mg "isinstance" = none) (m_list : mg "list" = none) (m_len : mg "len" = none) (m_zip : mg "zip" = none) :
    FnOk P w K mg base CX0 3 f fd ["_law_found", "_law_due"] (spMatrixEq K) := by
  refine F.ok c__law_matrix (fun vs H Q E h => ?_) (fun cdv A outer s H vs Q E hr h => ⟨_, PSs.nox (pss_cons (ps_if (PW.pt (pw_or (pt_not (pt_val (pe_callB call_isi (by rfl) m_isinstance (by decide +kernel) (pa_cons (pv 0) (pa_cons (pe_bltn (v := .ty "list") (by rfl) m_list (by decide +kernel) rfl) pa_nil))))) (pw_or1 (pt_cmpR op_ne (pe_callB call_len_seq (by rfl) m_len PySem.boot_len (pa_cons (pv 0) pa_nil)) (pe_callB call_len_seq (by rfl) m_len PySem.boot_len (pa_cons (pv 1) pa_nil)) (nomark _))))) (pss_one (ps_ret pe_bl)) pss_nil)
      (pss_cons (ps_for PassesOwn.never rfl (pi_zip (by rfl) m_zip (pa_cons (pv 0) (pa_cons (pv 1) pa_nil))) (pg_tup rfl (pgs_cons (pg_name (i := 2) c__law_matrix.nd rfl (Or.inl rfl)) (pgs_cons (pg_name (i := 3) c__law_matrix.nd rfl (Or.inl rfl)) pgs_nil))) (pss_cons (ps_if (PW.pt (pw_or (pt_not (pt_val (pe_callB call_isi (by rfl) m_isinstance (by decide +kernel) (pa_cons (pv 2) (pa_cons (pe_bltn (v := .ty "list") (by rfl) m_list (by decide +kernel) rfl) pa_nil))))) (pw_or1 (pt_cmpR op_ne (pe_callB call_len_seq (by rfl) m_len PySem.boot_len (pa_cons (pv 2) pa_nil)) (pe_callB call_len_seq (by rfl) m_len PySem.boot_len (pa_cons (pv 3) pa_nil)) (nomark _))))) (pss_one (ps_ret pe_bl)) pss_nil)
      (pss_one (ps_for PassesOwn.never rfl (pi_zip (by rfl) m_zip (pa_cons (pv 2) (pa_cons (pv 3) pa_nil))) (pg_tup rfl (pgs_cons (pg_name (i := 4) c__law_matrix.nd rfl (Or.inl rfl)) (pgs_cons (pg_name (i := 5) c__law_matrix.nd rfl (Or.inl rfl)) pgs_nil))) (pss_one (ps_if (pt_not (pt_val (pe_c C_law_fraction hr (by decide) (by rfl) (pa_cons (pv 4) (pa_cons (pv 5) pa_nil))))) (pss_one (ps_ret pe_bl)) pss_nil))))))
      (pss_one (ps_ret pe_bl)))), ?_⟩)
  · obtain ⟨a, b, M, rfl, _⟩ := h
    rfl
  · obtain ⟨a, b, M, rfl, ⟨xs, ha, hxa⟩, ⟨ys, hb, hxb⟩, q⟩ := h
    have hlen : xs.length = ys.length := by rw [hxa.1, hxb.1]
    refine ⟨_, rfl, _, _, _, _, true, rfl, .ty "list", tyx_lst ha, kit_ty (by decide +kernel), _, rfl, iteF ?_⟩
    refine ⟨_, rfl, a, _, rfl, .inl ha, _, rfl, b, _, rfl, .inl hb, rfl, _, rfl, ?_⟩
    rw [hlen, decide_eq_true rfl]
    refine iteF ?_
    refine ⟨_, rfl, _, rfl, a, b, xs, ys, rfl, ha, hb, for_it (walk_zip (xs := xs) (ys := ys) (n := M.length) (by rw [← hlen, hxa.1]; omega)) (fun i σ H' => ∃ y2 y3 y4 y5 : Option V, σ = [some (.ref a), some (.ref b), y2, y3, y4, y5] ∧ Same H H')
      ⟨_, _, _, _, rfl, Same.refl H⟩ (fun i σ H1 _ p => ?_) (fun i x σ H1 H2 hi p y => ?_) fun σ H1 p => ?_⟩
    · obtain ⟨_, _, _, _, _, e⟩ := p
      exact ⟨e.seq ha, e.seq hb⟩
    · obtain ⟨y2, y3, y4, y5, rfl, e1⟩ := p
      obtain ⟨T, x1, x2, rfl, nT, rfl, g1, g2⟩ := y
      have e2 : Same H (upd H1 T (.tup [x1, x2])) := e1.trans (sames nT)
      obtain ⟨r, er, b1, rfl, xs1, hs1, hr1⟩ := hxa.getV g1
      obtain ⟨b2, rfl, xs2, hs2, hr2⟩ := hxb.2 i x2 r g2 er
      have hl2 : xs1.length = xs2.length := by rw [hr1.1, hr2.1]
      have k1 : SqL K (upd H1 T (.tup [.ref b1, .ref b2])) b1 xs1 := e2.seq hs1
      have k2 : SqL K (upd H1 T (.tup [.ref b1, .ref b2])) b2 xs2 := e2.seq hs2
      refine ⟨T, _, rfl, SqT.of upd_same, rfl, _, _, rfl, _, _, rfl, rfl, ?_⟩
      refine ⟨_, rfl, _, _, _, _, true, rfl, .ty "list", tyx_lst k1, kit_ty (by decide +kernel), _, rfl, iteF ?_⟩
      refine ⟨_, rfl, b1, _, rfl, .inl k1, _, rfl, b2, _, rfl, .inl k2, rfl, _, rfl, ?_⟩
      rw [hl2, decide_eq_true rfl]
      refine iteF ?_
      refine ⟨_, rfl, _, rfl, b1, b2, xs1, xs2, rfl, k1, k2, for_it (walk_zip (xs := xs1) (ys := xs2) (n := r.length) (by rw [← hl2, hr1.1]; omega)) (fun i σ H' => ∃ y4 y5 : Option V, σ = [some (.ref a), some (.ref b), some (.ref b1), some (.ref b2), y4, y5] ∧ Same H H')
        ⟨_, _, rfl, e2⟩ (fun i σ H1 _ p => ?_) (fun i x σ H1 H2 hi p y => ?_) fun σ H1 p => ?_⟩
      · obtain ⟨_, _, _, e⟩ := p
        exact ⟨e.seq hs1, e.seq hs2⟩
      · obtain ⟨z4, z5, rfl, e3⟩ := p
        obtain ⟨T2, u1, u2, rfl, nT2, rfl, g3, g4⟩ := y
        have e4 : Same H (upd H1 T2 (.tup [u1, u2])) := e3.trans (sames nT2)
        obtain ⟨p, ep, rp⟩ := hr1.getV g3
        have rp2 := hr2.2 _ u2 p g4 ep
        refine ⟨T2, _, rfl, SqT.of upd_same, rfl, _, _, rfl, _, _, rfl, rfl, ?_⟩
        refine ⟨_, rfl, _, rfl, u1, u2, p, rfl, rp.mono rel_same e4, rp2.mono rel_same e4, _, rfl, iteF ?_⟩
        exact ⟨_, _, rfl, e4⟩
      · obtain ⟨z4, z5, rfl, e3⟩ := p
        exact ⟨_, _, _, _, rfl, e3⟩
    · obtain ⟨y2, y3, y4, y5, rfl, e1⟩ := p
      exact q H1 e1
end
end Fk
/-! A4: the wished shares: the program's def. -/
namespace Fk
open PySem PySem.Spec PyProof.Rows L2 LamX
def AsR (kvs : List (Key × V)) (S : Nat → Bool) : Prop := ∀ k : Nat, (valV kvs (Sum.inl (k : Int))).isSome = S k
def spSizeLeft (K : PySem.W.Frag) : Sp := fun vs H Q _ => ∃ (a d : Addr) (zs : List Int) (kvs : List (Key × V)) (S : Nat → Bool), vs = [.ref a, .ref d] ∧ SqL K H a (zs.map V.int) ∧ zs.length ≤ 24 ∧ H d = some (.dK kvs) ∧ AsR kvs S ∧ ∀ H', Same H H' → Q (.int (tot (zf zs) zs.length S)) H'
def spWished (K : PySem.W.Frag) : Sp := fun vs H Q _ => ∃ (a : Addr) (zs : List Int) (m : Int), vs = [.ref a, .int m] ∧ SqL K H a (zs.map V.int) ∧ SzOk zs ∧ 0 ≤ m ∧ m ≤ 24 ∧ ∀ ps, IsW zs m ps → ∀ p H2 xs, H p = none → Same H H2 → H2 p = some (.lst xs) → AllR (FrR K H2) xs ps → Q (.ref p) H2
theorem at_zs {zs : List Int} {i : Nat} {v : V} (h : (zs.map V.int)[i]? = some v) : i < zs.length ∧ v = .int (zf zs i) := by
  rw [List.getElem?_map] at h
  cases e : zs[i]? with
  | none =>
    rw [e] at h
    cases h
  | some z =>
    rw [e] at h
    cases h
    refine ⟨(List.getElem?_eq_some_iff.mp e).1, ?_⟩
    show V.int z = V.int (zf zs i)
    unfold zf
    rw [List.getD_eq_getElem?_getD, e]
    rfl
theorem zs_at {zs : List Int} {i : Nat} (h : i < zs.length) : (zs.map V.int)[i]? = some (V.int (zf zs i)) := by
  have hl : i < (zs.map V.int).length := by rw [List.length_map]; exact h
  have e : (zs.map V.int)[i]? = some ((zs.map V.int)[i]'hl) := List.getElem?_eq_getElem hl
  rw [e, (at_zs e).2]
def ixD (k : Nat) : PyData := .int k
theorem eqv_nil (ds : List PyData) : PyData.eqv (.list ds) (.list []) = ds.isEmpty := by
  cases ds <;> simp [PyData.eqv, PyData.eqvAll]
theorem nats_shaped (ks : List Nat) : SeqAt.shaped (.list (ks.map ixD)) = true := list_shaped ixD (k := 0) (by decide) (fun x => by simp [ixD, PyData.canLay0]) (fun x => by simp [ixD, PyData.depth]) ks
theorem nats_dp {K : PySem.W.Frag} {H : Hp} {a : Addr} {ks : List Nat} (h : SqL K H a (ks.map fun k => V.int (k : Nat))) : Dp K H (.ref a) (.list (ks.map ixD)) := by
  refine .lst h ?_
  clear h
  induction ks with
  | nil => exact .nil
  | cons k ks ih => exact .cons (.int _) ih
theorem allR_nats : ∀ {xs : List V} {ks : List Nat}, AllR (fun v k => v = V.int (k : Nat)) xs ks → xs = ks.map fun k => V.int (k : Nat) := fun {xs ks} h => by
  refine List.ext_getElem? fun i => ?_
  rw [List.getElem?_map]
  cases q : ks[i]? with
  | none =>
    have : ks.length ≤ i := List.getElem?_eq_none_iff.mp q
    exact List.getElem?_eq_none (by rw [h.1]; exact this)
  | some n =>
    obtain ⟨v, e, r⟩ := h.get q
    rw [e, r]
    rfl
theorem outs_nats (p : Nat → Bool) (n : Nat) : outs (fun k => if p k = true then some k else none) n = (List.range n).filter p := by
  rw [outs_filter p (fun k => k) n, List.map_id']
section
variable {P : Program} {w : World} {K : PySem.W.Frag} {mg : Str → Option Value} {base : Heap} {f : Addr} {fd : FuncData}
theorem ok_size_left (F : FnP K "size_left" "size_left" s_size_left f fd) (m_sum : mg "sum" = none) (m_enumerate : mg "enumerate" = none) : FnOk P w K mg base CX0 1 f fd ["sizes", "aside"] (spSizeLeft K) := by
  refine F.ok c_size_left (fun vs H Q E h => ?_) (fun cdv A outer s H vs Q E hr h => ⟨_, PSs.nox (pss_one (ps_ret (pe_callB (cr_sum rfl) (by rfl) m_sum (by decide +kernel) (pa_cons (pe_lc (own := [("at", 2), ("size", 3)]) (g := (gTup K 2 (gCons (gName 2) (gCons (gName 3) gNil)))) rfl c_size_left.nd (pi_enum (by rfl) m_enumerate (pa_cons (pv 0) pa_nil)) (blkOk_by (own := [("at", 2), ("size", 3)]) (N := n_size_left) (sc := defScope s_size_left) (by decide +kernel)) (fun _ _ _ _ _ => (pg_tup rfl (pgs_cons (pg_name (i := 2) c_size_left.nd rfl (Or.inl rfl)) (pgs_cons (pg_name (i := 3) c_size_left.nd rfl (Or.inl rfl)) pgs_nil)))) (fun _ _ _ _ _ => (pts_one (pt_cmp (pc_dnotin (hu_of hr) (pv 2) (pv 1))))) (fun _ _ _ _ _ => (pv 3))) pa_nil)))), ?_⟩)
  · obtain ⟨a, d, zs, kvs, S, rfl, _⟩ := h
    rfl
  · obtain ⟨a, d, zs, kvs, S, rfl, hS, hn, hd, hA, q⟩ := h
    refine ⟨_, rfl, a, _, rfl, hS, fun D nD => lcE rel_same (R := fun _ v n => v = V.int n) (walk_enum (xs := zs.map V.int)) (fun k => if (!S k) = true then some (zf zs k) else none) nD (by rw [List.length_map]; omega)
      (fun H1 e => e.seq hS) (fun i H1 x H2 e y => ?_) (fun _ _ _ _ _ _ r => r) (fun _ _ _ _ _ _ r => r) (fun i x H1 H2 acc C hi e1 e2 hD y k1 k2 => ?_) (fun H2 xs hD e hx => ?_)⟩
    · obtain ⟨T, _, _, _, nT, rfl, _⟩ := y
      exact sames nT
    · obtain ⟨T, x1, x2, rfl, nT, rfl, g1, g2⟩ := y
      cases g1
      obtain ⟨hi2, rfl⟩ := at_zs g2
      refine ⟨T, _, rfl, SqT.of upd_same, rfl, _, _, rfl, _, _, rfl, rfl, rfl, ?_⟩
      have hd' := e2 _ _ hd
      refine ⟨_, rfl, _, rfl, d, _, rfl, DGet.k (k := Sum.inl (i : Int)) hd', _, rfl, ?_⟩
      have hk := hA i
      rw [hk]
      cases hS : S i with
      | true =>
        refine k2 _ (Same.refl _) ?_
        show (if (!S i) = true then some (zf zs i) else none) = none
        rw [hS]
        rfl
      | false =>
        refine ⟨_, rfl, k1 _ _ (Same.refl _) (fun y hy => ?_) ?_⟩
        · have hy : (if (!S i) = true then some (zf zs i) else none) = some y := hy
          rw [hS] at hy
          cases hy
          rfl
        · show (if (!S i) = true then some (zf zs i) else none) ≠ none
          rw [hS]
          exact fun z => by cases z
    · have ex := allR_ints hx
      rw [outs_filter, List.length_map] at ex
      exact ⟨D, _, rfl, SqL.of (by rw [hD, ex]), q H2 e⟩
theorem ok_wished (F : FnP K "wished" "wished" s_wished f fd) (C_size_left : Cal P w K mg base 1 "size_left" (spSizeLeft K)) (C_share : Cal P w K mg base 2 "share" spShare) (m_len : mg "len" = none) (m_enumerate : mg "enumerate" = none) :
    FnOk P w K mg base CX0 3 f fd ["sizes", "many"] (spWished K) := by
  refine F.ok c_wished (fun vs H Q E h => ?_) (fun cdv A outer s H vs Q E hr h => ⟨_, PSs.nox (pss_cons (ps_if (pt_cmpR op_ge (pv 1) (pe_callB call_len_seq (by rfl) m_len PySem.boot_len (pa_cons (pv 0) pa_nil)) (nomark _)) (pss_one (ps_ret (pe_lc (own := [("size", 7)]) (g := (gName 7)) (tt := tYes) rfl c_wished.nd (pi_list (pv 0)) (blkOk_by (own := [("size", 7)]) (N := n_wished) (sc := defScope s_wished) (by decide +kernel)) (fun _ _ _ _ _ => (pg_name (i := 7) c_wished.nd rfl (Or.inl rfl))) (fun _ _ _ _ _ => pts_nil) (fun _ _ _ _ _ => (pe_tup (pa_cons pe_int (pa_cons pe_int pa_nil))))))) pss_nil)
      (pss_cons (ps_set (i := 2) c_wished.nd rfl (Or.inr rfl) pe_dnewK)
      (pss_cons (ps_set (i := 3) c_wished.nd rfl (Or.inl rfl) (pe_cmpR op_gt (pv 1) pe_int (nomark _)))
      (pss_cons (ps_while PassesOwn.never (pt_val (pv 3)) (pss_cons (ps_set (i := 4) c_wished.nd rfl (Or.inr rfl) (pe_c C_size_left hr (by decide) (by rfl) (pa_cons (pv 0) (pa_cons (pv 2) pa_nil))))
      (pss_cons (ps_setLc (i := 6) (own := [("at", 5), ("size", 7)]) (g := (gTup K 2 (gCons (gName 5) (gCons (gName 7) gNil)))) rfl c_wished.nd rfl rfl (sw_true rfl rfl rfl (by decide +kernel)) (pi_enum (by rfl) m_enumerate (pa_cons (pv 0) pa_nil)) (blkOk_by (own := [("at", 5), ("size", 7)]) (N := n_wished) (sc := defScope s_wished) (by decide +kernel)) (fun _ _ _ _ _ => (pg_tup rfl (pgs_cons (pg_name (i := 5) c_wished.nd rfl (Or.inl rfl)) (pgs_cons (pg_name (i := 7) c_wished.nd rfl (Or.inl rfl)) pgs_nil)))) (fun _ _ _ _ _ => (pts_one (PW.pt (pw_and (pt_cmp (pc_dnotin (hu_of hr) (pv 5) (pv 2))) (pw_and1 (pt_cmpR op_ge (pe_op op_mul (pv 7) (pv 1)) (pv 4) (nomark _))))))) (fun _ _ _ _ _ => (pv 5)))
      (pss_cons (ps_for PassesOwn.never rfl (pi_list (pv 6)) (pg_name (i := 5) c_wished.nd rfl (Or.inl rfl)) (pss_one (ps_dput (hu_of hr) (pv 2) (pv 5) pe_bl rfl)))
      (pss_cons (ps_set (i := 1) c_wished.nd rfl (Or.inr rfl) (pe_op op_sub (pv 1) (pe_callB call_len_seq (by rfl) m_len PySem.boot_len (pa_cons (pv 6) pa_nil))))
      (pss_one (ps_set (i := 3) c_wished.nd rfl (Or.inl rfl) (pe_cmpR (op_neD hr.units) (pv 6) (pe_lst pa_nil) (nomark _)))))))))
      (pss_cons (ps_set (i := 4) c_wished.nd rfl (Or.inr rfl) (pe_c C_size_left hr (by decide) (by rfl) (pa_cons (pv 0) (pa_cons (pv 2) pa_nil))))
      (pss_one (ps_ret (pe_lc (own := [("at", 5), ("size", 7)]) (g := (gTup K 2 (gCons (gName 5) (gCons (gName 7) gNil)))) (tt := tYes) rfl c_wished.nd (pi_enum (by rfl) m_enumerate (pa_cons (pv 0) pa_nil)) (blkOk_by (own := [("at", 5), ("size", 7)]) (N := n_wished) (sc := defScope s_wished) (by decide +kernel)) (fun _ _ _ _ _ => (pg_tup rfl (pgs_cons (pg_name (i := 5) c_wished.nd rfl (Or.inl rfl)) (pgs_cons (pg_name (i := 7) c_wished.nd rfl (Or.inl rfl)) pgs_nil)))) (fun _ _ _ _ _ => pts_nil) (fun _ _ _ _ _ => (pe_ifExp (pt_cmp (pc_din (hu_of hr) (pv 5) (pv 2))) (pe_tup (pa_cons pe_int (pa_cons pe_int pa_nil))) (pe_c C_share hr (by decide) (by rfl) (pa_cons (pe_op op_mul (pv 7) (pv 1)) (pa_cons (pv 4) pa_nil))))))))))))), ?_⟩)
  · obtain ⟨a, zs, m, rfl, _⟩ := h
    rfl
  · obtain ⟨a, zs, m, rfl, hS, hz, h0, h24, q⟩ := h
    have hn := hz.1
    refine ⟨_, rfl, _, rfl, a, _, rfl, .inl hS, _, _, rfl, rfl, _, rfl, ite2 (fun e => ?_) fun e => ?_⟩
    · -- many >= len(sizes)
      have hm : (zs.length : Int) ≤ m := by
        have := of_decide_eq_true e
        rw [List.length_map] at this
        exact this
      refine ⟨_, rfl, a, rfl, ⟨_, hS⟩, fun D nD => lcE rel_same (R := FrR K) (walk_list (xs := zs.map V.int)) (fun _ => some (1, 1)) nD (by rw [List.length_map]; omega)
        (fun H1 e => e.seq hS) (fun i H1 x H2 e y => ?_) (fun _ _ _ _ _ e r => r.mono rel_same e) (fun _ _ _ _ _ hD r => ?_) (fun i x H1 H2 acc C hi e1 e2 hD y k1 k2 => ?_) (fun H2 xs hD e hx => ?_)⟩
      · rw [y.1]
        exact Same.refl _
      · obtain ⟨b, rfl, h⟩ := r
        exact ⟨b, rfl, sqT_mut hD h⟩
      · refine ⟨rfl, ?_⟩
        refine ⟨by show 2 ≤ sizeLine; decide, fun p hp => ?_⟩
        refine k1 _ _ (sames hp) (fun y hy => ?_) (fun z => by cases z)
        cases hy
        exact ⟨p, rfl, SqT.of upd_same⟩
      · rw [outs_all, List.length_map] at hx
        exact q _ (.inl ⟨hm, rfl⟩) D H2 xs nD e hD hx
    · have hm : m < zs.length := by
        have h1 : ¬ ((zs.map V.int).length : Int) ≤ m := fun z => e (decide_eq_true z)
        rw [List.length_map] at h1
        omega
      refine fun d nd => ?_
      have e1 : Same H (upd H d (.dK [])) := sames nd
      refine ⟨_, rfl, _, _, rfl, rfl, ?_⟩
      let z := zf zs
      let n := zs.length
      -- between the rounds
      refine ⟨fun μ σ H' => ∃ (m' : Int) (S : Nat → Bool) (more : Bool) (kvs : List (Key × V)) (y4 y5 y6 y7 : Option V) (j : Nat), σ = [some (.ref a), some (.int m'), some (.ref d), some (.bl more), y4, y5, y6, y7] ∧ Same H H' ∧ H' d = some (.dK kvs) ∧ AsR kvs S ∧ (S, m') = witer z n j (st0 m) ∧
          (more = false → 0 < m → wstep z n (S, m') = (S, m')) ∧ (more = true → 0 < m) ∧ (¬ 0 < m → (S, m') = st0 m) ∧ kvs.length + unset n S ≤ n ∧ μ = unset n S + (if more then 1 else 0),
        ⟨_, m, fun _ => false, decide (0 < m), [], none, none, none, none, 0, rfl, e1, upd_same, fun k => rfl, rfl, fun h h' => ?_, fun h => of_decide_eq_true h, fun _ => rfl, by rw [unset0]; exact Nat.le_of_eq (Nat.zero_add _), rfl⟩, fun μ σ H1 hW => ?_⟩
      · rw [decide_eq_true h'] at h
        cases h
      obtain ⟨m', S, more, kvs, y4, y5, y6, y7, j, rfl, s1, hd, hA, hj, hf, hmo, hst, hlen, rfl⟩ := hW
      have hS1 := s1.seq hS
      have em : m' = m - ((n : Int) - (unset n S : Nat)) := by
        have := iter_m z n m j
        rw [← hj] at this
        exact this
      have hu := unset_le n S
      refine ⟨_, rfl, more, rfl, ?_⟩
      cases more with
      | true =>
        have hp := hmo rfl
        refine iteT ⟨fun σ' H2 => ∃ (m' : Int) (S' : Nat → Bool) (more : Bool) (kvs : List (Key × V)) (y4 y5 y6 y7 : Option V) (j : Nat), σ' = [some (.ref a), some (.int m'), some (.ref d), some (.bl more), y4, y5, y6, y7] ∧ Same H H2 ∧ H2 d = some (.dK kvs) ∧ AsR kvs S' ∧ (S', m') = witer z n j (st0 m) ∧
          (more = false → 0 < m → wstep z n (S', m') = (S', m')) ∧ (more = true → 0 < m) ∧ (¬ 0 < m → (S', m') = st0 m) ∧ kvs.length + unset n S' ≤ n ∧ unset n S' + (if more then 1 else 0) < unset n S + 1, fun σ' H2 hN => ?_, ?_⟩
        · obtain ⟨m2, S2, more2, kvs2, z4, z5, z6, z7, j2, a1, a2, a3, a4, a5, a6, a7, a8, a9, a10⟩ := hN
          exact ⟨_, a10, m2, S2, more2, kvs2, z4, z5, z6, z7, j2, a1, a2, a3, a4, a5, a6, a7, a8, a9, rfl⟩
        -- total = size_left(sizes, aside)
        refine ⟨_, rfl, _, rfl, a, d, zs, kvs, S, rfl, hS1, hn, hd, hA, fun H2 s2 => ?_⟩
        have hS2 := s2.seq hS1
        have hd2 := s2 _ _ hd
        -- found = ..
        refine ⟨_, rfl, a, _, rfl, hS2, fun D nD => lcE rel_same (R := fun _ v k => v = V.int (k : Nat)) (walk_enum (xs := zs.map V.int)) (fun k => if (!S k && decide (tot z n S ≤ z k * m')) = true then some k else none) nD (by rw [List.length_map]; omega)
          (fun H3 e => e.seq hS2) (fun i H3 x H4 e y => ?_) (fun _ _ _ _ _ _ r => r) (fun _ _ _ _ _ _ r => r) (fun i x H3 H4 acc C hi e3 e4 hD y k1 k2 => ?_) (fun H3 xs hD e hx => ?_)⟩
        · obtain ⟨T, _, _, _, nT, rfl, _⟩ := y
          exact sames nT
        · obtain ⟨T, x1, x2, rfl, nT, rfl, g1, g2⟩ := y
          cases g1
          obtain ⟨hi2, rfl⟩ := at_zs g2
          refine ⟨T, _, rfl, SqT.of upd_same, rfl, _, _, rfl, _, _, rfl, rfl, rfl, ?_⟩
          have hd' := e4 _ _ hd2
          refine ⟨_, rfl, _, rfl, d, _, rfl, DGet.k (k := Sum.inl (i : Int)) hd', _, rfl, ?_⟩
          rw [hA i]
          obtain ⟨z1, z2⟩ := zf_ok hz hi2
          cases hSi : S i with
          | true =>
            refine iteF ?_
            refine k2 _ (Same.refl _) ?_
            show (if (!S i && decide (tot z n S ≤ z i * m')) = true then some i else none) = none
            rw [hSi]
            rfl
          | false =>
            refine iteT ?_
            refine ⟨_, rfl, _, rfl, _, _, rfl, rfl, .inl ⟨by omega, by omega⟩, _, rfl, _, _, rfl, rfl, _, rfl, ite2 (fun e => ?_) fun e => ?_⟩
            · have e' : tot z n S ≤ z i * m' := of_decide_eq_true e
              refine ⟨_, rfl, k1 _ _ (Same.refl _) (fun y hy => ?_) ?_⟩
              · have hy : (if (!S i && decide (tot z n S ≤ z i * m')) = true then some i else none) = some y := hy
                rw [hSi, decide_eq_true e'] at hy
                cases hy
                rfl
              · show (if (!S i && decide (tot z n S ≤ z i * m')) = true then some i else none) ≠ none
                rw [hSi, decide_eq_true e']
                exact fun z => by cases z
            · have e' : ¬ tot z n S ≤ z i * m' := fun z => e (decide_eq_true z)
              refine k2 _ (Same.refl _) ?_
              show (if (!S i && decide (tot z n S ≤ z i * m')) = true then some i else none) = none
              rw [hSi, decide_eq_false e']
              rfl
        rw [outs_nats, List.length_map] at hx
        have ex := allR_nats hx
        have efn : (List.range zs.length).filter (fun k => !S k && decide (tot z n S ≤ z k * m')) = fnd z n (S, m') := rfl
        rw [efn] at ex
        have hf3 : SqL K H3 D ((fnd z n (S, m')).map fun k => V.int (k : Nat)) := SqL.of (by rw [hD, ex])
        have hDd : D ≠ d := ne_of_none hd2 nD |>.symm
        have sH3 : Same H H3 := (s1.trans s2).trans e
        have hd3 := e _ _ hd2
        have us := unset_step z n (S, m')
        -- for at in found: aside[at] = True
        refine ⟨_, rfl, D, rfl, ⟨_, hf3⟩, for_it (walk_list (xs := (fnd z n (S, m')).map fun k => V.int (k : Nat))) (fun i σ H4 => ∃ (y5 : Option V) (kv4 : List (Key × V)), σ = [some (.ref a), some (.int m'), some (.ref d), some (.bl true), some (.int (tot z n S)), y5, some (.ref D), y7] ∧ Same H H4 ∧
            H4 d = some (.dK kv4) ∧ H4 D = some (.lst ((fnd z n (S, m')).map fun k => V.int (k : Nat))) ∧ kv4.length ≤ kvs.length + i ∧ ∀ k : Nat, (valV kv4 (Sum.inl (k : Int))).isSome = (S k || decide (k ∈ (fnd z n (S, m')).take i)))
          ⟨y5, kvs, rfl, sH3, hd3, by rw [hD, ex], Nat.le_refl _, fun k => ?_⟩ (fun i σ H4 _ p => ?_) (fun i x σ H4 H5 hi p y => ?_) fun σ H4 p => ?_⟩
        · rw [hA k]
          simp
        · obtain ⟨_, _, _, _, _, h, _⟩ := p
          exact SqL.of h
        · obtain ⟨rfl, gx⟩ := y
          obtain ⟨z5, kv4, rfl, s4, hd4, hD4, hl4, hA4⟩ := p
          rw [List.getElem?_map] at gx
          cases eg : (fnd z n (S, m'))[i]? with
          | none =>
            rw [eg] at gx
            cases gx
          | some k =>
            rw [eg] at gx
            cases gx
            rw [List.length_map] at hi
            have hfl : (fnd z n (S, m')).length ≤ n := by
              have := List.length_filter_le (fun k => !S k && decide (tot z n S ≤ z k * m')) (List.range n)
              rw [List.length_range] at this
              exact this
            refine ⟨_, rfl, _, rfl, d, _, rfl, DPut.k (k := Sum.inl (k : Int)) hd4 (Nat.lt_of_le_of_lt (show kv4.length ≤ 100 by omega) (by decide)), ?_⟩
            refine ⟨_, _, rfl, fun b o hb => ?_, upd_same, ?_, ?_, fun j => ?_⟩
            · rw [upd_ne (ne_of_none hb nd)]
              exact s4 b o hb
            · rw [upd_ne hDd]
              exact hD4
            · have : (putK kv4 (Sum.inl (k : Int)) (V.bl true)).length ≤ kv4.length + 1 := by
                unfold putK
                split
                · rw [List.length_map]
                  omega
                · rw [List.length_append]
                  exact Nat.le_refl _
              omega
            · rw [valV_put]
              rw [List.take_add_one, eg]
              by_cases hjk : j = k
              · subst hjk
                rw [if_pos rfl]
                simp
              · have : ¬ (Sum.inl (j : Int) : Key) = Sum.inl (k : Int) := fun z => hjk (by have := Sum.inl.inj z; omega)
                rw [if_neg this, hA4 j]
                simp [hjk]
        · obtain ⟨z5, kv4, rfl, s4, hd4, hD4, hl4, hA4⟩ := p
          rw [List.length_map, List.take_length] at hA4
          rw [List.length_map] at hl4
          -- many = many - len(found)
          refine ⟨_, rfl, _, rfl, D, _, rfl, .inl (SqL.of hD4), _, _, rfl, rfl, ?_⟩
          -- more = found != []
          refine ⟨_, rfl, Nat.zero_le _, fun q0 nq => ?_⟩
          have hDq : D ≠ q0 := ne_of_none hD4 nq
          have hdq : d ≠ q0 := ne_of_none hd4 nq
          refine ⟨.list ((fnd z n (S, m')).map ixD), .list [], nats_dp (SqL.of (by rw [upd_ne hDq]; exact hD4)), .lst (SqL.of upd_same) .nil, nats_shaped _, nats_shaped [], ?_⟩
          rw [eqv_nil]
          refine ⟨m' - (((fnd z n (S, m')).map fun k => V.int (k : Nat)).length : Nat), (wstep z n (S, m')).1, _, kv4, _, _, _, _, j + 1, rfl, s4.trans (sames nq), by rw [upd_ne hdq]; exact hd4, hA4, ?_, fun h _ => ?_, fun _ => hp, fun h => absurd hp h, ?_, ?_⟩
          · rw [List.length_map]
            show wstep z n (S, m') = wstep z n (witer z n j (st0 m))
            rw [hj]
          · have he : fnd z n (S, m') = [] := by
              cases hf : fnd z n (S, m') with
              | nil => rfl
              | cons k l =>
                rw [hf] at h
                cases h
            have hw := fix_of_nil he
            rw [hw, he]
            have : (S, m' - (((([] : List Nat).map fun k => V.int (k : Nat)).length : Nat) : Int)) = (S, m') := by simp
            rw [this]
            exact hw
          · have : unset n (wstep z n (S, m')).1 + (fnd z n (S, m')).length = unset n S := us
            omega
          · have : unset n (wstep z n (S, m')).1 + (fnd z n (S, m')).length = unset n S := us
            cases hf : fnd z n (S, m') with
            | nil =>
              rw [hf] at this
              show unset n (wstep z n (S, m')).1 + 0 < unset n S + 1
              simp at this
              omega
            | cons k l =>
              rw [hf] at this
              show unset n (wstep z n (S, m')).1 + 1 < unset n S + 1
              simp at this
              omega
      | false =>
        have hfin : IsFin z n m (S, m') := ⟨⟨j, hj⟩, fun h => hf rfl h, hst⟩
        refine iteF ?_
        -- total = size_left(sizes, aside)
        refine ⟨_, rfl, _, rfl, a, d, zs, kvs, S, rfl, hS1, hn, hd, hA, fun H2 s2 => ?_⟩
        have hS2 := s2.seq hS1
        have hd2 := s2 _ _ hd
        obtain ⟨t1, t2, t3⟩ := tot_ok hz S
        refine ⟨_, rfl, a, _, rfl, hS2, fun D nD => lcE rel_same (R := FrR K) (walk_enum (xs := zs.map V.int)) (fun k => some (shr z n (S, m') k)) nD (by rw [List.length_map]; omega)
          (fun H3 e => e.seq hS2) (fun i H3 x H4 e y => ?_) (fun _ _ _ _ _ e r => r.mono rel_same e) (fun _ _ _ _ _ hD r => ?_) (fun i x H3 H4 acc C hi e3 e4 hD y k1 k2 => ?_) (fun H3 xs hD e hx => ?_)⟩
        · obtain ⟨T, _, _, _, nT, rfl, _⟩ := y
          exact sames nT
        · obtain ⟨b, rfl, h⟩ := r
          exact ⟨b, rfl, sqT_mut hD h⟩
        · obtain ⟨T, x1, x2, rfl, nT, rfl, g1, g2⟩ := y
          cases g1
          obtain ⟨hi2, rfl⟩ := at_zs g2
          refine ⟨T, _, rfl, SqT.of upd_same, rfl, _, _, rfl, _, _, rfl, rfl, rfl, ?_⟩
          have hd' := e4 _ _ hd2
          refine ⟨_, rfl, _, rfl, d, _, rfl, DGet.k (k := Sum.inl (i : Int)) hd', _, rfl, ?_⟩
          rw [hA i]
          obtain ⟨z1, z2⟩ := zf_ok hz hi2
          cases hSi : S i with
          | true =>
            refine iteT ⟨by show 2 ≤ sizeLine; decide, fun p hp => ?_⟩
            refine k1 _ _ (sames hp) (fun y hy => ?_) (fun z => by cases z)
            cases hy
            have e5 : shr z n (S, m') i = (1, 1) := by
              unfold shr
              rw [if_pos hSi]
            rw [e5]
            exact ⟨p, rfl, SqT.of upd_same⟩
          | false =>
            have hp := t3 i hi2 hSi
            refine iteF ?_
            refine ⟨_, rfl, _, rfl, _, _, rfl, rfl, .inl ⟨by omega, by omega⟩, _, rfl, _, _, rfl, hp, ?_, fun p H5 np s5 h5 => ?_⟩
            · exact Nat.lt_of_lt_of_le (show (tot (zf zs) zs.length S).natAbs < 2 ^ 64 by omega) (Nat.pow_le_pow_right (by decide) (by decide))
            · refine k1 _ _ s5 (fun y hy => ?_) (fun z => by cases z)
              cases hy
              have e5 : shr z n (S, m') i = low (z i * m') (tot z n S) := by
                unfold shr
                rw [if_neg (show ¬ S i = true by rw [hSi]; exact Bool.false_ne_true)]
              rw [e5]
              exact ⟨p, rfl, SqT.of h5⟩
        · rw [outs_all, List.length_map] at hx
          refine q _ (.inr ⟨hm, (S, m'), hfin, rfl⟩) D H3 xs ?_ ((s1.trans s2).trans e) hD hx
          exact (s1.trans s2).free nD
end
end Fk
/-! A5: the wished shares: the law's def. -/
namespace Fk
open PySem PySem.Spec PyProof.Rows L2 LamX
def svs (n : Nat) (S : Nat → Bool) : List V := (List.range n).map fun k => V.bl (S k)
theorem svs_len (n : Nat) (S : Nat → Bool) : (svs n S).length = n := by
  unfold svs
  rw [List.length_map, List.length_range]
theorem svs_at {n : Nat} {S : Nat → Bool} {k : Nat} (h : k < n) : (svs n S)[k]? = some (V.bl (S k)) := by
  unfold svs
  rw [List.getElem?_map, List.getElem?_range h]
  rfl
theorem svs_set {n : Nat} {S : Nat → Bool} {k : Nat} (h : k < n) : (svs n S).set k (.bl true) = svs n fun j => S j || decide (j = k) := by
  refine List.ext_getElem? fun i => ?_
  by_cases e : k = i
  · subst e
    rw [List.getElem?_set_self (by rw [svs_len]; exact h), svs_at h]
    simp
  · rw [List.getElem?_set_ne e]
    by_cases hi : i < n
    · rw [svs_at hi, svs_at hi]
      have : ¬ i = k := fun z => e z.symm
      simp [this]
    · rw [List.getElem?_eq_none (by rw [svs_len]; omega), List.getElem?_eq_none (by rw [svs_len]; omega)]
theorem rng_len {α : Type} (zs : List α) : ((zs.length : Nat) : Int).toNat = zs.length := by omega
section
variable {P : Program} {w : World} {K : PySem.W.Frag} {mg : Str → Option Value} {base : Heap} {f : Addr} {fd : FuncData}
theorem ok_law_wished (F : FnP K "_law_wished" "_law_wished" s__law_wished f fd) (C_law_low : Cal P w K mg base 1 "_law_low" spLow) (m_len : mg "len" = none) (m_range : mg "range" = none) (m_sum : mg "sum" = none) :
    FnOk P w K mg base CX0 2 f fd ["_law_sizes", "_law_many"] (spWished K) := by
  refine F.ok c__law_wished (fun vs H Q E h => ?_) (fun cdv A outer s H vs Q E hr h => ⟨_, PSs.nox (pss_cons (ps_if (pt_cmpR op_ge (pv 1) (pe_callB call_len_seq (by rfl) m_len PySem.boot_len (pa_cons (pv 0) pa_nil)) (nomark _)) (pss_one (ps_ret (pe_lc (own := [("_law_size", 8)]) (g := (gName 8)) (tt := tYes) rfl c__law_wished.nd (pi_list (pv 0)) (blkOk_by (own := [("_law_size", 8)]) (N := n__law_wished) (sc := defScope s__law_wished) (by decide +kernel)) (fun _ _ _ _ _ => (pg_name (i := 8) c__law_wished.nd rfl (Or.inl rfl))) (fun _ _ _ _ _ => pts_nil) (fun _ _ _ _ _ => (pe_tup (pa_cons pe_int (pa_cons pe_int pa_nil))))))) pss_nil)
      (pss_cons (ps_set (i := 2) c__law_wished.nd rfl (Or.inr rfl) (pe_lc (own := [("_law_size", 8)]) (g := (gName 8)) (tt := tYes) rfl c__law_wished.nd (pi_list (pv 0)) (blkOk_by (own := [("_law_size", 8)]) (N := n__law_wished) (sc := defScope s__law_wished) (by decide +kernel)) (fun _ _ _ _ _ => (pg_name (i := 8) c__law_wished.nd rfl (Or.inl rfl))) (fun _ _ _ _ _ => pts_nil) (fun _ _ _ _ _ => pe_bl)))
      (pss_cons (ps_set (i := 3) c__law_wished.nd rfl (Or.inl rfl) (pe_cmpR op_gt (pv 1) pe_int (nomark _)))
      (pss_cons (ps_while PassesOwn.never (pt_val (pv 3)) (pss_cons (ps_set (i := 5) c__law_wished.nd rfl (Or.inr rfl) (pe_callB (cr_sum rfl) (by rfl) m_sum (by decide +kernel) (pa_cons (pe_lc (own := [("_law_k", 4)]) (g := (gName 4)) rfl c__law_wished.nd (pi_range1 (by rfl) m_range (pa_cons (pe_callB call_len_seq (by rfl) m_len PySem.boot_len (pa_cons (pv 0) pa_nil)) pa_nil)) (blkOk_by (own := [("_law_k", 4)]) (N := n__law_wished) (sc := defScope s__law_wished) (by decide +kernel)) (fun _ _ _ _ _ => (pg_name (i := 4) c__law_wished.nd rfl (Or.inl rfl))) (fun _ _ _ _ _ => (pts_one (pt_not (pt_val (pe_ix (r := rIxL K) ix_list (pv 2) (pv 4) (fun _ _ => rfl)))))) (fun _ _ _ _ _ => (pe_ix (r := rIxL K) ix_list (pv 0) (pv 4) (fun _ _ => rfl)))) pa_nil)))
      (pss_cons (ps_setLc (i := 6) (own := [("_law_k", 4)]) (g := (gName 4)) rfl c__law_wished.nd rfl rfl (sw_true rfl rfl rfl (by decide +kernel)) (pi_range1 (by rfl) m_range (pa_cons (pe_callB call_len_seq (by rfl) m_len PySem.boot_len (pa_cons (pv 0) pa_nil)) pa_nil)) (blkOk_by (own := [("_law_k", 4)]) (N := n__law_wished) (sc := defScope s__law_wished) (by decide +kernel)) (fun _ _ _ _ _ => (pg_name (i := 4) c__law_wished.nd rfl (Or.inl rfl))) (fun _ _ _ _ _ => (pts_one (PW.pt (pw_and (pt_not (pt_val (pe_ix (r := rIxL K) ix_list (pv 2) (pv 4) (fun _ _ => rfl)))) (pw_and1 (pt_cmpR op_ge (pe_op op_mul (pe_ix (r := rIxL K) ix_list (pv 0) (pv 4) (fun _ _ => rfl)) (pv 1)) (pv 5) (nomark _))))))) (fun _ _ _ _ _ => (pv 4)))
      (pss_cons (ps_for PassesOwn.never rfl (pi_list (pv 6)) (pg_name (i := 4) c__law_wished.nd rfl (Or.inl rfl)) (pss_one (ps_asg pe_bl (pg_sub (pv 2) (pv 4) set_list))))
      (pss_cons (ps_set (i := 1) c__law_wished.nd rfl (Or.inr rfl) (pe_op op_sub (pv 1) (pe_callB call_len_seq (by rfl) m_len PySem.boot_len (pa_cons (pv 6) pa_nil))))
      (pss_one (ps_set (i := 3) c__law_wished.nd rfl (Or.inl rfl) (pe_cmpR (op_neD hr.units) (pv 6) (pe_lst pa_nil) (nomark _)))))))))
      (pss_cons (ps_set (i := 5) c__law_wished.nd rfl (Or.inr rfl) (pe_callB (cr_sum rfl) (by rfl) m_sum (by decide +kernel) (pa_cons (pe_lc (own := [("_law_k", 4)]) (g := (gName 4)) rfl c__law_wished.nd (pi_range1 (by rfl) m_range (pa_cons (pe_callB call_len_seq (by rfl) m_len PySem.boot_len (pa_cons (pv 0) pa_nil)) pa_nil)) (blkOk_by (own := [("_law_k", 4)]) (N := n__law_wished) (sc := defScope s__law_wished) (by decide +kernel)) (fun _ _ _ _ _ => (pg_name (i := 4) c__law_wished.nd rfl (Or.inl rfl))) (fun _ _ _ _ _ => (pts_one (pt_not (pt_val (pe_ix (r := rIxL K) ix_list (pv 2) (pv 4) (fun _ _ => rfl)))))) (fun _ _ _ _ _ => (pe_ix (r := rIxL K) ix_list (pv 0) (pv 4) (fun _ _ => rfl)))) pa_nil)))
      (pss_cons (ps_set (i := 7) c__law_wished.nd rfl (Or.inl rfl) (pe_lst pa_nil))
      (pss_cons (ps_for PassesOwn.never rfl (pi_range1 (by rfl) m_range (pa_cons (pe_callB call_len_seq (by rfl) m_len PySem.boot_len (pa_cons (pv 0) pa_nil)) pa_nil)) (pg_name (i := 4) c__law_wished.nd rfl (Or.inl rfl)) (pss_cons (ps_expr (pe_bm PySem.F.plainAttrs_list PySem.F.slot_list_append PySem.F.type_list_append mt_append (pv 7) (pa_cons (pe_tup (pa_cons pe_int (pa_cons pe_int pa_nil))) pa_nil)))
      (pss_one (ps_if (pt_not (pt_val (pe_ix ix_list (pv 2) (pv 4) (fun _ _ => rfl)))) (pss_one (ps_asg (pe_c C_law_low hr (by decide) (by rfl) (pa_cons (pe_op op_mul (pe_ix ix_list (pv 0) (pv 4) (fun _ _ => rfl)) (pv 1)) (pa_cons (pv 5) pa_nil))) (pg_sub (pv 7) (pv 4) set_list))) pss_nil))))
      (pss_one (ps_ret (pv 7)))))))))), ?_⟩)
  · obtain ⟨a, zs, m, rfl, _⟩ := h
    rfl
  · obtain ⟨a, zs, m, rfl, hS, hz, h0, h24, q⟩ := h
    have hn := hz.1
    have hml : (zs.map V.int).length = zs.length := List.length_map ..
    refine ⟨_, rfl, _, rfl, a, _, rfl, .inl hS, _, _, rfl, rfl, _, rfl, ite2 (fun e => ?_) fun e => ?_⟩
    · have hm : (zs.length : Int) ≤ m := by
        have := of_decide_eq_true e
        rw [hml] at this
        exact this
      refine ⟨_, rfl, a, rfl, ⟨_, hS⟩, fun D nD => lcE rel_same (R := FrR K) (walk_list (xs := zs.map V.int)) (fun _ => some (1, 1)) nD (by rw [hml]; omega)
        (fun H1 e => e.seq hS) (fun i H1 x H2 e y => ?_) (fun _ _ _ _ _ e r => r.mono rel_same e) (fun _ _ _ _ _ hD r => ?_) (fun i x H1 H2 acc C hi e1 e2 hD y k1 k2 => ?_) (fun H2 xs hD e hx => ?_)⟩
      · rw [y.1]
        exact Same.refl _
      · obtain ⟨b, rfl, h⟩ := r
        exact ⟨b, rfl, sqT_mut hD h⟩
      · refine ⟨rfl, ?_⟩
        refine ⟨by show 2 ≤ sizeLine; decide, fun p hp => ?_⟩
        refine k1 _ _ (sames hp) (fun y hy => ?_) (fun z => by cases z)
        cases hy
        exact ⟨p, rfl, SqT.of upd_same⟩
      · rw [outs_all, hml] at hx
        exact q _ (.inl ⟨hm, rfl⟩) D H2 xs nD e hD hx
    · have hm : m < zs.length := by
        have h1 : ¬ ((zs.map V.int).length : Int) ≤ m := fun z => e (decide_eq_true z)
        rw [hml] at h1
        omega
      let z := zf zs
      let n := zs.length
      -- sure = [False ..]
      refine ⟨_, rfl, a, rfl, ⟨_, hS⟩, fun su nS => lcE rel_same (R := fun _ v b => v = V.bl b) (walk_list (xs := zs.map V.int)) (fun _ => some false) nS (by rw [hml]; omega)
        (fun H1 e => e.seq hS) (fun i H1 x H2 e y => ?_) (fun _ _ _ _ _ e r => r) (fun _ _ _ _ _ hD r => r) (fun i x H1 H2 acc C hi e1 e2 hD y k1 k2 => ?_) (fun H1 xs hsu e1 hx => ?_)⟩
      · rw [y.1]
        exact Same.refl _
      · refine ⟨rfl, k1 _ _ (Same.refl _) (fun y hy => ?_) (fun z => by cases z)⟩
        cases hy
        rfl
      have exs : xs = svs n fun _ => false := by
        refine List.ext_getElem? fun i => ?_
        rw [outs_all, hml] at hx
        by_cases hi : i < n
        · obtain ⟨v, e, r⟩ := hx.get (i := i) (y := false) (by rw [List.getElem?_map, List.getElem?_range hi] <;> rfl)
          rw [e, r, svs_at hi]
        · have h1 := hx.1
          rw [List.length_map, List.length_range] at h1
          rw [List.getElem?_eq_none (by rw [h1]; exact Nat.le_of_not_lt hi), List.getElem?_eq_none (by rw [svs_len]; exact Nat.le_of_not_lt hi)]
      rw [exs] at hsu
      have eSu : Same H H1 := e1
      refine ⟨_, rfl, _, _, rfl, rfl, ?_⟩
      refine ⟨fun μ σ H' => ∃ (m' : Int) (S : Nat → Bool) (more : Bool) (y4 y5 y6 y7 y8 : Option V) (j : Nat), σ = [some (.ref a), some (.int m'), some (.ref su), some (.bl more), y4, y5, y6, y7, y8] ∧ Same H H' ∧ H' su = some (.lst (svs n S)) ∧ (S, m') = witer z n j (st0 m) ∧
          (more = false → 0 < m → wstep z n (S, m') = (S, m')) ∧ (more = true → 0 < m) ∧ (¬ 0 < m → (S, m') = st0 m) ∧ μ = unset n S + (if more then 1 else 0),
        ⟨_, m, fun _ => false, decide (0 < m), none, none, none, none, none, 0, rfl, eSu, hsu, rfl, fun h h' => ?_, fun h => of_decide_eq_true h, fun _ => rfl, rfl⟩, fun μ σ H1 hW => ?_⟩
      · rw [decide_eq_true h'] at h
        cases h
      obtain ⟨m', S, more, y4, y5, y6, y7, y8, j, rfl, s1, hsu, hj, hf, hmo, hst, rfl⟩ := hW
      have hS1 := s1.seq hS
      have em : m' = m - ((n : Int) - (unset n S : Nat)) := by
        have := iter_m z n m j
        rw [← hj] at this
        exact this
      have hu := unset_le n S
      -- sizes[k], sure[k] in a comprehension's or a loop's turn
      have aS : ∀ {i : Nat}, i < n → atI (zs.map V.int) (0 + (i : Int)) = some (V.int (z i)) := fun {i} hi => at_of (j := i) (by omega) (zs_at hi)
      have aB : ∀ {i : Nat} {S : Nat → Bool}, i < n → atI (svs n S) (0 + (i : Int)) = some (V.bl (S i)) := fun {i S} hi => at_of (j := i) (by omega) (svs_at hi)
      -- sum([sizes[k] for k in range(len(sizes)) if not sure[k]])
      refine ⟨_, rfl, more, rfl, ?_⟩
      cases more with
      | true =>
        have hp := hmo rfl
        refine iteT ⟨fun σ' H2 => ∃ (m' : Int) (S' : Nat → Bool) (more : Bool) (y4 y5 y6 y7 y8 : Option V) (j : Nat), σ' = [some (.ref a), some (.int m'), some (.ref su), some (.bl more), y4, y5, y6, y7, y8] ∧ Same H H2 ∧ H2 su = some (.lst (svs n S')) ∧ (S', m') = witer z n j (st0 m) ∧
          (more = false → 0 < m → wstep z n (S', m') = (S', m')) ∧ (more = true → 0 < m) ∧ (¬ 0 < m → (S', m') = st0 m) ∧ unset n S' + (if more then 1 else 0) < unset n S + 1, fun σ' H2 hN => ?_, ?_⟩
        · obtain ⟨m2, S2, more2, z4, z5, z6, z7, z8, j2, a1, a2, a3, a5, a6, a7, a8, a10⟩ := hN
          exact ⟨_, a10, m2, S2, more2, z4, z5, z6, z7, z8, j2, a1, a2, a3, a5, a6, a7, a8, rfl⟩
        refine ⟨_, rfl, a, _, rfl, .inl hS1, _, rfl, by omega, by rw [hml]; omega, fun D nD => lcE rel_same (R := fun _ v k => v = V.int k) (walk_range (lo := 0)) (fun k => if (!S k) = true then some (z k) else none) nD (by rw [hml]; omega)
          (fun _ _ => True.intro) (fun i H3 x H4 e y => by rw [y.1]; exact Same.refl _) (fun _ _ _ _ _ _ r => r) (fun _ _ _ _ _ _ r => r) (fun i x H3 H4 acc C hi e3 e4 hD y k1 k2 => ?_) (fun H2 xs hD s2 hx => ?_)⟩
        · obtain ⟨rfl, rfl⟩ := y
          rw [rng_len, hml] at hi
          refine ⟨rfl, _, rfl, _, rfl, su, _, _, .bl (S i), rfl, rfl, SqL.of (e4 _ _ hsu), aB hi, S i, rfl, ?_⟩
          cases hSi : S i with
          | true =>
            refine k2 _ (Same.refl _) ?_
            show (if (!S i) = true then some (z i) else none) = none
            rw [hSi]
            rfl
          | false =>
            refine ⟨_, rfl, _, rfl, a, _, _, .int (z i), rfl, rfl, e4.seq hS1, aS hi, k1 _ _ (Same.refl _) (fun y hy => ?_) ?_⟩
            · have hy : (if (!S i) = true then some (z i) else none) = some y := hy
              rw [hSi] at hy
              cases hy
              rfl
            · show (if (!S i) = true then some (z i) else none) ≠ none
              rw [hSi]
              exact fun z => by cases z
        have ex := allR_ints hx
        rw [outs_filter, rng_len, hml] at ex
        refine ⟨D, _, rfl, SqL.of (by rw [hD, ex]), ?_⟩
        have etot : (((List.range zs.length).filter fun k => !S k).map z).sum = tot z n S := rfl
        rw [etot]
        have hS2 := s2.seq hS1
        have hsu2 := s2 _ _ hsu
        -- high = ..
        refine ⟨_, rfl, a, _, rfl, .inl hS2, _, rfl, by omega, by rw [hml]; omega, fun D2 nD2 => lcE rel_same (R := fun _ v k => v = V.int (k : Nat)) (walk_range (lo := 0)) (fun k => if (!S k && decide (tot z n S ≤ z k * m')) = true then some k else none) nD2 (by rw [hml]; omega)
          (fun _ _ => True.intro) (fun i H3 x H4 e y => by rw [y.1]; exact Same.refl _) (fun _ _ _ _ _ _ r => r) (fun _ _ _ _ _ _ r => r) (fun i x H3 H4 acc C hi e3 e4 hD y k1 k2 => ?_) (fun H3 xs hD2 s3 hx => ?_)⟩
        · obtain ⟨rfl, rfl⟩ := y
          rw [rng_len, hml] at hi
          obtain ⟨z1, z2⟩ := zf_ok hz hi
          refine ⟨rfl, _, rfl, _, rfl, su, _, _, .bl (S i), rfl, rfl, SqL.of (e4 _ _ hsu2), aB hi, S i, rfl, ?_⟩
          cases hSi : S i with
          | true =>
            refine iteF ?_
            refine k2 _ (Same.refl _) ?_
            show (if (!S i && decide (tot z n S ≤ z i * m')) = true then some i else none) = none
            rw [hSi]
            rfl
          | false =>
            refine iteT ?_
            refine ⟨_, rfl, _, rfl, a, _, _, .int (z i), rfl, rfl, e4.seq hS2, aS hi, _, rfl, _, _, rfl, rfl, .inl ⟨by show -(2 ^ 64) < zf zs i; omega, by show zf zs i < 2 ^ 64; omega⟩, _, rfl, _, _, rfl, rfl, _, rfl, ite2 (fun e => ?_) fun e => ?_⟩
            · have e' : tot z n S ≤ z i * m' := of_decide_eq_true e
              refine ⟨_, rfl, k1 _ _ (Same.refl _) (fun y hy => ?_) ?_⟩
              · have hy : (if (!S i && decide (tot z n S ≤ z i * m')) = true then some i else none) = some y := hy
                rw [hSi, decide_eq_true e'] at hy
                cases hy
                show V.int (0 + (i : Int)) = V.int (i : Int)
                rw [Int.zero_add]
              · show (if (!S i && decide (tot z n S ≤ z i * m')) = true then some i else none) ≠ none
                rw [hSi, decide_eq_true e']
                exact fun z => by cases z
            · have e' : ¬ tot z n S ≤ z i * m' := fun z => e (decide_eq_true z)
              refine k2 _ (Same.refl _) ?_
              show (if (!S i && decide (tot z n S ≤ z i * m')) = true then some i else none) = none
              rw [hSi, decide_eq_false e']
              rfl
        rw [outs_nats, rng_len, hml] at hx
        have ex := allR_nats hx
        have efn : (List.range zs.length).filter (fun k => !S k && decide (tot z n S ≤ z k * m')) = fnd z n (S, m') := rfl
        rw [efn] at ex
        have hf3 : H3 D2 = some (.lst ((fnd z n (S, m')).map fun k => V.int (k : Nat))) := by rw [hD2, ex]
        have hDs : D2 ≠ su := (ne_of_none hsu2 nD2).symm
        have sH3 : Same H H3 := (s1.trans s2).trans s3
        have hsu3 := s3 _ _ hsu2
        have us := unset_step z n (S, m')
        -- for k in high: sure[k] = True
        refine ⟨_, rfl, D2, rfl, ⟨_, SqL.of hf3⟩, for_it (walk_list (xs := (fnd z n (S, m')).map fun k => V.int (k : Nat))) (fun i σ H4 => ∃ (y4 : Option V), σ = [some (.ref a), some (.int m'), some (.ref su), some (.bl true), y4, some (.int (tot z n S)), some (.ref D2), y7, y8] ∧ Same H H4 ∧
            H4 su = some (.lst (svs n fun k => S k || decide (k ∈ (fnd z n (S, m')).take i))) ∧ H4 D2 = some (.lst ((fnd z n (S, m')).map fun k => V.int (k : Nat))))
          ⟨y4, rfl, sH3, ?_, hf3⟩ (fun i σ H4 _ p => ?_) (fun i x σ H4 H5 hi p y => ?_) fun σ H4 p => ?_⟩
        · have : (fun k => S k || decide (k ∈ (fnd z n (S, m')).take 0)) = S := by
            funext k
            simp
          rw [this]
          exact hsu3
        · obtain ⟨_, _, _, _, h⟩ := p
          exact SqL.of h
        · obtain ⟨rfl, gx⟩ := y
          obtain ⟨z4, rfl, s4, hs4, hD4⟩ := p
          rw [List.getElem?_map] at gx
          cases eg : (fnd z n (S, m'))[i]? with
          | none =>
            rw [eg] at gx
            cases gx
          | some k =>
            rw [eg] at gx
            cases gx
            have hk : k < n := List.mem_range.mp (List.mem_filter.mp (List.mem_of_getElem? eg)).1
            refine ⟨_, rfl, _, rfl, su, _, (k : Int), k, rfl, rfl, hs4, ?_, ?_⟩
            · rw [svs_len]
              exact Evl.ixN_nat hk
            · refine ⟨_, rfl, fun b o hb => ?_, ?_, ?_⟩
              · rw [upd_ne (ne_of_none hb nS)]
                exact s4 b o hb
              · rw [upd_same, svs_set hk]
                congr 2
                congr 1
                funext j
                rw [List.take_add_one, eg]
                by_cases hjk : j = k
                · subst hjk
                  simp
                · simp [hjk]
              · rw [upd_ne hDs]
                exact hD4
        · obtain ⟨z4, rfl, s4, hs4, hD4⟩ := p
          rw [List.length_map, List.take_length] at hs4
          refine ⟨_, rfl, _, rfl, D2, _, rfl, .inl (SqL.of hD4), _, _, rfl, rfl, ?_⟩
          refine ⟨_, rfl, Nat.zero_le _, fun q0 nq => ?_⟩
          have hDq : D2 ≠ q0 := ne_of_none hD4 nq
          have hsq : su ≠ q0 := ne_of_none hs4 nq
          refine ⟨.list ((fnd z n (S, m')).map ixD), .list [], nats_dp (SqL.of (by rw [upd_ne hDq]; exact hD4)), .lst (SqL.of upd_same) .nil, nats_shaped _, nats_shaped [], ?_⟩
          rw [eqv_nil]
          refine ⟨m' - (((fnd z n (S, m')).map fun k => V.int (k : Nat)).length : Nat), (wstep z n (S, m')).1, _, _, _, _, _, _, j + 1, rfl, s4.trans (sames nq), by rw [upd_ne hsq]; exact hs4, ?_, fun h _ => ?_, fun _ => hp, fun h => absurd hp h, ?_⟩
          · rw [List.length_map]
            show wstep z n (S, m') = wstep z n (witer z n j (st0 m))
            rw [hj]
          · have he : fnd z n (S, m') = [] := by
              cases hf : fnd z n (S, m') with
              | nil => rfl
              | cons k l =>
                rw [hf] at h
                cases h
            have hw := fix_of_nil he
            rw [hw, he]
            have : (S, m' - (((([] : List Nat).map fun k => V.int (k : Nat)).length : Nat) : Int)) = (S, m') := by simp
            rw [this]
            exact hw
          · have : unset n (wstep z n (S, m')).1 + (fnd z n (S, m')).length = unset n S := us
            cases hf : fnd z n (S, m') with
            | nil =>
              rw [hf] at this
              show unset n (wstep z n (S, m')).1 + 0 < unset n S + 1
              simp at this
              omega
            | cons k l =>
              rw [hf] at this
              show unset n (wstep z n (S, m')).1 + 1 < unset n S + 1
              simp at this
              omega
      | false =>
        have hfin : IsFin z n m (S, m') := ⟨⟨j, hj⟩, fun h => hf rfl h, hst⟩
        refine iteF ?_
        refine ⟨_, rfl, a, _, rfl, .inl hS1, _, rfl, by omega, by rw [hml]; omega, fun D nD => lcE rel_same (R := fun _ v k => v = V.int k) (walk_range (lo := 0)) (fun k => if (!S k) = true then some (z k) else none) nD (by rw [hml]; omega)
          (fun _ _ => True.intro) (fun i H3 x H4 e y => by rw [y.1]; exact Same.refl _) (fun _ _ _ _ _ _ r => r) (fun _ _ _ _ _ _ r => r) (fun i x H3 H4 acc C hi e3 e4 hD y k1 k2 => ?_) (fun H2 xs hD s2 hx => ?_)⟩
        · obtain ⟨rfl, rfl⟩ := y
          rw [rng_len, hml] at hi
          refine ⟨rfl, _, rfl, _, rfl, su, _, _, .bl (S i), rfl, rfl, SqL.of (e4 _ _ hsu), aB hi, S i, rfl, ?_⟩
          cases hSi : S i with
          | true =>
            refine k2 _ (Same.refl _) ?_
            show (if (!S i) = true then some (z i) else none) = none
            rw [hSi]
            rfl
          | false =>
            refine ⟨_, rfl, _, rfl, a, _, _, .int (z i), rfl, rfl, e4.seq hS1, aS hi, k1 _ _ (Same.refl _) (fun y hy => ?_) ?_⟩
            · have hy : (if (!S i) = true then some (z i) else none) = some y := hy
              rw [hSi] at hy
              cases hy
              rfl
            · show (if (!S i) = true then some (z i) else none) ≠ none
              rw [hSi]
              exact fun z => by cases z
        have ex := allR_ints hx
        rw [outs_filter, rng_len, hml] at ex
        refine ⟨D, _, rfl, SqL.of (by rw [hD, ex]), ?_⟩
        have etot : (((List.range zs.length).filter fun k => !S k).map z).sum = tot z n S := rfl
        rw [etot]
        have hS2 := s2.seq hS1
        have hsu2 := s2 _ _ hsu
        obtain ⟨t1, t2, t3⟩ := tot_ok hz S
        -- found = []
        refine ⟨Nat.zero_le _, fun o no => ?_⟩
        have nso : su ≠ o := ne_of_none hsu2 no
        have s3 : Same H (upd H2 o (.lst [])) := (s1.trans s2).trans (sames no)
        have noH : H o = none := (s1.trans s2).free no
        refine ⟨_, rfl, a, _, rfl, .inl (s3.seq hS), _, rfl, by omega, by rw [hml]; omega, for_it (walk_range (lo := 0)) (fun i σ H4 => ∃ (y4 : Option V) (xs : List V), σ = [some (.ref a), some (.int m'), some (.ref su), some (.bl false), y4, some (.int (tot z n S)), y6, some (.ref o), y8] ∧ Same H H4 ∧ H4 su = some (.lst (svs n S)) ∧
            H4 o = some (.lst xs) ∧ AllR (FrR K H4) xs ((List.range i).map (shr z n (S, m'))))
          ⟨_, [], rfl, s3, by rw [upd_ne nso]; exact hsu2, upd_same, AllR.nil⟩ (fun _ _ _ _ _ => True.intro) (fun i x σ H4 H5 hi p y => ?_) fun σ H4 p => ?_⟩
        · obtain ⟨rfl, rfl⟩ := y
          rw [rng_len, hml] at hi
          obtain ⟨z4, xs, rfl, s4, hs4, ho4, hx4⟩ := p
          obtain ⟨z1, z2⟩ := zf_ok hz hi
          have hxl : xs.length = i := by
            rw [hx4.1, List.length_map, List.length_range]
          -- found.append((1, 1))
          refine ⟨_, rfl, .inl ⟨rfl, _, SqL.of ho4⟩, by show 2 ≤ sizeLine; decide, fun t nt => ?_⟩
          have nto : o ≠ t := ne_of_none ho4 nt
          have nts : su ≠ t := ne_of_none hs4 nt
          refine ⟨o, xs, _, rfl, rfl, by rw [upd_ne nto]; exact ho4, Nat.lt_of_le_of_lt (show xs.length ≤ 100 by omega) (by decide), ?_⟩
          generalize hH6 : upd (upd H5 t (.tup [.int 1, .int 1])) o (.lst (xs ++ [.ref t])) = H6
          have ho6 : H6 o = some (.lst (xs ++ [.ref t])) := by rw [← hH6]; exact upd_same
          have s56 : Same H H6 := by rw [← hH6]; exact same_mut (s4.trans (sames nt)) noH
          have hs6 : H6 su = some (.lst (svs n S)) := by rw [← hH6, upd_ne nso, upd_ne nts]; exact hs4
          have ht6 : SqT K H6 t (frV (1, 1)) := SqT.of (by rw [← hH6, upd_ne nto.symm]; exact upd_same)
          have fr6 : ∀ {v p}, FrR K H5 v p → FrR K H6 v p := fun {v p} ⟨b, e, h⟩ => ⟨b, e, by
            rw [← hH6]
            exact sqT_mut (acc := xs) (by rw [upd_ne nto]; exact ho4) (Rel.sqT rel_same (sames nt) h)⟩
          have hx6 : AllR (FrR K H6) xs ((List.range i).map (shr z n (S, m'))) := hx4.imp fun v p r => fr6 r
          refine ⟨_, rfl, _, rfl, su, _, _, .bl (S i), rfl, rfl, SqL.of hs6, aB hi, S i, rfl, ?_⟩
          have er : (List.range (i + 1)).map (shr z n (S, m')) = (List.range i).map (shr z n (S, m')) ++ [shr z n (S, m') i] := by rw [List.range_succ, List.map_append] <;> rfl
          cases hSi : S i with
          | true =>
            refine iteF ⟨_, xs ++ [.ref t], rfl, s56, hs6, ho6, ?_⟩
            rw [er]
            refine hx6.snoc ?_
            have e5 : shr z n (S, m') i = (1, 1) := by
              unfold shr
              rw [if_pos hSi]
            rw [e5]
            exact ⟨t, rfl, ht6⟩
          | false =>
            have hp := t3 i hi hSi
            refine iteT ?_
            refine ⟨_, rfl, _, rfl, a, _, _, .int (z i), rfl, rfl, s56.seq hS, aS hi, _, rfl, _, _, rfl, rfl, .inl ⟨by show -(2 ^ 64) < zf zs i; omega, by show zf zs i < 2 ^ 64; omega⟩, _, rfl, _, _, rfl, hp, ?_, fun p H7 np s7 h7 => ?_⟩
            · exact Nat.lt_of_lt_of_le (show (tot (zf zs) zs.length S).natAbs < 2 ^ 64 by omega) (Nat.pow_le_pow_right (by decide) (by decide))
            · refine ⟨_, rfl, _, rfl, o, _, _, i, rfl, rfl, s7 _ _ ho6, ?_, ?_⟩
              · have : ixN (xs ++ [V.ref t]).length ((i : Nat) : Int) = some i := Evl.ixN_nat (by rw [List.length_append, hxl]; exact Nat.lt_succ_self i)
                rw [Int.zero_add]
                exact this
              · refine ⟨_, (xs ++ [V.ref t]).set i (V.ref p), rfl, same_mut (s56.trans s7) noH, by rw [upd_ne nso]; exact s7 _ _ hs6, upd_same, ?_⟩
                rw [er]
                have e5 : shr z n (S, m') i = low (z i * m') (tot z n S) := by
                  unfold shr
                  rw [if_neg (show ¬ S i = true by rw [hSi]; exact Bool.false_ne_true)]
                have eset : (xs ++ [V.ref t]).set i (.ref p) = xs ++ [V.ref p] := by
                  rw [List.set_append, if_neg (by omega), hxl, Nat.sub_self]
                  rfl
                rw [eset]
                have mu : ∀ {v p'}, FrR K H7 v p' → FrR K (upd H7 o (.lst (xs ++ [V.ref p]))) v p' := fun {v p'} ⟨b, e, h⟩ => ⟨b, e, sqT_mut (s7 _ _ ho6) h⟩
                refine (hx6.imp fun v p' r => mu (r.mono rel_same s7)).snoc ?_
                rw [e5]
                exact mu ⟨p, rfl, SqT.of h7⟩
        · obtain ⟨z4, xs, rfl, s4, hs4, ho4, hx4⟩ := p
          rw [rng_len, hml] at hx4
          exact ⟨_, rfl, q _ (.inr ⟨hm, (S, m'), hfin, rfl⟩) o H4 xs noH s4 ho4 hx4⟩
end
end Fk
/-! A6: crowds: places_of, wished_of, the law's crowd. -/
namespace Fk
open PySem PySem.Spec PyProof.Rows L2 LamX
/-- a unit of a crowd: its place, its size; all have the path ys -/
def CrR (K : PySem.W.Frag) (H : Hp) (ys : List Str) (v : V) (c : Int × Int) : Prop := ∃ a t, v = .ref a ∧ SqT K H a [.int c.1, .int c.2, .ref t] ∧ SqT K H t (ys.map V.str)
def CrLs (K : PySem.W.Frag) (H : Hp) (a : Addr) (cs : List (Int × Int)) (ys : List Str) : Prop := ∃ xs, SqL K H a xs ∧ AllR (CrR K H ys) xs cs
theorem CrR.mono {E : Hp → Hp → Prop} {K : PySem.W.Frag} {H H' : Hp} {ys : List Str} {v : V} {c : Int × Int} (R : Rel E) (e : E H H') (h : CrR K H ys v c) : CrR K H' ys v c := by
  obtain ⟨a, t, rfl, h1, h2⟩ := h
  exact ⟨a, t, rfl, R.sqT e h1, R.sqT e h2⟩
theorem CrLs.mono {E : Hp → Hp → Prop} {K : PySem.W.Frag} {H H' : Hp} {ys : List Str} {a : Addr} {cs : List (Int × Int)} (R : Rel E) (e : E H H') (h : CrLs K H a cs ys) : CrLs K H' a cs ys := by
  obtain ⟨xs, h1, h2⟩ := h
  exact ⟨xs, R.sqL e h1, h2.imp fun v c r => r.mono R e⟩
def spPlacesOf (K : PySem.W.Frag) : Sp := fun vs H Q _ => ∃ (a : Addr) (cs : List (Int × Int)) (ys : List Str), vs = [.ref a] ∧ CrLs K H a cs ys ∧ cs.length ≤ 24 ∧ RetLs ((cs.map (·.1)).map V.int) H Q
def spWishedOf (K : PySem.W.Frag) : Sp := fun vs H Q _ => ∃ (a : Addr) (cs : List (Int × Int)) (ys : List Str) (m : Int), vs = [.ref a, .int m] ∧ CrLs K H a cs ys ∧ SzOk (cs.map (·.2)) ∧ 0 ≤ m ∧ m ≤ 24 ∧ ∀ ps, IsW (cs.map (·.2)) m ps → ∀ p H2 xs, H p = none → Same H H2 → H2 p = some (.lst xs) → AllR (FrR K H2) xs ps → Q (.ref p) H2
def YsOk (ys : List Str) : Prop := ∀ y ∈ ys, PyData.strOk y = true
def spCrowd (K : PySem.W.Frag) : Sp := fun vs H Q _ => ∃ (a : Addr) (ns : List Int), vs = [.ref a, .int 0, .int 24] ∧ SqL K H a (ns.map V.int) ∧ ∀ cs ys p H2, cs.length ≤ 24 → YsOk ys → SzOk (cs.map (·.2)) → Same H H2 → CrLs K H2 p cs ys → Q (.ref p) H2
theorem map_outs {α β : Type} (f : α → β) (ys : List α) (d : α) : outs (fun i => some (f (ys.getD i d))) ys.length = ys.map f := by
  rw [outs_all]
  refine List.ext_getElem? fun i => ?_
  rw [List.getElem?_map, List.getElem?_map]
  by_cases h : i < ys.length
  · rw [List.getElem?_range h, List.getElem?_eq_getElem h]
    show some (f (ys.getD i d)) = some (f ys[i])
    rw [List.getD_eq_getElem?_getD, List.getElem?_eq_getElem h]
    rfl
  · rw [List.getElem?_eq_none (by rw [List.length_range]; omega), List.getElem?_eq_none (by omega)]
    rfl
theorem getD_of {α : Type} {ys : List α} {i : Nat} {y d : α} (h : ys[i]? = some y) : ys.getD i d = y := by
  rw [List.getD_eq_getElem?_getD, h]
  rfl
theorem mem_bound {ns : List Int} {P : Int → Prop} (h : ∀ n ∈ ns, P n) {i : Nat} (hi : i < ns.length) : P (zf ns i) := by
  have e : zf ns i = ns[i] := getD_of (List.getElem?_eq_getElem hi)
  rw [e]
  exact h _ (List.getElem_mem hi)
theorem three {i : Int} (h0 : 0 ≤ i) (h : i < 3) : ∃ mo : Int, atI [V.int 9, V.int 1000, V.int 24000000] i = some (.int mo) ∧ 1 ≤ mo ∧ mo ≤ 24000000 := by
  have : i = 0 ∨ i = 1 ∨ i = 2 := by omega
  rcases this with rfl | rfl | rfl
  · exact ⟨9, rfl, by decide, by decide⟩
  · exact ⟨1000, rfl, by decide, by decide⟩
  · exact ⟨24000000, rfl, by decide, by decide⟩
theorem cut_strs (zs : List Str) (lo hi : Option Int) : ∃ ys : List Str, (∀ y ∈ ys, y ∈ zs) ∧ cutV (zs.map V.str) lo hi = ys.map V.str := by
  refine ⟨(zs.drop (HT.sIx (zs.map V.str).length 0 lo)).take (HT.sIx (zs.map V.str).length (zs.map V.str).length hi - HT.sIx (zs.map V.str).length 0 lo), fun y hy => List.mem_of_mem_drop (List.mem_of_mem_take hy), ?_⟩
  unfold cutV
  rw [List.map_take, List.map_drop]
theorem seqIx {i : Int} {n : Nat} (h0 : 0 ≤ i) (h : i < n) : seqIndex? i n = some i.toNat := by
  have e : (if i < 0 then i + (n : Int) else i) = i := if_neg (by omega)
  unfold seqIndex?
  simp only [e]
  rw [if_pos (by rw [decide_eq_true h0, decide_eq_true h]; rfl)]
theorem erase_map {α β : Type} (f : α → β) : ∀ (l : List α) (k : Nat), (l.map f).eraseIdx k = (l.eraseIdx k).map f
  | [], _ => rfl
  | a :: l, 0 => rfl
  | a :: l, k + 1 => by
    show f a :: (l.map f).eraseIdx k = f a :: (l.eraseIdx k).map f
    rw [erase_map f l k]
section
variable {P : Program} {w : World} {K : PySem.W.Frag} {mg : Str → Option Value} {base : Heap} {f : Addr} {fd : FuncData}
theorem ok_places_of (F : FnP K "places_of" "places_of" s_places_of f fd) : FnOk P w K mg base CX0 1 f fd ["crowd"] (spPlacesOf K) := by
  refine F.ok c_places_of (fun vs H Q E h => ?_) (fun cdv A outer s H vs Q E hr h => ⟨_, PSs.nox (pss_one (ps_ret (pe_lc (own := [("place", 1), ("size", 2), ("path", 3)]) (g := (gTup K 3 (gCons (gName 1) (gCons (gName 2) (gCons (gName 3) gNil))))) (tt := tYes) rfl c_places_of.nd (pi_list (pv 0)) (blkOk_by (own := [("place", 1), ("size", 2), ("path", 3)]) (N := n_places_of) (sc := defScope s_places_of) (by decide +kernel)) (fun _ _ _ _ _ => (pg_tup rfl (pgs_cons (pg_name (i := 1) c_places_of.nd rfl (Or.inl rfl)) (pgs_cons (pg_name (i := 2) c_places_of.nd rfl (Or.inl rfl)) (pgs_cons (pg_name (i := 3) c_places_of.nd rfl (Or.inl rfl)) pgs_nil))))) (fun _ _ _ _ _ => pts_nil) (fun _ _ _ _ _ => (pv 1))))), ?_⟩)
  · obtain ⟨a, cs, ys, rfl, _⟩ := h
    rfl
  · obtain ⟨a, cs, ys, rfl, ⟨xs, hS, hx⟩, hn, q⟩ := h
    refine ⟨_, rfl, a, rfl, ⟨_, hS⟩, fun D nD => lcE rel_same (R := fun _ v n => v = V.int n) (walk_list (xs := xs)) (fun i => some ((cs.getD i (0, 0)).1)) nD (by rw [hx.1]; omega)
      (fun H1 e => e.seq hS) (fun i H1 x H2 e y => ?_) (fun _ _ _ _ _ _ r => r) (fun _ _ _ _ _ _ r => r) (fun i x H1 H2 acc C hi e1 e2 hD y k1 k2 => ?_) (fun H2 zs hD e hz => ?_)⟩
    · rw [y.1]
      exact Same.refl _
    · obtain ⟨rfl, gx⟩ := y
      obtain ⟨c, ec, b, t, rfl, h1, h2⟩ := hx.getV gx
      refine ⟨b, _, rfl, rel_same.sqT e2 h1, rfl, _, _, rfl, _, _, rfl, _, _, rfl, rfl, rfl, _, rfl, k1 _ _ (Same.refl _) (fun y hy => ?_) (fun z => by cases z)⟩
      cases hy
      show V.int c.1 = V.int ((cs.getD i (0, 0)).1)
      rw [getD_of ec]
    · rw [hx.1, map_outs (fun c : Int × Int => c.1)] at hz
      have ex := allR_ints hz
      exact q D H2 nD e (by rw [hD, ex])
theorem ok_wished_of (F : FnP K "wished_of" "wished_of" s_wished_of f fd) (C_wished : Cal P w K mg base 3 "wished" (spWished K)) : FnOk P w K mg base CX0 4 f fd ["crowd", "many"] (spWishedOf K) := by
  refine F.ok c_wished_of (fun vs H Q E h => ?_) (fun cdv A outer s H vs Q E hr h => ⟨_, PSs.nox (pss_one (ps_ret (pe_c C_wished hr (by decide) (by rfl) (pa_cons (pe_lc (own := [("place", 2), ("size", 3), ("path", 4)]) (g := (gTup K 3 (gCons (gName 2) (gCons (gName 3) (gCons (gName 4) gNil))))) (tt := tYes) rfl c_wished_of.nd (pi_list (pv 0)) (blkOk_by (own := [("place", 2), ("size", 3), ("path", 4)]) (N := n_wished_of) (sc := defScope s_wished_of) (by decide +kernel)) (fun _ _ _ _ _ => (pg_tup rfl (pgs_cons (pg_name (i := 2) c_wished_of.nd rfl (Or.inl rfl)) (pgs_cons (pg_name (i := 3) c_wished_of.nd rfl (Or.inl rfl)) (pgs_cons (pg_name (i := 4) c_wished_of.nd rfl (Or.inl rfl)) pgs_nil))))) (fun _ _ _ _ _ => pts_nil) (fun _ _ _ _ _ => (pv 3))) (pa_cons (pv 1) pa_nil))))), ?_⟩)
  · obtain ⟨a, cs, ys, m, rfl, _⟩ := h
    rfl
  · obtain ⟨a, cs, ys, m, rfl, ⟨xs, hS, hx⟩, hz, h0, h24, q⟩ := h
    have hn := hz.1
    rw [List.length_map] at hn
    refine ⟨_, rfl, a, rfl, ⟨_, hS⟩, fun D nD => lcE rel_same (R := fun _ v n => v = V.int n) (walk_list (xs := xs)) (fun i => some ((cs.getD i (0, 0)).2)) nD (by rw [hx.1]; omega)
      (fun H1 e => e.seq hS) (fun i H1 x H2 e y => ?_) (fun _ _ _ _ _ _ r => r) (fun _ _ _ _ _ _ r => r) (fun i x H1 H2 acc C hi e1 e2 hD y k1 k2 => ?_) (fun H2 zs hD e hzs => ?_)⟩
    · rw [y.1]
      exact Same.refl _
    · obtain ⟨rfl, gx⟩ := y
      obtain ⟨c, ec, b, t, rfl, h1, h2⟩ := hx.getV gx
      refine ⟨b, _, rfl, rel_same.sqT e2 h1, rfl, _, _, rfl, _, _, rfl, _, _, rfl, rfl, rfl, _, rfl, k1 _ _ (Same.refl _) (fun y hy => ?_) (fun z => by cases z)⟩
      cases hy
      show V.int c.2 = V.int ((cs.getD i (0, 0)).2)
      rw [getD_of ec]
    · rw [hx.1, map_outs (fun c : Int × Int => c.2)] at hzs
      have ex := allR_ints hzs
      refine ⟨_, rfl, D, cs.map (·.2), m, rfl, SqL.of (by rw [hD, ex]), hz, h0, h24, fun ps hps p H3 ws np s3 hp hw => ?_⟩
      exact q ps hps p H3 ws (e.free np) (e.trans s3) hp hw
theorem ok_law_crowd (F : FnP K "_law_crowd" "_law_crowd" s__law_crowd f fd) (C_law_cell : Cal P w K mg base 1 "_law_cell" (spCell K)) (C_law_row : Cal P w K mg base 2 "_law_row" spRow) (m_list : mg "list" = none) (m_range : mg "range" = none) (m_len : mg "len" = none) (m_sorted : mg "sorted" = none) (m_tuple : mg "tuple" = none) :
    FnOk P w K mg base CX0 3 f fd ["_law_script", "_law_start_here", "_law_most"] (spCrowd K) := by
  refine F.ok c__law_crowd (fun vs H Q E h => ?_) (fun cdv A outer s H vs Q E hr h => ⟨_, PSs.nox (pss_cons (ps_set (i := 3) c__law_crowd.nd rfl (Or.inl rfl) (pe_op op_mod (pe_c C_law_cell hr (by decide) (by rfl) (pa_cons (pv 0) (pa_cons (pv 1) pa_nil))) (pe_op op_add (pv 2) pe_int)))
      (pss_cons (ps_set (i := 4) c__law_crowd.nd rfl (Or.inl rfl) (pe_c C_law_cell hr (by decide) (by rfl) (pa_cons (pv 0) (pa_cons (pe_op op_add (pv 1) pe_int) pa_nil))))
      (pss_cons (ps_set (i := 5) c__law_crowd.nd rfl (Or.inr rfl) (pe_c C_law_row hr (by decide) (by rfl) (pa_cons (pe_c C_law_cell hr (by decide) (by rfl) (pa_cons (pv 0) (pa_cons (pe_op op_add (pv 1) pe_int) pa_nil))) (pa_cons (pv 4) (pa_cons (pv 3) (pa_cons (pe_ix ix_list (pe_lst (pa_cons pe_int (pa_cons pe_int (pa_cons pe_int pa_nil)))) (pe_op op_mod (pe_op op_fdivW (pv 4) pe_int) pe_int) (fun _ _ => rfl)) pa_nil))))))
      (pss_cons (ps_set (i := 6) c__law_crowd.nd rfl (Or.inl rfl) (pe_listRg rfl (by rfl) m_list (prg_1 (by rfl) m_range pe_int)))
      (pss_cons (ps_set (i := 7) c__law_crowd.nd rfl (Or.inr rfl) (pe_lst pa_nil))
      (pss_cons (ps_for PassesOwn.never rfl (pi_list (pe_c C_law_row hr (by decide) (by rfl) (pa_cons (pe_c C_law_cell hr (by decide) (by rfl) (pa_cons (pv 0) (pa_cons (pe_op op_add (pv 1) pe_int) pa_nil))) (pa_cons (pe_op op_fdivW (pv 4) pe_int) (pa_cons (pv 3) (pa_cons pe_int pa_nil)))))) (pg_name (i := 8) c__law_crowd.nd rfl (Or.inl rfl)) (pss_one (ps_expr (pe_bm PySem.F.plainAttrs_list PySem.F.slot_list_append PySem.F.type_list_append mt_append (pv 7) (pa_cons (pe_bm PySem.F.plainAttrs_list PySem.F.slot_list_pop PySem.F.type_list_pop mt_popAt (pv 6) (pa_cons (pe_op op_mod (pv 8) (pe_callB call_len_seq (by rfl) m_len PySem.boot_len (pa_cons (pv 6) pa_nil))) pa_nil)) pa_nil)))))
      (pss_cons (ps_set (i := 7) c__law_crowd.nd rfl (Or.inr rfl) (pe_callB cr_sorted (by rfl) m_sorted (by decide +kernel) (pa_cons (pv 7) pa_nil)))
      (pss_cons (ps_set (i := 9) c__law_crowd.nd rfl (Or.inr rfl) (pe_callTy call_tuple_of (by rfl) m_tuple (by decide +kernel) (pa_cons (pe_slice sl_list (pe_lst (pa_cons pe_str (pa_cons pe_str (pa_cons pe_str pa_nil)))) po_none (po_some (pe_op op_mod (pe_op op_fdivW (pv 4) pe_int) pe_int))) pa_nil)))
      (pss_one (ps_ret (pe_lc (own := [("_law_k", 10)]) (g := (gName 10)) (tt := tYes) rfl c__law_crowd.nd (pi_range1 (by rfl) m_range (pa_cons (pv 3) pa_nil)) (blkOk_by (own := [("_law_k", 10)]) (N := n__law_crowd) (sc := defScope s__law_crowd) (by decide +kernel)) (fun _ _ _ _ _ => (pg_name (i := 10) c__law_crowd.nd rfl (Or.inl rfl))) (fun _ _ _ _ _ => pts_nil) (fun _ _ _ _ _ => (pe_tup (pa_cons (pe_ix (r := rIxL K) ix_list (pv 7) (pv 10) (fun _ _ => rfl)) (pa_cons (pe_op op_add pe_int (pe_ix (r := rIxL K) ix_list (pv 5) (pv 10) (fun _ _ => rfl))) (pa_cons (pv 9) pa_nil)))))))))))))))), ?_⟩)
  · obtain ⟨a, ns, rfl, _⟩ := h
    rfl
  · obtain ⟨a, ns, rfl, hS, q⟩ := h
    -- many, bit
    refine ⟨_, rfl, _, rfl, a, ns, 0, rfl, hS, fun n0 => ?_⟩
    refine ⟨_, rfl, _, _, rfl, rfl, _, _, rfl, rfl, by show (0 : Int) < 24 + 1; decide, ?_⟩
    have m0 := Int.emod_nonneg n0 (show (24 + 1 : Int) ≠ 0 by decide)
    have m1 := Int.emod_lt_of_pos n0 (show (0 : Int) < 24 + 1 by decide)
    obtain ⟨m, em⟩ : ∃ m : Nat, n0 % (24 + 1) = (m : Int) := ⟨(n0 % (24 + 1)).toNat, by omega⟩
    have hm : m ≤ 24 := by omega
    show gName 3 (V.int (n0 % (24 + 1))) _ _ _
    rw [em]
    refine ⟨_, rfl, _, rfl, _, _, rfl, rfl, a, ns, 1, rfl, hS, fun b => ?_⟩
    -- sizes
    refine ⟨_, rfl, _, rfl, _, _, rfl, rfl, a, ns, 2, rfl, hS, fun c2 => ?_⟩
    refine ⟨_, rfl, _, rfl, ?_⟩
    refine ⟨by show 3 ≤ sizeLine; decide, fun l nl => ?_⟩
    have e1 : Same H (upd H l (.lst [.int 9, .int 1000, .int 24000000])) := sames nl
    obtain ⟨mo, hmo, mo1, mo2⟩ := three (i := b / 2 % 3) (Int.emod_nonneg _ (by decide)) (Int.emod_lt_of_pos _ (by decide))
    refine ⟨_, rfl, _, _, rfl, rfl, ⟨by decide, by decide⟩, _, _, rfl, rfl, by show (0 : Int) < 3; decide, l, _, _, .int mo, rfl, rfl, SqL.of upd_same, hmo, ?_⟩
    refine ⟨c2, b, m, mo, rfl, by omega, by omega, by omega, fun sz lsz bsz p H2 np s2 hp => ?_⟩
    have e2 := e1.trans s2
    -- left = list(range(24)); places = []
    refine ⟨24, rfl, RgOk.of_le (by decide) (by decide) (by decide) (by decide), fun lf nlf => ?_⟩
    refine ⟨Nat.zero_le _, fun pl npl => ?_⟩
    have nlp : lf ≠ pl := fun z => by
      rw [z, upd_same] at npl
      cases npl
    have e3 : Same H2 (upd (upd H2 lf (.lst (rgV 0 24))) pl (.lst [])) := (sames nlf).trans (sames npl)
    have sz3 : upd (upd H2 lf (.lst (rgV 0 24))) pl (.lst []) p = some (.lst (sz.map V.int)) := e3 _ _ hp
    have hl3 : upd (upd H2 lf (.lst (rgV 0 24))) pl (.lst []) lf = some (.lst (rgV 0 24)) := by
      rw [upd_ne nlp]
      exact upd_same
    have hp3 : upd (upd H2 lf (.lst (rgV 0 24))) pl (.lst []) pl = some (.lst []) := upd_same
    have nlfH : H lf = none := e2.free nlf
    have nplH : H pl = none := (e2.trans (sames nlf)).free npl
    have nlf2 : H2 lf = none := nlf
    have npl2 : H2 pl = none := (sames nlf : Same H2 (upd H2 lf (.lst (rgV 0 24)))).free npl
    generalize upd (upd H2 lf (.lst (rgV 0 24))) pl (.lst []) = H3 at e3 sz3 hl3 hp3
    -- for pick in row(..)
    refine ⟨_, rfl, _, rfl, _, _, rfl, rfl, a, ns, 3, rfl, (e2.trans e3).seq hS, fun c3 => ?_⟩
    refine ⟨_, rfl, _, _, rfl, rfl, ⟨by decide, by decide⟩, _, rfl, c3, b / 6, m, 24, rfl, by omega, by decide, by decide, fun pk lpk bpk pp H4 npp s4 hpp => ?_⟩
    have rg24 : (rgV 0 24) = ((List.range 24).map fun i => (0 : Int) + (i : Nat)).map V.int := by
      unfold rgV
      rw [List.map_map]
      rfl
    have e4 : Same H2 H4 := e3.trans s4
    have plne : pl ≠ pp := ne_of_none hp3 npp
    have lfne : lf ≠ pp := ne_of_none hl3 npp
    refine ⟨pp, rfl, ⟨_, SqL.of hpp⟩, for_it (walk_list (xs := pk.map V.int)) (fun i σ H5 => ∃ (lfs pls : List Int) (y8 y9 y10 : Option V), σ = [some (.ref a), some (.int 0), some (.int 24), some (.int m), some (.int b), some (.ref p), some (.ref lf), some (.ref pl), y8, y9, y10] ∧ Same H2 H5 ∧ H5 pp = some (.lst (pk.map V.int)) ∧
        H5 lf = some (.lst (lfs.map V.int)) ∧ H5 pl = some (.lst (pls.map V.int)) ∧ lfs.length + i = 24 ∧ pls.length = i)
      ⟨(List.range 24).map fun i => (0 : Int) + (i : Nat), [], none, none, none, rfl, e4, hpp, by rw [← rg24]; exact s4 _ _ hl3, s4 _ _ hp3, rfl, rfl⟩ (fun i σ H5 _ p => ?_) (fun i x σ H5 H6 hi p y => ?_) fun σ H5 p => ?_⟩
    · obtain ⟨_, _, _, _, _, _, _, h, _⟩ := p
      exact SqL.of h
    · obtain ⟨rfl, gx⟩ := y
      obtain ⟨lfs, pls, y8, y9, y10, rfl, s5, h5p, h5l, h5s, hll, hpl⟩ := p
      obtain ⟨hi2, rfl⟩ := at_zs gx
      have him : i < 24 := by
        rw [lpk] at hi2
        omega
      have hlen : 0 < lfs.length := by omega
      -- places.append(left.pop(pick % len(left)))
      have k0 := Int.emod_nonneg (zf pk i) (show ((lfs.length : Nat) : Int) ≠ 0 by omega)
      have k1 := Int.emod_lt_of_pos (zf pk i) (show (0 : Int) < ((lfs.length : Nat) : Int) by omega)
      have hml : (lfs.map V.int).length = lfs.length := List.length_map ..
      refine ⟨_, rfl, .inl ⟨rfl, _, SqL.of h5s⟩, ?_⟩
      refine ⟨_, rfl, .inl ⟨rfl, _, SqL.of h5l⟩, _, rfl, _, rfl, lf, _, rfl, .inl (SqL.of h5l), ?_⟩
      rw [hml]
      have hkl : (zf pk i % ((lfs.length : Nat) : Int)).toNat < lfs.length := by omega
      refine ⟨_, _, rfl, rfl, by show (0 : Int) < ((lfs.length : Nat) : Int); omega, lf, _, _, _, .int (zf lfs (zf pk i % ((lfs.length : Nat) : Int)).toNat), rfl, rfl, h5l, by omega, by omega, seqIx k0 (by rw [hml]; exact k1), zs_at hkl, ?_⟩
      have nlp2 : pl ≠ lf := fun z => nlp z.symm
      refine ⟨pl, _, _, rfl, rfl, by rw [upd_ne nlp2]; exact h5s, ?_, ?_⟩
      · rw [List.length_map]
        exact Nat.lt_of_le_of_lt (show pls.length ≤ 100 by omega) (by decide)
      · refine ⟨lfs.eraseIdx (zf pk i % ((lfs.length : Nat) : Int)).toNat, pls ++ [zf lfs (zf pk i % ((lfs.length : Nat) : Int)).toNat], _, _, _, rfl, same_mut (same_mut s5 nlf2) npl2, ?_, ?_, ?_, ?_, ?_⟩
        · rw [upd_ne plne.symm, upd_ne lfne.symm]
          exact h5p
        · rw [upd_ne nlp, upd_same]
          congr 2
          exact erase_map V.int _ _
        · rw [upd_same, List.map_append]
          rfl
        · rw [List.length_eraseIdx, if_pos hkl]
          omega
        · rw [List.length_append, hpl]
          rfl
    · obtain ⟨lfs, pls, y8, y9, y10, rfl, s5, h5p, h5l, h5s, hll, hpl⟩ := p
      rw [List.length_map, lpk] at hpl
      -- places = sorted(places)
      refine ⟨_, rfl, pl, pls, rfl, SqL.of h5s, by omega, fun pls2 q2 perm srt2 nq2 => ?_⟩
      have hl2 : pls2.length = m := by rw [perm.length_eq, hpl]
      have s6 : Same H2 (upd H5 q2 (.lst (pls2.map V.int))) := s5.trans (sames nq2)
      have h6 : upd H5 q2 (.lst (pls2.map V.int)) q2 = some (.lst (pls2.map V.int)) := upd_same
      generalize upd H5 q2 (.lst (pls2.map V.int)) = H6 at s6 h6
      -- path
      refine ⟨by show 3 ≤ sizeLine; decide, fun l3 nl3 => ?_⟩
      refine ⟨_, rfl, _, _, rfl, rfl, ⟨by decide, by decide⟩, _, _, rfl, rfl, by show (0 : Int) < 4; decide, ?_⟩
      refine ⟨_, rfl, l3, _, rfl, SqL.of upd_same, fun l4 nl4 => ?_⟩
      obtain ⟨ys, oys, eys⟩ := cut_strs ["ab", "abc", "b"] none (some (b / 12 % 4))
      have oys' : YsOk ys := fun y hy => (by decide +kernel : ∀ y ∈ (["ab", "abc", "b"] : List Str), PyData.strOk y = true) y (oys y hy)
      have eys' : cutV [V.str "ab", .str "abc", .str "b"] none (some (b / 12 % 4)) = ys.map V.str := eys
      refine ⟨l4, _, rfl, .inl ⟨SqL.of upd_same, fun pt npt => ?_⟩⟩
      have s7 : Same H6 (upd (upd (upd H6 l3 (.lst [.str "ab", .str "abc", .str "b"])) l4 (.lst (cutV [V.str "ab", .str "abc", .str "b"] none (some (b / 12 % 4))))) pt (.tup (cutV [V.str "ab", .str "abc", .str "b"] none (some (b / 12 % 4))))) := ((sames nl3).trans (sames nl4)).trans (sames npt)
      have h7 : upd (upd (upd H6 l3 (.lst [.str "ab", .str "abc", .str "b"])) l4 (.lst (cutV [V.str "ab", .str "abc", .str "b"] none (some (b / 12 % 4))))) pt (.tup (cutV [V.str "ab", .str "abc", .str "b"] none (some (b / 12 % 4)))) pt = some (.tup (ys.map V.str)) := by
        rw [upd_same, eys']
      have fin : ∀ H7, Same H6 H7 → H7 pt = some (.tup (ys.map V.str)) → tRet (tLc (iRng1 (tCons (tVar 3) tNil)) (gName 10) tYes (tTup (tCons (tOp (rIxL K) (tVar 7) (tVar 10)) (tCons (tOp (rI0 fun i j => .int (i + j)) (tC (.int 1)) (tOp (rIxL K) (tVar 5) (tVar 10))) (tCons (tVar 9) tNil)))) [10]) { nx := fun _ H' => Q .non H', rt := Q }
          [some (.ref a), some (.int 0), some (.int 24), some (.int m), some (.int b), some (.ref p), some (.ref lf), some (.ref q2), y8, some (.ref pt), y10] H7 := by
        intro H7 s7 h7
        have sz7 : SqL K H7 p (sz.map V.int) := SqL.of (s7 _ _ (s6 _ _ hp))
        have pl7 : SqL K H7 q2 (pls2.map V.int) := SqL.of (s7 _ _ h6)
        refine ⟨_, rfl, _, rfl, by omega, by omega, fun D nD => lcE rel_same (R := fun H v c => CrR K H ys v c) (walk_range (lo := 0)) (fun i => some (zf pls2 i, 1 + zf sz i)) nD (by omega)
          (fun _ _ => True.intro) (fun i H3 x H4 e y => by rw [y.1]; exact Same.refl _) (fun _ _ _ _ _ e r => r.mono rel_same e) (fun H v c acc xs hD r => ?_) (fun i x H8 H9 acc C hi e3 e4 hD y k1 k2 => ?_) (fun H8 xs hD e hx => ?_)⟩
        · obtain ⟨b1, t1, rfl, g1, g2⟩ := r
          exact ⟨b1, t1, rfl, sqT_mut hD g1, sqT_mut hD g2⟩
        · obtain ⟨rfl, rfl⟩ := y
          have hi : i < m := by omega
          have a1 : atI (pls2.map V.int) (0 + (i : Int)) = some (V.int (zf pls2 i)) := at_of (j := i) (by omega) (zs_at (by omega))
          have a2 : atI (sz.map V.int) (0 + (i : Int)) = some (V.int (zf sz i)) := at_of (j := i) (by omega) (zs_at (by omega))
          refine ⟨rfl, _, rfl, _, rfl, q2, _, _, _, rfl, rfl, e4.seq pl7, a1, _, rfl, _, rfl, p, _, _, _, rfl, rfl, e4.seq sz7, a2, _, _, rfl, rfl, _, rfl, by show 3 ≤ sizeLine; decide, fun t nt => ?_⟩
          refine k1 _ _ (sames nt) (fun y hy => ?_) (fun z => by cases z)
          cases hy
          exact ⟨t, pt, rfl, SqT.of upd_same, rel_same.sqT (e4.trans (sames nt)) (SqT.of h7)⟩
        · rw [outs_all, show ((m : Nat) : Int).toNat = m by omega] at hx
          refine q _ ys D H8 ?_ oys' ⟨?_, ?_⟩ ((((e2.trans s6)).trans s7).trans e) ⟨xs, SqL.of hD, hx⟩
          · rw [List.length_map, List.length_range]
            exact hm
          · rw [List.length_map, List.length_map, List.length_range]
            exact hm
          · intro z hz
            rw [List.map_map] at hz
            obtain ⟨i, hi, rfl⟩ := List.mem_map.mp hz
            have hi := List.mem_range.mp hi
            obtain ⟨b1, b2⟩ := mem_bound bsz (i := i) (by omega)
            show 1 ≤ 1 + zf sz i ∧ 1 + zf sz i ≤ 24000000
            omega
      exact fin _ s7 h7
end
end Fk
/-! A7: what the law says is due: rows of throws, kept ones, matrices. -/
namespace Fk
open PySem PySem.Spec PyProof.Rows L2 LamX
def srt (l : List Int) : List Int := l.mergeSort fun a b => decide (a ≤ b)
theorem srt_of {a b : List Int} (p : a.Perm b) (s : a.Pairwise (· ≤ ·)) : a = srt b := by
  refine PySem.W.ksm_same (p.trans (List.mergeSort_perm b _).symm) s ?_
  have h := List.pairwise_mergeSort (le := fun a b : Int => decide (a ≤ b)) (fun a b c h1 h2 => by simp at *; omega) (fun a b => by simp; omega) b
  exact h.imp fun {x y} z => of_decide_eq_true z
theorem srt_len (l : List Int) : (srt l).length = l.length := List.length_mergeSort ..
def RowR (K : PySem.W.Frag) (H : Hp) (v : V) (r : List Int × Int) : Prop := ∃ a l, v = .ref a ∧ SqT K H a [.ref l, .int r.2] ∧ SqL K H l (r.1.map V.int)
def RowsLs (K : PySem.W.Frag) (H : Hp) (a : Addr) (rs : List (List Int × Int)) : Prop := ∃ xs, SqL K H a xs ∧ AllR (RowR K H) xs rs
theorem RowR.mono {E : Hp → Hp → Prop} {K : PySem.W.Frag} {H H' : Hp} {v : V} {r : List Int × Int} (R : Rel E) (e : E H H') (h : RowR K H v r) : RowR K H' v r := by
  obtain ⟨a, l, rfl, h1, h2⟩ := h
  exact ⟨a, l, rfl, R.sqT e h1, R.sqL e h2⟩
theorem RowsLs.mono {E : Hp → Hp → Prop} {K : PySem.W.Frag} {H H' : Hp} {a : Addr} {rs : List (List Int × Int)} (R : Rel E) (e : E H H') (h : RowsLs K H a rs) : RowsLs K H' a rs := by
  obtain ⟨xs, h1, h2⟩ := h
  exact ⟨xs, R.sqL e h1, h2.imp fun v c r => r.mono R e⟩
/-- every so-manieth -/
def pickM (ps : List Int) (st t : Int) : List Int := ((List.range ps.length).filter fun k : Nat => decide ((k : Int) % st = t)).map (zf ps)
def startRows (ps : List Int) (st t : Int) : List (List Int × Int) × List Int := if st = 1 ∨ ps = [] then ([], ps) else ([((List.range st.toNat).map fun _ => 1, t % st)], pickM ps st (t % st))
theorem pickM_len (ps : List Int) (st t : Int) : (pickM ps st t).length ≤ ps.length := by
  unfold pickM
  rw [List.length_map]
  have := List.length_filter_le (fun k : Nat => decide ((k : Int) % st = t)) (List.range ps.length)
  rw [List.length_range] at this
  exact this
def RetRK (K : PySem.W.Frag) (r : List (List Int × Int) × List Int) (H : Hp) (Q : VK) : Prop := ∀ p r1 k1 H2, Same H H2 → H2 p = some (.tup [.ref r1, .ref k1]) → RowsLs K H2 r1 r.1 → SqT K H2 k1 ((srt r.2).map V.int) → Q (.ref p) H2
def spLawStart (K : PySem.W.Frag) : Sp := fun vs H Q _ => ∃ (a : Addr) (ps : List Int) (st t : Int), vs = [.ref a, .int st, .int t] ∧ SqL K H a (ps.map V.int) ∧ ps.length ≤ 24 ∧ 1 ≤ st ∧ st ≤ 100 ∧ RetRK K (startRows ps st t) H Q
def intD (i : Int) : PyData := .int i
theorem ints_dp {K : PySem.W.Frag} {H : Hp} {a : Addr} {ns : List Int} (h : SqL K H a (ns.map V.int)) : Dp K H (.ref a) (.list (ns.map intD)) := by
  refine .lst h ?_
  clear h
  induction ns with
  | nil => exact .nil
  | cons k ks ih => exact .cons (.int _) ih
theorem ints_shaped (ks : List Int) : SeqAt.shaped (.list (ks.map intD)) = true := list_shaped intD (k := 0) (by decide) (fun x => by simp [intD, PyData.canLay0]) (fun x => by simp [intD, PyData.depth]) ks
theorem eqv_nil_ints (ns : List Int) : PyData.eqv (.list (ns.map intD)) (.list []) = decide (ns = []) := by
  rw [eqv_nil]
  cases ns <;> simp
/-! matrices -/
def stepM (n : Nat) (st : Int) : List (List (Int × Int)) := (List.range n).map fun k : Nat => (List.range n).map fun j : Nat => if (j : Int) % st = (k : Int) % st then (1, st) else (0, 1)
def lowT (x y : Int × Int) : Int × Int := low (x.1 * y.1) (x.2 * y.2)
def fz (ss : List (Int × Int)) (k : Nat) : Int × Int := ss.getD k (0, 1)
def bothRow (ss : List (Int × Int)) (k : Nat) : List (Int × Int) := ((List.range ss.length).map fun j => lowT (fz ss k) (fz ss j)).set k (fz ss k)
def bothM (ss : List (Int × Int)) : List (List (Int × Int)) := (List.range ss.length).map (bothRow ss)
def spLawSteps (K : PySem.W.Frag) : Sp := fun vs H Q _ => ∃ (n : Nat) (st : Int), vs = [.int n, .int st] ∧ n ≤ 24 ∧ 1 ≤ st ∧ st ≤ 100 ∧ ∀ p H2, Same H H2 → MxLs K H2 p (stepM n st) → Q (.ref p) H2
def spLawBoth (K : PySem.W.Frag) : Sp := fun vs H Q _ => ∃ (a : Addr) (ss : List (Int × Int)), vs = [.ref a] ∧ FrLs K H a ss ∧ ss.length ≤ 24 ∧ (∀ p ∈ ss, ShOk p) ∧ ∀ p H2, Same H H2 → MxLs K H2 p (bothM ss) → Q (.ref p) H2
/-! along the throws of Loose -/
def thz (ss : List (Int × Int)) (ts : List Int) (k : Nat) : Int := zf ts k % (fz ss k).2
def loRow (ss : List (Int × Int)) (ts : List Int) (k : Nat) : Option (List Int × Int) := if 0 < (fz ss k).1 ∧ (fz ss k).1 < (fz ss k).2 then some ([(fz ss k).1, (fz ss k).2 - (fz ss k).1], thz ss ts k) else none
def loKept (ps : List Int) (ss : List (Int × Int)) (ts : List Int) (k : Nat) : Option Int := if thz ss ts k < (fz ss k).1 then some (zf ps k) else none
def spLawLoose (K : PySem.W.Frag) : Sp := fun vs H Q _ => ∃ (a b c : Addr) (ps : List Int) (ss : List (Int × Int)) (ts : List Int), vs = [.ref a, .ref b, .ref c] ∧ SqL K H a (ps.map V.int) ∧ FrLs K H b ss ∧ SqL K H c (ts.map V.int) ∧ ps.length = ss.length ∧ ps.length ≤ 24 ∧ ps.length ≤ ts.length ∧ (∀ p ∈ ss, ShOk p) ∧
  RetRK K (outs (loRow ss ts) ps.length, outs (loKept ps ss ts) ps.length) H Q
theorem fr_at {K : PySem.W.Frag} {H : Hp} {xs : List V} {ss : List (Int × Int)} (h : AllR (FrR K H) xs ss) {k : Nat} (hk : k < ss.length) : ∃ t, xs[k]? = some (.ref t) ∧ SqT K H t (frV (fz ss k)) := by
  obtain ⟨v, e, a, rfl, r⟩ := h.get (List.getElem?_eq_getElem hk)
  refine ⟨a, e, ?_⟩
  have : fz ss k = ss[k] := getD_of (List.getElem?_eq_getElem hk)
  rw [this]
  exact r
theorem fz_ok {ss : List (Int × Int)} (h : ∀ p ∈ ss, ShOk p) {k : Nat} (hk : k < ss.length) : ShOk (fz ss k) := by
  have : fz ss k = ss[k] := getD_of (List.getElem?_eq_getElem hk)
  rw [this]
  exact h _ (List.getElem_mem hk)
section
variable {P : Program} {w : World} {K : PySem.W.Frag} {mg : Str → Option Value} {base : Heap} {f : Addr} {fd : FuncData}
theorem ok_law_start (F : FnP K "_law_start" "_law_start" s__law_start f fd) (m_range : mg "range" = none) (m_len : mg "len" = none) (m_sorted : mg "sorted" = none) (m_tuple : mg "tuple" = none) :
    FnOk P w K mg base CX0 1 f fd ["_law_places", "_law_step", "_law_throw"] (spLawStart K) := by
  refine F.ok c__law_start (fun vs H Q E h => ?_) (fun cdv A outer s H vs Q E hr h => ⟨_, PSs.nox (pss_cons (ps_if (PW.pt (pw_or (pt_cmpR op_eq (pv 1) pe_int (nomark _)) (pw_or1 (pt_cmpR (op_eqD hr.units) (pv 0) (pe_lst pa_nil) (nomark _))))) (pss_one (ps_ret (pe_tup (pa_cons (pe_lst pa_nil) (pa_cons (pe_callTy call_tuple_of (by rfl) m_tuple (by decide +kernel) (pa_cons (pe_callB cr_sorted (by rfl) m_sorted (by decide +kernel) (pa_cons (pv 0) pa_nil)) pa_nil)) pa_nil))))) pss_nil)
      (pss_cons (ps_setLc (i := 3) (own := [("_law_k", 4)]) (g := (gName 4)) rfl c__law_start.nd rfl rfl (sw_true rfl rfl rfl (by decide +kernel)) (pi_range1 (by rfl) m_range (pa_cons (pe_callB call_len_seq (by rfl) m_len PySem.boot_len (pa_cons (pv 0) pa_nil)) pa_nil)) (blkOk_by (own := [("_law_k", 4)]) (N := n__law_start) (sc := defScope s__law_start) (by decide +kernel)) (fun _ _ _ _ _ => (pg_name (i := 4) c__law_start.nd rfl (Or.inl rfl))) (fun _ _ _ _ _ => (pts_one (pt_cmpR op_eq (pe_op op_mod (pv 4) (pv 1)) (pe_op op_mod (pv 2) (pv 1)) (nomark _)))) (fun _ _ _ _ _ => (pe_ix (r := rIxL K) ix_list (pv 0) (pv 4) (fun _ _ => rfl))))
      (pss_one (ps_ret (pe_tup (pa_cons (pe_lst (pa_cons (pe_tup (pa_cons (pe_lc (own := [("_law_side", 5)]) (g := (gName 5)) (tt := tYes) rfl c__law_start.nd (pi_range1 (by rfl) m_range (pa_cons (pv 1) pa_nil)) (blkOk_by (own := [("_law_side", 5)]) (N := n__law_start) (sc := defScope s__law_start) (by decide +kernel)) (fun _ _ _ _ _ => (pg_name (i := 5) c__law_start.nd rfl (Or.inl rfl))) (fun _ _ _ _ _ => pts_nil) (fun _ _ _ _ _ => pe_int)) (pa_cons (pe_op op_mod (pv 2) (pv 1)) pa_nil))) pa_nil)) (pa_cons (pe_callTy call_tuple_of (by rfl) m_tuple (by decide +kernel) (pa_cons (pe_callB cr_sorted (by rfl) m_sorted (by decide +kernel) (pa_cons (pv 3) pa_nil)) pa_nil)) pa_nil))))))), ?_⟩)
  · obtain ⟨a, ps, st, t, rfl, _⟩ := h
    rfl
  · obtain ⟨a, ps, st, t, rfl, hS, hn, h1, h2, q⟩ := h
    have hml : (ps.map V.int).length = ps.length := List.length_map ..
    -- what is told at the end, by the heap in which the test has ended
    have triv : st = 1 ∨ ps = [] → ∀ H1, Same H H1 → tRet (tTup (tCons (tLst tNil) (tCons (tCB (fun xs H Q => ∃ p ys, xs = [.ref p] ∧ ((SqL K H p ys ∧ ∀ l, H l = none → Q (.ref l) (upd H l (.tup ys))) ∨ (SqT K H p ys ∧ Q (.ref p) H))) (tCons (tCB (rSorted K) (tCons (tVar 0) tNil)) tNil)) tNil))) { nx := fun _ H' => Q .non H', rt := Q }
        [some (.ref a), some (.int st), some (.int t), none, none, none] H1 := by
      intro hc H1 e1
      refine ⟨Nat.zero_le _, fun o no => ?_⟩
      refine ⟨_, rfl, a, ps, rfl, (e1.trans (sames no)).seq hS, by omega, fun ks kp perm srt1 nk => ?_⟩
      refine ⟨kp, _, rfl, .inl ⟨SqL.of upd_same, fun kt nkt => ?_⟩⟩
      refine ⟨by show 2 ≤ sizeLine; decide, fun p np => ?_⟩
      have n1 : o ≠ kp := ne_of_none upd_same nk
      have n2 : o ≠ kt := ne_of_none (show upd (upd H1 o (.lst [])) kp (.lst (ks.map V.int)) o = some (.lst []) by rw [upd_ne n1]; exact upd_same) nkt
      have n3 : o ≠ p := ne_of_none (show upd (upd (upd H1 o (.lst [])) kp (.lst (ks.map V.int))) kt (.tup (ks.map V.int)) o = some (.lst []) by rw [upd_ne n2, upd_ne n1]; exact upd_same) np
      have n4 : kt ≠ p := ne_of_none upd_same np
      refine q p o kt _ ((((e1.trans (sames no)).trans (sames nk)).trans (sames nkt)).trans (sames np)) upd_same ?_ ?_
      · unfold startRows
        rw [if_pos hc]
        exact ⟨[], SqL.of (by rw [upd_ne n3, upd_ne n2, upd_ne n1]; exact upd_same), AllR.nil⟩
      · unfold startRows
        rw [if_pos hc]
        rw [srt_of perm srt1] at *
        exact SqT.of (by rw [upd_ne n4]; exact upd_same)
    refine ⟨_, rfl, rfl, _, rfl, ite2 (fun e => ?_) fun e => ?_⟩
    · exact iteT (triv (.inl (V.int.inj (of_decide_eq_true e))) H (Same.refl H))
    · have hs1 : st ≠ 1 := fun z => e (by rw [z]; exact decide_eq_true rfl)
      refine ⟨_, rfl, Nat.zero_le _, fun o no => ?_⟩
      have e1 : Same H (upd H o (.lst [])) := sames no
      refine ⟨_, _, ints_dp (e1.seq hS), .lst (SqL.of upd_same) .nil, ints_shaped ps, ints_shaped [], _, rfl, ?_⟩
      rw [eqv_nil_ints]
      refine ite2 (fun e => ?_) fun e => ?_
      · exact triv (.inr (of_decide_eq_true e)) _ e1
      · have hps : ps ≠ [] := fun z => e (decide_eq_true z)
        have hc : ¬ (st = 1 ∨ ps = []) := fun z => z.elim hs1 hps
        generalize upd H o (.lst []) = H1 at e1
        -- kept = ..
        refine ⟨_, rfl, a, _, rfl, .inl (e1.seq hS), _, rfl, by omega, by rw [hml]; omega, fun D nD => lcE rel_same (R := fun _ v k => v = V.int k) (walk_range (lo := 0)) (fun k : Nat => if decide ((k : Int) % st = t % st) = true then some (zf ps k) else none) nD (by rw [hml]; omega)
          (fun _ _ => True.intro) (fun i H3 x H4 e y => by rw [y.1]; exact Same.refl _) (fun _ _ _ _ _ _ r => r) (fun _ _ _ _ _ _ r => r) (fun i x H3 H4 acc C hi e3 e4 hD y k1 k2 => ?_) (fun H2 xs hD s2 hx => ?_)⟩
        · obtain ⟨rfl, rfl⟩ := y
          rw [rng_len, hml] at hi
          refine ⟨rfl, _, rfl, _, rfl, _, _, rfl, rfl, by show (0 : Int) < st; omega, _, rfl, _, rfl, _, _, rfl, rfl, by show (0 : Int) < st; omega, rfl, _, rfl, ite2 (fun e => ?_) fun e => ?_⟩
          · have e' : (i : Int) % st = t % st := by
              have := V.int.inj (of_decide_eq_true e)
              rw [Int.zero_add] at this
              exact this
            refine ⟨_, rfl, _, rfl, a, _, _, .int (zf ps i), rfl, rfl, (e1.trans e4).seq hS, at_of (j := i) (by omega) (zs_at hi), k1 _ _ (Same.refl _) (fun y hy => ?_) ?_⟩
            · have hy : (if decide ((i : Int) % st = t % st) = true then some (zf ps i) else none) = some y := hy
              rw [decide_eq_true e'] at hy
              cases hy
              rfl
            · show (if decide ((i : Int) % st = t % st) = true then some (zf ps i) else none) ≠ none
              rw [decide_eq_true e']
              exact fun z => by cases z
          · have e' : ¬ (i : Int) % st = t % st := fun z => e (by show decide (V.int ((0 + (i : Int)) % st) = V.int (t % st)) = true; rw [Int.zero_add, z]; exact decide_eq_true rfl)
            refine k2 _ (Same.refl _) ?_
            show (if decide ((i : Int) % st = t % st) = true then some (zf ps i) else none) = none
            rw [decide_eq_false e']
            rfl
        have ex := allR_ints hx
        rw [outs_filter, rng_len, hml] at ex
        have hk2 : H2 D = some (.lst ((pickM ps st (t % st)).map V.int)) := by rw [hD, ex]; rfl
        have s2 : Same H H2 := e1.trans s2
        -- [([1 for side in range(step)], throw % step)]
        refine ⟨_, rfl, st, rfl, by omega, by omega, fun D2 nD2 => lcE rel_same (R := fun _ v k => v = V.int k) (walk_range (lo := 0)) (fun k => some 1) nD2 (by omega)
          (fun _ _ => True.intro) (fun i H3 x H4 e y => by rw [y.1]; exact Same.refl _) (fun _ _ _ _ _ _ r => r) (fun _ _ _ _ _ _ r => r) (fun i x H3 H4 acc C hi e3 e4 hD y k1 k2 => ?_) (fun H3 xs hD2 s3 hx => ?_)⟩
        · obtain ⟨rfl, rfl⟩ := y
          refine ⟨rfl, k1 _ _ (Same.refl _) (fun y hy => ?_) (fun z => by cases z)⟩
          cases hy
          rfl
        have ex := allR_ints hx
        rw [outs_all] at ex
        have hD3 : H3 D2 = some (.lst (((List.range st.toNat).map fun _ => (1 : Int)).map V.int)) := by rw [hD2, ex]
        refine ⟨_, rfl, _, rfl, _, _, rfl, rfl, by show (0 : Int) < st; omega, by show 2 ≤ sizeLine; decide, fun t1 nt1 => ?_⟩
        refine ⟨by show 1 ≤ sizeLine; decide, fun l1 nl1 => ?_⟩
        have s4 : Same H3 (upd (upd H3 t1 (.tup [.ref D2, .int (t % st)])) l1 (.lst [.ref t1])) := (sames nt1).trans (sames nl1)
        have ht1 : upd (upd H3 t1 (.tup [.ref D2, .int (t % st)])) l1 (.lst [.ref t1]) t1 = some (.tup [.ref D2, .int (t % st)]) := by
          rw [upd_ne (ne_of_none upd_same nl1)]
          exact upd_same
        have hl1 : upd (upd H3 t1 (.tup [.ref D2, .int (t % st)])) l1 (.lst [.ref t1]) l1 = some (.lst [.ref t1]) := upd_same
        generalize upd (upd H3 t1 (.tup [.ref D2, .int (t % st)])) l1 (.lst [.ref t1]) = H4 at s4 ht1 hl1
        -- tuple(sorted(kept))
        have hk4 : H4 D = some (.lst ((pickM ps st (t % st)).map V.int)) := s4 _ _ (s3 _ _ hk2)
        have hpl := pickM_len ps st (t % st)
        refine ⟨_, rfl, D, _, rfl, SqL.of hk4, by omega, fun ks kp perm srt1 nk => ?_⟩
        refine ⟨kp, _, rfl, .inl ⟨SqL.of upd_same, fun kt nkt => ?_⟩⟩
        refine ⟨by show 2 ≤ sizeLine; decide, fun p np => ?_⟩
        have s5 := ((sames nk (o := .lst (ks.map V.int))).trans (sames nkt (o := .tup (ks.map V.int)))).trans (sames np (o := .tup [.ref l1, .ref kt]))
        refine q p l1 kt _ (((s2.trans s3).trans s4).trans s5) upd_same ?_ ?_
        · unfold startRows
          rw [if_neg hc]
          refine ⟨[.ref t1], SqL.of (s5 _ _ hl1), AllR.cons ⟨t1, D2, rfl, SqT.of (s5 _ _ ht1), SqL.of (s5 _ _ (s4 _ _ hD3))⟩ AllR.nil⟩
        · unfold startRows
          rw [if_neg hc]
          rw [srt_of perm srt1] at *
          exact SqT.of (by rw [upd_ne (ne_of_none upd_same np)]; exact upd_same)
end
end Fk
/-! A8: the law's matrices, the law's loose. -/
namespace Fk
open PySem PySem.Spec PyProof.Rows L2 LamX
/-- a range by steps -/
theorem rgC {r n c : Int} (h0 : 0 ≤ r) (h1 : r < 1000) (h2 : 0 ≤ n) (h3 : n < 1000) (h4 : 1 ≤ c) (h5 : c < 1000) : ∃ k : Nat, RgC r n c k ∧ ∀ i : Nat, i < k ↔ r + (i : Int) * c < n := by
  have hc : c > 0 := by omega
  by_cases hr : r < n
  · have e : Builtin.Range.rangeSize r n c = (n - r - 1) / c + 1 := by
      unfold Builtin.Range.rangeSize
      rw [if_pos hc, if_pos hr]
    have z0 := Int.ediv_nonneg (a := n - r - 1) (b := c) (by omega) (by omega)
    have z1 := Int.ediv_le_self c (show (0 : Int) ≤ n - r - 1 by omega)
    refine ⟨((n - r - 1) / c + 1).toNat, ⟨by omega, by omega, ?_, by rw [e]; omega⟩, fun i => ?_⟩
    · unfold Builtin.Range.small
      rw [e]
      simp only [Builtin.Range.rangeFitsLong, Bool.and_eq_true, Bool.or_eq_true, decide_eq_true_eq, beq_iff_eq, hc, if_true]
      omega
    · have k1 : (i : Int) ≤ (n - r - 1) / c ↔ (i : Int) * c ≤ n - r - 1 := Int.le_ediv_iff_mul_le hc
      constructor
      · intro h
        have := k1.mp (by omega)
        omega
      · intro h
        have := k1.mpr (by omega)
        omega
  · have e : Builtin.Range.rangeSize r n c = 0 := by
      unfold Builtin.Range.rangeSize
      rw [if_pos hc, if_neg hr]
    refine ⟨0, ⟨by omega, by omega, ?_, by rw [e]; rfl⟩, fun i => ?_⟩
    · unfold Builtin.Range.small
      rw [e]
      simp only [Builtin.Range.rangeFitsLong, Bool.and_eq_true, Bool.or_eq_true, decide_eq_true_eq, beq_iff_eq, hc, if_true]
      omega
    · have : 0 ≤ (i : Int) * c := Int.mul_nonneg (by omega) (by omega)
      omega
/-- a row of the matrix by steps, told up to turn i -/
def stepRow (n : Nat) (st r : Int) (i : Nat) : List (Int × Int) := (List.range n).map fun j : Nat => if (j : Int) % st = r ∧ (j : Int) < r + (i : Int) * st then (1, st) else (0, 1)
theorem stepRow_len (n : Nat) (st r : Int) (i : Nat) : (stepRow n st r i).length = n := by
  unfold stepRow
  rw [List.length_map, List.length_range]
theorem stepRow_at {n : Nat} {st r : Int} {i j : Nat} (h : j < n) : (stepRow n st r i)[j]? = some (if (j : Int) % st = r ∧ (j : Int) < r + (i : Int) * st then (1, st) else (0, 1)) := by
  unfold stepRow
  rw [List.getElem?_map, List.getElem?_range h]
  rfl
theorem stepRow_set {n : Nat} {st r : Int} {i j : Nat} (h4 : 1 ≤ st) (h0 : 0 ≤ r) (hr : r < st) (hj : (j : Int) = r + (i : Int) * st) (hn : j < n) : (stepRow n st r i).set j (1, st) = stepRow n st r (i + 1) := by
  have jm : (j : Int) % st = r := by
    rw [hj, Int.add_mul_emod_self_right]
    exact Int.emod_eq_of_lt h0 hr
  refine List.ext_getElem? fun k => ?_
  by_cases e : j = k
  · subst e
    have e1 : ((i + 1 : Nat) : Int) * st = (i : Int) * st + st := by
      rw [Int.natCast_add, Int.add_mul]
      show (i : Int) * st + 1 * st = (i : Int) * st + st
      rw [Int.one_mul]
    have e2 : (j : Int) < r + ((i + 1 : Nat) : Int) * st := by omega
    rw [List.getElem?_set_self (by rw [stepRow_len]; exact hn), stepRow_at hn, if_pos ⟨jm, e2⟩]
  · rw [List.getElem?_set_ne e]
    by_cases hk : k < n
    · rw [stepRow_at hk, stepRow_at hk]
      have : ((k : Int) % st = r ∧ (k : Int) < r + (i : Int) * st) ↔ ((k : Int) % st = r ∧ (k : Int) < r + ((i + 1 : Nat) : Int) * st) := by
        have es : ((i + 1 : Nat) : Int) * st = (i : Int) * st + st := by
          rw [Int.natCast_add, Int.add_mul]
          try omega
        refine ⟨fun h => ⟨h.1, by omega⟩, fun h => ⟨h.1, ?_⟩⟩
        have hq : (k : Int) = st * ((k : Int) / st) + r := by
          have := Int.mul_ediv_add_emod (k : Int) st
          omega
        -- the quotient is at most i, and not i
        have h2 : st * ((k : Int) / st) < (i : Int) * st + st := by omega
        have h3 : ((k : Int) / st) * st < ((i : Int) + 1) * st := by
          rw [Int.mul_comm ((k : Int) / st), Int.add_mul]
          omega
        have h5 : (k : Int) / st < (i : Int) + 1 := Int.lt_of_mul_lt_mul_right h3 (by omega)
        have h6 : (k : Int) / st ≠ (i : Int) := fun z => by
          rw [z, Int.mul_comm] at hq
          omega
        have h7 : (k : Int) / st + 1 ≤ (i : Int) := by omega
        have h8 : ((k : Int) / st + 1) * st ≤ (i : Int) * st := Int.mul_le_mul_of_nonneg_right h7 (by omega)
        rw [Int.add_mul, Int.mul_comm ((k : Int) / st)] at h8
        omega
      by_cases h : (k : Int) % st = r ∧ (k : Int) < r + (i : Int) * st
      · rw [if_pos h, if_pos (this.mp h)]
      · rw [if_neg h, if_neg (fun z => h (this.mpr z))]
    · rw [List.getElem?_eq_none (by rw [stepRow_len]; omega), List.getElem?_eq_none (by rw [stepRow_len]; omega)]
section
variable {P : Program} {w : World} {K : PySem.W.Frag} {mg : Str → Option Value} {base : Heap} {f : Addr} {fd : FuncData}
/-- a row that stands beside the list o, which still changes -/
def RoR (K : PySem.W.Frag) (o : Addr) (H : Hp) (v : V) (r : List (Int × Int)) : Prop := ∃ b xs, v = .ref b ∧ b ≠ o ∧ H b = some (.lst xs) ∧ AllR (FrR K H) xs r
theorem RoR.mono {o : Addr} {H H' : Hp} {v : V} {r : List (Int × Int)} (e : Same H H') (h : RoR K o H v r) : RoR K o H' v r := by
  obtain ⟨b, xs, rfl, n, h1, h2⟩ := h
  exact ⟨b, xs, rfl, n, e _ _ h1, h2.imp fun v p r => r.mono rel_same e⟩
theorem RoR.chg {o : Addr} {H : Hp} {v : V} {r : List (Int × Int)} {acc ys : List V} (ho : H o = some (.lst acc)) (h : RoR K o H v r) : RoR K o (upd H o (.lst ys)) v r := by
  obtain ⟨b, xs, rfl, n, h1, h2⟩ := h
  refine ⟨b, xs, rfl, n, by rw [upd_ne n]; exact h1, h2.imp fun v p ⟨t, e, z⟩ => ⟨t, e, sqT_mut ho z⟩⟩
theorem RoR.mx {o : Addr} {H : Hp} {xs : List V} {M : List (List (Int × Int))} (ho : H o = some (.lst xs)) (h : AllR (RoR K o H) xs M) : MxLs K H o M :=
  ⟨xs, SqL.of ho, h.imp fun v r ⟨b, zs, e, _, h1, h2⟩ => ⟨b, e, zs, SqL.of h1, h2⟩⟩
theorem ok_law_steps (F : FnP K "_law_steps" "_law_steps" s__law_steps f fd) (m_range : mg "range" = none) : FnOk P w K mg base CX0 1 f fd ["_law_every", "_law_step"] (spLawSteps K) := by
  refine F.ok c__law_steps (fun vs H Q E h => ?_) (fun cdv A outer s H vs Q E hr h => ⟨_, PSs.nox (pss_cons (ps_set (i := 2) c__law_steps.nd rfl (Or.inl rfl) (pe_lst pa_nil))
      (pss_cons (ps_for PassesOwn.never rfl (pi_range1 (by rfl) m_range (pa_cons (pv 0) pa_nil)) (pg_name (i := 3) c__law_steps.nd rfl (Or.inl rfl)) (pss_cons (ps_setLc (i := 5) (own := [("_law_j", 4)]) (g := (gName 4)) (tt := tYes) rfl c__law_steps.nd rfl rfl (sw_true rfl rfl rfl (by decide +kernel)) (pi_range1 (by rfl) m_range (pa_cons (pv 0) pa_nil)) (blkOk_by (own := [("_law_j", 4)]) (N := n__law_steps) (sc := defScope s__law_steps) (by decide +kernel)) (fun _ _ _ _ _ => (pg_name (i := 4) c__law_steps.nd rfl (Or.inl rfl))) (fun _ _ _ _ _ => pts_nil) (fun _ _ _ _ _ => (pe_tup (pa_cons pe_int (pa_cons pe_int pa_nil)))))
      (pss_cons (ps_for PassesOwn.never rfl (pi_range3 (by rfl) m_range (pa_cons (pe_op op_mod (pv 3) (pv 1)) (pa_cons (pv 0) (pa_cons (pv 1) pa_nil)))) (pg_name (i := 4) c__law_steps.nd rfl (Or.inl rfl)) (pss_one (ps_asg (pe_tup (pa_cons pe_int (pa_cons (pv 1) pa_nil))) (pg_sub (pv 5) (pv 4) set_list))))
      (pss_one (ps_expr (pe_bm PySem.F.plainAttrs_list PySem.F.slot_list_append PySem.F.type_list_append mt_append (pv 2) (pa_cons (pv 5) pa_nil)))))))
      (pss_one (ps_ret (pv 2))))), ?_⟩)
  · obtain ⟨n, st, rfl, _⟩ := h
    rfl
  · obtain ⟨n, st, rfl, hn, h1, h2, q⟩ := h
    have ntn : ((n : Nat) : Int).toNat = n := by omega
    refine ⟨Nat.zero_le _, fun o no => ?_⟩
    refine ⟨_, rfl, _, rfl, by omega, by omega, for_it (walk_range (lo := 0)) (fun i σ H1 => ∃ (y3 y4 y5 : Option V) (xs : List V), σ = [some (.int n), some (.int st), some (.ref o), y3, y4, y5] ∧ Same H H1 ∧ H1 o = some (.lst xs) ∧ AllR (RoR K o H1) xs ((List.range i).map fun k : Nat => (List.range n).map fun j : Nat => if (j : Int) % st = (k : Int) % st then (1, st) else (0, 1)))
      ⟨_, _, _, [], rfl, sames no, upd_same, AllR.nil⟩ (fun _ _ _ _ _ => True.intro) (fun k x σ H1 H2 hk p y => ?_) fun σ H1 p => ?_⟩
    · obtain ⟨rfl, rfl⟩ := y
      rw [ntn] at hk
      obtain ⟨y3, y4, y5, xs, rfl, s1, ho, hx⟩ := p
      -- row_here = [(0, 1) ..]
      refine ⟨_, rfl, _, rfl, by omega, by omega, fun D nD => lcE rel_same (R := FrR K) (walk_range (lo := 0)) (fun k => some (0, 1)) nD (by omega)
        (fun _ _ => True.intro) (fun i H3 x H4 e y => by rw [y.1]; exact Same.refl _) (fun _ _ _ _ _ e r => r.mono rel_same e) (fun H v c acc xs hD r => ?_) (fun i x H3 H4 acc C hi e3 e4 hD y k1 k2 => ?_) (fun H3 ws hD s3 hw => ?_)⟩
      · obtain ⟨b, rfl, h⟩ := r
        exact ⟨b, rfl, sqT_mut hD h⟩
      · obtain ⟨rfl, rfl⟩ := y
        refine ⟨rfl, by show 2 ≤ sizeLine; decide, fun t nt => ?_⟩
        refine k1 _ _ (sames nt) (fun y hy => ?_) (fun z => by cases z)
        cases hy
        exact ⟨t, rfl, SqT.of upd_same⟩
      rw [outs_all, ntn] at hw
      have hDo : D ≠ o := (ne_of_none ho nD).symm
      -- for j in range(k % step, every, step): row_here[j] = (1, step)
      have r0 := Int.emod_nonneg (k : Int) (show st ≠ 0 by omega)
      have r1 := Int.emod_lt_of_pos (k : Int) (show 0 < st by omega)
      obtain ⟨cnt, rc, hcnt⟩ := rgC (r := (k : Int) % st) (n := n) (c := st) r0 (by omega) (by omega) (by omega) h1 (by omega)
      have rc' : RgC ((0 + (k : Int)) % st) n st cnt := by
        rw [Int.zero_add]
        exact rc
      refine ⟨_, rfl, _, rfl, _, _, rfl, rfl, by show (0 : Int) < st; omega, _, rfl, _, rfl, _, _, _, cnt, rfl, rc', for_it walk_rangeC (fun i σ H4 => ∃ (y4 : Option V) (ws : List V), σ = [some (.int n), some (.int st), some (.ref o), some (.int (0 + (k : Int))), y4, some (.ref D)] ∧ Same H2 H4 ∧ H4 D = some (.lst ws) ∧ AllR (FrR K H4) ws (stepRow n st ((k : Int) % st) i))
        ⟨_, ws, rfl, s3, hD, ?_⟩ (fun _ _ _ _ _ => True.intro) (fun i x σ H4 H5 hi p y => ?_) fun σ H4 p => ?_⟩
      · have e : stepRow n st ((k : Int) % st) 0 = (List.range n).map fun _ => ((0, 1) : Int × Int) := by
          refine List.map_congr_left fun j hj => ?_
          refine if_neg fun z => ?_
          have z1 := z.1
          have z2 := z.2
          have hd := Int.mul_ediv_add_emod (j : Int) st
          have hd0 : 0 ≤ st * ((j : Int) / st) := Int.mul_nonneg (by omega) (Int.ediv_nonneg (by omega) (by omega))
          simp at z2
          omega
        rw [e]
        exact hw
      · obtain ⟨rfl, rfl⟩ := y
        obtain ⟨y4', ws, rfl, s4, hD4, hw4⟩ := p
        have hb : (k : Int) % st + (i : Int) * st < n := (hcnt i).mp hi
        have hp0 : 0 ≤ (i : Int) * st := Int.mul_nonneg (by omega) (by omega)
        obtain ⟨j, ej⟩ : ∃ j : Nat, (k : Int) % st + (i : Int) * st = (j : Int) := ⟨((k : Int) % st + (i : Int) * st).toNat, by omega⟩
        have hjn : j < n := by omega
        refine ⟨_, rfl, by show 2 ≤ sizeLine; decide, fun t nt => ?_⟩
        have nDt : D ≠ t := ne_of_none hD4 nt
        have hlw : ws.length = n := by rw [hw4.1, stepRow_len]
        refine ⟨_, rfl, _, rfl, D, _, _, j, rfl, rfl, by rw [upd_ne nDt]; exact hD4, ?_, ?_⟩
        · rw [Int.zero_add, ej]
          exact Evl.ixN_nat (by rw [hlw]; exact hjn)
        · refine ⟨_, ws.set j (.ref t), rfl, same_mut (s4.trans (sames nt)) nD, upd_same, ?_⟩
          have hDt : upd H5 t (.tup [.int 1, .int st]) D = some (.lst ws) := by
            rw [upd_ne nDt]
            exact hD4
          rw [← stepRow_set h1 r0 r1 ej.symm hjn]
          refine (hw4.imp fun v p r => ?_).set j ?_
          · obtain ⟨b, rfl, h⟩ := r.mono rel_same (sames nt (o := .tup [.int 1, .int st]))
            exact ⟨b, rfl, sqT_mut hDt h⟩
          · exact ⟨t, rfl, sqT_mut hDt (SqT.of upd_same)⟩
      · obtain ⟨y4', ws, rfl, s4, hD4, hw4⟩ := p
        have ho4 := s4 _ _ ho
        have hlx : xs.length = k := by
          rw [hx.1, List.length_map, List.length_range]
        refine ⟨_, rfl, .inl ⟨rfl, _, SqL.of ho4⟩, _, rfl, o, _, _, rfl, rfl, ho4, Nat.lt_of_le_of_lt (show xs.length ≤ 100 by omega) (by decide), ?_⟩
        refine ⟨_, _, _, xs ++ [.ref D], rfl, same_mut (s1.trans s4) no, upd_same, ?_⟩
        rw [List.range_succ, List.map_append]
        refine (hx.imp fun v r z => (z.mono s4).chg ho4).snoc ?_
        have efin : stepRow n st ((k : Int) % st) cnt = (List.range n).map fun j : Nat => if (j : Int) % st = (k : Int) % st then (1, st) else (0, 1) := by
          refine List.map_congr_left fun j hj => ?_
          have hj := List.mem_range.mp hj
          by_cases h : (j : Int) % st = (k : Int) % st
          · -- j is below: else it would be a turn
            have hq := Int.mul_ediv_add_emod (j : Int) st
            have q0 := Int.ediv_nonneg (a := (j : Int)) (b := st) (by omega) (by omega)
            have hlt : ((j : Int) / st).toNat < cnt := (hcnt _).mpr (by rw [show ((((j : Int) / st).toNat : Nat) : Int) = (j : Int) / st by omega, Int.mul_comm]; omega)
            have h9 : ((j : Int) / st + 1) * st ≤ (cnt : Int) * st := Int.mul_le_mul_of_nonneg_right (by omega) (by omega)
            rw [Int.add_mul, Int.mul_comm ((j : Int) / st)] at h9
            have h10 : (j : Int) < (k : Int) % st + (cnt : Int) * st := by omega
            rw [if_pos h, if_pos ⟨h, h10⟩]
          · rw [if_neg h, if_neg fun z => h z.1]
        rw [efin] at hw4
        exact RoR.chg ho4 ⟨D, ws, rfl, hDo, hD4, hw4⟩
    · obtain ⟨y3, y4, y5, xs, rfl, s1, ho, hx⟩ := p
      rw [ntn] at hx
      exact ⟨_, rfl, q o H1 s1 (RoR.mx ho hx)⟩
end
end Fk
/-! A9: the law's products, the law's loose. -/
namespace Fk
open PySem PySem.Spec PyProof.Rows L2 LamX
theorem fz_get {ss : List (Int × Int)} {k : Nat} (hk : k < ss.length) : ss[k]? = some (fz ss k) := by
  have : fz ss k = ss[k] := getD_of (List.getElem?_eq_getElem hk)
  rw [this]
  exact List.getElem?_eq_getElem hk
theorem sh64 {p : Int × Int} (h : ShOk p) : (-(2 ^ 64) < p.1 ∧ p.1 < 2 ^ 64) ∧ (0 < p.2 ∧ p.2 < 2 ^ 64) := by
  obtain ⟨h1, h2, h3, h4⟩ := h
  exact ⟨⟨by omega, by omega⟩, by omega, by omega⟩
theorem frR_at {K : PySem.W.Frag} {H : Hp} {xs : List V} {ss : List (Int × Int)} (h : AllR (FrR K H) xs ss) {k : Nat} (hk : k < ss.length) : ∃ t, atI xs (0 + (k : Int)) = some (.ref t) ∧ SqT K H t (frV (fz ss k)) := by
  obtain ⟨t, e, r⟩ := fr_at h hk
  exact ⟨t, at_of (j := k) (by omega) e, r⟩
/-- a row of throws that stands beside two lists, which still change -/
def RowO (K : PySem.W.Frag) (o kp : Addr) (H : Hp) (v : V) (r : List Int × Int) : Prop := ∃ t l, v = .ref t ∧ l ≠ o ∧ l ≠ kp ∧ SqT K H t [.ref l, .int r.2] ∧ H l = some (.lst (r.1.map V.int))
section
variable {P : Program} {w : World} {K : PySem.W.Frag} {mg : Str → Option Value} {base : Heap} {f : Addr} {fd : FuncData}
theorem ok_law_both (F : FnP K "_law_both" "_law_both" s__law_both f fd) (C_law_times : Cal P w K mg base 2 "_law_times" (spTimes K)) (m_range : mg "range" = none) (m_len : mg "len" = none) : FnOk P w K mg base CX0 3 f fd ["_law_shares"] (spLawBoth K) := by
  refine F.ok c__law_both (fun vs H Q E h => ?_) (fun cdv A outer s H vs Q E hr h => ⟨_, PSs.nox (pss_cons (ps_set (i := 1) c__law_both.nd rfl (Or.inl rfl) (pe_lst pa_nil))
      (pss_cons (ps_for PassesOwn.never rfl (pi_range1 (by rfl) m_range (pa_cons (pe_callB call_len_seq (by rfl) m_len PySem.boot_len (pa_cons (pv 0) pa_nil)) pa_nil)) (pg_name (i := 2) c__law_both.nd rfl (Or.inr rfl)) (pss_cons (ps_setLc (i := 3) (own := [("_law_other", 4)]) (g := (gName 4)) (tt := tYes) rfl c__law_both.nd rfl rfl (sw_true rfl rfl rfl (by decide +kernel)) (pi_list (pv 0)) (blkOk_by (own := [("_law_other", 4)]) (N := n__law_both) (sc := defScope s__law_both) (by decide +kernel)) (fun _ _ _ _ _ => (pg_name (i := 4) c__law_both.nd rfl (Or.inl rfl))) (fun _ _ _ _ _ => pts_nil) (fun _ _ _ _ _ => (pe_c C_law_times hr (by decide) (by rfl) (pa_cons (pe_ix (r := rIxL K) ix_list (pv 0) (pv 2) (fun _ _ => rfl)) (pa_cons (pv 4) pa_nil)))))
      (pss_cons (ps_asg (pe_ix ix_list (pv 0) (pv 2) (fun _ _ => rfl)) (pg_sub (pv 3) (pv 2) set_list))
      (pss_one (ps_expr (pe_bm PySem.F.plainAttrs_list PySem.F.slot_list_append PySem.F.type_list_append mt_append (pv 1) (pa_cons (pv 3) pa_nil)))))))
      (pss_one (ps_ret (pv 1))))), ?_⟩)
  · obtain ⟨a, ss, rfl, _⟩ := h
    rfl
  · obtain ⟨a, ss, rfl, ⟨sx, hS, hsx⟩, hn, hok, q⟩ := h
    have hsl := hsx.1
    refine ⟨Nat.zero_le _, fun o no => ?_⟩
    have e0 : Same H (upd H o (.lst [])) := sames no
    refine ⟨_, rfl, a, _, rfl, .inl (e0.seq hS), _, rfl, by omega, by omega, for_it (walk_range (lo := 0)) (fun i σ H1 => ∃ (y2 y3 y4 : Option V) (xs : List V), σ = [some (.ref a), some (.ref o), y2, y3, y4] ∧ Same H H1 ∧ H1 o = some (.lst xs) ∧ AllR (RoR K o H1) xs ((List.range i).map (bothRow ss)))
      ⟨_, _, _, [], rfl, e0, upd_same, AllR.nil⟩ (fun _ _ _ _ _ => True.intro) (fun k x σ H1 H2 hk p y => ?_) fun σ H1 p => ?_⟩
    · obtain ⟨rfl, rfl⟩ := y
      have hk : k < ss.length := by omega
      obtain ⟨y2, y3, y4, xs, rfl, s1, ho, hx⟩ := p
      refine ⟨_, rfl, a, rfl, ⟨_, s1.seq hS⟩, fun D nD => lcE rel_same (R := FrR K) (walk_list (xs := sx)) (fun j => some (lowT (fz ss k) (fz ss j))) nD (by omega)
        (fun H1 e => (s1.trans e).seq hS) (fun i H3 x H4 e y => by rw [y.1]; exact Same.refl _) (fun _ _ _ _ _ e r => r.mono rel_same e) (fun H v c acc xs hD r => ?_) (fun i x H3 H4 acc C hi e3 e4 hD y k1 k2 => ?_) (fun H3 ws hD s3 hw => ?_)⟩
      · obtain ⟨b, rfl, h⟩ := r
        exact ⟨b, rfl, sqT_mut hD h⟩
      · obtain ⟨rfl, gx⟩ := y
        have hj : i < ss.length := by omega
        have s14 := s1.trans e4
        obtain ⟨t1, et1, ht1⟩ := frR_at (hsx.imp fun v p r => r.mono rel_same s14) hk
        obtain ⟨t2, et2, ht2⟩ := fr_at (hsx.imp fun v p r => r.mono rel_same s14) hj
        rw [gx] at et2
        cases et2
        have h1 := sh64 (fz_ok hok hk)
        have h2 := sh64 (fz_ok hok hj)
        refine ⟨rfl, _, rfl, _, rfl, a, _, _, _, rfl, rfl, s14.seq hS, et1, _, rfl, t1, t2, fz ss k, fz ss i, rfl, ht1, ht2, h1.1, h1.2, h2.2, fun p H5 np s5 hp => ?_⟩
        refine k1 _ _ s5 (fun y hy => ?_) (fun z => by cases z)
        cases hy
        exact ⟨p, rfl, SqT.of hp⟩
      rw [outs_all, hsl] at hw
      have hDo : D ≠ o := (ne_of_none ho nD).symm
      have s13 := s1.trans s3
      -- row_here[k] = shares[k]
      obtain ⟨t1, et1, ht1⟩ := frR_at (hsx.imp fun v p r => r.mono rel_same s13) hk
      have hlw : ws.length = ss.length := by rw [hw.1, List.length_map, List.length_range]
      refine ⟨_, rfl, _, rfl, a, _, _, _, rfl, rfl, s13.seq hS, et1, _, rfl, _, rfl, D, _, _, k, rfl, rfl, hD, ?_, ?_⟩
      · rw [Int.zero_add]
        exact Evl.ixN_nat (by omega)
      have ho3 : upd H3 D (.lst (ws.set k (.ref t1))) o = some (.lst xs) := by
        rw [upd_ne hDo.symm]
        exact s3 _ _ ho
      have s4 : Same H2 (upd H3 D (.lst (ws.set k (.ref t1)))) := same_mut s3 nD
      have hlx : xs.length = k := by rw [hx.1, List.length_map, List.length_range]
      refine ⟨_, rfl, .inl ⟨rfl, _, SqL.of ho3⟩, _, rfl, o, _, _, rfl, rfl, ho3, Nat.lt_of_le_of_lt (show xs.length ≤ 100 by omega) (by decide), ?_⟩
      refine ⟨_, _, _, xs ++ [.ref D], rfl, same_mut (s1.trans s4) no, upd_same, ?_⟩
      rw [List.range_succ, List.map_append]
      refine (hx.imp fun v r z => (z.mono s4).chg ho3).snoc ?_
      refine RoR.chg ho3 ⟨D, ws.set k (.ref t1), rfl, hDo, upd_same, ?_⟩
      have hmu : AllR (FrR K (upd H3 D (.lst (ws.set k (.ref t1))))) ws ((List.range ss.length).map fun j => lowT (fz ss k) (fz ss j)) := hw.imp fun v p ⟨b, e, h⟩ => ⟨b, e, sqT_mut hD h⟩
      exact hmu.set k ⟨t1, rfl, sqT_mut hD ht1⟩
    · obtain ⟨y2, y3, y4, xs, rfl, s1, ho, hx⟩ := p
      rw [show ((sx.length : Nat) : Int).toNat = ss.length by omega] at hx
      exact ⟨_, rfl, q o H1 s1 (RoR.mx ho hx)⟩
theorem ok_law_loose (F : FnP K "_law_loose" "_law_loose" s__law_loose f fd) (m_range : mg "range" = none) (m_len : mg "len" = none) (m_sorted : mg "sorted" = none) (m_tuple : mg "tuple" = none) : FnOk P w K mg base CX0 1 f fd ["_law_places", "_law_shares", "_law_throws"] (spLawLoose K) := by
  refine F.ok c__law_loose (fun vs H Q E h => ?_) (fun cdv A outer s H vs Q E hr h => ⟨_, PSs.nox (pss_cons (ps_set (i := 3) c__law_loose.nd rfl (Or.inl rfl) (pe_lst pa_nil))
      (pss_cons (ps_set (i := 4) c__law_loose.nd rfl (Or.inl rfl) (pe_lst pa_nil))
      (pss_cons (ps_for PassesOwn.never rfl (pi_range1 (by rfl) m_range (pa_cons (pe_callB call_len_seq (by rfl) m_len PySem.boot_len (pa_cons (pv 0) pa_nil)) pa_nil)) (pg_name (i := 5) c__law_loose.nd rfl (Or.inl rfl)) (pss_cons (ps_asg (pe_ix ix_list (pv 1) (pv 5) (fun _ _ => rfl)) (pg_tup rfl (pgs_cons (pg_name (i := 6) c__law_loose.nd rfl (Or.inl rfl)) (pgs_cons (pg_name (i := 7) c__law_loose.nd rfl (Or.inl rfl)) pgs_nil))))
      (pss_cons (ps_set (i := 8) c__law_loose.nd rfl (Or.inl rfl) (pe_op op_mod (pe_ix ix_list (pv 2) (pv 5) (fun _ _ => rfl)) (pv 7)))
      (pss_cons (ps_if (pt_chain op_lt op_lt pe_int (pv 6) (pv 7)) (pss_one (ps_expr (pe_bm PySem.F.plainAttrs_list PySem.F.slot_list_append PySem.F.type_list_append mt_append (pv 3) (pa_cons (pe_tup (pa_cons (pe_lst (pa_cons (pv 6) (pa_cons (pe_op op_sub (pv 7) (pv 6)) pa_nil))) (pa_cons (pv 8) pa_nil))) pa_nil)))) pss_nil)
      (pss_one (ps_if (pt_cmpR op_lt (pv 8) (pv 6) (nomark _)) (pss_one (ps_expr (pe_bm PySem.F.plainAttrs_list PySem.F.slot_list_append PySem.F.type_list_append mt_append (pv 4) (pa_cons (pe_ix ix_list (pv 0) (pv 5) (fun _ _ => rfl)) pa_nil)))) pss_nil))))))
      (pss_one (ps_ret (pe_tup (pa_cons (pv 3) (pa_cons (pe_callTy call_tuple_of (by rfl) m_tuple (by decide +kernel) (pa_cons (pe_callB cr_sorted (by rfl) m_sorted (by decide +kernel) (pa_cons (pv 4) pa_nil)) pa_nil)) pa_nil)))))))), ?_⟩)
  · obtain ⟨a, b, c, ps, ss, ts, rfl, _⟩ := h
    rfl
  · obtain ⟨a, b, c, ps, ss, ts, rfl, hA, ⟨sx, hB, hsx⟩, hC, hps, hn, hts, hok, q⟩ := h
    have hml : (ps.map V.int).length = ps.length := List.length_map ..
    refine ⟨Nat.zero_le _, fun o no => ?_⟩
    refine ⟨Nat.zero_le _, fun kp nk => ?_⟩
    have nok : o ≠ kp := ne_of_none upd_same nk
    have e0 : Same H (upd (upd H o (.lst [])) kp (.lst [])) := (sames no).trans (sames nk)
    have nkH : H kp = none := (sames no : Same H (upd H o (.lst []))).free nk
    have ho0 : upd (upd H o (.lst [])) kp (.lst []) o = some (.lst []) := by
      rw [upd_ne nok]
      exact upd_same
    have hk0 : upd (upd H o (.lst [])) kp (.lst []) kp = some (.lst []) := upd_same
    generalize upd (upd H o (.lst [])) kp (.lst []) = H0 at e0 ho0 hk0
    refine ⟨_, rfl, a, _, rfl, .inl (e0.seq hA), _, rfl, by omega, by rw [hml]; omega, for_it (walk_range (lo := 0)) (fun i σ H1 => ∃ (y5 y6 y7 y8 : Option V) (xs : List V), σ = [some (.ref a), some (.ref b), some (.ref c), some (.ref o), some (.ref kp), y5, y6, y7, y8] ∧ Same H H1 ∧ H1 o = some (.lst xs) ∧ H1 kp = some (.lst ((outs (loKept ps ss ts) i).map V.int)) ∧
        AllR (RowO K o kp H1) xs (outs (loRow ss ts) i))
      ⟨_, _, _, _, [], rfl, e0, ho0, hk0, AllR.nil⟩ (fun _ _ _ _ _ => True.intro) (fun k x σ H1 H2 hk p y => ?_) fun σ H1 p => ?_⟩
    · obtain ⟨rfl, rfl⟩ := y
      rw [rng_len, hml] at hk
      obtain ⟨y5, y6, y7, y8, xs, rfl, s1, ho, hkp, hx⟩ := p
      have hks : k < ss.length := by omega
      obtain ⟨t1, et1, ht1⟩ := frR_at (hsx.imp fun v p r => r.mono rel_same s1) hks
      obtain ⟨b1, b2, b3, b4⟩ := fz_ok hok hks
      -- top, bottom = shares[k]; throw = throws[k] % bottom
      refine ⟨_, rfl, _, rfl, b, _, _, _, rfl, rfl, s1.seq hB, et1, t1, _, rfl, ht1, rfl, _, _, rfl, _, _, rfl, rfl, ?_⟩
      refine ⟨_, rfl, _, rfl, c, _, _, .int (zf ts k), rfl, rfl, s1.seq hC, at_of (j := k) (by omega) (zs_at (by omega)), _, rfl, _, _, rfl, rfl, b3, ?_⟩
      -- what both tests need
      have hle1 : xs.length ≤ 24 := by
        have := outs_len (loRow ss ts) k
        rw [hx.1]
        omega
      have hle2 : (outs (loKept ps ss ts) k).length ≤ 24 := by
        have := outs_len (loKept ps ss ts) k
        omega
      -- the second test, from a heap where the rows are told already
      have second : ∀ (H3 : Hp) (xs3 : List V), Same H H3 → H3 o = some (.lst xs3) → H3 kp = some (.lst ((outs (loKept ps ss ts) k).map V.int)) → AllR (RowO K o kp H3) xs3 (outs (loRow ss ts) (k + 1)) →
          ∀ (D : Ends), (∀ H4 : Hp, (∃ (y5 y6 y7 y8 : Option V) (xs : List V), [some (V.ref a), some (.ref b), some (.ref c), some (.ref o), some (.ref kp), some (.int (0 + (k : Int))), some (.int (fz ss k).1), some (.int (fz ss k).2), some (.int (zf ts k % (fz ss k).2))] = [some (.ref a), some (.ref b), some (.ref c), some (.ref o), some (.ref kp), y5, y6, y7, y8] ∧ Same H H4 ∧ H4 o = some (.lst xs) ∧ H4 kp = some (.lst ((outs (loKept ps ss ts) (k + 1)).map V.int)) ∧
            AllR (RowO K o kp H4) xs (outs (loRow ss ts) (k + 1))) → D.nx [some (.ref a), some (.ref b), some (.ref c), some (.ref o), some (.ref kp), some (.int (0 + (k : Int))), some (.int (fz ss k).1), some (.int (fz ss k).2), some (.int (zf ts k % (fz ss k).2))] H4) →
          tIfS (tTest (tOp (rI0 fun i j => .bl (decide (i < j))) (tVar 8) (tVar 6))) (tDrop (tBM K "list" rAppend (tVar 4) (tCons (tOp (rIxL K) (tVar 0) (tVar 5)) tNil))) tNext D
            [some (.ref a), some (.ref b), some (.ref c), some (.ref o), some (.ref kp), some (.int (0 + (k : Int))), some (.int (fz ss k).1), some (.int (fz ss k).2), some (.int (zf ts k % (fz ss k).2))] H3 := by
        intro H3 xs3 s3 ho3 hk3 hx3 D hD
        refine ⟨_, rfl, _, rfl, _, _, rfl, rfl, _, rfl, ite2 (fun e => ?_) fun e => ?_⟩
        · have e' : thz ss ts k < (fz ss k).1 := of_decide_eq_true e
          refine ⟨_, rfl, .inl ⟨rfl, _, SqL.of hk3⟩, _, rfl, _, rfl, a, _, _, .int (zf ps k), rfl, rfl, s3.seq hA, at_of (j := k) (by omega) (zs_at hk), kp, _, _, rfl, rfl, hk3, ?_, hD _ ⟨_, _, _, _, xs3, rfl, same_mut s3 nkH, ?_, ?_, ?_⟩⟩
          · rw [List.length_map]
            exact Nat.lt_of_le_of_lt hle2 (by decide)
          · rw [upd_ne nok]
            exact ho3
          · rw [upd_same, outs_succ]
            have : loKept ps ss ts k = some (zf ps k) := if_pos e'
            rw [this, List.map_append]
            rfl
          · refine hx3.imp fun v r ⟨t, l, g1, g2, g3, g4, g5⟩ => ⟨t, l, g1, g2, g3, sqT_mut hk3 g4, by rw [upd_ne g3]; exact g5⟩
        · have e' : ¬ thz ss ts k < (fz ss k).1 := fun z => e (decide_eq_true z)
          refine hD _ ⟨_, _, _, _, xs3, rfl, s3, ho3, ?_, hx3⟩
          rw [outs_succ]
          have : loKept ps ss ts k = none := if_neg e'
          rw [this]
          simpa using hk3
      -- if 0 < top < bottom
      have keepRow : ∀ {H3 : Hp}, Same H2 H3 → AllR (RowO K o kp H3) xs (outs (loRow ss ts) k) := fun {H3} s3 => hx.imp fun v r ⟨t, l, g1, g2, g3, g4, g5⟩ => ⟨t, l, g1, g2, g3, rel_same.sqT s3 g4, s3 _ _ g5⟩
      have closed : ¬ (0 < (fz ss k).1 ∧ (fz ss k).1 < (fz ss k).2) → AllR (RowO K o kp H2) xs (outs (loRow ss ts) (k + 1)) := fun hc => by
        rw [outs_succ, show loRow ss ts k = none from if_neg hc]
        simpa using hx
      refine ⟨_, rfl, _, _, rfl, rfl, _, rfl, ite2 (fun e => ?_) fun e => ?_⟩
      · have e1 : 0 < (fz ss k).1 := of_decide_eq_true e
        refine ⟨_, rfl, _, _, rfl, rfl, _, rfl, ite2 (fun e => ?_) fun e => ?_⟩
        · have e2 : (fz ss k).1 < (fz ss k).2 := of_decide_eq_true e
          -- rows.append(([top, bottom - top], throw))
          refine ⟨_, rfl, .inl ⟨rfl, _, SqL.of ho⟩, _, rfl, _, rfl, _, rfl, _, _, rfl, rfl, by show 2 ≤ sizeLine; decide, fun l nl => ?_⟩
          refine ⟨_, rfl, by show 2 ≤ sizeLine; decide, fun t nt => ?_⟩
          have nol : o ≠ l := ne_of_none ho nl
          have nkl : kp ≠ l := ne_of_none hkp nl
          have s3 : Same H2 (upd (upd H2 l (.lst [.int (fz ss k).1, .int ((fz ss k).2 - (fz ss k).1)])) t (.tup [.ref l, .int (zf ts k % (fz ss k).2)])) := (sames nl).trans (sames nt)
          have ht3 : upd (upd H2 l (.lst [.int (fz ss k).1, .int ((fz ss k).2 - (fz ss k).1)])) t (.tup [.ref l, .int (zf ts k % (fz ss k).2)]) t = some (.tup [.ref l, .int (zf ts k % (fz ss k).2)]) := upd_same
          have hl3 : upd (upd H2 l (.lst [.int (fz ss k).1, .int ((fz ss k).2 - (fz ss k).1)])) t (.tup [.ref l, .int (zf ts k % (fz ss k).2)]) l = some (.lst [.int (fz ss k).1, .int ((fz ss k).2 - (fz ss k).1)]) := by
            rw [upd_ne (ne_of_none upd_same nt)]
            exact upd_same
          generalize upd (upd H2 l (.lst [.int (fz ss k).1, .int ((fz ss k).2 - (fz ss k).1)])) t (.tup [.ref l, .int (zf ts k % (fz ss k).2)]) = H3 at s3 ht3 hl3
          have ho3 := s3 _ _ ho
          have hk3 := s3 _ _ hkp
          refine ⟨o, xs, _, rfl, rfl, ho3, Nat.lt_of_le_of_lt hle1 (by decide), ?_⟩
          refine second _ (xs ++ [.ref t]) (same_mut (s1.trans s3) no) upd_same (by rw [upd_ne nok.symm]; exact hk3) ?_ _ ?_
          rotate_left
          · exact fun H4 h => h
          rw [outs_succ, show loRow ss ts k = some ([(fz ss k).1, (fz ss k).2 - (fz ss k).1], thz ss ts k) from if_pos ⟨e1, e2⟩, Option.toList_some]
          have h3 : AllR (RowO K o kp (upd H3 o (.lst (xs ++ [.ref t])))) xs (outs (loRow ss ts) k) :=
            (keepRow s3).imp fun v r ⟨t, l, g1, g2, g3, g4, g5⟩ => ⟨t, l, g1, g2, g3, sqT_mut ho3 g4, by rw [upd_ne g2]; exact g5⟩
          exact h3.snoc (y := ([(fz ss k).1, (fz ss k).2 - (fz ss k).1], thz ss ts k)) ⟨t, l, rfl, nol.symm, nkl.symm, sqT_mut ho3 (SqT.of ht3), by rw [upd_ne nol.symm]; exact hl3⟩
        · have e2 : ¬ (fz ss k).1 < (fz ss k).2 := fun z => e (decide_eq_true z)
          exact second H2 xs s1 ho hkp (closed fun z => e2 z.2) _ fun H4 h => h
      · have e1 : ¬ 0 < (fz ss k).1 := fun z => e (decide_eq_true z)
        exact ⟨_, rfl, iteF (second H2 xs s1 ho hkp (closed fun z => e1 z.1) _ fun H4 h => h)⟩
    · obtain ⟨y5, y6, y7, y8, xs, rfl, s1, ho, hkp, hx⟩ := p
      rw [rng_len, hml] at hkp hx
      have hle2 : (outs (loKept ps ss ts) ps.length).length ≤ 24 := by
        have := outs_len (loKept ps ss ts) ps.length
        omega
      refine ⟨_, rfl, _, rfl, kp, _, rfl, SqL.of hkp, by omega, fun ks kq perm srt1 nk2 => ?_⟩
      refine ⟨kq, _, rfl, .inl ⟨SqL.of upd_same, fun kt nkt => ?_⟩⟩
      refine ⟨by show 2 ≤ sizeLine; decide, fun p np => ?_⟩
      have s5 := ((sames nk2 (o := .lst (ks.map V.int))).trans (sames nkt (o := .tup (ks.map V.int)))).trans (sames np (o := .tup [.ref o, .ref kt]))
      refine q p o kt _ (s1.trans s5) upd_same ⟨xs, SqL.of (s5 _ _ ho), hx.imp fun v r ⟨t, l, g1, g2, g3, g4, g5⟩ => ⟨t, l, g1, rel_same.sqT s5 g4, SqL.of (s5 _ _ g5)⟩⟩ ?_
      rw [← srt_of perm srt1]
      exact SqT.of (by rw [upd_ne (ne_of_none upd_same np)]; exact upd_same)
end
end Fk
/-! B1: nodes and plans: the plain methods. CT, CD, CS, CL: the classes Told, Die, Start, Loose. -/
namespace Fk
open PySem PySem.Spec PyProof.Rows L2 LamX
def NodeT (K : PySem.W.Frag) (CT : Addr) (H : Hp) (v : V) (ks : List Int) : Prop := ∃ x dx t, v = .ref x ∧ H x = some (.ins CT dx [("places", .ref t)]) ∧ SqT K H t (ks.map V.int)
theorem NodeT.mono {E : Hp → Hp → Prop} {K : PySem.W.Frag} {CT : Addr} {H H' : Hp} {v : V} {ks : List Int} (R : Rel E) (e : E H H') (h : NodeT K CT H v ks) : NodeT K CT H' v ks := by
  obtain ⟨x, dx, t, rfl, h1, h2⟩ := h
  exact ⟨x, dx, t, rfl, (R.keep e h1 fun _ z => nomatch z), R.sqT e h2⟩
/-- an instance of a class made by its first method: all but the new one stays -/
def spToldInit (K : PySem.W.Frag) (CT : Addr) : Sp := fun vs H Q _ => ∃ (x dx k : Addr) (ks : List Int), vs = [.ref x, .ref k] ∧ H x = some (.ins CT dx []) ∧ SqL K H k (ks.map V.int) ∧ ks.length < 64 ∧
  ∀ H' t, (∀ b o, H b = some o → b ≠ x → H' b = some o) → H' x = some (.ins CT dx [("places", .ref t)]) → SqT K H' t ((srt ks).map V.int) → Q .non H'
def spDieInit (K : PySem.W.Frag) (CD : Addr) : Sp := fun vs H Q _ => ∃ (x dx l : Addr) (us : List V), vs = [.ref x, .ref l] ∧ H x = some (.ins CD dx []) ∧ SqL K H l us ∧
  ∀ H' t, (∀ b o, H b = some o → b ≠ x → H' b = some o) → H' x = some (.ins CD dx [("ways", .ref t)]) → SqT K H' t us → Q .non H'
def spIntInit (C : Addr) (f : Str) (hi lo : Int) : Sp := fun vs H Q _ => ∃ (x dx : Addr) (n : Int), vs = [.ref x, .int n] ∧ H x = some (.ins C dx []) ∧ lo ≤ n ∧ n ≤ hi ∧ Q .non (upd H x (.ins C dx [(f, .int n)]))
/-- a method that tells a constant -/
def spSay (v : V) : Sp := fun vs H Q _ => ∃ x, vs = [.ref x] ∧ Q v H
def spNilParts : Sp := fun vs H Q _ => ∃ x, vs = [.ref x] ∧ RetLs [] H Q
def spToldKept (CT : Addr) : Sp := fun vs H Q _ => ∃ x dx t, vs = [.ref x] ∧ H x = some (.ins CT dx [("places", .ref t)]) ∧ Q (.ref t) H
def PlanI (C : Addr) (f : Str) (H : Hp) (x : Addr) (n : Int) : Prop := ∃ dx, H x = some (.ins C dx [(f, .int n)])
def spChance (CS : Addr) : Sp := fun vs H Q _ => ∃ (x : Addr) (c : V) (i j : Nat) (st : Int), vs = [.ref x, c, .int i, .int j] ∧ PlanI CS "step" H x st ∧ 1 ≤ st ∧ RetT (if (i : Int) % st = (j : Int) % st then [.int 1, .int st] else [.int 0, .int 1]) H Q
def spStartBounds (K : PySem.W.Frag) (CS : Addr) : Sp := fun vs H Q _ => ∃ (x a : Addr) (xs : List V) (st : Int), vs = [.ref x, .ref a] ∧ PlanI CS "step" H x st ∧ SqL K H a xs ∧ 1 ≤ st ∧ st ≤ 100 ∧ RetT [.int ((xs.length : Int) / st), .int (((xs.length : Int) + st - 1) / st)] H Q
def spText (C : Addr) (f w : Str) : Sp := fun vs H Q _ => ∃ (x : Addr) (n : Int), vs = [.ref x] ∧ PlanI C f H x n ∧ 0 ≤ n ∧ n ≤ 100 ∧ ∀ z : Str, z = w ++ toString n → Q (.str z) H
theorem small_n {n : Int} (h1 : 0 ≤ n) (h2 : n ≤ 100) : n.natAbs.log2 < 1920 ∧ (toString n : Str).length ≤ 5 := by
  have h : ∀ m : Fin 101, (((m.val : Int)).natAbs.log2 < 1920 ∧ (toString ((m.val : Int)) : Str).length ≤ 5) := by decide +kernel
  have e : ((n.toNat : Nat) : Int) = n := Int.toNat_of_nonneg h1
  have := h ⟨n.toNat, by omega⟩
  rw [show (((⟨n.toNat, by omega⟩ : Fin 101).val : Nat) : Int) = n from e] at this
  exact this
section
variable {P : Program} {w : World} {K : PySem.W.Frag} {mg : Str → Option Value} {base : Heap} {f : Addr} {fd : FuncData} {CT CD CS CL : Addr}
theorem ok_Told_init (F : FnP K "__init__" "Told.__init__" s_Told_init f fd) (c1 : Cls K CT) (n1 : NoAttr K CT "places") (m_tuple : mg "tuple" = none) (m_sorted : mg "sorted" = none) : FnOk P w K mg base CX0 1 f fd ["self", "kept"] (spToldInit K CT) := by
  refine F.ok c_Told_init (fun vs H Q E h => ?_) (fun cdv A outer s H vs Q E hr h => ⟨_, PSs.nox (pss_one (ps_fld (pv 0) (pe_callTy call_tuple_of (by rfl) m_tuple (by decide +kernel) (pa_cons (pe_callB cr_sorted (by rfl) m_sorted (by decide +kernel) (pa_cons (pv 1) pa_nil)) pa_nil)) rfl)), ?_⟩)
  · obtain ⟨x, dx, k, ks, rfl, _⟩ := h
    rfl
  · obtain ⟨x, dx, k, ks, rfl, hx, hk, hl, q⟩ := h
    refine ⟨_, rfl, k, ks, rfl, hk, hl, fun ks' kp perm srt1 nk => ?_⟩
    refine ⟨kp, _, rfl, .inl ⟨SqL.of upd_same, fun kt nkt => ?_⟩⟩
    have s1 := (sames nk (o := .lst (ks'.map V.int))).trans (sames nkt (o := .tup (ks'.map V.int)))
    have hx1 := s1 _ _ hx
    refine ⟨_, rfl, x, CT, dx, [], rfl, hx1, c1, n1, by decide, ?_⟩
    refine q _ kt (fun b o hb n => ?_) ?_ ?_
    · rw [upd_ne n]
      exact s1 _ _ hb
    · exact upd_same
    · rw [← srt_of perm srt1]
      have ntx : kt ≠ x := fun z => by
        rw [z] at nkt
        have := (sames nk (o := .lst (ks'.map V.int))) _ _ hx
        rw [this] at nkt
        cases nkt
      exact SqT.of (by rw [upd_ne ntx]; exact upd_same)
theorem ok_Die_init (F : FnP K "__init__" "Die.__init__" s_Die_init f fd) (c1 : Cls K CD) (n1 : NoAttr K CD "ways") (m_tuple : mg "tuple" = none) : FnOk P w K mg base CX0 1 f fd ["self", "parts"] (spDieInit K CD) := by
  refine F.ok c_Die_init (fun vs H Q E h => ?_) (fun cdv A outer s H vs Q E hr h => ⟨_, PSs.nox (pss_one (ps_fld (pv 0) (pe_callTy call_tuple_of (by rfl) m_tuple (by decide +kernel) (pa_cons (pv 1) pa_nil)) rfl)), ?_⟩)
  · obtain ⟨x, dx, k, ks, rfl, _⟩ := h
    rfl
  · obtain ⟨x, dx, l, us, rfl, hx, hl, q⟩ := h
    refine ⟨_, rfl, l, us, rfl, .inl ⟨hl, fun t nt => ?_⟩⟩
    have s1 := sames nt (o := .tup us)
    refine ⟨_, rfl, x, CD, dx, [], rfl, s1 _ _ hx, c1, n1, by decide, ?_⟩
    refine q _ t (fun b o hb n => ?_) upd_same ?_
    · rw [upd_ne n]
      exact s1 _ _ hb
    · have ntx : t ≠ x := (ne_of_none hx nt).symm
      exact SqT.of (by rw [upd_ne ntx]; exact upd_same)
theorem ok_Start_init (F : FnP K "__init__" "Start.__init__" s_Start_init f fd) (c1 : Cls K CS) (n1 : NoAttr K CS "step") (C_is_whole : Cal P w K mg base 1 "is_whole" spIsWhole) (M_MOST_STEP : ∃ t, mg "MOST_STEP" = some (.int 100 t)) : FnOk P w K mg base CX0 2 f fd ["self", "step"] (spIntInit CS "step" 100 1) := by
  refine F.ok c_Start_init (fun vs H Q E h => ?_) (fun cdv A outer s H vs Q E hr h => ⟨_, PSs.nox (pss_cons (ps_if (pt_not (pt_val (pe_c C_is_whole hr (by decide) (by rfl) (pa_cons (pv 1) (pa_cons pe_int (pa_cons (pe_gc (by rfl) M_MOST_STEP) pa_nil)))))) pss_never pss_nil)
      (pss_one (ps_fld (pv 0) (pv 1) rfl))), ?_⟩)
  · obtain ⟨x, dx, n, rfl, _⟩ := h
    rfl
  · obtain ⟨x, dx, n, rfl, hx, h1, h2, q⟩ := h
    refine ⟨_, rfl, n, 1, 100, rfl, h1, h2, _, rfl, iteF ?_⟩
    exact ⟨_, rfl, _, rfl, x, CS, dx, [], rfl, hx, c1, n1, by decide, q⟩
theorem ok_Loose_init (F : FnP K "__init__" "Loose.__init__" s_Loose_init f fd) (c1 : Cls K CL) (n1 : NoAttr K CL "many") (C_is_whole : Cal P w K mg base 1 "is_whole" spIsWhole) (M_MOST_DRAWN : ∃ t, mg "MOST_DRAWN" = some (.int 24 t)) : FnOk P w K mg base CX0 2 f fd ["self", "many"] (spIntInit CL "many" 24 0) := by
  refine F.ok c_Loose_init (fun vs H Q E h => ?_) (fun cdv A outer s H vs Q E hr h => ⟨_, PSs.nox (pss_cons (ps_if (pt_not (pt_val (pe_c C_is_whole hr (by decide) (by rfl) (pa_cons (pv 1) (pa_cons pe_int (pa_cons (pe_gc (by rfl) M_MOST_DRAWN) pa_nil)))))) pss_never pss_nil)
      (pss_one (ps_fld (pv 0) (pv 1) rfl))), ?_⟩)
  · obtain ⟨x, dx, n, rfl, _⟩ := h
    rfl
  · obtain ⟨x, dx, n, rfl, hx, h1, h2, q⟩ := h
    refine ⟨_, rfl, n, 0, 24, rfl, h1, h2, _, rfl, iteF ?_⟩
    exact ⟨_, rfl, _, rfl, x, CL, dx, [], rfl, hx, c1, n1, by decide, q⟩
theorem ok_Node_is_told (F : FnP K "is_told" "Node.is_told" s_Node_is_told f fd) : FnOk P w K mg base CX0 1 f fd ["self"] (spSay (.bl false)) := by
  refine F.ok c_Node_is_told (fun vs H Q E h => ?_) (fun cdv A outer s H vs Q E hr h => ⟨_, PSs.nox (pss_one (ps_ret pe_bl)), ?_⟩)
  · obtain ⟨x, rfl, _⟩ := h
    rfl
  · obtain ⟨x, rfl, q⟩ := h
    exact q
theorem ok_Node_kept (F : FnP K "kept" "Node.kept" s_Node_kept f fd) : FnOk P w K mg base CX0 1 f fd ["self"] (spSay .non) := by
  refine F.ok c_Node_kept (fun vs H Q E h => ?_) (fun cdv A outer s H vs Q E hr h => ⟨_, PSs.nox (pss_one (ps_ret pe_non)), ?_⟩)
  · obtain ⟨x, rfl, _⟩ := h
    rfl
  · obtain ⟨x, rfl, q⟩ := h
    exact q
theorem ok_Node_sides (F : FnP K "sides" "Node.sides" s_Node_sides f fd) : FnOk P w K mg base CX0 1 f fd ["self"] (spSay (.int 0)) := by
  refine F.ok c_Node_sides (fun vs H Q E h => ?_) (fun cdv A outer s H vs Q E hr h => ⟨_, PSs.nox (pss_one (ps_ret pe_int)), ?_⟩)
  · obtain ⟨x, rfl, _⟩ := h
    rfl
  · obtain ⟨x, rfl, q⟩ := h
    exact q
theorem ok_Node_parts (F : FnP K "parts" "Node.parts" s_Node_parts f fd) : FnOk P w K mg base CX0 1 f fd ["self"] spNilParts := by
  refine F.ok c_Node_parts (fun vs H Q E h => ?_) (fun cdv A outer s H vs Q E hr h => ⟨_, PSs.nox (pss_one (ps_ret (pe_lst pa_nil))), ?_⟩)
  · obtain ⟨x, rfl, _⟩ := h
    rfl
  · obtain ⟨x, rfl, q⟩ := h
    exact ⟨Nat.zero_le _, fun p hp => q p _ hp (sames hp) upd_same⟩
theorem ok_Told_is_told (F : FnP K "is_told" "Told.is_told" s_Told_is_told f fd) : FnOk P w K mg base CX0 1 f fd ["self"] (spSay (.bl true)) := by
  refine F.ok c_Told_is_told (fun vs H Q E h => ?_) (fun cdv A outer s H vs Q E hr h => ⟨_, PSs.nox (pss_one (ps_ret pe_bl)), ?_⟩)
  · obtain ⟨x, rfl, _⟩ := h
    rfl
  · obtain ⟨x, rfl, q⟩ := h
    exact q
theorem ok_Told_kept (F : FnP K "kept" "Told.kept" s_Told_kept f fd) (c1 : Cls K CT) (n1 : NoAttr K CT "places") : FnOk P w K mg base CX0 1 f fd ["self"] (spToldKept CT) := by
  refine F.ok c_Told_kept (fun vs H Q E h => ?_) (fun cdv A outer s H vs Q E hr h => ⟨_, PSs.nox (pss_one (ps_ret (pe_fld (pv 0) rfl))), ?_⟩)
  · obtain ⟨x, dx, t, rfl, _⟩ := h
    rfl
  · obtain ⟨x, dx, t, rfl, hx, q⟩ := h
    exact ⟨_, rfl, x, CT, dx, _, _, rfl, hx, c1, n1, rfl, q⟩
theorem ok_Start_chance (F : FnP K "chance" "Start.chance" s_Start_chance f fd) (c1 : Cls K CS) (n1 : NoAttr K CS "step") : FnOk P w K mg base CX0 1 f fd ["self", "crowd", "one", "other"] (spChance CS) := by
  refine F.ok c_Start_chance (fun vs H Q E h => ?_) (fun cdv A outer s H vs Q E hr h => ⟨_, PSs.nox (pss_cons (ps_if (pt_cmpR op_eq (pe_op op_mod (pe_op op_sub (pv 2) (pv 3)) (pe_fld (pv 0) rfl)) pe_int (nomark _)) (pss_one (ps_ret (pe_tup (pa_cons pe_int (pa_cons (pe_fld (pv 0) rfl) pa_nil))))) pss_nil)
      (pss_one (ps_ret (pe_tup (pa_cons pe_int (pa_cons pe_int pa_nil)))))), ?_⟩)
  · obtain ⟨x, c, i, j, st, rfl, _⟩ := h
    rfl
  · obtain ⟨x, c, i, j, st, rfl, ⟨dx, hx⟩, h1, q⟩ := h
    have key : ((i : Int) - (j : Int)) % st = 0 ↔ (i : Int) % st = (j : Int) % st := by
      rw [Int.emod_eq_emod_iff_emod_sub_eq_zero]
    refine ⟨_, rfl, _, rfl, _, _, rfl, rfl, _, rfl, x, CS, dx, _, _, rfl, hx, c1, n1, rfl, _, _, rfl, rfl, by show (0 : Int) < st; omega, rfl, _, rfl, ite2 (fun e => ?_) fun e => ?_⟩
    · have e' := key.mp (V.int.inj (of_decide_eq_true e))
      refine ⟨_, rfl, x, CS, dx, _, _, rfl, hx, c1, n1, rfl, by show 2 ≤ sizeLine; decide, fun p hp => ?_⟩
      refine q p _ hp (sames hp) ?_
      rw [if_pos e']
      exact upd_same
    · have e' : ¬ (i : Int) % st = (j : Int) % st := fun z => e (by
        show decide (V.int (((i : Int) - (j : Int)) % st) = V.int 0) = true
        rw [key.mpr z]
        exact decide_eq_true rfl)
      refine ⟨by show 2 ≤ sizeLine; decide, fun p hp => ?_⟩
      refine q p _ hp (sames hp) ?_
      rw [if_neg e']
      exact upd_same
theorem ok_Start_bounds (F : FnP K "bounds" "Start.bounds" s_Start_bounds f fd) (c1 : Cls K CS) (n1 : NoAttr K CS "step") (m_len : mg "len" = none) : FnOk P w K mg base CX0 1 f fd ["self", "crowd"] (spStartBounds K CS) := by
  refine F.ok c_Start_bounds (fun vs H Q E h => ?_) (fun cdv A outer s H vs Q E hr h => ⟨_, PSs.nox (pss_one (ps_ret (pe_tup (pa_cons (pe_op op_fdivW (pe_callB call_len_seq (by rfl) m_len PySem.boot_len (pa_cons (pv 1) pa_nil)) (pe_fld (pv 0) rfl)) (pa_cons (pe_op op_fdivW (pe_op op_sub (pe_op op_add (pe_callB call_len_seq (by rfl) m_len PySem.boot_len (pa_cons (pv 1) pa_nil)) (pe_fld (pv 0) rfl)) pe_int) (pe_fld (pv 0) rfl)) pa_nil))))), ?_⟩)
  · obtain ⟨x, a, xs, st, rfl, _⟩ := h
    rfl
  · obtain ⟨x, a, xs, st, rfl, ⟨dx, hx⟩, ha, h1, h2, q⟩ := h
    have hd : ∀ n : Int, CDivW n st := fun n => wide_div (b := 64) (by omega) (by omega) (by decide) (by decide)
    refine ⟨_, rfl, a, _, rfl, .inl ha, _, rfl, x, CS, dx, _, _, rfl, hx, c1, n1, rfl, _, _, rfl, rfl, hd _, ?_⟩
    refine ⟨_, rfl, a, _, rfl, .inl ha, _, rfl, x, CS, dx, _, _, rfl, hx, c1, n1, rfl, _, _, rfl, rfl, _, _, rfl, rfl, _, rfl, x, CS, dx, _, _, rfl, hx, c1, n1, rfl, _, _, rfl, rfl, hd _, by show 2 ≤ sizeLine; decide, fun p hp => ?_⟩
    exact q p _ hp (sames hp) upd_same
theorem ok_Start_text (F : FnP K "text" "Start.text" s_Start_text f fd) (c1 : Cls K CS) (n1 : NoAttr K CS "step") (m_str : mg "str" = none) : FnOk P w K mg base CX0 1 f fd ["self"] (spText CS "step" "start ") := by
  refine F.ok c_Start_text (fun vs H Q E h => ?_) (fun cdv A outer s H vs Q E hr h => ⟨_, PSs.nox (pss_one (ps_ret (pe_op op_add_str pe_str (pe_callTy call_str_int (by rfl) m_str (by decide +kernel) (pa_cons (pe_fld (pv 0) rfl) pa_nil))))), ?_⟩)
  · obtain ⟨x, n, rfl, _⟩ := h
    rfl
  · obtain ⟨x, n, rfl, ⟨dx, hx⟩, h1, h2, q⟩ := h
    refine ⟨_, rfl, x, CS, dx, _, _, rfl, hx, c1, n1, rfl, n, rfl, (small_n h1 h2).1, _, _, rfl, rfl, ?_, q _ rfl⟩
    have := (small_n h1 h2).2
    have h6 : ("start " : Str).length ≤ 8 := by decide +kernel
    have h7 : 20 ≤ sizeLine := by decide
    omega
theorem ok_Loose_text (F : FnP K "text" "Loose.text" s_Loose_text f fd) (c1 : Cls K CL) (n1 : NoAttr K CL "many") (m_str : mg "str" = none) : FnOk P w K mg base CX0 1 f fd ["self"] (spText CL "many" "loose ") := by
  refine F.ok c_Loose_text (fun vs H Q E h => ?_) (fun cdv A outer s H vs Q E hr h => ⟨_, PSs.nox (pss_one (ps_ret (pe_op op_add_str pe_str (pe_callTy call_str_int (by rfl) m_str (by decide +kernel) (pa_cons (pe_fld (pv 0) rfl) pa_nil))))), ?_⟩)
  · obtain ⟨x, n, rfl, _⟩ := h
    rfl
  · obtain ⟨x, n, rfl, ⟨dx, hx⟩, h1, h2, q⟩ := h
    refine ⟨_, rfl, x, CL, dx, _, _, rfl, hx, c1, n1, rfl, n, rfl, (small_n h1 h2).1, _, _, rfl, rfl, ?_, q _ rfl⟩
    have := (small_n h1 h2).2
    have h6 : ("loose " : Str).length ≤ 8 := by decide +kernel
    have h7 : 20 ≤ sizeLine := by decide
    omega
end
end Fk
/-! B2: bounds and matrices of the plans. -/
namespace Fk
open PySem PySem.Spec PyProof.Rows L2 LamX
/-- a new row; a new matrix of new rows -/
def RwN (K : PySem.W.Frag) (H0 H : Hp) (v : V) (r : List (Int × Int)) : Prop := ∃ b xs, v = .ref b ∧ H0 b = none ∧ H b = some (.lst xs) ∧ AllR (FrR K H) xs r
def MxN (K : PySem.W.Frag) (H0 H : Hp) (p : Addr) (M : List (List (Int × Int))) : Prop := ∃ rs : List Addr, H0 p = none ∧ H p = some (.lst (rs.map V.ref)) ∧ rs.Nodup ∧ p ∉ rs ∧ AllR (RwN K H0 H) (rs.map V.ref) M
theorem RwN.mono {K : PySem.W.Frag} {H0 H H' : Hp} {v : V} {r : List (Int × Int)} (e : Same H H') (h : RwN K H0 H v r) : RwN K H0 H' v r := by
  obtain ⟨b, xs, rfl, n, h1, h2⟩ := h
  exact ⟨b, xs, rfl, n, e _ _ h1, h2.imp fun v p r => r.mono rel_same e⟩
theorem RwN.chg {K : PySem.W.Frag} {H0 H : Hp} {o b : Addr} {acc ys : List V} {r : List (Int × Int)} (ho : H o = some (.lst acc)) (n : b ≠ o) (h : RwN K H0 H (.ref b) r) : RwN K H0 (upd H o (.lst ys)) (.ref b) r := by
  obtain ⟨b', xs, e, n', h1, h2⟩ := h
  cases e
  refine ⟨b, xs, rfl, n', by rw [upd_ne n]; exact h1, h2.imp fun v p ⟨t, e, z⟩ => ⟨t, e, sqT_mut ho z⟩⟩
/-- what the rows that are told, and the list o that tells them, have; o's change leaves the rows -/
theorem rows_put {K : PySem.W.Frag} {H0 H : Hp} {o : Addr} {rs : List Addr} {M : List (List (Int × Int))} {D : Addr} {r : List (Int × Int)} (ho : H o = some (.lst (rs.map V.ref))) (no : o ∉ rs) (nd : rs.Nodup) (hx : AllR (RwN K H0 H) (rs.map V.ref) M) (hD : RwN K H0 H (.ref D) r) (nDo : D ≠ o) (nDr : D ∉ rs) :
    (rs ++ [D]).Nodup ∧ o ∉ rs ++ [D] ∧ AllR (RwN K H0 (upd H o (.lst ((rs ++ [D]).map V.ref)))) ((rs ++ [D]).map V.ref) (M ++ [r]) := by
  refine ⟨?_, ?_, ?_⟩
  · refine List.nodup_append.mpr ⟨nd, by simp, fun a ha b hb => ?_⟩
    rw [List.mem_singleton] at hb
    subst hb
    exact fun z => nDr (z ▸ ha)
  · intro z
    rcases List.mem_append.mp z with z | z
    · exact no z
    · exact nDo (List.mem_singleton.mp z).symm
  · rw [List.map_append]
    refine AllR.snoc ⟨hx.1, fun i v y hv hy => ?_⟩ (hD.chg ho nDo)
    have h1 := hx.2 i v y hv hy
    rw [List.getElem?_map] at hv
    cases hb : rs[i]? with
    | none =>
      rw [hb] at hv
      cases hv
    | some b =>
      rw [hb] at hv
      cases hv
      exact h1.chg ho fun z => no (z ▸ List.mem_of_getElem? hb)
theorem rows_some {K : PySem.W.Frag} {H0 H : Hp} {rs : List Addr} {M : List (List (Int × Int))} (hx : AllR (RwN K H0 H) (rs.map V.ref) M) {b : Addr} (hb : b ∈ rs) : H b ≠ none := by
  obtain ⟨i, hi, e⟩ := List.mem_iff_getElem.mp hb
  have e1 : (rs.map V.ref)[i]? = some (V.ref b) := by
    rw [List.getElem?_map, List.getElem?_eq_getElem hi, e]
    rfl
  obtain ⟨y, _, b', xs, e2, _, h1, _⟩ := hx.getV e1
  cases e2
  rw [h1]
  exact fun z => nomatch z
theorem eqv_fr (p q : Int × Int) : PyData.eqv (frD p) (frD q) = decide (p = q) := by
  obtain ⟨a, b⟩ := p
  obtain ⟨c, d⟩ := q
  simp only [frD, PyData.eqv, PyData.eqvAll, Prod.mk.injEq, Bool.and_true]
  rw [Bool.eq_iff_iff]
  simp
theorem count_outs (P : Int × Int → Bool) (ss : List (Int × Int)) : (outs (fun k => if P (fz ss k) = true then some (fz ss k) else none) ss.length).length = ss.countP P := by
  have h : outs (fun k => if P (fz ss k) = true then some (fz ss k) else none) ss.length = ss.filter P := by
    have h2 : ((List.range ss.length).map (fz ss)) = ss := by
      refine List.ext_getElem? fun i => ?_
      rw [List.getElem?_map]
      by_cases h : i < ss.length
      · rw [List.getElem?_range h, fz_get h]
        rfl
      · rw [List.getElem?_eq_none (by rw [List.length_range]; omega), List.getElem?_eq_none (by omega)]
        rfl
    unfold outs
    conv => rhs; rw [← h2]
    rw [List.filter_map, ← List.filterMap_eq_map, ← List.filterMap_eq_filter, List.filterMap_filterMap]
    refine congrArg (fun g => List.filterMap g (List.range ss.length)) (funext fun k => ?_)
    by_cases h : P (fz ss k) = true
    · simp [Option.guard, h]
    · simp [Option.guard, h]
  rw [h, List.countP_eq_length_filter]
def spLooseBounds (K : PySem.W.Frag) (CL : Addr) : Sp := fun vs H Q _ => ∃ (x a : Addr) (cs : List (Int × Int)) (ys : List Str) (m : Int), vs = [.ref x, .ref a] ∧ PlanI CL "many" H x m ∧ CrLs K H a cs ys ∧ SzOk (cs.map (·.2)) ∧ 0 ≤ m ∧ m ≤ 24 ∧
  ∀ ss, IsW (cs.map (·.2)) m ss → ∀ p H2, Same H H2 → H2 p = some (.tup [.int (ss.countP fun p => decide (p = (1, 1)) : Nat), .int (ss.countP fun p => !decide (p = (0, 1)) : Nat)]) → Q (.ref p) H2
def spLooseMatrix (K : PySem.W.Frag) (CL : Addr) : Sp := fun vs H Q _ => ∃ (x a : Addr) (cs : List (Int × Int)) (ys : List Str) (m : Int), vs = [.ref x, .ref a] ∧ PlanI CL "many" H x m ∧ CrLs K H a cs ys ∧ SzOk (cs.map (·.2)) ∧ 0 ≤ m ∧ m ≤ 24 ∧
  ∀ ss, IsW (cs.map (·.2)) m ss → ∀ p H2, Same H H2 → MxN K H H2 p (bothM ss) → Q (.ref p) H2
def spStartMatrix (K : PySem.W.Frag) (CS : Addr) : Sp := fun vs H Q _ => ∃ (x a : Addr) (xs : List V) (st : Int), vs = [.ref x, .ref a] ∧ PlanI CS "step" H x st ∧ SqL K H a xs ∧ xs.length ≤ 24 ∧ 1 ≤ st ∧ st ≤ 100 ∧
  ∀ p H2, Same H H2 → MxN K H H2 p (stepM xs.length st) → Q (.ref p) H2
section
variable {P : Program} {w : World} {K : PySem.W.Frag} {mg : Str → Option Value} {base : Heap} {f : Addr} {fd : FuncData} {CT CD CS CL : Addr}
theorem ok_Loose_bounds (F : FnP K "bounds" "Loose.bounds" s_Loose_bounds f fd) (c1 : Cls K CL) (n1 : NoAttr K CL "many") (C_wished_of : Cal P w K mg base 4 "wished_of" (spWishedOf K)) (m_len : mg "len" = none) : FnOk P w K mg base CX0 5 f fd ["self", "crowd"] (spLooseBounds K CL) := by
  refine F.ok c_Loose_bounds (fun vs H Q E h => ?_) (fun cdv A outer s H vs Q E hr h => ⟨_, PSs.nox (pss_cons (ps_set (i := 2) c_Loose_bounds.nd rfl (Or.inl rfl) (pe_c C_wished_of hr (by decide) (by rfl) (pa_cons (pv 1) (pa_cons (pe_fld (pv 0) rfl) pa_nil))))
      (pss_one (ps_ret (pe_tup (pa_cons (pe_callB call_len_seq (by rfl) m_len PySem.boot_len (pa_cons (pe_lc (own := [("one", 3)]) (g := (gName 3)) rfl c_Loose_bounds.nd (pi_list (pv 2)) (blkOk_by (own := [("one", 3)]) (N := n_Loose_bounds) (sc := defScope s_Loose_bounds) (by decide +kernel)) (fun _ _ _ _ _ => (pg_name (i := 3) c_Loose_bounds.nd rfl (Or.inl rfl))) (fun _ _ _ _ _ => (pts_one (pt_cmpR (r := rEqD K) (op_eqD hr.units) (pv 3) (pe_tup (pa_cons pe_int (pa_cons pe_int pa_nil))) (nomark _)))) (fun _ _ _ _ _ => (pv 3))) pa_nil)) (pa_cons (pe_callB call_len_seq (by rfl) m_len PySem.boot_len (pa_cons (pe_lc (own := [("one", 3)]) (g := (gName 3)) rfl c_Loose_bounds.nd (pi_list (pv 2)) (blkOk_by (own := [("one", 3)]) (N := n_Loose_bounds) (sc := defScope s_Loose_bounds) (by decide +kernel)) (fun _ _ _ _ _ => (pg_name (i := 3) c_Loose_bounds.nd rfl (Or.inl rfl))) (fun _ _ _ _ _ => (pts_one (pt_cmpR (r := rNeD K) (op_neD hr.units) (pv 3) (pe_tup (pa_cons pe_int (pa_cons pe_int pa_nil))) (nomark _)))) (fun _ _ _ _ _ => (pv 3))) pa_nil)) pa_nil)))))), ?_⟩)
  · obtain ⟨x, a, cs, ys, m, rfl, _⟩ := h
    rfl
  · obtain ⟨x, a, cs, ys, m, rfl, ⟨dx, hx⟩, hcr, hsz, h1, h2, q⟩ := h
    refine ⟨_, rfl, _, rfl, x, CL, dx, _, _, rfl, hx, c1, n1, rfl, a, cs, ys, m, rfl, hcr, hsz, h1, h2, fun ss hw b H1 xs nb e1 hb hxs => ?_⟩
    have hl : ss.length ≤ 24 := by
      rw [isW_len hw]
      exact hsz.1
    refine ⟨_, rfl, b, rfl, ⟨_, SqL.of hb⟩, fun D nD => lcE rel_same (R := fun _ _ (_ : Int × Int) => True) (walk_list (xs := xs)) (fun k => if decide (fz ss k = (1, 1)) = true then some (fz ss k) else none) nD (by rw [hxs.1]; omega)
      (fun H2 e => e.seq (SqL.of hb)) (fun i H2 x H3 e y => by rw [y.1]; exact Same.refl _) (fun _ _ _ _ _ _ r => r) (fun _ _ _ _ _ _ r => r) (fun i x H2 H3 acc C hi e2 e3 hD y k1 k2 => ?_) (fun H2 zs hD e2 hz => ?_)⟩
    · obtain ⟨rfl, gx⟩ := y
      have hi' : i < ss.length := by
        rw [hxs.1] at hi
        exact hi
      obtain ⟨t, et, ht⟩ := fr_at (hxs.imp fun v p r => r.mono rel_same e3) hi'
      rw [gx] at et
      cases et
      refine ⟨rfl, _, rfl, by show 2 ≤ sizeLine; decide, fun u nu => ?_⟩
      have su := sames nu (o := .tup [.int 1, .int 1])
      refine ⟨_, _, fr_dp ⟨t, rfl, rel_same.sqT su ht⟩, fr_dp (p := (1, 1)) ⟨u, rfl, SqT.of upd_same⟩, frD_shaped _, frD_shaped _, _, rfl, ?_⟩
      rw [eqv_fr]
      by_cases hh : fz ss i = (1, 1)
      · rw [decide_eq_true hh]
        exact iteT ⟨_, rfl, k1 _ _ su (fun _ _ => True.intro) (by rw [if_pos (decide_eq_true hh)]; simp)⟩
      · rw [decide_eq_false hh]
        exact iteF (k2 _ su (by rw [if_neg (by simp [hh])]))
    have e3 := e1.trans e2
    refine ⟨D, _, rfl, .inl (SqL.of hD), ?_⟩
    have hl1 : zs.length = ss.countP fun p => decide (p = (1, 1)) := by
      rw [hz.1, hxs.1]
      exact count_outs (fun p => decide (p = (1, 1))) ss
    refine ⟨_, rfl, b, rfl, ⟨_, SqL.of (e2 _ _ hb)⟩, fun D2 nD2 => lcE rel_same (R := fun _ _ (_ : Int × Int) => True) (walk_list (xs := xs)) (fun k => if (!decide (fz ss k = (0, 1))) = true then some (fz ss k) else none) nD2 (by rw [hxs.1]; omega)
      (fun H3 e => e.seq (SqL.of (e2 _ _ hb))) (fun i H2 x H3 e y => by rw [y.1]; exact Same.refl _) (fun _ _ _ _ _ _ r => r) (fun _ _ _ _ _ _ r => r) (fun i x H3 H4 acc C hi e3 e4 hD y k1 k2 => ?_) (fun H3 ws hD2 e4 hz2 => ?_)⟩
    · obtain ⟨rfl, gx⟩ := y
      have hi' : i < ss.length := by
        rw [hxs.1] at hi
        exact hi
      obtain ⟨t, et, ht⟩ := fr_at (hxs.imp fun v p r => r.mono rel_same (e2.trans e4)) hi'
      rw [gx] at et
      cases et
      refine ⟨rfl, _, rfl, by show 2 ≤ sizeLine; decide, fun u nu => ?_⟩
      have su := sames nu (o := .tup [.int 0, .int 1])
      refine ⟨_, _, fr_dp ⟨t, rfl, rel_same.sqT su ht⟩, fr_dp (p := (0, 1)) ⟨u, rfl, SqT.of upd_same⟩, frD_shaped _, frD_shaped _, _, rfl, ?_⟩
      rw [eqv_fr]
      by_cases hh : fz ss i = (0, 1)
      · rw [decide_eq_true hh]
        exact iteF (k2 _ su (by rw [if_neg (by simp [hh])]))
      · rw [decide_eq_false hh]
        exact iteT ⟨_, rfl, k1 _ _ su (fun _ _ => True.intro) (by rw [if_pos (by simp [hh])]; simp)⟩
    have hl2 : ws.length = ss.countP fun p => !decide (p = (0, 1)) := by
      rw [hz2.1, hxs.1]
      exact count_outs (fun p => !decide (p = (0, 1))) ss
    refine ⟨D2, _, rfl, .inl (SqL.of hD2), by show 2 ≤ sizeLine; decide, fun p hp => ?_⟩
    refine q ss hw p _ ((e3.trans e4).trans (sames hp)) ?_
    rw [upd_same, hl1, hl2]
theorem ok_Loose_matrix (F : FnP K "matrix" "Loose.matrix" s_Loose_matrix f fd) (c1 : Cls K CL) (n1 : NoAttr K CL "many") (C_wished_of : Cal P w K mg base 4 "wished_of" (spWishedOf K)) (C_times : Cal P w K mg base 3 "times" (spTimes K)) (m_enumerate : mg "enumerate" = none) : FnOk P w K mg base CX0 5 f fd ["self", "crowd"] (spLooseMatrix K CL) := by
  refine F.ok c_Loose_matrix (fun vs H Q E h => ?_) (fun cdv A outer s H vs Q E hr h => ⟨_, PSs.nox (pss_cons (ps_set (i := 2) c_Loose_matrix.nd rfl (Or.inl rfl) (pe_c C_wished_of hr (by decide) (by rfl) (pa_cons (pv 1) (pa_cons (pe_fld (pv 0) rfl) pa_nil))))
      (pss_cons (ps_set (i := 3) c_Loose_matrix.nd rfl (Or.inl rfl) (pe_lst pa_nil))
      (pss_cons (ps_for PassesOwn.never rfl (pi_enum (by rfl) m_enumerate (pa_cons (pv 2) pa_nil)) (pg_tup rfl (pgs_cons (pg_name (i := 4) c_Loose_matrix.nd rfl (Or.inl rfl)) (pgs_cons (pg_name (i := 5) c_Loose_matrix.nd rfl (Or.inr rfl)) pgs_nil))) (pss_cons (ps_setLc (i := 6) (own := [("other", 7)]) (g := (gName 7)) (tt := tYes) rfl c_Loose_matrix.nd rfl rfl (sw_true rfl rfl rfl (by decide +kernel)) (pi_list (pv 2)) (blkOk_by (own := [("other", 7)]) (N := n_Loose_matrix) (sc := defScope s_Loose_matrix) (by decide +kernel)) (fun _ _ _ _ _ => (pg_name (i := 7) c_Loose_matrix.nd rfl (Or.inl rfl))) (fun _ _ _ _ _ => pts_nil) (fun _ _ _ _ _ => (pe_c C_times hr (by decide) (by rfl) (pa_cons (pv 5) (pa_cons (pv 7) pa_nil)))))
      (pss_cons (ps_asg (pv 5) (pg_sub (pv 6) (pv 4) set_list))
      (pss_one (ps_expr (pe_bm PySem.F.plainAttrs_list PySem.F.slot_list_append PySem.F.type_list_append mt_append (pv 3) (pa_cons (pv 6) pa_nil)))))))
      (pss_one (ps_ret (pv 3)))))), ?_⟩)
  · obtain ⟨x, a, cs, ys, m, rfl, _⟩ := h
    rfl
  · obtain ⟨x, a, cs, ys, m, rfl, ⟨dx, hx⟩, hcr, hsz, h1, h2, q⟩ := h
    refine ⟨_, rfl, _, rfl, x, CL, dx, _, _, rfl, hx, c1, n1, rfl, a, cs, ys, m, rfl, hcr, hsz, h1, h2, fun ss hw b H1 sx nb e1 hb hsx => ?_⟩
    have hok := isW_ok hsz h1 h2 hw
    have hl : ss.length ≤ 24 := by
      rw [isW_len hw]
      exact hsz.1
    have hsl := hsx.1
    refine ⟨Nat.zero_le _, fun o no => ?_⟩
    have hob : b ≠ o := ne_of_none hb no
    refine ⟨_, rfl, b, _, rfl, SqL.of (by rw [upd_ne hob]; exact hb), for_it (walk_enum (xs := sx)) (fun i σ H2 => ∃ (y4 y5 y6 y7 : Option V) (rs : List Addr), σ = [some (.ref x), some (.ref a), some (.ref b), some (.ref o), y4, y5, y6, y7] ∧ Same H1 H2 ∧ H2 o = some (.lst (rs.map V.ref)) ∧ rs.Nodup ∧ o ∉ rs ∧ AllR (RwN K H H2) (rs.map V.ref) ((List.range i).map (bothRow ss)))
      ⟨_, _, _, _, [], rfl, sames no, upd_same, List.nodup_nil, by simp, AllR.nil⟩ (fun i σ H2 _ p => ?_) (fun k x2 σ H2 H3 hk p y => ?_) fun σ H2 p => ?_⟩
    · obtain ⟨y4, y5, y6, y7, rs, rfl, s1, _⟩ := p
      exact SqL.of (s1 _ _ hb)
    · obtain ⟨T, x1, x2, rfl, nT, rfl, g1, gx⟩ := y
      cases g1
      rw [hsl] at hk
      obtain ⟨y4, y5, y6, y7, rs, rfl, s1, ho, nd, nr, hx2⟩ := p
      have sT := sames nT (o := .tup [.int (k : Nat), x2])
      have s1T := s1.trans sT
      have hoT := sT _ _ ho
      obtain ⟨t1, et1, ht1⟩ := fr_at (hsx.imp fun v p r => r.mono rel_same s1T) hk
      rw [show sx[k]? = some x2 from gx] at et1
      cases et1
      refine ⟨T, _, rfl, SqT.of upd_same, rfl, _, _, rfl, _, _, rfl, rfl, ?_⟩
      have hxT := hx2.imp fun v r z => z.mono sT
      generalize upd H2 T (.tup [.int (k : Nat), .ref t1]) = H3 at *
      refine ⟨_, rfl, b, rfl, ⟨_, SqL.of (s1T _ _ hb)⟩, fun D nD => lcE rel_same (R := FrR K) (walk_list (xs := sx)) (fun j => some (lowT (fz ss k) (fz ss j))) nD (by omega)
        (fun H1 e => SqL.of (e _ _ (s1T _ _ hb))) (fun i H3 x H4 e y => by rw [y.1]; exact Same.refl _) (fun _ _ _ _ _ e r => r.mono rel_same e) (fun H v c acc xs hD r => ?_) (fun i x H4 H5 acc C hi e3 e4 hD y k1 k2 => ?_) (fun H4 ws hD s3 hw => ?_)⟩
      · obtain ⟨b, rfl, h⟩ := r
        exact ⟨b, rfl, sqT_mut hD h⟩
      · obtain ⟨rfl, gx⟩ := y
        have hj : i < ss.length := by omega
        obtain ⟨t2, et2, ht2⟩ := fr_at (hsx.imp fun v p r => r.mono rel_same (s1T.trans e4)) hj
        rw [gx] at et2
        cases et2
        have h1 := sh64 (fz_ok hok hk)
        have h2 := sh64 (fz_ok hok hj)
        refine ⟨rfl, _, rfl, _, rfl, t1, t2, fz ss k, fz ss i, rfl, rel_same.sqT e4 ht1, ht2, h1.1, h1.2, h2.2, fun p H5 np s5 hp => ?_⟩
        refine k1 _ _ s5 (fun y hy => ?_) (fun z => by cases z)
        cases hy
        exact ⟨p, rfl, SqT.of hp⟩
      rw [outs_all, hsl] at hw
      have hDo : D ≠ o := (ne_of_none hoT nD).symm
      have nDr : D ∉ rs := fun z => rows_some hxT z nD
      have nDH : H D = none := ((e1.trans s1T) : Same H H3).free nD
      have ht1' := rel_same.sqT s3 ht1
      have hlw : ws.length = ss.length := by rw [hw.1, List.length_map, List.length_range]
      refine ⟨_, rfl, _, rfl, _, rfl, D, _, _, k, rfl, rfl, hD, Evl.ixN_nat (by omega), ?_⟩
      have ho3 : upd H4 D (.lst (ws.set k (.ref t1))) o = some (.lst (rs.map V.ref)) := by
        rw [upd_ne hDo.symm]
        exact s3 _ _ hoT
      have s4 : Same H3 (upd H4 D (.lst (ws.set k (.ref t1)))) := same_mut s3 nD
      have hlx : (rs.map V.ref).length = k := by rw [hx2.1, List.length_map, List.length_range]
      refine ⟨_, rfl, .inl ⟨rfl, _, SqL.of ho3⟩, _, rfl, o, _, _, rfl, rfl, ho3, Nat.lt_of_le_of_lt (show (rs.map V.ref).length ≤ 100 by omega) (by decide), ?_⟩
      have hmu : AllR (FrR K (upd H4 D (.lst (ws.set k (.ref t1))))) ws ((List.range ss.length).map fun j => lowT (fz ss k) (fz ss j)) := hw.imp fun v p ⟨b, e, h⟩ => ⟨b, e, sqT_mut hD h⟩
      obtain ⟨z1, z2, z3⟩ := rows_put (r := bothRow ss k) ho3 nr nd (hxT.imp fun v r z => z.mono s4) ⟨D, _, rfl, nDH, upd_same, hmu.set k ⟨t1, rfl, sqT_mut hD ht1'⟩⟩ hDo nDr
      refine ⟨_, _, _, _, rs ++ [D], rfl, same_mut (s1T.trans s4) no, ?_, z1, z2, ?_⟩
      · rw [List.map_append]
        exact upd_same
      · rw [List.range_succ, List.map_append, List.map_append]
        rw [List.map_append] at z3
        exact z3
    · obtain ⟨y4, y5, y6, y7, rs, rfl, s1, ho, nd, nr, hx2⟩ := p
      rw [hsl] at hx2
      refine ⟨_, rfl, q ss hw o H2 (e1.trans s1) ⟨rs, e1.free no, ho, nd, nr, hx2⟩⟩
/-- the outer comprehension's scope -/
abbrev sc1_Plan_matrix : Scope := { kind := .function, names := [(".0", .local), ("one", .cell), ("range", .globalImplicit), ("len", .globalImplicit), ("crowd", .cell), ("self", .cell)], isGenerator := false, isCoroutine := false }
theorem ok_Plan_matrix (F : FnP K "matrix" "Plan.matrix" s_Plan_matrix f fd) (C_Start_chance : Met P w K mg base 1 CS "chance" (spChance CS)) (m_len : mg "len" = none) (m_range : mg "range" = none) : FnOk P w K mg base CX0 2 f fd ["self", "crowd"] (spStartMatrix K CS) := by
  refine F.ok c_Plan_matrix (fun vs H Q E h => ?_) (fun cdv A outer s H vs Q E hr h => ⟨_, PSs.nox (pss_one (ps_ret (pe_lc (own := [("one", 2)]) (g := (gName 2)) (tt := tYes) rfl c_Plan_matrix.nd (pi_range1 (by rfl) m_range (pa_cons (pe_callB call_len_seq (by rfl) m_len PySem.boot_len (pa_cons (pv 1) pa_nil)) pa_nil)) (blkOk_by (own := [("one", 2)]) (N := n_Plan_matrix) (sc := defScope s_Plan_matrix) (by decide +kernel)) (fun _ _ _ _ _ => (pg_name (i := 2) c_Plan_matrix.nd rfl (Or.inr rfl))) (fun _ _ _ _ _ => pts_nil) (fun _ _ _ _ _ => (pe_lc (own := [("other", 3)]) (g := (gName 3)) (tt := tYes) rfl c_Plan_matrix.nd (pi_range1 (by rfl) m_range (pa_cons (pe_callB (r := rLenQ K) call_len_seq (by rfl) m_len PySem.boot_len (pa_cons (pv 1) pa_nil)) pa_nil)) (blkOk_by (own := [("other", 3)]) (N := n_Plan_matrix) (sc := sc1_Plan_matrix) (by decide +kernel)) (fun _ _ _ _ _ => (pg_name (i := 3) c_Plan_matrix.nd rfl (Or.inl rfl))) (fun _ _ _ _ _ => pts_nil) (fun _ _ _ _ _ => (pe_mt C_Start_chance hr (by decide) (pv 0) (pa_cons (pv 1) (pa_cons (pv 2) (pa_cons (pv 3) pa_nil)))))))))), ?_⟩)
  · obtain ⟨x, a, xs, st, rfl, _⟩ := h
    rfl
  · obtain ⟨x, a, xs, st, rfl, hx, ha, hl, h1, h2, q⟩ := h
    obtain ⟨dx, hx⟩ := hx
    have lenN : (((xs.length : Nat) : Int).toNat) = xs.length := by omega
    refine ⟨_, rfl, a, _, rfl, .inl ha, _, rfl, by omega, by omega, fun D nD => lc_it (walk_range (lo := 0)) (fun i H1 => ∃ rs : List Addr, Same H H1 ∧ H1 D = some (.lst (rs.map V.ref)) ∧ rs.Nodup ∧ D ∉ rs ∧ AllR (RwN K H H1) (rs.map V.ref) ((List.range i).map fun k : Nat => (List.range xs.length).map fun j : Nat => if (j : Int) % st = (k : Int) % st then (1, st) else (0, 1)))
      ⟨[], sames nD, upd_same, List.nodup_nil, by simp, AllR.nil⟩ (fun _ _ _ _ => True.intro) (fun k x2 H1 H2 hk p y => ?_) fun H1 p => ?_⟩
    · obtain ⟨rfl, rfl⟩ := y
      rw [lenN] at hk
      obtain ⟨rs, s1, hD, nd, nr, hx2⟩ := p
      refine ⟨rfl, _, rfl, a, _, rfl, .inl (s1.seq ha), _, rfl, by omega, by omega, fun D2 nD2 => lcE rel_same (R := FrR K) (walk_range (lo := 0)) (fun j : Nat => some (if (j : Int) % st = (k : Int) % st then (1, st) else (0, 1))) nD2 (by omega)
        (fun _ _ => True.intro) (fun i H3 x H4 e y => by rw [y.1]; exact Same.refl _) (fun _ _ _ _ _ e r => r.mono rel_same e) (fun H v c acc xs hD r => ?_) (fun i x3 H3 H4 acc C hi e3 e4 hD2 y k1 k2 => ?_) (fun H3 ws hD2 s3 hw => ?_)⟩
      · obtain ⟨b, rfl, h⟩ := r
        exact ⟨b, rfl, sqT_mut hD h⟩
      · obtain ⟨rfl, rfl⟩ := y
        refine ⟨rfl, _, rfl, x, dx, _, rfl, e4 _ _ (s1 _ _ hx), rfl, _, rfl, _, rfl, _, rfl, x, .ref a, k, i, st, ?_, ⟨dx, (s1.trans e4) _ _ hx⟩, h1, fun p H5 np s5 hp => ?_⟩
        · show [V.ref x, V.ref a, V.int (0 + (k : Int)), V.int (0 + (i : Int))] = _
          rw [Int.zero_add, Int.zero_add]
        · refine k1 _ _ s5 (fun y hy => ?_) (fun z => by cases z)
          cases hy
          refine ⟨p, rfl, SqT.of ?_⟩
          rw [hp]
          by_cases hh : (k : Int) % st = (i : Int) % st
          · rw [if_pos hh, if_pos hh.symm]
            rfl
          · rw [if_neg hh, if_neg fun z => hh z.symm]
            rfl
      rw [outs_all, lenN] at hw
      have hDo : D2 ≠ D := (ne_of_none hD nD2).symm
      have hDH := s3 _ _ hD
      have hlx : (rs.map V.ref).length = k := by rw [hx2.1, List.length_map, List.length_range]
      obtain ⟨z1, z2, z3⟩ := rows_put hDH nr nd (hx2.imp fun v r z => z.mono s3) ⟨D2, _, rfl, s1.free nD2, hD2, hw⟩ hDo (fun z => rows_some hx2 z nD2)
      refine ⟨_, hDH, Nat.lt_of_le_of_lt (show (rs.map V.ref).length ≤ 100 by omega) (by decide), rs ++ [D2], same_mut (s1.trans s3) nD, ?_, z1, z2, ?_⟩
      · rw [List.map_append]
        exact upd_same
      · rw [List.range_succ, List.map_append, List.map_append]
        rw [List.map_append] at z3
        exact z3
    · obtain ⟨rs, s1, hD, nd, nr, hx2⟩ := p
      rw [lenN] at hx2
      exact q D H1 s1 ⟨rs, nD, hD, nd, nr, hx2⟩
end
end Fk
/-! C1: lambdas kept in data: start_part, loose_die. -/
namespace Fk
open PySem PySem.Spec PyProof.Rows L2 LamX
/-! ### the lambdas' texts -/
def lamP (e : Expr) : Arguments := match e with
  | .Lambda ps _ _ _ => ps
  | _ => defArgs s_divisor
def lamB (e : Expr) : Expr := match e with
  | .Lambda _ b _ _ => b
  | e => e
def lamS (e : Expr) : Scope := match e with
  | .Lambda _ _ s _ => s
  | _ => defScope s_divisor
def tupE (i : Nat) (e : Expr) : Expr := match e with
  | .Tuple es _ _ => es.getD i e
  | e => e
def valE (s : Stmt) : Expr := match s with
  | .Return (some e) _ => e
  | .Assign _ e _ => e
  | _ => .Name "x" ⟨0, 0, 0, 0⟩
abbrev l_start : Expr := tupE 1 (valE ((defBody s_start_part).getD 0 (.Pass ⟨0, 0, 0, 0⟩)))
abbrev l_one : Expr := tupE 1 (valE ((defBody s_loose_die).getD 1 (.Pass ⟨0, 0, 0, 0⟩)))
abbrev l_two : Expr := tupE 1 (valE ((defBody s_loose_die).getD 2 (.Pass ⟨0, 0, 0, 0⟩)))
abbrev q_start : Str := ("start_part" : Str) ++ ".<locals>." ++ "<lambda>"
abbrev q_loose : Str := ("loose_die" : Str) ++ ".<locals>." ++ "<lambda>"
abbrev N_start : List Str := ["at", "places", "step"]
abbrev N_loose : List Str := ["kept", "places", "shares"]
theorem L_start : LScope N_start (lamS l_start) := ⟨rfl, rfl, rfl, by decide +kernel, by decide +kernel⟩
theorem L_one : LScope N_loose (lamS l_one) := ⟨rfl, rfl, rfl, by decide +kernel, by decide +kernel⟩
theorem L_two : LScope N_loose (lamS l_two) := ⟨rfl, rfl, rfl, by decide +kernel, by decide +kernel⟩
/-! ### the cells told at the maker's end -/
theorem lookup_of_mem {α : Type} : ∀ {l : List (Str × α)} {x : Str} {c : α}, (x, c) ∈ l → ∃ d, l.lookup x = some d
  | (y, e) :: l, x, c, h => by
    rw [List.lookup_cons]
    cases hb : x == y with
    | true => exact ⟨e, rfl⟩
    | false =>
      rcases List.mem_cons.mp h with z | z
      · cases z
        simp at hb
      · exact lookup_of_mem z
theorem cells_of {n : Nat} {sc lsc : Scope} {N NL : List Str} {σ : L2.St} {H3 : Hp} {vs : List V}
    (tell : ∀ (i : Nat) (x : Str) (c : Addr) (v : V), N[i]? = some x → sc.names.lookup x = some .cell → (cellsFrom (n + 1) sc.names []).lookup x = some c → σ[i]? = some (some v) → H3 c = some (CellO c v))
    (hl : vs.length = NL.length) (hs : ∀ (i : Nat) (x : Str) (v : V), NL[i]? = some x → vs[i]? = some v → ∃ j : Nat, N[j]? = some x ∧ σ[j]? = some (some v))
    (hk : ∀ x ∈ NL, (x, NameKind.free) ∈ lsc.names ∧ sc.names.lookup x = some .cell) (hall : ∀ y ∈ lsc.names, y.2 = .free → y.1 ∈ NL) :
    Cells H3 (cloFrom (cellsFrom (n + 1) sc.names []) lsc.names []) NL vs := by
  have cell : ∀ x ∈ NL, ∃ c, (cellsFrom (n + 1) sc.names []).lookup x = some c := fun x hx => by
    have := PySem.W.cellsFrom_some sc.names (n + 1) [] (.inl (hk x hx).2)
    exact Option.isSome_iff_exists.mp this
  have inCl : ∀ x c, (cloFrom (cellsFrom (n + 1) sc.names []) lsc.names []).lookup x = some c → x ∈ NL ∧ (cellsFrom (n + 1) sc.names []).lookup x = some c := fun x c e => by
    rcases cloFrom_mem (PySem.mem_of_lookup e) with z | ⟨z1, z2⟩
    · cases z
    · have hx := hall _ z1 rfl
      obtain ⟨d, hd⟩ := cell x hx
      refine ⟨hx, ?_⟩
      rw [z2, hd]
      rfl
  have look : ∀ x ∈ NL, ∃ c, (cloFrom (cellsFrom (n + 1) sc.names []) lsc.names []).lookup x = some c := fun x hx => lookup_of_mem (cloFrom_has (hk x hx).1)
  refine ⟨hl, fun i x v e1 e2 => ?_, fun x c e => ?_, fun x y c e1 e2 => ?_⟩
  · obtain ⟨c, hc⟩ := look x (List.mem_of_getElem? e1)
    obtain ⟨hx, hc2⟩ := inCl x c hc
    obtain ⟨j, h1, h2⟩ := hs i x v e1 e2
    exact ⟨c, hc, tell j x c v h1 (hk x hx).2 hc2 h2⟩
  · obtain ⟨hx, hc2⟩ := inCl x c e
    obtain ⟨i, hi, ei⟩ := List.mem_iff_getElem.mp hx
    have e1 : NL[i]? = some x := by rw [List.getElem?_eq_getElem hi, ei]
    have hv : i < vs.length := by rw [hl]; exact hi
    obtain ⟨j, h1, h2⟩ := hs i x vs[i] e1 (List.getElem?_eq_getElem hv)
    exact ⟨_, tell j x c _ h1 (hk x hx).2 hc2 h2⟩
  · obtain ⟨h, eh⟩ := heap_sized (n + 1)
    have z1 := PySem.mem_of_lookup (inCl x c e1).2
    have z2 := PySem.mem_of_lookup (inCl y c e2).2
    rw [← eh] at z1 z2
    exact cells_inj (fun p hp => absurd hp (by simp)) (fun x y c a _ => absurd a (by simp)) z1 z2
theorem hfree_by {env : Env} {lsc sc : Scope} (h : ∀ y ∈ lsc.names, y.2 = .free → sc.names.lookup y.1 = some .cell) (e : env.scope = sc := by rfl) : ∀ y ∈ lsc.names, y.2 = .free → env.kindOf y.1 = some .cell := by
  subst e
  exact h
/-- what the making of a def's lambdas asks -/
def LamFor (T : List (Addr × Str)) (mg : Str → Option Value) (base : Heap) (fd : FuncData) (q : Str) : Prop := ∃ c P, fd.code = .ref c ∧ TabB base mg c P ∧ (P, q) ∈ T ∧ ∀ p ∈ T, p.1 = P → p.2 = q
def StartClo (H : Hp) (f : Addr) (t st : Int) (a : Addr) : Prop := CloAt H f q_start (lamP l_start) (lamB l_start) (lamS l_start) N_start [.int t, .ref a, .int st]
def OneClo (H : Hp) (f k p s : Addr) : Prop := CloAt H f q_loose (lamP l_one) (lamB l_one) (lamS l_one) N_loose [.ref k, .ref p, .ref s]
def TwoClo (H : Hp) (f k p s : Addr) : Prop := CloAt H f q_loose (lamP l_two) (lamB l_two) (lamS l_two) N_loose [.ref k, .ref p, .ref s]
theorem Cells.mono {E : Hp → Hp → Prop} (R : Rel E) {H H' : Hp} {cl : List (Str × Addr)} {N : List Str} {vs : List V} (e : E H H') (C : Cells H cl N vs) : Cells H' cl N vs :=
  ⟨C.len, fun i x v e1 e2 => by
    obtain ⟨c, h1, h2⟩ := C.at_ i x v e1 e2
    exact ⟨c, h1, R.keep e h2 fun t z => cell_ntab t z⟩, fun x c h => by
    obtain ⟨v, h2⟩ := C.all x c h
    exact ⟨v, R.keep e h2 fun t z => cell_ntab t z⟩, C.inj⟩
theorem CloAt.mono {E : Hp → Hp → Prop} (R : Rel E) {H H' : Hp} {f : Addr} {q : Str} {ps : Arguments} {bd : Expr} {sc : Scope} {N : List Str} {vs : List V} (e : E H H') (C : CloAt H f q ps bd sc N vs) : CloAt H' f q ps bd sc N vs := by
  obtain ⟨cl, cc, h1, h2, h3⟩ := C
  exact ⟨cl, cc, R.keep e h1 fun t z => clo_ntab t z, R.keep e h2 (fun t z => by unfold CodeO at z; cases z), h3.mono R e⟩
def spStartPart (T : List (Addr × Str)) : Sp := fun vs H Q _ => ∃ (a : Addr) (st t : Int), vs = [.ref a, .int st, .int t] ∧ Tabs T H ∧
  ∀ p f H2, Xt T H H2 → H2 p = some (.tup [.int 1, .ref f]) → StartClo H2 f t st a → Q (.ref p) H2
def spLooseDie (K : PySem.W.Frag) (T : List (Addr × Str)) (CD : Addr) : Sp := fun vs H Q _ => ∃ (p s k : Addr) (t b : Int) (ss : List (Int × Int)), vs = [.ref p, .ref s, .ref k] ∧ Tabs T H ∧ FrLs K H s ((t, b) :: ss) ∧
  ∀ x dx w w1 w2 f1 f2 H2, Xt T H H2 → H2 x = some (.ins CD dx [("ways", .ref w)]) → SqT K H2 w [.ref w1, .ref w2] → SqT K H2 w1 [.int t, .ref f1] → SqT K H2 w2 [.int (b - t), .ref f2] → OneClo H2 f1 k p s → TwoClo H2 f2 k p s → Q (.ref x) H2
section
variable {P : Program} {w : World} {K : PySem.W.Frag} {mg : Str → Option Value} {base : Heap} {f : Addr} {fd : FuncData} {CT CD CS CL : Addr} {T : List (Addr × Str)}
theorem ok_start_part (F : FnP K "start_part" "start_part" s_start_part f fd) (hT : LamFor T mg base fd q_start) : FnOk P w K mg base CX0 1 f fd ["places", "step", "at"] (spStartPart T) := by
  refine fn_cells F c_start_part (fun vs H Q E h => ?_) fun cdv A outer s H vs Q E hcd hlk hr h => ?_
  · obtain ⟨a, st, t, rfl, _⟩ := h
    rfl
  · obtain ⟨c, P', hc, TB, hm, hu⟩ := hT
    have hcode : cdv = .ref c := by
      obtain ⟨oc, od, osl, lk, e⟩ := hlk
      rw [← e]
      exact hc
    subst hcode
    refine ⟨_, pr_last (pe_tup (pa_cons pe_int (pa_cons (pe_lm (T := T) TB rfl hm hu rfl (by
      have h : ∀ y ∈ (lamS l_start).names, y.2 = .free → (defScope s_start_part).names.lookup y.1 = some .cell := by decide +kernel
      exact h)) pa_nil))), ?_⟩
    obtain ⟨a, st, t, rfl, hTab, q⟩ := h
    refine ⟨hTab, fun g cc H1 e1 t1 n1 g1 c1 => ⟨by show 2 ≤ sizeLine; decide, fun p np => ?_⟩⟩
    intro H3 e3 tell
    have s2 := sames np (o := .tup [.int 1, .ref g])
    have s13 : Same H1 H3 := s2.trans e3
    refine q p g H3 (Xt.trans ⟨e1, fun _ => t1⟩ (Xt.of s13)) (e3 _ _ upd_same) ⟨_, cc, s13 _ _ g1, s13 _ _ c1, cells_of tell rfl (fun i x v h1 h2 => ?_) (by decide +kernel) (by decide +kernel)⟩
    match i with
    | 0 =>
      cases h1
      cases h2
      exact ⟨2, rfl, rfl⟩
    | 1 =>
      cases h1
      cases h2
      exact ⟨0, rfl, rfl⟩
    | 2 =>
      cases h1
      cases h2
      exact ⟨1, rfl, rfl⟩
    | i + 3 => cases h1
theorem ok_loose_die (F : FnP K "loose_die" "loose_die" s_loose_die f fd) (hT : LamFor T mg base fd q_loose) (C_Die : Mak P w K mg base 1 "Die" CD (spDieInit K CD)) : FnOk P w K mg base CX0 3 f fd ["places", "shares", "kept"] (spLooseDie K T CD) := by
  refine fn_cells F c_loose_die (fun vs H Q E h => ?_) fun cdv A outer s H vs Q E hcd hlk hr h => ?_
  · obtain ⟨p, ss, k, t, b, r, rfl, _⟩ := h
    rfl
  · obtain ⟨c, P', hc, TB, hm, hu⟩ := hT
    have hcode : cdv = .ref c := by
      obtain ⟨oc, od, osl, lk, e⟩ := hlk
      rw [← e]
      exact hc
    subst hcode
    refine ⟨_, (pr_cons (ps_asg (pe_ix ix_list (pv 1) pe_int (fun _ _ => rfl)) (pg_tup rfl (pgs_cons (pg_name (i := 3) c_loose_die.nd rfl (Or.inl rfl)) (pgs_cons (pg_name (i := 4) c_loose_die.nd rfl (Or.inl rfl)) pgs_nil))))
      (pr_cons (ps_set (i := 5) c_loose_die.nd rfl (Or.inl rfl) (pe_tup (pa_cons (pv 3) (pa_cons (pe_lm (T := T) TB rfl hm hu rfl (hfree_by (sc := defScope s_loose_die) (by decide +kernel))) pa_nil))))
      (pr_cons (ps_set (i := 6) c_loose_die.nd rfl (Or.inl rfl) (pe_tup (pa_cons (pe_op op_sub (pv 4) (pv 3)) (pa_cons (pe_lm (T := T) TB rfl hm hu rfl (hfree_by (sc := defScope s_loose_die) (by decide +kernel))) pa_nil))))
      (pr_last (pe_mk C_Die hr (by decide) (by rfl) (pa_cons (pe_lst (pa_cons (pv 5) (pa_cons (pv 6) pa_nil))) pa_nil)))))), ?_⟩
    obtain ⟨p, sh, k, t, b, r, rfl, hTab, ⟨sx, hS, hsx⟩, q⟩ := h
    obtain ⟨t0, et0, ht0⟩ := fr_at hsx (k := 0) (by simp)
    have ht0 : SqT K H t0 [.int t, .int b] := ht0
    refine ⟨_, rfl, sh, _, _, _, rfl, rfl, hS, at_of (j := 0) rfl et0, t0, _, rfl, ht0, rfl, _, _, rfl, _, _, rfl, rfl, ?_⟩
    refine ⟨_, rfl, hTab, fun g1 cc1 H1 e1 t1 n1 gg1 c1 => ⟨by show 2 ≤ sizeLine; decide, fun w1 nw1 => ?_⟩⟩
    have sw1 := sames nw1 (o := .tup [.int t, .ref g1])
    refine ⟨_, rfl, _, rfl, _, _, rfl, rfl, t1.ext sw1, fun g2 cc2 H2 e2 t2 n2 gg2 c2 => ⟨by show 2 ≤ sizeLine; decide, fun w2 nw2 => ?_⟩⟩
    have sw2 := sames nw2 (o := .tup [.int (b - t), .ref g2])
    have x1 : Xt T H (upd H1 w1 (.tup [.int t, .ref g1])) := Xt.trans ⟨e1, fun _ => t1⟩ (Xt.of sw1)
    have x2 : Xt T (upd H1 w1 (.tup [.int t, .ref g1])) (upd H2 w2 (.tup [.int (b - t), .ref g2])) := Xt.trans ⟨e2, fun _ => t2⟩ (Xt.of sw2)
    have RX := rel_xt T
    have hw1 : upd H2 w2 (.tup [.int (b - t), .ref g2]) w1 = some (.tup [.int t, .ref g1]) := RX.keep x2 upd_same fun _ z => nomatch z
    have hw2 : upd H2 w2 (.tup [.int (b - t), .ref g2]) w2 = some (.tup [.int (b - t), .ref g2]) := upd_same
    have hg1 := RX.keep x2 (sw1 _ _ gg1) fun t z => clo_ntab t z
    have hc1 := RX.keep x2 (sw1 _ _ c1) (fun t z => by unfold CodeO at z; cases z)
    have hg2 := sw2 _ _ gg2
    have hc2 := sw2 _ _ c2
    have x12 := x1.trans x2
    generalize upd H2 w2 (.tup [.int (b - t), .ref g2]) = Hm at *
    refine ⟨_, rfl, _, rfl, by show 2 ≤ sizeLine; decide, fun l nl x dx nx ndx ne => ?_⟩
    have hlx : l ≠ x := ne_of_none upd_same nx
    have hldx : l ≠ dx := ne_of_none upd_same ndx
    have sl := sames nl (o := .lst [.ref w1, .ref w2])
    refine ⟨x, dx, l, _, rfl, upd_same, SqL.of (by rw [upd_ne hlx, upd_ne hldx]; exact upd_same), fun H' w keep hx hw => ⟨rfl, fun H3 e3 tell => ?_⟩⟩
    have nxm : Hm x = none := by
      cases e : Hm x with
      | none => rfl
      | some o =>
        rw [sl _ _ e] at nx
        cases nx
    have ndm : Hm dx = none := by
      cases e : Hm dx with
      | none => rfl
      | some o =>
        rw [sl _ _ e] at ndx
        cases ndx
    have s3 : Same Hm H3 := fun a o e => by
      have a1 : a ≠ x := ne_of_none e nxm
      have a2 : a ≠ dx := ne_of_none e ndm
      refine e3 _ _ (keep _ _ ?_ a1)
      rw [upd_ne a1, upd_ne a2]
      exact sl _ _ e
    have cells : ∀ lsc : Scope, (∀ x ∈ N_loose, (x, NameKind.free) ∈ lsc.names ∧ (defScope s_loose_die).names.lookup x = some .cell) → (∀ y ∈ lsc.names, y.2 = .free → y.1 ∈ N_loose) →
        Cells H3 (cloFrom (cellsFrom (s.heap.objs.size + 1) (defScope s_loose_die).names []) lsc.names []) N_loose [.ref k, .ref p, .ref sh] := fun lsc h1 h2 => cells_of tell rfl (fun i x v h1 h2 => by
      match i with
      | 0 =>
        cases h1
        cases h2
        exact ⟨2, rfl, rfl⟩
      | 1 =>
        cases h1
        cases h2
        exact ⟨0, rfl, rfl⟩
      | 2 =>
        cases h1
        cases h2
        exact ⟨1, rfl, rfl⟩
      | i + 3 => cases h1) h1 h2
    exact q x dx w w1 w2 g1 g2 H3 (x12.trans (Xt.of s3)) (e3 _ _ hx) (rel_same.sqT e3 hw) (SqT.of (s3 _ _ hw1)) (SqT.of (s3 _ _ hw2)) ⟨_, cc1, s3 _ _ hg1, s3 _ _ hc1, cells _ (by decide +kernel) (by decide +kernel)⟩ ⟨_, cc2, s3 _ _ hg2, s3 _ _ hc2, cells _ (by decide +kernel) (by decide +kernel)⟩
end
end Fk
/-! C2: the nodes as plain data; loose_node. -/
namespace Fk
open PySem PySem.Spec PyProof.Rows L2 LamX
/-! ### nodes -/
inductive Nd where
  | told (ks : List Int)
  | strt (ps : List Int) (st : Int)
  | opn (ps : List Int) (t b : Int) (r : List (Int × Int)) (ks : List Int)
def looseN : List Int → List (Int × Int) → List Int → Nd
  | _, [], ks => .told ks
  | ps, (t, b) :: r, ks => if 0 < t ∧ t < b then .opn ps t b r ks else looseN (ps.drop 1) r (if 0 < t then ks ++ ps.take 1 else ks)
def startN (ps : List Int) (st : Int) : Nd := if st = 1 ∨ ps = [] then .told ps else .strt ps st
def ways : Nd → List (Int × Nd)
  | .told _ => []
  | .strt ps st => (List.range st.toNat).map fun t : Nat => (1, .told (pickM ps st t))
  | .opn ps t b r ks => [(t, looseN (ps.drop 1) r (ks ++ ps.take 1)), (b - t, looseN (ps.drop 1) r ks)]
/-- the three lists that a loose node's lambda holds -/
def LArg (ok : Addr → Prop) (K : PySem.W.Frag) (H : Hp) (k p s : Addr) (ks ps : List Int) (ss : List (Int × Int)) : Prop :=
  ok k ∧ ok p ∧ ok s ∧ H k = some (.lst (ks.map V.int)) ∧ H p = some (.lst (ps.map V.int)) ∧ FrLs K H s ss ∧ ps.length = ss.length ∧ ks.length + ps.length ≤ 24 ∧ ∀ q ∈ ss, ShOk q
def StartY (ok : Addr → Prop) (H : Hp) (f : Addr) (n : Nd) : Prop := ∃ (a : Addr) (t : Nat) (st : Int) (ps : List Int), StartClo H f t st a ∧ ok a ∧ H a = some (.lst (ps.map V.int)) ∧ ps.length ≤ 24 ∧ (t : Int) < st ∧ st ≤ 100 ∧ n = .told (pickM ps st t)
def OneY (ok : Addr → Prop) (K : PySem.W.Frag) (H : Hp) (f : Addr) (n : Nd) : Prop := ∃ k p s ks ps ss, OneClo H f k p s ∧ LArg ok K H k p s ks ps ss ∧ 0 < ps.length ∧ n = looseN (ps.drop 1) (ss.drop 1) (ks ++ ps.take 1)
def TwoY (ok : Addr → Prop) (K : PySem.W.Frag) (H : Hp) (f : Addr) (n : Nd) : Prop := ∃ k p s ks ps ss, TwoClo H f k p s ∧ LArg ok K H k p s ks ps ss ∧ 0 < ps.length ∧ n = looseN (ps.drop 1) (ss.drop 1) ks
def WayR (ok : Addr → Prop) (K : PySem.W.Frag) (H : Hp) (v : V) (y : Int × Nd) : Prop := ∃ a f, v = .ref a ∧ SqT K H a [.int y.1, .ref f] ∧ (StartY ok H f y.2 ∨ OneY ok K H f y.2 ∨ TwoY ok K H f y.2)
def DieR (ok : Addr → Prop) (K : PySem.W.Frag) (CD : Addr) (H : Hp) (v : V) (wl : List (Int × Nd)) : Prop := ∃ x dx w ws, v = .ref x ∧ H x = some (.ins CD dx [("ways", .ref w)]) ∧ SqT K H w ws ∧ AllR (WayR ok K H) ws wl
def NodeR (ok : Addr → Prop) (K : PySem.W.Frag) (CT CD : Addr) (H : Hp) (v : V) : Nd → Prop
  | .told ks => NodeT K CT H v (srt ks)
  | .strt ps st => DieR ok K CD H v (ways (.strt ps st))
  | .opn ps t b r ks => DieR ok K CD H v (ways (.opn ps t b r ks))
/-! what stays -/
section
variable {E : Hp → Hp → Prop} {K : PySem.W.Frag} {H H' : Hp} {ok ok' : Addr → Prop} {CT CD : Addr} {v : V} {f k p s : Addr} {ks ps : List Int} {ss : List (Int × Int)} {n : Nd}
theorem LArg.mono (R : Rel E) (e : E H H') (i : ∀ l, ok l → ok' l) (h : LArg ok K H k p s ks ps ss) : LArg ok' K H' k p s ks ps ss :=
  ⟨i _ h.1, i _ h.2.1, i _ h.2.2.1, R.keep e h.2.2.2.1 (fun _ z => nomatch z), R.keep e h.2.2.2.2.1 (fun _ z => nomatch z), h.2.2.2.2.2.1.mono R e, h.2.2.2.2.2.2⟩
theorem StartY.mono (R : Rel E) (e : E H H') (i : ∀ l, ok l → ok' l) (h : StartY ok H f n) : StartY ok' H' f n := by
  obtain ⟨a, t, st, ps, h1, h2, h3, h4⟩ := h
  exact ⟨a, t, st, ps, CloAt.mono R e h1, i _ h2, R.keep e h3 (fun _ z => nomatch z), h4⟩
theorem OneY.mono (R : Rel E) (e : E H H') (i : ∀ l, ok l → ok' l) (h : OneY ok K H f n) : OneY ok' K H' f n := by
  obtain ⟨k, p, s, ks, ps, ss, h1, h2, h3⟩ := h
  exact ⟨k, p, s, ks, ps, ss, CloAt.mono R e h1, h2.mono R e i, h3⟩
theorem TwoY.mono (R : Rel E) (e : E H H') (i : ∀ l, ok l → ok' l) (h : TwoY ok K H f n) : TwoY ok' K H' f n := by
  obtain ⟨k, p, s, ks, ps, ss, h1, h2, h3⟩ := h
  exact ⟨k, p, s, ks, ps, ss, CloAt.mono R e h1, h2.mono R e i, h3⟩
theorem WayR.mono (R : Rel E) (e : E H H') (i : ∀ l, ok l → ok' l) {y : Int × Nd} (h : WayR ok K H v y) : WayR ok' K H' v y := by
  obtain ⟨a, f, rfl, h1, h2⟩ := h
  exact ⟨a, f, rfl, R.sqT e h1, h2.imp (fun z => z.mono R e i) fun z => z.imp (fun z => z.mono R e i) fun z => z.mono R e i⟩
theorem DieR.mono (R : Rel E) (e : E H H') (i : ∀ l, ok l → ok' l) {wl : List (Int × Nd)} (h : DieR ok K CD H v wl) : DieR ok' K CD H' v wl := by
  obtain ⟨x, dx, w, ws, rfl, h1, h2, h3⟩ := h
  exact ⟨x, dx, w, ws, rfl, R.keep e h1 (fun _ z => nomatch z), R.sqT e h2, h3.imp fun v y z => z.mono R e i⟩
theorem NodeR.mono (R : Rel E) (e : E H H') (i : ∀ l, ok l → ok' l) (h : NodeR ok K CT CD H v n) : NodeR ok' K CT CD H' v n := by
  cases n with
  | told ks => exact NodeT.mono R e h
  | strt ps st => exact DieR.mono R e i h
  | opn ps t b r ks => exact DieR.mono R e i h
/-! a list that no node holds is changed -/
theorem CloAt.chg {o : Addr} {acc ys : List V} {q : Str} {pa : Arguments} {bd : Expr} {sc : Scope} {N : List Str} {vs : List V} (ho : H o = some (.lst acc)) (C : CloAt H f q pa bd sc N vs) : CloAt (upd H o (.lst ys)) f q pa bd sc N vs := by
  obtain ⟨cl, cc, h1, h2, h3⟩ := C
  have kp : ∀ b x, H b = some x → (∀ ps, x ≠ .lst ps) → upd H o (.lst ys) b = some x := fun b x e n => by
    by_cases hb : b = o
    · subst hb
      rw [ho] at e
      exact absurd (Option.some.inj e).symm (n _)
    · rw [upd_ne hb]
      exact e
  have nc : ∀ (c : Addr) (v : V) ps, CellO c v ≠ .lst ps := fun c v ps z => by
    unfold CellO at z
    cases z
  refine ⟨cl, cc, kp _ _ h1 (fun ps z => ?_), kp _ _ h2 (fun ps z => ?_), h3.len, fun i x v e1 e2 => ?_, fun x c e => ?_, h3.inj⟩
  · unfold CloO at z
    cases z
  · unfold CodeO at z
    cases z
  · obtain ⟨c, z1, z2⟩ := h3.at_ i x v e1 e2
    exact ⟨c, z1, kp _ _ z2 (nc c v)⟩
  · obtain ⟨v, z⟩ := h3.all x c e
    exact ⟨v, kp _ _ z (nc c v)⟩
theorem NodeR.chg {o : Addr} {acc ys : List V} (ho : H o = some (.lst acc)) (n0 : ∀ l, ok l → l ≠ o) (h : NodeR ok K CT CD H v n) : NodeR ok K CT CD (upd H o (.lst ys)) v n := by
  have kp : ∀ b x, H b = some x → b ≠ o → upd H o (.lst ys) b = some x := fun b x e n => by
    rw [upd_ne n]
    exact e
  have ins : ∀ b C dx fs, H b = some (.ins C dx fs) → b ≠ o := fun b C dx fs e z => by
    subst z
    rw [ho] at e
    cases e
  have la : ∀ {k p s ks ps ss}, LArg ok K H k p s ks ps ss → LArg ok K (upd H o (.lst ys)) k p s ks ps ss := fun h => by
    obtain ⟨h1, h2, h3, h4, h5, ⟨xs, h6, h7⟩, h8⟩ := h
    exact ⟨h1, h2, h3, kp _ _ h4 (n0 _ h1), kp _ _ h5 (n0 _ h2), ⟨xs, sqL_mut ho (n0 _ h3) h6, h7.imp fun v p ⟨b, e, z⟩ => ⟨b, e, sqT_mut ho z⟩⟩, h8⟩
  have die : ∀ wl, DieR ok K CD H v wl → DieR ok K CD (upd H o (.lst ys)) v wl := fun wl h => by
    obtain ⟨x, dx, w, ws, rfl, h1, h2, h3⟩ := h
    refine ⟨x, dx, w, ws, rfl, kp _ _ h1 (ins _ _ _ _ h1), sqT_mut ho h2, h3.imp fun v y z => ?_⟩
    obtain ⟨a, f, rfl, z1, z2⟩ := z
    refine ⟨a, f, rfl, sqT_mut ho z1, ?_⟩
    rcases z2 with ⟨a, t, st, ps, g1, g2, g3, g4⟩ | ⟨k, p, s, ks, ps, ss, g1, g2, g3⟩ | ⟨k, p, s, ks, ps, ss, g1, g2, g3⟩
    · exact .inl ⟨a, t, st, ps, CloAt.chg ho g1, g2, kp _ _ g3 (n0 _ g2), g4⟩
    · exact .inr (.inl ⟨k, p, s, ks, ps, ss, CloAt.chg ho g1, la g2, g3⟩)
    · exact .inr (.inr ⟨k, p, s, ks, ps, ss, CloAt.chg ho g1, la g2, g3⟩)
  cases n with
  | told ks =>
    obtain ⟨x, dx, t, rfl, h1, h2⟩ := h
    exact ⟨x, dx, t, rfl, kp _ _ h1 (ins _ _ _ _ h1), sqT_mut ho h2⟩
  | strt ps st => exact die _ h
  | opn ps t b r ks => exact die _ h
end
/-! ### slices -/
theorem cut_from {zs : List V} {i : Nat} (h : i ≤ zs.length) : cutV zs (some (i : Int)) none = zs.drop i := by
  unfold cutV
  rw [HT.sIx_nat, HT.sIx_none, Nat.min_eq_left h]
  exact List.take_of_length_le (by rw [List.length_drop]; omega)
theorem cut_to {zs : List V} {i : Nat} (h : i ≤ zs.length) : cutV zs none (some (i : Int)) = zs.take i := by
  unfold cutV
  rw [HT.sIx_nat, HT.sIx_none, Nat.min_eq_left h]
  rfl
theorem cut_one {zs : List V} {i : Nat} (h : i < zs.length) : cutV zs (some (i : Int)) (some ((i : Int) + 1)) = (zs.drop i).take 1 := by
  unfold cutV
  rw [show (i : Int) + 1 = ((i + 1 : Nat) : Int) by omega, HT.sIx_nat, HT.sIx_nat, Nat.min_eq_left (Nat.le_of_lt h), Nat.min_eq_left h]
  congr 1
  omega
def Wl (K : PySem.W.Frag) (k p sh : Addr) (ks ps : List Int) (ss : List (Int × Int)) (H : Hp) (m : Nat) (σ : L2.St) (H1 : Hp) : Prop := ∃ (i : Nat) (k' : Addr) (ks' : List Int), σ = [some (.ref p), some (.ref sh), some (.ref k'), some (.int i)] ∧ m = ps.length - i ∧ i ≤ ps.length ∧ Same H H1 ∧ (H k' = none ∨ k' = k) ∧
  H1 k' = some (.lst (ks'.map V.int)) ∧ ks'.length + (ps.length - i) ≤ 24 ∧ looseN (ps.drop i) (ss.drop i) ks' = looseN ps ss ks
def spLooseNode (K : PySem.W.Frag) (T : List (Addr × Str)) (CT CD : Addr) : Sp := fun vs H Q _ => ∃ (k p s : Addr) (ks ps : List Int) (ss : List (Int × Int)), vs = [.ref p, .ref s, .ref k] ∧ LArg (fun _ => True) K H k p s ks ps ss ∧ Tabs T H ∧
  ∀ x H2, Xt T H H2 → NodeR (fun l => H l = none ∨ l = k) K CT CD H2 (.ref x) (looseN ps ss ks) → Q (.ref x) H2
theorem make_told {K : PySem.W.Frag} {CT k : Addr} {H : Hp} {ks : List Int} {Q : VK} {E : XK} (hk : SqL K H k (ks.map V.int)) (hl : ks.length < 64) (q : ∀ x H', Same H H' → NodeT K CT H' (.ref x) (srt ks) → Q (.ref x) H') :
    ∀ x dx, H x = none → H dx = none → dx ≠ x → spToldInit K CT (.ref x :: ([.ref k] ++ [])) (upd (upd H dx (.own x)) x (.ins CT dx [])) (fun v H2 => v = .non ∧ Q (.ref x) H2) E := fun x dx nx nd ne => by
  have s0 : Same H (upd (upd H dx (.own x)) x (.ins CT dx [])) := fun b o e => by
    rw [upd_ne (ne_of_none e nx), upd_ne (ne_of_none e nd)]
    exact e
  refine ⟨x, dx, k, ks, rfl, upd_same, s0.seq hk, hl, fun H' t keep hx ht => ⟨rfl, q x H' (fun b o e => keep b o (s0 _ _ e) (ne_of_none e nx)) ⟨x, dx, t, rfl, hx, ht⟩⟩⟩
section
variable {P : Program} {w : World} {K : PySem.W.Frag} {mg : Str → Option Value} {base : Heap} {f : Addr} {fd : FuncData} {CT CD CS CL : Addr} {T : List (Addr × Str)}
theorem ok_loose_node (F : FnP K "loose_node" "loose_node" s_loose_node f fd) (C_Told : Mak P w K mg base 1 "Told" CT (spToldInit K CT)) (C_loose_die : Cal P w K mg base 3 "loose_die" (spLooseDie K T CD)) (m_len : mg "len" = none) :
    FnOk P w K mg base CX0 4 f fd ["places", "shares", "kept"] (spLooseNode K T CT CD) := by
  refine F.ok c_loose_node (fun vs H Q E h => ?_) (fun cdv A outer s H vs Q E hr h => ⟨_, PSs.nox (pss_cons (ps_set (i := 3) c_loose_node.nd rfl (Or.inl rfl) pe_int)
      (pss_cons (ps_while PassesOwn.never (PW.pt (pw_and (pt_cmpR op_lt (pv 3) (pe_callB call_len_seq (by rfl) m_len PySem.boot_len (pa_cons (pv 1) pa_nil)) (nomark _)) (pw_and1 (pt_not (pt_chain op_lt op_lt pe_int (pe_ix ix_tup (pe_ix ix_list (pv 1) (pv 3) (fun _ _ => rfl)) pe_int (fun _ _ => rfl)) (pe_ix ix_tup (pe_ix ix_list (pv 1) (pv 3) (fun _ _ => rfl)) pe_int (fun _ _ => rfl))))))) (pss_cons (ps_if (pt_cmpR op_gt (pe_ix ix_tup (pe_ix ix_list (pv 1) (pv 3) (fun _ _ => rfl)) pe_int (fun _ _ => rfl)) pe_int (nomark _)) (pss_one (ps_set (i := 2) c_loose_node.nd rfl (Or.inl rfl) (pe_op op_cat (pv 2) (pe_slice sl_list (pv 0) (po_some (pv 3)) (po_some (pe_op op_add (pv 3) pe_int)))))) pss_nil)
      (pss_one (ps_aug (i := 3) c_loose_node.nd rfl (Or.inl rfl) pe_int ip_add))))
      (pss_cons (ps_if (pt_cmpR op_eq (pv 3) (pe_callB call_len_seq (by rfl) m_len PySem.boot_len (pa_cons (pv 1) pa_nil)) (nomark _)) (pss_one (ps_ret (pe_mk C_Told hr (by decide) (by rfl) (pa_cons (pv 2) pa_nil)))) pss_nil)
      (pss_one (ps_ret (pe_c C_loose_die hr (by decide) (by rfl) (pa_cons (pe_slice sl_list (pv 0) (po_some (pv 3)) po_none) (pa_cons (pe_slice sl_list (pv 1) (po_some (pv 3)) po_none) (pa_cons (pv 2) pa_nil))))))))), ?_⟩)
  · obtain ⟨k, p, s, ks, ps, ss, rfl, _⟩ := h
    rfl
  · obtain ⟨k, p, sh, ks, ps, ss, rfl, ⟨_, _, _, hk, hp, ⟨sx, hS, hsx⟩, hlen, h24, hok⟩, hTab, q⟩ := h
    have hsl := hsx.1
    refine ⟨Wl K k p sh ks ps ss H,
      ⟨_, 0, k, ks, rfl, rfl, Nat.zero_le _, Same.refl _, .inr rfl, hk, by omega, rfl⟩, fun m σ H1 hW => ?_⟩
    obtain ⟨i, k', ks', rfl, rfl, hi, s1, hk', hkl, hb, hN⟩ := hW
    have hS1 := s1.seq hS
    -- what stands behind the loop
    have fin : (∀ _ : i < ps.length, 0 < (fz ss i).1 ∧ (fz ss i).1 < (fz ss i).2) →
        tSeq (tIfS (tTest (tOp rEq (tVar 3) (tCB (rLenQ K) (tCons (tVar 1) tNil)))) (tRet (tMake CT (spToldInit K CT) [] E0 (tCons (tVar 2) tNil))) tNext)
          (tRet (tCall (spLooseDie K T CD) [] E0 (tCons (tSl (rSlL K) (tVar 0) (tPart (tVar 3)) tNoPart) (tCons (tSl (rSlL K) (tVar 1) (tPart (tVar 3)) tNoPart) (tCons (tVar 2) tNil)))))
          { nx := fun _ H' => Q .non H', rt := Q } [some (.ref p), some (.ref sh), some (.ref k'), some (.int i)] H1 := fun hpre => by
      refine ⟨_, rfl, _, rfl, sh, _, rfl, .inl hS1, rfl, _, rfl, ite2 (fun e => ?_) fun e => ?_⟩
      · -- nothing is thrown any more
        have ei : i = ps.length := by
          have := V.int.inj (of_decide_eq_true e)
          omega
        have eN : looseN ps ss ks = .told ks' := by
          rw [← hN, List.drop_eq_nil_of_le (by omega : ss.length ≤ i), looseN]
        refine ⟨_, rfl, make_told (SqL.of hkl) (by omega) fun x H' s2 hx => q x H' (Xt.of (s1.trans s2)) ?_⟩
        rw [eN]
        exact hx
      · have hi' : i < ps.length := by
          have : ¬ (i : Int) = (sx.length : Int) := fun z => e (by rw [z]; exact decide_eq_true rfl)
          omega
        obtain ⟨h1, h2⟩ := hpre hi'
        have ed : ss.drop i = (fz ss i) :: ss.drop (i + 1) := by
          rw [List.drop_eq_getElem_cons (by omega : i < ss.length)]
          have : fz ss i = ss[i] := getD_of (List.getElem?_eq_getElem (by omega))
          rw [this]
        have eN : looseN ps ss ks = .opn (ps.drop i) (fz ss i).1 (fz ss i).2 (ss.drop (i + 1)) ks' := by
          rw [← hN, ed]
          show looseN (ps.drop i) (((fz ss i).1, (fz ss i).2) :: ss.drop (i + 1)) ks' = _
          rw [looseN, if_pos ⟨h1, h2⟩]
        have hp1 := s1 _ _ hp
        refine ⟨_, rfl, _, rfl, _, rfl, p, _, rfl, SqL.of hp1, fun p2 np2 => ?_⟩
        have e2 := sames np2 (o := .lst (cutV (ps.map V.int) (some (i : Int)) none))
        refine ⟨_, rfl, _, rfl, _, rfl, sh, _, rfl, e2.seq hS1, fun s2 ns2 => ?_⟩
        rw [cut_from (zs := ps.map V.int) (by rw [List.length_map]; omega)] at e2 ns2 ⊢
        rw [cut_from (zs := sx) (by omega)]
        have e3 := sames ns2 (o := .lst (sx.drop i))
        have hp3 := e3 _ _ (upd_same : upd H1 p2 (.lst ((ps.map V.int).drop i)) p2 = _)
        have s3 := s1.trans (e2.trans e3)
        have hs3 : upd (upd H1 p2 (.lst ((ps.map V.int).drop i))) s2 (.lst (sx.drop i)) s2 = some (.lst (sx.drop i)) := upd_same
        have np : H p2 = none := s1.free np2
        have ns : H s2 = none := (s1.trans e2).free ns2
        have hk3 := (e2.trans e3) _ _ hkl
        generalize upd (upd H1 p2 (.lst ((ps.map V.int).drop i))) s2 (.lst (sx.drop i)) = H3 at *
        have fr3 : FrLs K H3 s2 (ss.drop i) := ⟨_, SqL.of hs3, (hsx.imp fun v p r => r.mono rel_same s3).drop i⟩
        refine ⟨_, rfl, p2, s2, k', (fz ss i).1, (fz ss i).2, ss.drop (i + 1), rfl, hTab.ext s3, by rw [← ed]; exact fr3, fun x dx w w1 w2 f1 f2 H4 x4 hx hw hw1 hw2 c1 c2 => ?_⟩
        have RX := rel_xt T
        have la : LArg (fun l => H l = none ∨ l = k) K H4 k' p2 s2 ks' (ps.drop i) (ss.drop i) := by
          refine ⟨hk', .inl np, .inl ns, RX.keep x4 hk3 (fun _ z => nomatch z), ?_, fr3.mono RX x4, by rw [List.length_drop, List.length_drop]; omega, by rw [List.length_drop]; omega, fun q hq => hok q (List.mem_of_mem_drop hq)⟩
          rw [List.map_drop]
          exact RX.keep x4 hp3 (fun _ z => nomatch z)
        have hpos : 0 < (ps.drop i).length := by
          rw [List.length_drop]
          omega
        have etl : (ss.drop i).drop 1 = ss.drop (i + 1) := by
          rw [ed]
          rfl
        refine q x H4 ((Xt.of s3).trans x4) ?_
        rw [eN]
        refine ⟨x, dx, w, _, rfl, hx, hw, AllR.cons ⟨w1, f1, rfl, hw1, .inr (.inl ⟨k', p2, s2, ks', _, _, c1, la, hpos, ?_⟩)⟩ (AllR.cons ⟨w2, f2, rfl, hw2, .inr (.inr ⟨k', p2, s2, ks', _, _, c2, la, hpos, ?_⟩)⟩ AllR.nil)⟩
        · rw [etl]
        · rw [etl]
    refine ⟨_, rfl, _, rfl, sh, _, rfl, .inl hS1, _, _, rfl, rfl, _, rfl, ?_⟩
    · refine ite2 (fun e => ?_) fun e => ?_
      · have hi' : i < ps.length := by
          have := of_decide_eq_true e
          omega
        obtain ⟨t0, et0, ht0⟩ := fr_at (hsx.imp fun v p r => r.mono rel_same s1) (k := i) (by omega)
        have ei := at_of (j := i) rfl et0
        have ed : ss.drop i = (fz ss i) :: ss.drop (i + 1) := by
          rw [List.drop_eq_getElem_cons (by omega : i < ss.length)]
          have : fz ss i = ss[i] := getD_of (List.getElem?_eq_getElem (by omega))
          rw [this]
        -- one turn
        have turn : ¬ (0 < (fz ss i).1 ∧ (fz ss i).1 < (fz ss i).2) → looseN ((ps.drop i).drop 1) (ss.drop (i + 1)) (if 0 < (fz ss i).1 then ks' ++ (ps.drop i).take 1 else ks') = looseN ps ss ks := fun z => by
          rw [← hN, ed]
          show _ = looseN (ps.drop i) (((fz ss i).1, (fz ss i).2) :: ss.drop (i + 1)) ks'
          rw [looseN, if_neg z]
        refine ⟨_, rfl, _, rfl, sh, _, _, _, rfl, rfl, hS1, ei, t0, _, 0, .int (fz ss i).1, rfl, rfl, ht0, rfl, _, _, rfl, rfl, _, rfl, ?_⟩
        refine ite2 (fun ht => ?_) fun ht => ?_
        · have ht : 0 < (fz ss i).1 := of_decide_eq_true ht
          refine ⟨_, rfl, _, rfl, sh, _, _, _, rfl, rfl, hS1, ei, t0, _, 1, .int (fz ss i).2, rfl, rfl, ht0, rfl, _, _, rfl, rfl, _, rfl, ?_⟩
          refine ite2 (fun hb' => ?_) fun hb' => ?_
          · have hb2 : ¬ (fz ss i).1 < (fz ss i).2 := fun z => by
              rw [decide_eq_true z] at hb'
              cases hb'
            refine ⟨fun σ' H' => ∃ m', m' < ps.length - i ∧ Wl K k p sh ks ps ss H m' σ' H', fun σ' H' hh => hh, ?_⟩
            refine ⟨_, rfl, _, rfl, sh, _, _, _, rfl, rfl, hS1, ei, t0, _, 0, .int (fz ss i).1, rfl, rfl, ht0, rfl, _, _, rfl, rfl, _, rfl, ?_⟩
            refine ite2 (fun _ => ?_) fun hc => absurd (decide_eq_true ht) hc
            have hp1 := s1 _ _ hp
            refine ⟨_, rfl, _, rfl, _, rfl, _, rfl, _, rfl, _, _, rfl, rfl, _, rfl, p, _, rfl, SqL.of hp1, fun d nd => ?_⟩
            rw [cut_one (zs := ps.map V.int) (by rw [List.length_map]; omega), ← List.map_drop, ← List.map_take]
            have e2 := sames nd (o := .lst (((ps.drop i).take 1).map V.int))
            have hl1 : ((ps.drop i).take 1).length = 1 := by
              rw [List.length_take, List.length_drop]
              omega
            refine ⟨k', d, _, _, rfl, rfl, e2 _ _ hkl, upd_same, ?_, fun k2 nk2 => ?_⟩
            · rw [List.length_map, List.length_map, hl1]
              have : (30 : Nat) ≤ sizeLine := by decide
              omega
            rw [← List.map_append] at *
            have e3 := sames nk2 (o := .lst ((ks' ++ (ps.drop i).take 1).map V.int))
            refine ⟨_, rfl, _, _, rfl, rfl, ps.length - (i + 1), by omega, i + 1, k2, ks' ++ (ps.drop i).take 1, rfl, rfl, by omega, s1.trans (e2.trans e3), .inl ((s1.trans e2).free nk2), upd_same, ?_, ?_⟩
            · rw [List.length_append, hl1]
              omega
            · have := turn fun z => hb2 z.2
              rw [if_pos ht, List.drop_drop] at this
              exact this
          · exact fin fun _ => ⟨ht, by
              cases hd : decide ((fz ss i).1 < (fz ss i).2) with
              | true => exact of_decide_eq_true hd
              | false =>
                rw [hd] at hb'
                exact absurd rfl hb'⟩
        · have ht : ¬ 0 < (fz ss i).1 := fun z => ht (decide_eq_true z)
          refine ⟨_, rfl, iteT ?_⟩
          refine ⟨fun σ' H' => ∃ m', m' < ps.length - i ∧ Wl K k p sh ks ps ss H m' σ' H', fun σ' H' hh => hh, ?_⟩
          refine ⟨_, rfl, _, rfl, sh, _, _, _, rfl, rfl, hS1, ei, t0, _, 0, .int (fz ss i).1, rfl, rfl, ht0, rfl, _, _, rfl, rfl, _, rfl, ?_⟩
          refine ite2 (fun hc => absurd (of_decide_eq_true hc) ht) fun _ => ?_
          refine ⟨_, rfl, _, _, rfl, rfl, ps.length - (i + 1), by omega, i + 1, k', ks', rfl, rfl, by omega, s1, hk', hkl, by omega, ?_⟩
          have := turn fun z => ht z.1
          rw [if_neg ht, List.drop_drop] at this
          exact this
      · refine iteF (fin fun z => absurd (decide_eq_true (show (i : Int) < (sx.length : Int) by omega)) e)
end
end Fk
/-! C3: the call of a node's lambda: make(). -/
namespace Fk
open PySem PySem.Spec PyProof.Rows L2 LamX
theorem srt_perm {a b : List Int} (p : a.Perm b) : srt a = srt b := by
  refine srt_of ((List.mergeSort_perm a _).trans p) ?_
  have h := List.pairwise_mergeSort (le := fun a b : Int => decide (a ≤ b)) (fun a b c h1 h2 => by simp at *; omega) (fun a b => by simp; omega) a
  exact h.imp fun {x y} z => of_decide_eq_true z
theorem pick_perm {ps : List Int} {st : Int} {t : Nat} (ht : (t : Int) < st) : ∃ ns : List Int, pickV (ps.map V.int) (some (t : Int)) none (some st) = ns.map V.int ∧ ns.Perm (pickM ps st t) := by
  have hst : st > 0 := by omega
  let cnt : Nat := (if min (t : Int) ps.length < ps.length then ((ps.length : Int) - min (t : Int) ps.length + st - 1) / st else (0 : Int)).toNat
  let ix : List Nat := (List.range cnt).map fun k : Nat => (min (t : Int) ps.length + st * (k : Int)).toNat
  have e1 : pickV (ps.map V.int) (some (t : Int)) none (some st) = ix.filterMap ((ps.map V.int)[·]?) := by
    unfold pickV
    have eb : sliceBounds (some (t : Int)) none (some st) (ps.map V.int).length = (min (t : Int) ps.length, (ps.length : Int), st) := by
      unfold sliceBounds
      rw [List.length_map]
      simp only [Option.getD_some, hst, if_true]
      rw [if_neg (by omega)]
      rw [Int.max_eq_right (by omega)]
    rw [eb]
    show (sliceRange (min (t : Int) ps.length) ps.length st).filterMap _ = _
    unfold sliceRange
    rw [if_pos hst]
  -- the k-th is below the length
  have key : ∀ k : Nat, k < cnt ↔ (t : Int) < ps.length ∧ (t : Int) + st * (k : Int) < ps.length := fun k => by
    show k < (if min (t : Int) ps.length < ps.length then ((ps.length : Int) - min (t : Int) ps.length + st - 1) / st else (0 : Int)).toNat ↔ _
    by_cases h : (t : Int) < ps.length
    · rw [if_pos (by omega), Int.min_eq_left (by omega)]
      have e : ((ps.length : Int) - t + st - 1) / st = (ps.length - t - 1) / st + 1 := by
        rw [show (ps.length : Int) - t + st - 1 = (ps.length - t - 1) + 1 * st by omega, Int.add_mul_ediv_right _ _ (by omega)]
      rw [e]
      have k1 : (k : Int) ≤ ((ps.length : Int) - t - 1) / st ↔ (k : Int) * st ≤ (ps.length : Int) - t - 1 := Int.le_ediv_iff_mul_le hst
      have z0 := Int.ediv_nonneg (a := (ps.length : Int) - t - 1) (b := st) (by omega) (by omega)
      rw [Int.mul_comm] at k1
      constructor
      · intro z
        refine ⟨h, ?_⟩
        have := k1.mp (by omega)
        omega
      · rintro ⟨_, z⟩
        have := k1.mpr (by omega)
        omega
    · rw [if_neg (by omega)]
      constructor
      · intro z
        simp at z
      · rintro ⟨z, _⟩
        omega
  have hix : ∀ j ∈ ix, j < ps.length ∧ (j : Int) % st = t := fun j hj => by
    obtain ⟨k, hk, rfl⟩ := List.mem_map.mp hj
    obtain ⟨h1, h2⟩ := (key k).mp (List.mem_range.mp hk)
    have h0 : 0 ≤ st * (k : Int) := Int.mul_nonneg (by omega) (by omega)
    rw [Int.min_eq_left (by omega)]
    refine ⟨by omega, ?_⟩
    rw [show (((t : Int) + st * (k : Int)).toNat : Int) = (t : Int) + st * (k : Int) by omega, Int.add_mul_emod_self_left]
    exact Int.emod_eq_of_lt (by omega) ht
  refine ⟨ix.map (zf ps), ?_, ?_⟩
  · rw [e1]
    clear_value ix
    clear e1
    induction ix with
    | nil => rfl
    | cons j l ih =>
      have hj := (hix j (List.mem_cons_self ..)).1
      have e : (ps.map V.int)[j]? = some (V.int (zf ps j)) := zs_at hj
      rw [List.filterMap_cons_some e, ih fun k hk => hix k (List.mem_cons_of_mem _ hk)]
      rfl
  · unfold pickM
    refine List.Perm.map _ ?_
    have nd1 : ix.Nodup := by
      refine List.pairwise_map.mpr ((List.nodup_range (n := cnt)).imp_of_mem fun {a b} ha hb hab z => hab ?_)
      obtain ⟨h1, h2⟩ := (key a).mp (List.mem_range.mp ha)
      have g1 : 0 ≤ st * (a : Int) := Int.mul_nonneg (by omega) (by omega)
      have g2 : 0 ≤ st * (b : Int) := Int.mul_nonneg (by omega) (by omega)
      have z2 : st * (a : Int) = st * (b : Int) := by
        rw [Int.min_eq_left (by omega)] at z
        omega
      have z3 := Int.eq_of_mul_eq_mul_left (by omega) z2
      omega
    have nd2 : ((List.range ps.length).filter fun k : Nat => decide ((k : Int) % st = t)).Nodup := List.Pairwise.filter _ List.nodup_range
    refine (List.perm_ext_iff_of_nodup nd1 nd2).mpr fun j => ⟨fun hj => ?_, fun hj => ?_⟩
    · obtain ⟨h1, h2⟩ := hix j hj
      exact List.mem_filter.mpr ⟨List.mem_range.mpr h1, decide_eq_true h2⟩
    · obtain ⟨h1, h2⟩ := List.mem_filter.mp hj
      have h1 := List.mem_range.mp h1
      have h2 : (j : Int) % st = t := of_decide_eq_true h2
      have hq := Int.mul_ediv_add_emod (j : Int) st
      have q0 := Int.ediv_nonneg (a := (j : Int)) (b := st) (by omega) (by omega)
      have q1 : 0 ≤ st * ((j : Int) / st) := Int.mul_nonneg (by omega) q0
      have eq : ((((j : Int) / st).toNat : Nat) : Int) = (j : Int) / st := by omega
      refine List.mem_map.mpr ⟨((j : Int) / st).toNat, List.mem_range.mpr ((key _).mpr ⟨by omega, by rw [eq]; omega⟩), ?_⟩
      show (min (t : Int) ps.length + st * ((((j : Int) / st).toNat : Nat) : Int)).toNat = j
      rw [eq, Int.min_eq_left (by omega)]
      omega
/-! ### behind a lambda's call -/
section
variable {K : PySem.W.Frag} {T : List (Addr × Str)} {CT CD : Addr} {cl : List (Str × Addr)} {N : List Str} {vs : List V} {H H1 : Hp} {ok : Addr → Prop}
theorem back_xt (C : Cells H cl N vs) (out : ∀ b, (∃ x, cl.lookup x = some b) → H1 b = none) (e : Xt T (hid cl H) H1) : Xt T H (back cl H H1) := ⟨back_ext out e.1, fun t => tabs_back out (e.2 (tabs_hid C t))⟩
theorem back_same (out : ∀ b, (∃ x, cl.lookup x = some b) → H1 b = none) : Same H1 (back cl H H1) := fun _ _ e => back_of out e
theorem lst_hid (C : Cells H cl N vs) {a : Addr} {xs : List V} (h : H a = some (.lst xs)) : hid cl H a = some (.lst xs) := hid_of C h fun v z => nomatch (show HO.lst xs = HO.ext _ from z)
theorem LArg.hid {k p s : Addr} {ks ps : List Int} {ss : List (Int × Int)} (C : Cells H cl N vs) (h : LArg ok K H k p s ks ps ss) : LArg ok K (Fk.hid cl H) k p s ks ps ss := by
  obtain ⟨h1, h2, h3, h4, h5, ⟨xs, h6, h7⟩, h8⟩ := h
  exact ⟨h1, h2, h3, lst_hid C h4, lst_hid C h5, ⟨xs, sqL_hid C h6, h7.imp fun v p ⟨b, e, z⟩ => ⟨b, e, sqT_hid C z⟩⟩, h8⟩
end
def tbStart (K : PySem.W.Frag) (CT : Addr) : TE := tMake CT (spToldInit K CT) [] E0 (tCons (tSl3 K (tVar 1) (tPart (tVar 0)) tNoPart (tPart (tVar 2))) tNil)
def tbOne (K : PySem.W.Frag) (T : List (Addr × Str)) (CT CD : Addr) : TE := tCall (spLooseNode K T CT CD) [] E0 (tCons (tSl (rSlL K) (tVar 1) (tPart (tC (.int 1))) tNoPart) (tCons (tSl (rSlL K) (tVar 2) (tPart (tC (.int 1))) tNoPart) (tCons (tOp rCat (tVar 0) (tSl (rSlL K) (tVar 1) tNoPart (tPart (tC (.int 1))))) tNil)))
def tbTwo (K : PySem.W.Frag) (T : List (Addr × Str)) (CT CD : Addr) : TE := tCall (spLooseNode K T CT CD) [] E0 (tCons (tSl (rSlL K) (tVar 1) (tPart (tC (.int 1))) tNoPart) (tCons (tSl (rSlL K) (tVar 2) (tPart (tC (.int 1))) tNoPart) (tCons (tVar 0) tNil)))
def tMk (K : PySem.W.Frag) (T : List (Addr × Str)) (CT CD : Addr) (i : Nat) : TE := fun σ H Q => tClo i q_start (lamP l_start) (lamB l_start) (lamS l_start) N_start (tbStart K CT) σ H Q ∨
  (tClo i q_loose (lamP l_one) (lamB l_one) (lamS l_one) N_loose (tbOne K T CT CD) σ H Q ∨ tClo i q_loose (lamP l_two) (lamB l_two) (lamS l_two) N_loose (tbTwo K T CT CD) σ H Q)
theorem pe_make {X : Cx} {T : List (Addr × Str)} {CT CD : Addr} {i j : Nat} {p1 p2 : Pos} (hr : Room j X.A) (hj : 5 ≤ j) (C_Told : Mak X.prog X.w X.K X.mg X.base 1 "Told" CT (spToldInit X.K CT)) (C_loose_node : Cal X.prog X.w X.K X.mg X.base 4 "loose_node" (spLooseNode X.K T CT CD))
    (hN : X.N[i]? = some ("make" : Str)) (hv : Vis X.env.scope "make") : PE X (.Call (.Name "make" p1) [] [] p2) (tMk X.K T CT CD i) := by
  refine PE.or (pe_clo (k := 4) (hr.mono hj) L_start (fun cl pm cv ctv => rfl) (fun f cc cl A outer s H hr => ?_) hN hv) (PE.or (pe_clo (k := 4) (hr.mono hj) L_one (fun cl pm cv ctv => rfl) (fun f cc cl A outer s H hr => ?_) hN hv) (pe_clo (k := 4) (hr.mono hj) L_two (fun cl pm cv ctv => rfl) (fun f cc cl A outer s H hr => ?_) hN hv))
  · exact pe_mk C_Told hr (by decide) (by rfl) (pa_cons (pe_sl3 (pv 1) (po_some (pv 0)) po_none (po_some (pv 2))) pa_nil)
  · exact pe_c C_loose_node hr (by decide) (by rfl) (pa_cons (pe_slice sl_list (pv 1) (po_some pe_int) po_none) (pa_cons (pe_slice sl_list (pv 2) (po_some pe_int) po_none) (pa_cons (pe_op op_cat (pv 0) (pe_slice sl_list (pv 1) po_none (po_some pe_int))) pa_nil)))
  · exact pe_c C_loose_node hr (by decide) (by rfl) (pa_cons (pe_slice sl_list (pv 1) (po_some pe_int) po_none) (pa_cons (pe_slice sl_list (pv 2) (po_some pe_int) po_none) (pa_cons (pv 0) pa_nil)))
theorem pe_makeK {X : Cx} {K : PySem.W.Frag} {T : List (Addr × Str)} {CT CD : Addr} {i j : Nat} {p1 p2 : Pos} (hK : X.K = K) (hr : Room j X.A) (hj : 5 ≤ j) (C_Told : Mak X.prog X.w X.K X.mg X.base 1 "Told" CT (spToldInit K CT)) (C_loose_node : Cal X.prog X.w X.K X.mg X.base 4 "loose_node" (spLooseNode K T CT CD))
    (hN : X.N[i]? = some ("make" : Str)) (hv : Vis X.env.scope "make") : PE X (.Call (.Name "make" p1) [] [] p2) (tMk K T CT CD i) := by
  subst hK
  exact pe_make hr hj C_Told C_loose_node hN hv
end Fk
/-! C4: nodes: sides, parts, after; drawn. -/
namespace Fk
open PySem PySem.Spec PyProof.Rows L2 LamX
theorem told_same {K : PySem.W.Frag} {CT CD : Addr} {H H' : Hp} {v : V} {ks : List Int} (e : Same H H') (h : NodeT K CT H v ks) : NodeT K CT H' v ks := h.mono rel_same e
section
variable {K : PySem.W.Frag} {T : List (Addr × Str)} {CT CD : Addr} {ok : Addr → Prop}
theorem mk_ok {i : Nat} {σ : L2.St} {H : Hp} {f : Addr} {n : Nd} {Q : VK} (hσ : σ[i]? = some (some (.ref f))) (hY : StartY ok H f n ∨ OneY ok K H f n ∨ TwoY ok K H f n) (hT : Tabs T H)
    (q : ∀ x H2, Xt T H H2 → NodeR (fun _ => True) K CT CD H2 (.ref x) n → Q (.ref x) H2) : tMk K T CT CD i σ H Q := by
  rcases hY with ⟨a, t, st, ps, ⟨cl, cc, h1, h2, C⟩, _, ha, hl, ht, hst, rfl⟩ | ⟨k, p, s, ks, ps, ss, ⟨cl, cc, h1, h2, C⟩, la, hpos, rfl⟩ | ⟨k, p, s, ks, ps, ss, ⟨cl, cc, h1, h2, C⟩, la, hpos, rfl⟩
  · refine .inl ⟨f, _, cl, cc, hσ, h1, h2, C, ?_⟩
    obtain ⟨ns, en, pn⟩ := pick_perm (ps := ps) ht
    have ha' := lst_hid C ha
    refine ⟨_, rfl, _, rfl, _, rfl, _, rfl, _, rfl, a, _, rfl, SqL.of ha', fun z => by cases z; omega, fun p np => ?_⟩
    rw [en]
    have hln : ns.length < 64 := by
      have := pickM_len ps st t
      rw [pn.length_eq]
      omega
    refine make_told (K := K) (CT := CT) (Q := fun v H1 => (∀ b, (∃ x, cl.lookup x = some b) → H1 b = none) → Q v (back cl H H1)) (SqL.of upd_same) hln ?_
    intro x H' s2 hx out
    have s3 := (sames np).trans s2
    refine q x _ (back_xt C out (Xt.of s3)) ?_
    show NodeT K CT _ _ (srt (pickM ps st t))
    rw [← srt_perm pn]
    exact told_same (CD := CD) (back_same out) hx
  · refine .inr (.inl ⟨f, _, cl, cc, hσ, h1, h2, C, ?_⟩)
    obtain ⟨_, _, _, hk, hp, ⟨xs, hS, hxs⟩, hlen, h24, hok⟩ := la.hid C
    have hT' := tabs_hid C hT
    have RS := rel_same
    generalize eh : Fk.hid cl H = H0 at *
    refine ⟨_, rfl, _, rfl, p, _, rfl, SqL.of hp, fun p2 np2 => ?_⟩
    have c1 : ∀ zs : List V, 0 < zs.length → cutV zs (some 1) none = zs.drop 1 := fun zs h => cut_from (i := 1) h
    have c2 : ∀ zs : List V, 0 < zs.length → cutV zs none (some 1) = zs.take 1 := fun zs h => cut_to (i := 1) h
    have hx0 : 0 < xs.length := by rw [hxs.1]; omega
    rw [c1 _ (by rw [List.length_map]; exact hpos)] at *
    have e1 := sames np2 (o := .lst ((ps.map V.int).drop 1))
    refine ⟨_, rfl, _, rfl, s, _, rfl, e1.seq hS, fun s2 ns2 => ?_⟩
    rw [c1 _ hx0]
    have e2 := sames ns2 (o := .lst (xs.drop 1))
    refine ⟨_, rfl, _, rfl, _, rfl, p, _, rfl, SqL.of ((e1.trans e2) _ _ hp), fun d nd => ?_⟩
    rw [c2 _ (by rw [List.length_map]; exact hpos)]
    have e3 := sames nd (o := .lst ((ps.map V.int).take 1))
    refine ⟨k, d, _, _, rfl, rfl, (e1.trans (e2.trans e3)) _ _ hk, upd_same, ?_, fun k2 nk2 => ?_⟩
    · rw [List.length_map]
      have h1 : ((ps.map V.int).take 1).length ≤ 1 := by
        rw [List.length_take]
        exact Nat.min_le_left ..
      have : (30 : Nat) ≤ sizeLine := by decide
      omega
    have e4 := sames nk2 (o := .lst (ks.map V.int ++ (ps.map V.int).take 1))
    have s04 := e1.trans (e2.trans (e3.trans e4))
    refine ⟨k2, p2, s2, ks ++ ps.take 1, ps.drop 1, ss.drop 1, rfl, ⟨trivial, trivial, trivial, ?_, ?_, ⟨xs.drop 1, SqL.of ((e3.trans e4) _ _ upd_same), (hxs.imp fun v p r => r.mono rel_same s04).drop 1⟩, ?_, ?_, fun q hq => hok q (List.mem_of_mem_drop hq)⟩, hT'.ext s04, fun x H2 xt nr out => ?_⟩
    · rw [List.map_append, List.map_take]
      exact upd_same
    · rw [List.map_drop]
      exact (e2.trans (e3.trans e4)) _ _ upd_same
    · rw [List.length_drop, List.length_drop]
      omega
    · rw [List.length_append, List.length_take, List.length_drop]
      omega
    · subst eh
      exact q x _ (back_xt C out ((Xt.of s04).trans xt)) (nr.mono rel_same (back_same out) fun _ _ => trivial)
  · refine .inr (.inr ⟨f, _, cl, cc, hσ, h1, h2, C, ?_⟩)
    obtain ⟨_, _, _, hk, hp, ⟨xs, hS, hxs⟩, hlen, h24, hok⟩ := la.hid C
    have hT' := tabs_hid C hT
    generalize eh : Fk.hid cl H = H0 at *
    refine ⟨_, rfl, _, rfl, p, _, rfl, SqL.of hp, fun p2 np2 => ?_⟩
    have c1 : ∀ zs : List V, 0 < zs.length → cutV zs (some 1) none = zs.drop 1 := fun zs h => cut_from (i := 1) h
    have hx0 : 0 < xs.length := by rw [hxs.1]; omega
    rw [c1 _ (by rw [List.length_map]; exact hpos)] at *
    have e1 := sames np2 (o := .lst ((ps.map V.int).drop 1))
    refine ⟨_, rfl, _, rfl, s, _, rfl, e1.seq hS, fun s2 ns2 => ?_⟩
    rw [c1 _ hx0]
    have e2 := sames ns2 (o := .lst (xs.drop 1))
    have s04 := e1.trans e2
    refine ⟨_, rfl, k, p2, s2, ks, ps.drop 1, ss.drop 1, rfl, ⟨trivial, trivial, trivial, s04 _ _ hk, ?_, ⟨xs.drop 1, SqL.of upd_same, (hxs.imp fun v p r => r.mono rel_same s04).drop 1⟩, ?_, ?_, fun q hq => hok q (List.mem_of_mem_drop hq)⟩, hT'.ext s04, fun x H2 xt nr out => ?_⟩
    · rw [List.map_drop]
      exact e2 _ _ upd_same
    · rw [List.length_drop, List.length_drop]
      omega
    · rw [List.length_drop]
      omega
    · subst eh
      exact q x _ (back_xt C out ((Xt.of s04).trans xt)) (nr.mono rel_same (back_same out) fun _ _ => trivial)
end
/-! ### which part a throw is in -/
def inW : List (Int × Nd) → Int → Prop
  | [], _ => False
  | (m, _) :: r, t => t < m ∨ inW r (t - m)
def atW : List (Int × Nd) → Int → Nd
  | [], _ => .told []
  | (m, n) :: r, t => if t < m then n else atW r (t - m)
def spDieSides (K : PySem.W.Frag) (CD : Addr) : Sp := fun vs H Q _ => ∃ (v : V) (ok : Addr → Prop) (wl : List (Int × Nd)), vs = [v] ∧ DieR ok K CD H v wl ∧ wl.length ≤ 100 ∧ ∀ H', Same H H' → Q (.int (wl.map (·.1)).sum) H'
def PartR (K : PySem.W.Frag) (H : Hp) (v : V) (y : Int × Nd) : Prop := ∃ a u, v = .ref a ∧ SqT K H a [.int y.1, u]
def spDieParts (K : PySem.W.Frag) (T : List (Addr × Str)) (CD : Addr) : Sp := fun vs H Q _ => ∃ (v : V) (ok : Addr → Prop) (wl : List (Int × Nd)), vs = [v] ∧ DieR ok K CD H v wl ∧ wl.length ≤ 100 ∧ Tabs T H ∧ ∀ p xs H', Xt T H H' → SqL K H' p xs → AllR (PartR K H') xs wl → Q (.ref p) H'
def spDieAfter (K : PySem.W.Frag) (T : List (Addr × Str)) (CT CD : Addr) : Sp := fun vs H Q _ => ∃ (v : V) (t : Int) (ok : Addr → Prop) (wl : List (Int × Nd)), vs = [v, .int t] ∧ DieR ok K CD H v wl ∧ wl.length ≤ 100 ∧ 0 ≤ t ∧ inW wl t ∧ Tabs T H ∧
  ∀ x H', Xt T H H' → NodeR (fun _ => True) K CT CD H' (.ref x) (atW wl t) → Q (.ref x) H'
section
variable {P : Program} {w : World} {K : PySem.W.Frag} {mg : Str → Option Value} {base : Heap} {f : Addr} {fd : FuncData} {CT CD CS CL : Addr} {T : List (Addr × Str)}
theorem ok_Die_sides (F : FnP K "sides" "Die.sides" s_Die_sides f fd) (c1 : Cls K CD) (n1 : NoAttr K CD "ways") (m_sum : mg "sum" = none) : FnOk P w K mg base CX0 1 f fd ["self"] (spDieSides K CD) := by
  refine F.ok c_Die_sides (fun vs H Q E h => ?_) (fun cdv A outer s H vs Q E hr h => ⟨_, PSs.nox (pss_one (ps_ret (pe_callB (cr_sum rfl) (by rfl) m_sum (by decide +kernel) (pa_cons (pe_lc (own := [("many", 1), ("make", 2)]) (g := (gTup K 2 (gCons (gName 1) (gCons (gName 2) gNil)))) (tt := tYes) rfl c_Die_sides.nd (pi_tup (pe_fld (pv 0) rfl)) (blkOk_by (own := [("many", 1), ("make", 2)]) (N := n_Die_sides) (sc := defScope s_Die_sides) (by decide +kernel)) (fun _ _ _ _ _ => (pg_tup rfl (pgs_cons (pg_name (i := 1) c_Die_sides.nd rfl (Or.inl rfl)) (pgs_cons (pg_name (i := 2) c_Die_sides.nd rfl (Or.inl rfl)) pgs_nil)))) (fun _ _ _ _ _ => pts_nil) (fun _ _ _ _ _ => (pv 1))) pa_nil)))), ?_⟩)
  · obtain ⟨v, ok, wl, rfl, _⟩ := h
    rfl
  · obtain ⟨v, ok, wl, rfl, ⟨x, dx, ww, ws, rfl, hx, hw, hws⟩, hl, q⟩ := h
    refine ⟨_, rfl, x, CD, dx, _, _, rfl, hx, c1, n1, rfl, ww, rfl, ⟨_, hw⟩, fun D nD => lcE rel_same (R := fun _ v n => v = V.int n) (walk_tup (xs := ws)) (fun i => some (wl.getD i (0, .told [])).1) nD (by rw [hws.1]; omega)
      (fun H1 e => rel_same.sqT e hw) (fun i H1 x H2 e y => by rw [y.1]; exact Same.refl _) (fun _ _ _ _ _ _ r => r) (fun _ _ _ _ _ _ r => r) (fun i x H1 H2 acc C hi e1 e2 hD y k1 k2 => ?_) (fun H2 zs hD e hz => ?_)⟩
    · obtain ⟨rfl, gx⟩ := y
      obtain ⟨c, ec, a, g, rfl, h1, h2⟩ := hws.getV gx
      refine ⟨a, _, rfl, rel_same.sqT e2 h1, rfl, _, _, rfl, _, _, rfl, rfl, rfl, _, rfl, k1 _ _ (Same.refl _) (fun y hy => ?_) (fun z => by cases z)⟩
      cases hy
      show V.int c.1 = V.int (wl.getD i (0, .told [])).1
      rw [getD_of ec]
    · rw [hws.1, map_outs (fun c : Int × Nd => c.1)] at hz
      have ex := allR_ints hz
      exact ⟨D, _, rfl, SqL.of (by rw [hD, ex]), q H2 e⟩
theorem ok_Die_parts (F : FnP K "parts" "Die.parts" s_Die_parts f fd) (c1 : Cls K CD) (n1 : NoAttr K CD "ways") (C_Told : Mak P w K mg base 1 "Told" CT (spToldInit K CT)) (C_loose_node : Cal P w K mg base 4 "loose_node" (spLooseNode K T CT CD)) :
    FnOk P w K mg base CX0 6 f fd ["self"] (spDieParts K T CD) := by
  refine F.ok c_Die_parts (fun vs H Q E h => ?_) (fun cdv A outer s H vs Q E hr h => ⟨_, PSs.nox (pss_one (ps_ret (pe_lc (own := [("many", 1), ("make", 2)]) (g := (gTup K 2 (gCons (gName 1) (gCons (gName 2) gNil)))) (tt := tYes) rfl c_Die_parts.nd (pi_tup (pe_fld (pv 0) rfl)) (blkOk_by (own := [("many", 1), ("make", 2)]) (N := n_Die_parts) (sc := defScope s_Die_parts) (by decide +kernel)) (fun _ _ _ _ _ => (pg_tup rfl (pgs_cons (pg_name (i := 1) c_Die_parts.nd rfl (Or.inl rfl)) (pgs_cons (pg_name (i := 2) c_Die_parts.nd rfl (Or.inl rfl)) pgs_nil)))) (fun _ _ _ _ _ => pts_nil) (fun _ _ _ _ _ => (pe_tup (pa_cons (pv 1) (pa_cons (pe_makeK (K := K) (i := 2) (j := 5) rfl hr (by decide) C_Told C_loose_node (by rfl) (Or.inl rfl)) pa_nil))))))), ?_⟩)
  · obtain ⟨v, ok, wl, rfl, _⟩ := h
    rfl
  · obtain ⟨v, ok, wl, rfl, ⟨x, dx, ww, ws, rfl, hx, hw, hws⟩, hl, hT, q⟩ := h
    have RX := rel_xt T
    refine ⟨_, rfl, x, CD, dx, _, _, rfl, hx, c1, n1, rfl, ww, rfl, ⟨_, hw⟩, fun D nD => lcE RX (R := PartR K) (walk_tup (xs := ws)) (fun i => some (wl.getD i (0, .told []))) nD (by rw [hws.1]; omega)
      (fun H1 e => RX.sqT e hw) (fun i H1 x H2 e y => by rw [y.1]; exact Xt.refl _) (fun H1 H2 v y e e2 r => ?_) (fun H1 v y acc xs hD r => ?_) (fun i x H1 H2 acc C hi e1 e2 hD y k1 k2 => ?_) (fun H2 zs hD e hz => ?_)⟩
    · obtain ⟨a, u, rfl, h⟩ := r
      exact ⟨a, u, rfl, RX.sqT e2 h⟩
    · obtain ⟨a, u, rfl, h⟩ := r
      exact ⟨a, u, rfl, sqT_mut hD h⟩
    · obtain ⟨rfl, gx⟩ := y
      obtain ⟨c, ec, hc⟩ := hws.getV gx
      obtain ⟨a, g, rfl, h1, h2⟩ := hc.mono RX e2 fun _ h => h
      refine ⟨a, _, rfl, h1, rfl, _, _, rfl, _, _, rfl, rfl, rfl, _, rfl, mk_ok rfl h2 (e2.2 hT) fun n H3 x3 nr => ⟨by show 2 ≤ sizeLine; decide, fun t nt => ?_⟩⟩
      refine k1 _ _ (x3.trans (Xt.of (sames nt))) (fun y hy => ?_) (fun z => by cases z)
      cases hy
      refine ⟨t, .ref n, rfl, SqT.of ?_⟩
      rw [upd_same, getD_of ec]
    · rw [hws.1, map_outs (fun c : Int × Nd => c), List.map_id'] at hz
      exact q D zs H2 e (SqL.of hD) hz
theorem ok_Die_after (F : FnP K "after" "Die.after" s_Die_after f fd) (c1 : Cls K CD) (n1 : NoAttr K CD "ways") (C_Told : Mak P w K mg base 1 "Told" CT (spToldInit K CT)) (C_loose_node : Cal P w K mg base 4 "loose_node" (spLooseNode K T CT CD))
    (m_isinstance : mg "isinstance" = none) (m_int : mg "int" = none) (m_bool : mg "bool" = none) : FnOk P w K mg base CX0 6 f fd ["self", "throw"] (spDieAfter K T CT CD) := by
  refine F.ok c_Die_after (fun vs H Q E h => ?_) (fun cdv A outer s H vs Q E hr h => ⟨_, PSs.nox (pss_cons (ps_if (PW.pt (pw_or (pt_not (pt_val (pe_callB call_isi (by rfl) m_isinstance (by decide +kernel) (pa_cons (pv 1) (pa_cons (pe_bltn (v := .ty "int") (by rfl) m_int (by decide +kernel) rfl) pa_nil))))) (pw_or (pt_val (pe_callB call_isi (by rfl) m_isinstance (by decide +kernel) (pa_cons (pv 1) (pa_cons (pe_bltn (v := .ty "bool") (by rfl) m_bool (by decide +kernel) rfl) pa_nil)))) (pw_or1 (pt_cmpR op_lt (pv 1) pe_int (nomark _)))))) pss_never pss_nil)
      (pss_cons (ps_for PassesOwn.never rfl (pi_tup (pe_fld (pv 0) rfl)) (pg_tup rfl (pgs_cons (pg_name (i := 2) c_Die_after.nd rfl (Or.inl rfl)) (pgs_cons (pg_name (i := 3) c_Die_after.nd rfl (Or.inl rfl)) pgs_nil))) (pss_cons (ps_if (pt_cmpR op_lt (pv 1) (pv 2) (nomark _)) (pss_one (ps_ret (pe_makeK (K := K) (i := 3) (j := 5) rfl hr (by decide) C_Told C_loose_node (by rfl) (Or.inl rfl)))) pss_nil)
      (pss_one (ps_set (i := 1) c_Die_after.nd rfl (Or.inl rfl) (pe_op op_sub (pv 1) (pv 2))))))
      pss_never)), ?_⟩)
  · obtain ⟨v, t, ok, wl, rfl, _⟩ := h
    rfl
  · obtain ⟨v, t, ok, wl, rfl, ⟨x, dx, ww, ws, rfl, hx, hw, hws⟩, hl, ht, hin, hT, q⟩ := h
    refine ⟨_, rfl, _, _, _, _, true, rfl, .ty "int", .base (.int t), isi_int, _, rfl, iteF ?_⟩
    refine ⟨_, rfl, _, _, _, _, false, rfl, .ty "bool", .base (.int t), isi_bool, _, rfl, iteF ?_⟩
    refine ⟨_, rfl, _, _, rfl, rfl, _, rfl, ite2 (fun e => absurd (of_decide_eq_true e) (by omega)) fun _ => ?_⟩
    refine ⟨_, rfl, x, CD, dx, _, _, rfl, hx, c1, n1, rfl, ww, rfl, ⟨_, hw⟩, for_it (walk_tup (xs := ws)) (fun i σ H1 => ∃ (y2 y3 : Option V) (t' : Int), σ = [some (.ref x), some (.int t'), y2, y3] ∧ H1 = H ∧ inW (wl.drop i) t' ∧ atW (wl.drop i) t' = atW wl t)
      ⟨_, _, t, rfl, rfl, hin, rfl⟩ (fun i σ H1 _ p => ?_) (fun i v2 σ H1 H2 hi p y => ?_) fun σ H1 p => ?_⟩
    · obtain ⟨y2, y3, t', rfl, rfl, _⟩ := p
      exact hw
    · obtain ⟨rfl, gx⟩ := y
      obtain ⟨y2, y3, t', rfl, rfl, hin', hat⟩ := p
      obtain ⟨c, ec, a, g, rfl, h1, h2⟩ := hws.getV gx
      have hi2 : i < wl.length := by
        rw [← hws.1]
        exact hi
      have ed : wl.drop i = c :: wl.drop (i + 1) := by
        rw [List.drop_eq_getElem_cons hi2]
        rw [List.getElem?_eq_getElem hi2] at ec
        cases ec
        rfl
      rw [ed] at hin' hat
      obtain ⟨m, n⟩ := c
      refine ⟨a, _, rfl, h1, rfl, _, _, rfl, _, _, rfl, rfl, ?_⟩
      refine ⟨_, rfl, _, rfl, _, _, rfl, rfl, _, rfl, ite2 (fun e => ?_) fun e => ?_⟩
      · have e : t' < m := of_decide_eq_true e
        refine mk_ok rfl h2 hT fun x2 H3 x3 nr => q x2 H3 x3 ?_
        rw [← hat, atW, if_pos e]
        exact nr
      · have e : ¬ t' < m := fun z => e (decide_eq_true z)
        refine ⟨_, rfl, _, rfl, _, _, rfl, rfl, _, _, t' - m, rfl, rfl, hin'.resolve_left e, ?_⟩
        rw [← hat]
        show _ = atW ((m, n) :: wl.drop (i + 1)) t'
        rw [atW, if_neg e]
    · obtain ⟨y2, y3, t', rfl, rfl, hin', _⟩ := p
      rw [List.drop_eq_nil_of_le (by rw [hws.1]; exact Nat.le_refl _)] at hin'
      exact hin'.elim
end
end Fk
/-! C5: the plans' nodes; drawn. -/
namespace Fk
open PySem PySem.Spec PyProof.Rows L2 LamX
def spStartNode (K : PySem.W.Frag) (T : List (Addr × Str)) (CT CD CS : Addr) : Sp := fun vs H Q _ => ∃ (x a : Addr) (cs : List (Int × Int)) (ys : List Str) (st : Int), vs = [.ref x, .ref a] ∧ PlanI CS "step" H x st ∧ CrLs K H a cs ys ∧ cs.length ≤ 24 ∧ 1 ≤ st ∧ st ≤ 100 ∧ Tabs T H ∧
  ∀ x H2, Xt T H H2 → NodeR (fun l => H l = none) K CT CD H2 (.ref x) (startN (cs.map (·.1)) st) → Q (.ref x) H2
def spLooseNodeP (K : PySem.W.Frag) (T : List (Addr × Str)) (CT CD CL : Addr) : Sp := fun vs H Q _ => ∃ (x a : Addr) (cs : List (Int × Int)) (ys : List Str) (m : Int), vs = [.ref x, .ref a] ∧ PlanI CL "many" H x m ∧ CrLs K H a cs ys ∧ SzOk (cs.map (·.2)) ∧ 0 ≤ m ∧ m ≤ 24 ∧ Tabs T H ∧
  ∀ ss, IsW (cs.map (·.2)) m ss → ∀ x H2, Xt T H H2 → NodeR (fun l => H l = none) K CT CD H2 (.ref x) (looseN (cs.map (·.1)) ss []) → Q (.ref x) H2
theorem WayR.chg {ok : Addr → Prop} {K : PySem.W.Frag} {H : Hp} {v : V} {y : Int × Nd} {o : Addr} {acc ys : List V} (ho : H o = some (.lst acc)) (n0 : ∀ l, ok l → l ≠ o) (h : WayR ok K H v y) : WayR ok K (upd H o (.lst ys)) v y := by
  have kp : ∀ b x, H b = some x → b ≠ o → upd H o (.lst ys) b = some x := fun b x e n => by
    rw [upd_ne n]
    exact e
  have la : ∀ {k p s ks ps ss}, LArg ok K H k p s ks ps ss → LArg ok K (upd H o (.lst ys)) k p s ks ps ss := fun h => by
    obtain ⟨h1, h2, h3, h4, h5, ⟨xs, h6, h7⟩, h8⟩ := h
    exact ⟨h1, h2, h3, kp _ _ h4 (n0 _ h1), kp _ _ h5 (n0 _ h2), ⟨xs, sqL_mut ho (n0 _ h3) h6, h7.imp fun v p ⟨b, e, z⟩ => ⟨b, e, sqT_mut ho z⟩⟩, h8⟩
  obtain ⟨a, f, rfl, z1, z2⟩ := h
  refine ⟨a, f, rfl, sqT_mut ho z1, ?_⟩
  rcases z2 with ⟨a, t, st, ps, g1, g2, g3, g4⟩ | ⟨k, p, s, ks, ps, ss, g1, g2, g3⟩ | ⟨k, p, s, ks, ps, ss, g1, g2, g3⟩
  · exact .inl ⟨a, t, st, ps, CloAt.chg ho g1, g2, kp _ _ g3 (n0 _ g2), g4⟩
  · exact .inr (.inl ⟨k, p, s, ks, ps, ss, CloAt.chg ho g1, la g2, g3⟩)
  · exact .inr (.inr ⟨k, p, s, ks, ps, ss, CloAt.chg ho g1, la g2, g3⟩)
theorem make_die {K : PySem.W.Frag} {CD l : Addr} {H : Hp} {us : List V} {Q : VK} {E : XK} (hk : SqL K H l us) (q : ∀ x dx w H', Same H H' → H' x = some (.ins CD dx [("ways", .ref w)]) → SqT K H' w us → Q (.ref x) H') :
    ∀ x dx, H x = none → H dx = none → dx ≠ x → spDieInit K CD (.ref x :: ([.ref l] ++ [])) (upd (upd H dx (.own x)) x (.ins CD dx [])) (fun v H2 => v = .non ∧ Q (.ref x) H2) E := fun x dx nx nd ne => by
  have s0 : Same H (upd (upd H dx (.own x)) x (.ins CD dx [])) := fun b o e => by
    rw [upd_ne (ne_of_none e nx), upd_ne (ne_of_none e nd)]
    exact e
  refine ⟨x, dx, l, us, rfl, upd_same, s0.seq hk, fun H' t keep hx ht => ⟨rfl, q x dx t H' (fun b o e => keep b o (s0 _ _ e) (ne_of_none e nx)) hx ht⟩⟩
theorem pe_fldK {X : Cx} {K : PySem.W.Frag} {e : Expr} {f : Str} {pos : Pos} {ta : TE} (hK : X.K = K) (he : PE X e ta) (hb : attributeBase e f X.env (eval e X.env) = eval e X.env) : PE X (.Attribute e f pos) (tFld K ta f) := by
  subst hK
  exact pe_fld he hb
/-! ### throws along a node -/
def isDie : Nd → Prop
  | .told _ => False
  | _ => True
theorem NodeR.die {ok : Addr → Prop} {K : PySem.W.Frag} {CT CD : Addr} {H : Hp} {v : V} {n : Nd} (h : NodeR ok K CT CD H v n) (d : isDie n) : DieR ok K CD H v (ways n) := by
  cases n with
  | told ks => exact d.elim
  | strt ps st => exact h
  | opn ps t b r ks => exact h
inductive Goes : Nd → List (List Int × Int) → List Int → Prop
  | told (ks : List Int) : Goes (.told ks) [] ks
  | die (n : Nd) (r : List Int × Int) (rs : List (List Int × Int)) (ks : List Int) : isDie n → (ways n).map (·.1) = r.1 → (ways n).length ≤ 100 → 0 ≤ r.2 → inW (ways n) r.2 → Goes (atW (ways n) r.2) rs ks → Goes n (r :: rs) ks
theorem Goes.nil {n : Nd} {ks : List Int} (h : Goes n [] ks) : n = .told ks := by
  cases h
  rfl
def spDrawn (K : PySem.W.Frag) (T : List (Addr × Str)) (CT CD : Addr) : Sp := fun vs H Q _ => ∃ (v : V) (a : Addr) (ok : Addr → Prop) (n : Nd) (rows : List (List Int × Int)) (ks : List Int), vs = [v, .ref a] ∧ NodeR ok K CT CD H v n ∧ SqL K H a (rows.map fun r => V.int r.2) ∧ rows.length ≤ 100 ∧ Goes n rows ks ∧ Tabs T H ∧
  ∀ t H', Xt T H H' → SqT K H' t ((srt ks).map V.int) → Q (.ref t) H'
section
variable {P : Program} {w : World} {K : PySem.W.Frag} {mg : Str → Option Value} {base : Heap} {f : Addr} {fd : FuncData} {CT CD CS CL : Addr} {T : List (Addr × Str)}
theorem ok_Loose_node (F : FnP K "node" "Loose.node" s_Loose_node f fd) (c1 : Cls K CL) (n1 : NoAttr K CL "many") (C_places_of : Cal P w K mg base 1 "places_of" (spPlacesOf K)) (C_wished_of : Cal P w K mg base 4 "wished_of" (spWishedOf K)) (C_loose_node : Cal P w K mg base 4 "loose_node" (spLooseNode K T CT CD)) :
    FnOk P w K mg base CX0 5 f fd ["self", "crowd"] (spLooseNodeP K T CT CD CL) := by
  refine F.ok c_Loose_node (fun vs H Q E h => ?_) (fun cdv A outer s H vs Q E hr h => ⟨_, PSs.nox (pss_one (ps_ret (pe_c C_loose_node hr (by decide) (by rfl) (pa_cons (pe_c C_places_of hr (by decide) (by rfl) (pa_cons (pv 1) pa_nil)) (pa_cons (pe_c C_wished_of hr (by decide) (by rfl) (pa_cons (pv 1) (pa_cons (pe_fld (pv 0) rfl) pa_nil))) (pa_cons (pe_lst pa_nil) pa_nil)))))), ?_⟩)
  · obtain ⟨x, a, cs, ys, m, rfl, _⟩ := h
    rfl
  · obtain ⟨x, a, cs, ys, m, rfl, ⟨dx, hx⟩, hcr, hsz, h1, h2, hT, q⟩ := h
    have hl : cs.length ≤ 24 := by
      have := hsz.1
      rw [List.length_map] at this
      exact this
    refine ⟨_, rfl, a, cs, ys, rfl, hcr, hl, fun p H1 np e1 hp => ?_⟩
    refine ⟨_, rfl, _, rfl, x, CL, dx, _, _, rfl, e1 _ _ hx, c1, n1, rfl, a, cs, ys, m, rfl, hcr.mono rel_same e1, hsz, h1, h2, fun ss hw s2 H2 sx ns e2 hs hsx => ?_⟩
    refine ⟨Nat.zero_le _, fun k nk => ?_⟩
    have e3 := sames nk (o := .lst [])
    have e02 := e1.trans e2
    have e03 := e02.trans e3
    have hok := isW_ok hsz h1 h2 hw
    have hlw : ss.length = cs.length := by rw [isW_len hw, List.length_map]
    refine ⟨k, p, s2, [], cs.map (·.1), ss, rfl, ⟨trivial, trivial, trivial, upd_same, (e2.trans e3) _ _ hp, ⟨sx, SqL.of (e3 _ _ hs), hsx.imp fun v p r => r.mono rel_same e3⟩, by rw [List.length_map, hlw], by rw [List.length_map]; simp; exact hl, hok⟩, hT.ext e03, fun y H4 x4 nr => ?_⟩
    refine q ss hw y H4 ((Xt.of e03).trans x4) (nr.mono rel_same (Same.refl _) fun l hl => ?_)
    rcases hl with hl | rfl
    · exact e03.free hl
    · exact e02.free nk
theorem ok_Start_node (F : FnP K "node" "Start.node" s_Start_node f fd) (c1 : Cls K CS) (n1 : NoAttr K CS "step") (C_places_of : Cal P w K mg base 1 "places_of" (spPlacesOf K)) (C_Told : Mak P w K mg base 1 "Told" CT (spToldInit K CT)) (C_Die : Mak P w K mg base 1 "Die" CD (spDieInit K CD)) (C_start_part : Cal P w K mg base 1 "start_part" (spStartPart T)) (m_range : mg "range" = none) :
    FnOk P w K mg base CX0 3 f fd ["self", "crowd"] (spStartNode K T CT CD CS) := by
  refine F.ok c_Start_node (fun vs H Q E h => ?_) (fun cdv A outer s H vs Q E hr h => ⟨_, PSs.nox (pss_cons (ps_set (i := 2) c_Start_node.nd rfl (Or.inr rfl) (pe_c C_places_of hr (by decide) (by rfl) (pa_cons (pv 1) pa_nil)))
      (pss_cons (ps_if (PW.pt (pw_or (pt_cmpR op_eq (pe_fld (pv 0) rfl) pe_int (nomark _)) (pw_or1 (pt_cmpR (op_eqD hr.units) (pv 2) (pe_lst pa_nil) (nomark _))))) (pss_one (ps_ret (pe_mk C_Told hr (by decide) (by rfl) (pa_cons (pv 2) pa_nil)))) pss_nil)
      (pss_one (ps_ret (pe_mk C_Die hr (by decide) (by rfl) (pa_cons (pe_lc (own := [("at", 3)]) (g := (gName 3)) (tt := tYes) rfl c_Start_node.nd (pi_range1 (by rfl) m_range (pa_cons (pe_fld (pv 0) rfl) pa_nil)) (blkOk_by (own := [("at", 3)]) (N := n_Start_node) (sc := defScope s_Start_node) (by decide +kernel)) (fun _ _ _ _ _ => (pg_name (i := 3) c_Start_node.nd rfl (Or.inl rfl))) (fun _ _ _ _ _ => pts_nil) (fun _ _ _ _ _ => (pe_c C_start_part hr (by decide) (by rfl) (pa_cons (pv 2) (pa_cons (pe_fldK (K := K) rfl (pv 0) rfl) (pa_cons (pv 3) pa_nil)))))) pa_nil)))))), ?_⟩)
  · obtain ⟨x, a, cs, ys, st, rfl, _⟩ := h
    rfl
  · obtain ⟨x, a, cs, ys, st, rfl, ⟨dx, hx⟩, hcr, hl, h1, h2, hT, q⟩ := h
    refine ⟨_, rfl, a, cs, ys, rfl, hcr, hl, fun p H1 np e1 hp => ?_⟩
    have hlp : (cs.map (·.1)).length ≤ 24 := by
      rw [List.length_map]
      exact hl
    generalize cs.map (·.1) = ps at *
    have hp : H1 p = some (.lst (ps.map V.int)) := hp
    have fin : ∀ H2, Same H1 H2 → st = 1 ∨ ps = [] → tRet (tMake CT (spToldInit K CT) [] E0 (tCons (tVar 2) tNil)) { nx := fun _ H' => Q .non H', rt := Q } [some (.ref x), some (.ref a), some (.ref p), none] H2 := fun H2 e2 hc => by
      refine ⟨_, rfl, make_told (SqL.of (e2 _ _ hp)) (by omega) fun y H' s2 hy => q y H' (Xt.of (e1.trans (e2.trans s2))) ?_⟩
      unfold startN
      rw [if_pos hc]
      exact hy
    refine ⟨_, rfl, x, CS, dx, _, _, rfl, e1 _ _ hx, c1, n1, rfl, rfl, _, rfl, ite2 (fun e => ?_) fun e => ?_⟩
    · exact iteT (fin H1 (Same.refl _) (.inl (V.int.inj (of_decide_eq_true e))))
    · have hs1 : st ≠ 1 := fun z => e (by rw [z]; exact decide_eq_true rfl)
      refine ⟨_, rfl, Nat.zero_le _, fun o no => ?_⟩
      have e2 : Same H1 (upd H1 o (.lst [])) := sames no
      refine ⟨_, _, ints_dp (SqL.of (e2 _ _ hp)), .lst (SqL.of upd_same) .nil, ints_shaped ps, ints_shaped [], _, rfl, ?_⟩
      rw [eqv_nil_ints]
      refine ite2 (fun e => fin _ e2 (.inr (of_decide_eq_true e))) fun e => ?_
      have hps : ps ≠ [] := fun z => e (decide_eq_true z)
      have hc : ¬ (st = 1 ∨ ps = []) := fun z => z.elim hs1 hps
      have e02 := e1.trans e2
      have hp2 := e2 _ _ hp
      generalize upd H1 o (.lst []) = H2 at *
      have RX := rel_xt T
      have hstn : (st.toNat : Int) = st := by omega
      refine ⟨_, rfl, x, CS, dx, _, _, rfl, e02 _ _ hx, c1, n1, rfl, _, rfl, by omega, by omega, fun D nD => lcE RX (R := fun H' v y => WayR (fun l => H l = none ∧ l ≠ D) K H' v y) (walk_range (lo := 0)) (fun t : Nat => some ((1 : Int), Nd.told (pickM ps st t))) nD (by omega)
        (fun _ _ => True.intro) (fun i H3 x H4 e y => by rw [y.1]; exact Xt.refl _) (fun _ _ _ _ _ e r => r.mono RX e fun _ h => h) (fun H3 v y acc xs hD r => r.chg hD fun l h => h.2) (fun i x2 H3 H4 acc C hi e3 e4 hD y k1 k2 => ?_) (fun H3 ws hD x3 hw => ?_)⟩
      · obtain ⟨rfl, rfl⟩ := y
        refine ⟨rfl, _, rfl, _, rfl, x, CS, dx, _, _, rfl, RX.keep e4 (e02 _ _ hx) (fun _ z => nomatch z), c1, n1, rfl, _, rfl, p, st, (i : Int), ?_, e4.2 (hT.ext e02), fun y g H5 x5 hy hg => ?_⟩
        · show [V.ref p, V.int st, V.int (0 + (i : Int))] = _
          rw [Int.zero_add]
        · refine k1 _ _ x5 (fun y' hy' => ?_) (fun z => by cases z)
          cases hy'
          have hpD : p ≠ D := fun z => by
            rw [z, nD] at hp2
            cases hp2
          exact ⟨y, g, rfl, SqT.of hy, .inl ⟨p, i, st, ps, hg, ⟨np, hpD⟩, RX.keep (RX.trans e4 x5) hp2 (fun _ z => nomatch z), hlp, by omega, h2, rfl⟩⟩
      rw [outs_all] at hw
      refine make_die (SqL.of hD) fun y dy w H4 s4 hy hw4 => q y H4 ((Xt.of e02).trans (x3.trans (Xt.of s4))) ?_
      unfold startN
      rw [if_neg hc]
      exact ⟨y, dy, w, _, rfl, hy, hw4, hw.imp fun v y r => r.mono rel_same s4 fun _ h => h.1⟩
theorem ok_drawn (F : FnP K "drawn" "drawn" s_drawn f fd) {cN : Value} (gP : mg "NoThrow" = some cN) (C_Die_after : Met P w K mg base 6 CD "after" (spDieAfter K T CT CD)) (C_Told_is_told : Met P w K mg base 1 CT "is_told" (spSay (.bl true))) (C_Die_is_told : Met P w K mg base 1 CD "is_told" (spSay (.bl false)))
    (C_Told_kept : Met P w K mg base 1 CT "kept" (spToldKept CT)) (C_Die_kept : Met P w K mg base 1 CD "kept" (spSay .non)) (m_enumerate : mg "enumerate" = none) : FnOk P w K mg base CX0 7 f fd ["node", "throws"] (spDrawn K T CT CD) := by
  refine F.ok c_drawn (fun vs H Q E h => ?_) (fun cdv A outer s H vs Q E hr h => ⟨_, PSs.nox (pss_cons (ps_for PassesOwn.never rfl (pi_enum (by rfl) m_enumerate (pa_cons (pv 1) pa_nil)) (pg_tup rfl (pgs_cons (pg_name (i := 2) c_drawn.nd rfl (Or.inl rfl)) (pgs_cons (pg_name (i := 3) c_drawn.nd rfl (Or.inl rfl)) pgs_nil))) (pss_one (ps_try_only (ts := fun _ _ _ => tNever) (Wout := fun _ _ _ _ => False) rfl rfl ⟨rfl, by decide, .inl gP⟩ LamX.takes0 (fun W pn xe tk _ => (pss_one (ps_set (i := 0) c_drawn.nd rfl (Or.inl rfl) (pe_mt C_Die_after hr (by decide) (pv 0) (pa_cons (pv 3) pa_nil))))) (fun _ _ _ _ _ _ _ => pss_never))))
      (pss_cons (ps_if (pt_not (pt_val (PE.or (pe_mt0 C_Told_is_told hr (by decide) (pv 0)) (pe_mt0 C_Die_is_told hr (by decide) (pv 0))))) pss_never pss_nil)
      (pss_one (ps_ret (PE.or (pe_mt0 C_Told_kept hr (by decide) (pv 0)) (pe_mt0 C_Die_kept hr (by decide) (pv 0))))))), ?_⟩)
  · obtain ⟨v, a, ok, n, rows, ks, rfl, _⟩ := h
    rfl
  · obtain ⟨v, a, ok, n, rows, ks, rfl, hn, ha, hl, hg, hT, q⟩ := h
    have RX := rel_xt T
    have hlm : (rows.map fun r => V.int r.2).length = rows.length := List.length_map ..
    refine ⟨_, rfl, a, _, rfl, ha, for_it (walk_enum (xs := rows.map fun r => V.int r.2)) (fun i σ H1 => ∃ (v : V) (y2 y3 : Option V) (n : Nd), σ = [some v, some (.ref a), y2, y3] ∧ Xt T H H1 ∧ NodeR (fun _ => True) K CT CD H1 v n ∧ Goes n (rows.drop i) ks)
      ⟨v, _, _, n, rfl, Xt.refl _, hn.mono rel_same (Same.refl _) (fun _ _ => trivial), hg⟩ (fun i σ H1 _ p => ?_) (fun i x σ H1 H2 hi p y => ?_) fun σ H1 p => ?_⟩
    · obtain ⟨_, _, _, _, _, e, _⟩ := p
      exact RX.sqL e ha
    · obtain ⟨v, y2, y3, n, rfl, e1, hn, hg⟩ := p
      obtain ⟨T1, x1, x2, rfl, nT, rfl, g1, g2⟩ := y
      cases g1
      have hi2 : i < rows.length := by omega
      have ed : rows.drop i = rows[i] :: rows.drop (i + 1) := List.drop_eq_getElem_cons hi2
      have ex : x2 = V.int rows[i].2 := by
        have g2 : (rows.map fun r => V.int r.2)[i]? = some x2 := g2
        rw [List.getElem?_map, List.getElem?_eq_getElem hi2] at g2
        exact (Option.some.inj g2).symm
      subst ex
      rw [ed] at hg
      have eT := sames nT (o := .tup [.int (i : Nat), .int rows[i].2])
      cases hg with
      | die _ _ _ _ hd hm h100 h0 hin hrest =>
        refine ⟨T1, _, rfl, SqT.of upd_same, rfl, _, _, rfl, _, _, rfl, rfl, ?_⟩
        have hdie := (hn.mono rel_same eT fun _ h => h).die hd
        obtain ⟨x, dx, ww, ws, rfl, hx, hw⟩ := id hdie
        refine ⟨_, rfl, x, dx, _, rfl, hx, rfl, _, rfl, _, rows[i].2, _, ways n, rfl, hdie, h100, h0, hin, (e1.2 hT).ext eT, fun y H3 x3 nr => ?_⟩
        exact ⟨_, _, _, _, rfl, e1.trans ((Xt.of eT).trans x3), nr, hrest⟩
    · obtain ⟨v, y2, y3, n, rfl, e1, hn, hg⟩ := p
      rw [hlm, List.drop_eq_nil_of_le (Nat.le_refl _)] at hg
      have en := hg.nil
      subst en
      obtain ⟨x, dx, t, rfl, hx, ht⟩ := hn
      refine .inl ⟨_, rfl, x, dx, _, rfl, hx, rfl, x, rfl, _, rfl, iteF ?_⟩
      refine .inl ⟨_, rfl, x, dx, _, rfl, hx, rfl, x, dx, t, rfl, hx, ?_⟩
      exact q t H1 e1 ht
end
end Fk
/-! D1: the law's thrown. -/
namespace Fk
open PySem PySem.Spec PyProof.Rows L2 LamX
theorem shaped_refl {d : PyData} (h : SeqAt.shaped d = true) : PyData.eqv d d = true := SeqAt.eqv_refl d (SeqAt.canLay_of_shaped h)
theorem ints_dpT {K : PySem.W.Frag} {H : Hp} {a : Addr} {ns : List Int} (h : SqT K H a (ns.map V.int)) : Dp K H (.ref a) (.tuple (ns.map intD)) := by
  refine .tup h ?_
  clear h
  induction ns with
  | nil => exact .nil
  | cons k ks ih => exact .cons (.int _) ih
theorem tup_shaped {α : Type} (f : α → PyData) {k : Nat} (hk : k ≤ 60) (h1 : ∀ x, (f x).canLay0 = true) (h2 : ∀ x, (f x).depth ≤ k) (l : List α) : SeqAt.shaped (.tuple (l.map f)) = true := by
  have a := depth_all f h2 l
  have b : PyData.depth (.tuple (l.map f)) ≤ 64 := by
    simp only [PyData.depth]
    omega
  show (PyData.canLay0 (.tuple (l.map f)) && decide (PyData.depth (.tuple (l.map f)) ≤ 64)) = true
  rw [Bool.and_eq_true]
  exact ⟨by simp only [PyData.canLay0]; exact lay_all f h1 l, decide_eq_true b⟩
theorem ints_shapedT (ks : List Int) : SeqAt.shaped (.tuple (ks.map intD)) = true := tup_shaped intD (k := 0) (by decide) (fun x => by simp [intD, PyData.canLay0]) (fun x => by simp [intD, PyData.depth]) ks
def spThrown (K : PySem.W.Frag) (T : List (Addr × Str)) (CT CD : Addr) : Sp := fun vs H Q _ => ∃ (v : V) (a k : Addr) (ok : Addr → Prop) (n : Nd) (rows : List (List Int × Int)) (ks : List Int), vs = [v, .ref a, .ref k] ∧ NodeR ok K CT CD H v n ∧ RowsLs K H a rows ∧ SqT K H k ((srt ks).map V.int) ∧ rows.length ≤ 100 ∧ Goes n rows ks ∧ Tabs T H ∧
  ∀ H', Xt T H H' → Q (.bl true) H'
section
variable {P : Program} {w : World} {K : PySem.W.Frag} {mg : Str → Option Value} {base : Heap} {f : Addr} {fd : FuncData} {CT CD CS CL : Addr} {T : List (Addr × Str)}
theorem ok_law_thrown (F : FnP K "_law_thrown" "_law_thrown" s__law_thrown f fd) (C_Die_after : Met P w K mg base 6 CD "after" (spDieAfter K T CT CD)) (C_Told_is_told : Met P w K mg base 1 CT "is_told" (spSay (.bl true))) (C_Die_is_told : Met P w K mg base 1 CD "is_told" (spSay (.bl false)))
    (C_Told_kept : Met P w K mg base 1 CT "kept" (spToldKept CT)) (C_Die_kept : Met P w K mg base 1 CD "kept" (spSay .non)) (C_Told_sides : Met P w K mg base 1 CT "sides" (spSay (.int 0))) (C_Die_sides : Met P w K mg base 1 CD "sides" (spDieSides K CD))
    (C_Told_parts : Met P w K mg base 1 CT "parts" spNilParts) (C_Die_parts : Met P w K mg base 6 CD "parts" (spDieParts K T CD)) (m_sum : mg "sum" = none) : FnOk P w K mg base CX0 7 f fd ["_law_node", "_law_rows", "_law_kept"] (spThrown K T CT CD) := by
  refine F.ok c__law_thrown (fun vs H Q E h => ?_) (fun cdv A outer s H vs Q E hr h => ⟨_, PSs.nox (pss_cons (ps_for PassesOwn.never rfl (pi_list (pv 1)) (pg_tup rfl (pgs_cons (pg_name (i := 3) c__law_thrown.nd rfl (Or.inl rfl)) (pgs_cons (pg_name (i := 4) c__law_thrown.nd rfl (Or.inl rfl)) pgs_nil))) (pss_cons (ps_if (PW.pt (pw_or (pt_val (PE.or (pe_mt0 C_Told_is_told hr (by decide) (pv 0)) (pe_mt0 C_Die_is_told hr (by decide) (pv 0)))) (pw_or (pt_cmpR op_notN (PE.or (pe_mt0 C_Told_kept hr (by decide) (pv 0)) (pe_mt0 C_Die_kept hr (by decide) (pv 0))) pe_non (nomark _)) (pw_or1 (pt_cmpR op_ne (PE.or (pe_mt0 C_Told_sides hr (by decide) (pv 0)) (pe_mt0 C_Die_sides hr (by decide) (pv 0))) (pe_callB (cr_sum rfl) (by rfl) m_sum (by decide +kernel) (pa_cons (pv 3) pa_nil)) (nomark _)))))) (pss_one (ps_ret pe_bl)) pss_nil)
      (pss_cons (ps_if (pt_cmpR (op_neD hr.units) (pe_lc (own := [("_law_many", 5), ("_law_part", 6)]) (g := (gTup K 2 (gCons (gName 5) (gCons (gName 6) gNil)))) (tt := tYes) rfl c__law_thrown.nd (pi_list (PE.or (pe_mt0 C_Told_parts hr (by decide) (pv 0)) (pe_mt0 C_Die_parts hr (by decide) (pv 0)))) (blkOk_by (own := [("_law_many", 5), ("_law_part", 6)]) (N := n__law_thrown) (sc := defScope s__law_thrown) (by decide +kernel)) (fun _ _ _ _ _ => (pg_tup rfl (pgs_cons (pg_name (i := 5) c__law_thrown.nd rfl (Or.inl rfl)) (pgs_cons (pg_name (i := 6) c__law_thrown.nd rfl (Or.inl rfl)) pgs_nil)))) (fun _ _ _ _ _ => pts_nil) (fun _ _ _ _ _ => (pv 5))) (pv 3) (nomark _)) (pss_one (ps_ret pe_bl)) pss_nil)
      (pss_one (ps_set (i := 0) c__law_thrown.nd rfl (Or.inl rfl) (pe_mt C_Die_after hr (by decide) (pv 0) (pa_cons (pv 4) pa_nil)))))))
      (pss_one (ps_ret (pe_and (PE.or (pe_mt0 C_Told_is_told hr (by decide) (pv 0)) (pe_mt0 C_Die_is_told hr (by decide) (pv 0))) (pe_and (pe_cmpR (op_eqD hr.units) (PE.or (pe_mt0 C_Told_kept hr (by decide) (pv 0)) (pe_mt0 C_Die_kept hr (by decide) (pv 0))) (pv 2) (nomark _)) (pe_and (pe_cmpR op_eq (PE.or (pe_mt0 C_Told_sides hr (by decide) (pv 0)) (pe_mt0 C_Die_sides hr (by decide) (pv 0))) pe_int (nomark _)) (pe_one (pe_cmpR (op_eqD hr.units) (PE.or (pe_mt0 C_Told_parts hr (by decide) (pv 0)) (pe_mt0 C_Die_parts hr (by decide) (pv 0))) (pe_lst pa_nil) (nomark _))))))))), ?_⟩)
  · obtain ⟨v, a, k, ok, n, rows, ks, rfl, _⟩ := h
    rfl
  · obtain ⟨v, a, k, ok, n, rows, ks, rfl, hn, ⟨rx, ha, hrx⟩, hk, hl, hg, hT, q⟩ := h
    have RX := rel_xt T
    refine ⟨_, rfl, a, rfl, ⟨_, ha⟩, for_it (walk_list (xs := rx)) (fun i σ H1 => ∃ (v : V) (y3 y4 y5 y6 : Option V) (n : Nd), σ = [some v, some (.ref a), some (.ref k), y3, y4, y5, y6] ∧ Xt T H H1 ∧ NodeR (fun _ => True) K CT CD H1 v n ∧ Goes n (rows.drop i) ks)
      ⟨v, _, _, _, _, n, rfl, Xt.refl _, hn.mono rel_same (Same.refl _) (fun _ _ => trivial), hg⟩ (fun i σ H1 _ p => ?_) (fun i x σ H1 H2 hi p y => ?_) fun σ H1 p => ?_⟩
    · obtain ⟨_, _, _, _, _, _, _, e, _⟩ := p
      exact RX.sqL e ha
    · obtain ⟨v, y3, y4, y5, y6, n, rfl, e1, hn, hg⟩ := p
      obtain ⟨rfl, gx⟩ := y
      have hi2 : i < rows.length := by
        rw [← hrx.1]
        exact hi
      have ed : rows.drop i = rows[i] :: rows.drop (i + 1) := List.drop_eq_getElem_cons hi2
      obtain ⟨r, er, hr1⟩ := hrx.getV gx
      rw [List.getElem?_eq_getElem hi2] at er
      cases er
      obtain ⟨t0, l0, rfl, ht0, hl0⟩ := hr1.mono RX e1
      rw [ed] at hg
      generalize rows[i] = r at *
      cases hg with
      | die _ _ _ _ hd hm h100 h0 hin hrest =>
        have hdie := hn.die hd
        obtain ⟨x, dx, ww, ws, rfl, hx, hw⟩ := id hdie
        refine ⟨t0, _, rfl, ht0, rfl, _, _, rfl, _, _, rfl, rfl, ?_⟩
        refine .inr ⟨_, rfl, x, dx, _, rfl, hx, rfl, x, rfl, _, rfl, iteF ?_⟩
        refine .inr ⟨_, rfl, x, dx, _, rfl, hx, rfl, x, rfl, rfl, _, rfl, iteF ?_⟩
        refine .inr ⟨_, rfl, x, dx, _, rfl, hx, rfl, _, _, _, rfl, hdie, h100, fun H3 s3 => ?_⟩
        refine ⟨_, rfl, l0, r.1, rfl, s3.seq hl0, rfl, _, rfl, ?_⟩
        rw [hm, decide_eq_true rfl]
        refine iteF ?_
        have x3 : Xt T H2 H3 := Xt.of s3
        refine .inr ⟨_, rfl, x, dx, _, rfl, s3 _ _ hx, rfl, _, _, _, rfl, DieR.mono rel_same s3 (fun _ h => h) hdie, h100, x3.2 (e1.2 hT), fun p xs H4 x4 hp hxs => ?_⟩
        refine ⟨p, rfl, ⟨_, hp⟩, fun D nD => lcE rel_same (R := fun _ v n => v = V.int n) (walk_list (xs := xs)) (fun j => some ((ways n).getD j (0, .told [])).1) nD (by rw [hxs.1]; omega)
          (fun H1 e => rel_same.sqL e hp) (fun i H1 x H2 e y => by rw [y.1]; exact Same.refl _) (fun _ _ _ _ _ _ r => r) (fun _ _ _ _ _ _ r => r) (fun j x5 H5 H6 acc C hj e5 e6 hD y k1 k2 => ?_) (fun H5 zs hD e5 hz => ?_)⟩
        · obtain ⟨rfl, gj⟩ := y
          obtain ⟨c, ec, b, u, rfl, hb⟩ := hxs.getV gj
          refine ⟨b, _, rfl, rel_same.sqT e6 hb, rfl, _, _, rfl, _, _, rfl, rfl, rfl, _, rfl, k1 _ _ (Same.refl _) (fun y hy => ?_) (fun z => by cases z)⟩
          cases hy
          show V.int c.1 = V.int ((ways n).getD j (0, .told [])).1
          rw [getD_of ec]
        · rw [hxs.1, map_outs (fun c : Int × Nd => c.1), hm] at hz
          have ex := allR_ints hz
          rw [ex] at hD
          have x5 : Xt T H2 H5 := x3.trans (x4.trans (Xt.of e5))
          refine ⟨_, rfl, _, _, ints_dp (SqL.of hD), ints_dp (RX.sqL x5 hl0), ints_shaped _, ints_shaped _, _, rfl, ?_⟩
          rw [shaped_refl (ints_shaped _)]
          refine iteF ?_
          refine ⟨_, rfl, x, dx, _, rfl, RX.keep x5 hx (fun _ z => nomatch z), rfl, _, rfl, _, r.2, _, ways n, rfl, hdie.mono RX x5 (fun _ h => h), h100, h0, hin, x5.2 (e1.2 hT), fun y H7 x7 nr => ?_⟩
          exact ⟨_, _, _, _, _, _, rfl, e1.trans (x5.trans x7), nr, hrest⟩
    · obtain ⟨v, y3, y4, y5, y6, n, rfl, e1, hn, hg⟩ := p
      rw [hrx.1, List.drop_eq_nil_of_le (Nat.le_refl _)] at hg
      have en := hg.nil
      subst en
      obtain ⟨x, dx, t, rfl, hx, ht⟩ := hn
      refine .inl ⟨_, rfl, x, dx, _, rfl, hx, rfl, x, rfl, _, rfl, iteT ?_⟩
      refine .inl ⟨_, rfl, x, dx, _, rfl, hx, rfl, x, dx, t, rfl, hx, ?_⟩
      refine ⟨_, rfl, _, _, ints_dpT ht, ints_dpT (RX.sqT e1 hk), ints_shapedT _, ints_shapedT _, _, rfl, ?_⟩
      rw [shaped_refl (ints_shapedT _)]
      refine iteT ?_
      refine .inl ⟨_, rfl, x, dx, _, rfl, hx, rfl, x, rfl, rfl, _, rfl, iteT ?_⟩
      refine .inl ⟨_, rfl, x, dx, _, rfl, hx, rfl, x, rfl, fun p H3 np s3 hp => ?_⟩
      refine ⟨Nat.zero_le _, fun o no => ?_⟩
      have s4 := sames no (o := .lst [])
      refine ⟨.list [], .list [], .lst (SqL.of (s4 _ _ hp)) .nil, .lst (SqL.of upd_same) .nil, ints_shaped [], ints_shaped [], ?_⟩
      rw [shaped_refl (d := .list []) (ints_shaped [])]
      exact q _ (e1.trans (Xt.of (s3.trans s4)))
end
end Fk
/-! D2: the law's right: what a plan tells. -/
namespace Fk
open PySem PySem.Spec PyProof.Rows L2 LamX
/-! ### a plan: Start or Loose -/
inductive Pl where
  | st (s : Int)
  | lo (m : Int) (ss : List (Int × Int))
def PlanR (CS CL : Addr) (H : Hp) (x : Addr) (cs : List (Int × Int)) : Pl → Prop
  | .st s => PlanI CS "step" H x s ∧ 1 ≤ s ∧ s ≤ 100
  | .lo m ss => PlanI CL "many" H x m ∧ 0 ≤ m ∧ m ≤ 24 ∧ IsW (cs.map (·.2)) m ss
def plN (cs : List (Int × Int)) : Pl → Nd
  | .st s => startN (cs.map (·.1)) s
  | .lo _ ss => looseN (cs.map (·.1)) ss []
def plM (cs : List (Int × Int)) : Pl → List (List (Int × Int))
  | .st s => stepM cs.length s
  | .lo _ ss => bothM ss
def plE (cs : List (Int × Int)) : Pl → List Int
  | .st s => [(cs.length : Int) / s, ((cs.length : Int) + s - 1) / s]
  | .lo _ ss => [((ss.countP fun p => decide (p = (1, 1)) : Nat) : Int), ((ss.countP fun p => !decide (p = (0, 1)) : Nat) : Int)]
section
variable {K : PySem.W.Frag} {T : List (Addr × Str)} {CT CD CS CL : Addr} {H H' : Hp} {x : Addr} {cs : List (Int × Int)} {pl : Pl}
theorem PlanI.mono {E : Hp → Hp → Prop} (R : Rel E) {C : Addr} {f : Str} {n : Int} (e : E H H') (h : PlanI C f H x n) : PlanI C f H' x n := by
  obtain ⟨dx, h⟩ := h
  exact ⟨dx, R.keep e h fun _ z => nomatch z⟩
theorem PlanR.mono {E : Hp → Hp → Prop} (R : Rel E) (e : E H H') (h : PlanR CS CL H x cs pl) : PlanR CS CL H' x cs pl := by
  cases pl with
  | st s => exact ⟨h.1.mono R e, h.2⟩
  | lo m ss => exact ⟨h.1.mono R e, h.2⟩
theorem node_ok {σ : L2.St} {i : Nat} {a : Addr} {ys : List Str} {Q : VK} (h0 : σ[0]? = some (some (.ref x))) (hi : σ[i]? = some (some (.ref a))) (hp : PlanR CS CL H x cs pl) (hcr : CrLs K H a cs ys) (hsz : SzOk (cs.map (·.2))) (hT : Tabs T H)
    (q : ∀ y H2, Xt T H H2 → NodeR (fun l => H l = none) K CT CD H2 (.ref y) (plN cs pl) → Q (.ref y) H2) :
    tMeth CS "node" (spStartNode K T CT CD CS) [] E0 (tVar 0) (tCons (tVar i) tNil) σ H Q ∨ tMeth CL "node" (spLooseNodeP K T CT CD CL) [] E0 (tVar 0) (tCons (tVar i) tNil) σ H Q := by
  have hl : cs.length ≤ 24 := by
    have := hsz.1
    rw [List.length_map] at this
    exact this
  cases pl with
  | st s =>
    obtain ⟨⟨dx, hx⟩, h1, h2⟩ := hp
    exact .inl ⟨_, h0, x, dx, _, rfl, hx, rfl, _, hi, x, a, cs, ys, s, rfl, ⟨dx, hx⟩, hcr, hl, h1, h2, hT, q⟩
  | lo m ss =>
    obtain ⟨⟨dx, hx⟩, h1, h2, hw⟩ := hp
    refine .inr ⟨_, h0, x, dx, _, rfl, hx, rfl, _, hi, x, a, cs, ys, m, rfl, ⟨dx, hx⟩, hcr, hsz, h1, h2, hT, fun ss' hw' y H2 x2 nr => q y H2 x2 ?_⟩
    rw [isW_one hw' hw] at nr
    exact nr
theorem matrix_ok {σ : L2.St} {i : Nat} {a : Addr} {ys : List Str} {Q : VK} (h0 : σ[0]? = some (some (.ref x))) (hi : σ[i]? = some (some (.ref a))) (hp : PlanR CS CL H x cs pl) (hcr : CrLs K H a cs ys) (hsz : SzOk (cs.map (·.2)))
    (q : ∀ p H2, Same H H2 → MxN K H H2 p (plM cs pl) → Q (.ref p) H2) :
    tMeth CS "matrix" (spStartMatrix K CS) [] E0 (tVar 0) (tCons (tVar i) tNil) σ H Q ∨ tMeth CL "matrix" (spLooseMatrix K CL) [] E0 (tVar 0) (tCons (tVar i) tNil) σ H Q := by
  have hl : cs.length ≤ 24 := by
    have := hsz.1
    rw [List.length_map] at this
    exact this
  cases pl with
  | st s =>
    obtain ⟨⟨dx, hx⟩, h1, h2⟩ := hp
    obtain ⟨xs, hS, hxs⟩ := hcr
    refine .inl ⟨_, h0, x, dx, _, rfl, hx, rfl, _, hi, x, a, xs, s, rfl, ⟨dx, hx⟩, hS, by rw [hxs.1]; exact hl, h1, h2, fun p H2 s2 mx => q p H2 s2 ?_⟩
    rw [hxs.1] at mx
    exact mx
  | lo m ss =>
    obtain ⟨⟨dx, hx⟩, h1, h2, hw⟩ := hp
    refine .inr ⟨_, h0, x, dx, _, rfl, hx, rfl, _, hi, x, a, cs, ys, m, rfl, ⟨dx, hx⟩, hcr, hsz, h1, h2, fun ss' hw' p H2 s2 mx => q p H2 s2 ?_⟩
    rw [isW_one hw' hw] at mx
    exact mx
theorem bounds_ok {σ : L2.St} {i : Nat} {a : Addr} {ys : List Str} {Q : VK} (h0 : σ[0]? = some (some (.ref x))) (hi : σ[i]? = some (some (.ref a))) (hp : PlanR CS CL H x cs pl) (hcr : CrLs K H a cs ys) (hsz : SzOk (cs.map (·.2)))
    (q : ∀ p H2, Same H H2 → SqT K H2 p ((plE cs pl).map V.int) → Q (.ref p) H2) :
    tMeth CS "bounds" (spStartBounds K CS) [] E0 (tVar 0) (tCons (tVar i) tNil) σ H Q ∨ tMeth CL "bounds" (spLooseBounds K CL) [] E0 (tVar 0) (tCons (tVar i) tNil) σ H Q := by
  cases pl with
  | st s =>
    obtain ⟨⟨dx, hx⟩, h1, h2⟩ := hp
    obtain ⟨xs, hS, hxs⟩ := hcr
    refine .inl ⟨_, h0, x, dx, _, rfl, hx, rfl, _, hi, x, a, xs, s, rfl, ⟨dx, hx⟩, hS, h1, h2, fun p H2 _ s2 hp => q p H2 s2 (SqT.of ?_)⟩
    rw [hp, hxs.1]
    rfl
  | lo m ss =>
    obtain ⟨⟨dx, hx⟩, h1, h2, hw⟩ := hp
    refine .inr ⟨_, h0, x, dx, _, rfl, hx, rfl, _, hi, x, a, cs, ys, m, rfl, ⟨dx, hx⟩, hcr, hsz, h1, h2, fun ss' hw' p H2 s2 hp => q p H2 s2 (SqT.of ?_)⟩
    rw [hp, isW_one hw' hw]
    rfl
end
/-! ### data -/
def crD (ys : List Str) (c : Int × Int) : PyData := .tuple [.int c.1, .int c.2, .tuple (ys.map PyData.str)]
theorem strs_dp {K : PySem.W.Frag} {H : Hp} {ys : List Str} : DpAll K H (ys.map V.str) (ys.map PyData.str) := by
  induction ys with
  | nil => exact .nil
  | cons y ys ih => exact .cons (.str y) ih
theorem crs_dp {K : PySem.W.Frag} {H : Hp} {a : Addr} {cs : List (Int × Int)} {ys : List Str} (h : CrLs K H a cs ys) : Dp K H (.ref a) (.list (cs.map (crD ys))) := by
  obtain ⟨xs, h1, h2⟩ := h
  exact .lst h1 (allR_dp (h2.imp fun v c ⟨b, t, e, z1, z2⟩ => by rw [e]; exact .tup z1 (.cons (.int _) (.cons (.int _) (.cons (.tup z2 strs_dp) .nil)))))
theorem crs_shaped (cs : List (Int × Int)) {ys : List Str} (o : YsOk ys) : SeqAt.shaped (.list (cs.map (crD ys))) = true := by
  have h1 : PyData.canLayAll0 (ys.map PyData.str) = true := by
    clear cs
    induction ys with
    | nil => simp [PyData.canLayAll0]
    | cons y ys ih =>
      have := o y (List.mem_cons_self ..)
      have h2 := ih fun z hz => o z (List.mem_cons_of_mem _ hz)
      simp [PyData.canLayAll0, PyData.canLay0, this, h2]
  have h2 : PyData.depthAll (ys.map PyData.str) ≤ 0 := depth_all PyData.str (fun x => by simp [PyData.depth]) ys
  refine list_shaped (crD ys) (k := 5) (by decide) (fun c => ?_) (fun c => ?_) cs
  · simp [crD, PyData.canLay0, PyData.canLayAll0, h1]
  · simp only [crD, PyData.depth, PyData.depthAll]
    omega
theorem row_dp {K : PySem.W.Frag} {H : Hp} {b : Addr} {r : List (Int × Int)} (h : FrLs K H b r) : Dp K H (.ref b) (.list (r.map frD)) := by
  obtain ⟨xs, h1, h2⟩ := h
  exact .lst h1 (allR_dp (h2.imp fun v p z => fr_dp z))
theorem row_shaped (r : List (Int × Int)) : SeqAt.shaped (.list (r.map frD)) = true := list_shaped frD (k := 1) (by decide) frD_lay (fun x => Nat.le_of_eq (frD_depth x)) r
theorem MxN.mx {K : PySem.W.Frag} {H0 H : Hp} {p : Addr} {M : List (List (Int × Int))} (h : MxN K H0 H p M) : MxLs K H p M := by
  obtain ⟨rs, _, h2, _, _, h5⟩ := h
  exact ⟨_, SqL.of h2, h5.imp fun v r ⟨b, xs, e, _, z1, z2⟩ => ⟨b, e, xs, SqL.of z1, z2⟩⟩
def spRight (K : PySem.W.Frag) (T : List (Addr × Str)) (CS CL : Addr) : Sp := fun vs H Q _ => ∃ (x c r k d e : Addr) (cs : List (Int × Int)) (ys : List Str) (pl : Pl) (rows : List (List Int × Int)) (ks : List Int), vs = [.ref x, .ref c, .ref r, .ref k, .ref d, .ref e] ∧
  PlanR CS CL H x cs pl ∧ CrLs K H c cs ys ∧ YsOk ys ∧ SzOk (cs.map (·.2)) ∧ RowsLs K H r rows ∧ rows.length ≤ 100 ∧ SqT K H k ((srt ks).map V.int) ∧ MxLs K H d (plM cs pl) ∧ SqT K H e ((plE cs pl).map V.int) ∧ Goes (plN cs pl) rows ks ∧ Tabs T H ∧ ∀ H', Xt T H H' → Q (.bl true) H'
section
variable {P : Program} {w : World} {K : PySem.W.Frag} {mg : Str → Option Value} {base : Heap} {f : Addr} {fd : FuncData} {CT CD CS CL : Addr} {T : List (Addr × Str)}
theorem ok_law_right (F : FnP K "_law_right" "_law_right" s__law_right f fd) (C_Start_node : Met P w K mg base 3 CS "node" (spStartNode K T CT CD CS)) (C_Loose_node : Met P w K mg base 5 CL "node" (spLooseNodeP K T CT CD CL))
    (C_Start_matrix : Met P w K mg base 2 CS "matrix" (spStartMatrix K CS)) (C_Loose_matrix : Met P w K mg base 5 CL "matrix" (spLooseMatrix K CL)) (C_Start_bounds : Met P w K mg base 1 CS "bounds" (spStartBounds K CS)) (C_Loose_bounds : Met P w K mg base 5 CL "bounds" (spLooseBounds K CL))
    (C_law_matrix : Cal P w K mg base 3 "_law_matrix" (spMatrixEq K)) (C_law_thrown : Cal P w K mg base 7 "_law_thrown" (spThrown K T CT CD)) (C_drawn : Cal P w K mg base 7 "drawn" (spDrawn K T CT CD)) (m_list : mg "list" = none) (m_zip : mg "zip" = none) :
    FnOk P w K mg base CX0 8 f fd ["_law_plan", "_law_crowd_here", "_law_rows", "_law_kept", "_law_due", "_law_ends"] (spRight K T CS CL) := by
  refine F.ok c__law_right (fun vs H Q E h => ?_) (fun cdv A outer s H vs Q E hr h => ⟨_, PSs.nox (pss_cons (ps_set (i := 6) c__law_right.nd rfl (Or.inl rfl) (pe_callTy call_list_of (by rfl) m_list (by decide +kernel) (pa_cons (pv 1) pa_nil)))
      (pss_cons (ps_set (i := 7) c__law_right.nd rfl (Or.inl rfl) (PE.or (pe_mt C_Start_node hr (by decide) (pv 0) (pa_cons (pv 6) pa_nil)) (pe_mt C_Loose_node hr (by decide) (pv 0) (pa_cons (pv 6) pa_nil))))
      (pss_cons (ps_set (i := 8) c__law_right.nd rfl (Or.inl rfl) (PE.or (pe_mt C_Start_matrix hr (by decide) (pv 0) (pa_cons (pv 6) pa_nil)) (pe_mt C_Loose_matrix hr (by decide) (pv 0) (pa_cons (pv 6) pa_nil))))
      (pss_cons (ps_if (PW.pt (pw_or (pt_not (pt_val (pe_c C_law_matrix hr (by decide) (by rfl) (pa_cons (pv 8) (pa_cons (pv 4) pa_nil))))) (pw_or (pt_cmpR (op_neD hr.units) (PE.or (pe_mt C_Start_bounds hr (by decide) (pv 0) (pa_cons (pv 6) pa_nil)) (pe_mt C_Loose_bounds hr (by decide) (pv 0) (pa_cons (pv 6) pa_nil))) (pv 5) (nomark _)) (pw_or1 (pt_cmpR (op_neD hr.units) (pv 6) (pv 1) (nomark _)))))) (pss_one (ps_ret pe_bl)) pss_nil)
      (pss_cons (ps_expr (pe_bm0 PySem.F.plainAttrs_list PySem.F.slot_list_clear PySem.F.type_list_clear mt_clear (pv 6)))
      (pss_cons (ps_for PassesOwn.never rfl (pi_zip (by rfl) m_zip (pa_cons (pv 8) (pa_cons (pv 4) pa_nil))) (pg_tup rfl (pgs_cons (pg_name (i := 9) c__law_right.nd rfl (Or.inl rfl)) (pgs_cons (pg_name (i := 10) c__law_right.nd rfl (Or.inl rfl)) pgs_nil))) (pss_cons (ps_if (pt_cmpR (op_neD hr.units) (pv 9) (pv 10) (nomark _)) (pss_one (ps_ret pe_bl)) pss_nil)
      (pss_one (ps_expr (pe_bm0 PySem.F.plainAttrs_list PySem.F.slot_list_clear PySem.F.type_list_clear mt_clear (pv 9))))))
      (pss_cons (ps_if (pt_not (pt_val (pe_c C_law_matrix hr (by decide) (by rfl) (pa_cons (PE.or (pe_mt C_Start_matrix hr (by decide) (pv 0) (pa_cons (pv 1) pa_nil)) (pe_mt C_Loose_matrix hr (by decide) (pv 0) (pa_cons (pv 1) pa_nil))) (pa_cons (pv 4) pa_nil))))) (pss_one (ps_ret pe_bl)) pss_nil)
      (pss_cons (ps_if (pt_not (pt_val (pe_c C_law_thrown hr (by decide) (by rfl) (pa_cons (pv 7) (pa_cons (pv 2) (pa_cons (pv 3) pa_nil)))))) (pss_one (ps_ret pe_bl)) pss_nil)
      (pss_one (ps_ret (pe_and (pe_cmpR (op_eqD hr.units) (pe_c C_drawn hr (by decide) (by rfl) (pa_cons (PE.or (pe_mt C_Start_node hr (by decide) (pv 0) (pa_cons (pv 1) pa_nil)) (pe_mt C_Loose_node hr (by decide) (pv 0) (pa_cons (pv 1) pa_nil))) (pa_cons (pe_lc (own := [("_law_sizes", 11), ("_law_throw", 12)]) (g := (gTup K 2 (gCons (gName 11) (gCons (gName 12) gNil)))) (tt := tYes) rfl c__law_right.nd (pi_list (pv 2)) (blkOk_by (own := [("_law_sizes", 11), ("_law_throw", 12)]) (N := n__law_right) (sc := defScope s__law_right) (by decide +kernel)) (fun _ _ _ _ _ => (pg_tup rfl (pgs_cons (pg_name (i := 11) c__law_right.nd rfl (Or.inl rfl)) (pgs_cons (pg_name (i := 12) c__law_right.nd rfl (Or.inl rfl)) pgs_nil)))) (fun _ _ _ _ _ => pts_nil) (fun _ _ _ _ _ => (pv 12))) pa_nil))) (pv 3) (nomark _)) (pe_one (pe_c C_law_thrown hr (by decide) (by rfl) (pa_cons (pv 7) (pa_cons (pv 2) (pa_cons (pv 3) pa_nil)))))))))))))))), ?_⟩)
  · obtain ⟨x, c, r, k, d, e, cs, ys, pl, rows, ks, rfl, _⟩ := h
    rfl
  · obtain ⟨x, c, r, k, d, e, cs, ys, pl, rows, ks, rfl, hP, hC, hys, hsz, hR, hl, hk, hd, he, hg, hT, q⟩ := h
    have RX := rel_xt T
    obtain ⟨cx, hCx, hcx⟩ := id hC
    -- handed = list(crowd)
    refine ⟨_, rfl, c, cx, rfl, .inl hCx, fun l nl => ?_⟩
    have s1 := sames nl (o := .lst cx)
    have hl1 : upd H l (.lst cx) l = some (.lst cx) := upd_same
    generalize upd H l (.lst cx) = H1 at *
    have hCl : CrLs K H1 l cs ys := ⟨cx, SqL.of hl1, hcx.imp fun v c r => r.mono rel_same s1⟩
    -- node = plan.node(handed)
    refine node_ok (i := 6) rfl rfl (hP.mono rel_same s1) hCl hsz (hT.ext s1) fun y H2 x2 nr => ?_
    have nr : NodeR (fun l' => l' ≠ l) K CT CD H2 (.ref y) (plN cs pl) := nr.mono rel_same (Same.refl _) fun l' h z => by
      rw [z, hl1] at h
      cases h
    have x02 : Xt T H H2 := (Xt.of s1).trans x2
    have hl2 : H2 l = some (.lst cx) := RX.keep x2 hl1 fun _ z => nomatch z
    -- found = plan.matrix(handed)
    refine matrix_ok (i := 6) rfl rfl (hP.mono RX x02) (hCl.mono RX x2) hsz fun p H3 s3 mx => ?_
    have x03 : Xt T H H3 := x02.trans (Xt.of s3)
    -- not matrix(found, due)
    refine ⟨_, rfl, _, rfl, p, d, _, rfl, mx.mx, hd.mono RX x03, fun H4 s4 => ⟨_, rfl, iteF ?_⟩⟩
    have x04 := x03.trans (Xt.of s4)
    -- bounds(handed) != ends
    refine bounds_ok (i := 6) rfl rfl (hP.mono RX x04) ((hCl.mono RX x2).mono rel_same (s3.trans s4)) hsz fun t H5 s5 ht => ?_
    have x05 := x04.trans (Xt.of s5)
    have s25 := s3.trans (s4.trans s5)
    refine ⟨_, rfl, _, _, ints_dpT ht, ints_dpT (RX.sqT x05 he), ints_shapedT _, ints_shapedT _, _, rfl, ?_⟩
    rw [shaped_refl (ints_shapedT _)]
    refine iteF ?_
    -- handed != crowd
    refine ⟨_, rfl, _, rfl, _, _, crs_dp ((hCl.mono RX x2).mono rel_same s25), crs_dp (hC.mono RX x05), crs_shaped cs hys, crs_shaped cs hys, _, rfl, ?_⟩
    rw [shaped_refl (crs_shaped cs hys)]
    refine iteF ?_
    -- handed.clear()
    have hl5 := s25 _ _ hl2
    refine ⟨_, rfl, .inl ⟨rfl, _, SqL.of hl5⟩, l, _, rfl, rfl, hl5, ?_⟩
    -- the heap behind the node, handed emptied: what all that follows is new to
    have xB : Xt T H (upd H2 l (.lst [])) := RX.chg x02 nl hl2
    have nB : NodeR (fun l' => l' ≠ l) K CT CD (upd H2 l (.lst [])) (.ref y) (plN cs pl) := nr.chg hl2 fun _ h => h
    have sB : Same (upd H2 l (.lst [])) (upd H5 l (.lst [])) := fun b o eb => by
      by_cases hb : b = l
      · subst hb
        rw [upd_same] at eb ⊢
        exact eb
      · rw [upd_ne hb] at eb ⊢
        exact s25 _ _ eb
    obtain ⟨rs, np, hp3, nd, pnr, hrs⟩ := mx
    have npl : p ≠ l := fun z => by
      rw [z, hl2] at np
      cases np
    have hp6 : upd H5 l (.lst []) p = some (.lst (rs.map V.ref)) := by
      rw [upd_ne npl]
      exact (s4.trans s5) _ _ hp3
    have hrs6 : AllR (RwN K (upd H2 l (.lst [])) (upd H5 l (.lst []))) (rs.map V.ref) (plM cs pl) := hrs.imp fun v r z => by
      obtain ⟨b, xs, rfl, nb, z1, z2⟩ := z
      have nbl : b ≠ l := fun z => by
        rw [z, hl2] at nb
        cases nb
      exact RwN.chg hl5 nbl ⟨b, xs, rfl, by rw [upd_ne nbl]; exact nb, (s4.trans s5) _ _ z1, z2.imp fun v p r => r.mono rel_same (s4.trans s5)⟩
    have npB : upd H2 l (.lst []) p = none := by
      rw [upd_ne npl]
      exact np
    have xB6 : Xt T (upd H2 l (.lst [])) (upd H5 l (.lst [])) := Xt.of sB
    generalize upd H2 l (.lst []) = B at *
    generalize upd H5 l (.lst []) = H6 at *
    have hdB := hd.mono RX xB
    obtain ⟨dx, hdx, hdr⟩ := hdB
    have hlen : (rs.map V.ref).length = dx.length := by rw [hrs6.1, hdr.1]
    refine ⟨_, rfl, _, rfl, p, d, _, dx, rfl, SqL.of hp6, RX.sqL xB6 hdx, for_it (walk_zip (xs := rs.map V.ref) (ys := dx) (n := (plM cs pl).length) (by rw [← hlen, hrs6.1]; omega)) (fun i σ H' => ∃ (y9 y10 y11 y12 : Option V), σ = [some (.ref x), some (.ref c), some (.ref r), some (.ref k), some (.ref d), some (.ref e), some (.ref l), some (.ref y), some (.ref p), y9, y10, y11, y12] ∧
        Xt T B H' ∧ H' p = some (.lst (rs.map V.ref)) ∧ AllR (RwN K B H') ((rs.drop i).map V.ref) ((plM cs pl).drop i))
      ⟨_, _, _, _, rfl, xB6, hp6, hrs6⟩ (fun i σ H' _ z => ?_) (fun i v σ H' H'' hi z yy => ?_) fun σ H' z => ?_⟩
    · obtain ⟨_, _, _, _, _, e1, e2, _⟩ := z
      exact ⟨SqL.of e2, RX.sqL e1 hdx⟩
    · obtain ⟨y9, y10, y11, y12, rfl, e1, hp1, hr1⟩ := z
      obtain ⟨T1, v1, v2, rfl, nT, rfl, g1, g2⟩ := yy
      have g1 : (rs.map V.ref)[i]? = some v1 := g1
      have g2 : dx[i]? = some v2 := g2
      have hlr : rs.length = (plM cs pl).length := by
        have := hrs6.1
        rw [List.length_map] at this
        exact this
      have hi2 : i < rs.length := by omega
      rw [List.getElem?_map, List.getElem?_eq_getElem hi2] at g1
      cases g1
      have ed : rs.drop i = rs[i] :: rs.drop (i + 1) := List.drop_eq_getElem_cons hi2
      have em : (plM cs pl).drop i = (plM cs pl)[i] :: (plM cs pl).drop (i + 1) := List.drop_eq_getElem_cons hi
      have nin : rs[i] ∉ rs.drop (i + 1) := by
        have h := nd.sublist (List.drop_sublist i rs)
        rw [ed] at h
        exact (List.nodup_cons.mp h).1
      have npi : p ≠ rs[i] := fun z => pnr (z ▸ List.getElem_mem hi2)
      rw [ed, em, List.map_cons] at hr1
      have hd0 : RwN K B H' (.ref rs[i]) (plM cs pl)[i] := hr1.2 0 _ _ rfl rfl
      have tl : AllR (RwN K B H') ((rs.drop (i + 1)).map V.ref) ((plM cs pl).drop (i + 1)) := hr1.drop 1
      obtain ⟨r2, er2, b2, rfl, hb2⟩ := hdr.getV g2
      rw [List.getElem?_eq_getElem hi] at er2
      cases er2
      generalize (plM cs pl)[i] = row at *
      generalize rs[i] = b at *
      have sT := sames nT (o := .tup [.ref b, .ref b2])
      have eT := e1.trans (Xt.of sT)
      obtain ⟨b', xs, eb, nb, hb, hxs⟩ := hd0.mono sT
      cases eb
      have hpT := sT _ _ hp1
      have tlT := tl.imp fun v r z => z.mono sT
      refine ⟨T1, _, rfl, SqT.of upd_same, rfl, _, _, rfl, _, _, rfl, rfl, ?_⟩
      generalize upd H' T1 (.tup [.ref b, .ref b2]) = H'' at *
      refine ⟨_, rfl, _, rfl, _, _, row_dp ⟨xs, SqL.of hb, hxs⟩, row_dp (hb2.mono RX eT), row_shaped _, row_shaped _, _, rfl, ?_⟩
      rw [shaped_refl (row_shaped _)]
      refine iteF ?_
      refine ⟨_, rfl, .inl ⟨rfl, _, SqL.of hb⟩, b, _, rfl, rfl, hb, ?_⟩
      refine ⟨_, _, _, _, rfl, RX.chg eT nb hb, by rw [upd_ne npi]; exact hpT, tlT.1, fun j v r hv hr => ?_⟩
      have h1 := tlT.2 j v r hv hr
      rw [List.getElem?_map] at hv
      cases hj : (rs.drop (i + 1))[j]? with
      | none =>
        rw [hj] at hv
        cases hv
      | some b3 =>
        rw [hj] at hv
        cases hv
        exact h1.chg hb fun z => nin (z ▸ List.mem_of_getElem? hj)
    · obtain ⟨y9, y10, y11, y12, rfl, x7, hp7, _⟩ := z
      have xH7 := xB.trans x7
      -- not matrix(plan.matrix(crowd), due)
      refine matrix_ok (i := 1) rfl rfl (hP.mono RX xH7) (hC.mono RX xH7) hsz fun p2 H8 s8 mx2 => ?_
      have xH8 := xH7.trans (Xt.of s8)
      refine ⟨_, rfl, p2, d, _, rfl, mx2.mx, hd.mono RX xH8, fun H9 s9 => ⟨_, rfl, iteF ?_⟩⟩
      have xH9 := xH8.trans (Xt.of s9)
      have xB9 := x7.trans (Xt.of (s8.trans s9))
      -- not thrown(node, rows, kept)
      refine ⟨_, rfl, _, rfl, _, rfl, .ref y, r, k, _, _, rows, ks, rfl, nB.mono RX xB9 (fun _ h => h), hR.mono RX xH9, RX.sqT xH9 hk, hl, hg, xH9.2 hT, fun H10 x10 => ⟨_, rfl, iteF ?_⟩⟩
      have xH10 := xH9.trans x10
      have xB10 := xB9.trans x10
      -- drawn(plan.node(crowd), [..]) == kept
      refine node_ok (i := 1) rfl rfl (hP.mono RX xH10) (hC.mono RX xH10) hsz (xH10.2 hT) fun y2 H11 x11 nr2 => ?_
      have xH11 := xH10.trans x11
      obtain ⟨rx, hrx, hrr⟩ := hR.mono RX xH11
      refine ⟨_, rfl, r, rfl, ⟨_, hrx⟩, fun D nD => lcE rel_same (R := fun _ v n => v = V.int n) (walk_list (xs := rx)) (fun j => some ((rows.getD j ([], 0)).2)) nD (by rw [hrr.1]; omega)
        (fun H1 e => rel_same.sqL e hrx) (fun i H1 x H2 e y => by rw [y.1]; exact Same.refl _) (fun _ _ _ _ _ _ r => r) (fun _ _ _ _ _ _ r => r) (fun j x5 H5 H6 acc C hj e5 e6 hD y k1 k2 => ?_) (fun H12 zs hD s12 hz => ?_)⟩
      · obtain ⟨rfl, gj⟩ := y
        obtain ⟨c, ec, b, u, rfl, hb, _⟩ := hrr.getV gj
        refine ⟨b, _, rfl, rel_same.sqT e6 hb, rfl, _, _, rfl, _, _, rfl, rfl, rfl, _, rfl, k1 _ _ (Same.refl _) (fun y hy => ?_) (fun z => by cases z)⟩
        cases hy
        show V.int c.2 = V.int ((rows.getD j ([], 0)).2)
        rw [getD_of ec]
      · rw [hrr.1, map_outs (fun c : List Int × Int => c.2)] at hz
        have ex := allR_ints hz
        rw [ex, List.map_map] at hD
        have xH12 := xH11.trans (Xt.of s12)
        refine ⟨.ref y2, D, _, _, rows, ks, rfl, nr2.mono rel_same s12 (fun _ h => h), SqL.of hD, hl, hg, xH12.2 hT, fun t2 H13 x13 ht2 => ?_⟩
        have xH13 := xH12.trans x13
        refine ⟨_, rfl, _, _, ints_dpT ht2, ints_dpT (RX.sqT xH13 hk), ints_shapedT _, ints_shapedT _, _, rfl, ?_⟩
        rw [shaped_refl (ints_shapedT _)]
        refine iteT ?_
        refine ⟨_, rfl, _, rfl, _, rfl, .ref y, r, k, _, _, rows, ks, rfl, nB.mono RX (xB10.trans (x11.trans ((Xt.of s12).trans x13))) (fun _ h => h), hR.mono RX xH13, RX.sqT xH13 hk, hl, hg, xH13.2 hT, fun H14 x14 => ?_⟩
        exact q H14 (xH13.trans x14)
end
end Fk
/-! D3: what the law says is due goes along the plans' nodes. -/
namespace Fk
open PySem PySem.Spec PyProof.Rows L2 LamX
theorem in_ones (f : Nat → Nd) : ∀ (m i : Nat) (t : Int), 0 ≤ t → t < m → inW ((List.range' i m).map fun k => ((1 : Int), f k)) t ∧ atW ((List.range' i m).map fun k => ((1 : Int), f k)) t = f (i + t.toNat)
  | 0, i, t, h0, h1 => by omega
  | m + 1, i, t, h0, h1 => by
    show inW (((1 : Int), f i) :: (List.range' (i + 1) m).map fun k => ((1 : Int), f k)) t ∧ atW (((1 : Int), f i) :: (List.range' (i + 1) m).map fun k => ((1 : Int), f k)) t = _
    rw [inW, atW]
    by_cases h : t < 1
    · have : t = 0 := by omega
      subst this
      exact ⟨.inl h, by rw [if_pos h]; rfl⟩
    · obtain ⟨a, b⟩ := in_ones f m (i + 1) (t - 1) (by omega) (by omega)
      refine ⟨.inr a, ?_⟩
      rw [if_neg h, b]
      congr 1
      omega
theorem goes_start {ps : List Int} {st t : Int} (h1 : 1 ≤ st) (h2 : st ≤ 100) : Goes (startN ps st) (startRows ps st t).1 (startRows ps st t).2 := by
  unfold startN startRows
  by_cases h : st = 1 ∨ ps = []
  · rw [if_pos h, if_pos h]
    exact .told _
  · rw [if_neg h, if_neg h]
    have r0 := Int.emod_nonneg t (show st ≠ 0 by omega)
    have r1 := Int.emod_lt_of_pos t (show 0 < st by omega)
    obtain ⟨a, b⟩ := in_ones (fun k : Nat => Nd.told (pickM ps st k)) st.toNat 0 (t % st) r0 (by omega)
    have ew : ways (.strt ps st) = (List.range' 0 st.toNat).map fun k : Nat => ((1 : Int), Nd.told (pickM ps st k)) := by
      rw [← List.range_eq_range']
      rfl
    have et : ((0 + (t % st).toNat : Nat) : Int) = t % st := by omega
    refine .die _ _ _ _ trivial ?_ ?_ r0 (by rw [ew]; exact a) ?_
    · show List.map _ ((List.range st.toNat).map _) = _
      rw [List.map_map]
      rfl
    · rw [ew, List.length_map, List.length_range']
      omega
    · rw [ew, b, et]
      exact .told _
theorem goes_loose {ps : List Int} {ss : List (Int × Int)} {ts : List Int} (hl : ps.length = ss.length) (hok : ∀ p ∈ ss, ShOk p) : ∀ (m k : Nat), k + m = ps.length →
    Goes (looseN (ps.drop k) (ss.drop k) (outs (loKept ps ss ts) k)) ((List.range' k m).filterMap (loRow ss ts)) (outs (loKept ps ss ts) ps.length)
  | 0, k, hk => by
    have : k = ps.length := by omega
    subst this
    rw [List.drop_eq_nil_of_le (by omega : ss.length ≤ ps.length), looseN]
    exact .told _
  | m + 1, k, hk => by
    have ih := goes_loose (ts := ts) hl hok m (k + 1) (by omega)
    have hks : k < ss.length := by omega
    have ed : ss.drop k = ((fz ss k).1, (fz ss k).2) :: ss.drop (k + 1) := by
      rw [List.drop_eq_getElem_cons hks]
      have : fz ss k = ss[k] := getD_of (List.getElem?_eq_getElem hks)
      rw [this]
    have ep : (ps.drop k).take 1 = [zf ps k] := by
      have hkp : k < ps.length := by omega
      rw [List.drop_eq_getElem_cons hkp]
      have : zf ps k = ps[k] := getD_of (List.getElem?_eq_getElem hkp)
      rw [this]
      rfl
    have ed1 : (ps.drop k).drop 1 = ps.drop (k + 1) := by rw [List.drop_drop]
    obtain ⟨_, _, hb, _⟩ := fz_ok hok hks
    have t0 : 0 ≤ thz ss ts k := Int.emod_nonneg _ (by omega)
    have t1 : thz ss ts k < (fz ss k).2 := Int.emod_lt_of_pos _ hb
    rw [List.range'_succ, ed, outs_succ] at *
    by_cases ho : 0 < (fz ss k).1 ∧ (fz ss k).1 < (fz ss k).2
    · have er : loRow ss ts k = some ([(fz ss k).1, (fz ss k).2 - (fz ss k).1], thz ss ts k) := if_pos ho
      rw [List.filterMap_cons_some er, looseN, if_pos ho]
      refine .die _ _ _ _ trivial rfl (by show 2 ≤ 100; decide) t0 ?_ ?_
      · show inW [((fz ss k).1, _), ((fz ss k).2 - (fz ss k).1, _)] (thz ss ts k)
        by_cases h : thz ss ts k < (fz ss k).1
        · exact .inl h
        · exact .inr (.inl (by omega))
      · show Goes (atW [((fz ss k).1, looseN ((ps.drop k).drop 1) (ss.drop (k + 1)) (outs (loKept ps ss ts) k ++ (ps.drop k).take 1)), ((fz ss k).2 - (fz ss k).1, looseN ((ps.drop k).drop 1) (ss.drop (k + 1)) (outs (loKept ps ss ts) k))] (thz ss ts k)) _ _
        rw [atW, ed1, ep]
        by_cases h : thz ss ts k < (fz ss k).1
        · have e2 : loKept ps ss ts k = some (zf ps k) := if_pos h
          rw [e2] at ih
          rw [if_pos h]
          exact ih
        · have e2 : loKept ps ss ts k = none := if_neg h
          rw [e2] at ih
          rw [if_neg h, atW, if_pos (by omega)]
          simpa using ih
    · have er : loRow ss ts k = none := if_neg ho
      rw [List.filterMap_cons_none er, looseN, if_neg ho, ed1, ep]
      by_cases h : 0 < (fz ss k).1
      · have e2 : loKept ps ss ts k = some (zf ps k) := if_pos (by omega)
        rw [e2] at ih
        rw [if_pos h]
        exact ih
      · have e2 : loKept ps ss ts k = none := if_neg (by omega)
        rw [e2] at ih
        rw [if_neg h]
        simpa using ih
theorem goes_loose0 {ps : List Int} {ss : List (Int × Int)} {ts : List Int} (hl : ps.length = ss.length) (hok : ∀ p ∈ ss, ShOk p) : Goes (looseN ps ss []) (outs (loRow ss ts) ps.length) (outs (loKept ps ss ts) ps.length) := by
  have h := goes_loose (ts := ts) hl hok ps.length 0 (by omega)
  have e : outs (loRow ss ts) ps.length = (List.range' 0 ps.length).filterMap (loRow ss ts) := by
    unfold outs
    rw [List.range_eq_range']
  rw [e]
  exact h
theorem count_eqv (ss : List (Int × Int)) (p : Int × Int) : (ss.map frD).countP (fun z => PyData.eqv z (frD p)) = ss.countP fun q => decide (q = p) := by
  rw [List.countP_map]
  congr 1
  funext q
  exact eqv_fr q p
theorem count_rest (ss : List (Int × Int)) (p : Int × Int) : (ss.length : Int) - ((ss.countP fun q => decide (q = p) : Nat) : Int) = ((ss.countP fun q => !decide (q = p) : Nat) : Int) := by
  have h := List.length_eq_countP_add_countP (fun q => decide (q = p)) (l := ss)
  have e : (fun a => decide ¬decide (a = p) = true) = fun q => !decide (q = p) := by
    funext a
    by_cases h : a = p <;> simp [h]
  rw [e] at h
  omega
end Fk
/-! D4: the law. -/
namespace Fk
open PySem PySem.Spec PyProof.Rows L2 LamX
theorem u65 {k : Nat} {A : Around} (r : Room k A) : A.units + 65 < cLine := by
  have := r.un
  omega
/-- the heap of a new plan -/
def mkI (H : Hp) (C : Addr) (g : Str) (n : Int) (x dx : Addr) : Hp := upd (upd (upd H dx (.own x)) x (.ins C dx [])) x (.ins C dx [(g, .int n)])
theorem mkI_same {C : Addr} {g : Str} {n : Int} {H : Hp} {x dx : Addr} (nx : H x = none) (nd : H dx = none) : Same H (mkI H C g n x dx) := fun b o e => by
  have b1 := ne_of_none e nx
  unfold mkI
  rw [upd_ne b1, upd_ne b1, upd_ne (ne_of_none e nd)]
  exact e
theorem mkI_at {C : Addr} {g : Str} {n : Int} {H : Hp} {x dx : Addr} : mkI H C g n x dx x = some (.ins C dx [(g, .int n)]) := upd_same
theorem two_at {i : Int} (h0 : 0 ≤ i) (h : i < 2) : ∃ mo : Int, atI [V.int 100, V.int 6] i = some (.int mo) ∧ 1 ≤ mo ∧ mo ≤ 100 := by
  have : i = 0 ∨ i = 1 := by omega
  rcases this with rfl | rfl
  · exact ⟨100, rfl, by decide, by decide⟩
  · exact ⟨6, rfl, by decide, by decide⟩
def spLaw (K : PySem.W.Frag) (T : List (Addr × Str)) : Sp := fun vs H Q _ => ∃ (a : Addr) (ns : List Int), vs = [.ref a] ∧ SqL K H a (ns.map V.int) ∧ Tabs T H ∧ ∀ H', Q (.bl true) H'
section
variable {P : Program} {w : World} {K : PySem.W.Frag} {mg : Str → Option Value} {base : Heap} {f : Addr} {fd : FuncData} {CT CD CS CL : Addr} {T : List (Addr × Str)}
theorem ok_law (F : FnP K "law" "law" s_law f fd) (c1 : Cls K CS) (n1 : NoAttr K CS "step") (c2 : Cls K CL) (n2 : NoAttr K CL "many") (C_law_crowd : Cal P w K mg base 3 "_law_crowd" (spCrowd K)) (C_law_row : Cal P w K mg base 2 "_law_row" spRow) (C_law_cell : Cal P w K mg base 1 "_law_cell" (spCell K))
    (C_law_start : Cal P w K mg base 1 "_law_start" (spLawStart K)) (C_law_right : Cal P w K mg base 8 "_law_right" (spRight K T CS CL)) (C_law_steps : Cal P w K mg base 1 "_law_steps" (spLawSteps K)) (C_law_wished : Cal P w K mg base 2 "_law_wished" (spWished K))
    (C_law_loose : Cal P w K mg base 1 "_law_loose" (spLawLoose K)) (C_law_both : Cal P w K mg base 3 "_law_both" (spLawBoth K)) (C_Start : Mak P w K mg base 2 "Start" CS (spIntInit CS "step" 100 1)) (C_Loose : Mak P w K mg base 2 "Loose" CL (spIntInit CL "many" 24 0))
    (C_Start_text : Met P w K mg base 1 CS "text" (spText CS "step" "start ")) (C_Loose_text : Met P w K mg base 1 CL "text" (spText CL "many" "loose ")) (m_len : mg "len" = none) (m_str : mg "str" = none) :
    FnOk P w K mg base CX0 9 f fd ["_law_script"] (spLaw K T) := by
  refine F.ok c_law (fun vs H Q E h => ?_) (fun cdv A outer s H vs Q E hr h => ⟨_, PSs.nox (pss_cons (ps_set (i := 1) c_law.nd rfl (Or.inl rfl) (pe_c C_law_crowd hr (by decide) (by rfl) (pa_cons (pv 0) (pa_cons pe_int (pa_cons pe_int pa_nil)))))
      (pss_cons (ps_setLc (i := 2) (own := [("_law_row_here", 10)]) (g := (gName 10)) (tt := tYes) rfl c_law.nd rfl rfl (sw_true rfl rfl rfl (by decide +kernel)) (pi_list (pv 1)) (blkOk_by (own := [("_law_row_here", 10)]) (N := n_law) (sc := defScope s_law) (by decide +kernel)) (fun _ _ _ _ _ => (pg_name (i := 10) c_law.nd rfl (Or.inl rfl))) (fun _ _ _ _ _ => pts_nil) (fun _ _ _ _ _ => (pe_ix (r := rIxT K) ix_tup (pv 10) pe_int (fun _ _ => rfl))))
      (pss_cons (ps_set (i := 3) c_law.nd rfl (Or.inl rfl) (pe_c C_law_row hr (by decide) (by rfl) (pa_cons (pe_c C_law_cell hr (by decide) (by rfl) (pa_cons (pv 0) (pa_cons pe_int pa_nil))) (pa_cons (pe_c C_law_cell hr (by decide) (by rfl) (pa_cons (pv 0) (pa_cons pe_int pa_nil))) (pa_cons pe_int (pa_cons (pe_op op_pow pe_int pe_int) pa_nil))))))
      (pss_cons (ps_set (i := 4) c_law.nd rfl (Or.inl rfl) (pe_op op_add pe_int (pe_op op_mod (pe_op op_fdivW (pe_c C_law_cell hr (by decide) (by rfl) (pa_cons (pv 0) (pa_cons pe_int pa_nil))) pe_int) (pe_ix ix_list (pe_lst (pa_cons pe_int (pa_cons pe_int pa_nil))) (pe_op op_mod (pe_c C_law_cell hr (by decide) (by rfl) (pa_cons (pv 0) (pa_cons pe_int pa_nil))) pe_int) (fun _ _ => rfl)))))
      (pss_cons (ps_asg (pe_c C_law_start hr (by decide) (by rfl) (pa_cons (pv 2) (pa_cons (pv 4) (pa_cons (pe_ix ix_list (pv 3) pe_int (fun _ _ => rfl)) pa_nil)))) (pg_tup rfl (pgs_cons (pg_name (i := 5) c_law.nd rfl (Or.inl rfl)) (pgs_cons (pg_name (i := 6) c_law.nd rfl (Or.inl rfl)) pgs_nil))))
      (pss_cons (ps_set (i := 7) c_law.nd rfl (Or.inl rfl) (pe_tup (pa_cons (pe_op op_fdivW (pe_callB call_len_seq (by rfl) m_len PySem.boot_len (pa_cons (pv 1) pa_nil)) (pv 4)) (pa_cons (pe_op op_fdivW (pe_op op_sub (pe_op op_add (pe_callB call_len_seq (by rfl) m_len PySem.boot_len (pa_cons (pv 1) pa_nil)) (pv 4)) pe_int) (pv 4)) pa_nil))))
      (pss_cons (ps_if (pt_not (pt_val (pe_c C_law_right hr (by decide) (by rfl) (pa_cons (pe_mk C_Start hr (by decide) (by rfl) (pa_cons (pv 4) pa_nil)) (pa_cons (pv 1) (pa_cons (pv 5) (pa_cons (pv 6) (pa_cons (pe_c C_law_steps hr (by decide) (by rfl) (pa_cons (pe_callB call_len_seq (by rfl) m_len PySem.boot_len (pa_cons (pv 1) pa_nil)) (pa_cons (pv 4) pa_nil))) (pa_cons (pv 7) pa_nil))))))))) (pss_one (ps_ret pe_bl)) pss_nil)
      (pss_cons (ps_set (i := 8) c_law.nd rfl (Or.inl rfl) (pe_op op_mod (pe_c C_law_cell hr (by decide) (by rfl) (pa_cons (pv 0) (pa_cons pe_int pa_nil))) pe_int))
      (pss_cons (ps_set (i := 9) c_law.nd rfl (Or.inl rfl) (pe_c C_law_wished hr (by decide) (by rfl) (pa_cons (pe_lc (own := [("_law_row_here", 10)]) (g := (gName 10)) (tt := tYes) rfl c_law.nd (pi_list (pv 1)) (blkOk_by (own := [("_law_row_here", 10)]) (N := n_law) (sc := defScope s_law) (by decide +kernel)) (fun _ _ _ _ _ => (pg_name (i := 10) c_law.nd rfl (Or.inl rfl))) (fun _ _ _ _ _ => pts_nil) (fun _ _ _ _ _ => (pe_ix (r := rIxT K) ix_tup (pv 10) pe_int (fun _ _ => rfl)))) (pa_cons (pv 8) pa_nil))))
      (pss_cons (ps_asg (pe_c C_law_loose hr (by decide) (by rfl) (pa_cons (pv 2) (pa_cons (pv 9) (pa_cons (pv 3) pa_nil)))) (pg_tup rfl (pgs_cons (pg_name (i := 5) c_law.nd rfl (Or.inl rfl)) (pgs_cons (pg_name (i := 6) c_law.nd rfl (Or.inl rfl)) pgs_nil))))
      (pss_cons (ps_set (i := 7) c_law.nd rfl (Or.inl rfl) (pe_tup (pa_cons (pe_bm PySem.F.plainAttrs_list PySem.F.slot_list_count PySem.F.type_list_count (mt_countD (u65 hr)) (pv 9) (pa_cons (pe_tup (pa_cons pe_int (pa_cons pe_int pa_nil))) pa_nil)) (pa_cons (pe_op op_sub (pe_callB call_len_seq (by rfl) m_len PySem.boot_len (pa_cons (pv 9) pa_nil)) (pe_bm PySem.F.plainAttrs_list PySem.F.slot_list_count PySem.F.type_list_count (mt_countD (u65 hr)) (pv 9) (pa_cons (pe_tup (pa_cons pe_int (pa_cons pe_int pa_nil))) pa_nil))) pa_nil))))
      (pss_cons (ps_if (pt_not (pt_val (pe_c C_law_right hr (by decide) (by rfl) (pa_cons (pe_mk C_Loose hr (by decide) (by rfl) (pa_cons (pv 8) pa_nil)) (pa_cons (pv 1) (pa_cons (pv 5) (pa_cons (pv 6) (pa_cons (pe_c C_law_both hr (by decide) (by rfl) (pa_cons (pv 9) pa_nil)) (pa_cons (pv 7) pa_nil))))))))) (pss_one (ps_ret pe_bl)) pss_nil)
      (pss_cons (ps_if (pt_cmpR (op_neD hr.units) (pe_tup (pa_cons (pe_fld (pe_mk C_Start hr (by decide) (by rfl) (pa_cons (pv 4) pa_nil)) rfl) (pa_cons (pe_fld (pe_mk C_Loose hr (by decide) (by rfl) (pa_cons (pv 8) pa_nil)) rfl) pa_nil))) (pe_tup (pa_cons (pv 4) (pa_cons (pv 8) pa_nil))) (nomark _)) (pss_one (ps_ret pe_bl)) pss_nil)
      (pss_one (ps_ret (pe_and (pe_cmpR op_eq (pe_mt0 C_Start_text hr (by decide) (pe_mk C_Start hr (by decide) (by rfl) (pa_cons (pv 4) pa_nil))) (pe_op op_add_str pe_str (pe_callTy call_str_int (by rfl) m_str (by decide +kernel) (pa_cons (pv 4) pa_nil))) (nomark _)) (pe_one (pe_cmpR op_eq (pe_mt0 C_Loose_text hr (by decide) (pe_mk C_Loose hr (by decide) (by rfl) (pa_cons (pv 8) pa_nil))) (pe_op op_add_str pe_str (pe_callTy call_str_int (by rfl) m_str (by decide +kernel) (pa_cons (pv 8) pa_nil))) (nomark _))))))))))))))))))), ?_⟩)
  · obtain ⟨a, ns, rfl, _⟩ := h
    rfl
  · obtain ⟨a, ns, rfl, hS, hT, q⟩ := h
    have RX := rel_xt T
    -- crowd
    refine ⟨_, rfl, a, ns, rfl, hS, fun cs ys c H1 hl hys hsz s1 hC => ?_⟩
    obtain ⟨cx, hCx, hcx⟩ := id hC
    -- places
    refine ⟨_, rfl, c, rfl, ⟨_, hCx⟩, fun D nD => lcE rel_same (R := fun _ v n => v = V.int n) (walk_list (xs := cx)) (fun i => some ((cs.getD i (0, 0)).1)) nD (by rw [hcx.1]; omega)
      (fun H1 e => rel_same.sqL e hCx) (fun i H1 x H2 e y => by rw [y.1]; exact Same.refl _) (fun _ _ _ _ _ _ r => r) (fun _ _ _ _ _ _ r => r) (fun i x H2 H3 acc C hi e1 e2 hD y k1 k2 => ?_) (fun H2 zs hD s2 hz => ?_)⟩
    · obtain ⟨rfl, gx⟩ := y
      obtain ⟨u, eu, b, t, rfl, hb, _⟩ := hcx.getV gx
      refine ⟨rfl, _, rfl, b, _, 0, .int u.1, rfl, rfl, rel_same.sqT e2 hb, rfl, k1 _ _ (Same.refl _) (fun y hy => ?_) (fun z => by cases z)⟩
      cases hy
      show V.int u.1 = V.int (cs.getD i (0, 0)).1
      rw [getD_of eu]
    rw [hcx.1, map_outs (fun c : Int × Int => c.1)] at hz
    have ez := allR_ints hz
    rw [ez] at hD
    have hlp : (cs.map (·.1)).length = cs.length := List.length_map ..
    have s02 := s1.trans s2
    have hS2 := s02.seq hS
    -- throws
    refine ⟨_, rfl, a, ns, 5, rfl, hS2, fun n5 => ⟨_, rfl, a, ns, 6, rfl, hS2, fun n6 => ?_⟩⟩
    refine ⟨_, _, rfl, rfl, ⟨by decide, by decide, by decide⟩, n5, n6, 25, 10 ^ 12, rfl, by decide, by decide, by decide, fun ts lts bts th H3 nth s3 hth => ?_⟩
    have s03 := s02.trans s3
    have hS3 := s03.seq hS
    -- step
    refine ⟨_, rfl, a, ns, 7, rfl, hS3, fun n7 => ?_⟩
    refine ⟨_, _, rfl, rfl, wide_div (b := 64) (by decide) (by decide) (by decide) (by decide), by show 2 ≤ sizeLine; decide, fun l2 nl2 => ?_⟩
    have s4 := sames nl2 (o := .lst [.int 100, .int 6])
    have hl2 : upd H3 l2 (.lst [.int 100, .int 6]) l2 = some (.lst [.int 100, .int 6]) := upd_same
    have s04 := s03.trans s4
    have s14 := (s2.trans s3).trans s4
    have s24 := s3.trans s4
    generalize upd H3 l2 (.lst [.int 100, .int 6]) = H4 at *
    refine ⟨_, rfl, a, ns, 7, rfl, s04.seq hS, fun n8 => ?_⟩
    obtain ⟨mo, hmo, mo1, mo2⟩ := two_at (i := n8 % 2) (Int.emod_nonneg _ (by decide)) (Int.emod_lt_of_pos _ (by decide))
    refine ⟨_, _, rfl, rfl, by show (0 : Int) < 2; decide, l2, _, _, .int mo, rfl, rfl, SqL.of hl2, hmo, _, _, rfl, rfl, by show (0 : Int) < mo; omega, _, _, rfl, rfl, ?_⟩
    have q0 := Int.emod_nonneg (n7 / 2) (show mo ≠ 0 by omega)
    have q1 := Int.emod_lt_of_pos (n7 / 2) (show 0 < mo by omega)
    obtain ⟨st, est⟩ : ∃ st : Int, st = 1 + n7 / 2 % mo := ⟨_, rfl⟩
    have st1 : 1 ≤ st := by omega
    have st2 : st ≤ 100 := by omega
    show gName 4 (V.int (1 + n7 / 2 % mo)) _ _ _
    rw [← est]
    clear est q0 q1
    -- rows, kept = law_start(..)
    have hth4 := s4 _ _ hth
    have hD4 := s24 _ _ hD
    refine ⟨_, rfl, _, rfl, _, rfl, th, _, _, .int (zf ts 24), rfl, rfl, SqL.of hth4, at_of (j := 24) rfl (zs_at (by omega)), D, cs.map (·.1), st, zf ts 24, rfl, SqL.of hD4, by omega, st1, st2, fun p5 r1 k1 H5 s5 hp5 hr1 hk1 => ?_⟩
    refine ⟨p5, _, rfl, SqT.of hp5, rfl, _, _, rfl, _, _, rfl, rfl, ?_⟩
    have s15 := s14.trans s5
    -- ends
    have hd : ∀ n : Int, CDivW n st := fun n => wide_div (b := 64) (by omega) (by omega) (by decide) (by decide)
    refine ⟨_, rfl, c, _, rfl, .inl (s15.seq hCx), _, rfl, _, _, rfl, rfl, hd _, ?_⟩
    refine ⟨_, rfl, c, _, rfl, .inl (s15.seq hCx), _, rfl, _, _, rfl, rfl, _, _, rfl, rfl, _, rfl, _, _, rfl, rfl, hd _, by show 2 ≤ sizeLine; decide, fun e6 ne6 => ?_⟩
    rw [hcx.1]
    have s6 := sames ne6 (o := .tup [V.int ((cs.length : Int) / st), V.int (((cs.length : Int) + st - 1) / st)])
    have he6 : SqT K (upd H5 e6 (.tup [V.int ((cs.length : Int) / st), V.int (((cs.length : Int) + st - 1) / st)])) e6 ((plE cs (.st st)).map V.int) := SqT.of upd_same
    generalize upd H5 e6 (.tup [V.int ((cs.length : Int) / st), V.int (((cs.length : Int) + st - 1) / st)]) = H6 at *
    have s16 := s15.trans s6
    -- right(Start(step), ..)
    refine ⟨_, rfl, fun x dx nx ndx ne => ⟨x, dx, st, rfl, upd_same, st1, st2, rfl, ?_⟩⟩
    have s7 : Same H6 (mkI H6 CS "step" st x dx) := mkI_same nx ndx
    have hx : PlanI CS "step" (mkI H6 CS "step" st x dx) x st := ⟨dx, mkI_at⟩
    show tCons (tVar 1) _ _ (mkI H6 CS "step" st x dx) _
    generalize mkI H6 CS "step" st x dx = H7 at *
    have s17 := s16.trans s7
    refine ⟨_, rfl, _, rfl, _, rfl, _, rfl, c, _, rfl, .inl (s17.seq hCx), _, rfl, cs.length, st, by rw [hcx.1]; rfl, hl, st1, st2, fun d H8 s8 hd8 => ⟨_, rfl, ?_⟩⟩
    have s18 := s17.trans s8
    have x08 : Xt T H H8 := Xt.of (s1.trans s18)
    have s58 := s6.trans (s7.trans s8)
    refine ⟨x, c, r1, k1, d, e6, cs, ys, .st st, _, _, rfl, ⟨hx.mono rel_same s8, st1, st2⟩, hC.mono rel_same s18, hys, hsz, hr1.mono rel_same s58, ?_, rel_same.sqT s58 hk1, hd8, rel_same.sqT (s7.trans s8) he6, goes_start st1 st2, x08.2 hT, fun H9 x9 => ⟨_, rfl, iteF ?_⟩⟩
    · unfold startRows
      split
      · exact Nat.zero_le _
      · exact (by decide : 1 ≤ 100)
    have x19 : Xt T H1 H9 := (Xt.of s18).trans x9
    have x49 : Xt T H4 H9 := (Xt.of (s5.trans s58)).trans x9
    have x09 : Xt T H H9 := x08.trans x9
    have hD9 := RX.keep x49 hD4 fun _ z => nomatch z
    have hth9 := RX.keep x49 hth4 fun _ z => nomatch z
    -- many
    refine ⟨_, rfl, a, ns, 4, rfl, RX.sqL x09 hS, fun n4 => ?_⟩
    refine ⟨_, _, rfl, rfl, by show (0 : Int) < 25; decide, ?_⟩
    have m0 := Int.emod_nonneg n4 (show (25 : Int) ≠ 0 by decide)
    have m1 := Int.emod_lt_of_pos n4 (show (0 : Int) < 25 by decide)
    obtain ⟨m, em⟩ : ∃ m : Int, m = n4 % 25 := ⟨_, rfl⟩
    show gName 8 (V.int (n4 % 25)) _ _ _
    rw [← em]
    have m0 : 0 ≤ m := by omega
    have m1 : m ≤ 24 := by omega
    clear em
    -- shares
    have hC9 := hC.mono RX x19
    have hCx9 := RX.sqL x19 hCx
    refine ⟨_, rfl, c, rfl, ⟨_, hCx9⟩, fun D2 nD2 => lcE rel_same (R := fun _ v n => v = V.int n) (walk_list (xs := cx)) (fun i => some ((cs.getD i (0, 0)).2)) nD2 (by rw [hcx.1]; omega)
      (fun H1 e => rel_same.sqL e hCx9) (fun i H1 x H2 e y => by rw [y.1]; exact Same.refl _) (fun _ _ _ _ _ _ r => r) (fun _ _ _ _ _ _ r => r) (fun i x H2 H3 acc C hi e1 e2 hD y k1 k2 => ?_) (fun H10 zs2 hD10 s10 hz2 => ?_)⟩
    · obtain ⟨rfl, gx⟩ := y
      obtain ⟨u, eu, b, t, rfl, hb, _⟩ := hcx.getV gx
      refine ⟨rfl, _, rfl, b, _, 1, .int u.2, rfl, rfl, rel_same.sqT e2 (RX.sqT x19 hb), rfl, k1 _ _ (Same.refl _) (fun y hy => ?_) (fun z => by cases z)⟩
      cases hy
      show V.int u.2 = V.int (cs.getD i (0, 0)).2
      rw [getD_of eu]
    rw [hcx.1, map_outs (fun c : Int × Int => c.2)] at hz2
    have ez2 := allR_ints hz2
    rw [ez2] at hD10
    refine ⟨_, rfl, D2, cs.map (·.2), m, rfl, SqL.of hD10, hsz, m0, m1, fun ss hw sa H11 sx nsa s11 hsa hsx => ?_⟩
    have hok := isW_ok hsz m0 m1 hw
    have hls : ss.length = cs.length := by rw [isW_len hw, List.length_map]
    have s911 := s10.trans s11
    -- rows, kept = law_loose(..)
    refine ⟨_, rfl, _, rfl, _, rfl, D, sa, th, cs.map (·.1), ss, ts, rfl, SqL.of (s911 _ _ hD9), ⟨sx, SqL.of hsa, hsx⟩, SqL.of (s911 _ _ hth9), by rw [hlp, hls], by omega, by omega, hok, fun p12 r2 k2 H12 s12 hp12 hr2 hk2 => ?_⟩
    refine ⟨p12, _, rfl, SqT.of hp12, rfl, _, _, rfl, _, _, rfl, rfl, ?_⟩
    have hsa12 := s12 _ _ hsa
    have hsx12 := hsx.imp fun v p r => r.mono rel_same s12
    have dss : ∀ {H' : Hp}, Same H12 H' → Dp K H' (.ref sa) (.list (ss.map frD)) := fun e => row_dp ⟨sx, SqL.of (e _ _ hsa12), hsx12.imp fun v p r => r.mono rel_same e⟩
    -- ends
    refine ⟨_, rfl, .inl ⟨rfl, _, SqL.of hsa12⟩, by show 2 ≤ sizeLine; decide, fun t13 nt13 => ?_⟩
    have s13 := sames nt13 (o := .tup [.int 1, .int 1])
    refine ⟨sa, .ref t13, frD (1, 1), ss.map frD, rfl, rfl, dss s13, fr_dp ⟨t13, rfl, SqT.of upd_same⟩, row_shaped ss, frD_shaped _, ?_⟩
    generalize upd H12 t13 (.tup [.int 1, .int 1]) = H13 at *
    refine ⟨_, rfl, sa, _, rfl, .inl (SqL.of (s13 _ _ hsa12)), ?_⟩
    refine ⟨_, rfl, .inl ⟨rfl, _, SqL.of (s13 _ _ hsa12)⟩, by show 2 ≤ sizeLine; decide, fun t14 nt14 => ?_⟩
    have s14' := sames nt14 (o := .tup [.int 0, .int 1])
    refine ⟨sa, .ref t14, frD (0, 1), ss.map frD, rfl, rfl, dss (s13.trans s14'), fr_dp ⟨t14, rfl, SqT.of upd_same⟩, row_shaped ss, frD_shaped _, ?_⟩
    generalize upd H13 t14 (.tup [.int 0, .int 1]) = H14 at *
    refine ⟨_, _, rfl, rfl, by show 2 ≤ sizeLine; decide, fun e15 ne15 => ?_⟩
    have ee : ([V.int (((ss.map frD).countP fun z => PyData.eqv z (frD (1, 1)) : Nat) : Int), V.int ((sx.length : Int) - (((ss.map frD).countP fun z => PyData.eqv z (frD (0, 1)) : Nat) : Int))] : List V) = (plE cs (.lo m ss)).map V.int := by
      rw [count_eqv, count_eqv, hsx.1, count_rest]
      rfl
    show gName 7 (V.ref e15) _ (upd H14 e15 (.tup [V.int (((ss.map frD).countP fun z => PyData.eqv z (frD (1, 1)) : Nat) : Int), V.int ((sx.length : Int) - (((ss.map frD).countP fun z => PyData.eqv z (frD (0, 1)) : Nat) : Int))])) _
    rw [ee]
    have s15' := sames ne15 (o := .tup ((plE cs (.lo m ss)).map V.int))
    have he15 : SqT K (upd H14 e15 (.tup ((plE cs (.lo m ss)).map V.int))) e15 ((plE cs (.lo m ss)).map V.int) := SqT.of upd_same
    generalize upd H14 e15 (.tup ((plE cs (.lo m ss)).map V.int)) = H15 at *
    have s1215 := s13.trans (s14'.trans s15')
    -- right(Loose(many), ..)
    refine ⟨_, rfl, fun x2 dx2 nx2 ndx2 ne2 => ⟨x2, dx2, m, rfl, upd_same, m0, m1, rfl, ?_⟩⟩
    have s16' : Same H15 (mkI H15 CL "many" m x2 dx2) := mkI_same nx2 ndx2
    have hx2 : PlanI CL "many" (mkI H15 CL "many" m x2 dx2) x2 m := ⟨dx2, mkI_at⟩
    show tCons (tVar 1) _ _ (mkI H15 CL "many" m x2 dx2) _
    generalize mkI H15 CL "many" m x2 dx2 = H16 at *
    have s1216 := s1215.trans s16'
    refine ⟨_, rfl, _, rfl, _, rfl, _, rfl, sa, ss, rfl, ⟨sx, SqL.of (s1216 _ _ hsa12), hsx12.imp fun v p r => r.mono rel_same s1216⟩, by omega, hok, fun d2 H17 s17' hd17 => ⟨_, rfl, ?_⟩⟩
    have s1217 := s1216.trans s17'
    have s917 := s911.trans (s12.trans s1217)
    have x017 : Xt T H H17 := x09.trans (Xt.of s917)
    have hgo := goes_loose0 (ts := ts) (ps := cs.map (·.1)) (ss := ss) (by rw [hlp, hls]) hok
    refine ⟨x2, c, r2, k2, d2, e15, cs, ys, .lo m ss, _, _, rfl, ⟨hx2.mono rel_same s17', m0, m1, hw⟩, hC9.mono rel_same s917, hys, hsz, hr2.mono rel_same s1217, ?_, rel_same.sqT s1217 hk2, hd17, rel_same.sqT (s16'.trans s17') he15, hgo, x017.2 hT, fun H18 x18 => ⟨_, rfl, iteF ?_⟩⟩
    · have := outs_len (loRow ss ts) (cs.map (·.1)).length
      show (outs (loRow ss ts) (cs.map (·.1)).length).length ≤ 100
      omega
    -- (Start(step).step, Loose(many).many) != (step, many)
    refine ⟨_, rfl, fun x3 dx3 nx3 ndx3 ne3 => ⟨x3, dx3, st, rfl, upd_same, st1, st2, rfl, x3, CS, dx3, _, _, rfl, upd_same, c1, n1, rfl, ?_⟩⟩
    refine ⟨_, rfl, fun x4 dx4 nx4 ndx4 ne4 => ⟨x4, dx4, m, rfl, upd_same, m0, m1, rfl, x4, CL, dx4, _, _, rfl, upd_same, c2, n2, rfl, by show 2 ≤ sizeLine; decide, fun t nt => ?_⟩⟩
    have et : upd (mkI (mkI H18 CS "step" st x3 dx3) CL "many" m x4 dx4) t (.tup [.int st, .int m]) t = some (.tup [.int st, .int m]) := upd_same
    show tTup _ _ (upd (mkI (mkI H18 CS "step" st x3 dx3) CL "many" m x4 dx4) t (.tup [.int st, .int m])) _
    generalize upd (mkI (mkI H18 CS "step" st x3 dx3) CL "many" m x4 dx4) t (.tup [.int st, .int m]) = H19 at *
    refine ⟨_, rfl, _, rfl, by show 2 ≤ sizeLine; decide, fun u nu => ?_⟩
    have su := sames nu (o := .tup [.int st, .int m])
    refine ⟨_, _, ints_dpT (ns := [st, m]) (SqT.of (su _ _ et)), ints_dpT (ns := [st, m]) (SqT.of upd_same), ints_shapedT _, ints_shapedT _, _, rfl, ?_⟩
    rw [shaped_refl (ints_shapedT [st, m])]
    refine iteF ?_
    -- the texts
    have hst := small_n (show 0 ≤ st by omega) st2
    have hm := small_n m0 (show m ≤ 100 by omega)
    have l1 : ("start " : Str).length ≤ 8 := by decide +kernel
    have l2 : ("loose " : Str).length ≤ 8 := by decide +kernel
    have l3 : 20 ≤ sizeLine := by decide
    refine ⟨_, rfl, fun x5 dx5 nx5 ndx5 ne5 => ⟨x5, dx5, st, rfl, upd_same, st1, st2, rfl, x5, dx5, _, rfl, upd_same, rfl, x5, st, rfl, ⟨dx5, upd_same⟩, by omega, st2, fun z hz => ?_⟩⟩
    refine ⟨_, rfl, st, rfl, hst.1, _, _, rfl, rfl, by omega, rfl, _, rfl, ?_⟩
    rw [hz, decide_eq_true rfl]
    refine iteT ?_
    refine ⟨_, rfl, fun x6 dx6 nx6 ndx6 ne6 => ⟨x6, dx6, m, rfl, upd_same, m0, m1, rfl, x6, dx6, _, rfl, upd_same, rfl, x6, m, rfl, ⟨dx6, upd_same⟩, m0, by omega, fun z2 hz2 => ?_⟩⟩
    refine ⟨_, rfl, m, rfl, hm.1, _, _, rfl, rfl, by omega, rfl, ?_⟩
    rw [hz2, decide_eq_true rfl]
    exact q _
end
end Fk
/-! the head by facts; by gen_head.py -/
namespace Fk
open PySem PySem.Spec PyProof.Rows L2
def d_divisor : He.DefD := ⟨("divisor", none), "divisor", "divisor", defArgs s_divisor, defBody s_divisor, defScope s_divisor, [], []⟩
def d_share : He.DefD := ⟨("share", none), "share", "share", defArgs s_share, defBody s_share, defScope s_share, [], []⟩
def d_times : He.DefD := ⟨("times", none), "times", "times", defArgs s_times, defBody s_times, defScope s_times, [], []⟩
def d_Node_is_told : He.DefD := ⟨("Die", some "is_told"), "is_told", "Node.is_told", defArgs s_Node_is_told, defBody s_Node_is_told, defScope s_Node_is_told, [], []⟩
def d_Node_kept : He.DefD := ⟨("Die", some "kept"), "kept", "Node.kept", defArgs s_Node_kept, defBody s_Node_kept, defScope s_Node_kept, [], []⟩
def d_Node_sides : He.DefD := ⟨("Told", some "sides"), "sides", "Node.sides", defArgs s_Node_sides, defBody s_Node_sides, defScope s_Node_sides, [], []⟩
def d_Node_parts : He.DefD := ⟨("Told", some "parts"), "parts", "Node.parts", defArgs s_Node_parts, defBody s_Node_parts, defScope s_Node_parts, [], []⟩
def d_Told_init : He.DefD := ⟨("Told", some "__init__"), "__init__", "Told.__init__", defArgs s_Told_init, defBody s_Told_init, defScope s_Told_init, [], []⟩
def d_Told_is_told : He.DefD := ⟨("Told", some "is_told"), "is_told", "Told.is_told", defArgs s_Told_is_told, defBody s_Told_is_told, defScope s_Told_is_told, [], []⟩
def d_Told_kept : He.DefD := ⟨("Told", some "kept"), "kept", "Told.kept", defArgs s_Told_kept, defBody s_Told_kept, defScope s_Told_kept, [], []⟩
def d_Die_init : He.DefD := ⟨("Die", some "__init__"), "__init__", "Die.__init__", defArgs s_Die_init, defBody s_Die_init, defScope s_Die_init, [], []⟩
def d_Die_sides : He.DefD := ⟨("Die", some "sides"), "sides", "Die.sides", defArgs s_Die_sides, defBody s_Die_sides, defScope s_Die_sides, [], []⟩
def d_Die_parts : He.DefD := ⟨("Die", some "parts"), "parts", "Die.parts", defArgs s_Die_parts, defBody s_Die_parts, defScope s_Die_parts, [], []⟩
def d_Die_after : He.DefD := ⟨("Die", some "after"), "after", "Die.after", defArgs s_Die_after, defBody s_Die_after, defScope s_Die_after, [], []⟩
def d_drawn : He.DefD := ⟨("drawn", none), "drawn", "drawn", defArgs s_drawn, defBody s_drawn, defScope s_drawn, [], []⟩
def d_is_whole : He.DefD := ⟨("is_whole", none), "is_whole", "is_whole", defArgs s_is_whole, defBody s_is_whole, defScope s_is_whole, [], []⟩
def d_size_left : He.DefD := ⟨("size_left", none), "size_left", "size_left", defArgs s_size_left, defBody s_size_left, defScope s_size_left, [], []⟩
def d_wished : He.DefD := ⟨("wished", none), "wished", "wished", defArgs s_wished, defBody s_wished, defScope s_wished, [], []⟩
def d_Plan_matrix : He.DefD := ⟨("Start", some "matrix"), "matrix", "Plan.matrix", defArgs s_Plan_matrix, defBody s_Plan_matrix, defScope s_Plan_matrix, [], []⟩
def d_places_of : He.DefD := ⟨("places_of", none), "places_of", "places_of", defArgs s_places_of, defBody s_places_of, defScope s_places_of, [], []⟩
def d_start_part : He.DefD := ⟨("start_part", none), "start_part", "start_part", defArgs s_start_part, defBody s_start_part, defScope s_start_part, [], []⟩
def d_Start_init : He.DefD := ⟨("Start", some "__init__"), "__init__", "Start.__init__", defArgs s_Start_init, defBody s_Start_init, defScope s_Start_init, [], []⟩
def d_Start_node : He.DefD := ⟨("Start", some "node"), "node", "Start.node", defArgs s_Start_node, defBody s_Start_node, defScope s_Start_node, [], []⟩
def d_Start_chance : He.DefD := ⟨("Start", some "chance"), "chance", "Start.chance", defArgs s_Start_chance, defBody s_Start_chance, defScope s_Start_chance, [], []⟩
def d_Start_bounds : He.DefD := ⟨("Start", some "bounds"), "bounds", "Start.bounds", defArgs s_Start_bounds, defBody s_Start_bounds, defScope s_Start_bounds, [], []⟩
def d_Start_text : He.DefD := ⟨("Start", some "text"), "text", "Start.text", defArgs s_Start_text, defBody s_Start_text, defScope s_Start_text, [], []⟩
def d_loose_die : He.DefD := ⟨("loose_die", none), "loose_die", "loose_die", defArgs s_loose_die, defBody s_loose_die, defScope s_loose_die, [], []⟩
def d_loose_node : He.DefD := ⟨("loose_node", none), "loose_node", "loose_node", defArgs s_loose_node, defBody s_loose_node, defScope s_loose_node, [], []⟩
def d_wished_of : He.DefD := ⟨("wished_of", none), "wished_of", "wished_of", defArgs s_wished_of, defBody s_wished_of, defScope s_wished_of, [], []⟩
def d_Loose_init : He.DefD := ⟨("Loose", some "__init__"), "__init__", "Loose.__init__", defArgs s_Loose_init, defBody s_Loose_init, defScope s_Loose_init, [], []⟩
def d_Loose_node : He.DefD := ⟨("Loose", some "node"), "node", "Loose.node", defArgs s_Loose_node, defBody s_Loose_node, defScope s_Loose_node, [], []⟩
def d_Loose_matrix : He.DefD := ⟨("Loose", some "matrix"), "matrix", "Loose.matrix", defArgs s_Loose_matrix, defBody s_Loose_matrix, defScope s_Loose_matrix, [], []⟩
def d_Loose_bounds : He.DefD := ⟨("Loose", some "bounds"), "bounds", "Loose.bounds", defArgs s_Loose_bounds, defBody s_Loose_bounds, defScope s_Loose_bounds, [], []⟩
def d_Loose_text : He.DefD := ⟨("Loose", some "text"), "text", "Loose.text", defArgs s_Loose_text, defBody s_Loose_text, defScope s_Loose_text, [], []⟩
def d__law_cell : He.DefD := ⟨("_law_cell", none), "_law_cell", "_law_cell", defArgs s__law_cell, defBody s__law_cell, defScope s__law_cell, [], []⟩
def d__law_mix : He.DefD := ⟨("_law_mix", none), "_law_mix", "_law_mix", defArgs s__law_mix, defBody s__law_mix, defScope s__law_mix, [], []⟩
def d__law_row : He.DefD := ⟨("_law_row", none), "_law_row", "_law_row", defArgs s__law_row, defBody s__law_row, defScope s__law_row, [], []⟩
def d__law_whole : He.DefD := ⟨("_law_whole", none), "_law_whole", "_law_whole", defArgs s__law_whole, defBody s__law_whole, defScope s__law_whole, [], []⟩
def d__law_low : He.DefD := ⟨("_law_low", none), "_law_low", "_law_low", defArgs s__law_low, defBody s__law_low, defScope s__law_low, [], []⟩
def d__law_times : He.DefD := ⟨("_law_times", none), "_law_times", "_law_times", defArgs s__law_times, defBody s__law_times, defScope s__law_times, [], []⟩
def d__law_fraction : He.DefD := ⟨("_law_fraction", none), "_law_fraction", "_law_fraction", defArgs s__law_fraction, defBody s__law_fraction, defScope s__law_fraction, [], []⟩
def d__law_matrix : He.DefD := ⟨("_law_matrix", none), "_law_matrix", "_law_matrix", defArgs s__law_matrix, defBody s__law_matrix, defScope s__law_matrix, [], []⟩
def d__law_crowd : He.DefD := ⟨("_law_crowd", none), "_law_crowd", "_law_crowd", defArgs s__law_crowd, defBody s__law_crowd, defScope s__law_crowd, [], []⟩
def d__law_wished : He.DefD := ⟨("_law_wished", none), "_law_wished", "_law_wished", defArgs s__law_wished, defBody s__law_wished, defScope s__law_wished, [], []⟩
def d__law_thrown : He.DefD := ⟨("_law_thrown", none), "_law_thrown", "_law_thrown", defArgs s__law_thrown, defBody s__law_thrown, defScope s__law_thrown, [], []⟩
def d__law_loose : He.DefD := ⟨("_law_loose", none), "_law_loose", "_law_loose", defArgs s__law_loose, defBody s__law_loose, defScope s__law_loose, [], []⟩
def d__law_start : He.DefD := ⟨("_law_start", none), "_law_start", "_law_start", defArgs s__law_start, defBody s__law_start, defScope s__law_start, [], []⟩
def d__law_both : He.DefD := ⟨("_law_both", none), "_law_both", "_law_both", defArgs s__law_both, defBody s__law_both, defScope s__law_both, [], []⟩
def d__law_steps : He.DefD := ⟨("_law_steps", none), "_law_steps", "_law_steps", defArgs s__law_steps, defBody s__law_steps, defScope s__law_steps, [], []⟩
def d__law_right : He.DefD := ⟨("_law_right", none), "_law_right", "_law_right", defArgs s__law_right, defBody s__law_right, defScope s__law_right, [], []⟩
def d_law : He.DefD := ⟨("law", none), "law", "law", defArgs s_law, defBody s_law, defScope s_law, [], []⟩
def fn : List He.DefD := [d_divisor, d_share, d_times, d_Node_is_told, d_Node_kept, d_Node_sides, d_Node_parts, d_Told_init, d_Told_is_told, d_Told_kept, d_Die_init, d_Die_sides, d_Die_parts, d_Die_after, d_drawn, d_is_whole, d_size_left, d_wished, d_Plan_matrix, d_places_of, d_start_part, d_Start_init, d_Start_node, d_Start_chance, d_Start_bounds, d_Start_text, d_loose_die, d_loose_node, d_wished_of, d_Loose_init, d_Loose_node, d_Loose_matrix, d_Loose_bounds, d_Loose_text, d__law_cell, d__law_mix, d__law_row, d__law_whole, d__law_low, d__law_times, d__law_fraction, d__law_matrix, d__law_crowd, d__law_wished, d__law_thrown, d__law_loose, d__law_start, d__law_both, d__law_steps, d__law_right, d_law]
def fa : List He.Fa := [.glo "divisor",
  .glo "share",
  .glo "times",
  .glo "drawn",
  .glo "is_whole",
  .glo "size_left",
  .glo "wished",
  .glo "places_of",
  .glo "start_part",
  .glo "loose_die",
  .glo "loose_node",
  .glo "wished_of",
  .glo "_law_cell",
  .glo "_law_mix",
  .glo "_law_row",
  .glo "_law_whole",
  .glo "_law_low",
  .glo "_law_times",
  .glo "_law_fraction",
  .glo "_law_matrix",
  .glo "_law_crowd",
  .glo "_law_wished",
  .glo "_law_thrown",
  .glo "_law_loose",
  .glo "_law_start",
  .glo "_law_both",
  .glo "_law_steps",
  .glo "_law_right",
  .glo "law",
  .glo "Told",
  .glo "Die",
  .glo "Start",
  .glo "Loose",
  .glo "NoThrow",
  .free "len",
  .free "sum",
  .free "sorted",
  .free "tuple",
  .free "list",
  .free "range",
  .free "isinstance",
  .free "abs",
  .free "enumerate",
  .free "zip",
  .free "str",
  .free "int",
  .free "bool",
  .int "MOST_DRAWN" 24,
  .int "MOST_STEP" 100,
  .cls "Told",
  .mkr "Told",
  .cls "Die",
  .mkr "Die",
  .cls "Start",
  .mkr "Start",
  .cls "Loose",
  .mkr "Loose",
  .noat "Told" "places",
  .noat "Die" "ways",
  .noat "Start" "step",
  .noat "Loose" "many",
  .meth "Told" "is_told",
  .meth "Told" "kept",
  .meth "Told" "sides",
  .meth "Told" "parts",
  .meth "Die" "is_told",
  .meth "Die" "kept",
  .meth "Die" "sides",
  .meth "Die" "parts",
  .meth "Die" "after",
  .meth "Start" "node",
  .meth "Start" "matrix",
  .meth "Start" "bounds",
  .meth "Start" "text",
  .meth "Loose" "node",
  .meth "Loose" "matrix",
  .meth "Loose" "bounds",
  .meth "Loose" "text",
  .meth "Start" "chance",
  .keep "NoThrow"]
def tf : List He.Defn := [("start_part", none), ("loose_die", none)]
abbrev R : PySem.W.OpenRow := PySem.W.OpenLaw.row PySem.Challenge.rw_fewspeak_k23_starts_and_loose_ones_throw
def ex0 : PySem.W.Frag → Bool := fun K => (He.cT K ("start_part", none)).2 != (He.cT K ("loose_die", none)).2
abbrev hk : PySem.W.Hook := He.hookX 5 fa fn [] tf ex0
def ob (s : PySem.W.SharedT) : He.AlX := He.obsX 5 fa fn [] tf ex0 (HandSHeadRun.getT s)
theorem ob_eq (s : PySem.W.SharedT) : ob s = hk.obs s.abs := He.obsX_eq (HandSHeadRun.getT_eq s)
def lo0 : List PySem.Str := ["_wall", "SpeakError", "NoPlan", "NoThrow", "divisor", "share", "times", "Node", "Told", "Die", "drawn", "is_whole", "MOST_DRAWN", "MOST_STEP", "size_left", "wished", "Plan", "places_of", "start_part", "Start"]
def lo1 : List PySem.Str := ["loose_die", "loose_node", "wished_of", "Loose", "_law_cell", "_law_mix", "_law_row", "_law_whole", "_law_low", "_law_times", "_law_fraction", "_law_matrix", "_law_crowd", "_law_wished", "_law_thrown", "_law_loose", "_law_start", "_law_both", "_law_steps", "_law_right"]
def lo : List PySem.Str := lo0 ++ lo1
theorem run (w : World) : HandSHeadRun.RunEq R (PySem.W.view R.prog [46]) hk ob 6000 lo w := by
  intro os
  kernel_rfl
end Fk
/-! E1: from the head's facts to the law's promise; by gen_end.py -/
namespace Fk
open PySem PySem.Spec PyProof.Rows L2 LamX
theorem facts {P : Program} {w : World} {K : PySem.W.Frag} {h : Heap} {mg : Str → Option Value} (X : K.In h) (G : h.Ns mainGlobals mg) (c : He.SaysX fa fn [] tf ex0 w h K) :
    ∃ fd : FuncData, (∀ (s : Shared) (u : Value), BindsTo s fd ⟨[u], []⟩ [("_law_script", u)]) ∧ ∀ base : Heap, (∀ p ∈ tf.map (He.cT K), TabB base mg p.1 p.2) → FnOk P w K mg base CX0 9 (He.fAd K ("law", none)) fd ["_law_script"] (spLaw K [((He.cT K ("start_part", none)).2, q_start), ((He.cT K ("loose_die", none)).2, q_loose)]) := by
  have S := c.t.d
  obtain ⟨fd_divisor, F_divisor⟩ := S.def_ 0 (d := d_divisor) rfl
  obtain ⟨fd_share, F_share⟩ := S.def_ 1 (d := d_share) rfl
  obtain ⟨fd_times, F_times⟩ := S.def_ 2 (d := d_times) rfl
  obtain ⟨fd_Node_is_told, F_Node_is_told⟩ := S.def_ 3 (d := d_Node_is_told) rfl
  obtain ⟨fd_Node_kept, F_Node_kept⟩ := S.def_ 4 (d := d_Node_kept) rfl
  obtain ⟨fd_Node_sides, F_Node_sides⟩ := S.def_ 5 (d := d_Node_sides) rfl
  obtain ⟨fd_Node_parts, F_Node_parts⟩ := S.def_ 6 (d := d_Node_parts) rfl
  obtain ⟨fd_Told_init, F_Told_init⟩ := S.def_ 7 (d := d_Told_init) rfl
  obtain ⟨fd_Told_is_told, F_Told_is_told⟩ := S.def_ 8 (d := d_Told_is_told) rfl
  obtain ⟨fd_Told_kept, F_Told_kept⟩ := S.def_ 9 (d := d_Told_kept) rfl
  obtain ⟨fd_Die_init, F_Die_init⟩ := S.def_ 10 (d := d_Die_init) rfl
  obtain ⟨fd_Die_sides, F_Die_sides⟩ := S.def_ 11 (d := d_Die_sides) rfl
  obtain ⟨fd_Die_parts, F_Die_parts⟩ := S.def_ 12 (d := d_Die_parts) rfl
  obtain ⟨fd_Die_after, F_Die_after⟩ := S.def_ 13 (d := d_Die_after) rfl
  obtain ⟨fd_drawn, F_drawn⟩ := S.def_ 14 (d := d_drawn) rfl
  obtain ⟨fd_is_whole, F_is_whole⟩ := S.def_ 15 (d := d_is_whole) rfl
  obtain ⟨fd_size_left, F_size_left⟩ := S.def_ 16 (d := d_size_left) rfl
  obtain ⟨fd_wished, F_wished⟩ := S.def_ 17 (d := d_wished) rfl
  obtain ⟨fd_Plan_matrix, F_Plan_matrix⟩ := S.def_ 18 (d := d_Plan_matrix) rfl
  obtain ⟨fd_places_of, F_places_of⟩ := S.def_ 19 (d := d_places_of) rfl
  obtain ⟨fd_start_part, F_start_part⟩ := S.def_ 20 (d := d_start_part) rfl
  obtain ⟨fd_Start_init, F_Start_init⟩ := S.def_ 21 (d := d_Start_init) rfl
  obtain ⟨fd_Start_node, F_Start_node⟩ := S.def_ 22 (d := d_Start_node) rfl
  obtain ⟨fd_Start_chance, F_Start_chance⟩ := S.def_ 23 (d := d_Start_chance) rfl
  obtain ⟨fd_Start_bounds, F_Start_bounds⟩ := S.def_ 24 (d := d_Start_bounds) rfl
  obtain ⟨fd_Start_text, F_Start_text⟩ := S.def_ 25 (d := d_Start_text) rfl
  obtain ⟨fd_loose_die, F_loose_die⟩ := S.def_ 26 (d := d_loose_die) rfl
  obtain ⟨fd_loose_node, F_loose_node⟩ := S.def_ 27 (d := d_loose_node) rfl
  obtain ⟨fd_wished_of, F_wished_of⟩ := S.def_ 28 (d := d_wished_of) rfl
  obtain ⟨fd_Loose_init, F_Loose_init⟩ := S.def_ 29 (d := d_Loose_init) rfl
  obtain ⟨fd_Loose_node, F_Loose_node⟩ := S.def_ 30 (d := d_Loose_node) rfl
  obtain ⟨fd_Loose_matrix, F_Loose_matrix⟩ := S.def_ 31 (d := d_Loose_matrix) rfl
  obtain ⟨fd_Loose_bounds, F_Loose_bounds⟩ := S.def_ 32 (d := d_Loose_bounds) rfl
  obtain ⟨fd_Loose_text, F_Loose_text⟩ := S.def_ 33 (d := d_Loose_text) rfl
  obtain ⟨fd__law_cell, F__law_cell⟩ := S.def_ 34 (d := d__law_cell) rfl
  obtain ⟨fd__law_mix, F__law_mix⟩ := S.def_ 35 (d := d__law_mix) rfl
  obtain ⟨fd__law_row, F__law_row⟩ := S.def_ 36 (d := d__law_row) rfl
  obtain ⟨fd__law_whole, F__law_whole⟩ := S.def_ 37 (d := d__law_whole) rfl
  obtain ⟨fd__law_low, F__law_low⟩ := S.def_ 38 (d := d__law_low) rfl
  obtain ⟨fd__law_times, F__law_times⟩ := S.def_ 39 (d := d__law_times) rfl
  obtain ⟨fd__law_fraction, F__law_fraction⟩ := S.def_ 40 (d := d__law_fraction) rfl
  obtain ⟨fd__law_matrix, F__law_matrix⟩ := S.def_ 41 (d := d__law_matrix) rfl
  obtain ⟨fd__law_crowd, F__law_crowd⟩ := S.def_ 42 (d := d__law_crowd) rfl
  obtain ⟨fd__law_wished, F__law_wished⟩ := S.def_ 43 (d := d__law_wished) rfl
  obtain ⟨fd__law_thrown, F__law_thrown⟩ := S.def_ 44 (d := d__law_thrown) rfl
  obtain ⟨fd__law_loose, F__law_loose⟩ := S.def_ 45 (d := d__law_loose) rfl
  obtain ⟨fd__law_start, F__law_start⟩ := S.def_ 46 (d := d__law_start) rfl
  obtain ⟨fd__law_both, F__law_both⟩ := S.def_ 47 (d := d__law_both) rfl
  obtain ⟨fd__law_steps, F__law_steps⟩ := S.def_ 48 (d := d__law_steps) rfl
  obtain ⟨fd__law_right, F__law_right⟩ := S.def_ 49 (d := d__law_right) rfl
  obtain ⟨fd_law, F_law⟩ := S.def_ 50 (d := d_law) rfl
  have fac : ∀ {f : He.Fa}, f ∈ fa → f.ok K = true := fun h => S.facts h
  have m_len : mg "len" = none := He.free_ok X G (fac (f := .free "len") (by unfold fa; simp))
  have m_sum : mg "sum" = none := He.free_ok X G (fac (f := .free "sum") (by unfold fa; simp))
  have m_sorted : mg "sorted" = none := He.free_ok X G (fac (f := .free "sorted") (by unfold fa; simp))
  have m_tuple : mg "tuple" = none := He.free_ok X G (fac (f := .free "tuple") (by unfold fa; simp))
  have m_list : mg "list" = none := He.free_ok X G (fac (f := .free "list") (by unfold fa; simp))
  have m_range : mg "range" = none := He.free_ok X G (fac (f := .free "range") (by unfold fa; simp))
  have m_isinstance : mg "isinstance" = none := He.free_ok X G (fac (f := .free "isinstance") (by unfold fa; simp))
  have m_abs : mg "abs" = none := He.free_ok X G (fac (f := .free "abs") (by unfold fa; simp))
  have m_enumerate : mg "enumerate" = none := He.free_ok X G (fac (f := .free "enumerate") (by unfold fa; simp))
  have m_zip : mg "zip" = none := He.free_ok X G (fac (f := .free "zip") (by unfold fa; simp))
  have m_str : mg "str" = none := He.free_ok X G (fac (f := .free "str") (by unfold fa; simp))
  have m_int : mg "int" = none := He.free_ok X G (fac (f := .free "int") (by unfold fa; simp))
  have m_bool : mg "bool" = none := He.free_ok X G (fac (f := .free "bool") (by unfold fa; simp))
  have M_MOST_DRAWN : ∃ t, mg "MOST_DRAWN" = some (.int 24 t) := He.int_ok X G (fac (f := .int "MOST_DRAWN" 24) (by unfold fa; simp))
  have M_MOST_STEP : ∃ t, mg "MOST_STEP" = some (.int 100 t) := He.int_ok X G (fac (f := .int "MOST_STEP" 100) (by unfold fa; simp))
  have g_Told : mg "Told" = some (.ref (He.ga K "Told")) := He.glo_ok X G (fac (f := .glo "Told") (by unfold fa; simp))
  have cl_Told : Cls K (He.ga K "Told") := He.cls_ok (fac (f := .cls "Told") (by unfold fa; simp))
  have mk_Told := He.mkr_ok (fac (f := .mkr "Told") (by unfold fa; simp))
  have na_Told : NoAttr K (He.ga K "Told") "places" := He.noat_ok (fac (f := .noat "Told" "places") (by unfold fa; simp))
  have g_Die : mg "Die" = some (.ref (He.ga K "Die")) := He.glo_ok X G (fac (f := .glo "Die") (by unfold fa; simp))
  have cl_Die : Cls K (He.ga K "Die") := He.cls_ok (fac (f := .cls "Die") (by unfold fa; simp))
  have mk_Die := He.mkr_ok (fac (f := .mkr "Die") (by unfold fa; simp))
  have na_Die : NoAttr K (He.ga K "Die") "ways" := He.noat_ok (fac (f := .noat "Die" "ways") (by unfold fa; simp))
  have g_Start : mg "Start" = some (.ref (He.ga K "Start")) := He.glo_ok X G (fac (f := .glo "Start") (by unfold fa; simp))
  have cl_Start : Cls K (He.ga K "Start") := He.cls_ok (fac (f := .cls "Start") (by unfold fa; simp))
  have mk_Start := He.mkr_ok (fac (f := .mkr "Start") (by unfold fa; simp))
  have na_Start : NoAttr K (He.ga K "Start") "step" := He.noat_ok (fac (f := .noat "Start" "step") (by unfold fa; simp))
  have g_Loose : mg "Loose" = some (.ref (He.ga K "Loose")) := He.glo_ok X G (fac (f := .glo "Loose") (by unfold fa; simp))
  have cl_Loose : Cls K (He.ga K "Loose") := He.cls_ok (fac (f := .cls "Loose") (by unfold fa; simp))
  have mk_Loose := He.mkr_ok (fac (f := .mkr "Loose") (by unfold fa; simp))
  have na_Loose : NoAttr K (He.ga K "Loose") "many" := He.noat_ok (fac (f := .noat "Loose" "many") (by unfold fa; simp))
  have gP : mg "NoThrow" = some (.ref (He.ga K "NoThrow")) := He.glo_ok X G (fac (f := .glo "NoThrow") (by unfold fa; simp))
  refine ⟨fd_law, fun s u => FunD.bindsA (ps := ["_law_script"]) F_law (fun _ _ _ _ _ _ us hl => match us, hl with | [_], _ => rfl) s [u] rfl, fun base TB => ?_⟩
  have ne : (He.cT K ("start_part", none)).2 ≠ (He.cT K ("loose_die", none)).2 := bne_iff_ne.mp c.more
  have L_start_part : LamFor [((He.cT K ("start_part", none)).2, q_start), ((He.cT K ("loose_die", none)).2, q_loose)] mg base fd_start_part q_start := by
    obtain ⟨oc, od, dV, kV, doc, pm, an, cdv, ct, osl, efd, lk, hcd, _, _⟩ := F_start_part.ex
    obtain ⟨a, ea⟩ := He.codeIn_ref hcd
    have e1 : fd_start_part.code = .ref a := by rw [efd, ea]
    have e2 : (He.cT K ("start_part", none)).1 = a := He.codeOf_eq lk e1
    refine ⟨(He.cT K ("start_part", none)).1, (He.cT K ("start_part", none)).2, by rw [e2]; exact e1, TB _ (List.mem_map.mpr ⟨("start_part", none), by unfold tf; simp, rfl⟩), by simp, fun p hp e => ?_⟩
    rcases List.mem_cons.mp hp with rfl | hp
    · rfl
    · rw [List.mem_singleton.mp hp] at e
      exact absurd e.symm ne
  have L_loose_die : LamFor [((He.cT K ("start_part", none)).2, q_start), ((He.cT K ("loose_die", none)).2, q_loose)] mg base fd_loose_die q_loose := by
    obtain ⟨oc, od, dV, kV, doc, pm, an, cdv, ct, osl, efd, lk, hcd, _, _⟩ := F_loose_die.ex
    obtain ⟨a, ea⟩ := He.codeIn_ref hcd
    have e1 : fd_loose_die.code = .ref a := by rw [efd, ea]
    have e2 : (He.cT K ("loose_die", none)).1 = a := He.codeOf_eq lk e1
    refine ⟨(He.cT K ("loose_die", none)).1, (He.cT K ("loose_die", none)).2, by rw [e2]; exact e1, TB _ (List.mem_map.mpr ⟨("loose_die", none), by unfold tf; simp, rfl⟩), by simp, fun p hp e => ?_⟩
    rcases List.mem_cons.mp hp with rfl | hp
    · exact absurd e ne
    · rw [List.mem_singleton.mp hp]
  have ok_divisor := ok_divisor (P := P) (w := w) (mg := mg) (base := base) F_divisor m_abs
  have C_divisor : Cal P w K mg base 1 "divisor" _ := ⟨_, _, _, ok_divisor, He.glo_ok X G (fac (f := .glo "divisor") (by unfold fa; simp)), F_divisor.kp, F_divisor.bindsN fun _ _ _ _ _ _ us hl => match us, hl with | [_, _], _ => rfl⟩
  have ok_share := ok_share (P := P) (w := w) (mg := mg) (base := base) F_share C_divisor
  have C_share : Cal P w K mg base 2 "share" _ := ⟨_, _, _, ok_share, He.glo_ok X G (fac (f := .glo "share") (by unfold fa; simp)), F_share.kp, F_share.bindsN fun _ _ _ _ _ _ us hl => match us, hl with | [_, _], _ => rfl⟩
  have ok_times := ok_times (P := P) (w := w) (mg := mg) (base := base) F_times C_share
  have C_times : Cal P w K mg base 3 "times" _ := ⟨_, _, _, ok_times, He.glo_ok X G (fac (f := .glo "times") (by unfold fa; simp)), F_times.kp, F_times.bindsN fun _ _ _ _ _ _ us hl => match us, hl with | [_, _], _ => rfl⟩
  have ok_law_cell := ok_law_cell (P := P) (w := w) (mg := mg) (base := base) F__law_cell m_len
  have C_law_cell : Cal P w K mg base 1 "_law_cell" _ := ⟨_, _, _, ok_law_cell, He.glo_ok X G (fac (f := .glo "_law_cell") (by unfold fa; simp)), F__law_cell.kp, F__law_cell.bindsN fun _ _ _ _ _ _ us hl => match us, hl with | [_, _], _ => rfl⟩
  have ok_law_mix := ok_law_mix (P := P) (w := w) (mg := mg) (base := base) F__law_mix 
  have C_law_mix : Cal P w K mg base 1 "_law_mix" _ := ⟨_, _, _, ok_law_mix, He.glo_ok X G (fac (f := .glo "_law_mix") (by unfold fa; simp)), F__law_mix.kp, F__law_mix.bindsN fun _ _ _ _ _ _ us hl => match us, hl with | [_, _], _ => rfl⟩
  have ok_law_row := ok_law_row (P := P) (w := w) (mg := mg) (base := base) F__law_row C_law_mix m_range
  have C_law_row : Cal P w K mg base 2 "_law_row" _ := ⟨_, _, _, ok_law_row, He.glo_ok X G (fac (f := .glo "_law_row") (by unfold fa; simp)), F__law_row.kp, F__law_row.bindsN fun _ _ _ _ _ _ us hl => match us, hl with | [_, _, _, _], _ => rfl⟩
  have ok_law_whole := ok_law_whole (P := P) (w := w) (mg := mg) (base := base) F__law_whole m_isinstance m_int m_bool
  have C_law_whole : Cal P w K mg base 1 "_law_whole" _ := ⟨_, _, _, ok_law_whole, He.glo_ok X G (fac (f := .glo "_law_whole") (by unfold fa; simp)), F__law_whole.kp, F__law_whole.bindsN fun _ _ _ _ _ _ us hl => match us, hl with | [_], _ => rfl⟩
  have ok_is_whole := ok_is_whole (P := P) (w := w) (mg := mg) (base := base) F_is_whole m_isinstance m_int m_bool
  have C_is_whole : Cal P w K mg base 1 "is_whole" _ := ⟨_, _, _, ok_is_whole, He.glo_ok X G (fac (f := .glo "is_whole") (by unfold fa; simp)), F_is_whole.kp, F_is_whole.bindsN fun _ _ _ _ _ _ us hl => match us, hl with | [_, _, _], _ => rfl⟩
  have ok_law_low := ok_law_low (P := P) (w := w) (mg := mg) (base := base) F__law_low m_abs
  have C_law_low : Cal P w K mg base 1 "_law_low" _ := ⟨_, _, _, ok_law_low, He.glo_ok X G (fac (f := .glo "_law_low") (by unfold fa; simp)), F__law_low.kp, F__law_low.bindsN fun _ _ _ _ _ _ us hl => match us, hl with | [_, _], _ => rfl⟩
  have ok_law_times := ok_law_times (P := P) (w := w) (mg := mg) (base := base) F__law_times C_law_low
  have C_law_times : Cal P w K mg base 2 "_law_times" _ := ⟨_, _, _, ok_law_times, He.glo_ok X G (fac (f := .glo "_law_times") (by unfold fa; simp)), F__law_times.kp, F__law_times.bindsN fun _ _ _ _ _ _ us hl => match us, hl with | [_, _], _ => rfl⟩
  have ok_law_fraction := ok_law_fraction (P := P) (w := w) (mg := mg) (base := base) F__law_fraction C_law_whole m_isinstance m_tuple m_len
  have C_law_fraction : Cal P w K mg base 2 "_law_fraction" _ := ⟨_, _, _, ok_law_fraction, He.glo_ok X G (fac (f := .glo "_law_fraction") (by unfold fa; simp)), F__law_fraction.kp, F__law_fraction.bindsN fun _ _ _ _ _ _ us hl => match us, hl with | [_, _], _ => rfl⟩
  have ok_law_matrix := ok_law_matrix (P := P) (w := w) (mg := mg) (base := base) F__law_matrix C_law_fraction m_isinstance m_list m_len m_zip
  have C_law_matrix : Cal P w K mg base 3 "_law_matrix" _ := ⟨_, _, _, ok_law_matrix, He.glo_ok X G (fac (f := .glo "_law_matrix") (by unfold fa; simp)), F__law_matrix.kp, F__law_matrix.bindsN fun _ _ _ _ _ _ us hl => match us, hl with | [_, _], _ => rfl⟩
  have ok_size_left := ok_size_left (P := P) (w := w) (mg := mg) (base := base) F_size_left m_sum m_enumerate
  have C_size_left : Cal P w K mg base 1 "size_left" _ := ⟨_, _, _, ok_size_left, He.glo_ok X G (fac (f := .glo "size_left") (by unfold fa; simp)), F_size_left.kp, F_size_left.bindsN fun _ _ _ _ _ _ us hl => match us, hl with | [_, _], _ => rfl⟩
  have ok_wished := ok_wished (P := P) (w := w) (mg := mg) (base := base) F_wished C_size_left C_share m_len m_enumerate
  have C_wished : Cal P w K mg base 3 "wished" _ := ⟨_, _, _, ok_wished, He.glo_ok X G (fac (f := .glo "wished") (by unfold fa; simp)), F_wished.kp, F_wished.bindsN fun _ _ _ _ _ _ us hl => match us, hl with | [_, _], _ => rfl⟩
  have ok_law_wished := ok_law_wished (P := P) (w := w) (mg := mg) (base := base) F__law_wished C_law_low m_len m_range m_sum
  have C_law_wished : Cal P w K mg base 2 "_law_wished" _ := ⟨_, _, _, ok_law_wished, He.glo_ok X G (fac (f := .glo "_law_wished") (by unfold fa; simp)), F__law_wished.kp, F__law_wished.bindsN fun _ _ _ _ _ _ us hl => match us, hl with | [_, _], _ => rfl⟩
  have ok_places_of := ok_places_of (P := P) (w := w) (mg := mg) (base := base) F_places_of 
  have C_places_of : Cal P w K mg base 1 "places_of" _ := ⟨_, _, _, ok_places_of, He.glo_ok X G (fac (f := .glo "places_of") (by unfold fa; simp)), F_places_of.kp, F_places_of.bindsN fun _ _ _ _ _ _ us hl => match us, hl with | [_], _ => rfl⟩
  have ok_wished_of := ok_wished_of (P := P) (w := w) (mg := mg) (base := base) F_wished_of C_wished
  have C_wished_of : Cal P w K mg base 4 "wished_of" _ := ⟨_, _, _, ok_wished_of, He.glo_ok X G (fac (f := .glo "wished_of") (by unfold fa; simp)), F_wished_of.kp, F_wished_of.bindsN fun _ _ _ _ _ _ us hl => match us, hl with | [_, _], _ => rfl⟩
  have ok_law_crowd := ok_law_crowd (P := P) (w := w) (mg := mg) (base := base) F__law_crowd C_law_cell C_law_row m_list m_range m_len m_sorted m_tuple
  have C_law_crowd : Cal P w K mg base 3 "_law_crowd" _ := ⟨_, _, _, ok_law_crowd, He.glo_ok X G (fac (f := .glo "_law_crowd") (by unfold fa; simp)), F__law_crowd.kp, F__law_crowd.bindsN fun _ _ _ _ _ _ us hl => match us, hl with | [_, _, _], _ => rfl⟩
  have ok_law_start := ok_law_start (P := P) (w := w) (mg := mg) (base := base) F__law_start m_range m_len m_sorted m_tuple
  have C_law_start : Cal P w K mg base 1 "_law_start" _ := ⟨_, _, _, ok_law_start, He.glo_ok X G (fac (f := .glo "_law_start") (by unfold fa; simp)), F__law_start.kp, F__law_start.bindsN fun _ _ _ _ _ _ us hl => match us, hl with | [_, _, _], _ => rfl⟩
  have ok_law_steps := ok_law_steps (P := P) (w := w) (mg := mg) (base := base) F__law_steps m_range
  have C_law_steps : Cal P w K mg base 1 "_law_steps" _ := ⟨_, _, _, ok_law_steps, He.glo_ok X G (fac (f := .glo "_law_steps") (by unfold fa; simp)), F__law_steps.kp, F__law_steps.bindsN fun _ _ _ _ _ _ us hl => match us, hl with | [_, _], _ => rfl⟩
  have ok_law_both := ok_law_both (P := P) (w := w) (mg := mg) (base := base) F__law_both C_law_times m_range m_len
  have C_law_both : Cal P w K mg base 3 "_law_both" _ := ⟨_, _, _, ok_law_both, He.glo_ok X G (fac (f := .glo "_law_both") (by unfold fa; simp)), F__law_both.kp, F__law_both.bindsN fun _ _ _ _ _ _ us hl => match us, hl with | [_], _ => rfl⟩
  have ok_law_loose := ok_law_loose (P := P) (w := w) (mg := mg) (base := base) F__law_loose m_range m_len m_sorted m_tuple
  have C_law_loose : Cal P w K mg base 1 "_law_loose" _ := ⟨_, _, _, ok_law_loose, He.glo_ok X G (fac (f := .glo "_law_loose") (by unfold fa; simp)), F__law_loose.kp, F__law_loose.bindsN fun _ _ _ _ _ _ us hl => match us, hl with | [_, _, _], _ => rfl⟩
  have ok_Told_init := ok_Told_init (P := P) (w := w) (mg := mg) (base := base) F_Told_init cl_Told na_Told m_tuple m_sorted
  have C_Told : Mak P w K mg base 1 "Told" (He.ga K "Told") _ := ⟨_, _, _, mk_Told, ok_Told_init, g_Told, F_Told_init.bindsN fun _ _ _ _ _ _ us hl => match us, hl with | [_, _], _ => rfl⟩
  have ok_Die_init := ok_Die_init (P := P) (w := w) (mg := mg) (base := base) F_Die_init cl_Die na_Die m_tuple
  have C_Die : Mak P w K mg base 1 "Die" (He.ga K "Die") _ := ⟨_, _, _, mk_Die, ok_Die_init, g_Die, F_Die_init.bindsN fun _ _ _ _ _ _ us hl => match us, hl with | [_, _], _ => rfl⟩
  have ok_Start_init := ok_Start_init (P := P) (w := w) (mg := mg) (base := base) F_Start_init cl_Start na_Start C_is_whole M_MOST_STEP
  have C_Start : Mak P w K mg base 2 "Start" (He.ga K "Start") _ := ⟨_, _, _, mk_Start, ok_Start_init, g_Start, F_Start_init.bindsN fun _ _ _ _ _ _ us hl => match us, hl with | [_, _], _ => rfl⟩
  have ok_Loose_init := ok_Loose_init (P := P) (w := w) (mg := mg) (base := base) F_Loose_init cl_Loose na_Loose C_is_whole M_MOST_DRAWN
  have C_Loose : Mak P w K mg base 2 "Loose" (He.ga K "Loose") _ := ⟨_, _, _, mk_Loose, ok_Loose_init, g_Loose, F_Loose_init.bindsN fun _ _ _ _ _ _ us hl => match us, hl with | [_, _], _ => rfl⟩
  have ok_Node_is_told := ok_Node_is_told (P := P) (w := w) (mg := mg) (base := base) F_Node_is_told 
  have C_Die_is_told : Met P w K mg base 1 (He.ga K "Die") "is_told" _ := ⟨_, _, _, cl_Die, He.meth_ok (fac (f := .meth "Die" "is_told") (by unfold fa; simp)), ok_Node_is_told, F_Node_is_told.bindsN fun _ _ _ _ _ _ us hl => match us, hl with | [_], _ => rfl⟩
  have ok_Node_kept := ok_Node_kept (P := P) (w := w) (mg := mg) (base := base) F_Node_kept 
  have C_Die_kept : Met P w K mg base 1 (He.ga K "Die") "kept" _ := ⟨_, _, _, cl_Die, He.meth_ok (fac (f := .meth "Die" "kept") (by unfold fa; simp)), ok_Node_kept, F_Node_kept.bindsN fun _ _ _ _ _ _ us hl => match us, hl with | [_], _ => rfl⟩
  have ok_Node_sides := ok_Node_sides (P := P) (w := w) (mg := mg) (base := base) F_Node_sides 
  have C_Told_sides : Met P w K mg base 1 (He.ga K "Told") "sides" _ := ⟨_, _, _, cl_Told, He.meth_ok (fac (f := .meth "Told" "sides") (by unfold fa; simp)), ok_Node_sides, F_Node_sides.bindsN fun _ _ _ _ _ _ us hl => match us, hl with | [_], _ => rfl⟩
  have ok_Node_parts := ok_Node_parts (P := P) (w := w) (mg := mg) (base := base) F_Node_parts 
  have C_Told_parts : Met P w K mg base 1 (He.ga K "Told") "parts" _ := ⟨_, _, _, cl_Told, He.meth_ok (fac (f := .meth "Told" "parts") (by unfold fa; simp)), ok_Node_parts, F_Node_parts.bindsN fun _ _ _ _ _ _ us hl => match us, hl with | [_], _ => rfl⟩
  have ok_Told_is_told := ok_Told_is_told (P := P) (w := w) (mg := mg) (base := base) F_Told_is_told 
  have C_Told_is_told : Met P w K mg base 1 (He.ga K "Told") "is_told" _ := ⟨_, _, _, cl_Told, He.meth_ok (fac (f := .meth "Told" "is_told") (by unfold fa; simp)), ok_Told_is_told, F_Told_is_told.bindsN fun _ _ _ _ _ _ us hl => match us, hl with | [_], _ => rfl⟩
  have ok_Told_kept := ok_Told_kept (P := P) (w := w) (mg := mg) (base := base) F_Told_kept cl_Told na_Told
  have C_Told_kept : Met P w K mg base 1 (He.ga K "Told") "kept" _ := ⟨_, _, _, cl_Told, He.meth_ok (fac (f := .meth "Told" "kept") (by unfold fa; simp)), ok_Told_kept, F_Told_kept.bindsN fun _ _ _ _ _ _ us hl => match us, hl with | [_], _ => rfl⟩
  have ok_Start_chance := ok_Start_chance (P := P) (w := w) (mg := mg) (base := base) F_Start_chance cl_Start na_Start
  have C_Start_chance : Met P w K mg base 1 (He.ga K "Start") "chance" _ := ⟨_, _, _, cl_Start, He.meth_ok (fac (f := .meth "Start" "chance") (by unfold fa; simp)), ok_Start_chance, F_Start_chance.bindsN fun _ _ _ _ _ _ us hl => match us, hl with | [_, _, _, _], _ => rfl⟩
  have ok_Start_bounds := ok_Start_bounds (P := P) (w := w) (mg := mg) (base := base) F_Start_bounds cl_Start na_Start m_len
  have C_Start_bounds : Met P w K mg base 1 (He.ga K "Start") "bounds" _ := ⟨_, _, _, cl_Start, He.meth_ok (fac (f := .meth "Start" "bounds") (by unfold fa; simp)), ok_Start_bounds, F_Start_bounds.bindsN fun _ _ _ _ _ _ us hl => match us, hl with | [_, _], _ => rfl⟩
  have ok_Start_text := ok_Start_text (P := P) (w := w) (mg := mg) (base := base) F_Start_text cl_Start na_Start m_str
  have C_Start_text : Met P w K mg base 1 (He.ga K "Start") "text" _ := ⟨_, _, _, cl_Start, He.meth_ok (fac (f := .meth "Start" "text") (by unfold fa; simp)), ok_Start_text, F_Start_text.bindsN fun _ _ _ _ _ _ us hl => match us, hl with | [_], _ => rfl⟩
  have ok_Loose_text := ok_Loose_text (P := P) (w := w) (mg := mg) (base := base) F_Loose_text cl_Loose na_Loose m_str
  have C_Loose_text : Met P w K mg base 1 (He.ga K "Loose") "text" _ := ⟨_, _, _, cl_Loose, He.meth_ok (fac (f := .meth "Loose" "text") (by unfold fa; simp)), ok_Loose_text, F_Loose_text.bindsN fun _ _ _ _ _ _ us hl => match us, hl with | [_], _ => rfl⟩
  have ok_Loose_bounds := ok_Loose_bounds (P := P) (w := w) (mg := mg) (base := base) F_Loose_bounds cl_Loose na_Loose C_wished_of m_len
  have C_Loose_bounds : Met P w K mg base 5 (He.ga K "Loose") "bounds" _ := ⟨_, _, _, cl_Loose, He.meth_ok (fac (f := .meth "Loose" "bounds") (by unfold fa; simp)), ok_Loose_bounds, F_Loose_bounds.bindsN fun _ _ _ _ _ _ us hl => match us, hl with | [_, _], _ => rfl⟩
  have ok_Loose_matrix := ok_Loose_matrix (P := P) (w := w) (mg := mg) (base := base) F_Loose_matrix cl_Loose na_Loose C_wished_of C_times m_enumerate
  have C_Loose_matrix : Met P w K mg base 5 (He.ga K "Loose") "matrix" _ := ⟨_, _, _, cl_Loose, He.meth_ok (fac (f := .meth "Loose" "matrix") (by unfold fa; simp)), ok_Loose_matrix, F_Loose_matrix.bindsN fun _ _ _ _ _ _ us hl => match us, hl with | [_, _], _ => rfl⟩
  have ok_Plan_matrix := ok_Plan_matrix (P := P) (w := w) (mg := mg) (base := base) F_Plan_matrix C_Start_chance m_len m_range
  have C_Start_matrix : Met P w K mg base 2 (He.ga K "Start") "matrix" _ := ⟨_, _, _, cl_Start, He.meth_ok (fac (f := .meth "Start" "matrix") (by unfold fa; simp)), ok_Plan_matrix, F_Plan_matrix.bindsN fun _ _ _ _ _ _ us hl => match us, hl with | [_, _], _ => rfl⟩
  have ok_start_part := ok_start_part (P := P) (w := w) (mg := mg) (base := base) F_start_part L_start_part
  have C_start_part : Cal P w K mg base 1 "start_part" _ := ⟨_, _, _, ok_start_part, He.glo_ok X G (fac (f := .glo "start_part") (by unfold fa; simp)), F_start_part.kp, F_start_part.bindsN fun _ _ _ _ _ _ us hl => match us, hl with | [_, _, _], _ => rfl⟩
  have ok_loose_die := ok_loose_die (P := P) (w := w) (mg := mg) (base := base) F_loose_die L_loose_die C_Die
  have C_loose_die : Cal P w K mg base 3 "loose_die" _ := ⟨_, _, _, ok_loose_die, He.glo_ok X G (fac (f := .glo "loose_die") (by unfold fa; simp)), F_loose_die.kp, F_loose_die.bindsN fun _ _ _ _ _ _ us hl => match us, hl with | [_, _, _], _ => rfl⟩
  have ok_loose_node := ok_loose_node (P := P) (w := w) (mg := mg) (base := base) F_loose_node C_Told C_loose_die m_len
  have C_loose_node : Cal P w K mg base 4 "loose_node" _ := ⟨_, _, _, ok_loose_node, He.glo_ok X G (fac (f := .glo "loose_node") (by unfold fa; simp)), F_loose_node.kp, F_loose_node.bindsN fun _ _ _ _ _ _ us hl => match us, hl with | [_, _, _], _ => rfl⟩
  have ok_Die_sides := ok_Die_sides (P := P) (w := w) (mg := mg) (base := base) F_Die_sides cl_Die na_Die m_sum
  have C_Die_sides : Met P w K mg base 1 (He.ga K "Die") "sides" _ := ⟨_, _, _, cl_Die, He.meth_ok (fac (f := .meth "Die" "sides") (by unfold fa; simp)), ok_Die_sides, F_Die_sides.bindsN fun _ _ _ _ _ _ us hl => match us, hl with | [_], _ => rfl⟩
  have ok_Die_parts := ok_Die_parts (P := P) (w := w) (mg := mg) (base := base) F_Die_parts cl_Die na_Die C_Told C_loose_node
  have C_Die_parts : Met P w K mg base 6 (He.ga K "Die") "parts" _ := ⟨_, _, _, cl_Die, He.meth_ok (fac (f := .meth "Die" "parts") (by unfold fa; simp)), ok_Die_parts, F_Die_parts.bindsN fun _ _ _ _ _ _ us hl => match us, hl with | [_], _ => rfl⟩
  have ok_Die_after := ok_Die_after (P := P) (w := w) (mg := mg) (base := base) F_Die_after cl_Die na_Die C_Told C_loose_node m_isinstance m_int m_bool
  have C_Die_after : Met P w K mg base 6 (He.ga K "Die") "after" _ := ⟨_, _, _, cl_Die, He.meth_ok (fac (f := .meth "Die" "after") (by unfold fa; simp)), ok_Die_after, F_Die_after.bindsN fun _ _ _ _ _ _ us hl => match us, hl with | [_, _], _ => rfl⟩
  have ok_Loose_node := ok_Loose_node (P := P) (w := w) (mg := mg) (base := base) F_Loose_node cl_Loose na_Loose C_places_of C_wished_of C_loose_node
  have C_Loose_node : Met P w K mg base 5 (He.ga K "Loose") "node" _ := ⟨_, _, _, cl_Loose, He.meth_ok (fac (f := .meth "Loose" "node") (by unfold fa; simp)), ok_Loose_node, F_Loose_node.bindsN fun _ _ _ _ _ _ us hl => match us, hl with | [_, _], _ => rfl⟩
  have ok_Start_node := ok_Start_node (P := P) (w := w) (mg := mg) (base := base) F_Start_node cl_Start na_Start C_places_of C_Told C_Die C_start_part m_range
  have C_Start_node : Met P w K mg base 3 (He.ga K "Start") "node" _ := ⟨_, _, _, cl_Start, He.meth_ok (fac (f := .meth "Start" "node") (by unfold fa; simp)), ok_Start_node, F_Start_node.bindsN fun _ _ _ _ _ _ us hl => match us, hl with | [_, _], _ => rfl⟩
  have ok_drawn := ok_drawn (P := P) (w := w) (mg := mg) (base := base) F_drawn gP C_Die_after C_Told_is_told C_Die_is_told C_Told_kept C_Die_kept m_enumerate
  have C_drawn : Cal P w K mg base 7 "drawn" _ := ⟨_, _, _, ok_drawn, He.glo_ok X G (fac (f := .glo "drawn") (by unfold fa; simp)), F_drawn.kp, F_drawn.bindsN fun _ _ _ _ _ _ us hl => match us, hl with | [_, _], _ => rfl⟩
  have ok_law_thrown := ok_law_thrown (P := P) (w := w) (mg := mg) (base := base) F__law_thrown C_Die_after C_Told_is_told C_Die_is_told C_Told_kept C_Die_kept C_Told_sides C_Die_sides C_Told_parts C_Die_parts m_sum
  have C_law_thrown : Cal P w K mg base 7 "_law_thrown" _ := ⟨_, _, _, ok_law_thrown, He.glo_ok X G (fac (f := .glo "_law_thrown") (by unfold fa; simp)), F__law_thrown.kp, F__law_thrown.bindsN fun _ _ _ _ _ _ us hl => match us, hl with | [_, _, _], _ => rfl⟩
  have ok_law_right := ok_law_right (P := P) (w := w) (mg := mg) (base := base) F__law_right C_Start_node C_Loose_node C_Start_matrix C_Loose_matrix C_Start_bounds C_Loose_bounds C_law_matrix C_law_thrown C_drawn m_list m_zip
  have C_law_right : Cal P w K mg base 8 "_law_right" _ := ⟨_, _, _, ok_law_right, He.glo_ok X G (fac (f := .glo "_law_right") (by unfold fa; simp)), F__law_right.kp, F__law_right.bindsN fun _ _ _ _ _ _ us hl => match us, hl with | [_, _, _, _, _, _], _ => rfl⟩
  have ok_law := ok_law (P := P) (w := w) (mg := mg) (base := base) F_law cl_Start na_Start cl_Loose na_Loose C_law_crowd C_law_row C_law_cell C_law_start C_law_right C_law_steps C_law_wished C_law_loose C_law_both C_Start C_Loose C_Start_text C_Loose_text m_len m_str
  exact ok_law
end Fk
open PySem PySem.W PySem.Calls PyProof.Rows
theorem PySem.Challenge.cw_fewspeak_k23_starts_and_loose_ones_throw_holds : PySem.Challenge.rw_fewspeak_k23_starts_and_loose_ones_throw.Holds := by
  w_on; o_law
  refine HandSHeadRun.head_any (r := OpenLaw.row PySem.Challenge.rw_fewspeak_k23_starts_and_loose_ones_throw) (q := view (OpenLaw.row PySem.Challenge.rw_fewspeak_k23_starts_and_loose_ones_throw).prog [46]) (H := Fk.hk) (ob := Fk.ob) (M := 6000) (loose := Fk.lo) (d := HandSHeadRun.topDef (OpenLaw.row PySem.Challenge.rw_fewspeak_k23_starts_and_loose_ones_throw).prog 46) (kwd := []) Fk.ob_eq
    (by kernel_rfl) (fun s => by kernel_rfl) Fk.run (by kernel_rfl) (by kernel_rfl) (by kernel_rfl) (by rfl) (by first | assumption | decide +kernel) (by decide +kernel) ⟨rfl, rfl, rfl, rfl, rfl, by decide +kernel⟩ ?hw ?hc
  case hw => w_witness2
  case hc =>
    refine LamX.walk_ofTsE (l := PySem.Challenge.rw_fewspeak_k23_starts_and_loose_ones_throw) (n := 63) (k := 9) (x := "_law_script") (CX := fun _ => L2.CX0) rfl (by decide) (by kernel_rfl) ⟨rfl, by decide, by decide⟩ ?F (fun _ _ _ _ _ z => z)
    intro w mg fa h Y G hmg0
    obtain ⟨K, KX, c⟩ := Y
    have hmg : mg ("law" : PySem.Str) = some (.ref fa) := by
      have e : (HandSHeadRun.topDef (OpenLaw.row PySem.Challenge.rw_fewspeak_k23_starts_and_loose_ones_throw).prog 46).name = ("law" : PySem.Str) := by kernel_rfl
      rw [← e]
      exact hmg0
    have hg : mg ("law" : PySem.Str) = some (.ref (He.ga K "law")) := He.glo_ok KX G (c.t.d.facts (f := .glo "law") (by unfold Fk.fa; simp))
    have efa : fa = He.fAd K ("law", none) := by
      rw [hmg] at hg
      cases hg
      rfl
    subst efa
    obtain ⟨fd, hb, hF⟩ := Fk.facts (P := (PySem.Challenge.rw_fewspeak_k23_starts_and_loose_ones_throw).prog) (w := w) KX G c
    have mem : ∀ {p : Addr × Addr}, p ∈ Fk.tf.map (He.cT K) → ∃ q ∈ Fk.tf, He.cT K q = p := fun h => List.mem_map.mp h
    refine ⟨K, KX, fd, Fk.tf.map (He.cT K), _, fun p hp => ?_, fun p hp => ?_, fun p hp => ?_, hb, fun H a ns hl _ hT hS => ⟨a, ns, rfl, hS, fun p hp => ?_, fun _ => rfl⟩, fun base _ _ TB => hF base TB⟩
    · obtain ⟨q, hq, rfl⟩ := mem hp
      exact c.empty q hq
    · obtain ⟨q, hq, rfl⟩ := mem hp
      exact c.out q hq
    · obtain ⟨q, hq, rfl⟩ := mem hp
      exact codeHd_of_K KX (c.hd q hq)
    · rcases List.mem_cons.mp hp with rfl | hp
      · exact LamX.TabS.nil (hT (He.cT K ("start_part", none)) (List.mem_map.mpr ⟨("start_part", none), by unfold Fk.tf; simp, rfl⟩))
      · rw [List.mem_singleton.mp hp]
        exact LamX.TabS.nil (hT (He.cT K ("loose_die", none)) (List.mem_map.mpr ⟨("loose_die", none), by unfold Fk.tf; simp, rfl⟩))
