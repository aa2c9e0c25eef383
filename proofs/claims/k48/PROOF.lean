import PyProof.Rows.All
import Wide.All
import OpenK.AllK
import Wide.FinOn
import KE.KStateDown
import HandS.ForMost
import HandS.Defaults
import HandS.Head0
import HandS.Head1
import HandS.Head2
import HandS.Head3
import HandS.HeadEnd
import HandS.HeadHook1
import HandS.HeadHook2
import PySem.Challenge.RW_metricparts_k48_whole_papers_of_cuts
import HandS.Style
import HandS.TupAny
import HandS.Conv
import HandS.IsInst
import HandS.Zip
import HandS.Gcd
import HandS.Wide
import HandS.SlotsOwn
import HandS.Deep
import KE.SortData
import PyProof.NeKinds
import PyProof.EqKinds
set_option Elab.async false
set_option linter.all false
set_option maxRecDepth 100000
set_option maxHeartbeats 0
namespace K48
open PySem PySem.Spec PyProof.Rows L2
def top (i : Nat) : Stmt := PySem.Challenge.pw_metricparts_k48_whole_papers_of_cuts.main.body.getD i (.Pass ⟨0, 0, 0, 0⟩)
def meth (i j : Nat) : Stmt := match top i with
  | .ClassDef (body := b) .. => b.getD j (.Pass ⟨0, 0, 0, 0⟩)
  | s => s
def loose0 : List PySem.Str := (["_wall", "__name__", "Fault", "Malformed", "ZeroDivisor", "Refused", "is_integer", "Ratio", "zero", "is_rational", "as_ratio", "is_point", "are_points", "are_numbers", "is_split", "is_split_checker", "all_splits", "parted", "summed", "are_parts", "pairs_of", "takes_cuts", "MOST", "taken_rows", "keeps_triangles", "is_apart", "Metric", "check_count", "check_points", "splits", "is_split_build", "cut_rows", "row_factor"] : List String).map PySem.Str.ofString
def loose1 : List PySem.Str := (["starting", "costs", "leaving", "subtracted", "feasible", "pair_row", "cut_columns", "decided", "cut_weights", "cut_functional", "cut_paper", "_law_state", "_law_take", "_law_order_of", "_law_shortest", "_law_web", "_law_renamed", "_law_of_tree", "_law_grid", "_law_band", "_law_levels", "_law_rows", "_law_factor", "_law_ratios", "_law_low", "_law_plus", "_law_mul", "_law_seen", "_law_numbers_of", "_law_are_points", "_law_table", "_law_other", "_law_bend", "_law_splits", "_law_parts_of"] : List String).map PySem.Str.ofString
def loose2 : List PySem.Str := (["_law_summed", "_law_two", "_law_cuts_hold", "_law_told", "_law_cut_rows", "_law_drawn_papers", "_law_moved_weights"] : List String).map PySem.Str.ofString
def looseAll : List PySem.Str := loose0 ++ loose1 ++ loose2


def dG (x nm : Str) (st : Stmt) : He.DefD := ⟨(x, none), nm, nm, defArgs st, defBody st, defScope st, [], []⟩
def dMt (C m q : Str) (st : Stmt) : He.DefD := ⟨(C, some m), m, q, defArgs st, defBody st, defScope st, [], []⟩
def dIR : He.DefD := ⟨("Ratio", some "__init__"), "__init__", "Ratio.__init__", defArgs (meth 9 0), defBody (meth 9 0), defScope (meth 9 0), [.int 1], []⟩
def dIM : He.DefD := ⟨("Metric", some "__init__"), "__init__", "Metric.__init__", defArgs (meth 30 0), defBody (meth 30 0), defScope (meth 30 0), [], []⟩
def fnH : List He.DefD := [dG "is_integer" "is_integer" (top 8),
  dG "zero" "zero" (top 10),
  dG "is_rational" "is_rational" (top 11),
  dG "as_ratio" "as_ratio" (top 12),
  dG "is_point" "is_point" (top 14),
  dG "are_points" "are_points" (top 15),
  dG "are_numbers" "are_numbers" (top 16),
  dG "is_split_checker" "is_split" (top 17),
  dG "all_splits" "all_splits" (top 19),
  dG "parted" "parted" (top 20),
  dG "summed" "summed" (top 21),
  dG "are_parts" "are_parts" (top 22),
  dG "pairs_of" "pairs_of" (top 23),
  dG "takes_cuts" "takes_cuts" (top 24),
  dG "taken_rows" "taken_rows" (top 27),
  dG "keeps_triangles" "keeps_triangles" (top 28),
  dG "is_apart" "is_apart" (top 29),
  dG "check_count" "check_count" (top 32),
  dG "check_points" "check_points" (top 33),
  dG "splits" "splits" (top 34),
  dG "is_split_build" "is_split" (top 35),
  dG "cut_rows" "cut_rows" (top 37),
  dG "row_factor" "row_factor" (top 39),
  dG "starting" "starting" (top 40),
  dG "costs" "costs" (top 41),
  dG "leaving" "leaving" (top 42),
  dG "subtracted" "subtracted" (top 43),
  dG "feasible" "feasible" (top 44),
  dG "pair_row" "pair_row" (top 46),
  dG "cut_columns" "cut_columns" (top 47),
  dG "decided" "decided" (top 48),
  dG "cut_weights" "cut_weights" (top 49),
  dG "cut_functional" "cut_functional" (top 50),
  dG "cut_paper" "cut_paper" (top 52),
  dG "_law_state" "_law_state" (top 54),
  dG "_law_take" "_law_take" (top 55),
  dG "_law_order_of" "_law_order_of" (top 56),
  dG "_law_shortest" "_law_shortest" (top 57),
  dG "_law_web" "_law_web" (top 58),
  dG "_law_renamed" "_law_renamed" (top 59),
  dG "_law_of_tree" "_law_of_tree" (top 60),
  dG "_law_grid" "_law_grid" (top 61),
  dG "_law_band" "_law_band" (top 62),
  dG "_law_levels" "_law_levels" (top 63),
  dG "_law_rows" "_law_rows" (top 64),
  dG "_law_factor" "_law_factor" (top 65),
  dG "_law_ratios" "_law_ratios" (top 66),
  dG "_law_low" "_law_low" (top 67),
  dG "_law_plus" "_law_plus" (top 68),
  dG "_law_mul" "_law_mul" (top 69),
  dG "_law_seen" "_law_seen" (top 70),
  dG "_law_numbers_of" "_law_numbers_of" (top 71),
  dG "_law_are_points" "_law_are_points" (top 72),
  dG "_law_table" "_law_table" (top 73),
  dG "_law_other" "_law_other" (top 74),
  dG "_law_bend" "_law_bend" (top 75),
  dG "_law_splits" "_law_splits" (top 76),
  dG "_law_parts_of" "_law_parts_of" (top 77),
  dG "_law_summed" "_law_summed" (top 78),
  dG "_law_two" "_law_two" (top 79),
  dG "_law_cuts_hold" "_law_cuts_hold" (top 80),
  dG "_law_told" "_law_told" (top 81),
  dG "_law_cut_rows" "_law_cut_rows" (top 82),
  dG "_law_drawn_papers" "_law_drawn_papers" (top 83),
  dG "_law_moved_weights" "_law_moved_weights" (top 84),
  dG "law" "law" (top 85),
  dMt "Metric" "distance" "Metric.distance" (meth 30 3),
  dMt "Metric" "pairs" "Metric.pairs" (meth 30 4),
  dMt "Ratio" "__add__" "Ratio.__add__" (meth 9 2),
  dMt "Ratio" "__eq__" "Ratio.__eq__" (meth 9 1),
  dMt "Ratio" "__mul__" "Ratio.__mul__" (meth 9 4),
  dMt "Ratio" "__neg__" "Ratio.__neg__" (meth 9 5),
  dMt "Ratio" "__sub__" "Ratio.__sub__" (meth 9 3),
  dMt "Ratio" "is_zero" "Ratio.is_zero" (meth 9 7),
  dMt "Ratio" "sign" "Ratio.sign" (meth 9 8),
  dIR,
  dIM]
def faH : List He.Fa := [.glo "is_integer", .glo "zero", .glo "is_rational", .glo "as_ratio", .glo "is_point", .glo "are_points", .glo "are_numbers", .glo "is_split_checker", .glo "all_splits", .glo "parted", .glo "summed", .glo "are_parts", .glo "pairs_of", .glo "takes_cuts", .glo "taken_rows", .glo "keeps_triangles", .glo "is_apart", .glo "check_count", .glo "check_points", .glo "splits", .glo "is_split_build", .glo "cut_rows", .glo "row_factor", .glo "starting", .glo "costs", .glo "leaving", .glo "subtracted", .glo "feasible", .glo "pair_row", .glo "cut_columns", .glo "decided", .glo "cut_weights", .glo "cut_functional", .glo "cut_paper", .glo "_law_state", .glo "_law_take", .glo "_law_order_of", .glo "_law_shortest", .glo "_law_web", .glo "_law_renamed", .glo "_law_of_tree", .glo "_law_grid", .glo "_law_band", .glo "_law_levels", .glo "_law_rows", .glo "_law_factor", .glo "_law_ratios", .glo "_law_low", .glo "_law_plus", .glo "_law_mul", .glo "_law_seen", .glo "_law_numbers_of", .glo "_law_are_points", .glo "_law_table", .glo "_law_other", .glo "_law_bend", .glo "_law_splits", .glo "_law_parts_of", .glo "_law_summed", .glo "_law_two", .glo "_law_cuts_hold", .glo "_law_told", .glo "_law_cut_rows", .glo "_law_drawn_papers", .glo "_law_moved_weights", .glo "law", .glo "Ratio", .cls "Ratio", .mkr "Ratio", .glo "Metric", .cls "Metric", .mkr "Metric", .noat "Ratio" "n", .noat "Ratio" "d", .noat "Metric" "n", .noat "Metric" "rows", .int "MOST" 8, .free "len", .free "range", .free "isinstance", .free "tuple", .free "list", .free "int", .free "bool", .free "str", .free "abs", .free "min", .free "sum", .free "zip", .free "sorted", .meth "Metric" "distance", .meth "Metric" "pairs", .meth "Ratio" "__add__", .meth "Ratio" "__eq__", .meth "Ratio" "__mul__", .meth "Ratio" "__neg__", .meth "Ratio" "__sub__", .meth "Ratio" "is_zero", .meth "Ratio" "sign"]
/-- what Fx and Fy ask besides -/
def exB (K : PySem.W.Frag) : Bool :=
  He.eqO (PySem.W.findIn K (.ref (He.ga K "Ratio")) "__ne__") (some (some (.builtin "object.__ne__"))) &&
  (decide (PySem.W.mroIn K (He.ga K "Ratio") (.type "object") = some true) &&
  (PySem.W.selfFirst K (He.ga K "Ratio") &&
  (PySem.W.notFirst K (He.ga K "Ratio") (.ref (He.ga K "Ratio")) &&
  (PySem.W.notFirst K (He.ga K "Ratio") (.type "str") &&
  (He.eqO (PySem.W.findIn K (.ref (He.ga K "Ratio")) "__class__") (some (some (.builtin "object.__class__"))) &&
  (He.eqO (PySem.W.specialIn K (.builtin "object.__class__") "__get__") (some (some (.builtin "getset_descriptor.__get__"))) &&
  (decide (PySem.W.takesIn K (.builtin "object.__class__") = some true) &&
  (decide (PySem.W.kitOne K (.ref (He.ga K "Ratio")) (.ref (He.ga K "Ratio")) = some true) &&
  ([.type "NoneType", .type "bool", .type "int", .type "str", .type "tuple", .type "list"].all (fun t : Value => decide (PySem.W.kitOne K (.ref (He.ga K "Ratio")) t = some false) && decide (PySem.W.kitOne K t (.ref (He.ga K "Ratio")) = some false)) &&
  (He.eqO (PySem.W.nsIn K mainGlobals "gcd") (some (some (.builtin "math.gcd"))) &&
  He.eqO (PySem.W.nsIn K mainGlobals "lcm") (some (some (.builtin "math.lcm")))))))))))))
def obsX (K : PySem.W.Frag) : He.AlD := (exB K && (He.obsD faH fnH K).1, (He.obsD faH fnH K).2)
def SaysX (K : PySem.W.Frag) : Prop := obsX K = He.valD fnH
/-- what an address names -/
def exA (g : Addr → Option Obj) (a : Addr) : List Addr := match g a with
  | some o => He.refsD o
  | none => []
/-- the addresses that the facts need: the module's names, what they name, the two classes' methods and what these name -/
def asY (g : Addr → Option Obj) : List Addr :=
  mainGlobals :: (exA g mainGlobals ++ (exA g mainGlobals).flatMap (exA g)
    ++ (([He.ga (He.frG g [mainGlobals]) "Ratio", He.ga (He.frG g [mainGlobals]) "Metric"].flatMap (exA g)).flatMap (exA g)
    ++ (([He.ga (He.frG g [mainGlobals]) "Ratio", He.ga (He.frG g [mainGlobals]) "Metric"].flatMap (exA g)).flatMap (exA g)).flatMap (exA g)))
def obsXG (g : Addr → Option Obj) : He.AlD := obsX (He.frG g (asY g))
def hookX : PySem.W.Hook where
  α := He.AlD
  obs := fun s => obsXG s.heap.get?
  val := fun _ => He.valD fnH
  says := fun _ h => ∃ K : PySem.W.Frag, K.In h ∧ SaysX K
  of := fun _ _ e => ⟨_, He.frG_in, e⟩
  keeps := fun _ _ _ ⟨K, hK, c⟩ k => ⟨K, PySem.W.Frag.In.keeps hK k, c⟩
theorem SaysX.ex {K : PySem.W.Frag} (h : SaysX K) : exB K = true := (Bool.and_eq_true_iff.mp (show (exB K && (He.obsD faH fnH K).1) = true from congrArg (fun z : He.AlD => z.1) h)).1
theorem SaysX.d {K : PySem.W.Frag} (h : SaysX K) : He.SaysD faH fnH K := Prod.ext (Bool.and_eq_true_iff.mp (show (exB K && (He.obsD faH fnH K).1) = true from congrArg (fun z : He.AlD => z.1) h)).2 (show (obsX K).2 = (He.valD fnH).2 from congrArg (fun z : He.AlD => z.2) h)
abbrev RRow : PySem.W.OpenRow := PySem.W.OpenLaw.row PySem.Challenge.rw_metricparts_k48_whole_papers_of_cuts
abbrev hkX : PySem.W.Hook := hookX
def obX (s : PySem.W.SharedT) : He.AlD := obsXG (HandSHeadRun.getT s)
theorem obX_eq (s : PySem.W.SharedT) : obX s = hkX.obs s.abs := by
  have e : HandSHeadRun.getT s = s.abs.heap.get? := funext (HandSHeadRun.getT_eq s)
  show obsXG (HandSHeadRun.getT s) = obsXG s.abs.heap.get?
  rw [e]
theorem runHead (w : World) : HandSHeadRun.RunEqI RRow (PySem.W.view RRow.prog [0, 85]) hkX obX 6000 looseAll w := by
  unfold HandSHeadRun.RunEqI
  kernel_rfl
end K48
namespace K48
open PySem PySem.W PySem.Calls PyProof.Rows
theorem e_def : defOf (view (OpenLaw.row PySem.Challenge.rw_metricparts_k48_whole_papers_of_cuts).prog [0, 85]) (OpenLaw.row PySem.Challenge.rw_metricparts_k48_whole_papers_of_cuts).name = some ((HandSHeadRun.topDef (OpenLaw.row PySem.Challenge.rw_metricparts_k48_whole_papers_of_cuts).prog 85), []) := by kernel_rfl
theorem e_p : (OpenLaw.row PySem.Challenge.rw_metricparts_k48_whole_papers_of_cuts).prog.theDef (OpenLaw.row PySem.Challenge.rw_metricparts_k48_whole_papers_of_cuts).name = some ((HandSHeadRun.topDef (OpenLaw.row PySem.Challenge.rw_metricparts_k48_whole_papers_of_cuts).prog 85).params, (HandSHeadRun.topDef (OpenLaw.row PySem.Challenge.rw_metricparts_k48_whole_papers_of_cuts).prog 85).body, (HandSHeadRun.topDef (OpenLaw.row PySem.Challenge.rw_metricparts_k48_whole_papers_of_cuts).prog 85).scope) := by kernel_rfl
theorem e_k : kwWritten? (HandSHeadRun.topDef (OpenLaw.row PySem.Challenge.rw_metricparts_k48_whole_papers_of_cuts).prog 85).params.kwonlyargs (HandSHeadRun.topDef (OpenLaw.row PySem.Challenge.rw_metricparts_k48_whole_papers_of_cuts).prog 85).params.kw_defaults = some [] := by kernel_rfl
theorem e_wr : (!(OpenLaw.row PySem.Challenge.rw_metricparts_k48_whole_papers_of_cuts).writes || (OpenLaw.row PySem.Challenge.rw_metricparts_k48_whole_papers_of_cuts).records.isEmpty) = true := by rfl
theorem e_nm : (HandSHeadRun.topDef (OpenLaw.row PySem.Challenge.rw_metricparts_k48_whole_papers_of_cuts).prog 85).name = ("law" : PySem.Str) := by kernel_rfl
theorem e_df : (HandSHeadRun.topDef (OpenLaw.row PySem.Challenge.rw_metricparts_k48_whole_papers_of_cuts).prog 85).params.defaults = [] := by kernel_rfl
theorem e_ok : (chainsOk (view (OpenLaw.row PySem.Challenge.rw_metricparts_k48_whole_papers_of_cuts).prog [0, 85]) && opensWell (OpenLaw.row PySem.Challenge.rw_metricparts_k48_whole_papers_of_cuts).prog && (frees (OpenLaw.row PySem.Challenge.rw_metricparts_k48_whole_papers_of_cuts).toRowW && (OpenLaw.row PySem.Challenge.rw_metricparts_k48_whole_papers_of_cuts).within.isEmpty)) = true := by decide +kernel
theorem e_bare : (OpenLaw.row PySem.Challenge.rw_metricparts_k48_whole_papers_of_cuts).prog.bare := ⟨rfl, rfl, rfl, rfl, rfl, by decide +kernel⟩
theorem e_prom : (OpenLaw.row PySem.Challenge.rw_metricparts_k48_whole_papers_of_cuts).toRowW.promised := by w_witness2
end K48

namespace K48
open PySem PySem.Spec PyProof.Rows L2

/-! ### data -/
/-- what a Python value is worth, without the heap -/
inductive D where
  | non | bl (b : Bool) | int (i : Int) | str (x : Str) | rat (q : Rat) | tup (l : List D) | lst (l : List D) | met (n : Int) (r : D)
/-- the two classes -/
structure Cl where
  R : Addr
  M : Addr
def fR (q : Rat) : List (Str × V) := [("n", .int q.num), ("d", .int (q.den : Int))]
def fM (n : Int) (v : V) : List (Str × V) := [("n", .int n), ("rows", v)]
mutual
/-- v is worth d over the frozen heap B -/
def Rep (c : Cl) (B : Hp) : D → V → Prop
  | .non, v => v = .non
  | .bl b, v => v = .bl b
  | .int i, v => v = .int i
  | .str x, v => v = .str x
  | .rat q, v => ∃ a dx, v = .ref a ∧ B a = some (.ins c.R dx (fR q))
  | .tup l, v => ∃ a vs, v = .ref a ∧ B a = some (.tup vs) ∧ RepL c B l vs
  | .lst l, v => ∃ a vs, v = .ref a ∧ B a = some (.lst vs) ∧ RepL c B l vs
  | .met n r, v => ∃ a dx w, v = .ref a ∧ B a = some (.ins c.M dx (fM n w)) ∧ Rep c B r w
def RepL (c : Cl) (B : Hp) : List D → List V → Prop
  | [], vs => vs = []
  | d :: l, vs => ∃ v r, vs = v :: r ∧ Rep c B d v ∧ RepL c B l r
end
mutual
theorem Rep.mono {c : Cl} {B B' : Hp} (s : Same B B') : ∀ (d : D) (v : V), Rep c B d v → Rep c B' d v
  | .non, v, h => h
  | .bl b, v, h => h
  | .int i, v, h => h
  | .str x, v, h => h
  | .rat q, v, ⟨a, dx, e, h⟩ => ⟨a, dx, e, s _ _ h⟩
  | .tup l, v, ⟨a, vs, e, h, r⟩ => ⟨a, vs, e, s _ _ h, RepL.mono s l vs r⟩
  | .lst l, v, ⟨a, vs, e, h, r⟩ => ⟨a, vs, e, s _ _ h, RepL.mono s l vs r⟩
  | .met n r, v, ⟨a, dx, w, e, h, q⟩ => ⟨a, dx, w, e, s _ _ h, Rep.mono s r w q⟩
theorem RepL.mono {c : Cl} {B B' : Hp} (s : Same B B') : ∀ (l : List D) (vs : List V), RepL c B l vs → RepL c B' l vs
  | [], vs, h => h
  | d :: l, vs, ⟨v, r, e, h, q⟩ => ⟨v, r, e, Rep.mono s d v h, RepL.mono s l r q⟩
end
theorem RepL.len {c : Cl} {B : Hp} : ∀ {l : List D} {vs : List V}, RepL c B l vs → vs.length = l.length
  | [], _, h => by cases (show _ = [] from h); rfl
  | d :: l, vs, ⟨v, r, e, h, q⟩ => by cases e; simp [RepL.len q]
theorem RepL.get {c : Cl} {B : Hp} : ∀ {l : List D} {vs : List V} {i : Nat} {d : D}, RepL c B l vs → l[i]? = some d → ∃ v, vs[i]? = some v ∧ Rep c B d v
  | [], _, _, _, h, e => by simp at e
  | d :: l, vs, 0, d', ⟨v, r, e, h, q⟩, e' => by cases e; simp at e'; subst e'; exact ⟨v, rfl, h⟩
  | d :: l, vs, i + 1, d', ⟨v, r, e, h, q⟩, e' => by
    cases e
    obtain ⟨w, h1, h2⟩ := RepL.get q (show l[i]? = some d' by simpa using e')
    exact ⟨w, by simpa using h1, h2⟩
theorem RepL.get' {c : Cl} {B : Hp} : ∀ {l : List D} {vs : List V} {i : Nat} {v : V}, RepL c B l vs → vs[i]? = some v → ∃ d, l[i]? = some d ∧ Rep c B d v
  | [], _, _, _, h, e => by cases (show _ = [] from h); simp at e
  | d :: l, vs, 0, d', ⟨v, r, e, h, q⟩, e' => by cases e; simp at e'; subst e'; exact ⟨d, rfl, h⟩
  | d :: l, vs, i + 1, d', ⟨v, r, e, h, q⟩, e' => by
    cases e
    obtain ⟨w, h1, h2⟩ := RepL.get' q (show r[i]? = some d' by simpa using e')
    exact ⟨w, by simpa using h1, h2⟩
theorem RepL.append {c : Cl} {B : Hp} : ∀ {l l' : List D} {vs vs' : List V}, RepL c B l vs → RepL c B l' vs' → RepL c B (l ++ l') (vs ++ vs')
  | [], _, _, _, h, k => by cases (show _ = [] from h); exact k
  | d :: l, _, vs, _, ⟨v, r, e, h, q⟩, k => by cases e; exact ⟨v, _, rfl, h, RepL.append q k⟩
theorem RepL.take {c : Cl} {B : Hp} : ∀ {l : List D} {vs : List V} (n : Nat), RepL c B l vs → RepL c B (l.take n) (vs.take n)
  | _, _, 0, _ => rfl
  | [], _, n + 1, h => by cases (show _ = [] from h); rfl
  | d :: l, vs, n + 1, ⟨v, r, e, h, q⟩ => by cases e; exact ⟨v, _, rfl, h, RepL.take n q⟩
theorem RepL.drop {c : Cl} {B : Hp} : ∀ {l : List D} {vs : List V} (n : Nat), RepL c B l vs → RepL c B (l.drop n) (vs.drop n)
  | _, _, 0, h => h
  | [], _, n + 1, h => by cases (show _ = [] from h); rfl
  | d :: l, vs, n + 1, ⟨v, r, e, h, q⟩ => by cases e; exact RepL.drop n q
theorem RepL.set {c : Cl} {B : Hp} {d : D} {v : V} (r : Rep c B d v) : ∀ {l : List D} {vs : List V} (i : Nat), RepL c B l vs → RepL c B (l.set i d) (vs.set i v)
  | [], _, _, h => by cases (show _ = [] from h); rfl
  | d :: l, vs, 0, ⟨w, r', e, h, q⟩ => by cases e; exact ⟨v, _, rfl, r, q⟩
  | d :: l, vs, i + 1, ⟨w, r', e, h, q⟩ => by cases e; exact ⟨w, _, rfl, h, RepL.set r i q⟩
theorem RepL.rev {c : Cl} {B : Hp} : ∀ {l : List D} {vs : List V}, RepL c B l vs → RepL c B l.reverse vs.reverse
  | [], _, h => by cases (show _ = [] from h); rfl
  | d :: l, vs, ⟨v, r, e, h, q⟩ => by
    cases e
    rw [List.reverse_cons, List.reverse_cons]
    exact (RepL.rev q).append ⟨v, [], rfl, h, rfl⟩
theorem RepL.erase {c : Cl} {B : Hp} : ∀ {l : List D} {vs : List V} (i : Nat), RepL c B l vs → RepL c B (l.eraseIdx i) (vs.eraseIdx i)
  | [], _, _, h => by cases (show _ = [] from h); rfl
  | d :: l, vs, 0, ⟨w, r', e, h, q⟩ => by cases e; exact q
  | d :: l, vs, i + 1, ⟨w, r', e, h, q⟩ => by cases e; exact ⟨w, _, rfl, h, RepL.erase i q⟩
theorem RepL.ints {c : Cl} {B : Hp} : ∀ {ns : List Int} {vs : List V}, RepL c B (ns.map D.int) vs → vs = ns.map V.int
  | [], _, h => h
  | n :: ns, vs, ⟨v, r, e, h, q⟩ => by
    cases e
    rw [show v = V.int n from h, RepL.ints q]
    rfl
theorem RepL.ofInts {c : Cl} {B : Hp} : ∀ (ns : List Int), RepL c B (ns.map D.int) (ns.map V.int)
  | [] => rfl
  | n :: ns => ⟨_, _, rfl, rfl, RepL.ofInts ns⟩
theorem RepL.bls {c : Cl} {B : Hp} : ∀ {ns : List Bool} {vs : List V}, RepL c B (ns.map D.bl) vs → vs = ns.map V.bl
  | [], _, h => h
  | n :: ns, vs, ⟨v, r, e, h, q⟩ => by
    cases e
    rw [show v = V.bl n from h, RepL.bls q]
    rfl

/-! ### owned lists -/
inductive Mu where
  | im (d : D) | ls (l : List Mu)
mutual
def OwnT (c : Cl) (B H : Hp) : Mu → V → List Addr → Prop
  | .im d, v, F => Rep c B d v ∧ F = []
  | .ls l, v, F => ∃ a vs F', v = .ref a ∧ F = a :: F' ∧ H a = some (.lst vs) ∧ OwnL c B H l vs F'
def OwnL (c : Cl) (B H : Hp) : List Mu → List V → List Addr → Prop
  | [], vs, F => vs = [] ∧ F = []
  | m :: l, vs, F => ∃ v r F1 F2, vs = v :: r ∧ F = F1 ++ F2 ∧ OwnT c B H m v F1 ∧ OwnL c B H l r F2
end
mutual
def Mu.toD : Mu → D
  | .im d => d
  | .ls l => .lst (Mu.toL l)
def Mu.toL : List Mu → List D
  | [] => []
  | m :: l => m.toD :: Mu.toL l
end
theorem toL_map : ∀ l : List D, Mu.toL (l.map Mu.im) = l
  | [] => rfl
  | d :: l => by
    show (Mu.im d).toD :: Mu.toL (l.map Mu.im) = _
    rw [toL_map l]; rfl
mutual
theorem OwnT.mono {c : Cl} {B B' H H' : Hp} (s : Same B B') : ∀ (m : Mu) (v : V) (F : List Addr), (∀ a ∈ F, H' a = H a) → OwnT c B H m v F → OwnT c B' H' m v F
  | .im d, v, F, _, ⟨h, e⟩ => ⟨Rep.mono s d v h, e⟩
  | .ls l, v, F, k, ⟨a, vs, F', e1, e2, h, q⟩ => ⟨a, vs, F', e1, e2, by rw [k a (by rw [e2]; exact List.mem_cons_self)]; exact h, OwnL.mono s l vs F' (fun b hb => k b (by rw [e2]; exact List.mem_cons_of_mem _ hb)) q⟩
theorem OwnL.mono {c : Cl} {B B' H H' : Hp} (s : Same B B') : ∀ (l : List Mu) (vs : List V) (F : List Addr), (∀ a ∈ F, H' a = H a) → OwnL c B H l vs F → OwnL c B' H' l vs F
  | [], vs, F, _, h => h
  | m :: l, vs, F, k, ⟨v, r, F1, F2, e1, e2, h, q⟩ => ⟨v, r, F1, F2, e1, e2, OwnT.mono s m v F1 (fun a ha => k a (by rw [e2]; exact List.mem_append_left _ ha)) h, OwnL.mono s l r F2 (fun a ha => k a (by rw [e2]; exact List.mem_append_right _ ha)) q⟩
end
mutual
theorem OwnT.there {c : Cl} {B H : Hp} : ∀ (m : Mu) (v : V) (F : List Addr), OwnT c B H m v F → ∀ a ∈ F, ∃ o, H a = some o
  | .im d, v, F, ⟨h, e⟩, a, ha => by rw [e] at ha; cases ha
  | .ls l, v, F, ⟨b, vs, F', e1, e2, h, q⟩, a, ha => by
    rw [e2] at ha
    rcases List.mem_cons.mp ha with rfl | ha
    · exact ⟨_, h⟩
    · exact OwnL.there l vs F' q a ha
theorem OwnL.there {c : Cl} {B H : Hp} : ∀ (l : List Mu) (vs : List V) (F : List Addr), OwnL c B H l vs F → ∀ a ∈ F, ∃ o, H a = some o
  | [], vs, F, h, a, ha => by rw [h.2] at ha; cases ha
  | m :: l, vs, F, ⟨v, r, F1, F2, e1, e2, h, q⟩, a, ha => by
    rw [e2] at ha
    rcases List.mem_append.mp ha with ha | ha
    · exact OwnT.there m v F1 h a ha
    · exact OwnL.there l r F2 q a ha
end
theorem OwnL.ims {c : Cl} {B H : Hp} : ∀ {l : List D} {vs : List V} {F : List Addr}, OwnL c B H (l.map Mu.im) vs F → RepL c B l vs ∧ F = []
  | [], vs, F, h => h
  | d :: l, vs, F, ⟨v, r, F1, F2, e1, e2, h, q⟩ => by
    obtain ⟨q1, q2⟩ := OwnL.ims q
    exact ⟨⟨v, r, e1, h.1, q1⟩, by rw [e2, h.2, q2]; rfl⟩
theorem OwnL.ofIms {c : Cl} {B H : Hp} : ∀ {l : List D} {vs : List V}, RepL c B l vs → OwnL c B H (l.map Mu.im) vs []
  | [], vs, h => ⟨h, rfl⟩
  | d :: l, vs, ⟨v, r, e, h, q⟩ => ⟨v, r, [], [], e, rfl, ⟨h, rfl⟩, OwnL.ofIms q⟩

/-- all of F of H is added to B -/
def addF (B H : Hp) (F : List Addr) : Hp := fun a => if a ∈ F then H a else B a
theorem addF_in {B H : Hp} {F : List Addr} {a : Addr} (h : a ∈ F) : addF B H F a = H a := if_pos h
theorem addF_out {B H : Hp} {F : List Addr} {a : Addr} (h : a ∉ F) : addF B H F a = B a := if_neg h
theorem addF_same {B H : Hp} {F : List Addr} (o : ∀ a ∈ F, B a = none) : Same B (addF B H F) := fun a u e => by
  by_cases h : a ∈ F
  · rw [o a h] at e; cases e
  · rw [addF_out h]; exact e
theorem addF_sub {B H : Hp} {F : List Addr} (s : Same B H) : Same (addF B H F) H := fun a u e => by
  by_cases h : a ∈ F
  · rw [addF_in h] at e; exact e
  · rw [addF_out h] at e; exact s a u e
mutual
/-- an owned tree is frozen -/
theorem OwnT.frz {c : Cl} {B B' H : Hp} (s : Same B B') : ∀ (m : Mu) (v : V) (F : List Addr), (∀ a ∈ F, B' a = H a) → OwnT c B H m v F → Rep c B' m.toD v
  | .im d, v, F, _, ⟨h, e⟩ => Rep.mono s d v h
  | .ls l, v, F, k, ⟨a, vs, F', e1, e2, h, q⟩ => ⟨a, vs, e1, by rw [k a (by rw [e2]; exact List.mem_cons_self)]; exact h, OwnL.frz s l vs F' (fun b hb => k b (by rw [e2]; exact List.mem_cons_of_mem _ hb)) q⟩
theorem OwnL.frz {c : Cl} {B B' H : Hp} (s : Same B B') : ∀ (l : List Mu) (vs : List V) (F : List Addr), (∀ a ∈ F, B' a = H a) → OwnL c B H l vs F → RepL c B' (Mu.toL l) vs
  | [], vs, F, _, h => h.1
  | m :: l, vs, F, k, ⟨v, r, F1, F2, e1, e2, h, q⟩ => ⟨v, r, e1, OwnT.frz s m v F1 (fun a ha => k a (by rw [e2]; exact List.mem_append_left _ ha)) h, OwnL.frz s l r F2 (fun a ha => k a (by rw [e2]; exact List.mem_append_right _ ha)) q⟩
end

/-! ### configurations -/
/-- what a slot holds: plain data or an owned list; the state list -/
inductive Sl where
  | mu (m : Mu) | stt
abbrev sd (d : D) : Option Sl := some (.mu (.im d))
abbrev so (l : List D) : Option Sl := some (.mu (.ls (l.map Mu.im)))
structure Cfg where
  S : Option (Int × Int)
  ρ : List (Option Sl)
def OwnS (c : Cl) (st : Addr) (B H : Hp) : Sl → V → List Addr → Prop
  | .mu m, v, F => OwnT c B H m v F
  | .stt, v, F => v = .ref st ∧ F = []
def OwnE (c : Cl) (st : Addr) (B H : Hp) : List (Option Sl) → List (Option V) → List Addr → Prop
  | [], [], F => F = []
  | none :: ρ, _ :: σ, F => OwnE c st B H ρ σ F
  | some s :: ρ, some v :: σ, F => ∃ F1 F2, F = F1 ++ F2 ∧ OwnS c st B H s v F1 ∧ OwnE c st B H ρ σ F2
  | _, _, _ => False
def stF (st : Addr) : Option (Int × Int) → List Addr
  | none => []
  | some _ => [st]
structure OK (c : Cl) (st : Addr) (C : Cfg) (B H : Hp) (F : List Addr) (σ : L2.St) : Prop where
  sub : Same B H
  nd : F.Nodup
  out : ∀ a ∈ F, B a = none
  own : ∃ F0, F = stF st C.S ++ F0 ∧ OwnE c st B H C.ρ σ F0
  stc : ∀ s t, C.S = some (s, t) → H st = some (.lst [.int s, .int t])
/-- what a step leaves: F owned before, F' behind -/
structure Ext (F F' : List Addr) (B H B' H' : Hp) : Prop where
  b : Same B B'
  h : ∀ a o, a ∉ F → H a = some o → H' a = some o
  f : ∀ a o, a ∉ F → H a = some o → B a = none → B' a = none
  n : ∀ a ∈ F', a ∈ F ∨ H a = none
theorem Ext.refl {F : List Addr} {B H : Hp} : Ext F F B H B H := ⟨Same.refl _, fun _ _ _ h => h, fun _ _ _ _ h => h, fun _ h => .inl h⟩
theorem Ext.trans {F F1 F2 : List Addr} {B H B1 H1 B2 H2 : Hp} (x : Ext F F1 B H B1 H1) (y : Ext F1 F2 B1 H1 B2 H2) : Ext F F2 B H B2 H2 := by
  have nF : ∀ {a o}, a ∉ F → H a = some o → a ∉ F1 := fun ha e z => by
    rcases x.n _ z with w | w
    · exact ha w
    · rw [e] at w; cases w
  refine ⟨x.b.trans y.b, fun a o ha e => y.h a o (nF ha e) (x.h a o ha e), fun a o ha e n => y.f a o (nF ha e) (x.h a o ha e) (x.f a o ha e n), fun a ha => ?_⟩
  rcases y.n a ha with z | z
  · exact x.n a z
  · by_cases w : a ∈ F
    · exact .inl w
    · right
      cases e : H a with
      | none => rfl
      | some o => rw [x.h a o w e] at z; cases z
theorem Ext.sub {F F1 F2 : List Addr} {B H B1 H1 : Hp} (x : Ext F F1 B H B1 H1) (k : ∀ a ∈ F2, a ∈ F1) : Ext F F2 B H B1 H1 := ⟨x.b, x.h, x.f, fun a ha => x.n a (k a ha)⟩
theorem OwnS.mono {c : Cl} {st : Addr} {B B' H H' : Hp} (s : Same B B') : ∀ (m : Sl) (v : V) (F : List Addr), (∀ a ∈ F, H' a = H a) → OwnS c st B H m v F → OwnS c st B' H' m v F
  | .mu m, v, F, k, h => OwnT.mono s m v F k h
  | .stt, v, F, _, h => h
theorem OwnS.there {c : Cl} {st : Addr} {B H : Hp} : ∀ (m : Sl) (v : V) (F : List Addr), OwnS c st B H m v F → ∀ a ∈ F, ∃ o, H a = some o
  | .mu m, v, F, h => OwnT.there m v F h
  | .stt, v, F, h => fun a ha => by rw [h.2] at ha; cases ha
theorem OwnE.mono {c : Cl} {st : Addr} {B B' H H' : Hp} (s : Same B B') : ∀ {ρ : List (Option Sl)} {σ : List (Option V)} {F : List Addr}, (∀ a ∈ F, H' a = H a) → OwnE c st B H ρ σ F → OwnE c st B' H' ρ σ F
  | [], [], _, _, h => h
  | none :: ρ, _ :: σ, F, k, h => OwnE.mono (ρ := ρ) (σ := σ) s k h
  | some m :: ρ, some v :: σ, F, k, ⟨F1, F2, e, h, q⟩ => ⟨F1, F2, e, OwnS.mono s m v F1 (fun a ha => k a (by rw [e]; exact List.mem_append_left _ ha)) h, OwnE.mono s (fun a ha => k a (by rw [e]; exact List.mem_append_right _ ha)) q⟩
  | [], _ :: _, _, _, h => h.elim
  | none :: _, [], _, _, h => h.elim
  | some _ :: _, [], _, _, h => h.elim
  | some _ :: _, none :: _, _, _, h => h.elim
theorem OwnE.there {c : Cl} {st : Addr} {B H : Hp} : ∀ {ρ : List (Option Sl)} {σ : List (Option V)} {F : List Addr}, OwnE c st B H ρ σ F → ∀ a ∈ F, ∃ o, H a = some o
  | [], [], _, h, a, ha => by rw [show _ = [] from h] at ha; cases ha
  | none :: ρ, _ :: σ, F, h, a, ha => OwnE.there (ρ := ρ) (σ := σ) h a ha
  | some m :: ρ, some v :: σ, F, ⟨F1, F2, e, h, q⟩, a, ha => by
    rw [e] at ha
    rcases List.mem_append.mp ha with ha | ha
    · exact OwnS.there m v F1 h a ha
    · exact OwnE.there q a ha
  | [], _ :: _, _, h, _, _ => h.elim
  | none :: _, [], _, h, _, _ => h.elim
  | some _ :: _, [], _, h, _, _ => h.elim
  | some _ :: _, none :: _, _, h, _, _ => h.elim
theorem OwnE.len {c : Cl} {st : Addr} {B H : Hp} : ∀ {ρ : List (Option Sl)} {σ : List (Option V)} {F : List Addr}, OwnE c st B H ρ σ F → σ.length = ρ.length
  | [], [], _, h => rfl
  | none :: ρ, _ :: σ, F, h => by simp [OwnE.len (ρ := ρ) (σ := σ) h]
  | some m :: ρ, some v :: σ, F, ⟨F1, F2, e, h, q⟩ => by simp [OwnE.len q]
  | [], _ :: _, _, h => h.elim
  | none :: _, [], _, h => h.elim
  | some _ :: _, [], _, h => h.elim
  | some _ :: _, none :: _, _, h => h.elim
/-- a slot apart from the others: its own footprint, and how it may be set -/
theorem OwnE.focus {c : Cl} {st : Addr} {B H : Hp} : ∀ {ρ : List (Option Sl)} {σ : List (Option V)} {F : List Addr} (i : Nat) {o : Option Sl}, ρ[i]? = some o → OwnE c st B H ρ σ F →
    ∃ F1 Fi F2 w, F = F1 ++ (Fi ++ F2) ∧ σ[i]? = some w ∧ (∀ s, o = some s → ∃ v, w = some v ∧ OwnS c st B H s v Fi) ∧ (o = none → Fi = []) ∧
      ∀ (B' H' : Hp) s' v' Fs, Same B B' → (∀ a ∈ F1, H' a = H a) → (∀ a ∈ F2, H' a = H a) → OwnS c st B' H' s' v' Fs → OwnE c st B' H' (ρ.set i (some s')) (σ.set i (some v')) (F1 ++ (Fs ++ F2))
  | [], [], _, i, o, e, h => by simp at e
  | none :: ρ, w :: σ, F, 0, o, e, h => by
    simp at e; subst e
    refine ⟨[], [], F, w, rfl, rfl, (by intro s z; cases z), fun _ => rfl, fun B' H' s' v' Fs s k1 k2 q => ⟨Fs, F, rfl, q, OwnE.mono (ρ := ρ) (σ := σ) s k2 h⟩⟩
  | some m :: ρ, some v :: σ, F, 0, o, e, ⟨F1, F2, e2, h, q⟩ => by
    simp at e; subst e
    refine ⟨[], F1, F2, some v, e2, rfl, (by rintro s ⟨⟩; exact ⟨v, rfl, h⟩), (by intro z; cases z), fun B' H' s' v' Fs s k1 k2 q' => ⟨Fs, F2, rfl, q', OwnE.mono s k2 q⟩⟩
  | none :: ρ, w :: σ, F, i + 1, o, e, h => by
    obtain ⟨F1, Fi, F2, w', e1, e2, e3, e4, e5⟩ := OwnE.focus (ρ := ρ) (σ := σ) i (by simpa using e) h
    exact ⟨F1, Fi, F2, w', e1, by simpa using e2, e3, e4, fun B' H' s' v' Fs s k1 k2 q => e5 B' H' s' v' Fs s k1 k2 q⟩
  | some m :: ρ, some v :: σ, F, i + 1, o, e, ⟨G1, G2, eF, h, q⟩ => by
    obtain ⟨F1, Fi, F2, w', e1, e2, e3, e4, e5⟩ := OwnE.focus (ρ := ρ) (σ := σ) i (by simpa using e) q
    refine ⟨G1 ++ F1, Fi, F2, w', by rw [eF, e1, List.append_assoc], by simpa using e2, e3, e4, fun B' H' s' v' Fs s k1 k2 q' => ?_⟩
    exact ⟨G1, F1 ++ (Fs ++ F2), List.append_assoc _ _ _, OwnS.mono s m v G1 (fun a ha => k1 a (List.mem_append_left _ ha)) h, e5 B' H' s' v' Fs s (fun a ha => k1 a (List.mem_append_right _ ha)) k2 q'⟩
  | [], _ :: _, _, _, _, _, h => h.elim
  | none :: _, [], _, _, _, _, h => h.elim
  | some _ :: _, [], _, _, _, _, h => h.elim
  | some _ :: _, none :: _, _, _, _, _, h => h.elim
/-- slots forgotten -/
def Wk : List (Option Sl) → List (Option Sl) → Prop
  | [], [] => True
  | _ :: ρ, none :: ρ' => Wk ρ ρ'
  | a :: ρ, b :: ρ' => a = b ∧ Wk ρ ρ'
  | _, _ => False
theorem OwnE.weak {c : Cl} {st : Addr} {B H : Hp} : ∀ {ρ ρ' : List (Option Sl)} {σ : List (Option V)} {F : List Addr}, Wk ρ ρ' → OwnE c st B H ρ σ F → ∃ F', OwnE c st B H ρ' σ F' ∧ List.Sublist F' F
  | [], [], [], _, _, h => ⟨_, h, List.Sublist.refl _⟩
  | none :: ρ, none :: ρ', _ :: σ, F, w, h => by
    obtain ⟨F', h1, h2⟩ := OwnE.weak (ρ := ρ) (ρ' := ρ') (σ := σ) w h
    exact ⟨F', h1, h2⟩
  | some m :: ρ, none :: ρ', some v :: σ, F, w, ⟨F1, F2, e, h, q⟩ => by
    obtain ⟨F', h1, h2⟩ := OwnE.weak (ρ := ρ) (ρ' := ρ') (σ := σ) w q
    exact ⟨F', h1, by rw [e]; exact h2.trans (List.sublist_append_right _ _)⟩
  | some m :: ρ, some m' :: ρ', some v :: σ, F, w, ⟨F1, F2, e, h, q⟩ => by
    have w2 : some m = some m' ∧ Wk ρ ρ' := w
    have e1 : m = m' := Option.some.inj w2.1
    subst e1
    obtain ⟨F', h1, h2⟩ := OwnE.weak (ρ := ρ) (ρ' := ρ') (σ := σ) w2.2 q
    exact ⟨F1 ++ F', ⟨F1, F', rfl, h, h1⟩, by rw [e]; exact (List.Sublist.refl _).append h2⟩
  | none :: ρ, some m' :: ρ', _ :: σ, F, w, h => by cases (show none = some m' ∧ Wk ρ ρ' from w).1
  | [], _ :: _, _, _, w, _ => (show False by cases ‹Option Sl› <;> exact w).elim
  | _ :: _, [], _, _, w, _ => (show False by cases ‹Option Sl› <;> exact w).elim
  | [], [], _ :: _, _, _, h => h.elim
  | none :: _, none :: _, [], _, _, h => h.elim
  | some _ :: _, _ :: _, [], _, _, h => h.elim
  | some _ :: _, _ :: _, none :: _, _, _, h => h.elim
  | none :: _, some _ :: _, [], _, _, h => h.elim
theorem OK.there {c : Cl} {st : Addr} {C : Cfg} {B H : Hp} {F : List Addr} {σ : L2.St} (k : OK c st C B H F σ) : ∀ a ∈ F, ∃ o, H a = some o := fun a ha => by
  obtain ⟨F0, e, q⟩ := k.own
  rw [e] at ha
  rcases List.mem_append.mp ha with ha | ha
  · unfold stF at ha
    cases hS : C.S with
    | none => rw [hS] at ha; cases ha
    | some p =>
      rw [hS] at ha
      rw [List.mem_singleton.mp ha]
      exact ⟨_, k.stc p.1 p.2 hS⟩
  · exact q.there a ha
/-- over a grown heap -/
theorem OK.grow {c : Cl} {st : Addr} {C : Cfg} {B H B' H' : Hp} {F : List Addr} {σ : L2.St} (k : OK c st C B H F σ) (sub : Same B' H') (x : Ext [] [] B H B' H') : OK c st C B' H' F σ := by
  have kH : ∀ a ∈ F, H' a = H a := fun a ha => by
    obtain ⟨o, e⟩ := k.there a ha
    rw [e]; exact x.h a o (by simp) e
  obtain ⟨F0, e, q⟩ := k.own
  refine ⟨sub, k.nd, fun a ha => ?_, ⟨F0, e, q.mono x.b fun a ha => kH a (by rw [e]; exact List.mem_append_right _ ha)⟩, fun s t hS => ?_⟩
  · obtain ⟨o, e⟩ := k.there a ha
    exact x.f a o (by simp) e (k.out a ha)
  · rw [kH st (by rw [e, hS]; exact List.mem_append_left _ (List.mem_singleton.mpr rfl))]
    exact k.stc s t hS
theorem Ext.up {F : List Addr} {B H B' H' : Hp} (x : Ext [] [] B H B' H') : Ext F F B H B' H' := ⟨x.b, fun a o _ e => x.h a o (by simp) e, fun a o _ e n => x.f a o (by simp) e n, fun _ h => .inl h⟩

/-! ### wishes -/
section
variable (X : Cx)
def WE (e : Expr) : TE := fun σ H Q => ∃ t, PE X e t ∧ t σ H Q
def WT (e : Expr) : TT := fun σ H Q => ∃ t, PT X e t ∧ t σ H Q
def WA (es : List Expr) : TA := fun σ H Q => ∃ t, PA X es t ∧ t σ H Q
def WB (ss : List Stmt) : TS := fun D σ H => ∃ t, PSs X ss t ∧ t D σ H
def WS (s : Stmt) : TS := fun D σ H => ∃ t, PS X s t ∧ t D σ H
end
section
variable {X : Cx}
theorem pWE (e : Expr) : PE X e (WE X e) := ⟨fun pins s σ H Q I ⟨t, h, q⟩ => h.run pins s σ H Q I q⟩
theorem pWT (e : Expr) : PT X e (WT X e) := ⟨fun pins s σ H Q I ⟨t, h, q⟩ => h.run pins s σ H Q I q⟩
theorem pWA (es : List Expr) : PA X es (WA X es) := ⟨fun pos pins s σ H Q I ⟨t, h, q⟩ => h.run pos pins s σ H Q I q⟩
theorem pWB (ss : List Stmt) : PSs X ss (WB X ss) := ⟨fun pins s σ H Q I ⟨t, h, q⟩ => h.run pins s σ H Q I q⟩
theorem pWS (s : Stmt) : PS X s (WS X s) := ⟨fun pins s' σ H Q I ⟨t, h, q⟩ => h.run pins s' σ H Q I q⟩
end
end K48

namespace K48
open PySem PySem.Spec PyProof.Rows L2

theorem nd_app {F G : List Addr} (h : (F ++ G).Nodup) : F.Nodup ∧ G.Nodup ∧ ∀ a ∈ F, a ∉ G := by
  rw [List.nodup_append] at h
  exact ⟨h.1, h.2.1, fun a ha hb => h.2.2 a ha a hb rfl⟩
theorem nd_mk {F G : List Addr} (hF : F.Nodup) (hG : G.Nodup) (d : ∀ a ∈ F, a ∉ G) : (F ++ G).Nodup := by
  rw [List.nodup_append]
  exact ⟨hF, hG, fun a ha b hb e => d a ha (e ▸ hb)⟩

/-! ### judgements -/
section
variable (X : Cx) (c : Cl) (st : Addr)
abbrev PostE (C' : Cfg) (m : Mu) (σ : L2.St) (F : List Addr) (B H : Hp) (Q : VK) : Prop :=
  ∀ v B' H' F' Fm, OK c st C' B' H' F' σ → OwnT c B' H' m v Fm → (F' ++ Fm).Nodup → (∀ a ∈ Fm, B' a = none) → Ext F (F' ++ Fm) B H B' H' → Q v H'
/-- e is worth m; the configuration behind it is C' -/
def Ev (e : Expr) (C : Cfg) (m : Mu) (C' : Cfg) : Prop := ∀ σ B H F, OK c st C B H F σ → ∀ Q : VK, PostE c st C' m σ F B H Q → WE X e σ H Q
def EvA (es : List Expr) (C : Cfg) (ms : List Mu) (C' : Cfg) : Prop := ∀ σ B H F, OK c st C B H F σ → ∀ Q : List V → Hp → Prop,
  (∀ vs B' H' F' Fm, OK c st C' B' H' F' σ → OwnL c B' H' ms vs Fm → (F' ++ Fm).Nodup → (∀ a ∈ Fm, B' a = none) → Ext F (F' ++ Fm) B H B' H' → Q vs H') → WA X es σ H Q
def EvT (e : Expr) (C : Cfg) (b : Bool) (C' : Cfg) : Prop := ∀ σ B H F, OK c st C B H F σ → ∀ Q : Bool → Hp → Prop,
  (∀ B' H' F', OK c st C' B' H' F' σ → Ext F F' B H B' H' → Q b H') → WT X e σ H Q
/-- how a block ends -/
inductive Out where
  | nx (C : Cfg) | rt (m : Mu) (S : Option (Int × Int))
def PostO (o : Out) (F : List Addr) (B H : Hp) (E : Ends) : Prop := match o with
  | .nx C' => ∀ σ' B' H' F', OK c st C' B' H' F' σ' → Ext F F' B H B' H' → E.nx σ' H'
  | .rt m S' => ∀ v B' H' Fm, OK c st ⟨S', []⟩ B' H' (stF st S') [] → OwnT c B' H' m v Fm → (stF st S' ++ Fm).Nodup → (∀ a ∈ Fm, B' a = none) → Ext F (stF st S' ++ Fm) B H B' H' → E.rt v H'
def Ex (ss : List Stmt) (C : Cfg) (o : Out) : Prop := ∀ σ B H F, OK c st C B H F σ → ∀ E : Ends, PostO c st o F B H E → WB X ss E σ H
def Es (s : Stmt) (C : Cfg) (o : Out) : Prop := ∀ σ B H F, OK c st C B H F σ → ∀ E : Ends, PostO c st o F B H E → WS X s E σ H
end

section
variable {X : Cx} {c : Cl} {st : Addr} {C C1 C2 C3 : Cfg} {e a b : Expr} {d d1 d2 d3 : D} {m m1 m2 : Mu} {pos p p2 : Pos}

theorem evI (h : ∀ σ B H F, OK c st C B H F σ → ∀ Q : VK, (∀ v B' H' F', OK c st C1 B' H' F' σ → Rep c B' d v → Ext F F' B H B' H' → Q v H') → WE X e σ H Q) : Ev X c st e C (.im d) C1 :=
  fun σ B H F k Q q => h σ B H F k Q fun v B' H' F' k' r x => q v B' H' F' [] k' ⟨r, rfl⟩ (by simpa using k'.nd) (by simp) (by simpa using x)
theorem Ev.I (h : Ev X c st e C (.im d) C1) {σ : L2.St} {B H : Hp} {F : List Addr} (k : OK c st C B H F σ) {Q : VK} (q : ∀ v B' H' F', OK c st C1 B' H' F' σ → Rep c B' d v → Ext F F' B H B' H' → Q v H') : WE X e σ H Q :=
  h σ B H F k Q fun v B' H' F' Fm k' ⟨r, e⟩ _ _ x => by
    subst e
    exact q v B' H' F' k' r (by simpa using x)
/-- freezing the configuration and a value apart from it -/
theorem OK.frz {B H : Hp} {F Fm : List Addr} {σ : L2.St} (k : OK c st C B H F σ) (nd : (F ++ Fm).Nodup) (o : ∀ a ∈ Fm, B a = none) : OK c st C (addF B H Fm) H F σ := by
  obtain ⟨n1, n2, n3⟩ := nd_app nd
  obtain ⟨F0, e, q⟩ := k.own
  exact ⟨addF_sub k.sub, k.nd, fun a ha => by rw [addF_out (n3 a ha)]; exact k.out a ha, ⟨F0, e, q.mono (addF_same o) fun _ _ => rfl⟩, k.stc⟩
theorem Ext.frz {B H B' H' : Hp} {F F' Fm : List Addr} (x : Ext F (F' ++ Fm) B H B' H') (o : ∀ a ∈ Fm, B' a = none) : Ext F F' B H (addF B' H' Fm) H' := by
  refine ⟨x.b.trans (addF_same o), x.h, fun a u ha e n => ?_, fun a ha => x.n a (List.mem_append_left _ ha)⟩
  have : a ∉ Fm := fun z => by
    rcases x.n a (List.mem_append_right _ z) with w | w
    · exact ha w
    · rw [e] at w; cases w
  rw [addF_out this]; exact x.f a u ha e n
theorem Ev.frz (h : Ev X c st e C m C1) : Ev X c st e C (.im m.toD) C1 := evI fun σ B H F k Q q => h σ B H F k Q fun v B' H' F' Fm k' t nd o x =>
  q v (addF B' H' Fm) H' F' (k'.frz nd o) (OwnT.frz (addF_same o) m v Fm (fun a ha => addF_in ha) t) (x.frz o)
theorem Ev.frzL {l : List D} (h : Ev X c st e C (.ls (l.map Mu.im)) C1) : Ev X c st e C (.im (.lst l)) C1 := by
  have q := h.frz
  rw [show (Mu.ls (l.map Mu.im)).toD = D.lst l by show D.lst (Mu.toL _) = _; rw [toL_map]] at q
  exact q
/-- behind a second step the first value stands -/
theorem keep2 {B1 H1 B2 H2 : Hp} {F1 F2 Fm1 Fm2 : List Addr} {σ : L2.St} {v1 : V} (k1 : OK c st C1 B1 H1 F1 σ) (t1 : OwnT c B1 H1 m1 v1 Fm1) (n1 : (F1 ++ Fm1).Nodup) (o1 : ∀ a ∈ Fm1, B1 a = none)
    (n2 : (F2 ++ Fm2).Nodup) (x2 : Ext F1 (F2 ++ Fm2) B1 H1 B2 H2) : OwnT c B2 H2 m1 v1 Fm1 ∧ (∀ a ∈ Fm1, B2 a = none) ∧ (F2 ++ (Fm1 ++ Fm2)).Nodup := by
  obtain ⟨q1, q2, q3⟩ := nd_app n1
  obtain ⟨r1, r2, r3⟩ := nd_app n2
  have out : ∀ a ∈ Fm1, a ∉ F1 := fun a ha z => q3 a z ha
  have th := OwnT.there m1 v1 Fm1 t1
  have kH : ∀ a ∈ Fm1, H2 a = H1 a := fun a ha => by
    obtain ⟨o, e⟩ := th a ha
    rw [e]; exact x2.h a o (out a ha) e
  have dis : ∀ a ∈ Fm1, a ∉ F2 ++ Fm2 := fun a ha z => by
    obtain ⟨o, e⟩ := th a ha
    rcases x2.n a z with w | w
    · exact out a ha w
    · rw [e] at w; cases w
  refine ⟨OwnT.mono x2.b m1 v1 Fm1 kH t1, fun a ha => ?_, ?_⟩
  · obtain ⟨o, e⟩ := th a ha
    exact x2.f a o (out a ha) e (o1 a ha)
  · refine nd_mk r1 (nd_mk q2 r2 fun a ha z => dis a ha (List.mem_append_right _ z)) fun a ha z => ?_
    rcases List.mem_append.mp z with z | z
    · exact dis a z (List.mem_append_left _ ha)
    · exact r3 a ha z
theorem ext2 {B H B1 H1 B2 H2 : Hp} {F F1 F2 Fm1 Fm2 : List Addr} (x1 : Ext F (F1 ++ Fm1) B H B1 H1) (x2 : Ext F1 (F2 ++ Fm2) B1 H1 B2 H2) : Ext F (F2 ++ (Fm1 ++ Fm2)) B H B2 H2 := by
  have y2 : Ext (F1 ++ Fm1) (F2 ++ (Fm1 ++ Fm2)) B1 H1 B2 H2 := ⟨x2.b, fun a o ha e => x2.h a o (fun z => ha (List.mem_append_left _ z)) e, fun a o ha e n => x2.f a o (fun z => ha (List.mem_append_left _ z)) e n, fun a ha => by
    rcases List.mem_append.mp ha with z | z
    · rcases x2.n a (List.mem_append_left _ z) with w | w
      · exact .inl (List.mem_append_left _ w)
      · exact .inr w
    · rcases List.mem_append.mp z with z | z
      · exact .inl (List.mem_append_right _ z)
      · rcases x2.n a (List.mem_append_right _ z) with w | w
        · exact .inl (List.mem_append_left _ w)
        · exact .inr w⟩
  exact x1.trans y2

/-! ### names, constants -/
theorem ev_name (i : Nat) {x : Str} (hs : C.ρ[i]? = some (sd d)) (hN : X.N[i]? = some x := by rfl) (hv : Vis X.env.scope x := by first | exact Or.inl rfl | exact Or.inr (Or.inl rfl) | exact Or.inr (Or.inr rfl)) (hd : (x == ("__debug__" : Str)) = false := by decide)
    (hcd : (x == ("__classdict__" : Str)) = false := by decide) : Ev X c st (.Name x pos) C (.im d) C := evI fun σ B H F k Q q => by
  obtain ⟨F0, e, ow⟩ := k.own
  obtain ⟨F1, Fi, F2, w, _, ew, hw, _, _⟩ := ow.focus i hs
  obtain ⟨v, rfl, t⟩ := hw _ rfl
  exact ⟨_, pe_var hN hv hd hcd, v, ew, q v B H F k t.1 Ext.refl⟩
theorem ev_con {t : TE} {v : V} (h : PE X e (tC v)) (r : ∀ B, Rep c B d v) : Ev X c st e C (.im d) C := evI fun σ B H F k Q q => ⟨_, h, q v B H F k (r B) Ext.refl⟩
theorem ev_int {i : Int} {j} : Ev X c st (.Constant (.int i) j pos) C (.im (.int i)) C := evI fun σ B H F k Q q => ⟨_, pe_int, q _ B H F k rfl Ext.refl⟩
theorem ev_bl {i : Bool} {j} : Ev X c st (.Constant (.bool i) j pos) C (.im (.bl i)) C := evI fun σ B H F k Q q => ⟨_, pe_bl, q _ B H F k rfl Ext.refl⟩
theorem ev_non {j} : Ev X c st (.Constant .none j pos) C (.im .non) C := evI fun σ B H F k Q q => ⟨_, pe_non, q _ B H F k rfl Ext.refl⟩
theorem ev_str {x : Str} {j} : Ev X c st (.Constant (.str x) j pos) C (.im (.str x)) C := evI fun σ B H F k Q q => ⟨_, pe_str, q _ B H F k rfl Ext.refl⟩
/-- a module's constant -/
theorem ev_glob {x : Str} {v : V} {u : Value} (hg : Gl X x) (hm : X.mg x = some u) (r : RelV v u) (rd : ∀ B, Rep c B d v) (hd : (x == ("__debug__" : Str)) = false := by decide) : Ev X c st (.Name x pos) C (.im d) C :=
  evI fun σ B H F k Q q => ⟨_, pe_glob hg hm r hd, q _ B H F k (rd B) Ext.refl⟩

/-! ### operations by values -/
/-- r at values worth ds gives a value worth d -/
def Op (c : Cl) (ds : List D) (d : D) (r : List V → Hp → VK → Prop) : Prop := ∀ B H vs, Same B H → RepL c B ds vs → ∀ Q : VK, (∀ v B' H', Same B' H' → Ext [] [] B H B' H' → Rep c B' d v → Q v H') → r vs H Q
def Op2 (c : Cl) (d1 d2 d : D) (r : R2) : Prop := ∀ B H x y, Same B H → Rep c B d1 x → Rep c B d2 y → ∀ Q : VK, (∀ v B' H', Same B' H' → Ext [] [] B H B' H' → Rep c B' d v → Q v H') → r x y H Q
def Op1 (c : Cl) (d1 d : D) (r : V → Hp → VK → Prop) : Prop := ∀ B H x, Same B H → Rep c B d1 x → ∀ Q : VK, (∀ v B' H', Same B' H' → Ext [] [] B H B' H' → Rep c B' d v → Q v H') → r x H Q
/-- a new object -/
theorem ext_new {B H : Hp} {p : Addr} {o : HO} (s : Same B H) (n : H p = none) : Same (upd B p o) (upd H p o) ∧ Ext [] [] B H (upd B p o) (upd H p o) := by
  have nB : B p = none := by
    cases e : B p with
    | none => rfl
    | some u => rw [s p u e] at n; cases n
  refine ⟨fun a u e => ?_, fun a u e => ?_, fun a u _ e => ?_, fun a u _ e n' => ?_, fun a ha => by cases ha⟩
  · by_cases h : a = p
    · subst h; rw [upd_same] at e ⊢; exact e
    · rw [upd_ne h] at e ⊢; exact s a u e
  · rw [upd_ne (ne_of_none e nB)]; exact e
  · rw [upd_ne (ne_of_none e n)]; exact e
  · rw [upd_ne (ne_of_none e n)]; exact n'
theorem fin_op {B H B' H' : Hp} {F : List Addr} {σ : L2.St} (k : OK c st C B H F σ) (s : Same B' H') (x : Ext [] [] B H B' H') : OK c st C B' H' F σ ∧ Ext F F B H B' H' := ⟨k.grow s x, x.up⟩
theorem ev_two (ha : Ev X c st a C (.im d1) C1) (hb : Ev X c st b C1 (.im d2) C2) {σ : L2.St} {B H : Hp} {F : List Addr} (k : OK c st C B H F σ) {R : V → V → Hp → Prop}
    (q : ∀ x y B' H' F', OK c st C2 B' H' F' σ → Rep c B' d1 x → Rep c B' d2 y → Ext F F' B H B' H' → R x y H') : WE X a σ H fun x H1 => WE X b σ H1 fun y H2 => R x y H2 :=
  ha.I k fun x B1 H1 F1 k1 r1 x1 => hb.I k1 fun y B2 H2 F2 k2 r2 x2 => q x y B2 H2 F2 k2 (Rep.mono x2.b _ _ r1) r2 (x1.trans x2)
theorem ev_bin {op : Operator} {r : R2} (ho : OpR X (binaryOp op) r) (hp : Op2 c d1 d2 d r) (ha : Ev X c st a C (.im d1) C1) (hb : Ev X c st b C1 (.im d2) C2) : Ev X c st (.BinOp a op b pos) C (.im d) C2 :=
  evI fun σ B H F k Q q => ⟨_, pe_op ho (pWE a) (pWE b), ev_two ha hb k fun x y B1 H1 F1 k1 r1 r2 x1 => hp B1 H1 x y k1.sub r1 r2 Q fun v B2 H2 s2 x2 r =>
    let ⟨k2, y2⟩ := fin_op k1 s2 x2
    q v B2 H2 F1 k2 r (x1.trans y2)⟩
theorem ev_un {op : UnaryOp} {r : V → Hp → VK → Prop} (ho : UnR X (unaryOp op) r) (hp : Op1 c d1 d r) (ha : Ev X c st a C (.im d1) C1) : Ev X c st (.UnaryOp op a pos) C (.im d) C1 :=
  evI fun σ B H F k Q q => ⟨_, pe_un ho (pWE a), ha.I k fun x B1 H1 F1 k1 r1 x1 => hp B1 H1 x k1.sub r1 Q fun v B2 H2 s2 x2 r =>
    let ⟨k2, y2⟩ := fin_op k1 s2 x2
    q v B2 H2 F1 k2 r (x1.trans y2)⟩
theorem ev_cmp {op : CmpOp} {r : R2} (ho : OpR X (compareOp op) r) (hp : Op2 c d1 d2 d r) (ha : Ev X c st a C (.im d1) C1) (hb : Ev X c st b C1 (.im d2) C2) (hm : behindInMarks op b = false) : Ev X c st (.Compare a [op] [b] pos) C (.im d) C2 :=
  evI fun σ B H F k Q q => ⟨_, pe_cmpR ho (pWE a) (pWE b) hm, ev_two ha hb k fun x y B1 H1 F1 k1 r1 r2 x1 => hp B1 H1 x y k1.sub r1 r2 Q fun v B2 H2 s2 x2 r =>
    let ⟨k2, y2⟩ := fin_op k1 s2 x2
    q v B2 H2 F1 k2 r (x1.trans y2)⟩
theorem evt_cmp {op : CmpOp} {r : R2} {t : Bool} (ho : OpR X (compareOp op) r) (hp : Op2 c d1 d2 (.bl t) r) (ha : Ev X c st a C (.im d1) C1) (hb : Ev X c st b C1 (.im d2) C2) (hm : behindInMarks op b = false) : EvT X c st (.Compare a [op] [b] pos) C t C2 :=
  fun σ B H F k Q q => ⟨_, pt_cmpR ho (pWE a) (pWE b) hm, ev_two ha hb k fun x y B1 H1 F1 k1 r1 r2 x1 => hp B1 H1 x y k1.sub r1 r2 _ fun v B2 H2 s2 x2 r =>
    let ⟨k2, y2⟩ := fin_op k1 s2 x2
    ⟨t, r, q B2 H2 F1 k2 (x1.trans y2)⟩⟩
/-! ### ints -/
theorem op_I {g : Int → Int → Int} {i j : Int} : Op2 c (.int i) (.int j) (.int (g i j)) (rI0 fun i j => .int (g i j)) := fun B H x y s h1 h2 Q k => ⟨i, j, h1, h2, k _ B H s Ext.refl rfl⟩
theorem op_B {g : Int → Int → Bool} {i j : Int} : Op2 c (.int i) (.int j) (.bl (g i j)) (rI0 fun i j => .bl (g i j)) := fun B H x y s h1 h2 Q k => ⟨i, j, h1, h2, k _ B H s Ext.refl rfl⟩
theorem op_IC {g : Int → Int → Int} {P : Int → Int → Prop} {i j : Int} (h : P i j) : Op2 c (.int i) (.int j) (.int (g i j)) (rI P fun i j => .int (g i j)) := fun B H x y s h1 h2 Q k => ⟨i, j, h1, h2, h, k _ B H s Ext.refl rfl⟩
variable {i j : Int}
theorem ev_add (ha : Ev X c st a C (.im (.int i)) C1) (hb : Ev X c st b C1 (.im (.int j)) C2) : Ev X c st (.BinOp a .Add b pos) C (.im (.int (i + j))) C2 := ev_bin op_add op_I ha hb
theorem ev_sub (ha : Ev X c st a C (.im (.int i)) C1) (hb : Ev X c st b C1 (.im (.int j)) C2) : Ev X c st (.BinOp a .Sub b pos) C (.im (.int (i - j))) C2 := ev_bin op_sub op_I ha hb
theorem ev_mul (h : CMulW i j) (ha : Ev X c st a C (.im (.int i)) C1) (hb : Ev X c st b C1 (.im (.int j)) C2) : Ev X c st (.BinOp a .Mult b pos) C (.im (.int (i * j))) C2 := ev_bin op_mulW (op_IC h) ha hb
theorem ev_mul64 (h : CMul i j) (ha : Ev X c st a C (.im (.int i)) C1) (hb : Ev X c st b C1 (.im (.int j)) C2) : Ev X c st (.BinOp a .Mult b pos) C (.im (.int (i * j))) C2 := ev_bin op_mul (op_IC h) ha hb
/-- // by a positive divisor below 2 ^ 9000 -/
theorem ev_div (h : CDivW i j) (ha : Ev X c st a C (.im (.int i)) C1) (hb : Ev X c st b C1 (.im (.int j)) C2) : Ev X c st (.BinOp a .FloorDiv b pos) C (.im (.int (i / j))) C2 := ev_bin op_fdivW (op_IC h) ha hb
theorem ev_mod (h : 0 < j) (ha : Ev X c st a C (.im (.int i)) C1) (hb : Ev X c st b C1 (.im (.int j)) C2) : Ev X c st (.BinOp a .Mod b pos) C (.im (.int (i % j))) C2 := ev_bin op_mod (op_IC (P := fun _ j => 0 < j) h) ha hb
theorem op_negI : Op1 c (.int i) (.int (-i)) (rU fun i => .int (-i)) := fun B H x s h1 Q k => ⟨i, h1, k _ B H s Ext.refl rfl⟩
theorem ev_neg (ha : Ev X c st a C (.im (.int i)) C1) : Ev X c st (.UnaryOp .USub a pos) C (.im (.int (-i))) C1 := ev_un un_neg op_negI ha
/-- a comparison of two ints, as a value, as a test -/
inductive ICmp : CmpOp → (Int → Int → Bool) → Prop where
  | lt : ICmp .Lt fun i j => decide (i < j) | le : ICmp .LtE fun i j => decide (i ≤ j) | gt : ICmp .Gt fun i j => decide (j < i) | ge : ICmp .GtE fun i j => decide (j ≤ i)
theorem ICmp.ok {op : CmpOp} {g : Int → Int → Bool} (h : ICmp op g) : OpR X (compareOp op) (rI0 fun i j => .bl (g i j)) := by
  cases h
  · exact op_lt
  · exact op_le
  · exact op_gt
  · exact op_ge
theorem ICmp.nm {op : CmpOp} {g : Int → Int → Bool} (h : ICmp op g) (b : Expr) : behindInMarks op b = false := by
  cases h <;> exact nomark _
theorem ev_icmp {op : CmpOp} {g : Int → Int → Bool} (h : ICmp op g) (ha : Ev X c st a C (.im (.int i)) C1) (hb : Ev X c st b C1 (.im (.int j)) C2) : Ev X c st (.Compare a [op] [b] pos) C (.im (.bl (g i j))) C2 := ev_cmp h.ok op_B ha hb (h.nm b)
theorem evt_icmp {op : CmpOp} {g : Int → Int → Bool} (h : ICmp op g) (ha : Ev X c st a C (.im (.int i)) C1) (hb : Ev X c st b C1 (.im (.int j)) C2) : EvT X c st (.Compare a [op] [b] pos) C (g i j) C2 := evt_cmp h.ok op_B ha hb (h.nm b)
/-! ### == and != of scalars -/
def scD : D → D → Option Bool
  | .non, .non => some true | .non, .int _ => some false | .int _, .non => some false | .non, .bl _ => some false | .bl _, .non => some false | .non, .str _ => some false | .str _, .non => some false
  | .int i, .int j => some (decide (i = j)) | .bl i, .bl j => some (decide (i = j)) | .str i, .str j => some (decide (i = j))
  | .int _, .str _ => some false | .str _, .int _ => some false | .bl _, .str _ => some false | .str _, .bl _ => some false
  | _, _ => none
theorem scD_ok {B : Hp} {t : Bool} {x y : V} (h : scD d1 d2 = some t) (h1 : Rep c B d1 x) (h2 : Rep c B d2 y) : scal x y = true ∧ decide (x = y) = t := by
  cases d1 <;> cases d2 <;> first
    | (cases h; done)
    | (cases (show x = _ from h1); cases (show y = _ from h2); cases h; exact ⟨rfl, by simp⟩)
theorem op_eqS {t : Bool} (h : scD d1 d2 = some t) : Op2 c d1 d2 (.bl t) rEq := fun B H x y s h1 h2 Q k => by
  obtain ⟨q1, q2⟩ := scD_ok h h1 h2
  exact ⟨q1, by rw [q2]; exact k _ B H s Ext.refl rfl⟩
theorem op_neS {t : Bool} (h : scD d1 d2 = some t) : Op2 c d1 d2 (.bl !t) rNe := fun B H x y s h1 h2 Q k => by
  obtain ⟨q1, q2⟩ := scD_ok h h1 h2
  exact ⟨q1, by rw [q2]; exact k _ B H s Ext.refl rfl⟩
theorem ev_eq {t : Bool} (h : scD d1 d2 = some t) (ha : Ev X c st a C (.im d1) C1) (hb : Ev X c st b C1 (.im d2) C2) : Ev X c st (.Compare a [.Eq] [b] pos) C (.im (.bl t)) C2 := ev_cmp op_eq (op_eqS h) ha hb (nomark _)
theorem ev_ne {t : Bool} (h : scD d1 d2 = some t) (ha : Ev X c st a C (.im d1) C1) (hb : Ev X c st b C1 (.im d2) C2) : Ev X c st (.Compare a [.NotEq] [b] pos) C (.im (.bl !t)) C2 := ev_cmp op_ne (op_neS h) ha hb (nomark _)
theorem evt_eq {t : Bool} (h : scD d1 d2 = some t) (ha : Ev X c st a C (.im d1) C1) (hb : Ev X c st b C1 (.im d2) C2) : EvT X c st (.Compare a [.Eq] [b] pos) C t C2 := evt_cmp op_eq (op_eqS h) ha hb (nomark _)
theorem evt_ne {t : Bool} (h : scD d1 d2 = some t) (ha : Ev X c st a C (.im d1) C1) (hb : Ev X c st b C1 (.im d2) C2) : EvT X c st (.Compare a [.NotEq] [b] pos) C (!t) C2 := evt_cmp op_ne (op_neS h) ha hb (nomark _)
/-! ### is None, is not None, is not True .. -/
def D.isNon : D → Bool
  | .non => true
  | _ => false
theorem isNon_ok {B : Hp} {x : V} (h : Rep c B d x) : decide (x = .non) = d.isNon := by
  cases d with
  | non => cases (show x = _ from h); rfl
  | bl _ => cases (show x = _ from h); rfl
  | int _ => cases (show x = _ from h); rfl
  | str _ => cases (show x = _ from h); rfl
  | rat _ => obtain ⟨_, _, rfl, _⟩ := h; rfl
  | tup _ => obtain ⟨_, _, rfl, _⟩ := h; rfl
  | lst _ => obtain ⟨_, _, rfl, _⟩ := h; rfl
  | met _ _ => obtain ⟨_, _, _, rfl, _⟩ := h; rfl
theorem op_isNn : Op2 c d .non (.bl d.isNon) (fun x y H Q => y = .non ∧ Q (.bl (decide (x = .non))) H) := fun B H x y s h1 h2 Q k => ⟨h2, by rw [isNon_ok h1]; exact k _ B H s Ext.refl rfl⟩
theorem op_notNn : Op2 c d .non (.bl !d.isNon) (fun x y H Q => y = .non ∧ Q (.bl (!decide (x = .non))) H) := fun B H x y s h1 h2 Q k => ⟨h2, by rw [isNon_ok h1]; exact k _ B H s Ext.refl rfl⟩
theorem evt_isN (ha : Ev X c st a C (.im d) C1) {j} : EvT X c st (.Compare a [.Is] [.Constant .none j p] pos) C d.isNon C1 := evt_cmp op_isN op_isNn ha ev_non (nomark _)
theorem evt_notN (ha : Ev X c st a C (.im d) C1) {j} : EvT X c st (.Compare a [.IsNot] [.Constant .none j p] pos) C (!d.isNon) C1 := evt_cmp op_notN op_notNn ha ev_non (nomark _)
theorem op_notBB {s t : Bool} : Op2 c (.bl s) (.bl t) (.bl (!decide (s = t))) rNotB := fun B H x y z h1 h2 Q k => ⟨s, t, h1, h2, k _ B H z Ext.refl rfl⟩
theorem evt_notB {s t : Bool} (ha : Ev X c st a C (.im (.bl s)) C1) {j} : EvT X c st (.Compare a [.IsNot] [.Constant (.bool t) j p] pos) C (!decide (s = t)) C1 :=
  evt_cmp op_notBl op_notBB ha ev_bl (nomark _)
/-! ### tests -/
theorem evt_val {t : Bool} (h : Ev X c st e C (.im (.bl t)) C1) (he : ∀ whole, isTrue e X.env whole = (do let v ← whole; standAt e.pos; holding [v] (truthy v)) := by intro _; rfl) : EvT X c st e C t C1 :=
  fun σ B H F k Q q => ⟨_, pt_val (pWE e) he, h.I k fun v B1 H1 F1 k1 r1 x1 => ⟨t, r1, q B1 H1 F1 k1 x1⟩⟩
theorem evt_not {t : Bool} (h : EvT X c st a C t C1) : EvT X c st (.UnaryOp .Not a pos) C (!t) C1 := fun σ B H F k Q q => ⟨_, pt_not (pWT a), h σ B H F k _ fun B1 H1 F1 k1 x1 => q B1 H1 F1 k1 x1⟩
/-- and, or as tests: PW -/
def EvW (X : Cx) (c : Cl) (st : Addr) (e : Expr) (C : Cfg) (b : Bool) (C' : Cfg) : Prop := ∀ σ B H F, OK c st C B H F σ → ∀ Q : Bool → Hp → Prop,
  (∀ B' H' F', OK c st C' B' H' F' σ → Ext F F' B H B' H' → Q b H') → ∃ t, PW X e t ∧ t σ H Q
theorem EvW.t {t : Bool} (h : EvW X c st e C t C1) : EvT X c st e C t C1 := fun σ B H F k Q q => let ⟨t, h1, h2⟩ := h σ B H F k Q q; ⟨t, h1.pt, h2⟩
theorem pWW (e : Expr) : PW X e (fun σ H Q => ∃ t, PW X e t ∧ t σ H Q) := ⟨fun wh pins s σ H Q I ⟨t, h, q⟩ => h.run wh pins s σ H Q I q⟩
variable {es : List Expr} {t s : Bool}
theorem evw_and1 (h : EvT X c st a C t C1) : EvW X c st (.BoolOp .And [a] pos) C t C1 := fun σ B H F k Q q => ⟨_, pw_and1 (pWT a), h σ B H F k Q q⟩
theorem evw_or1 (h : EvT X c st a C t C1) : EvW X c st (.BoolOp .Or [a] pos) C t C1 := fun σ B H F k Q q => ⟨_, pw_or1 (pWT a), h σ B H F k Q q⟩
theorem evw_andT (h : EvT X c st a C true C1) (h2 : EvW X c st (.BoolOp .And (b :: es) pos) C1 t C2) : EvW X c st (.BoolOp .And (a :: b :: es) pos) C t C2 := fun σ B H F k Q q =>
  ⟨_, pw_and (pWT a) (pWW _), h σ B H F k _ fun B1 H1 F1 k1 x1 => by
    rw [if_pos rfl]; exact h2 σ B1 H1 F1 k1 Q fun B2 H2 F2 k2 x2 => q B2 H2 F2 k2 (x1.trans x2)⟩
theorem evw_andF (h : EvT X c st a C false C1) : EvW X c st (.BoolOp .And (a :: b :: es) pos) C false C1 := fun σ B H F k Q q =>
  ⟨_, pw_and (pWT a) (pWW _), h σ B H F k _ fun B1 H1 F1 k1 x1 => by
    rw [if_neg Bool.false_ne_true]; exact q B1 H1 F1 k1 x1⟩
theorem evw_orF (h : EvT X c st a C false C1) (h2 : EvW X c st (.BoolOp .Or (b :: es) pos) C1 t C2) : EvW X c st (.BoolOp .Or (a :: b :: es) pos) C t C2 := fun σ B H F k Q q =>
  ⟨_, pw_or (pWT a) (pWW _), h σ B H F k _ fun B1 H1 F1 k1 x1 => by
    rw [if_neg Bool.false_ne_true]; exact h2 σ B1 H1 F1 k1 Q fun B2 H2 F2 k2 x2 => q B2 H2 F2 k2 (x1.trans x2)⟩
theorem evw_orT (h : EvT X c st a C true C1) : EvW X c st (.BoolOp .Or (a :: b :: es) pos) C true C1 := fun σ B H F k Q q =>
  ⟨_, pw_or (pWT a) (pWW _), h σ B H F k _ fun B1 H1 F1 k1 x1 => by
    rw [if_pos rfl]; exact q B1 H1 F1 k1 x1⟩
/-- both known -/
theorem evw_and {s : Bool} (h : EvT X c st a C s C1) (h2 : s = true → EvW X c st (.BoolOp .And (b :: es) pos) C1 t C1) : EvW X c st (.BoolOp .And (a :: b :: es) pos) C (s && t) C1 := by
  cases s with
  | true => exact evw_andT h (h2 rfl)
  | false => exact evw_andF h
theorem evw_or {s : Bool} (h : EvT X c st a C s C1) (h2 : s = false → EvW X c st (.BoolOp .Or (b :: es) pos) C1 t C1) : EvW X c st (.BoolOp .Or (a :: b :: es) pos) C (s || t) C1 := by
  cases s with
  | false => exact evw_orF h (h2 rfl)
  | true => exact evw_orT h
/-- .. as values of bools -/
theorem ev_one {op} (h : Ev X c st a C m C1) : Ev X c st (.BoolOp op [a] pos) C m C1 := fun σ B H F k Q q => ⟨_, pe_one (pWE a), h σ B H F k Q q⟩
theorem ev_and {s : Bool} (h : Ev X c st a C (.im (.bl s)) C1) (h2 : s = true → Ev X c st (.BoolOp .And (b :: es) pos) C1 (.im (.bl t)) C1) : Ev X c st (.BoolOp .And (a :: b :: es) pos) C (.im (.bl (s && t))) C1 :=
  evI fun σ B H F k Q q => ⟨_, pe_and (pWE a) (pWE _), h.I k fun v B1 H1 F1 k1 r1 x1 => ⟨s, r1, by
    cases s with
    | true => rw [if_pos rfl]; exact (h2 rfl).I k1 fun v B2 H2 F2 k2 r2 x2 => q v B2 H2 F2 k2 r2 (x1.trans x2)
    | false => rw [if_neg Bool.false_ne_true]; exact q _ B1 H1 F1 k1 rfl x1⟩⟩
theorem ev_or {s : Bool} (h : Ev X c st a C (.im (.bl s)) C1) (h2 : s = false → Ev X c st (.BoolOp .Or (b :: es) pos) C1 (.im (.bl t)) C1) : Ev X c st (.BoolOp .Or (a :: b :: es) pos) C (.im (.bl (s || t))) C1 :=
  evI fun σ B H F k Q q => ⟨_, pe_or (pWE a) (pWE _), h.I k fun v B1 H1 F1 k1 r1 x1 => ⟨s, r1, by
    cases s with
    | false => rw [if_neg Bool.false_ne_true]; exact (h2 rfl).I k1 fun v B2 H2 F2 k2 r2 x2 => q v B2 H2 F2 k2 r2 (x1.trans x2)
    | true => rw [if_pos rfl]; exact q _ B1 H1 F1 k1 rfl x1⟩⟩
theorem ev_not {s : Bool} (h : Ev X c st a C (.im (.bl s)) C1) : Ev X c st (.UnaryOp .Not a pos) C (.im (.bl !s)) C1 :=
  evI fun σ B H F k Q q => ⟨_, pe_not (pWE a), h.I k fun v B1 H1 F1 k1 r1 x1 => ⟨s, r1, q _ B1 H1 F1 k1 rfl x1⟩⟩
theorem ev_if {e1 e2 : Expr} (hc : EvT X c st e C t C1) (h1 : t = true → Ev X c st e1 C1 m C2) (h2 : t = false → Ev X c st e2 C1 m C2) : Ev X c st (.IfExp e e1 e2 pos) C m C2 := fun σ B H F k Q q =>
  ⟨_, pe_ifExp (pWT e) (pWE e1) (pWE e2), hc σ B H F k _ fun B1 H1 F1 k1 x1 => by
    cases t with
    | true => rw [if_pos rfl]; exact h1 rfl σ B1 H1 F1 k1 Q fun v B2 H2 F2 Fm k2 r n o x2 => q v B2 H2 F2 Fm k2 r n o (x1.trans x2)
    | false => rw [if_neg Bool.false_ne_true]; exact h2 rfl σ B1 H1 F1 k1 Q fun v B2 H2 F2 Fm k2 r n o x2 => q v B2 H2 F2 Fm k2 r n o (x1.trans x2)⟩
/-- a < b < c -/
theorem ev_chain {op op' : CmpOp} {g g' : Int → Int → Bool} {e' : Expr} {l : Int} (h : ICmp op g) (h' : ICmp op' g') (ha : Ev X c st a C (.im (.int i)) C) (hb : Ev X c st b C (.im (.int j)) C) (hc : Ev X c st e' C (.im (.int l)) C)
    (hm : lastMarks [op, op'] [b, e'] = false := by with_unfolding_all rfl) : Ev X c st (.Compare a [op, op'] [b, e'] pos) C (.im (.bl (g i j && g' j l))) C :=
  evI fun σ B H F k Q q => ⟨_, pe_chain h.ok h'.ok (pWE a) (pWE b) (pWE e') hm, ev_two ha hb k fun x y B1 H1 F1 k1 r1 r2 x1 => ⟨i, j, r1, r2, g i j, rfl, by
    cases hg : g i j with
    | true =>
      rw [hg] at q
      rw [if_pos rfl]; exact hc.I k1 fun z B2 H2 F2 k2 r3 x2 => ⟨j, l, by cases (show y = _ from r2); rfl, r3, q (.bl (g' j l)) B2 H2 F2 k2 (show V.bl _ = V.bl _ by rw [Bool.true_and]) (x1.trans x2)⟩
    | false =>
      rw [hg] at q
      rw [if_neg Bool.false_ne_true]; exact q (.bl false) B1 H1 F1 k1 (show V.bl _ = V.bl _ by rw [Bool.false_and]) x1⟩⟩
/-! ### argument lists, displays -/
variable {ms : List Mu} {ds : List D}
theorem eva_nil : EvA X c st [] C [] C := fun σ B H F k Q q => ⟨_, pa_nil, q [] B H F [] k ⟨rfl, rfl⟩ (by simpa using k.nd) (by simp) (by simpa using Ext.refl)⟩
theorem eva_cons (ha : Ev X c st a C m C1) (hr : EvA X c st es C1 ms C2) (hs : starEach (a :: es) X.env = (false, eval a X.env) :: starEach es X.env := by rfl) : EvA X c st (a :: es) C (m :: ms) C2 := fun σ B H F k Q q =>
  ⟨_, pa_cons (pWE a) (pWA es) hs, ha σ B H F k _ fun v B1 H1 F1 Fm1 k1 t1 n1 o1 x1 => hr σ B1 H1 F1 k1 _ fun vs B2 H2 F2 Fm2 k2 t2 n2 o2 x2 => by
    obtain ⟨z1, z2, z3⟩ := keep2 k1 t1 n1 o1 n2 x2
    refine q (v :: vs) B2 H2 F2 (Fm1 ++ Fm2) k2 ⟨v, vs, Fm1, Fm2, rfl, rfl, z1, t2⟩ z3 (fun a ha => ?_) (ext2 x1 x2)
    rcases List.mem_append.mp ha with h | h
    · exact z2 a h
    · exact o2 a h⟩
theorem EvA.I (h : EvA X c st es C (ds.map Mu.im) C1) {σ : L2.St} {B H : Hp} {F : List Addr} (k : OK c st C B H F σ) {Q : List V → Hp → Prop} (q : ∀ vs B' H' F', OK c st C1 B' H' F' σ → RepL c B' ds vs → Ext F F' B H B' H' → Q vs H') : WA X es σ H Q :=
  h σ B H F k Q fun vs B' H' F' Fm k' t n o x => by
    obtain ⟨r, e⟩ := OwnL.ims t
    subst e
    exact q vs B' H' F' k' r (by simpa using x)
/-- a tuple display of plain data -/
theorem ev_tup {k' : Nat} (h : EvA X c st es C (ds.map Mu.im) C1) (hz : ds.length ≤ 1000) : Ev X c st (.Tuple es k' pos) C (.im (.tup ds)) C1 := evI fun σ B H F k Q q =>
  ⟨_, pe_tup (pWA es), h.I k fun vs B1 H1 F1 k1 r x1 => ⟨by rw [r.len, sizeLine_eq]; omega, fun p hp => by
    obtain ⟨s, x2⟩ := ext_new (o := .tup vs) k1.sub hp
    exact q (.ref p) _ _ F1 (k1.grow s x2) ⟨p, vs, rfl, upd_same, RepL.mono x2.b _ _ r⟩ (x1.trans x2.up)⟩⟩
/-- a new list, owned -/
theorem own_new {B H B1 H1 : Hp} {F F1 Fm : List Addr} {σ : L2.St} {vs : List V} {p : Addr} (k : OK c st C B1 H1 F1 σ) (t : OwnL c B1 H1 ms vs Fm) (n : (F1 ++ Fm).Nodup) (o : ∀ a ∈ Fm, B1 a = none) (x : Ext F (F1 ++ Fm) B H B1 H1) (hp : H1 p = none) :
    OK c st C B1 (upd H1 p (.lst vs)) F1 σ ∧ OwnT c B1 (upd H1 p (.lst vs)) (.ls ms) (.ref p) (p :: Fm) ∧ (F1 ++ (p :: Fm)).Nodup ∧ (∀ a ∈ p :: Fm, B1 a = none) ∧ Ext F (F1 ++ (p :: Fm)) B H B1 (upd H1 p (.lst vs)) := by
  obtain ⟨n1, n2, n3⟩ := nd_app n
  have nB : B1 p = none := by
    cases e : B1 p with
    | none => rfl
    | some u => rw [k.sub p u e] at hp; cases hp
  have pF : p ∉ F1 := fun z => by
    obtain ⟨u, e⟩ := k.there p z
    rw [hp] at e; cases e
  have pM : p ∉ Fm := fun z => by
    obtain ⟨u, e⟩ := OwnL.there ms vs Fm t p z
    rw [hp] at e; cases e
  have up : ∀ a, a ≠ p → upd H1 p (.lst vs) a = H1 a := fun a h => upd_ne h
  have pH : H p = none ∨ p ∈ F := by
    by_cases hF : p ∈ F
    · exact .inr hF
    · left
      cases e : H p with
      | none => rfl
      | some u => rw [x.h p u hF e] at hp; cases hp
  refine ⟨k.grow (fun a u e => ?_) ⟨Same.refl _, fun a u _ e => ?_, fun a u _ e h => h, fun a ha => by cases ha⟩, ⟨p, vs, Fm, rfl, rfl, upd_same, OwnL.mono (Same.refl _) ms vs Fm (fun a ha => up a fun e => pM (e ▸ ha)) t⟩, nd_mk n1 ?_ ?_, ?_, ⟨x.b, fun a u ha e => ?_, x.f, fun a ha => ?_⟩⟩
  · rw [up a (ne_of_none e nB)]; exact k.sub a u e
  · rw [up a (ne_of_none e hp)]; exact e
  · exact List.nodup_cons.mpr ⟨pM, n2⟩
  · intro a ha z
    rcases List.mem_cons.mp z with rfl | z
    · exact pF ha
    · exact n3 a ha z
  · intro a ha
    rcases List.mem_cons.mp ha with rfl | z
    · exact nB
    · exact o a z
  · have q := x.h a u ha e
    rw [up a (ne_of_none q hp)]; exact q
  · rcases List.mem_append.mp ha with z | z
    · exact x.n a (List.mem_append_left _ z)
    · rcases List.mem_cons.mp z with rfl | z
      · exact pH.symm
      · exact x.n a (List.mem_append_right _ z)
/-- a list display -/
theorem ev_lst (h : EvA X c st es C ms C1) (hz : ms.length ≤ 1000) : Ev X c st (.List es pos) C (.ls ms) C1 := fun σ B H F k Q q =>
  ⟨_, pe_lst (pWA es), h σ B H F k _ fun vs B1 H1 F1 Fm k1 t n o x1 => ⟨by
    have : ∀ {ms : List Mu} {vs : List V} {Fm : List Addr}, OwnL c B1 H1 ms vs Fm → vs.length = ms.length := by
      intro ms
      induction ms with
      | nil => intro vs Fm h; rw [h.1]; rfl
      | cons m l ih => intro vs Fm ⟨v, r, F1, F2, e1, e2, h, q⟩; rw [e1, List.length_cons, List.length_cons, ih q]
    rw [this t, sizeLine_eq]; omega, fun p hp => by
    obtain ⟨y1, y2, y3, y4, y5⟩ := own_new k1 t n o x1 hp
    exact q (.ref p) B1 _ F1 (p :: Fm) y1 y2 y3 y4 y5⟩⟩
end
end K48

namespace K48
open PySem PySem.Spec PyProof.Rows L2

theorem nd_swap {S G1 Gi G2 Fm : List Addr} (h : (S ++ (G1 ++ (Gi ++ G2)) ++ Fm).Nodup) : (S ++ (G1 ++ (Fm ++ G2))).Nodup := by
  simp only [List.nodup_append, List.mem_append] at h ⊢
  grind
/-- footprints' lengths -/
theorem OwnL.len {c : Cl} {B H : Hp} : ∀ {ms : List Mu} {vs : List V} {F : List Addr}, OwnL c B H ms vs F → vs.length = ms.length
  | [], _, _, h => by rw [h.1]; rfl
  | m :: l, _, _, ⟨v, r, F1, F2, e1, e2, h, q⟩ => by rw [e1, List.length_cons, List.length_cons, OwnL.len q]
theorem OwnL.snoc {c : Cl} {B H : Hp} {m : Mu} {v : V} {Fm : List Addr} (t : OwnT c B H m v Fm) : ∀ {ms : List Mu} {vs : List V} {F : List Addr}, OwnL c B H ms vs F → OwnL c B H (ms ++ [m]) (vs ++ [v]) (F ++ Fm)
  | [], _, _, h => by rw [h.1, h.2]; exact ⟨v, [], Fm, [], rfl, by simp, t, rfl, rfl⟩
  | m' :: l, _, _, ⟨v', r, F1, F2, e1, e2, h, q⟩ => by
    rw [e1, e2]
    exact ⟨v', r ++ [v], F1, F2 ++ Fm, rfl, List.append_assoc _ _ _, h, OwnL.snoc t q⟩

section
variable {X : Cx} {c : Cl} {st : Addr} {C C0 C1 C2 C3 : Cfg} {e a b : Expr} {d d1 d2 d3 : D} {m m1 m2 : Mu} {pos p p2 : Pos} {o : Out} {s : Stmt} {ss : List Stmt} {es : List Expr} {ds : List D}

/-! ### blocks -/
theorem PostO.lift {F F1 : List Addr} {B H B1 H1 : Hp} {E : Ends} (x : Ext F F1 B H B1 H1) (h : PostO c st o F B H E) : PostO c st o F1 B1 H1 E := by
  cases o with
  | nx C' => exact fun σ' B' H' F' k' x' => h σ' B' H' F' k' (x.trans x')
  | rt m S' => exact fun v B' H' Fm k t n q x' => h v B' H' Fm k t n q (x.trans x')
theorem ex_nil : Ex X c st [] C (.nx C) := fun σ B H F k E q => ⟨_, pss_nil, q σ B H F k Ext.refl⟩
theorem ex_cons (h1 : Es X c st s C (.nx C1)) (h2 : Ex X c st ss C1 o) : Ex X c st (s :: ss) C o := fun σ B H F k E q =>
  ⟨_, pss_cons (pWS s) (pWB ss), h1 σ B H F k _ fun σ1 B1 H1 F1 k1 x1 => h2 σ1 B1 H1 F1 k1 E (q.lift x1)⟩
theorem ex_stop {S' : Option (Int × Int)} (h1 : Es X c st s C (.rt m S')) : Ex X c st (s :: ss) C (.rt m S') := fun σ B H F k E q =>
  ⟨_, pss_cons (pWS s) (pWB ss), h1 σ B H F k _ q⟩
theorem ex_one (h1 : Es X c st s C o) : Ex X c st [s] C o := fun σ B H F k E q => ⟨_, pss_one (pWS s), h1 σ B H F k _ q⟩
theorem OK.weak {B H : Hp} {F : List Addr} {σ : L2.St} (k : OK c st C B H F σ) (w : Wk C.ρ C1.ρ) (hS : C1.S = C.S) : ∃ F', OK c st C1 B H F' σ ∧ ∀ a ∈ F', a ∈ F := by
  obtain ⟨F0, e, q⟩ := k.own
  obtain ⟨F', h1, h2⟩ := OwnE.weak w q
  have sub : List.Sublist (stF st C1.S ++ F') F := by rw [e, hS]; exact (List.Sublist.refl _).append h2
  exact ⟨stF st C1.S ++ F', ⟨k.sub, k.nd.sublist sub, fun a ha => k.out a (sub.subset ha), ⟨F', rfl, h1⟩, fun s t z => k.stc s t (hS ▸ z)⟩, fun a ha => sub.subset ha⟩
theorem Ext.less {B H : Hp} {F F' : List Addr} (k : ∀ a ∈ F', a ∈ F) : Ext F F' B H B H := ⟨Same.refl _, fun _ _ _ h => h, fun _ _ _ _ h => h, fun a h => .inl (k a h)⟩
/-- forgetting slots ahead of a statement, behind one -/
theorem ex_weak (w : Wk C.ρ C1.ρ) (hS : C1.S = C.S) (h : Ex X c st ss C1 o) : Ex X c st ss C o := fun σ B H F k E q =>
  let ⟨F', k', s'⟩ := k.weak w hS
  h σ B H F' k' E (q.lift (Ext.less s'))
theorem es_weak (w : Wk C.ρ C1.ρ) (hS : C1.S = C.S) (h : Es X c st s C1 o) : Es X c st s C o := fun σ B H F k E q =>
  let ⟨F', k', s'⟩ := k.weak w hS
  h σ B H F' k' E (q.lift (Ext.less s'))
theorem ex_forget (w : Wk C1.ρ C2.ρ) (hS : C2.S = C1.S) (h : Ex X c st ss C (.nx C1)) : Ex X c st ss C (.nx C2) := fun σ B H F k E q => h σ B H F k E fun σ1 B1 H1 F1 k1 x1 =>
  let ⟨F', k', s'⟩ := k1.weak w hS
  q σ1 B1 H1 F' k' (x1.sub s')
/-- an owned slot is frozen -/
theorem OK.frzSlot {B H : Hp} {F : List Addr} {σ : L2.St} (k : OK c st C B H F σ) (i : Nat) (hs : C.ρ[i]? = some (some (.mu m))) :
    ∃ B' F', OK c st ⟨C.S, C.ρ.set i (sd m.toD)⟩ B' H F' σ ∧ Ext F F' B H B' H := by
  obtain ⟨F0, e, q⟩ := k.own
  obtain ⟨F1, Fi, F2, w, eF, ew, hw, _, hset⟩ := q.focus i hs
  obtain ⟨v, rfl, t⟩ := hw _ rfl
  have nd := k.nd
  rw [e, eF] at nd
  have t' : OwnT c B H m v Fi := t
  have sF : Same B (addF B H Fi) := addF_same fun a ha => k.out a (by rw [e, eF]; simp [ha])
  have ow := hset (addF B H Fi) H (.mu (.im m.toD)) v [] sF (fun _ _ => rfl) (fun _ _ => rfl) ⟨OwnT.frz sF m v Fi (fun a ha => addF_in ha) t', rfl⟩
  have es : σ.set i (some v) = σ := by
    refine List.ext_getElem? fun j => ?_
    by_cases hj : i = j
    · subst hj
      have hl := (List.getElem?_eq_some_iff.mp ew).1
      rw [List.getElem?_set_self hl, ew]
    · rw [List.getElem?_set_ne hj]
  rw [es] at ow
  have dis : ∀ a ∈ stF st C.S ++ (F1 ++ F2), a ∉ Fi := by
    simp only [List.nodup_append, List.mem_append] at nd ⊢
    grind
  refine ⟨addF B H Fi, stF st C.S ++ (F1 ++ F2), ⟨addF_sub k.sub, ?_, fun a ha => ?_, ⟨_, rfl, ow⟩, k.stc⟩, ⟨sF, fun _ _ _ h => h, fun a u ha eH n => ?_, fun a ha => .inl ?_⟩⟩
  · simp only [List.nodup_append, List.mem_append] at nd ⊢
    grind
  · rw [addF_out (dis a ha)]
    exact k.out a (by rw [e, eF]; simp only [List.mem_append] at ha ⊢; grind)
  · rw [addF_out (fun z => ha (by rw [e, eF]; simp [z]))]; exact n
  · rw [e, eF]; simp only [List.mem_append] at ha ⊢; grind
theorem ex_frz (i : Nat) (hs : C.ρ[i]? = some (some (.mu m))) (h : Ex X c st ss ⟨C.S, C.ρ.set i (sd m.toD)⟩ o) : Ex X c st ss C o := fun σ B H F k E q =>
  let ⟨B', F', k', x'⟩ := k.frzSlot i hs
  h σ B' H F' k' E (q.lift x')

/-! ### small statements -/
theorem own_set {B H : Hp} {F Fm : List Addr} {σ : L2.St} {v : V} (i : Nat) {ol : Option Sl} (k : OK c st C B H F σ) (hs : C.ρ[i]? = some ol) (t : OwnT c B H m v Fm) (n : (F ++ Fm).Nodup) (o : ∀ a ∈ Fm, B a = none) :
    ∃ F', OK c st ⟨C.S, C.ρ.set i (some (.mu m))⟩ B H F' (σ.set i (some v)) ∧ ∀ a ∈ F', a ∈ F ++ Fm := by
  obtain ⟨F0, e, q⟩ := k.own
  obtain ⟨F1, Fi, F2, w, eF, ew, hw, _, hset⟩ := q.focus i hs
  have ow := hset B H (.mu m) v Fm (Same.refl _) (fun _ _ => rfl) (fun _ _ => rfl) t
  rw [e, eF] at n
  refine ⟨stF st C.S ++ (F1 ++ (Fm ++ F2)), ⟨k.sub, nd_swap n, fun a ha => ?_, ⟨_, rfl, ow⟩, k.stc⟩, fun a ha => ?_⟩
  · by_cases h : a ∈ Fm
    · exact o a h
    · exact k.out a (by rw [e, eF]; simp only [List.mem_append] at ha ⊢; grind)
  · rw [e, eF]; simp only [List.mem_append] at ha ⊢; grind
theorem es_set (i : Nat) {x : Str} {ol : Option Sl} (h : Ev X c st e C m C1) (hs : C1.ρ[i]? = some ol := by rfl) (hN : X.N.Nodup) (hi : X.N[i]? = some x := by rfl) (hx : Loc X.env.scope x := by first | exact Or.inl rfl | exact Or.inr rfl)
    (hsw : swapsWith e (some (.Name x p)) pos.line X.env = pure false := by rfl) (hf : X.fn x = true ∨ X.env.scope.names.lookup x = some .local := by first | exact .inl rfl | exact .inr rfl) :
    Es X c st (.Assign [.Name x p] e pos) C (.nx ⟨C1.S, C1.ρ.set i (some (.mu m))⟩) := fun σ B H F k E q =>
  ⟨_, ps_set hN hi hx (pWE e) hsw hf, h σ B H F k _ fun v B1 H1 F1 Fm k1 t n o x1 =>
    let ⟨F', k', s'⟩ := own_set i k1 hs t n o
    q _ B1 H1 F' k' (x1.sub s')⟩
theorem es_expr (h : Ev X c st e C m C1) (hs : swapsWith e none pos.line X.env = pure false := by rfl) : Es X c st (.Expr e pos) C (.nx C1) := fun σ B H F k E q =>
  ⟨_, ps_expr (pWE e) hs, h σ B H F k _ fun v B1 H1 F1 Fm k1 t n o x1 => q σ B1 H1 F1 k1 (x1.sub fun a ha => List.mem_append_left _ ha)⟩
theorem es_ret (h : Ev X c st e C m C1) : Es X c st (.Return (some e) pos) C (.rt m C1.S) := fun σ B H F k E q =>
  ⟨_, ps_ret (pWE e), h σ B H F k _ fun v B1 H1 F1 Fm k1 t n o x1 => by
    obtain ⟨F0, e', ow⟩ := k1.own
    have n' : (stF st C1.S ++ Fm).Nodup := by
      rw [e'] at n
      simp only [List.nodup_append, List.mem_append] at n ⊢
      grind
    exact q v B1 H1 Fm ⟨k1.sub, (nd_app n').1, fun a ha => k1.out a (by rw [e']; exact List.mem_append_left _ ha), ⟨[], by simp, rfl⟩, k1.stc⟩ t n' o (x1.sub fun a ha => by
      rw [e']; simp only [List.mem_append] at ha ⊢; grind)⟩
theorem es_if {t : Bool} {A Bb : List Stmt} (hc : EvT X c st e C t C1) (h1 : t = true → Ex X c st A C1 o) (h2 : t = false → Ex X c st Bb C1 o) : Es X c st (.If e A Bb pos) C o := fun σ B H F k E q =>
  ⟨_, ps_if (pWT e) (pWB A) (pWB Bb), hc σ B H F k _ fun B1 H1 F1 k1 x1 => by
    cases t with
    | true => rw [if_pos rfl]; exact h1 rfl σ B1 H1 F1 k1 E (q.lift x1)
    | false => rw [if_neg Bool.false_ne_true]; exact h2 rfl σ B1 H1 F1 k1 E (q.lift x1)⟩
/-- a, b = x, y of plain locals -/
theorem es_par (i j : Nat) {x y : Str} {px py pt : Pos} {kt k2 : Nat} {pt2 : Pos} (h : EvA X c st [a, b] C [.im d1, .im d2] C1) {o1 o2 : Option Sl} (hs1 : C1.ρ[i]? = some o1 := by rfl) (hs2 : C1.ρ[j]? = some o2 := by rfl) (hc : X.calm = true := by rfl) (hN : X.N.Nodup) (hi : X.N[i]? = some x := by rfl) (hj : X.N[j]? = some y := by rfl) (hij : i ≠ j := by decide)
    (hx : X.env.scope.names.lookup x = some .local := by rfl) (hy : X.env.scope.names.lookup y = some .local := by rfl)
    (hw : swappedStores [.Tuple [.Name x px, .Name y py] kt pt] (.Tuple [a, b] k2 pt2) X.env = pure (some [x, y]) := by rfl)
    (hs : swapsWithSole [.Tuple [.Name x px, .Name y py] kt pt] (.Tuple [a, b] k2 pt2) pos.line X.env = pure false := by rfl) :
    Es X c st (.Assign [.Tuple [.Name x px, .Name y py] kt pt] (.Tuple [a, b] k2 pt2) pos) C (.nx ⟨C1.S, (C1.ρ.set i (sd d1)).set j (sd d2)⟩) := fun σ B H F k E q =>
  ⟨_, ps_par hc hN hi hj hij hx hy (pWA _) hw hs, h.I (ds := [d1, d2]) k fun vs B1 H1 F1 k1 r x1 => by
    obtain ⟨v, r1, e1, h1, w, r2, e2, h2, e3⟩ := r
    cases (show r2 = [] from e3); cases e2; cases e1
    refine ⟨v, w, rfl, ?_⟩
    obtain ⟨F2, k2, s2⟩ := own_set (m := .im d1) i k1 hs1 ⟨h1, rfl⟩ (by simpa using k1.nd) (by simp)
    have hs3 : ∃ o3, (C1.ρ.set i (sd d1))[j]? = some o3 := ⟨o2, by rw [List.getElem?_set_ne hij]; exact hs2⟩
    obtain ⟨o3, hs3⟩ := hs3
    obtain ⟨F3, k3, s3⟩ := own_set (m := .im d2) j k2 hs3 ⟨h2, rfl⟩ (by simpa using k2.nd) (by simp)
    exact q _ B1 H1 F3 k3 (x1.sub fun a ha => by simpa using s2 a (by simpa using s3 a ha))⟩

/-! ### targets -/
def WG (X : Cx) (tg : Expr) : TG := fun v σ H Q => ∃ g, PG X tg g ∧ g v σ H Q
theorem pWG (tg : Expr) : PG X tg (WG X tg) := ⟨fun pins s σ H v u Q I r ⟨g, h, q⟩ => h.run pins s σ H v u Q I r q⟩
def WGs (X : Cx) (tg : List Expr) : TGs := fun v σ H Q => ∃ g, PGs X tg g ∧ g v σ H Q
theorem pWGs (tg : List Expr) : PGs X tg (WGs X tg) := ⟨fun pins s σ H v u Q I r ⟨g, h, q⟩ => h.run pins s σ H v u Q I r q⟩
/-- only the slots ts may differ -/
def Frx (ts : List Nat) (σ σ' : L2.St) : Prop := σ'.length = σ.length ∧ ∀ j, j ∉ ts → σ'[j]? = σ[j]?
/-- an item worth d goes to the target, whose slots are ts -/
def Tg (X : Cx) (c : Cl) (st : Addr) (tg : Expr) (C : Cfg) (d : D) (C' : Cfg) (ts : List Nat) : Prop := ∀ σ B H F v, OK c st C B H F σ → Rep c B d v → ∀ Q : L2.St → Hp → Prop,
  (∀ σ' B' H' F', OK c st C' B' H' F' σ' → Ext F F' B H B' H' → Frx ts σ σ' → Q σ' H') → WG X tg v σ H Q
def Tgs (X : Cx) (c : Cl) (st : Addr) (tg : List Expr) (C : Cfg) (ds : List D) (C' : Cfg) (ts : List Nat) : Prop := ∀ σ B H F vs, OK c st C B H F σ → RepL c B ds vs → ∀ Q : L2.St → Hp → Prop,
  (∀ σ' B' H' F', OK c st C' B' H' F' σ' → Ext F F' B H B' H' → Frx ts σ σ' → Q σ' H') → WGs X tg vs σ H Q
variable {ts ts1 ts2 : List Nat}
theorem tg_name (i : Nat) {x : Str} {ol : Option Sl} (hN : X.N.Nodup) (hs : C.ρ[i]? = some ol := by rfl) (hi : X.N[i]? = some x := by rfl) (hx : Loc X.env.scope x := by first | exact Or.inl rfl | exact Or.inr rfl)
    (hf : X.fn x = true ∨ X.env.scope.names.lookup x = some .local := by first | exact .inl rfl | exact .inr rfl) : Tg X c st (.Name x pos) C d ⟨C.S, C.ρ.set i (sd d)⟩ [i] := fun σ B H F v k r Q q =>
  ⟨_, pg_name hN hi hx hf, let ⟨F2, k2, s2⟩ := own_set (m := .im d) i k hs ⟨r, rfl⟩ (by simpa using k.nd) (by simp)
    q _ B H F2 k2 (Ext.less fun a ha => by simpa using s2 a ha) ⟨by simp, fun j hj => List.getElem?_set_ne fun e => hj (by simp [e])⟩⟩
theorem tgs_nil : Tgs X c st [] C [] C [] := fun σ B H F vs k r Q q => ⟨_, pgs_nil, r, q σ B H F k Ext.refl ⟨rfl, fun _ _ => rfl⟩⟩
theorem tgs_cons (h1 : Tg X c st a C d C1 ts1) (h2 : Tgs X c st es C1 ds C2 ts2) (hs : (assignEach (a :: es) X.env).map (·.2) = assign a X.env :: (assignEach es X.env).map (·.2) := by rfl) : Tgs X c st (a :: es) C (d :: ds) C2 (ts1 ++ ts2) := fun σ B H F vs k ⟨v, r, e, r1, r2⟩ Q q =>
  ⟨_, pgs_cons (pWG a) (pWGs es) hs, v, r, e, h1 σ B H F v k r1 _ fun σ1 B1 H1 F1 k1 x1 f1 => h2 σ1 B1 H1 F1 r k1 (RepL.mono x1.b _ _ r2) Q fun σ2 B2 H2 F2 k2 x2 f2 => q σ2 B2 H2 F2 k2 (x1.trans x2)
    ⟨f2.1.trans f1.1, fun j hj => (f2.2 j fun z => hj (List.mem_append_right _ z)).trans (f1.2 j fun z => hj (List.mem_append_left _ z))⟩⟩
theorem tg_tup {kk : Nat} (h : Tgs X c st es C ds C1 ts) (hl : ds.length = es.length := by rfl) (hc : X.calm = true := by rfl) (hn : (assignEach es X.env).length = es.length := by rfl) (hst : (assignEach es X.env).findIdx? (·.1) = none := by rfl) : Tg X c st (.Tuple es kk pos) C (.tup ds) C1 ts := fun σ B H F v k ⟨a, vs, e, hB, r⟩ Q q =>
  ⟨_, pg_tup hc (pWGs es) hn hst, a, vs, e, SqT.of (k.sub _ _ hB), by rw [r.len, hl], h σ B H F vs k r Q q⟩
/-- a target gets a value -/
theorem es_asg {tg : Expr} (h : Ev X c st e C (.im d) C1) (hg : Tg X c st tg C1 d C2 ts) (hs : swapsWithSole [tg] e pos.line X.env = pure false := by rfl) (hw : swappedStores [tg] e X.env = pure none := by rfl) (h1 : (assignEach [tg] X.env).map (·.2) = [assign tg X.env] := by rfl) :
    Es X c st (.Assign [tg] e pos) C (.nx C2) := fun σ B H F k E q =>
  ⟨_, ps_asg (pWE e) (pWG tg) hs hw h1, h.I k fun v B1 H1 F1 k1 r x1 => hg σ B1 H1 F1 v k1 r _ fun σ2 B2 H2 F2 k2 x2 _ => q σ2 B2 H2 F2 k2 (x1.trans x2)⟩

/-! ### what is walked -/
/-- J yields the data xs, as long as B stands -/
def Walk (c : Cl) (J : It) (B : Hp) (xs : List D) : Prop := ∀ B2 H2, Same B B2 → Same B2 H2 →
  (∀ i, i < xs.length → J.go i H2) ∧ (∀ i, xs.length ≤ i → J.stop i H2) ∧ ∀ i d x H', xs[i]? = some d → J.yld i H2 x H' → ∃ B', Same B' H' ∧ Ext [] [] B2 H2 B' H' ∧ Rep c B' d x
def Iter (X : Cx) (c : Cl) (st : Addr) (tg iter : Expr) (C : Cfg) (xs : List D) (C' : Cfg) : Prop := ∀ σ B H F, OK c st C B H F σ → ∀ R : It → Hp → Prop,
  (∀ J B' H' F', OK c st C' B' H' F' σ → Ext F F' B H B' H' → Walk c J B' xs → R J H') → ∃ wi, PI X tg iter wi ∧ wi σ H R
theorem pWI (tg iter : Expr) : PI X tg iter (fun σ H R => ∃ wi, PI X tg iter wi ∧ wi σ H R) := ⟨fun pins s σ H R I ⟨wi, h, q⟩ => h.run pins s σ H R I q⟩
theorem SqL.uniq {K : PySem.W.Frag} {H : Hp} {a : Addr} {xs ys : List V} (h : H a = some (.lst xs)) (h2 : Rd H a (.lst ys)) : ys = xs := by
  rcases h2 with e | ⟨o, e⟩
  · rw [h] at e; cases e; rfl
  · rw [h] at e; cases e
variable {tg iter : Expr} {xs : List D}
end
end K48

namespace K48
open PySem PySem.Spec PyProof.Rows L2

section
variable {X : Cx} {c : Cl} {st : Addr} {C C0 C1 C2 C3 : Cfg} {e a b e2 : Expr} {d d1 d2 d3 : D} {m m1 m2 : Mu} {pos p p2 tpos : Pos} {o : Out} {s : Stmt} {ss : List Stmt} {es elts : List Expr} {ds xs ys l l' : List D} {tg iter : Expr} {kk : Nat}
/-! ### what is walked -/
theorem walk_list {B : Hp} {q : Addr} {vs : List V} (h : B q = some (.lst vs)) (r : RepL c B xs vs) : Walk c (Itl X.K q) B xs := fun B2 H2 s1 s2 => by
  have hq : SqL X.K H2 q vs := SqL.of (s2 _ _ (s1 _ _ h))
  refine ⟨fun i hi => ?_, fun i hi => ⟨vs, hq, by rw [r.len]; exact hi⟩, fun i d x H' hd y => ?_⟩
  · obtain ⟨v, h1, _⟩ := r.get (List.getElem?_eq_getElem hi)
    exact ⟨vs, v, hq, h1⟩
  · obtain ⟨rfl, y⟩ := y
    obtain ⟨v, h1, h2⟩ := r.get hd
    have := y vs hq
    rw [h1] at this; cases this
    exact ⟨B2, s2, Ext.refl, Rep.mono s1 _ _ h2⟩
theorem walk_tup {B : Hp} {q : Addr} {vs : List V} (h : B q = some (.tup vs)) (r : RepL c B xs vs) : Walk c (Itt X.K q) B xs := fun B2 H2 s1 s2 => by
  have hq : SqT X.K H2 q vs := SqT.of (s2 _ _ (s1 _ _ h))
  refine ⟨fun i hi => ?_, fun i hi => ⟨vs, hq, by rw [r.len]; exact hi⟩, fun i d x H' hd y => ?_⟩
  · obtain ⟨v, h1, _⟩ := r.get (List.getElem?_eq_getElem hi)
    exact ⟨vs, v, hq, h1⟩
  · obtain ⟨rfl, y⟩ := y
    obtain ⟨v, h1, h2⟩ := r.get hd
    have := y vs hq
    rw [h1] at this; cases this
    exact ⟨B2, s2, Ext.refl, Rep.mono s1 _ _ h2⟩
theorem it_list (h : Ev X c st iter C (.im (.lst xs)) C1) : Iter X c st tg iter C xs C1 := fun σ B H F k R q =>
  ⟨_, pi_list (pWE iter), h.I k fun v B1 H1 F1 k1 ⟨p, vs, e, hB, r⟩ x1 => ⟨p, e, ⟨vs, SqL.of (k1.sub _ _ hB)⟩, q _ B1 H1 F1 k1 x1 (walk_list hB r)⟩⟩
theorem it_tup (h : Ev X c st iter C (.im (.tup xs)) C1) : Iter X c st tg iter C xs C1 := fun σ B H F k R q =>
  ⟨_, pi_tup (pWE iter), h.I k fun v B1 H1 F1 k1 ⟨p, vs, e, hB, r⟩ x1 => ⟨p, e, ⟨vs, SqT.of (k1.sub _ _ hB)⟩, q _ B1 H1 F1 k1 x1 (walk_tup hB r)⟩⟩
/-- lo, lo + c, .. -/
def rgD (lo c : Int) (n : Nat) : List D := (List.range n).map fun i : Nat => D.int (lo + ((i : Nat) : Int) * c)
theorem rgD_get {lo c : Int} {n i : Nat} {d : D} (h : (rgD lo c n)[i]? = some d) : i < n ∧ d = .int (lo + (i : Int) * c) := by
  unfold rgD at h
  rw [List.getElem?_map] at h
  cases e : (List.range n)[i]? with
  | none => rw [e] at h; cases h
  | some j =>
    rw [e] at h
    obtain ⟨h1, h2⟩ := List.getElem?_eq_some_iff.mp e
    rw [List.getElem_range] at h2
    subst h2
    cases h
    exact ⟨by simpa using h1, rfl⟩
theorem rgD_len {lo c : Int} {n : Nat} : (rgD lo c n).length = n := by simp [rgD]
theorem walk_rng {B : Hp} {lo : Int} {n : Nat} : Walk c (Itr lo n) B (rgD lo 1 n) := fun B2 H2 s1 s2 => ⟨fun i hi => by rw [rgD_len] at hi; exact hi, fun i hi => by rw [rgD_len] at hi; exact hi, fun i d x H' hd y => by
    obtain ⟨rfl, rfl⟩ := y
    obtain ⟨_, rfl⟩ := rgD_get hd
    exact ⟨B2, s2, Ext.refl, show V.int _ = V.int _ by rw [Int.mul_one]⟩⟩
theorem walk_rngC {B : Hp} {lo k : Int} {n : Nat} : Walk c (Itc lo k n) B (rgD lo k n) := fun B2 H2 s1 s2 => ⟨fun i hi => by rw [rgD_len] at hi; exact hi, fun i hi => by rw [rgD_len] at hi; exact hi, fun i d x H' hd y => by
    obtain ⟨rfl, rfl⟩ := y
    obtain ⟨_, rfl⟩ := rgD_get hd
    exact ⟨B2, s2, Ext.refl, rfl⟩⟩
variable {i j : Int}
theorem it_range1 (hm : X.mg "range" = none) (h : EvA X c st [a] C [.im (.int j)] C1) (hj : -1000000 ≤ j ∧ j ≤ 1000000) (hg : Gl X "range" := by rfl) (hs : starEach [a] X.env = [(false, eval a X.env)] := by rfl) : Iter X c st tg (.Call (.Name "range" p) [a] [] pos) C (rgD 0 1 j.toNat) C1 := fun σ B H F k R q =>
  ⟨_, pi_range1 hg hm (pWA _) hs, h.I (ds := [.int j]) k fun vs B1 H1 F1 k1 r x1 => by
    obtain ⟨v, r1, e1, h1, e3⟩ := r
    cases (show r1 = [] from e3); cases (show v = _ from h1)
    exact ⟨j, e1, by omega, by omega, q _ B1 H1 F1 k1 x1 walk_rng⟩⟩
theorem it_range2 (hm : X.mg "range" = none) (h : EvA X c st [a, b] C [.im (.int i), .im (.int j)] C1) (hi : -1000000 ≤ i ∧ i ≤ 1000000) (hj : -1000000 ≤ j ∧ j ≤ 1000000) (hg : Gl X "range" := by rfl)
    (hs : starEach [a, b] X.env = [(false, eval a X.env), (false, eval b X.env)] := by rfl) (hs2 : starEach [b] X.env = [(false, eval b X.env)] := by rfl) : Iter X c st tg (.Call (.Name "range" p) [a, b] [] pos) C (rgD i 1 (j - i).toNat) C1 := fun σ B H F k R q =>
  ⟨_, pi_range2 hg hm (pWA _) hs hs2, h.I (ds := [.int i, .int j]) k fun vs B1 H1 F1 k1 r x1 => by
    obtain ⟨v, r1, e1, h1, w, r2, e2, h2, e3⟩ := r
    cases (show r2 = [] from e3); cases (show v = _ from h1); cases (show w = _ from h2); cases e2
    exact ⟨i, j, e1, by omega, q _ B1 H1 F1 k1 x1 walk_rng⟩⟩
/-- range(i, j, -1) -/
theorem it_range3 (hm : X.mg "range" = none) (h : EvA X c st [a, b, e] C [.im (.int i), .im (.int j), .im (.int (-1))] C1) (hi : -1000000 ≤ i ∧ i ≤ 1000000) (hj : -1000000 ≤ j ∧ j ≤ 1000000) (hg : Gl X "range" := by rfl)
    (hs : starEach [a, b, e] X.env = (false, eval a X.env) :: starEach [b, e] X.env := by rfl) (hpl : (backTo pos (starEach [b, e] X.env)).any (·.1) = false := by rfl) : Iter X c st tg (.Call (.Name "range" p) [a, b, e] [] pos) C (rgD i (-1) (i - j).toNat) C1 := fun σ B H F k R q =>
  ⟨_, pi_range3 hg hm (pWA _) hs hpl, h.I (ds := [.int i, .int j, .int (-1)]) k fun vs B1 H1 F1 k1 r x1 => by
    obtain ⟨v, r1, e1, h1, w, r2, e2, h2, u, r3, e3, h3, e4⟩ := r
    cases (show r3 = [] from e4); cases (show v = _ from h1); cases (show w = _ from h2); cases (show u = _ from h3); cases e3; cases e2
    exact ⟨i, j, -1, _, e1, RgC.neg (by omega) (by omega) (by omega) (by omega), q _ B1 H1 F1 k1 x1 walk_rngC⟩⟩
/-- zip of two lists, of two tuples -/
def zipD : List D → List D → List D
  | x :: xs, y :: ys => .tup [x, y] :: zipD xs ys
  | _, _ => []
theorem zipD_get : ∀ {xs ys : List D} {i : Nat} {d : D}, (zipD xs ys)[i]? = some d → ∃ x y, xs[i]? = some x ∧ ys[i]? = some y ∧ d = .tup [x, y]
  | [], _, _, _, h => by simp [zipD] at h
  | _ :: _, [], _, _, h => by simp [zipD] at h
  | x :: xs, y :: ys, 0, d, h => by simp [zipD] at h; exact ⟨x, y, rfl, rfl, h.symm⟩
  | x :: xs, y :: ys, i + 1, d, h => by
    obtain ⟨u, w, h1, h2, h3⟩ := zipD_get (xs := xs) (ys := ys) (by simpa [zipD] using h)
    exact ⟨u, w, by simpa using h1, by simpa using h2, h3⟩
theorem zipD_len : ∀ {xs ys : List D}, (zipD xs ys).length = min xs.length ys.length
  | [], _ => by simp [zipD]
  | _ :: _, [] => by simp [zipD]
  | x :: xs, y :: ys => by rw [zipD, List.length_cons, zipD_len (xs := xs) (ys := ys), List.length_cons, List.length_cons]; omega
theorem it_zip {tup : Bool} (hm : X.mg "zip" = none) (h : EvA X c st [a, b] C [.im (if tup then .tup xs else .lst xs), .im (if tup then .tup ys else .lst ys)] C1) (hg : Gl X "zip" := by rfl)
    (hs : starEach [a, b] X.env = (false, eval a X.env) :: starEach [b] X.env := by rfl) (hpl : (backTo pos (starEach [b] X.env)).any (·.1) = false := by rfl) : Iter X c st (.Tuple elts kk tpos) (.Call (.Name "zip" p) [a, b] [] pos) C (zipD xs ys) C1 := fun σ B H F k R q =>
  ⟨_, RZ.pi_zipA hg hm (pWA _) hs hpl, h.I (ds := [if tup then .tup xs else .lst xs, if tup then .tup ys else .lst ys]) k fun vs B1 H1 F1 k1 r x1 => by
    obtain ⟨v, r1, e1, h1, w, r2, e2, h2, e4⟩ := r
    cases (show r2 = [] from e4); cases e2
    cases tup with
    | false =>
      obtain ⟨pa, va, rfl, ha, ra⟩ := h1
      obtain ⟨pb, vb, rfl, hb, rb⟩ := h2
      refine ⟨pa, pb, va, vb, e1, .inl ⟨SqL.of (k1.sub _ _ ha), SqL.of (k1.sub _ _ hb), q _ B1 H1 F1 k1 x1 fun B2 H2 s1 s2 => ?_⟩⟩
      have hqa : SqL X.K H2 pa va := SqL.of (s2 _ _ (s1 _ _ ha))
      have hqb : SqL X.K H2 pb vb := SqL.of (s2 _ _ (s1 _ _ hb))
      refine ⟨fun i hi => ?_, fun i hi => ⟨va, vb, hqa, hqb, ?_⟩, fun i d x H' hd y => ?_⟩
      · rw [zipD_len] at hi
        obtain ⟨v, h1, _⟩ := ra.get (List.getElem?_eq_getElem (show i < xs.length by omega))
        obtain ⟨w, h2, _⟩ := rb.get (List.getElem?_eq_getElem (show i < ys.length by omega))
        exact ⟨va, vb, v, w, hqa, hqb, h1, h2⟩
      · rw [zipD_len] at hi; rw [ra.len, rb.len]; omega
      · obtain ⟨T, u, w, rfl, hT, rfl, y1, y2⟩ := y
        obtain ⟨d1, d2, g1, g2, rfl⟩ := zipD_get hd
        obtain ⟨v1, z1, w1⟩ := ra.get g1
        obtain ⟨v2, z2, w2⟩ := rb.get g2
        have e1 := y1 va hqa
        have e2 := y2 vb hqb
        obtain rfl : v1 = u := Option.some.inj (z1.symm.trans e1)
        obtain rfl : v2 = w := Option.some.inj (z2.symm.trans e2)
        obtain ⟨s3, x3⟩ := ext_new (o := .tup [v1, v2]) s2 hT
        exact ⟨_, s3, x3, T, [v1, v2], rfl, upd_same, ⟨v1, [v2], rfl, Rep.mono (s1.trans x3.b) _ _ w1, v2, [], rfl, Rep.mono (s1.trans x3.b) _ _ w2, rfl⟩⟩
    | true =>
      obtain ⟨pa, va, rfl, ha, ra⟩ := h1
      obtain ⟨pb, vb, rfl, hb, rb⟩ := h2
      refine ⟨pa, pb, va, vb, e1, .inr ⟨SqT.of (k1.sub _ _ ha), SqT.of (k1.sub _ _ hb), q _ B1 H1 F1 k1 x1 fun B2 H2 s1 s2 => ?_⟩⟩
      have hqa : SqT X.K H2 pa va := SqT.of (s2 _ _ (s1 _ _ ha))
      have hqb : SqT X.K H2 pb vb := SqT.of (s2 _ _ (s1 _ _ hb))
      refine ⟨fun i hi => ?_, fun i hi => ⟨va, vb, hqa, hqb, ?_⟩, fun i d x H' hd y => ?_⟩
      · rw [zipD_len] at hi
        obtain ⟨v, h1, _⟩ := ra.get (List.getElem?_eq_getElem (show i < xs.length by omega))
        obtain ⟨w, h2, _⟩ := rb.get (List.getElem?_eq_getElem (show i < ys.length by omega))
        exact ⟨va, vb, v, w, hqa, hqb, h1, h2⟩
      · rw [zipD_len] at hi; rw [ra.len, rb.len]; omega
      · obtain ⟨T, u, w, rfl, hT, rfl, y1, y2⟩ := y
        obtain ⟨d1, d2, g1, g2, rfl⟩ := zipD_get hd
        obtain ⟨v1, z1, w1⟩ := ra.get g1
        obtain ⟨v2, z2, w2⟩ := rb.get g2
        have e1 := y1 va hqa
        have e2 := y2 vb hqb
        obtain rfl : v1 = u := Option.some.inj (z1.symm.trans e1)
        obtain rfl : v2 = w := Option.some.inj (z2.symm.trans e2)
        obtain ⟨s3, x3⟩ := ext_new (o := .tup [v1, v2]) s2 hT
        exact ⟨_, s3, x3, T, [v1, v2], rfl, upd_same, ⟨v1, [v2], rfl, Rep.mono (s1.trans x3.b) _ _ w1, v2, [], rfl, Rep.mono (s1.trans x3.b) _ _ w2, rfl⟩⟩⟩

/-! ### for -/
/-- the loop's turns: through to the end, or to a return at turn n -/
theorem es_for {body : List Stmt} (Cs : Nat → Cfg) (n : Nat) (hc : X.calm = true := by rfl) (hp : PassesOwn (model X.prog X.w) X.A X.env X.xe) (hi : Iter X c st tg iter C xs (Cs 0)) (hn : n ≤ xs.length)
    (turn : ∀ i d, i < n → xs[i]? = some d → ∃ C' ts, Tg X c st tg (Cs i) d C' ts ∧ Ex X c st body C' (.nx (Cs (i + 1))))
    (last : (n = xs.length ∧ o = .nx (Cs n)) ∨ ∃ d C' m S' ts, xs[n]? = some d ∧ o = .rt m S' ∧ Tg X c st tg (Cs n) d C' ts ∧ Ex X c st body C' o)
    (hs : ∀ x, foldedSetIterable iter X.env x = pure x := by intro _; rfl) : Es X c st (.For tg iter body [] pos) C o := fun σ B H F k E q =>
  ⟨_, ps_for hp hc (pWI tg iter) (pWG tg) (pWB body) hs, hi σ B H F k _ fun J B1 H1 F1 k1 x1 wk => by
    refine ⟨fun i m σ H => m = n + 1 - i ∧ i ≤ n ∧ ∃ B' F', OK c st (Cs i) B' H F' σ ∧ Ext F1 F' B1 H1 B' H, ⟨n + 1, rfl, Nat.zero_le _, B1, F1, k1, Ext.refl⟩, ?_⟩
    rintro i m σ2 H2 ⟨rfl, hin, B2, F2, k2, x2⟩
    obtain ⟨wg, ws, wy⟩ := wk B2 H2 x2.b k2.sub
    have step : ∀ {d : D} {C' : Cfg} {o' : Out} {E' : Ends} {ts : List Nat}, xs[i]? = some d → Tg X c st tg (Cs i) d C' ts → Ex X c st body C' o' → PostO c st o' F1 B1 H1 E' → ∀ x H', J.yld i H2 x H' → WG X tg x σ2 H' fun σ3 H3 => WB X body E' σ3 H3 := fun {d C' o' E' ts} hd ht hb q' x H' y => by
      obtain ⟨B', s', x', r'⟩ := wy i d x H' hd y
      exact ht σ2 B' H' F2 x (k2.grow s' x') r' _ fun σ3 B3 H3 F3 k3 x3 _ => hb σ3 B3 H3 F3 k3 E' (q'.lift ((x2.trans x'.up).trans x3))
    by_cases hlt : i < n
    · obtain ⟨d, hd⟩ : ∃ d, xs[i]? = some d := ⟨_, List.getElem?_eq_getElem (by omega)⟩
      obtain ⟨C', ts, ht, hb⟩ := turn i d hlt hd
      refine .inr ⟨wg i (by omega), fun σ' H' => ∃ B' F', OK c st (Cs (i + 1)) B' H' F' σ' ∧ Ext F1 F' B1 H1 B' H', fun σ' H' z => ⟨n + 1 - (i + 1), by omega, rfl, hlt, z⟩, ?_⟩
      exact step hd ht hb fun σ' B' H' F' k' x' => ⟨B', F', k', x'⟩
    · have e : i = n := by omega
      subst e
      rcases last with ⟨e, eo⟩ | ⟨d, C', m, S', ts, hd, eo, ht, hb⟩
      · subst eo
        exact .inl ⟨ws i (Nat.le_of_eq e.symm), q _ B2 H2 F2 k2 (x1.trans x2)⟩
      · have hlt : i < xs.length := (List.getElem?_eq_some_iff.mp hd).1
        subst eo
        refine .inr ⟨wg i hlt, fun _ _ => False, fun _ _ z => z.elim, ?_⟩
        exact step hd ht hb (q.lift x1)⟩
theorem es_forAll {body : List Stmt} (Cs : Nat → Cfg) (hp : PassesOwn (model X.prog X.w) X.A X.env X.xe) (hi : Iter X c st tg iter C xs (Cs 0))
    (turn : ∀ i d, xs[i]? = some d → ∃ C' ts, Tg X c st tg (Cs i) d C' ts ∧ Ex X c st body C' (.nx (Cs (i + 1)))) (hc : X.calm = true := by rfl)
    (hs : ∀ x, foldedSetIterable iter X.env x = pure x := by intro _; rfl) : Es X c st (.For tg iter body [] pos) C (.nx (Cs xs.length)) :=
  es_for Cs xs.length hc hp hi (Nat.le_refl _) (fun i d _ h => turn i d h) (.inl ⟨rfl, rfl⟩) hs
theorem es_forRet {body : List Stmt} {S' : Option (Int × Int)} (Cs : Nat → Cfg) (n : Nat) (hp : PassesOwn (model X.prog X.w) X.A X.env X.xe) (hi : Iter X c st tg iter C xs (Cs 0))
    (turn : ∀ i d, i < n → xs[i]? = some d → ∃ C' ts, Tg X c st tg (Cs i) d C' ts ∧ Ex X c st body C' (.nx (Cs (i + 1))))
    {ts : List Nat} (hn : xs[n]? = some d) (ht : Tg X c st tg (Cs n) d C2 ts) (hb : Ex X c st body C2 (.rt m S')) (hc : X.calm = true := by rfl)
    (hs : ∀ x, foldedSetIterable iter X.env x = pure x := by intro _; rfl) : Es X c st (.For tg iter body [] pos) C (.rt m S') :=
  es_for Cs n hc hp hi (Nat.le_of_lt (List.getElem?_eq_some_iff.mp hn).1) turn (.inr ⟨d, C2, m, S', ts, hn, rfl, ht, hb⟩) hs
/-! ### while -/
theorem es_while {body : List Stmt} (Cs : Nat → Cfg) (n : Nat) (hp : PassesOwn (model X.prog X.w) X.A X.env X.xe)
    (test : ∀ i, i ≤ n → EvT X c st e (Cs i) (decide (i < n)) (Cs i)) (turn : ∀ i, i < n → Ex X c st body (Cs i) (.nx (Cs (i + 1)))) :
    Es X c st (.While e body [] pos) (Cs 0) (.nx (Cs n)) := fun σ B H F k E q =>
  ⟨_, ps_while hp (pWT e) (pWB body), by
    refine ⟨fun m σ H' => ∃ i, m = n - i ∧ i ≤ n ∧ ∃ B' F', OK c st (Cs i) B' H' F' σ ∧ Ext F F' B H B' H', ⟨n, 0, rfl, Nat.zero_le _, B, F, k, Ext.refl⟩, ?_⟩
    rintro m σ2 H2 ⟨i, rfl, hin, B2, F2, k2, x2⟩
    refine test i hin σ2 B2 H2 F2 k2 _ fun B3 H3 F3 k3 x3 => ?_
    by_cases hlt : i < n
    · rw [decide_eq_true hlt, if_pos rfl]
      refine ⟨fun σ' H' => ∃ B' F', OK c st (Cs (i + 1)) B' H' F' σ' ∧ Ext F F' B H B' H', fun σ' H' z => ⟨n - (i + 1), by omega, i + 1, rfl, hlt, z⟩, ?_⟩
      exact turn i hlt σ2 B3 H3 F3 k3 _ fun σ' B' H' F' k' x' => ⟨B', F', k', (x2.trans x3).trans x'⟩
    · have e : i = n := by omega
      subst e
      rw [decide_eq_false (Nat.lt_irrefl _), if_neg Bool.false_ne_true]
      exact q _ B3 H3 F3 k3 (x2.trans x3)⟩

/-! ### appending to an owned list -/
theorem own_app {B1 H1 : Hp} {F1 Fd Fm : List Addr} {σ : L2.St} {y : V} {q : Addr} {ms : List Mu} {acc : List V} (k : OK c st C B1 H1 F1 σ) (t : OwnL c B1 H1 ms acc Fd) (hD : H1 q = some (.lst acc)) (tm : OwnT c B1 H1 m y Fm)
    (n : (F1 ++ ((q :: Fd) ++ Fm)).Nodup) (o : ∀ a ∈ (q :: Fd) ++ Fm, B1 a = none) :
    OK c st C B1 (upd H1 q (.lst (acc ++ [y]))) F1 σ ∧ OwnT c B1 (upd H1 q (.lst (acc ++ [y]))) (.ls (ms ++ [m])) (.ref q) ((q :: Fd) ++ Fm) ∧ Ext (F1 ++ ((q :: Fd) ++ Fm)) (F1 ++ ((q :: Fd) ++ Fm)) B1 H1 B1 (upd H1 q (.lst (acc ++ [y]))) := by
  obtain ⟨n1, n2, n3⟩ := nd_app n
  have qB : B1 q = none := o q (by simp)
  have qF : q ∉ F1 := fun z => n3 q z (by simp)
  have up : ∀ a, a ≠ q → upd H1 q (.lst (acc ++ [y])) a = H1 a := fun a h => upd_ne h
  have qd : q ∉ Fd ++ Fm := (List.nodup_cons.mp (show (q :: (Fd ++ Fm)).Nodup from n2)).1
  obtain ⟨F0, e, ow⟩ := k.own
  refine ⟨⟨fun a u e => ?_, k.nd, k.out, ⟨F0, e, ow.mono (Same.refl _) fun a ha => up a fun z => qF ?_⟩, fun s t hS => ?_⟩, ⟨q, _, Fd ++ Fm, rfl, rfl, upd_same, ?_⟩, ⟨Same.refl _, fun a u ha e => ?_, fun _ _ _ _ h => h, fun a ha => .inl ha⟩⟩
  · rw [up a (ne_of_none e qB)]; exact k.sub a u e
  · rw [← z, e]; exact List.mem_append_right _ ha
  · rw [up st fun z => qF (by rw [← z, e, hS]; exact List.mem_append_left _ (List.mem_singleton.mpr rfl))]; exact k.stc s t hS
  · refine OwnL.snoc (OwnT.mono (Same.refl _) m y Fm (fun a ha => up a fun z => qd ?_) tm) (OwnL.mono (Same.refl _) ms acc Fd (fun a ha => up a fun z => qd ?_) t)
    · rw [← z]; exact List.mem_append_right _ ha
    · rw [← z]; exact List.mem_append_left _ ha
  · rw [up a fun z => ha (by rw [z]; simp)]; exact e
end
end K48

namespace K48
open PySem PySem.Spec PyProof.Rows L2

/-! ### a comprehension's own slots forgotten -/
def wipeR (ρ : List (Option Sl)) : List Nat → List (Option Sl)
  | [] => ρ
  | v :: vs => (wipeR ρ vs).set v none
def plainSl : Option (Option Sl) → Bool
  | some none => true
  | some (some (.mu (.im _))) => true
  | _ => false
theorem OwnE.wipe1 {c : Cl} {st : Addr} {B H : Hp} : ∀ {ρ : List (Option Sl)} {σ : List (Option V)} {F : List Addr} (i : Nat), plainSl ρ[i]? = true → OwnE c st B H ρ σ F → OwnE c st B H (ρ.set i none) (σ.set i none) F
  | [], _, _, _, p, _ => by simp [plainSl] at p
  | none :: ρ, _ :: σ, F, 0, _, h => h
  | some s :: ρ, some v :: σ, F, 0, p, ⟨F1, F2, e, h, q⟩ => by
    cases s with
    | stt => cases p
    | mu m =>
      cases m with
      | ls l => cases p
      | im d =>
        have : F1 = [] := h.2
        subst this
        cases e
        exact q
  | none :: ρ, _ :: σ, F, i + 1, p, h => OwnE.wipe1 (ρ := ρ) (σ := σ) i (by simpa using p) h
  | some s :: ρ, some v :: σ, F, i + 1, p, ⟨F1, F2, e, h, q⟩ => ⟨F1, F2, e, h, OwnE.wipe1 i (by simpa using p) q⟩
  | none :: _, [], _, _, _, h => h.elim
  | some _ :: _, [], _, _, _, h => h.elim
  | some _ :: _, none :: _, _, _, _, h => h.elim
/-- behind a block: the own slots as they stood ahead of it -/
theorem OwnE.back1 {c : Cl} {st : Addr} {B H B' H' : Hp} (sB : Same B B') : ∀ {ρ : List (Option Sl)} {σ : List (Option V)} {F F' : List Addr} (i : Nat), plainSl ρ[i]? = true → OwnE c st B H ρ σ F → OwnE c st B' H' (ρ.set i none) (σ.set i none) F' → OwnE c st B' H' ρ σ F'
  | [], _, _, _, _, p, _, _ => by simp [plainSl] at p
  | none :: ρ, _ :: σ, F, F', 0, _, h, h' => h'
  | some s :: ρ, some v :: σ, F, F', 0, p, ⟨F1, F2, e, h, q⟩, h' => by
    cases s with
    | stt => cases p
    | mu m =>
      cases m with
      | ls l => cases p
      | im d => exact ⟨[], F', rfl, ⟨Rep.mono sB d v h.1, rfl⟩, h'⟩
  | none :: ρ, _ :: σ, F, F', i + 1, p, h, h' => OwnE.back1 (ρ := ρ) (σ := σ) sB i (by simpa using p) h h'
  | some s :: ρ, some v :: σ, F, F', i + 1, p, ⟨F1, F2, e, h, q⟩, ⟨G1, G2, e', h', q'⟩ => ⟨G1, G2, e', h', OwnE.back1 sB i (by simpa using p) q q'⟩
  | none :: _, [], _, _, _, _, h, _ => h.elim
  | some _ :: _, [], _, _, _, _, h, _ => h.elim
  | some _ :: _, none :: _, _, _, _, _, h, _ => h.elim
theorem plain_set {ρ : List (Option Sl)} {i j : Nat} (p : plainSl ρ[i]? = true) : plainSl (ρ.set j none)[i]? = true := by
  by_cases h : j = i
  · subst h
    by_cases hl : j < ρ.length
    · rw [List.getElem?_set_self hl]; rfl
    · rw [List.set_eq_of_length_le (by omega)]; exact p
  · rw [List.getElem?_set_ne h]; exact p
theorem plain_wipe {ρ : List (Option Sl)} {i : Nat} (p : plainSl ρ[i]? = true) : ∀ vs : List Nat, plainSl (wipeR ρ vs)[i]? = true
  | [] => p
  | v :: vs => plain_set (plain_wipe p vs)
theorem OwnE.wipe {c : Cl} {st : Addr} {B H : Hp} {ρ : List (Option Sl)} {σ : List (Option V)} {F : List Addr} : ∀ {vs : List Nat}, (∀ i ∈ vs, plainSl ρ[i]? = true) → OwnE c st B H ρ σ F → OwnE c st B H (wipeR ρ vs) (L2.wipe σ vs) F
  | [], _, h => h
  | v :: vs, p, h => OwnE.wipe1 v (plain_wipe (p v (by simp)) vs) (OwnE.wipe (fun i hi => p i (by simp [hi])) h)
theorem OwnE.back {c : Cl} {st : Addr} {B H B' H' : Hp} (sB : Same B B') {ρ : List (Option Sl)} {σ : List (Option V)} {F F' : List Addr} : ∀ {vs : List Nat}, (∀ i ∈ vs, plainSl ρ[i]? = true) → OwnE c st B H ρ σ F →
    OwnE c st B' H' (wipeR ρ vs) (L2.wipe σ vs) F' → OwnE c st B' H' ρ σ F'
  | [], _, _, h' => h'
  | v :: vs, p, h, h' => OwnE.back sB (fun i hi => p i (by simp [hi])) h (OwnE.back1 sB v (plain_wipe (p v (by simp)) vs) (OwnE.wipe (fun i hi => p i (by simp [hi])) h) h')

section
variable {X : Cx} {c : Cl} {st : Addr} {C C0 C1 C2 C3 : Cfg} {e a b e2 : Expr} {d d1 d2 d3 : D} {m m1 m2 : Mu} {pos p p2 tpos : Pos} {o : Out} {s : Stmt} {ss : List Stmt} {es elts : List Expr} {ds xs ys l l' : List D} {tg iter : Expr} {kk : Nat}

theorem OK.wipe {B H : Hp} {F : List Addr} {σ : L2.St} {vs : List Nat} (k : OK c st C B H F σ) (pl : ∀ i ∈ vs, plainSl C.ρ[i]? = true) : OK c st ⟨C.S, wipeR C.ρ vs⟩ B H F (L2.wipe σ vs) := by
  obtain ⟨F0, e, q⟩ := k.own
  exact ⟨k.sub, k.nd, k.out, ⟨F0, e, q.wipe pl⟩, k.stc⟩
/-- a comprehension's tests -/
def EvTs (X : Cx) (c : Cl) (st : Addr) (ifs : List Expr) (C : Cfg) (b : Bool) (C' : Cfg) : Prop := ∀ σ B H F, OK c st C B H F σ → ∀ Q : Bool → Hp → Prop,
  (∀ B' H' F', OK c st C' B' H' F' σ → Ext F F' B H B' H' → Q b H') → ∃ t, PTs X ifs t ∧ t σ H Q
theorem evts_nil : EvTs X c st [] C true C := fun σ B H F k Q q => ⟨_, pts_nil, q B H F k Ext.refl⟩
theorem evts_one {t : Bool} (h : EvT X c st e C t C1) : EvTs X c st [e] C t C1 := fun σ B H F k Q q => ⟨_, pts_one (pWT e), h σ B H F k Q q⟩
abbrev Blk (X : Cx) (scope : Scope) (s : Shared) (H : Hp) (D : Addr) (cl : List (Str × Addr)) (fp : List Addr) : Cx := X.blk s H scope (compEnvC scope cl D X.env) fp
/-- what the turns keep -/
def kept (ms : List (Option Mu)) : List Mu := ms.filterMap id
theorem kept_snoc (ms : List (Option Mu)) (o : Option Mu) : kept (ms ++ [o]) = kept ms ++ o.toList := by
  unfold kept
  rw [List.filterMap_append]
  cases o <;> rfl
theorem wipe_get {σ : L2.St} {j : Nat} : ∀ {vs : List Nat}, (L2.wipe σ vs)[j]? = if j ∈ vs then (σ[j]?).map (fun _ => none) else σ[j]?
  | [] => by rw [if_neg (by simp)]; rfl
  | v :: vs => by
    show ((L2.wipe σ vs).set v none)[j]? = _
    by_cases h : v = j
    · subst h
      rw [if_pos (by simp)]
      by_cases hl : v < σ.length
      · rw [List.getElem?_set_self (by rw [L2.wipe_length]; exact hl), List.getElem?_eq_getElem hl]; rfl
      · rw [List.getElem?_eq_none (by rw [List.length_set, L2.wipe_length]; omega), List.getElem?_eq_none (by omega)]; rfl
    · rw [List.getElem?_set_ne h, wipe_get (vs := vs)]
      by_cases hj : j ∈ vs
      · rw [if_pos hj, if_pos (by simp [hj])]
      · rw [if_neg hj, if_neg (by simp [hj, Ne.symm h])]
theorem wipe_fr {σ σ' : L2.St} {ts vs : List Nat} (f : Frx ts (L2.wipe σ vs) σ') (h : ∀ i ∈ ts, i ∈ vs) : L2.wipe σ' vs = L2.wipe σ vs := by
  refine List.ext_getElem? fun j => ?_
  rw [wipe_get, wipe_get]
  have fl : σ'.length = σ.length := by rw [f.1, L2.wipe_length]
  by_cases hj : j ∈ vs
  · rw [if_pos hj, if_pos hj]
    by_cases hl : j < σ.length
    · rw [List.getElem?_eq_getElem hl, List.getElem?_eq_getElem (by omega)]; rfl
    · rw [List.getElem?_eq_none (by omega), List.getElem?_eq_none (by omega)]
  · rw [if_neg hj, if_neg hj, f.2 j fun z => hj (h j z), wipe_get, if_neg hj]
/-- the body of a comprehension over what J walks: the reading tLc's inner part, by the turns -/
theorem lc_turns {scope : Scope} {ifs : List Expr} {elt : Expr} {vs ts : List Nat} (Ss : Nat → Option (Int × Int)) (f : Nat → Option Mu) (Ct Cm : Nat → Cfg) (hl : xs.length ≤ 1000)
    (pl : ∀ i ∈ vs, plainSl C1.ρ[i]? = true) (h0 : Ss 0 = C1.S) (hts : ∀ i ∈ ts, i ∈ vs)
    (turn : ∀ s H D cl fp, ∀ i d, xs[i]? = some d → Tg (Blk X scope s H D cl fp) c st tg ⟨Ss i, wipeR C1.ρ vs⟩ d (Ct i) ts ∧ wipeR (Ct i).ρ vs = wipeR C1.ρ vs ∧ (∀ i' ∈ vs, plainSl (Ct i).ρ[i']? = true) ∧
      ((f i = none ∧ EvTs (Blk X scope s H D cl fp) c st ifs (Ct i) false ⟨Ss (i + 1), (Ct i).ρ⟩) ∨
       (∃ m, f i = some m ∧ EvTs (Blk X scope s H D cl fp) c st ifs (Ct i) true (Cm i) ∧ Ev (Blk X scope s H D cl fp) c st elt (Cm i) m ⟨Ss (i + 1), (Ct i).ρ⟩)))
    {J : It} {σ : L2.St} {B1 H1 : Hp} {F1 : List Addr} (k1 : OK c st C1 B1 H1 F1 σ) (wk : Walk c J B1 xs) {Q : VK}
    (q : ∀ D B' H' F' Fd, OK c st ⟨Ss xs.length, C1.ρ⟩ B' H' F' σ → OwnT c B' H' (.ls (kept ((List.range xs.length).map f))) (.ref D) Fd → (F' ++ Fd).Nodup → (∀ a ∈ Fd, B' a = none) → Ext F1 (F' ++ Fd) B1 H1 B' H' → Q (.ref D) H')
    (g : TG) (hg : g = fun v σ H Q => ∀ s H0 D cl fp, WG (Blk X scope s H0 D cl fp) tg v σ H Q) (tt : TT) (ht : tt = fun σ H Q => ∀ s H0 D cl fp, ∃ t, PTs (Blk X scope s H0 D cl fp) ifs t ∧ t σ H Q)
    (te : TE) (he : te = fun σ H Q => ∀ s H0 D cl fp, WE (Blk X scope s H0 D cl fp) elt σ H Q) :
    ∀ D, H1 D = none → ∃ W : Nat → Nat → Hp → Prop, (∃ m, W 0 m (upd H1 D (.lst []))) ∧ ∀ i m H, W i m H →
      (J.stop i H ∧ Q (.ref D) H) ∨ (J.go i H ∧ ∃ Nx : Hp → Prop, (∀ H', Nx H' → ∃ m', m' < m ∧ W (i + 1) m' H') ∧ ∀ x H', J.yld i H x H' → g x (L2.wipe σ vs) H' fun σ2 H2 => L2.wipe σ2 vs = L2.wipe σ vs ∧ tt σ2 H2 fun b H3 =>
        if b = true then te σ2 H3 fun y H4 => ∃ acc, H4 D = some (.lst acc) ∧ acc.length < sizeLine ∧ Nx (upd H4 D (.lst (acc ++ [y]))) else Nx H3) := by
  subst hg ht he
  intro D hD
  have kw := k1.wipe pl
  refine ⟨fun i m H => m = xs.length - i ∧ i ≤ xs.length ∧ ∃ B' F' Fd, OK c st ⟨Ss i, wipeR C1.ρ vs⟩ B' H F' (L2.wipe σ vs) ∧ OwnT c B' H (.ls (kept ((List.range i).map f))) (.ref D) Fd ∧ (F' ++ Fd).Nodup ∧ (∀ a ∈ Fd, B' a = none) ∧ Ext F1 (F' ++ Fd) B1 H1 B' H, ⟨xs.length, rfl, Nat.zero_le _, ?_⟩, ?_⟩
  · obtain ⟨y1, y2, y3, y4, y5⟩ := own_new (ms := []) (vs := []) (F := F1) (Fm := []) kw ⟨rfl, rfl⟩ (by simpa using kw.nd) (by simp) (by simpa using Ext.refl) hD
    exact ⟨B1, F1, [D], by rw [h0]; exact y1, y2, y3, y4, y5⟩
  · rintro i m H ⟨rfl, hi, B2, F2, Fd, k2, t2, n2, o2, x2⟩
    obtain ⟨wg, ws, wy⟩ := wk B2 H x2.b k2.sub
    by_cases hlt : i < xs.length
    · refine .inr ⟨wg i hlt, fun H => ∃ B' F' Fd, OK c st ⟨Ss (i + 1), wipeR C1.ρ vs⟩ B' H F' (L2.wipe σ vs) ∧ OwnT c B' H (.ls (kept ((List.range (i + 1)).map f))) (.ref D) Fd ∧ (F' ++ Fd).Nodup ∧ (∀ a ∈ Fd, B' a = none) ∧ Ext F1 (F' ++ Fd) B1 H1 B' H, fun H' z => ⟨xs.length - (i + 1), by omega, rfl, hlt, z⟩, fun x H' y => ?_⟩
      obtain ⟨d, hd⟩ : ∃ d, xs[i]? = some d := ⟨_, List.getElem?_eq_getElem hlt⟩
      obtain ⟨B3, s3, x3, r3⟩ := wy i d x H' hd y
      have k3 := k2.grow s3 x3
      have x3' : Ext F2 (F2 ++ []) B2 H B3 H' := by simpa using x3.up
      obtain ⟨t3, o3, n3⟩ := keep2 k2 t2 n2 o2 (by simpa using k2.nd) x3'
      have y3 : Ext F1 (F2 ++ Fd) B1 H1 B3 H' := by simpa using ext2 x2 x3'
      rw [List.append_nil] at n3
      -- the target
      intro s5 H5 D5 cl5 fp5
      refine (turn s5 H5 D5 cl5 fp5 i d hd).1 _ B3 H' F2 x k3 r3 _ fun σ6 B6 H6 F6 k6 x6 f6 => ⟨wipe_fr f6 hts, ?_⟩
      have x6' : Ext F2 (F6 ++ []) B3 H' B6 H6 := by simpa using x6
      obtain ⟨t6, o6, n6⟩ := keep2 k3 t3 n3 o3 (by simpa using k6.nd) x6'
      have y6 : Ext F1 (F6 ++ Fd) B1 H1 B6 H6 := by simpa using ext2 y3 x6'
      rw [List.append_nil] at n6
      have ew := wipe_fr f6 hts
      intro s7 H7 D7 cl7 fp7
      obtain ⟨-, ewR, plC, T⟩ := turn s7 H7 D7 cl7 fp7 i d hd
      rcases T with ⟨ef, T⟩ | ⟨m, ef, T, -⟩
      · refine T σ6 B6 H6 F6 k6 _ fun B8 H8 F8 k8 x8 => ?_
        rw [if_neg Bool.false_ne_true]
        have x8' : Ext F6 (F8 ++ []) B6 H6 B8 H8 := by simpa using x8
        obtain ⟨t8, o8, n8⟩ := keep2 k6 t6 n6 o6 (by simpa using k8.nd) x8'
        have y8 : Ext F1 (F8 ++ Fd) B1 H1 B8 H8 := by simpa using ext2 y6 x8'
        rw [List.append_nil] at n8
        have kf := k8.wipe (vs := vs) plC
        rw [ew] at kf
        refine ⟨B8, F8, Fd, by simpa [ewR] using kf, ?_, n8, o8, y8⟩
        rw [List.range_succ, List.map_append, List.map_singleton, kept_snoc, ef]
        simpa using t8
      · refine T σ6 B6 H6 F6 k6 _ fun B8 H8 F8 k8 x8 => ?_
        rw [if_pos rfl]
        have x8' : Ext F6 (F8 ++ []) B6 H6 B8 H8 := by simpa using x8
        obtain ⟨t8, o8, n8⟩ := keep2 k6 t6 n6 o6 (by simpa using k8.nd) x8'
        have y8 : Ext F1 (F8 ++ Fd) B1 H1 B8 H8 := by simpa using ext2 y6 x8'
        rw [List.append_nil] at n8
        intro s9 H9 D9 cl9 fp9
        obtain ⟨-, -, -, T9⟩ := turn s9 H9 D9 cl9 fp9 i d hd
        rcases T9 with ⟨ef9, _⟩ | ⟨m9, ef9, _, T9⟩
        · rw [ef] at ef9; cases ef9
        obtain rfl : m = m9 := Option.some.inj (ef.symm.trans ef9)
        refine T9 σ6 B8 H8 F8 k8 _ fun v B10 H10 F10 Fm k10 r10 n10 o10 x10 => ?_
        obtain ⟨t10, o10', n10'⟩ := keep2 k8 t8 n8 o8 n10 x10
        have y10 : Ext F1 (F10 ++ (Fd ++ Fm)) B1 H1 B10 H10 := ext2 y8 x10
        obtain ⟨aD, acc, Fa, eD, eF, hacc, oacc⟩ := t10
        cases eD; subst eF
        refine ⟨acc, hacc, ?_, ?_⟩
        · have h1 : (kept ((List.range i).map f)).length ≤ i := by
            unfold kept
            refine Nat.le_trans (List.length_filterMap_le _ _) ?_
            simp
          rw [oacc.len, sizeLine_eq]; omega
        · obtain ⟨z1, z2, z3⟩ := own_app k10 oacc hacc r10 n10' (fun a ha => by
            rcases List.mem_append.mp ha with h | h
            · exact o10' a h
            · exact o10 a h)
          have kf := z1.wipe (vs := vs) plC
          rw [ew] at kf
          refine ⟨B10, F10, _, by simpa [ewR] using kf, ?_, n10', fun a ha => ?_, y10.trans z3⟩
          · rw [List.range_succ, List.map_append, List.map_singleton, kept_snoc, ef]
            exact z2
          · rcases List.mem_append.mp ha with h | h
            · exact o10' a h
            · exact o10 a h
    · have e : i = xs.length := by omega
      subst e
      refine .inl ⟨ws _ (Nat.le_refl _), q D B2 H F2 Fd ?_ t2 n2 o2 x2⟩
      obtain ⟨F0, e0, w0⟩ := k1.own
      obtain ⟨G0, e1, w1⟩ := k2.own
      exact ⟨k2.sub, k2.nd, k2.out, ⟨G0, e1, OwnE.back x2.b pl w0 w1⟩, k2.stc⟩
/-- [elt for tg in iter if ..], as a value -/
theorem ev_lc {scope : Scope} {ifs : List Expr} {elt : Expr} {own : List (Str × Nat)} {ts : List Nat} (Ss : Nat → Option (Int × Int)) (f : Nat → Option Mu) (Ct Cm : Nat → Cfg) (hN : X.N.Nodup) (hi : Iter X c st tg iter C xs C1) (ok : BlkOk X.N X.env.scope scope own) (hl : xs.length ≤ 1000)
    (pl : ∀ i ∈ own.map (·.2), plainSl C1.ρ[i]? = true) (h0 : Ss 0 = C1.S) (hts : ∀ i ∈ ts, i ∈ own.map (·.2))
    (turn : ∀ s H D cl fp, ∀ i d, xs[i]? = some d → Tg (Blk X scope s H D cl fp) c st tg ⟨Ss i, wipeR C1.ρ (own.map (·.2))⟩ d (Ct i) ts ∧ wipeR (Ct i).ρ (own.map (·.2)) = wipeR C1.ρ (own.map (·.2)) ∧ (∀ i' ∈ own.map (·.2), plainSl (Ct i).ρ[i']? = true) ∧
      ((f i = none ∧ EvTs (Blk X scope s H D cl fp) c st ifs (Ct i) false ⟨Ss (i + 1), (Ct i).ρ⟩) ∨
       (∃ m, f i = some m ∧ EvTs (Blk X scope s H D cl fp) c st ifs (Ct i) true (Cm i) ∧ Ev (Blk X scope s H D cl fp) c st elt (Cm i) m ⟨Ss (i + 1), (Ct i).ρ⟩)))
    (hc : X.calm = true := by rfl) (hs : ∀ x, foldedSetIterable iter X.env x = pure x := by intro _; rfl) :
    Ev X c st (.ListComp elt [⟨tg, iter, ifs, 0⟩] scope pos) C (.ls (kept ((List.range xs.length).map f))) ⟨Ss xs.length, C1.ρ⟩ := fun σ B H F k Q q =>
  ⟨_, pe_lc (own := own) (g := fun v σ H Q => ∀ s H0 D cl fp, WG (Blk X scope s H0 D cl fp) tg v σ H Q) (tt := fun σ H Q => ∀ s H0 D cl fp, ∃ t, PTs (Blk X scope s H0 D cl fp) ifs t ∧ t σ H Q) (te := fun σ H Q => ∀ s H0 D cl fp, WE (Blk X scope s H0 D cl fp) elt σ H Q)
    hc hN (pWI tg iter) ok (fun s H0 D cl fp => ⟨fun pins s' σ H v u Q I r h => (pWG tg).run pins s' σ H v u Q I r (h s H0 D cl fp)⟩)
    (fun s H0 D cl fp => ⟨fun pins s' σ H Q I h => let ⟨t, h1, h2⟩ := h s H0 D cl fp; h1.run pins s' σ H Q I h2⟩)
    (fun s H0 D cl fp => ⟨fun pins s' σ H Q I h => (pWE elt).run pins s' σ H Q I (h s H0 D cl fp)⟩) hs, hi σ B H F k _ fun J B1 H1 F1 k1 x1 wk =>
      lc_turns Ss f Ct Cm hl pl h0 hts turn k1 wk (fun D B' H' F' Fd k' t n o x => q (.ref D) B' H' F' Fd k' t n o (x1.trans x)) _ rfl _ rfl _ rfl⟩
end
end K48

namespace K48
open PySem PySem.Spec PyProof.Rows L2

/-- classes that isinstance asks for -/
inductive Cn where
  | int | bool | tuple | list | str | rat
def Cn.v (c : Cl) : Cn → Value
  | .int => .type "int" | .bool => .type "bool" | .tuple => .type "tuple" | .list => .type "list" | .str => .type "str" | .rat => .ref c.R
def Cn.cv (c : Cl) : Cn → V
  | .int => .ty "int" | .bool => .ty "bool" | .tuple => .ty "tuple" | .list => .ty "list" | .str => .ty "str" | .rat => .ref c.R
theorem Cn.cls (c : Cl) (n : Cn) : ClsV (n.cv c) (n.v c) := by
  cases n with
  | rat => exact .own _
  | _ => exact .ty _
theorem Cn.rel (c : Cl) (n : Cn) : RelV (n.cv c) (n.v c) := by cases n <;> rfl
def isD : D → Cn → Bool
  | .bl _, .bool => true | .bl _, .int => true | .int _, .int => true | .tup _, .tuple => true | .lst _, .list => true | .str _, .str => true | .rat _, .rat => true
  | _, _ => false
def tyD (c : Cl) : D → Value
  | .non => .type "NoneType" | .bl _ => .type "bool" | .int _ => .type "int" | .str _ => .type "str" | .rat _ => .ref c.R | .tup _ => .type "tuple" | .lst _ => .type "list" | .met _ _ => .ref c.M
def D.noM : D → Bool
  | .met _ _ => false
  | _ => true
/-- what stands behind the top -/
structure Fx (K : PySem.W.Frag) (mg : Str → Option Value) (c : Cl) : Prop where
  gR : mg "Ratio" = some (.ref c.R)
  gM : mg "Metric" = some (.ref c.M)
  cR : Cls K c.R
  cM : Cls K c.M
  nRn : NoAttr K c.R "n"
  nRd : NoAttr K c.R "d"
  nMn : NoAttr K c.M "n"
  nMr : NoAttr K c.M "rows"
  sf : PySem.W.selfFirst K c.R = true
  nf : PySem.W.notFirst K c.R (.ref c.R) = true
  nfs : PySem.W.notFirst K c.R (.type "str") = true
  isi : SlX.SIsi K c.R
  kRR : PySem.W.kitOne K (.ref c.R) (.ref c.R) = some true
  kR : ∀ n : Cn, n ≠ .rat → PySem.W.kitOne K (.ref c.R) (n.v c) = some false
  kt : ∀ t ∈ ["NoneType", "bool", "int", "str", "tuple", "list"], PySem.W.kitOne K (.type t) (.ref c.R) = some false
  len : mg "len" = none
  range : mg "range" = none
  isinstance : mg "isinstance" = none
  tuple : mg "tuple" = none
  list : mg "list" = none
  int : mg "int" = none
  bool : mg "bool" = none
  str : mg "str" = none
  abs : mg "abs" = none
  min : mg "min" = none
  sum : mg "sum" = none
  zip : mg "zip" = none
  sorted : mg "sorted" = none
  gcd : mg "gcd" = some (.builtin "math.gcd")
  lcm : mg "lcm" = some (.builtin "math.lcm")
theorem Fx.kit {K : PySem.W.Frag} {mg : Str → Option Value} {c : Cl} (T : Fx K mg c) (d : D) (n : Cn) (h : d.noM = true) : PySem.W.kitOne K (tyD c d) (n.v c) = some (isD d n) := by
  cases d with
  | met _ _ => cases h
  | rat q =>
    cases n with
    | rat => exact T.kRR
    | _ => exact T.kR _ (by intro z; cases z)
  | non => cases n with
    | rat => exact T.kt _ (by simp)
    | _ => exact kit_ty (by first | (show kitB _ _ = some true; decide +kernel) | (show kitB _ _ = some false; decide +kernel))
  | bl b => cases n with
    | rat => exact T.kt _ (by simp)
    | _ => exact kit_ty (by first | (show kitB _ _ = some true; decide +kernel) | (show kitB _ _ = some false; decide +kernel))
  | int b => cases n with
    | rat => exact T.kt _ (by simp)
    | _ => exact kit_ty (by first | (show kitB _ _ = some true; decide +kernel) | (show kitB _ _ = some false; decide +kernel))
  | str b => cases n with
    | rat => exact T.kt _ (by simp)
    | _ => exact kit_ty (by first | (show kitB _ _ = some true; decide +kernel) | (show kitB _ _ = some false; decide +kernel))
  | tup b => cases n with
    | rat => exact T.kt _ (by simp)
    | _ => exact kit_ty (by first | (show kitB _ _ = some true; decide +kernel) | (show kitB _ _ = some false; decide +kernel))
  | lst b => cases n with
    | rat => exact T.kt _ (by simp)
    | _ => exact kit_ty (by first | (show kitB _ _ = some true; decide +kernel) | (show kitB _ _ = some false; decide +kernel))
theorem Fx.ty {K : PySem.W.Frag} {mg : Str → Option Value} {c : Cl} (T : Fx K mg c) {B H : Hp} (s : Same B H) {d : D} {v : V} (r : Rep c B d v) (h : d.noM = true) : TyX K H v (tyD c d) := by
  cases d with
  | met _ _ => cases h
  | rat q => obtain ⟨a, dx, rfl, e⟩ := r; exact .base (.ins (s _ _ e) T.cR T.isi.ca T.isi.cn T.isi.ct T.isi.cm)
  | non => cases (show v = _ from r); exact .base .non
  | bl b => cases (show v = _ from r); exact .base (.bl b)
  | int b => cases (show v = _ from r); exact .base (.int b)
  | str b => cases (show v = _ from r); exact .base (.str b)
  | tup b => obtain ⟨a, vs, rfl, e, _⟩ := r; exact .base (.tup (s _ _ e))
  | lst b => obtain ⟨a, vs, rfl, e, _⟩ := r; exact .base (.lst (s _ _ e))

/-! ### places -/
theorem atI_rep {c : Cl} {B : Hp} {l : List D} {vs : List V} {i : Int} {d : D} (r : RepL c B l vs) (h : atI l i = some d) : ∃ v, atI vs i = some v ∧ Rep c B d v := by
  unfold atI at h ⊢
  rw [r.len]
  cases e : ixN l.length i with
  | none => rw [e] at h; cases h
  | some j =>
    rw [e] at h
    exact r.get h
def ixD : D → Int → Option D
  | .lst l, i => atI l i
  | .tup l, i => atI l i
  | _, _ => none

section
variable {X : Cx} {c : Cl} {st : Addr} {C C0 C1 C2 C3 : Cfg} {e a b e2 : Expr} {d d1 d2 d3 : D} {m m1 m2 : Mu} {pos p p2 tpos apos : Pos} {o : Out} {s : Stmt} {ss : List Stmt} {es elts : List Expr} {ds xs ys l l' : List D} {x : Str} {i j : Int}

/-! ### calls of built-ins -/
theorem ev_callB {id : String} {r : List V → Hp → VK → Prop} (hc : CallR X (.builtin id) r) (hp : Op c ds d r) (hm : X.mg x = none) (hv : bootBuiltins x = some (.builtin id)) (ha : EvA X c st (e :: es) C (ds.map Mu.im) C1) (hg : Gl X x := by rfl) (hn : x ≠ "__name__" := by decide) (hdb : (x == ("__debug__" : Str)) = false := by decide)
    (he : starEach (e :: es) X.env = (false, eval e X.env) :: starEach es X.env := by rfl) (hpl : (backTo pos (starEach es X.env)).any (·.1) = false := by rfl) : Ev X c st (.Call (.Name x p) (e :: es) [] pos) C (.im d) C1 := evI fun σ B H F k Q q =>
  ⟨_, pe_callB hc hg hm hv (pWA _) hn hdb he hpl, ha.I k fun vs B1 H1 F1 k1 r x1 => hp B1 H1 vs k1.sub r Q fun v B2 H2 s2 x2 r2 => q v B2 H2 F1 (k1.grow s2 x2) r2 (x1.trans x2.up)⟩
theorem ev_callTy {T : String} {r : List V → Hp → VK → Prop} (hc : CallR X (.type T) r) (hp : Op c ds d r) (hm : X.mg x = none) (hv : bootBuiltins x = some (.type T)) (ha : EvA X c st (e :: es) C (ds.map Mu.im) C1) (hg : Gl X x := by rfl) (hn : x ≠ "__name__" := by decide) (hdb : (x == ("__debug__" : Str)) = false := by decide)
    (he : starEach (e :: es) X.env = (false, eval e X.env) :: starEach es X.env := by rfl) (hpl : (backTo pos (starEach es X.env)).any (·.1) = false := by rfl) : Ev X c st (.Call (.Name x p) (e :: es) [] pos) C (.im d) C1 := evI fun σ B H F k Q q =>
  ⟨_, pe_callTy hc hg hm hv (pWA _) hn hdb he hpl, ha.I k fun vs B1 H1 F1 k1 r x1 => hp B1 H1 vs k1.sub r Q fun v B2 H2 s2 x2 r2 => q v B2 H2 F1 (k1.grow s2 x2) r2 (x1.trans x2.up)⟩
theorem ev_callF {id : String} {r : List V → Hp → VK → Prop} (hc : CallR X (.builtin id) r) (hp : Op c ds d r) (hm : X.mg x = some (.builtin id)) (ha : EvA X c st (e :: es) C (ds.map Mu.im) C1) (hg : Gl X x := by rfl) (hdb : (x == ("__debug__" : Str)) = false := by decide)
    (he : starEach (e :: es) X.env = (false, eval e X.env) :: starEach es X.env := by rfl) (hpl : (backTo pos (starEach es X.env)).any (·.1) = false := by rfl) : Ev X c st (.Call (.Name x p) (e :: es) [] pos) C (.im d) C1 := evI fun σ B H F k Q q =>
  ⟨_, pe_callBfun hc hg hm (pWA _) hdb he hpl, ha.I k fun vs B1 H1 F1 k1 r x1 => hp B1 H1 vs k1.sub r Q fun v B2 H2 s2 x2 r2 => q v B2 H2 F1 (k1.grow s2 x2) r2 (x1.trans x2.up)⟩
/-- r makes a new list -/
def OpN (c : Cl) (ds : List D) (l : List D) (r : List V → Hp → VK → Prop) : Prop := ∀ B H vs, Same B H → RepL c B ds vs → ∀ Q : VK, (∀ p xs, H p = none → RepL c B l xs → Q (.ref p) (upd H p (.lst xs))) → r vs H Q
theorem ev_newList {B H B1 H1 : Hp} {F F1 : List Addr} {σ : L2.St} {xs : List V} {q : Addr} {Q : VK} (k1 : OK c st C1 B1 H1 F1 σ) (x1 : Ext F F1 B H B1 H1) (r : RepL c B1 l xs) (hq : H1 q = none)
    (h : PostE c st C1 (.ls (l.map Mu.im)) σ F B H Q) : Q (.ref q) (upd H1 q (.lst xs)) := by
  obtain ⟨y1, y2, y3, y4, y5⟩ := own_new (Fm := []) k1 (OwnL.ofIms (H := H1) r) (by simpa using k1.nd) (by simp) (by simpa using x1) hq
  exact h (.ref q) B1 _ F1 [q] y1 y2 y3 y4 y5
theorem ev_callTyN {T : String} {r : List V → Hp → VK → Prop} (hc : CallR X (.type T) r) (hp : OpN c ds l r) (hm : X.mg x = none) (hv : bootBuiltins x = some (.type T)) (ha : EvA X c st (e :: es) C (ds.map Mu.im) C1) (hg : Gl X x := by rfl) (hn : x ≠ "__name__" := by decide) (hdb : (x == ("__debug__" : Str)) = false := by decide)
    (he : starEach (e :: es) X.env = (false, eval e X.env) :: starEach es X.env := by rfl) (hpl : (backTo pos (starEach es X.env)).any (·.1) = false := by rfl) : Ev X c st (.Call (.Name x p) (e :: es) [] pos) C (.ls (l.map Mu.im)) C1 := fun σ B H F k Q q =>
  ⟨_, pe_callTy hc hg hm hv (pWA _) hn hdb he hpl, ha.I k fun vs B1 H1 F1 k1 r x1 => hp B1 H1 vs k1.sub r Q fun p xs hp rx => ev_newList k1 x1 rx hp q⟩
/-- len -/
def lenD : D → Option Nat
  | .lst l => some l.length
  | .tup l => some l.length
  | _ => none
theorem op_len {n : Nat} (h : lenD d = some n) : Op c [d] (.int n) (fun xs H Q => ∃ x n, xs = [x] ∧ LenV X.K x H n ∧ Q (.int n) H) := fun B H vs s r Q k => by
  obtain ⟨v, r1, e1, h1, e2⟩ := r
  cases (show r1 = [] from e2)
  cases d with
  | lst l =>
    cases h
    obtain ⟨q, ws, rfl, hB, rl⟩ := h1
    exact ⟨_, l.length, e1, .inl ⟨ws, SqL.of (s _ _ hB), rl.len.symm⟩, k _ B H s Ext.refl rfl⟩
  | tup l =>
    cases h
    obtain ⟨q, ws, rfl, hB, rl⟩ := h1
    exact ⟨_, l.length, e1, .inr ⟨ws, SqT.of (s _ _ hB), rl.len.symm⟩, k _ B H s Ext.refl rfl⟩
  | _ => cases h
theorem ev_len {n : Nat} (hm : X.mg "len" = none) (h : lenD d = some n) (ha : Ev X c st a C (.im d) C1) (hg : Gl X "len" := by rfl) (he : starEach [a] X.env = (false, eval a X.env) :: starEach [] X.env := by rfl) : Ev X c st (.Call (.Name "len" p) [a] [] pos) C (.im (.int n)) C1 :=
  ev_callB (ds := [d]) call_len (op_len h) hm PySem.boot_len (eva_cons ha eva_nil he) hg (by decide) (by decide) he rfl
theorem op_int1 : Op c [.int i] (.int i) (fun xs H Q => (∃ i, xs = [.int i] ∧ Q (.int i) H) ∨ ∃ k, xs = [.bl k] ∧ Q (.int (if k then 1 else 0)) H) := fun B H vs s ⟨v, r1, e1, h1, e2⟩ Q k => by
  cases (show r1 = [] from e2); cases (show v = _ from h1)
  exact .inl ⟨i, e1, k _ B H s Ext.refl rfl⟩
theorem op_intB {t : Bool} : Op c [.bl t] (.int (if t then 1 else 0)) (fun xs H Q => (∃ i, xs = [.int i] ∧ Q (.int i) H) ∨ ∃ k, xs = [.bl k] ∧ Q (.int (if k then 1 else 0)) H) := fun B H vs s ⟨v, r1, e1, h1, e2⟩ Q k => by
  cases (show r1 = [] from e2); cases (show v = _ from h1)
  exact .inr ⟨t, e1, k _ B H s Ext.refl rfl⟩
theorem ev_int1 (hm : X.mg "int" = none) (ha : Ev X c st a C (.im (.int i)) C1) (hg : Gl X "int" := by rfl) (he : starEach [a] X.env = (false, eval a X.env) :: starEach [] X.env := by rfl) : Ev X c st (.Call (.Name "int" p) [a] [] pos) C (.im (.int i)) C1 :=
  ev_callTy (ds := [.int i]) call_int1 op_int1 hm boot_int (eva_cons ha eva_nil he) hg (by decide) (by decide) he rfl
theorem ev_intB {t : Bool} (hm : X.mg "int" = none) (ha : Ev X c st a C (.im (.bl t)) C1) (hg : Gl X "int" := by rfl) (he : starEach [a] X.env = (false, eval a X.env) :: starEach [] X.env := by rfl) : Ev X c st (.Call (.Name "int" p) [a] [] pos) C (.im (.int (if t then 1 else 0))) C1 :=
  ev_callTy (ds := [.bl t]) call_int1 op_intB hm boot_int (eva_cons ha eva_nil he) hg (by decide) (by decide) he rfl
theorem op_abs1 : Op c [.int i] (.int (if i < 0 then -i else i)) (fun xs H Q => ∃ i, xs = [.int i] ∧ Q (.int (if i < 0 then -i else i)) H) := fun B H vs s ⟨v, r1, e1, h1, e2⟩ Q k => by
  cases (show r1 = [] from e2); cases (show v = _ from h1)
  exact ⟨i, e1, k _ B H s Ext.refl rfl⟩
theorem ev_abs (hm : X.mg "abs" = none) (ha : Ev X c st a C (.im (.int i)) C1) (hg : Gl X "abs" := by rfl) (he : starEach [a] X.env = (false, eval a X.env) :: starEach [] X.env := by rfl) : Ev X c st (.Call (.Name "abs" p) [a] [] pos) C (.im (.int (if i < 0 then -i else i))) C1 :=
  ev_callB (ds := [.int i]) call_abs op_abs1 hm boot_abs (eva_cons ha eva_nil he) hg (by decide) (by decide) he rfl
theorem op_min2 : Op c [.int i, .int j] (.int (if j < i then j else i)) (fun xs H Q => ∃ i j, xs = [.int i, .int j] ∧ Q (.int (if j < i then j else i)) H) := fun B H vs s ⟨v, r1, e1, h1, w, r2, e2, h2, e3⟩ Q k => by
  cases (show r2 = [] from e3); cases (show v = _ from h1); cases (show w = _ from h2); cases e2
  exact ⟨i, j, e1, k _ B H s Ext.refl rfl⟩
theorem ev_min (hm : X.mg "min" = none) (ha : EvA X c st [a, b] C [.im (.int i), .im (.int j)] C1) (hc : X.calm = true := by rfl) (hg : Gl X "min" := by rfl) (he : starEach [a, b] X.env = (false, eval a X.env) :: starEach [b] X.env := by rfl) (hpl : (backTo pos (starEach [b] X.env)).any (·.1) = false := by rfl) :
    Ev X c st (.Call (.Name "min" p) [a, b] [] pos) C (.im (.int (if j < i then j else i))) C1 :=
  ev_callB (ds := [.int i, .int j]) (call_min2 hc) op_min2 hm (by decide +kernel) ha hg (by decide) (by decide) he hpl
theorem op_gcd : Op c [.int i, .int j] (.int ((Nat.gcd i.natAbs j.natAbs : Nat) : Int)) rGcd := fun B H vs s ⟨v, r1, e1, h1, w, r2, e2, h2, e3⟩ Q k => by
  cases (show r2 = [] from e3); cases (show v = _ from h1); cases (show w = _ from h2); cases e2
  exact ⟨i, j, e1, k _ B H s Ext.refl rfl⟩
theorem ev_gcd (hm : X.mg "gcd" = some (.builtin "math.gcd")) (ha : EvA X c st [a, b] C [.im (.int i), .im (.int j)] C1) (hg : Gl X "gcd" := by rfl) (he : starEach [a, b] X.env = (false, eval a X.env) :: starEach [b] X.env := by rfl) (hpl : (backTo pos (starEach [b] X.env)).any (·.1) = false := by rfl) :
    Ev X c st (.Call (.Name "gcd" p) [a, b] [] pos) C (.im (.int ((Nat.gcd i.natAbs j.natAbs : Nat) : Int))) C1 :=
  ev_callF (ds := [.int i, .int j]) cr_gcd op_gcd hm ha hg (by decide) he hpl
def rLcm : List V → Hp → VK → Prop := fun vs H Q => ∃ a b : Int, vs = [.int a, .int b] ∧ (a.natAbs < 2 ^ 64 ∧ b.natAbs < 2 ^ 64) ∧ Q (.int (((Nat.lcm 1 a.natAbs).lcm b.natAbs : Nat) : Int)) H
theorem cr_lcm : CallR X (.builtin "math.lcm") rLcm := by
  intro pins s σ H vs us Q I r h
  obtain ⟨a, b, rfl, ⟨ha, hb⟩, q⟩ := h
  obtain ⟨t, u, rfl⟩ := Vals.int2 r
  refine PySem.W.mg_lcm ha hb ?_ ⟨.int _, H, I.tok _, ⟨_, rfl⟩, q⟩
  have h1 : (Nat.lcm 1 a.natAbs).lcm b.natAbs ≤ a.natAbs * b.natAbs := by
    rw [show Nat.lcm 1 a.natAbs = a.natAbs by simp [Nat.lcm]]
    unfold Nat.lcm
    exact Nat.div_le_self _ _
  have h2 : a.natAbs * b.natAbs < 2 ^ 128 := by
    have := Nat.mul_lt_mul'' ha hb
    rw [← Nat.pow_add] at this
    exact this
  have h3 := PySem.Flt.log2_lt_of (k := 128) (by decide) (Nat.lt_of_le_of_lt h1 h2)
  have h4 : bitsLine = 134217728 := by decide
  show ((((Nat.lcm 1 a.natAbs).lcm b.natAbs : Nat) : Int)).natAbs.log2 < bitsLine
  rw [Int.natAbs_natCast, h4]
  omega
theorem op_lcm (h : i.natAbs < 2 ^ 64 ∧ j.natAbs < 2 ^ 64) : Op c [.int i, .int j] (.int (((Nat.lcm 1 i.natAbs).lcm j.natAbs : Nat) : Int)) rLcm := fun B H vs s ⟨v, r1, e1, h1, w, r2, e2, h2, e3⟩ Q k => by
  cases (show r2 = [] from e3); cases (show v = _ from h1); cases (show w = _ from h2); cases e2
  exact ⟨i, j, e1, h, k _ B H s Ext.refl rfl⟩
theorem ev_lcm (hm : X.mg "lcm" = some (.builtin "math.lcm")) (h : i.natAbs < 2 ^ 64 ∧ j.natAbs < 2 ^ 64) (ha : EvA X c st [a, b] C [.im (.int i), .im (.int j)] C1) (hg : Gl X "lcm" := by rfl) (he : starEach [a, b] X.env = (false, eval a X.env) :: starEach [b] X.env := by rfl) (hpl : (backTo pos (starEach [b] X.env)).any (·.1) = false := by rfl) :
    Ev X c st (.Call (.Name "lcm" p) [a, b] [] pos) C (.im (.int (((Nat.lcm 1 i.natAbs).lcm j.natAbs : Nat) : Int))) C1 :=
  ev_callF (ds := [.int i, .int j]) cr_lcm (op_lcm h) hm ha hg (by decide) he hpl
/-- tuple(xs), list(xs), sum(xs) -/
theorem op_tupleOf (h : d = .lst l ∨ d = .tup l) : Op c [d] (.tup l) (fun xs H Q => ∃ p ys, xs = [.ref p] ∧ ((SqL X.K H p ys ∧ ∀ l, H l = none → Q (.ref l) (upd H l (.tup ys))) ∨ (SqT X.K H p ys ∧ Q (.ref p) H))) := fun B H vs s ⟨v, r1, e1, h1, e2⟩ Q k => by
  cases (show r1 = [] from e2)
  rcases h with rfl | rfl
  · obtain ⟨q, ws, rfl, hB, rl⟩ := h1
    refine ⟨q, ws, e1, .inl ⟨SqL.of (s _ _ hB), fun p hp => ?_⟩⟩
    obtain ⟨s2, x2⟩ := ext_new (o := .tup ws) s hp
    exact k _ _ _ s2 x2 ⟨p, ws, rfl, upd_same, RepL.mono x2.b _ _ rl⟩
  · obtain ⟨q, ws, rfl, hB, rl⟩ := h1
    exact ⟨q, ws, e1, .inr ⟨SqT.of (s _ _ hB), k _ B H s Ext.refl ⟨q, ws, rfl, hB, rl⟩⟩⟩
theorem ev_tupleOf (hm : X.mg "tuple" = none) (h : d = .lst l ∨ d = .tup l) (ha : Ev X c st a C (.im d) C1) (hg : Gl X "tuple" := by rfl) (he : starEach [a] X.env = (false, eval a X.env) :: starEach [] X.env := by rfl) : Ev X c st (.Call (.Name "tuple" p) [a] [] pos) C (.im (.tup l)) C1 :=
  ev_callTy (ds := [d]) call_tuple_of (op_tupleOf h) hm boot_tuple (eva_cons ha eva_nil he) hg (by decide) (by decide) he rfl
theorem op_listOf (h : d = .lst l ∨ d = .tup l) : OpN c [d] l (fun xs H Q => ∃ p ys, xs = [.ref p] ∧ (SqL X.K H p ys ∨ SqT X.K H p ys) ∧ ∀ l, H l = none → Q (.ref l) (upd H l (.lst ys))) := fun B H vs s ⟨v, r1, e1, h1, e2⟩ Q k => by
  cases (show r1 = [] from e2)
  rcases h with rfl | rfl
  · obtain ⟨q, ws, rfl, hB, rl⟩ := h1
    exact ⟨q, ws, e1, .inl (SqL.of (s _ _ hB)), fun p hp => k p ws hp rl⟩
  · obtain ⟨q, ws, rfl, hB, rl⟩ := h1
    exact ⟨q, ws, e1, .inr (SqT.of (s _ _ hB)), fun p hp => k p ws hp rl⟩
theorem ev_listOf (hm : X.mg "list" = none) (h : d = .lst l ∨ d = .tup l) (ha : Ev X c st a C (.im d) C1) (hg : Gl X "list" := by rfl) (he : starEach [a] X.env = (false, eval a X.env) :: starEach [] X.env := by rfl) : Ev X c st (.Call (.Name "list" p) [a] [] pos) C (.ls (l.map Mu.im)) C1 :=
  ev_callTyN (ds := [d]) call_list_of (op_listOf h) hm boot_list (eva_cons ha eva_nil he) hg (by decide) (by decide) he rfl
theorem op_sum {ns : List Int} : Op c [.lst (ns.map D.int)] (.int ns.sum) (rSum X.K) := fun B H vs s ⟨v, r1, e1, h1, e2⟩ Q k => by
  cases (show r1 = [] from e2)
  obtain ⟨q, ws, rfl, hB, rl⟩ := h1
  exact ⟨q, ns, e1, by rw [← RepL.ints rl]; exact SqL.of (s _ _ hB), k _ B H s Ext.refl rfl⟩
theorem ev_sum {ns : List Int} (hm : X.mg "sum" = none) (ha : Ev X c st a C (.im (.lst (ns.map D.int))) C1) (hc : X.calm = true := by rfl) (hg : Gl X "sum" := by rfl) (he : starEach [a] X.env = (false, eval a X.env) :: starEach [] X.env := by rfl) : Ev X c st (.Call (.Name "sum" p) [a] [] pos) C (.im (.int ns.sum)) C1 :=
  ev_callB (ds := [.lst (ns.map D.int)]) (cr_sum hc) op_sum hm (by decide +kernel) (eva_cons ha eva_nil he) hg (by decide) (by decide) he rfl

/-! ### isinstance -/
theorem ev_isiG (T : Fx X.K X.mg c) (n : Cn) (hd : d.noM = true) (ha : Ev X c st a C (.im d) C1) (hn : PE X b (tC (n.cv c))) (hg : Gl X "isinstance" := by rfl) (he : starEach [a, b] X.env = (false, eval a X.env) :: starEach [b] X.env := by rfl) (he2 : starEach [b] X.env = (false, eval b X.env) :: starEach [] X.env := by rfl) (hpl : (backTo pos (starEach [b] X.env)).any (·.1) = false := by rfl) :
    Ev X c st (.Call (.Name "isinstance" p) [a, b] [] pos) C (.im (.bl (isD d n))) C1 := evI fun σ B H F k Q q =>
  ⟨_, pe_callB call_isi hg T.isinstance boot_isinstance (pa_cons (pWE a) (pa_cons hn pa_nil he2) he) (by decide) (by decide) he hpl, ha.I k fun v B1 H1 F1 k1 r x1 =>
    ⟨v, n.cv c, tyD c d, n.v c, isD d n, rfl, n.cls c, T.ty k1.sub r hd, T.kit d n hd, q _ B1 H1 F1 k1 rfl x1⟩⟩
theorem ev_isInt (T : Fx X.K X.mg c) (hd : d.noM = true) (ha : Ev X c st a C (.im d) C1) (hg : Gl X "isinstance" := by rfl) (hg2 : Gl X "int" := by rfl) (he : starEach [a, .Name "int" p2] X.env = (false, eval a X.env) :: starEach [.Name "int" p2] X.env := by rfl) (hpl : (backTo pos (starEach [.Name "int" p2] X.env)).any (·.1) = false := by rfl) : Ev X c st (.Call (.Name "isinstance" p) [a, .Name "int" p2] [] pos) C (.im (.bl (isD d .int))) C1 :=
  ev_isiG T .int hd ha (pe_bltn hg2 T.int boot_int rfl) hg he rfl hpl
theorem ev_isBool (T : Fx X.K X.mg c) (hd : d.noM = true) (ha : Ev X c st a C (.im d) C1) (hg : Gl X "isinstance" := by rfl) (hg2 : Gl X "bool" := by rfl) (he : starEach [a, .Name "bool" p2] X.env = (false, eval a X.env) :: starEach [.Name "bool" p2] X.env := by rfl) (hpl : (backTo pos (starEach [.Name "bool" p2] X.env)).any (·.1) = false := by rfl) : Ev X c st (.Call (.Name "isinstance" p) [a, .Name "bool" p2] [] pos) C (.im (.bl (isD d .bool))) C1 :=
  ev_isiG T .bool hd ha (pe_bltn hg2 T.bool boot_bool rfl) hg he rfl hpl
theorem ev_isTup (T : Fx X.K X.mg c) (hd : d.noM = true) (ha : Ev X c st a C (.im d) C1) (hg : Gl X "isinstance" := by rfl) (hg2 : Gl X "tuple" := by rfl) (he : starEach [a, .Name "tuple" p2] X.env = (false, eval a X.env) :: starEach [.Name "tuple" p2] X.env := by rfl) (hpl : (backTo pos (starEach [.Name "tuple" p2] X.env)).any (·.1) = false := by rfl) : Ev X c st (.Call (.Name "isinstance" p) [a, .Name "tuple" p2] [] pos) C (.im (.bl (isD d .tuple))) C1 :=
  ev_isiG T .tuple hd ha (pe_bltn hg2 T.tuple boot_tuple rfl) hg he rfl hpl
theorem ev_isRat (T : Fx X.K X.mg c) (hd : d.noM = true) (ha : Ev X c st a C (.im d) C1) (hg : Gl X "isinstance" := by rfl) (hg2 : Gl X "Ratio" := by rfl) (he : starEach [a, .Name "Ratio" p2] X.env = (false, eval a X.env) :: starEach [.Name "Ratio" p2] X.env := by rfl) (hpl : (backTo pos (starEach [.Name "Ratio" p2] X.env)).any (·.1) = false := by rfl) : Ev X c st (.Call (.Name "isinstance" p) [a, .Name "Ratio" p2] [] pos) C (.im (.bl (isD d .rat))) C1 :=
  ev_isiG T .rat hd ha (pe_glob hg2 T.gR rfl) hg he rfl hpl
/-- isinstance(x, (list, tuple)) of a list or a tuple -/
theorem ev_isLT (T : Fx X.K X.mg c) {k2 : Nat} {q1 q2 q3 : Pos} (h : isD d .list = true ∨ isD d .tuple = true) (hd : d.noM = true) (ha : Ev X c st a C (.im d) C1) (hg : Gl X "isinstance" := by rfl) (hg2 : Gl X "tuple" := by rfl) (hg3 : Gl X "list" := by rfl)
    (he : starEach [a, .Tuple [.Name "list" q1, .Name "tuple" q2] k2 q3] X.env = (false, eval a X.env) :: starEach [.Tuple [.Name "list" q1, .Name "tuple" q2] k2 q3] X.env := by rfl) (he2 : starEach [.Tuple [.Name "list" q1, .Name "tuple" q2] k2 q3] X.env = (false, eval (.Tuple [.Name "list" q1, .Name "tuple" q2] k2 q3) X.env) :: starEach [] X.env := by rfl)
    (he3 : starEach [.Name "list" q1, .Name "tuple" q2] X.env = (false, eval (.Name "list" q1) X.env) :: starEach [.Name "tuple" q2] X.env := by rfl) (he4 : starEach [.Name "tuple" q2] X.env = (false, eval (.Name "tuple" q2) X.env) :: starEach [] X.env := by rfl)
    (hpl : (backTo pos (starEach [.Tuple [.Name "list" q1, .Name "tuple" q2] k2 q3] X.env)).any (·.1) = false := by rfl) :
    Ev X c st (.Call (.Name "isinstance" p) [a, .Tuple [.Name "list" q1, .Name "tuple" q2] k2 q3] [] pos) C (.im (.bl true)) C1 := evI fun σ B H F k Q q =>
  ⟨_, pe_callB call_isiT hg T.isinstance boot_isinstance (pa_cons (pWE a) (pa_cons (pe_tup (pa_cons (pe_bltn (v := .ty "list") hg3 T.list boot_list rfl) (pa_cons (pe_bltn (v := .ty "tuple") hg2 T.tuple boot_tuple rfl) pa_nil he4) he3)) pa_nil he2) he) (by decide) (by decide) he hpl, ha.I k fun v B1 H1 F1 k1 r x1 =>
    ⟨by show 2 ≤ sizeLine; decide, fun tp htp => by
      obtain ⟨s2, x2⟩ := ext_new (o := .tup [.ty "list", .ty "tuple"]) k1.sub htp
      have k2' := k1.grow s2 x2
      refine ⟨v, tp, [.ty "list", .ty "tuple"], tyD c d, [.type "list", .type "tuple"], true, rfl, upd_same, .cons (.ty _) (.cons (.ty _) .nil), T.ty s2 (Rep.mono x2.b _ _ r) hd, ?_, q _ _ _ F1 k2' rfl (x1.trans x2.up)⟩
      have e1 := T.kit d .list hd
      have e2 := T.kit d .tuple hd
      refine kitAny_cons e1 (fun z => kitAny_cons e2 (fun z2 => ?_) fun _ => rfl) fun _ => rfl
      rcases h with h | h
      · rw [h] at z; cases z
      · rw [h] at z2; cases z2⟩⟩

/-! ### fields -/
theorem ev_fld {f : Str} (cl : ∀ B H v, Same B H → Rep c B d v → ∃ a C dx fs w, v = .ref a ∧ H a = some (.ins C dx fs) ∧ Cls X.K C ∧ NoAttr X.K C f ∧ fs.lookup f = some w ∧ Rep c B d1 w) (ha : Ev X c st a C (.im d) C1) (hb : attributeBase a f X.env (eval a X.env) = eval a X.env := by rfl) : Ev X c st (.Attribute a f pos) C (.im d1) C1 := evI fun σ B H F k Q q =>
  ⟨_, pe_fld (pWE a) hb, ha.I k fun v B1 H1 F1 k1 r x1 => by
    obtain ⟨a', C', dx, fs, w, e1, e2, e3, e4, e5, e6⟩ := cl B1 H1 v k1.sub r
    exact ⟨a', C', dx, fs, w, e1, e2, e3, e4, e5, q w B1 H1 F1 k1 e6 x1⟩⟩
theorem kNd : ¬ (("d" : Str) = "n") := by decide +kernel
theorem kRn : ¬ (("rows" : Str) = "n") := by decide +kernel
theorem lk_n {v : V} {r : List (Str × V)} : List.lookup ("n" : Str) (("n", v) :: r) = some v := by rw [List.lookup_cons_self]
theorem lk_d {v w : V} : List.lookup ("d" : Str) [("n", v), ("d", w)] = some w := by
  rw [List.lookup_cons, show (("d" : Str) == "n") = false from beq_eq_false_iff_ne.mpr kNd, List.lookup_cons_self]
theorem lk_r {v w : V} : List.lookup ("rows" : Str) [("n", v), ("rows", w)] = some w := by
  rw [List.lookup_cons, show (("rows" : Str) == "n") = false from beq_eq_false_iff_ne.mpr kRn, List.lookup_cons_self]
theorem ev_num (T : Fx X.K X.mg c) {q : Rat} (ha : Ev X c st a C (.im (.rat q)) C1) (hb : attributeBase a "n" X.env (eval a X.env) = eval a X.env := by rfl) : Ev X c st (.Attribute a "n" pos) C (.im (.int q.num)) C1 :=
  ev_fld (d := .rat q) (fun B H v s ⟨p, dx, e, h⟩ => ⟨p, c.R, dx, _, _, e, s _ _ h, T.cR, T.nRn, lk_n, rfl⟩) ha hb
theorem ev_den (T : Fx X.K X.mg c) {q : Rat} (ha : Ev X c st a C (.im (.rat q)) C1) (hb : attributeBase a "d" X.env (eval a X.env) = eval a X.env := by rfl) : Ev X c st (.Attribute a "d" pos) C (.im (.int (q.den : Int))) C1 :=
  ev_fld (d := .rat q) (fun B H v s ⟨p, dx, e, h⟩ => ⟨p, c.R, dx, _, _, e, s _ _ h, T.cR, T.nRd, lk_d, rfl⟩) ha hb
theorem ev_mn (T : Fx X.K X.mg c) (ha : Ev X c st a C (.im (.met i d)) C1) (hb : attributeBase a "n" X.env (eval a X.env) = eval a X.env := by rfl) : Ev X c st (.Attribute a "n" pos) C (.im (.int i)) C1 :=
  ev_fld (d := .met i d) (fun B H v s ⟨p, dx, w, e, h, r⟩ => ⟨p, c.M, dx, _, _, e, s _ _ h, T.cM, T.nMn, lk_n, rfl⟩) ha hb
theorem ev_rows (T : Fx X.K X.mg c) (ha : Ev X c st a C (.im (.met i d)) C1) (hb : attributeBase a "rows" X.env (eval a X.env) = eval a X.env := by rfl) : Ev X c st (.Attribute a "rows" pos) C (.im d) C1 :=
  ev_fld (d := .met i d) (fun B H v s ⟨p, dx, w, e, h, r⟩ => ⟨p, c.M, dx, _, w, e, s _ _ h, T.cM, T.nMr, lk_r, r⟩) ha hb

/-! ### items -/
theorem op_ix (h : ixD d i = some d1) : Op2 c d (.int i) d1 (rIx X.K) := fun B H x y s h1 h2 Q k => by
  cases d with
  | lst l =>
    obtain ⟨q, ws, rfl, hB, rl⟩ := h1
    obtain ⟨v, e, r⟩ := atI_rep rl h
    exact .inl ⟨q, ws, i, v, rfl, h2, SqL.of (s _ _ hB), e, k v B H s Ext.refl r⟩
  | tup l =>
    obtain ⟨q, ws, rfl, hB, rl⟩ := h1
    obtain ⟨v, e, r⟩ := atI_rep rl h
    exact .inr (.inl ⟨q, ws, i, v, rfl, h2, SqT.of (s _ _ hB), e, k v B H s Ext.refl r⟩)
  | _ => cases h
theorem ev_ix (h : ixD d i = some d1) (ha : Ev X c st a C (.im d) C1) (hb : Ev X c st b C1 (.im (.int i)) C2) (hs : PlainIx b := by intro _ _; rfl) : Ev X c st (.Subscript a b pos) C (.im d1) C2 := evI fun σ B H F k Q q =>
  ⟨_, pe_ix ix_seq (pWE a) (pWE b) hs, ev_two ha hb k fun x y B1 H1 F1 k1 r1 r2 x1 => op_ix h B1 H1 x y k1.sub r1 r2 Q fun v B2 H2 s2 x2 r => q v B2 H2 F1 (k1.grow s2 x2) r (x1.trans x2.up)⟩
end
end K48

namespace K48
open PySem PySem.Spec PyProof.Rows L2

/-- xs[lo:hi] -/
def cutD {α : Type} (xs : List α) (lo hi : Option Int) : List α := (xs.drop (HT.sIx xs.length 0 lo)).take (HT.sIx xs.length xs.length hi - HT.sIx xs.length 0 lo)
theorem cut_rep {c : Cl} {B : Hp} {l : List D} {vs : List V} (r : RepL c B l vs) (lo hi : Option Int) : RepL c B (cutD l lo hi) (cutV vs lo hi) := by
  unfold cutD cutV
  rw [r.len]
  exact (r.drop _).take _
section
variable {X : Cx} {c : Cl} {st : Addr} {C C0 C1 C2 C3 : Cfg} {e a b e2 : Expr} {d d1 d2 d3 : D} {m m1 m2 : Mu} {pos p p2 p3 tpos apos : Pos} {o : Out} {s : Stmt} {ss : List Stmt} {es elts : List Expr} {ds xs ys l l' : List D} {x : Str} {i j : Int} {lo hi : Option Expr} {ol oh : Option Int}
/-! ### slices -/
def EvO (X : Cx) (c : Cl) (st : Addr) (e : Option Expr) (C : Cfg) (o : Option Int) (C' : Cfg) : Prop := ∀ σ B H F, OK c st C B H F σ → ∀ Q : Option Int → Hp → Prop,
  (∀ B' H' F', OK c st C' B' H' F' σ → Ext F F' B H B' H' → Q o H') → ∃ t, PO X e t ∧ t σ H Q
theorem pWO (e : Option Expr) : PO X e (fun σ H Q => ∃ t, PO X e t ∧ t σ H Q) := ⟨fun pins s σ H Q I ⟨t, h, q⟩ => h.run pins s σ H Q I q⟩
theorem evo_none : EvO X c st none C none C := fun σ B H F k Q q => ⟨_, po_none, q B H F k Ext.refl⟩
theorem evo_some (h : Ev X c st e C (.im (.int i)) C1) : EvO X c st (some e) C (some i) C1 := fun σ B H F k Q q => ⟨_, po_some (pWE e), h.I k fun v B1 H1 F1 k1 r x1 => ⟨i, r, q B1 H1 F1 k1 x1⟩⟩
theorem ev_slT (ha : Ev X c st a C (.im (.tup l)) C1) (hl : EvO X c st lo C1 ol C2) (hh : EvO X c st hi C2 oh C3) : Ev X c st (.Subscript a (.Slice lo hi none p2) pos) C (.im (.tup (cutD l ol oh))) C3 := evI fun σ B H F k Q q =>
  ⟨_, pe_slice sl_tupA (pWE a) (pWO lo) (pWO hi), ha.I k fun v B1 H1 F1 k1 ⟨t, vs, ev, hB, r⟩ x1 => hl σ B1 H1 F1 k1 _ fun B2 H2 F2 k2 x2 => hh σ B2 H2 F2 k2 _ fun B3 H3 F3 k3 x3 => by
    have hB3 : B3 t = some (.tup vs) := x3.b _ _ (x2.b _ _ hB)
    have r3 : RepL c B3 l vs := RepL.mono (x2.b.trans x3.b) _ _ r
    refine ⟨t, vs, ev, SqT.of (k3.sub _ _ hB3), fun w => ?_, fun w p hp => ?_⟩
    · refine q (.ref t) B3 H3 F3 k3 ⟨t, vs, rfl, hB3, ?_⟩ ((x1.trans x2).trans x3)
      have : cutD l ol oh = l := by
        unfold cutD
        rw [← r.len, w.1, w.2]
        simp
        exact List.take_of_length_le (Nat.le_of_eq r.len.symm)
      rw [this]; exact r3
    · obtain ⟨s4, x4⟩ := ext_new (o := .tup (cutV vs ol oh)) k3.sub hp
      exact q (.ref p) _ _ F3 (k3.grow s4 x4) ⟨p, _, rfl, upd_same, RepL.mono x4.b _ _ (cut_rep r3 ol oh)⟩ (((x1.trans x2).trans x3).trans x4.up)⟩
theorem ev_slL (ha : Ev X c st a C (.im (.lst l)) C1) (hl : EvO X c st lo C1 ol C2) (hh : EvO X c st hi C2 oh C3) : Ev X c st (.Subscript a (.Slice lo hi none p2) pos) C (.ls ((cutD l ol oh).map Mu.im)) C3 := fun σ B H F k Q q =>
  ⟨_, pe_slice sl_list (pWE a) (pWO lo) (pWO hi), ha.I k fun v B1 H1 F1 k1 ⟨t, vs, ev, hB, r⟩ x1 => hl σ B1 H1 F1 k1 _ fun B2 H2 F2 k2 x2 => hh σ B2 H2 F2 k2 _ fun B3 H3 F3 k3 x3 => by
    have hB3 : B3 t = some (.lst vs) := x3.b _ _ (x2.b _ _ hB)
    have r3 : RepL c B3 l vs := RepL.mono (x2.b.trans x3.b) _ _ r
    exact ⟨t, vs, ev, SqL.of (k3.sub _ _ hB3), fun p hp => ev_newList k3 ((x1.trans x2).trans x3) (cut_rep r3 ol oh) hp q⟩⟩
/-! ### t + u, xs + ys -/
theorem op_catTT (hz : l.length + l'.length ≤ 100000) : Op2 c (.tup l) (.tup l') (.tup (l ++ l')) (rCatA X.K) := fun B H x y s ⟨t, vs, e1, h1, r1⟩ ⟨u, ws, e2, h2, r2⟩ Q k => by
  refine ⟨t, u, vs, ws, e1, e2, SqT.of (s _ _ h1), SqT.of (s _ _ h2), by rw [r1.len, r2.len, sizeLine_eq]; omega, fun z => ?_, fun _ z => ?_, fun _ _ p hp => ?_⟩
  · have : l = [] := List.eq_nil_of_length_eq_zero (by rw [← r1.len, z]; rfl)
    subst this
    exact k _ B H s Ext.refl ⟨u, ws, rfl, h2, r2⟩
  · have : l' = [] := List.eq_nil_of_length_eq_zero (by rw [← r2.len, z]; rfl)
    subst this
    exact k _ B H s Ext.refl ⟨t, vs, rfl, h1, by rw [List.append_nil]; exact r1⟩
  · obtain ⟨s4, x4⟩ := ext_new (o := .tup (vs ++ ws)) s hp
    exact k _ _ _ s4 x4 ⟨p, _, rfl, upd_same, RepL.mono x4.b _ _ (r1.append r2)⟩
theorem ev_catT (hz : l.length + l'.length ≤ 100000) (ha : Ev X c st a C (.im (.tup l)) C1) (hb : Ev X c st b C1 (.im (.tup l')) C2) : Ev X c st (.BinOp a .Add b pos) C (.im (.tup (l ++ l'))) C2 := ev_bin op_catA (op_catTT hz) ha hb
theorem ev_catL (hz : l.length + l'.length ≤ 100000) (ha : Ev X c st a C (.im (.lst l)) C1) (hb : Ev X c st b C1 (.im (.lst l')) C2) : Ev X c st (.BinOp a .Add b pos) C (.ls ((l ++ l').map Mu.im)) C2 := fun σ B H F k Q q =>
  ⟨_, pe_op op_cat (pWE a) (pWE b), ev_two ha hb k fun x y B1 H1 F1 k1 ⟨t, vs, e1, h1, r1⟩ ⟨u, ws, e2, h2, r2⟩ x1 =>
    ⟨t, u, vs, ws, e1, e2, k1.sub _ _ h1, k1.sub _ _ h2, by rw [r1.len, r2.len, sizeLine_eq]; omega, fun p hp => ev_newList k1 x1 (r1.append r2) hp q⟩⟩
/-! ### an owned list in a slot: append, pop, extend, items, stores -/
theorem own_slot {ms : List Mu} (n : Nat) {B H : Hp} {F : List Addr} {σ : L2.St} (k : OK c st C B H F σ) (hs : C.ρ[n]? = some (some (.mu (.ls ms)))) :
    ∃ q acc Fa G1 G2, σ[n]? = some (some (.ref q)) ∧ F = G1 ++ ((q :: Fa) ++ G2) ∧ H q = some (.lst acc) ∧ OwnL c B H ms acc Fa ∧
      ∀ (H' : Hp) (ms' : List Mu) (acc' : List V) (Fa' : List Addr), (∀ a, a ∉ q :: Fa → H' a = H a) → H' q = some (.lst acc') → OwnL c B H' ms' acc' Fa' → (G1 ++ ((q :: Fa') ++ G2)).Nodup → (∀ a ∈ Fa', B a = none) →
        OK c st ⟨C.S, C.ρ.set n (some (.mu (.ls ms')))⟩ B H' (G1 ++ ((q :: Fa') ++ G2)) σ := by
  obtain ⟨F0, e, ow⟩ := k.own
  obtain ⟨F1, Fi, F2, w, eF, ew, hw, _, hset⟩ := ow.focus n hs
  obtain ⟨v, rfl, t⟩ := hw _ rfl
  obtain ⟨q, acc, Fa, ev, ei, hq, oa⟩ := (show OwnT c B H (.ls ms) v Fi from t)
  subst ev ei
  have hl := (List.getElem?_eq_some_iff.mp ew).1
  have es : σ.set n (some (V.ref q)) = σ := by
    refine List.ext_getElem? fun j => ?_
    by_cases hj : n = j
    · subst hj; rw [List.getElem?_set_self hl, ew]
    · rw [List.getElem?_set_ne hj]
  have nd := k.nd
  rw [e, eF] at nd
  refine ⟨q, acc, Fa, stF st C.S ++ F1, F2, ew, by rw [e, eF]; simp, hq, oa, fun H' ms' acc' Fa' hH hq' oa' nd' out' => ?_⟩
  have qn : ∀ a ∈ stF st C.S ++ F1, a ∉ q :: Fa := by
    simp only [List.nodup_append, List.mem_append, List.mem_cons] at nd ⊢
    grind
  have qn2 : ∀ a ∈ F2, a ∉ q :: Fa := by
    simp only [List.nodup_append, List.mem_append, List.mem_cons] at nd ⊢
    grind
  have ow' := hset B H' (.mu (.ls ms')) (.ref q) (q :: Fa') (Same.refl _) (fun a ha => hH a (qn a (List.mem_append_right _ ha))) (fun a ha => hH a (qn2 a ha)) ⟨q, acc', Fa', rfl, rfl, hq', oa'⟩
  rw [es] at ow'
  have qB : ∀ a ∈ q :: Fa, B a = none := fun a ha => k.out a (by rw [e, eF]; simp only [List.mem_append, List.mem_cons] at ha ⊢; grind)
  refine ⟨fun a u ea => ?_, nd', fun a ha => ?_, ⟨F1 ++ ((q :: Fa') ++ F2), by simp, ow'⟩, fun s t hS => ?_⟩
  · rw [hH a fun z => by rw [qB a z] at ea; cases ea]; exact k.sub a u ea
  · by_cases h : a ∈ Fa'
    · exact out' a h
    · refine k.out a ?_
      rw [e, eF]
      simp only [List.mem_append, List.mem_cons] at ha ⊢
      grind
  · rw [hH st (qn st (List.mem_append_left _ (by show st ∈ stF st C.S; rw [show C.S = some (s, t) from hS]; exact List.mem_singleton.mpr rfl)))]
    exact k.stc s t hS
/-- xs.append(e), xs an owned list in slot n -/
theorem ev_app {ms : List Mu} (n : Nat) {y : Str} (ha : Ev X c st e C m C1) (hs0 : ∃ ms0, C.ρ[n]? = some (some (.mu (.ls ms0)))) (hs : C1.ρ[n]? = some (some (.mu (.ls ms)))) (hz : ms.length ≤ 100000) (hN : X.N[n]? = some y := by rfl) (hv : Vis X.env.scope y := by first | exact Or.inl rfl | exact Or.inr (Or.inl rfl) | exact Or.inr (Or.inr rfl))
    (hd : (y == ("__debug__" : Str)) = false := by decide) (hcd : (y == ("__classdict__" : Str)) = false := by decide)
    (hbase : attributeBase (.Name y p) "append" X.env (eval (.Name y p) X.env) = eval (.Name y p) X.env := by rfl)
    (hfew : ((backTo pos (starEach [e] X.env)).all (fun x => !x.1) && (backToKw pos (keywordEach [] X.env)).all (fun x => x.1.isSome) && decide ([e].length + ([] : List Keyword).length + (if ([] : List Keyword).isEmpty then 0 else 1) < 30)) = true := by rfl)
    (hline : (apos.endLine == pos.line) = true := by rfl) (hst : starEach [e] X.env = (false, eval e X.env) :: starEach [] X.env := by rfl) (hpl : (backTo pos (starEach [] X.env)).any (·.1) = false := by rfl) :
    Ev X c st (.Call (.Attribute (.Name y p) "append" apos) [e] [] pos) C (.im .non) ⟨C1.S, C1.ρ.set n (some (.mu (.ls (ms ++ [m]))))⟩ := evI fun σ B H F k Q q => by
  obtain ⟨ms0, hs0⟩ := hs0
  obtain ⟨l0, acc0, _, _, _, ew0, _, h0, _⟩ := own_slot n k hs0
  refine ⟨_, pe_bm PySem.F.plainAttrs_list PySem.F.slot_list_append PySem.F.type_list_append mt_append (pe_var hN hv hd hcd) (pa_cons (pWE e) pa_nil hst) hbase hfew hline hst hpl, .ref l0, ew0, .inl ⟨rfl, _, SqL.of h0⟩, ?_⟩
  refine ha σ B H F k _ fun v B1 H1 F1 Fm k1 t n1 o1 x1 => ?_
  obtain ⟨l1, acc, Fa, G1, G2, ew, eF, hq, oa, back⟩ := own_slot n k1 hs
  rw [ew0] at ew; cases ew
  refine ⟨l0, acc, v, rfl, rfl, hq, by rw [oa.len, sizeLine_eq]; omega, ?_⟩
  have nd := n1
  rw [eF] at nd
  have qF : l0 ∉ Fa ++ Fm := by
    simp only [List.nodup_append, List.mem_append, List.mem_cons, List.nodup_cons] at nd ⊢
    grind
  have oa' : OwnL c B1 (upd H1 l0 (.lst (acc ++ [v]))) (ms ++ [m]) (acc ++ [v]) (Fa ++ Fm) :=
    OwnL.snoc (OwnT.mono (Same.refl _) m v Fm (fun a ha => upd_ne (show a ≠ l0 from fun z => qF (by rw [← z]; exact List.mem_append_right _ ha))) t) (OwnL.mono (Same.refl _) ms acc Fa (fun a ha => upd_ne (show a ≠ l0 from fun z => qF (by rw [← z]; exact List.mem_append_left _ ha))) oa)
  have k2 := back (upd H1 l0 (.lst (acc ++ [v]))) (ms ++ [m]) (acc ++ [v]) (Fa ++ Fm) (fun a h => upd_ne fun z => h (by simp [z])) upd_same oa' (by
    simp only [List.nodup_append, List.mem_append, List.mem_cons, List.nodup_cons] at nd ⊢
    grind) (fun a ha => by
    rcases List.mem_append.mp ha with h | h
    · exact k1.out a (by rw [eF]; simp [h])
    · exact o1 a h)
  refine q .non B1 _ _ k2 rfl (x1.trans ⟨Same.refl _, fun a u ha e => ?_, fun _ _ _ _ h => h, fun a ha => .inl ?_⟩)
  · rw [upd_ne fun z => ha (by rw [z, eF]; simp)]; exact e
  · rw [eF]
    simp only [List.mem_append, List.mem_cons] at ha ⊢
    grind
/-- xs.extend(e) of plain data -/
theorem ev_ext (n : Nat) {y : Str} (ha : Ev X c st e C (.im (.lst l')) C1) (hs0 : ∃ ms0, C.ρ[n]? = some (some (.mu (.ls ms0)))) (hs : C1.ρ[n]? = some (so l)) (hz : l.length + l'.length ≤ 100000) (hN : X.N[n]? = some y := by rfl) (hv : Vis X.env.scope y := by first | exact Or.inl rfl | exact Or.inr (Or.inl rfl) | exact Or.inr (Or.inr rfl))
    (hd : (y == ("__debug__" : Str)) = false := by decide) (hcd : (y == ("__classdict__" : Str)) = false := by decide)
    (hbase : attributeBase (.Name y p) "extend" X.env (eval (.Name y p) X.env) = eval (.Name y p) X.env := by rfl)
    (hfew : ((backTo pos (starEach [e] X.env)).all (fun x => !x.1) && (backToKw pos (keywordEach [] X.env)).all (fun x => x.1.isSome) && decide ([e].length + ([] : List Keyword).length + (if ([] : List Keyword).isEmpty then 0 else 1) < 30)) = true := by rfl)
    (hline : (apos.endLine == pos.line) = true := by rfl) (hst : starEach [e] X.env = (false, eval e X.env) :: starEach [] X.env := by rfl) (hpl : (backTo pos (starEach [] X.env)).any (·.1) = false := by rfl) :
    Ev X c st (.Call (.Attribute (.Name y p) "extend" apos) [e] [] pos) C (.im .non) ⟨C1.S, C1.ρ.set n (so (l ++ l'))⟩ := evI fun σ B H F k Q q => by
  obtain ⟨ms0, hs0⟩ := hs0
  obtain ⟨l0, acc0, _, _, _, ew0, _, h0, _⟩ := own_slot n k hs0
  refine ⟨_, pe_bm PySem.F.plainAttrs_list PySem.F.slot_list_extend PySem.F.type_list_extend mt_extend (pe_var hN hv hd hcd) (pa_cons (pWE e) pa_nil hst) hbase hfew hline hst hpl, .ref l0, ew0, .inl ⟨rfl, _, SqL.of h0⟩, ?_⟩
  refine ha.I k fun v B1 H1 F1 k1 ⟨t, vs, ev, hB, r⟩ x1 => ?_
  subst ev
  obtain ⟨l1, acc, Fa, G1, G2, ew, eF, hq, oa, back⟩ := own_slot n k1 hs
  rw [ew0] at ew; cases ew
  obtain ⟨oi, rfl⟩ := OwnL.ims oa
  refine ⟨l0, t, acc, vs, rfl, rfl, hq, k1.sub _ _ hB, by rw [oi.len, r.len, sizeLine_eq]; omega, ?_⟩
  have k2 := back (upd H1 l0 (.lst (acc ++ vs))) ((l ++ l').map Mu.im) (acc ++ vs) [] (fun a h => upd_ne fun z => h (by simp [z])) upd_same (OwnL.ofIms (oi.append r)) (by have := k1.nd; rw [eF] at this; exact this) (fun a ha => by cases ha)
  refine q .non B1 _ _ k2 rfl (x1.trans ⟨Same.refl _, fun a u ha e => ?_, fun _ _ _ _ h => h, fun a ha => .inl ?_⟩)
  · rw [upd_ne fun z => ha (by rw [z, eF]; simp)]; exact e
  · rw [eF]; exact ha
/-- xs.pop(e) of plain data -/
theorem ev_pop (n : Nat) {y : Str} {jn : Nat} (ha : Ev X c st e C (.im (.int jn)) C1) (hs0 : ∃ ms0, C.ρ[n]? = some (some (.mu (.ls ms0)))) (hs : C1.ρ[n]? = some (so l)) (hj : l[jn]? = some d) (hz : l.length ≤ 100000) (hN : X.N[n]? = some y := by rfl) (hv : Vis X.env.scope y := by first | exact Or.inl rfl | exact Or.inr (Or.inl rfl) | exact Or.inr (Or.inr rfl))
    (hd : (y == ("__debug__" : Str)) = false := by decide) (hcd : (y == ("__classdict__" : Str)) = false := by decide)
    (hbase : attributeBase (.Name y p) "pop" X.env (eval (.Name y p) X.env) = eval (.Name y p) X.env := by rfl)
    (hfew : ((backTo pos (starEach [e] X.env)).all (fun x => !x.1) && (backToKw pos (keywordEach [] X.env)).all (fun x => x.1.isSome) && decide ([e].length + ([] : List Keyword).length + (if ([] : List Keyword).isEmpty then 0 else 1) < 30)) = true := by rfl)
    (hline : (apos.endLine == pos.line) = true := by rfl) (hst : starEach [e] X.env = (false, eval e X.env) :: starEach [] X.env := by rfl) (hpl : (backTo pos (starEach [] X.env)).any (·.1) = false := by rfl) :
    Ev X c st (.Call (.Attribute (.Name y p) "pop" apos) [e] [] pos) C (.im d) ⟨C1.S, C1.ρ.set n (so (l.eraseIdx jn))⟩ := evI fun σ B H F k Q q => by
  obtain ⟨ms0, hs0⟩ := hs0
  obtain ⟨l0, acc0, _, _, _, ew0, _, h0, _⟩ := own_slot n k hs0
  refine ⟨_, pe_bm PySem.F.plainAttrs_list PySem.F.slot_list_pop PySem.F.type_list_pop mt_popAt (pe_var hN hv hd hcd) (pa_cons (pWE e) pa_nil hst) hbase hfew hline hst hpl, .ref l0, ew0, .inl ⟨rfl, _, SqL.of h0⟩, ?_⟩
  refine ha.I k fun v B1 H1 F1 k1 r x1 => ?_
  cases (show v = _ from r)
  obtain ⟨l1, acc, Fa, G1, G2, ew, eF, hq, oa, back⟩ := own_slot n k1 hs
  rw [ew0] at ew; cases ew
  obtain ⟨oi, rfl⟩ := OwnL.ims oa
  obtain ⟨w, hw, rw'⟩ := oi.get hj
  have hlt : jn < l.length := (List.getElem?_eq_some_iff.mp hj).1
  refine ⟨l0, acc, jn, jn, w, rfl, rfl, hq, by omega, by omega, ?_, hw, ?_⟩
  · rw [oi.len]
    have := (ixN_seq (n := l.length) (i := (jn : Int)) (j := jn) (by unfold ixN; rw [if_pos (by omega), if_pos (by omega)]; simp)).1
    exact this
  · have k2 := back (upd H1 l0 (.lst (acc.eraseIdx jn))) ((l.eraseIdx jn).map Mu.im) (acc.eraseIdx jn) [] (fun a h => upd_ne fun z => h (by simp [z])) upd_same (OwnL.ofIms (oi.erase jn)) (by have := k1.nd; rw [eF] at this; exact this) (fun a ha => by cases ha)
    refine q w B1 _ _ k2 rw' (x1.trans ⟨Same.refl _, fun a u ha e => ?_, fun _ _ _ _ h => h, fun a ha => .inl ?_⟩)
    · rw [upd_ne fun z => ha (by rw [z, eF]; simp)]; exact e
    · rw [eF]; exact ha
end
end K48

namespace K48
open PySem PySem.Spec PyProof.Rows L2

/-- rows of plain data, all owned -/
abbrev mrow (r : List D) : Mu := .ls (r.map Mu.im)
abbrev so2 (rows : List (List D)) : Option Sl := some (.mu (.ls (rows.map mrow)))
theorem OwnL.getF {c : Cl} {B H : Hp} : ∀ {ms : List Mu} {vs : List V} {F : List Addr} {i : Nat} {m : Mu}, OwnL c B H ms vs F → ms[i]? = some m →
    ∃ v F1 Fi F2, vs[i]? = some v ∧ F = F1 ++ (Fi ++ F2) ∧ OwnT c B H m v Fi ∧ ∀ (H' : Hp) (m' : Mu) (v' : V) Fi', (∀ a ∈ F1, H' a = H a) → (∀ a ∈ F2, H' a = H a) → OwnT c B H' m' v' Fi' → OwnL c B H' (ms.set i m') (vs.set i v') (F1 ++ (Fi' ++ F2))
  | [], _, _, _, _, _, e => by simp at e
  | m0 :: l, vs, F, 0, m, ⟨v, r, F1, F2, e1, e2, h, q⟩, e => by
    simp at e; subst e e1 e2
    exact ⟨v, [], F1, F2, rfl, rfl, h, fun H' m' v' Fi' _ k2 t => ⟨v', r, Fi', F2, rfl, rfl, t, OwnL.mono (Same.refl _) l r F2 k2 q⟩⟩
  | m0 :: l, vs, F, i + 1, m, ⟨v, r, F1, F2, e1, e2, h, q⟩, e => by
    subst e1 e2
    obtain ⟨w, G1, Gi, G2, g1, g2, g3, g4⟩ := OwnL.getF q (show l[i]? = some m by simpa using e)
    refine ⟨w, F1 ++ G1, Gi, G2, by simpa using g1, by rw [g2, List.append_assoc], g3, fun H' m' v' Fi' k1 k2 t => ?_⟩
    exact ⟨v, r.set i v', F1, G1 ++ (Fi' ++ G2), rfl, List.append_assoc _ _ _, OwnT.mono (Same.refl _) m0 v F1 (fun a ha => k1 a (List.mem_append_left _ ha)) h, g4 H' m' v' Fi' (fun a ha => k1 a (List.mem_append_right _ ha)) k2 t⟩

section
variable {X : Cx} {c : Cl} {st : Addr} {C C0 C1 C2 C3 : Cfg} {e a b e2 : Expr} {d d1 d2 d3 : D} {m m1 m2 : Mu} {pos p p2 p3 p4 tpos apos : Pos} {o : Out} {s : Stmt} {ss : List Stmt} {es elts : List Expr} {ds xs ys l l' : List D} {x y z : Str} {i j : Int} {rows : List (List D)}

theorem OK.slotI {B H : Hp} {F : List Addr} {σ : L2.St} (k : OK c st C B H F σ) (n : Nat) (hs : C.ρ[n]? = some (sd d)) : ∃ v, σ[n]? = some (some v) ∧ Rep c B d v := by
  obtain ⟨F0, e, ow⟩ := k.own
  obtain ⟨F1, Fi, F2, w, _, ew, hw, _, _⟩ := ow.focus n hs
  obtain ⟨v, rfl, t⟩ := hw _ rfl
  exact ⟨v, ew, t.1⟩
/-- xs[e], xs an owned list in slot n -/
theorem ev_oix (n : Nat) (ha : Ev X c st e C (.im (.int i)) C1) (hs0 : ∃ ms0, C.ρ[n]? = some (some (.mu (.ls ms0)))) (hs : C1.ρ[n]? = some (so l)) (h : atI l i = some d) (hN : X.N[n]? = some y := by rfl) (hv : Vis X.env.scope y := by first | exact Or.inl rfl | exact Or.inr (Or.inl rfl) | exact Or.inr (Or.inr rfl))
    (hd : (y == ("__debug__" : Str)) = false := by decide) (hcd : (y == ("__classdict__" : Str)) = false := by decide) (hp : PlainIx e := by intro _ _; rfl) : Ev X c st (.Subscript (.Name y p) e pos) C (.im d) C1 := evI fun σ B H F k Q q => by
  obtain ⟨ms0, hs0⟩ := hs0
  obtain ⟨l0, acc0, _, _, _, ew0, _, h0, _⟩ := own_slot n k hs0
  refine ⟨_, pe_ix ix_list (pe_var hN hv hd hcd) (pWE e) hp, .ref l0, ew0, ha.I k fun v B1 H1 F1 k1 r x1 => ?_⟩
  obtain ⟨l1, acc, Fa, G1, G2, ew, eF, hq, oa, _⟩ := own_slot n k1 hs
  rw [ew0] at ew; cases ew
  obtain ⟨oi, _⟩ := OwnL.ims oa
  obtain ⟨w, hw, rw'⟩ := atI_rep oi h
  exact ⟨l0, acc, i, w, rfl, r, SqL.of hq, hw, q w B1 H1 F1 k1 rw' x1⟩
/-- rows[e][z], rows owned in slot n, z a name -/
theorem ev_oix2 (n k2 : Nat) {r : List D} (ha : Ev X c st e C (.im (.int i)) C1) (hs0 : ∃ ms0, C.ρ[n]? = some (some (.mu (.ls ms0)))) (hs : C1.ρ[n]? = some (so2 rows)) (hz : C1.ρ[k2]? = some (sd (.int j))) (h : atI rows i = some r) (h2 : atI r j = some d) (hN : X.N[n]? = some y := by rfl) (hv : Vis X.env.scope y := by first | exact Or.inl rfl | exact Or.inr (Or.inl rfl) | exact Or.inr (Or.inr rfl))
    (hd : (y == ("__debug__" : Str)) = false := by decide) (hcd : (y == ("__classdict__" : Str)) = false := by decide) (hN2 : X.N[k2]? = some z := by rfl) (hv2 : Vis X.env.scope z := by first | exact Or.inl rfl | exact Or.inr (Or.inl rfl) | exact Or.inr (Or.inr rfl))
    (hd2 : (z == ("__debug__" : Str)) = false := by decide) (hcd2 : (z == ("__classdict__" : Str)) = false := by decide) (hp : PlainIx e := by intro _ _; rfl) (hp2 : PlainIx (.Name z p2) := by intro _ _; rfl) : Ev X c st (.Subscript (.Subscript (.Name y p) e p3) (.Name z p2) pos) C (.im d) C1 := evI fun σ B H F k Q q => by
  obtain ⟨ms0, hs0⟩ := hs0
  obtain ⟨l0, acc0, _, _, _, ew0, _, h0, _⟩ := own_slot n k hs0
  refine ⟨_, pe_ix ix_list (pe_ix ix_list (pe_var hN hv hd hcd) (pWE e) hp) (pe_var hN2 hv2 hd2 hcd2) hp2, .ref l0, ew0, ha.I k fun v B1 H1 F1 k1 r1 x1 => ?_⟩
  obtain ⟨l1, acc, Fa, G1, G2, ew, eF, hq, oa, _⟩ := own_slot n k1 hs
  rw [ew0] at ew; cases ew
  obtain ⟨vj, ewj, rj⟩ := k1.slotI k2 hz
  unfold atI at h
  cases eN : ixN rows.length i with
  | none => rw [eN] at h; cases h
  | some i' =>
    rw [eN] at h
    have h' : rows[i']? = some r := h
    obtain ⟨w, F1', Fi, F2', hw, _, t, _⟩ := OwnL.getF oa (show (rows.map mrow)[i']? = some (mrow r) by rw [List.getElem?_map, h']; rfl)
    obtain ⟨rq, racc, _, e1, _, hr, orr⟩ := t
    obtain ⟨oi, _⟩ := OwnL.ims orr
    obtain ⟨u, hu, ru⟩ := atI_rep oi h2
    refine ⟨l0, acc, i, w, rfl, r1, SqL.of hq, ?_, vj, ewj, rq, racc, j, u, e1, rj, SqL.of hr, hu, q u B1 H1 F1 k1 ru x1⟩
    unfold atI
    rw [oa.len, List.length_map, eN]
    exact hw
theorem ixN_nat {n k : Nat} (h : k < n) : ixN n (k : Int) = some k := by
  unfold ixN
  rw [if_pos (by omega), if_pos (by omega)]
  simp
/-- xs[e] = .., xs an owned list in slot n -/
theorem tg_set (n : Nat) {jn : Nat} (hi : Ev X c st e C (.im (.int jn)) C1) (hs0 : ∃ ms0, C.ρ[n]? = some (some (.mu (.ls ms0)))) (hs : C1.ρ[n]? = some (so l)) (hj : jn < l.length) (hN : X.N[n]? = some y := by rfl) (hv : Vis X.env.scope y := by first | exact Or.inl rfl | exact Or.inr (Or.inl rfl) | exact Or.inr (Or.inr rfl))
    (hd : (y == ("__debug__" : Str)) = false := by decide) (hcd : (y == ("__classdict__" : Str)) = false := by decide)
    (ha : ∀ v, assign (.Subscript (.Name y p) e pos) X.env v = (do
      let ov ← holding [v] (eval (.Name y p) X.env)
      let iv ← holding [v, ov] (eval e X.env)
      standAt pos
      holding [v, ov, iv] (setItem ov iv v)
      release [v, ov, iv] []) := by intro _; rfl) : Tg X c st (.Subscript (.Name y p) e pos) C d ⟨C1.S, C1.ρ.set n (so (l.set jn d))⟩ [] := fun σ B H F v k r Q q => by
  obtain ⟨ms0, hs0⟩ := hs0
  obtain ⟨l0, acc0, _, _, _, ew0, _, h0, _⟩ := own_slot n k hs0
  refine ⟨_, pg_sub (pe_var hN hv hd hcd) (pWE e) set_list ha, .ref l0, ew0, hi.I k fun iv B1 H1 F1 k1 ri x1 => ?_⟩
  obtain ⟨l1, acc, Fa, G1, G2, ew, eF, hq, oa, back⟩ := own_slot n k1 hs
  rw [ew0] at ew; cases ew
  obtain ⟨oi, rfl⟩ := OwnL.ims oa
  refine ⟨l0, acc, jn, jn, rfl, ri, hq, by rw [oi.len]; exact ixN_nat hj, ?_⟩
  have k2 := back (upd H1 l0 (.lst (acc.set jn v))) ((l.set jn d).map Mu.im) (acc.set jn v) [] (fun a h => upd_ne fun z => h (by simp [z])) upd_same (OwnL.ofIms (RepL.set (Rep.mono x1.b _ _ r) jn oi)) (by have := k1.nd; rw [eF] at this; exact this) (fun a ha => by cases ha)
  refine q σ B1 _ _ k2 (x1.trans ⟨Same.refl _, fun a u ha e => ?_, fun _ _ _ _ h => h, fun a ha => .inl ?_⟩) ⟨rfl, fun _ _ => rfl⟩
  · rw [upd_ne fun z => ha (by rw [z, eF]; simp)]; exact e
  · rw [eF]; exact ha
/-- rows[z][x] = .., rows owned in slot n, z and x names -/
theorem tg_set2 (n k1 k2 : Nat) {in_ jn : Nat} {r : List D} (hs : C.ρ[n]? = some (so2 rows)) (h1 : C.ρ[k1]? = some (sd (.int in_))) (h2 : C.ρ[k2]? = some (sd (.int jn))) (hr : rows[in_]? = some r) (hj : jn < r.length) (hN : X.N[n]? = some y := by rfl) (hv : Vis X.env.scope y := by first | exact Or.inl rfl | exact Or.inr (Or.inl rfl) | exact Or.inr (Or.inr rfl))
    (hN1 : X.N[k1]? = some z := by rfl) (hv1 : Vis X.env.scope z := by first | exact Or.inl rfl | exact Or.inr (Or.inl rfl) | exact Or.inr (Or.inr rfl)) (hN2 : X.N[k2]? = some x := by rfl) (hv2 : Vis X.env.scope x := by first | exact Or.inl rfl | exact Or.inr (Or.inl rfl) | exact Or.inr (Or.inr rfl))
    (hd : (y == ("__debug__" : Str)) = false := by decide) (hcd : (y == ("__classdict__" : Str)) = false := by decide) (hd1 : (z == ("__debug__" : Str)) = false := by decide) (hcd1 : (z == ("__classdict__" : Str)) = false := by decide) (hd2 : (x == ("__debug__" : Str)) = false := by decide) (hcd2 : (x == ("__classdict__" : Str)) = false := by decide)
    (hp : PlainIx (.Name z p2) := by intro _ _; rfl)
    (ha : ∀ v, assign (.Subscript (.Subscript (.Name y p) (.Name z p2) p3) (.Name x p4) pos) X.env v = (do
      let ov ← holding [v] (eval (.Subscript (.Name y p) (.Name z p2) p3) X.env)
      let iv ← holding [v, ov] (eval (.Name x p4) X.env)
      standAt pos
      holding [v, ov, iv] (setItem ov iv v)
      release [v, ov, iv] []) := by intro _; rfl) : Tg X c st (.Subscript (.Subscript (.Name y p) (.Name z p2) p3) (.Name x p4) pos) C d ⟨C.S, C.ρ.set n (so2 (rows.set in_ (r.set jn d)))⟩ [] := fun σ B H F v k rv Q q => by
  obtain ⟨l0, acc, Fa, G1, G2, ew, eF, hq, oa, back⟩ := own_slot n k hs
  obtain ⟨w1, ew1, r1⟩ := k.slotI k1 h1
  obtain ⟨w2, ew2, r2⟩ := k.slotI k2 h2
  obtain ⟨w, E1, Ei, E2, hw, eFa, t, setL⟩ := OwnL.getF oa (show (rows.map mrow)[in_]? = some (mrow r) by rw [List.getElem?_map, hr]; rfl)
  obtain ⟨rq, racc, Er, e1, eEi, hrq, orr⟩ := t
  obtain ⟨oi, rfl⟩ := OwnL.ims orr
  subst e1 eEi
  have hil : in_ < rows.length := (List.getElem?_eq_some_iff.mp hr).1
  refine ⟨_, pg_sub (pe_ix ix_list (pe_var hN hv hd hcd) (pe_var hN1 hv1 hd1 hcd1) hp) (pe_var hN2 hv2 hd2 hcd2) set_list ha, .ref l0, ew, w1, ew1, l0, acc, in_, .ref rq, rfl, r1, SqL.of hq, ?_, w2, ew2, rq, racc, jn, jn, rfl, r2, hrq, by rw [oi.len]; exact ixN_nat hj, ?_⟩
  · unfold atI
    rw [oa.len, List.length_map, ixN_nat hil]
    exact hw
  have nd := k.nd
  rw [eF, eFa] at nd
  have rl : rq ≠ l0 := by
    simp only [List.nodup_append, List.mem_append, List.mem_cons, List.nodup_cons, List.mem_nil_iff, List.cons_append, List.nil_append] at nd
    grind
  have r1' : ∀ a ∈ E1, a ≠ rq := by
    simp only [List.nodup_append, List.mem_append, List.mem_cons, List.nodup_cons, List.cons_append, List.nil_append] at nd ⊢
    grind
  have r2' : ∀ a ∈ E2, a ≠ rq := by
    simp only [List.nodup_append, List.mem_append, List.mem_cons, List.nodup_cons, List.cons_append, List.nil_append] at nd ⊢
    grind
  have t' : OwnT c B (upd H rq (.lst (racc.set jn v))) (mrow (r.set jn d)) (.ref rq) [rq] := ⟨rq, _, [], rfl, rfl, upd_same, OwnL.ofIms (RepL.set rv jn oi)⟩
  have oa' := setL (upd H rq (.lst (racc.set jn v))) (mrow (r.set jn d)) (.ref rq) [rq] (fun a ha => upd_ne (r1' a ha)) (fun a ha => upd_ne (r2' a ha)) t'
  have accE : acc.set in_ (.ref rq) = acc := by
    refine List.ext_getElem? fun j => ?_
    by_cases hj' : in_ = j
    · subst hj'
      rw [List.getElem?_set_self (List.getElem?_eq_some_iff.mp hw).1, hw]
    · rw [List.getElem?_set_ne hj']
  rw [accE] at oa'
  have mapE : (rows.map mrow).set in_ (mrow (r.set jn d)) = (rows.set in_ (r.set jn d)).map mrow := by rw [List.map_set]
  rw [mapE] at oa'
  -- the outer list stands, the row at rq is changed
  have k2 := back (upd H rq (.lst (racc.set jn v))) ((rows.set in_ (r.set jn d)).map mrow) acc (E1 ++ ([rq] ++ E2)) (fun a h => upd_ne fun z => h (by rw [z, eFa]; simp)) (by rw [upd_ne (Ne.symm rl)]; exact hq) oa' nd (fun a ha => k.out a (by rw [eF, eFa]; simp only [List.mem_append, List.mem_cons] at ha ⊢; grind))
  refine q σ B _ _ k2 ⟨Same.refl _, fun a u ha e => ?_, fun _ _ _ _ h => h, fun a ha => .inl ?_⟩ ⟨rfl, fun _ _ => rfl⟩
  · rw [upd_ne fun z => ha (by rw [z, eF, eFa]; simp)]; exact e
  · rw [eF, eFa]; exact ha
end
end K48

namespace K48
open PySem PySem.Spec PyProof.Rows L2

/-! ### promises by data -/
def spP (c : Cl) (R : List D → D → Prop) : Sp := fun vs H Q _ => ∃ B ds d, Same B H ∧ RepL c B ds vs ∧ R ds d ∧ ∀ v B' H', Same B' H' → Ext [] [] B H B' H' → Rep c B' d v → Q v H'
def spS (c : Cl) (R : Int × Int → List D → D → Int × Int → Prop) : Sp := fun vs H Q _ => ∃ (st : Addr) (s : Int × Int) (ds : List D) (d : D) (s' : Int × Int) (vs' : List V) (B : Hp), vs = .ref st :: vs' ∧ Same B H ∧ B st = none ∧ H st = some (.lst [.int s.1, .int s.2]) ∧ RepL c B ds vs' ∧ R s ds d s' ∧
  ∀ v B' H', Same B' H' → B' st = none → H' st = some (.lst [.int s'.1, .int s'.2]) → Ext [st] [st] B H B' H' → Rep c B' d v → Q v H'
section
variable (P : Program) (w : World) (K : PySem.W.Frag) (mg : Str → Option Value) (base : Heap) (c : Cl)
/-- the module's def x keeps R -/
def FnP (k : Nat) (x : Str) (R : List D → D → Prop) : Prop := ∃ (f : Addr) (fd : FuncData) (ps : List Str), mg x = some (.ref f) ∧ PySem.W.keepIn K (.ref f) = true ∧ Binds K fd ps [] ∧ FnOk P w K mg base CX0 k f fd ps (spP c R)
def FnS (k : Nat) (x : Str) (R : Int × Int → List D → D → Int × Int → Prop) : Prop := ∃ (f : Addr) (fd : FuncData) (ps : List Str), mg x = some (.ref f) ∧ PySem.W.keepIn K (.ref f) = true ∧ Binds K fd ps [] ∧ FnOk P w K mg base CX0 k f fd ps (spS c R)
/-- the method m of the class at C keeps R (self among the arguments) -/
def FnM (k : Nat) (C : Addr) (m : Str) (R : List D → D → Prop) : Prop := ∃ (f : Addr) (fd : FuncData) (ps : List Str), Meth K C m f ∧ Binds K fd ps [] ∧ FnOk P w K mg base CX0 k f fd ps (spP c R)
end
theorem FnP.mono {P : Program} {w : World} {K : PySem.W.Frag} {mg : Str → Option Value} {base : Heap} {c : Cl} {k k' : Nat} {x : Str} {R : List D → D → Prop} (h : FnP P w K mg base c k x R) (l : k ≤ k') : FnP P w K mg base c k' x R := by
  obtain ⟨f, fd, ps, h1, h2, h3, h4⟩ := h
  exact ⟨f, fd, ps, h1, h2, h3, h4.mono l⟩

section
variable {X : Cx} {c : Cl} {st : Addr} {C C0 C1 C2 C3 : Cfg} {e a b e2 : Expr} {d d1 d2 d3 : D} {pos p p2 apos : Pos} {es : List Expr} {ds : List D} {x y mm : Str} {i j : Int} {k : Nat} {R : List D → D → Prop}
theorem ev_call (G : FnP X.prog X.w X.K X.mg X.base c k x R) (hr : Room k X.A) (hR : R ds d) (ha : EvA X c st (e :: es) C (ds.map Mu.im) C1) (hg : Gl X x := by rfl) (hdb : (x == ("__debug__" : Str)) = false := by decide)
    (he : starEach (e :: es) X.env = (false, eval e X.env) :: starEach es X.env := by rfl) (hpl : (backTo pos (starEach es X.env)).any (·.1) = false := by rfl) : Ev X c st (.Call (.Name x p) (e :: es) [] pos) C (.im d) C1 := evI fun σ B H F k Q q => by
  obtain ⟨f, fd, ps, hm, hk, hb, hF⟩ := G
  refine ⟨_, pe_call hF hr hg hm hk hb .nil pass0 (pWA _) hdb he hpl, ha.I k fun vs B1 H1 F1 k1 r x1 => ?_⟩
  rw [List.append_nil]
  exact ⟨B1, ds, d, k1.sub, r, hR, fun v B2 H2 s2 x2 r2 => q v B2 H2 F1 (k1.grow s2 x2) r2 (x1.trans x2.up)⟩
theorem ev_call0 (G : FnP X.prog X.w X.K X.mg X.base c k x R) (hr : Room k X.A) (hR : R [] d) (hg : Gl X x := by rfl) (hdb : (x == ("__debug__" : Str)) = false := by decide) : Ev X c st (.Call (.Name x p) [] [] pos) C (.im d) C := evI fun σ B H F k Q q => by
  obtain ⟨f, fd, ps, hm, hk, hb, hF⟩ := G
  exact ⟨_, pe_call0 hF hr hg hm hk hb .nil pass0 hdb, B, [], d, k.sub, rfl, hR, fun v B2 H2 s2 x2 r2 => q v B2 H2 F (k.grow s2 x2) r2 x2.up⟩
theorem OK.stt {B H : Hp} {F : List Addr} {σ : L2.St} (k : OK c st C B H F σ) (n : Nat) (hs : C.ρ[n]? = some (some .stt)) : σ[n]? = some (some (.ref st)) := by
  obtain ⟨F0, e, ow⟩ := k.own
  obtain ⟨F1, Fi, F2, w, _, ew, hw, _, _⟩ := ow.focus n hs
  obtain ⟨v, rfl, t⟩ := hw _ rfl
  rw [ew, (show v = .ref st from t.1)]
/-- f(state, ..) -/
theorem ev_callS {RS : Int × Int → List D → D → Int × Int → Prop} {s s' : Int × Int} (n : Nat) (G : FnS X.prog X.w X.K X.mg X.base c k x RS) (hr : Room k X.A) (hs : C.ρ[n]? = some (some .stt)) (ha : EvA X c st es C (ds.map Mu.im) C1) (hS : C1.S = some s) (hR : RS s ds d s') (hN : X.N[n]? = some y := by rfl) (hv : Vis X.env.scope y := by first | exact Or.inl rfl | exact Or.inr (Or.inl rfl) | exact Or.inr (Or.inr rfl))
    (hd : (y == ("__debug__" : Str)) = false := by decide) (hcd : (y == ("__classdict__" : Str)) = false := by decide) (hg : Gl X x := by rfl) (hdb : (x == ("__debug__" : Str)) = false := by decide)
    (he : starEach (.Name y p2 :: es) X.env = (false, eval (.Name y p2) X.env) :: starEach es X.env := by rfl) (hpl : (backTo pos (starEach es X.env)).any (·.1) = false := by rfl) : Ev X c st (.Call (.Name x p) (.Name y p2 :: es) [] pos) C (.im d) ⟨some s', C1.ρ⟩ := evI fun σ B H F k Q q => by
  obtain ⟨f, fd, ps, hm, hk, hb, hF⟩ := G
  refine ⟨_, pe_call hF hr hg hm hk hb .nil pass0 (pa_cons (pe_var hN hv hd hcd) (pWA es) he) hdb he hpl, .ref st, k.stt n hs, ha.I k fun vs B1 H1 F1 k1 r x1 => ?_⟩
  show spS c RS (V.ref st :: vs ++ []) H1 Q E0
  rw [List.append_nil]
  obtain ⟨F0, eF, ow⟩ := k1.own
  have eF' : F1 = st :: F0 := by rw [eF, hS]; rfl
  have hst : B1 st = none := k1.out st (by rw [eF']; simp)
  refine ⟨st, s, ds, d, s', vs, B1, rfl, k1.sub, hst, k1.stc s.1 s.2 hS, r, hR, fun v B2 H2 s2 o2 h2 x2 r2 => ?_⟩
  have nd := k1.nd
  rw [eF'] at nd
  have n0 : ∀ b ∈ F0, b ∉ ([st] : List Addr) := fun b hb z => (List.nodup_cons.mp nd).1 (by rw [← List.mem_singleton.mp z]; exact hb)
  have th := ow.there
  refine q v B2 H2 F1 ⟨s2, k1.nd, fun a ha => ?_, ⟨F0, by rw [eF']; rfl, ow.mono x2.b fun a ha => ?_⟩, fun u t hu => ?_⟩ r2 (x1.trans ⟨x2.b, fun a o ha e => x2.h a o (fun z => ha ?_) e, fun a o ha e nn => x2.f a o (fun z => ha ?_) e nn, fun a ha => .inl ha⟩)
  · rw [eF'] at ha
    rcases List.mem_cons.mp ha with rfl | ha
    · exact o2
    · obtain ⟨o, e⟩ := th a ha
      exact x2.f a o (n0 a ha) e (k1.out a (by rw [eF']; exact List.mem_cons_of_mem _ ha))
  · obtain ⟨o, e⟩ := th a ha
    rw [e]; exact x2.h a o (n0 a ha) e
  · cases hu; exact h2
  · rw [List.mem_singleton.mp z, eF']; exact List.mem_cons_self
  · rw [List.mem_singleton.mp z, eF']; exact List.mem_cons_self
/-- the instance's class and fields -/
theorem ev_meth {CA : Addr} (G : FnM X.prog X.w X.K X.mg X.base c k CA mm R) (cl : Cls X.K CA) (hr : Room k X.A) (hin : ∀ B v, Rep c B d1 v → ∃ p dx fs, v = .ref p ∧ B p = some (.ins CA dx fs) ∧ fs.lookup mm = none) (hR : R (d1 :: ds) d) (hd : Ev X c st a C (.im d1) C1) (ha : EvA X c st (e :: es) C1 (ds.map Mu.im) C2)
    {pl : Sem Bool} (hst : starEach (e :: es) X.env = (false, eval e X.env) :: starEach es X.env := by rfl) (hpl : (backTo pos (starEach es X.env)).any (·.1) = false := by rfl)
    (ht : eval (.Call (.Attribute a mm apos) (e :: es) [] pos) X.env = (do
      let ov ← eval a X.env
      standAt apos.atName
      let (f, first) ← holding [ov] (getMethod ov mm pl)
      callWith pos f first (backTo pos (starEach (e :: es) X.env)) (backToKw pos (keywordEach [] X.env))) := by rfl) : Ev X c st (.Call (.Attribute a mm apos) (e :: es) [] pos) C (.im d) C2 := evI fun σ B H F k Q q => by
  obtain ⟨f, fd, ps, hm, hb, hF⟩ := G
  refine ⟨_, pe_meth (pWE a) cl hm hF hr hb .nil pass0 (pWA _) hst hpl ht, hd.I k fun v B1 H1 F1 k1 r1 x1 => ?_⟩
  obtain ⟨p', dx, fs, ev, hB, hl⟩ := hin B1 v r1
  refine ⟨p', dx, fs, ev, k1.sub _ _ hB, hl, ha.I k1 fun vs B2 H2 F2 k2 r2 x2 => ?_⟩
  rw [List.append_nil]
  exact ⟨B2, d1 :: ds, d, k2.sub, ⟨v, vs, rfl, Rep.mono x2.b _ _ r1, r2⟩, hR, fun v B3 H3 s3 x3 r3 => q v B3 H3 F2 (k2.grow s3 x3) r3 ((x1.trans x2).trans x3.up)⟩
theorem ev_meth0 {CA : Addr} (G : FnM X.prog X.w X.K X.mg X.base c k CA mm R) (cl : Cls X.K CA) (hr : Room k X.A) (hin : ∀ B v, Rep c B d1 v → ∃ p dx fs, v = .ref p ∧ B p = some (.ins CA dx fs) ∧ fs.lookup mm = none) (hR : R [d1] d) (hd : Ev X c st a C (.im d1) C1)
    {pl : Sem Bool} (ht : eval (.Call (.Attribute a mm apos) [] [] pos) X.env = (do
      let ov ← eval a X.env
      standAt apos.atName
      let (f, first) ← holding [ov] (getMethod ov mm pl)
      callWith pos f first (backTo pos (starEach [] X.env)) (backToKw pos (keywordEach [] X.env))) := by rfl) : Ev X c st (.Call (.Attribute a mm apos) [] [] pos) C (.im d) C1 := evI fun σ B H F k Q q => by
  obtain ⟨f, fd, ps, hm, hb, hF⟩ := G
  refine ⟨_, pe_meth0 (pWE a) cl hm hF hr hb .nil pass0 ht, hd.I k fun v B1 H1 F1 k1 r1 x1 => ?_⟩
  obtain ⟨p', dx, fs, ev, hB, hl⟩ := hin B1 v r1
  exact ⟨p', dx, fs, ev, k1.sub _ _ hB, hl, B1, [d1], d, k1.sub, ⟨v, [], rfl, r1, rfl⟩, hR, fun v B3 H3 s3 x3 r3 => q v B3 H3 F1 (k1.grow s3 x3) r3 (x1.trans x3.up)⟩
theorem lkR {q : Rat} {m : Str} (h1 : ¬ m = "n" := by decide +kernel) (h2 : ¬ m = "d" := by decide +kernel) : (fR q).lookup m = none := by
  unfold fR
  rw [List.lookup_cons, beq_eq_false_iff_ne.mpr h1, List.lookup_cons, beq_eq_false_iff_ne.mpr h2]
  rfl
theorem lkM {n : Int} {v : V} {m : Str} (h1 : ¬ m = "n" := by decide +kernel) (h2 : ¬ m = "rows" := by decide +kernel) : (fM n v).lookup m = none := by
  unfold fM
  rw [List.lookup_cons, beq_eq_false_iff_ne.mpr h1, List.lookup_cons, beq_eq_false_iff_ne.mpr h2]
  rfl
theorem inR {q : Rat} {B : Hp} {v : V} {m : Str} (h : (fR q).lookup m = none) (r : Rep c B (.rat q) v) : ∃ p dx fs, v = .ref p ∧ B p = some (.ins c.R dx fs) ∧ fs.lookup m = none := by
  obtain ⟨p, dx, e, hB⟩ := r
  exact ⟨p, dx, _, e, hB, h⟩
theorem inM {n : Int} {B : Hp} {v : V} {m : Str} (h : ∀ w, (fM n w).lookup m = none) (r : Rep c B (.met n d) v) : ∃ p dx fs, v = .ref p ∧ B p = some (.ins c.M dx fs) ∧ fs.lookup m = none := by
  obtain ⟨p, dx, w, e, hB, _⟩ := r
  exact ⟨p, dx, _, e, hB, h w⟩

/-! ### own operators -/
theorem op_dun {op : Operator} {g : Addr} {fd : FuncData} {ps : List Str} {sp : Sp} {CA : Addr} (sf : PySem.W.selfFirst X.K CA = true) (hs : PySem.W.findIn X.K (.ref CA) (PySem.dunder op.info.2) = some (some (.ref g))) (hf : PySem.W.isFn X.K (.ref g) = true) (F : FnOk X.prog X.w X.K X.mg X.base CX0 k g fd ps sp) (hr : Room k X.A) (hb : Binds X.K fd ps []) :
    OpR X (binaryOp op) (fun x y H Q => ∃ a dx fs b dy gs, x = .ref a ∧ y = .ref b ∧ H a = some (.ins CA dx fs) ∧ H b = some (.ins CA dy gs) ∧ sp [x, y] H Q E0) := by
  intro pins s σ H x y v u Q I rx ry h
  obtain ⟨a, dx, fs, b, dy, gs, rfl, rfl, ha, hb', q⟩ := h
  cases (show v = Value.ref a from rx)
  cases (show u = Value.ref b from ry)
  obtain ⟨mA, O, _⟩ := ins_get I.hok ha
  obtain ⟨od, J, _⟩ := O.look
  obtain ⟨mA', O', _⟩ := ins_get I.hok hb'
  obtain ⟨od', J', _⟩ := O'.look
  obtain ⟨m, hF⟩ := I.fr
  refine PySem.W.binop_K hF I.ok.mod.kin J J'.type sf hs hf ?_
  refine wpAny_mono (run_fn (us := [.ref a, .ref b]) (vs := [.ref a, .ref b]) F hr hb .nil pass0 I (.cons rfl (.cons rfl .nil)) (by rw [List.append_nil]; exact q)) (fun w s' z => ?_) fun _ _ x => x
  obtain ⟨z', H', I', rz, qz⟩ := z
  exact SlX.cmpback rz ⟨z', H', I', rz, qz⟩
theorem ev_dun {op : Operator} {nm : Str} {q1 q2 : Rat} (T : Fx X.K X.mg c) (G : FnM X.prog X.w X.K X.mg X.base c k c.R nm R) (hn : PySem.dunder op.info.2 = nm) (hr : Room k X.A) (hR : R [.rat q1, .rat q2] d) (ha : Ev X c st a C (.im (.rat q1)) C1) (hb : Ev X c st b C1 (.im (.rat q2)) C2) :
    Ev X c st (.BinOp a op b pos) C (.im d) C2 := by
  obtain ⟨f, fd, ps, hm, hbi, hF⟩ := G
  refine ev_bin (op_dun T.sf (by rw [hn]; exact hm.at_) hm.fn hF hr hbi) (fun B H x y s h1 h2 Q k => ?_) ha hb
  obtain ⟨p, dx, e1, hp⟩ := id h1
  obtain ⟨p', dx', e2, hp'⟩ := id h2
  exact ⟨p, dx, _, p', dx', _, e1, e2, s _ _ hp, s _ _ hp', B, [.rat q1, .rat q2], d, s, ⟨x, [y], rfl, h1, y, [], rfl, h2, rfl⟩, hR, fun v B' H' s' x' r' => k v B' H' s' x' r'⟩
theorem un_dun {g : Addr} {fd : FuncData} {ps : List Str} {sp : Sp} {CA : Addr} (hs : PySem.W.findIn X.K (.ref CA) "__neg__" = some (some (.ref g))) (hf : PySem.W.isFn X.K (.ref g) = true) (F : FnOk X.prog X.w X.K X.mg X.base CX0 k g fd ps sp) (hr : Room k X.A) (hb : Binds X.K fd ps []) :
    UnR X (unaryOp .USub) (fun x H Q => ∃ a dx fs, x = .ref a ∧ H a = some (.ins CA dx fs) ∧ sp [x] H Q E0) := by
  intro pins s σ H x v Q I rx h
  obtain ⟨a, dx, fs, rfl, ha, q⟩ := h
  cases (show v = Value.ref a from rx)
  obtain ⟨mA, O, _⟩ := ins_get I.hok ha
  obtain ⟨od, J, _⟩ := O.look
  obtain ⟨m, hF⟩ := I.fr
  refine PySem.W.ksp_neg hF I.ok.mod.kin J hs hf ?_
  exact run_fn (us := [.ref a]) (vs := [.ref a]) F hr hb .nil pass0 I (.cons rfl .nil) (by rw [List.append_nil]; exact q)
theorem ev_negQ {q1 : Rat} (G : FnM X.prog X.w X.K X.mg X.base c k c.R "__neg__" R) (hr : Room k X.A) (hR : R [.rat q1] d) (ha : Ev X c st a C (.im (.rat q1)) C1) : Ev X c st (.UnaryOp .USub a pos) C (.im d) C1 := by
  obtain ⟨f, fd, ps, hm, hbi, hF⟩ := G
  refine ev_un (un_dun hm.at_ hm.fn hF hr hbi) (fun B H x s h1 Q k => ?_) ha
  obtain ⟨p, dx, e1, hp⟩ := id h1
  exact ⟨p, dx, _, e1, s _ _ hp, B, [.rat q1], d, s, ⟨x, [], rfl, h1, rfl⟩, hR, fun v B' H' s' x' r' => k v B' H' s' x' r'⟩
/-- ==, an instance of Ratio on the left; a text or a Ratio on the right -/
theorem op_eqOwn {g : Addr} {fd : FuncData} {ps : List Str} {sp : Sp} (T : Fx X.K X.mg c) (hs : PySem.W.findIn X.K (.ref c.R) "__eq__" = some (some (.ref g))) (hf : PySem.W.isFn X.K (.ref g) = true) (F : FnOk X.prog X.w X.K X.mg X.base CX0 k g fd ps sp) (hr : Room k X.A) (hb : Binds X.K fd ps []) :
    OpR X (compareOp .Eq) (fun x y H Q => ∃ a dx fs, x = .ref a ∧ H a = some (.ins c.R dx fs) ∧ ((∃ z, y = .str z) ∨ ∃ b dy gs, y = .ref b ∧ H b = some (.ins c.R dy gs)) ∧ sp [x, y] H Q E0) := by
  intro pins s σ H x y v u Q I rx ry h
  obtain ⟨a, dx, fs, rfl, ha, hy, q⟩ := h
  cases (show v = Value.ref a from rx)
  obtain ⟨mA, O, _⟩ := ins_get I.hok ha
  obtain ⟨od, J, _⟩ := O.look
  obtain ⟨m, hF⟩ := I.fr
  show wpAny _ _ (richCompare .Eq _ _) _ _ _
  have fin : ∀ w s', EP X pins σ Q w s' → PySem.W.CmpBack (EP X pins σ Q) w s' := fun w s' z => by
    obtain ⟨z', H', I', rz, qz⟩ := z
    exact SlX.cmpback rz ⟨z', H', I', rz, qz⟩
  rcases hy with ⟨z, rfl⟩ | ⟨b, dy, gs, rfl, hb'⟩
  · obtain ⟨t, rfl⟩ := (show ∃ t, u = Value.str z t from ry)
    refine PySem.W.cmp_K (op := .Eq) (tb := .type "str") hr.units0 hF I.ok.mod.kin J (PySem.W.Looks.of_pure rfl) T.nfs hs hf ?_
    exact wpAny_mono (run_fn (us := [.ref a, .str z t]) (vs := [.ref a, .str z]) F hr hb .nil pass0 I (.cons rfl (.cons ⟨t, rfl⟩ .nil)) (by rw [List.append_nil]; exact q)) fin fun _ _ x => x
  · cases (show u = Value.ref b from ry)
    obtain ⟨mA', O', _⟩ := ins_get I.hok hb'
    obtain ⟨od', J', _⟩ := O'.look
    refine PySem.W.cmp_K (op := .Eq) (tb := .ref c.R) hr.units0 hF I.ok.mod.kin J J'.type T.nf hs hf ?_
    exact wpAny_mono (run_fn (us := [.ref a, .ref b]) (vs := [.ref a, .ref b]) F hr hb .nil pass0 I (.cons rfl (.cons rfl .nil)) (by rw [List.append_nil]; exact q)) fin fun _ _ x => x
end
end K48

namespace PySem.W
open PySem PySem.Calls PyProof.Rows
section
variable {prog : Program} {w : World} {A : Around} {E : Value → Shared → Prop} {s : Shared} {K : Frag} {x C L f : Addr} {h₀ : Heap} {m : Str → Option Value} {ox : Obj} {od : Option Obj} {b tb : Value}
theorem k48_obj_ne {Q : Value → Shared → Prop} (hu : A.units + 1 < cLine) (X : K.In s.heap) (I : InstAt s.heap x ox C od) (hs : findIn K (.ref C) "__eq__" = some (some (.ref f))) (hf : isFn K (.ref f) = true) (hm : mroIn K C (.type "object") = some true)
    (h : wpAny (model prog w) A.in1 (call (.ref f) [.ref x, b]) (fun v s' => ∃ t, v = .bool t ∧ Q (.bool (!t)) s') E s) : wpAny (model prog w) A (call (.builtin "object.__ne__") [.ref x, b]) Q E s := by
  have sub : Looks (model prog w) s.heap (isInstance (.ref x) (.type "object")) true := I.type.andThen (looks_mroIn X hm)
  refine wpAny_call (codeAny_call_builtin PySem.F.cmp_object.ne.plain PySem.F.cmpEntry_ne (@check_slot (model prog w) _ _ s "object.__ne__" "object" "__ne__" (.ref x) [b] [] _ PySem.F.cmpKind_ne PySem.F.cmpSplit_ne sub (PySem.F.cmpArgs_ne (.ref x) b) ?_))
  unfold Builtin.«object.__ne__»
  have hu' : A.in1.units < cLine := hu
  repeat (first
    | with_reducible refine wpAny_cRoomFor hu' ?_
    | (refine wpAny_bind (m := callSpecialIfBound? (.ref x) (Str.ofString "__eq__") [b])
        (ifBound_K X I hs hf (wpAny_mono h (fun r s' hr => by
          obtain ⟨t, rfl, hq⟩ := hr
          repeat (first | exact hq | exact wpAny_pure hq | exact wpAny_truthy_bool hq | (refine wpAny_bind (m := truthy (.bool _)) (wpAny_truthy_bool ?_)) | wp_step)) fun _ _ e => e)))
    | wp_step)
theorem k48_ne {Q : Value → Shared → Prop} (hu : A.units + 1 < cLine) (F : Fr h₀ L s.heap m) (X₀ : K.In h₀) (I : InstAt s.heap x ox C od) (hb : Looks (model prog w) s.heap (typeOf b) tb) (hn : notFirst K C tb = true)
    (hne : findIn K (.ref C) "__ne__" = some (some (.builtin "object.__ne__"))) (hs : findIn K (.ref C) "__eq__" = some (some (.ref f))) (hf : isFn K (.ref f) = true) (hm : mroIn K C (.type "object") = some true)
    (h : wpAny (model prog w) A.in1 (call (.ref f) [.ref x, b]) (fun v s' => ∃ t, v = .bool t ∧ Q (.bool (!t)) s') E s) : wpAny (model prog w) A (richCompare .NotEq (.ref x) b) Q E s := by
  have X := X₀.keeps F.keep
  have one : wpAny (model prog w) A (tryCompare (.ref x) "__ne__" b) (fun r s' => ∃ v, r = some v ∧ Q v s') E s := by
    unfold tryCompare
    refine wpAny_bind ?_
    simp only [callSpecialIfBound?, bindSpecialIfBound?]
    refine wpAny_holding (wpAny_bind (wpAny_bind (wpAny_bind (I.type.here ((looks_findIn X hne).here ?_)))))
    refine wpAny_bind (wpAny_askSetting (wpAny_ite ?_))
    have fin : wpAny (model prog w) A (call (.builtin "object.__ne__") ([.ref x] ++ [b]) >>= fun v => pure (some v)) (fun a s' => wpAny (model prog w) A (match a with | some .notImplemented => pure none | none => pure none | some v => pure (some v)) (fun r s' => ∃ v, r = some v ∧ Q v s') E s') E s :=
      wpAny_bind (wpAny_mono (k48_obj_ne (Q := fun v s' => ∃ t, v = .bool t ∧ Q v s') hu X I hs hf hm (wpAny_mono h (fun v s' hv => let ⟨t, e, q⟩ := hv; ⟨t, e, _, rfl, q⟩) fun _ _ e => e)) (fun v s' hv => by
        obtain ⟨t, rfl, q⟩ := hv
        exact wpAny_pure (wpAny_pure ⟨_, rfl, q⟩)) fun _ _ e => e)
    simp only [PySem.F.cmp_object.ne.bind]
    split
    · exact wpAny_bind (wpAny_pure (wpAny_pure (by exact fin)))
    · exact wpAny_tryCatch (wpAny_bind (wpAny_pure (wpAny_pure (by exact fin))))
  unfold richCompare
  simp only [oneThing_ref]
  refine wpAny_holding (wpAny_bind (wpAny_cRoomFor (Nat.lt_of_succ_lt hu) ?_))
  rw [cmpInfo_NotEq]
  dsimp only
  refine wpAny_bind (I.type.here (wpAny_bind (hb.here ?_)))
  split
  · rename_i q
    have e : subIn K tb (.ref C) = some false := by
      rcases Bool.or_eq_true_iff.mp hn with e | e
      · rw [beq_iff_eq.mp e] at q; simp at q
      · exact beq_iff_eq.mp e
    refine wpAny_bind ((looks_subIn X e).here ?_)
    simp only [Bool.false_eq_true, if_false]
    refine wpAny_bind (wpAny_mono one (fun r s' z => ?_) fun _ _ e => e)
    obtain ⟨v, rfl, hq⟩ := z
    exact wpAny_pure hq
  · refine wpAny_bind (wpAny_pure ?_)
    simp only [Bool.false_eq_true, if_false]
    refine wpAny_bind (wpAny_mono one (fun r s' z => ?_) fun _ _ e => e)
    obtain ⟨v, rfl, hq⟩ := z
    exact wpAny_pure hq
end
end PySem.W

namespace K48
open PySem PySem.Spec PyProof.Rows L2

/-! ### a def's promise by its body -/
/-- the program, the world, the part of the heap, the module's names, the base, the classes -/
structure Wd where
  P : Program
  w : World
  K : PySem.W.Frag
  mg : Str → Option Value
  base : Heap
  c : Cl
abbrev Wd.fp (W : Wd) (k : Nat) (x : Str) (R : List D → D → Prop) : Prop := FnP W.P W.w W.K W.mg W.base W.c k x R
abbrev Wd.fs (W : Wd) (k : Nat) (x : Str) (R : Int × Int → List D → D → Int × Int → Prop) : Prop := FnS W.P W.w W.K W.mg W.base W.c k x R
abbrev Wd.fm (W : Wd) (k : Nat) (C : Addr) (m : Str) (R : List D → D → Prop) : Prop := FnM W.P W.w W.K W.mg W.base W.c k C m R
abbrev BX (W : Wd) (N : List Str) (qual : Str) (stm : Stmt) (f : Addr) (cdv : Value) (A : Around) (outer : List Env) (s : Shared) (H : Hp) (E : XK) : Cx := (cxOf CX0 W.P W.w W.K W.mg W.base N qual (defScope stm) f cdv A outer s H E).nox
def Fin (o : Out) (S : Option (Int × Int)) (d : D) : Prop := match o with
  | .rt m S' => m.toD = d ∧ S' = S
  | .nx C' => d = .non ∧ C'.S = S
/-- the configuration at the entry -/
def entry (N : List Str) (ds : List (Option Sl)) : List (Option Sl) := ds ++ List.replicate (N.length - ds.length) none
def BodyP (W : Wd) (k : Nat) (N : List Str) (qual : Str) (stm : Stmt) (ds : List D) (d : D) : Prop := ∀ f cdv A outer s H E st, Room k (BX W N qual stm f cdv A outer s H E).A →
  ∃ o, Fin o none d ∧ Ex (BX W N qual stm f cdv A outer s H E) W.c st (defBody stm) ⟨none, entry N (ds.map sd)⟩ o
def BodyS (W : Wd) (k : Nat) (N : List Str) (qual : Str) (stm : Stmt) (S : Int × Int) (ds : List D) (d : D) (S' : Int × Int) : Prop := ∀ f cdv A outer s H E st, Room k (BX W N qual stm f cdv A outer s H E).A →
  ∃ o, Fin o (some S') d ∧ Ex (BX W N qual stm f cdv A outer s H E) W.c st (defBody stm) ⟨some S, entry N (some .stt :: ds.map sd)⟩ o
theorem OwnE.nones {c : Cl} {st : Addr} {B H : Hp} : ∀ n : Nat, OwnE c st B H (List.replicate n none) (List.replicate n none) []
  | 0 => rfl
  | n + 1 => OwnE.nones n
theorem OwnE.start {c : Cl} {st : Addr} {B H : Hp} (n : Nat) : ∀ {ds : List D} {vs : List V}, RepL c B ds vs → OwnE c st B H (ds.map sd ++ List.replicate n none) (vs.map some ++ List.replicate n none) []
  | [], vs, h => by cases (show vs = [] from h); exact OwnE.nones n
  | d :: ds, vs, ⟨v, r, e, h, q⟩ => by cases e; exact ⟨[], [], rfl, ⟨h, rfl⟩, OwnE.start n q⟩
theorem fin_rt {c : Cl} {st : Addr} {o : Out} {S : Option (Int × Int)} {d : D} {B H : Hp} {F : List Addr} {Q : VK} (f : Fin o S d) (q : ∀ v B' H', Same B' H' → (∀ a ∈ stF st S, B' a = none) → (∀ s t, S = some (s, t) → H' st = some (.lst [.int s, .int t])) → Ext F (stF st S) B H B' H' → Rep c B' d v → Q v H') :
    PostO c st o F B H { nx := fun _ H' => Q .non H', rt := Q } := by
  cases o with
  | rt m S' =>
    obtain ⟨rfl, rfl⟩ := f
    intro v B' H' Fm k t n o x
    obtain ⟨n1, n2, n3⟩ := nd_app n
    exact q v (addF B' H' Fm) H' (addF_sub k.sub) (fun a ha => by rw [addF_out (n3 a ha)]; exact k.out a ha) k.stc (x.frz o) (OwnT.frz (addF_same o) m v Fm (fun a ha => addF_in ha) t)
  | nx C' =>
    obtain ⟨rfl, rfl⟩ := f
    intro σ' B' H' F' k x
    obtain ⟨F0, e, ow⟩ := k.own
    exact q .non B' H' k.sub (fun a ha => k.out a (by rw [e]; exact List.mem_append_left _ ha)) k.stc (x.sub fun a ha => by rw [e]; exact List.mem_append_left _ ha) rfl
theorem bodyI {X : Cx} {c : Cl} {st : Addr} {ss : List Stmt} {C : Cfg} {o : Out} {S : Option (Int × Int)} {d : D} (h : Ex X c st ss C o) (f : Fin o S d) : ∃ o, Fin o S d ∧ Ex X c st ss C o := ⟨o, f, h⟩
section
variable {W : Wd} {k : Nat} {N ps : List Str} {x qual : Str} {stm : Stmt} {f : Addr} {fd : FuncData} {dvs : List V} {R : List D → D → Prop} {RS : Int × Int → List D → D → Int × Int → Prop}
theorem fn_okP (F : FunD W.K x qual (defArgs stm) (defBody stm) (defScope stm) dvs [] f fd) (S : FnScope N ps (defScope stm)) (hl : ∀ ds d, R ds d → ds.length = ps.length) (hb : ∀ ds d, R ds d → BodyP W k N qual stm ds d) :
    FnOk W.P W.w W.K W.mg W.base CX0 (k + 1) f fd ps (spP W.c R) := by
  refine F.ok S (fun vs H Q E ⟨B, ds, d, s, r, hR, _⟩ => by rw [r.len]; exact hl ds d hR) fun cdv A outer s H vs Q E hr ⟨B, ds, d, sB, r, hR, q⟩ => ?_
  obtain ⟨o, hf, hx⟩ := hb ds d hR f cdv A outer s H E 0 hr
  have ok : OK W.c 0 ⟨none, entry N (ds.map sd)⟩ B H [] (L2.start N vs) := by
    refine ⟨sB, List.nodup_nil, fun _ h => (by cases h), ⟨[], rfl, ?_⟩, fun _ _ h => (by cases h)⟩
    unfold entry L2.start
    rw [List.length_map, r.len]
    exact OwnE.start _ r
  obtain ⟨t, h1, h2⟩ := hx (L2.start N vs) B H [] ok { nx := fun _ H' => Q .non H', rt := Q } (fin_rt hf fun v B' H' s' _ _ x' r' => q v B' H' s' x' r')
  exact ⟨t, h1.nox, h2⟩
theorem fn_okS (F : FunD W.K x qual (defArgs stm) (defBody stm) (defScope stm) dvs [] f fd) (S : FnScope N ps (defScope stm)) (hl : ∀ s ds d s', RS s ds d s' → ds.length + 1 = ps.length) (hb : ∀ s ds d s', RS s ds d s' → BodyS W k N qual stm s ds d s') :
    FnOk W.P W.w W.K W.mg W.base CX0 (k + 1) f fd ps (spS W.c RS) := by
  refine F.ok S (fun vs H Q E ⟨st, s, ds, d, s', vs', B, e, _, _, _, r, hR, _⟩ => by rw [e, List.length_cons, r.len]; exact hl s ds d s' hR) fun cdv A outer s H vs Q E hr ⟨st, S0, ds, d, S1, vs', B, ev, sB, hB, hH, r, hR, q⟩ => ?_
  subst ev
  obtain ⟨o, hf, hx⟩ := hb S0 ds d S1 hR f cdv A outer s H E st hr
  have ok : OK W.c st ⟨some S0, entry N (some .stt :: ds.map sd)⟩ B H [st] (L2.start N (.ref st :: vs')) := by
    refine ⟨sB, by simp, fun a h => (by rw [List.mem_singleton.mp h]; exact hB), ⟨[], rfl, ?_⟩, fun a b h => (by cases h; exact hH)⟩
    unfold entry L2.start
    rw [List.length_cons, List.length_map, List.length_cons, r.len]
    exact ⟨[], [], rfl, ⟨rfl, rfl⟩, OwnE.start _ r⟩
  obtain ⟨t, h1, h2⟩ := hx _ B H [st] ok { nx := fun _ H' => Q .non H', rt := Q } (fin_rt hf fun v B' H' s' o' c' x' r' => q v B' H' s' (o' st (List.mem_singleton.mpr rfl)) (c' S1.1 S1.2 rfl) x' r')
  exact ⟨t, h1.nox, h2⟩
theorem fnP_mk {nm : Str} {f : Addr} (h : ∃ fd, FunD W.K nm nm (defArgs stm) (defBody stm) (defScope stm) [] [] f fd) (hm : W.mg x = some (.ref f)) (S : FnScope N ps (defScope stm)) (hl : ∀ ds d, R ds d → ds.length = ps.length) (hb : ∀ ds d, R ds d → BodyP W k N nm stm ds d)
    (bi : ∀ (kV doc pm : Value) (an : Option Addr) (cdv ct : Value) (us : List Value), us.length = ps.length → bindArgs (PySem.W.fnOf nm nm (defArgs stm) (defBody stm) (defScope stm) .none kV doc pm an cdv ct) ⟨us, []⟩ = pure (ps.zip us)) : W.fp (k + 1) x R :=
  let ⟨fd, F⟩ := h
  ⟨f, fd, ps, hm, F.kp, F.bindsN bi, fn_okP F S hl hb⟩
theorem fnS_mk {nm : Str} {f : Addr} (h : ∃ fd, FunD W.K nm nm (defArgs stm) (defBody stm) (defScope stm) [] [] f fd) (hm : W.mg x = some (.ref f)) (S : FnScope N ps (defScope stm)) (hl : ∀ s ds d s', RS s ds d s' → ds.length + 1 = ps.length) (hb : ∀ s ds d s', RS s ds d s' → BodyS W k N nm stm s ds d s')
    (bi : ∀ (kV doc pm : Value) (an : Option Addr) (cdv ct : Value) (us : List Value), us.length = ps.length → bindArgs (PySem.W.fnOf nm nm (defArgs stm) (defBody stm) (defScope stm) .none kV doc pm an cdv ct) ⟨us, []⟩ = pure (ps.zip us)) : W.fs (k + 1) x RS :=
  let ⟨fd, F⟩ := h
  ⟨f, fd, ps, hm, F.kp, F.bindsN bi, fn_okS F S hl hb⟩
theorem fnM_mk {m : Str} {C f : Addr} (h : ∃ fd, FunD W.K m qual (defArgs stm) (defBody stm) (defScope stm) [] [] f fd) (hm : Meth W.K C m f) (S : FnScope N ps (defScope stm)) (hl : ∀ ds d, R ds d → ds.length = ps.length) (hb : ∀ ds d, R ds d → BodyP W k N qual stm ds d)
    (bi : ∀ (kV doc pm : Value) (an : Option Addr) (cdv ct : Value) (us : List Value), us.length = ps.length → bindArgs (PySem.W.fnOf m qual (defArgs stm) (defBody stm) (defScope stm) .none kV doc pm an cdv ct) ⟨us, []⟩ = pure (ps.zip us)) : W.fm (k + 1) C m R :=
  let ⟨fd, F⟩ := h
  ⟨f, fd, ps, hm, F.bindsN bi, fn_okP F S hl hb⟩
end
end K48

namespace K48
open PySem PySem.Spec PyProof.Rows L2

/-! ### tables -/
def tab {α : Type} (n : Nat) (g : Nat → α) : List α := (List.range n).map g
section
variable {α β : Type} {n i : Nat} {g : Nat → α}
theorem tab_len : (tab n g).length = n := by simp [tab]
theorem tab_get (h : i < n) : (tab n g)[i]? = some (g i) := by
  unfold tab
  rw [List.getElem?_map, List.getElem?_range h]; rfl
theorem tab_get' {d : α} (h : (tab n g)[i]? = some d) : i < n ∧ d = g i := by
  have h1 : i < n := by have := (List.getElem?_eq_some_iff.mp h).1; rwa [tab_len] at this
  rw [tab_get h1] at h
  exact ⟨h1, (Option.some.inj h).symm⟩
theorem tab_map {f : α → β} : (tab n g).map f = tab n fun i => f (g i) := by simp [tab]
theorem tab_congr {g' : Nat → α} (h : ∀ i, i < n → g i = g' i) : tab n g = tab n g' := by
  unfold tab
  exact List.map_congr_left fun i hi => h i (List.mem_range.mp hi)
theorem tab_ext {l : List α} (hl : l.length = n) (h : ∀ i, i < n → l[i]? = some (g i)) : l = tab n g := by
  refine List.ext_getElem? fun i => ?_
  by_cases hi : i < n
  · rw [h i hi, tab_get hi]
  · rw [List.getElem?_eq_none (by omega), List.getElem?_eq_none (by rw [tab_len]; omega)]
theorem tab_set {v : α} : (tab n g).set i v = tab n fun j => if j = i then v else g j := by
  refine tab_ext (by rw [List.length_set, tab_len]) fun j hj => ?_
  by_cases e : j = i
  · subst e; rw [List.getElem?_set_self (by rw [tab_len]; exact hj), if_pos rfl]
  · rw [List.getElem?_set_ne (Ne.symm e), tab_get hj, if_neg e]
theorem tab_succ : tab (n + 1) g = tab n g ++ [g n] := by simp [tab, List.range_succ]
theorem tab_snoc {v : α} : tab n g ++ [v] = tab (n + 1) fun j => if j = n then v else g j := by
  rw [tab_succ, if_pos rfl]
  congr 1
  exact tab_congr fun i hi => by rw [if_neg (by omega)]
end
theorem ix_lst {n i : Nat} {g : Nat → D} (h : i < n) : ixD (.lst (tab n g)) (i : Int) = some (g i) := by
  show atI (tab n g) (i : Int) = _
  unfold atI
  rw [tab_len, ixN_nat h]
  exact tab_get h
theorem ix_tup {n i : Nat} {g : Nat → D} (h : i < n) : ixD (.tup (tab n g)) (i : Int) = some (g i) := ix_lst (g := g) h
theorem at_tab {α : Type} {n i : Nat} {g : Nat → α} (h : i < n) : atI (tab n g) (i : Int) = some (g i) := by
  unfold atI
  rw [tab_len, ixN_nat h]
  exact tab_get h
theorem ix_lst0 {l : List D} {i : Nat} {d : D} (h : l[i]? = some d) : ixD (.lst l) (i : Int) = some d := by
  show atI l (i : Int) = _
  unfold atI
  rw [ixN_nat (List.getElem?_eq_some_iff.mp h).1]
  exact h
theorem ix_tup0 {l : List D} {i : Nat} {d : D} (h : l[i]? = some d) : ixD (.tup l) (i : Int) = some d := ix_lst0 h
theorem rgD_tab {lo c : Int} {n : Nat} : rgD lo c n = tab n fun i => .int (lo + (i : Int) * c) := rfl
theorem rg1_tab {n : Nat} : rgD 0 1 n = tab n fun i => .int (i : Int) := by
  rw [rgD_tab]; exact tab_congr fun i _ => by rw [Int.zero_add, Int.mul_one]
/-! ### loops -/
def lp {α : Type} (f : Nat → α → α) : Nat → α → α
  | 0, a => a
  | n + 1, a => f n (lp f n a)
theorem lp_inv {α : Type} {f : Nat → α → α} {a : α} (P : Nat → α → Prop) {n : Nat} (h0 : P 0 a) (h : ∀ i b, i < n → P i b → P (i + 1) (f i b)) : P n (lp f n a) := by
  have : ∀ m, m ≤ n → P m (lp f m a) := by
    intro m
    induction m with
    | zero => intro _; exact h0
    | succ m ih => intro hm; exact h m _ (by omega) (ih (by omega))
  exact this n (Nat.le_refl _)
section
variable {X : Cx} {c : Cl} {st : Addr} {C C0 C1 C2 C3 : Cfg} {e a b e2 elt : Expr} {d d1 d2 d3 : D} {m m1 m2 : Mu} {pos p p2 tpos : Pos} {o : Out} {s : Stmt} {ss body : List Stmt} {es elts ifs : List Expr} {ds xs ys l l' : List D} {tg iter : Expr} {kk n : Nat} {scope : Scope}
theorem ex_to {C2 C3 : Cfg} (h : Ex X c st ss C (.nx C2)) (hS : C2.S = C3.S) (w : Wk C2.ρ C3.ρ) : Ex X c st ss C (.nx C3) := ex_forget w hS.symm h
theorem turnI {C1 C2 G : Cfg} {ts : List Nat} (h1 : Tg X c st tg C0 d C1 ts) (h2 : Ex X c st ss C1 (.nx C2)) (hS : C2.S = G.S) (w : Wk C2.ρ G.ρ) : ∃ C1 ts, Tg X c st tg C0 d C1 ts ∧ Ex X c st ss C1 (.nx G) := ⟨C1, ts, h1, ex_to h2 hS w⟩
/-- a loop without a return: the state a, by turns; P what holds of it -/
theorem es_loop {α : Type} (G : α → Cfg) (f : Nat → α → α) (P : Nat → α → Prop) {a0 : α} {g : Nat → D} (h0 : P 0 a0) (hp : PassesOwn (model X.prog X.w) X.A X.env X.xe) (hi : Iter X c st tg iter C (tab n g) (G a0))
    (turn : ∀ i a, i < n → P i a → (∃ C1 ts, Tg X c st tg (G a) (g i) C1 ts ∧ Ex X c st body C1 (.nx (G (f i a)))) ∧ P (i + 1) (f i a)) (hc : X.calm = true := by rfl)
    (hs : ∀ x, foldedSetIterable iter X.env x = pure x := by intro _; rfl) : Es X c st (.For tg iter body [] pos) C (.nx (G (lp f n a0))) := by
  have inv : ∀ m, m ≤ n → P m (lp f m a0) := fun m hm => lp_inv P h0 fun i b hi' hb => (turn i b (by omega) hb).2
  have q := es_forAll (X := X) (c := c) (st := st) (body := body) (pos := pos) (fun i => G (lp f i a0)) hp hi (fun i d hd => by
    obtain ⟨h1, rfl⟩ := tab_get' hd
    exact (turn i _ h1 (inv i (by omega))).1) hc hs
  rw [tab_len] at q
  exact q
/-- a loop that leaves with m at the first i of which p does not hold -/
theorem es_all (p : Nat → Bool) {g : Nat → D} {S' : Option (Int × Int)} (hp : PassesOwn (model X.prog X.w) X.A X.env X.xe) (hi : Iter X c st tg iter C (tab n g) C1)
    (turn : ∀ i, i < n → (∀ j, j < i → p j = true) → ∃ C2 ts, Tg X c st tg C1 (g i) C2 ts ∧ Ex X c st body C2 (if p i = true then .nx C1 else .rt m S')) (hc : X.calm = true := by rfl)
    (hs : ∀ x, foldedSetIterable iter X.env x = pure x := by intro _; rfl) : Es X c st (.For tg iter body [] pos) C (if (∀ i, i < n → p i = true) then .nx C1 else .rt m S') := by
  by_cases h : ∀ i, i < n → p i = true
  · rw [if_pos h]
    refine es_forAll (fun _ => C1) hp hi (fun i d hd => ?_) hc hs
    obtain ⟨h1, rfl⟩ := tab_get' hd
    obtain ⟨C2, ts, t1, t2⟩ := turn i h1 fun j hj => h j (by omega)
    rw [if_pos (h i h1)] at t2
    exact ⟨C2, ts, t1, t2⟩
  · rw [if_neg h]
    have ex : ∃ i, i < n ∧ p i = false ∧ ∀ j, j < i → p j = true := by
      have h' : ∃ i, i < n ∧ p i = false := by
        obtain ⟨i, hi⟩ := Classical.not_forall.mp h
        obtain ⟨h1, h2⟩ := Classical.not_imp.mp hi
        exact ⟨i, h1, by simpa using h2⟩
      have : ∀ m i, i ≤ m → i < n → p i = false → ∃ i, i < n ∧ p i = false ∧ ∀ j, j < i → p j = true := by
        intro m
        induction m with
        | zero => intro i hi h1 h2; exact ⟨i, h1, h2, fun j hj => by omega⟩
        | succ m ih =>
          intro i hi h1 h2
          by_cases q : ∃ j, j < i ∧ p j = false
          · obtain ⟨j, q1, q2⟩ := q
            exact ih j (by omega) (by omega) q2
          · refine ⟨i, h1, h2, fun j hj => ?_⟩
            cases e : p j with
            | true => rfl
            | false => exact (q ⟨j, hj, e⟩).elim
      obtain ⟨i, h1, h2⟩ := h'
      exact this i i (Nat.le_refl _) h1 h2
    obtain ⟨i, h1, h2, h3⟩ := ex
    obtain ⟨C2, ts, t1, t2⟩ := turn i h1 h3
    rw [if_neg (by rw [h2]; decide)] at t2
    refine es_forRet (fun _ => C1) i hp hi (fun j d hj hd => ?_) (tab_get h1) t1 t2 hc hs
    obtain ⟨q1, rfl⟩ := tab_get' hd
    obtain ⟨C3, ts', u1, u2⟩ := turn j q1 fun k hk => h3 k (by omega)
    rw [if_pos (h3 j hj)] at u2
    exact ⟨C3, ts', u1, u2⟩
theorem ex_ifnx {b : Prop} [Decidable b] {S' : Option (Int × Int)} (h1 : Es X c st s C (if b then .nx C1 else .rt m S')) (h2 : b → Ex X c st ss C1 o) : Ex X c st (s :: ss) C (if b then o else .rt m S') := by
  by_cases h : b
  · rw [if_pos h] at h1 ⊢; exact ex_cons h1 (h2 h)
  · rw [if_neg h] at h1 ⊢; exact ex_stop h1
theorem Fin.ite {b : Prop} [Decidable b] {S : Option (Int × Int)} {o1 o2 : Out} (h1 : b → Fin o1 S d) (h2 : ¬ b → Fin o2 S d) : Fin (if b then o1 else o2) S d := by
  by_cases h : b
  · rw [if_pos h]; exact h1 h
  · rw [if_neg h]; exact h2 h

/-! ### comprehensions -/
theorem Tg.mono {ts ts' : List Nat} (h : Tg X c st tg C d C1 ts) (k : ∀ i ∈ ts, i ∈ ts') : Tg X c st tg C d C1 ts' := fun σ B H F v o r Q q => h σ B H F v o r Q fun σ' B' H' F' o' x f => q σ' B' H' F' o' x ⟨f.1, fun j hj => f.2 j fun z => hj (k j z)⟩
theorem ev_comp {own : List (Str × Nat)} {g : Nat → D} (Ss : Nat → Option (Int × Int)) (v : Nat → Option Mu) (hN : X.N.Nodup) (hi : Iter X c st tg iter C (tab n g) C1) (ok : BlkOk X.N X.env.scope scope own) (hl : n ≤ 1000)
    (pl : ∀ i ∈ own.map (·.2), plainSl C1.ρ[i]? = true) (h0 : Ss 0 = C1.S)
    (turn : ∀ i, i < n → ∃ Ct Cm ts, (∀ j ∈ ts, j ∈ own.map (·.2)) ∧ wipeR Ct.ρ (own.map (·.2)) = wipeR C1.ρ (own.map (·.2)) ∧ (∀ i' ∈ own.map (·.2), plainSl Ct.ρ[i']? = true) ∧ ∀ s H D cl fp,
      Tg (Blk X scope s H D cl fp) c st tg ⟨Ss i, wipeR C1.ρ (own.map (·.2))⟩ (g i) Ct ts ∧
      ((v i = none ∧ EvTs (Blk X scope s H D cl fp) c st ifs Ct false ⟨Ss (i + 1), Ct.ρ⟩) ∨
       (∃ m, v i = some m ∧ EvTs (Blk X scope s H D cl fp) c st ifs Ct true Cm ∧ Ev (Blk X scope s H D cl fp) c st elt Cm m ⟨Ss (i + 1), Ct.ρ⟩)))
    (hc : X.calm = true := by rfl) (hs : ∀ x, foldedSetIterable iter X.env x = pure x := by intro _; rfl) :
    Ev X c st (.ListComp elt [⟨tg, iter, ifs, 0⟩] scope pos) C (.ls (kept (tab n v))) ⟨Ss n, C1.ρ⟩ := by
  have tn : ∀ i, ∃ Ct Cm, i < n → (wipeR Ct.ρ (own.map (·.2)) = wipeR C1.ρ (own.map (·.2)) ∧ (∀ i' ∈ own.map (·.2), plainSl Ct.ρ[i']? = true) ∧ ∀ s H D cl fp,
      Tg (Blk X scope s H D cl fp) c st tg ⟨Ss i, wipeR C1.ρ (own.map (·.2))⟩ (g i) Ct (own.map (·.2)) ∧
      ((v i = none ∧ EvTs (Blk X scope s H D cl fp) c st ifs Ct false ⟨Ss (i + 1), Ct.ρ⟩) ∨
       (∃ m, v i = some m ∧ EvTs (Blk X scope s H D cl fp) c st ifs Ct true Cm ∧ Ev (Blk X scope s H D cl fp) c st elt Cm m ⟨Ss (i + 1), Ct.ρ⟩))) := fun i => by
    by_cases h : i < n
    · obtain ⟨Ct, Cm, ts, h1, h2, h3, h4⟩ := turn i h
      exact ⟨Ct, Cm, fun _ => ⟨h2, h3, fun s H D cl fp => ⟨(h4 s H D cl fp).1.mono h1, (h4 s H D cl fp).2⟩⟩⟩
    · exact ⟨C, C, fun z => absurd z h⟩
  have q := ev_lc (X := X) (c := c) (st := st) (scope := scope) (ifs := ifs) (elt := elt) (own := own) (pos := pos) Ss v (fun i => (tn i).choose) (fun i => (tn i).choose_spec.choose) hN hi ok (by rw [tab_len]; exact hl) pl h0 (fun i h => h) (fun s H D cl fp i d hd => by
    obtain ⟨h1, rfl⟩ := tab_get' hd
    obtain ⟨q1, q2, q3⟩ := (tn i).choose_spec.choose_spec h1
    exact ⟨(q3 s H D cl fp).1, q1, q2, (q3 s H D cl fp).2⟩) hc hs
  rw [tab_len] at q
  exact q
theorem kept_some {w : Nat → Mu} : kept (tab n fun i => some (w i)) = tab n w := by
  unfold kept tab
  rw [List.filterMap_map]
  induction (List.range n) with
  | nil => rfl
  | cons a l ih => simp only [List.filterMap_cons, List.map_cons, Function.comp, id]; rw [← ih]
/-- [elt for tg in iter] without a change of the state -/
theorem ev_map {own : List (Str × Nat)} {g : Nat → D} (w : Nat → Mu) (hN : X.N.Nodup) (hi : Iter X c st tg iter C (tab n g) C1) (ok : BlkOk X.N X.env.scope scope own) (hl : n ≤ 1000)
    (pl : ∀ i ∈ own.map (·.2), plainSl C1.ρ[i]? = true)
    (turn : ∀ i, i < n → ∃ Ct ts, (∀ j ∈ ts, j ∈ own.map (·.2)) ∧ wipeR Ct.ρ (own.map (·.2)) = wipeR C1.ρ (own.map (·.2)) ∧ (∀ i' ∈ own.map (·.2), plainSl Ct.ρ[i']? = true) ∧ ∀ s H D cl fp,
      Tg (Blk X scope s H D cl fp) c st tg ⟨C1.S, wipeR C1.ρ (own.map (·.2))⟩ (g i) Ct ts ∧ Ev (Blk X scope s H D cl fp) c st elt Ct (w i) ⟨C1.S, Ct.ρ⟩)
    (hc : X.calm = true := by rfl) (hs : ∀ x, foldedSetIterable iter X.env x = pure x := by intro _; rfl) :
    Ev X c st (.ListComp elt [⟨tg, iter, [], 0⟩] scope pos) C (.ls (tab n w)) C1 := by
  have q := ev_comp (X := X) (c := c) (st := st) (scope := scope) (ifs := []) (elt := elt) (own := own) (pos := pos) (fun _ => C1.S) (fun i => some (w i)) hN hi ok hl pl rfl (fun i hi => by
    obtain ⟨Ct, ts, h1, h2, h3, h4⟩ := turn i hi
    exact ⟨Ct, Ct, ts, h1, h2, h3, fun s H D cl fp => ⟨(h4 s H D cl fp).1, .inr ⟨_, rfl, evts_nil, (h4 s H D cl fp).2⟩⟩⟩) hc hs
  rw [kept_some] at q
  exact q
/-- .. of plain data -/
theorem ev_mapD {own : List (Str × Nat)} {g : Nat → D} (w : Nat → D) (hN : X.N.Nodup) (hi : Iter X c st tg iter C (tab n g) C1) (ok : BlkOk X.N X.env.scope scope own) (hl : n ≤ 1000)
    (pl : ∀ i ∈ own.map (·.2), plainSl C1.ρ[i]? = true)
    (turn : ∀ i, i < n → ∃ Ct ts, (∀ j ∈ ts, j ∈ own.map (·.2)) ∧ wipeR Ct.ρ (own.map (·.2)) = wipeR C1.ρ (own.map (·.2)) ∧ (∀ i' ∈ own.map (·.2), plainSl Ct.ρ[i']? = true) ∧ ∀ s H D cl fp,
      Tg (Blk X scope s H D cl fp) c st tg ⟨C1.S, wipeR C1.ρ (own.map (·.2))⟩ (g i) Ct ts ∧ Ev (Blk X scope s H D cl fp) c st elt Ct (.im (w i)) ⟨C1.S, Ct.ρ⟩)
    (hc : X.calm = true := by rfl) (hs : ∀ x, foldedSetIterable iter X.env x = pure x := by intro _; rfl) :
    Ev X c st (.ListComp elt [⟨tg, iter, [], 0⟩] scope pos) C (.ls ((tab n w).map Mu.im)) C1 := by
  rw [tab_map]
  exact ev_map _ hN hi ok hl pl turn hc hs
end
end K48

namespace K48
open PySem PySem.Spec PyProof.Rows L2

/-! ### making instances -/
/-- the promise of an __init__: self has no fields yet; behind it the instance is worth d -/
def spK (c : Cl) (CA : Addr) (R : List D → D → Prop) : Sp := fun vs H Q _ => ∃ x dx B ds d vs', vs = .ref x :: vs' ∧ Same B H ∧ H x = some (.ins CA dx []) ∧ B x = none ∧ RepL c B ds vs' ∧ R ds d ∧
  ∀ B' H', Same B' H' → Same B B' → (∀ a o, a ≠ x → H a = some o → H' a = some o) → (∀ a o, a ≠ x → H a = some o → B a = none → B' a = none) → Rep c B' d (.ref x) → Q .non H'
/-- the class of the name x at CA is made so; dv: the defaults -/
def FnK (P : Program) (w : World) (K : PySem.W.Frag) (mg : Str → Option Value) (base : Heap) (c : Cl) (k : Nat) (x : Str) (CA : Addr) (dv : List Int) (R : List D → D → Prop) : Prop :=
  ∃ (f : Addr) (fd : FuncData) (ps : List Str) (us : List Value), Mk K CA f ∧ mg x = some (.ref CA) ∧ Binds K fd ps us ∧ Vals (dv.map V.int) us ∧ FnOk P w K mg base CX0 k f fd ps (spK c CA R)
abbrev Wd.fk (W : Wd) (k : Nat) (x : Str) (CA : Addr) (dv : List Int) (R : List D → D → Prop) : Prop := FnK W.P W.w W.K W.mg W.base W.c k x CA dv R
section
variable {X : Cx} {c : Cl} {st : Addr} {C C0 C1 C2 C3 : Cfg} {e a b e2 elt : Expr} {d d1 d2 d3 : D} {m m1 m2 : Mu} {pos p p2 p1 pos' tpos : Pos} {o : Out} {s : Stmt} {ss body : List Stmt} {es elts ifs : List Expr} {ds xs ys l l' : List D} {x y : Str} {k : Nat} {CA dx : Addr} {R : List D → D → Prop}
theorem ev_make {dv : List Int} (G : FnK X.prog X.w X.K X.mg X.base c k x CA dv R) (hr : Room (k + 1) X.A) (hR : R (ds ++ dv.map D.int) d) (ha : EvA X c st (e :: es) C (ds.map Mu.im) C1) (hg : Gl X x := by rfl) (hdb : (x == ("__debug__" : Str)) = false := by decide)
    (he : starEach (e :: es) X.env = (false, eval e X.env) :: starEach es X.env := by rfl) (hpl : (backTo pos (starEach es X.env)).any (·.1) = false := by rfl) : Ev X c st (.Call (.Name x p) (e :: es) [] pos) C (.im d) C1 := evI fun σ B H F k Q q => by
  obtain ⟨f, fd, ps, us, hM, hm, hb, hd, hF⟩ := G
  refine ⟨_, pe_make hM hF hr hg hm hb hd pass0 (pWA _) hdb he hpl, ha.I k fun vs B1 H1 F1 k1 r x1 => ?_⟩
  intro z dz nz ndz ne
  have hB : ∀ p, H1 p = none → B1 p = none := fun p h => by
    cases e : B1 p with
    | none => rfl
    | some u => rw [k1.sub p u e] at h; cases h
  have out : ∀ a o, H1 a = some o → upd (upd H1 dz (.own z)) z (.ins CA dz []) a = some o := fun a o h => by
    rw [upd_ne (ne_of_none h nz), upd_ne (ne_of_none h ndz)]; exact h
  refine ⟨z, dz, B1, ds ++ dv.map D.int, d, vs ++ dv.map V.int, rfl, fun a u e => out a u (k1.sub a u e), upd_same, hB z nz, r.append (RepL.ofInts dv), hR, fun B' H' s2 b2 h2 f2 rp => ?_⟩
  have az : ∀ a o, H1 a = some o → a ≠ z := fun a o h => ne_of_none h nz
  have x2 : Ext [] [] B1 H1 B' H' := ⟨b2, fun a o _ h => h2 a o (az a o h) (out a o h), fun a o _ h n => f2 a o (az a o h) (out a o h) n, fun a ha => by cases ha⟩
  exact ⟨rfl, q (.ref z) B' H' F1 (k1.grow s2 x2) rp (x1.trans x2.up)⟩
/-- the block of an __init__ -/
def ExK (X : Cx) (c : Cl) (st : Addr) (CA dx : Addr) (ss : List Stmt) (C : Cfg) (d : D) : Prop := ∀ σ B H F, OK c st C B H F σ → H st = some (.ins CA dx []) → B st = none → st ∉ F → ∀ E : Ends,
  (∀ σ' B' H', Same B' H' → Same B B' → (∀ a o, a ≠ st → a ∉ F → H a = some o → H' a = some o) → (∀ a o, a ≠ st → a ∉ F → H a = some o → B a = none → B' a = none) → Rep c B' d (.ref st) → E.nx σ' H') → WB X ss E σ H
theorem exk_cons (h1 : Es X c st s C (.nx C1)) (h2 : ExK X c st CA dx ss C1 d) : ExK X c st CA dx (s :: ss) C d := fun σ B H F k hs hB hF E q =>
  ⟨_, pss_cons (pWS s) (pWB ss), h1 σ B H F k _ fun σ1 B1 H1 F1 k1 x1 => by
    have nF : ∀ a o, a ∉ F → H a = some o → a ∉ F1 := fun a o ha e z => by
      rcases x1.n a z with w | w
      · exact ha w
      · rw [e] at w; cases w
    refine h2 σ1 B1 H1 F1 k1 (x1.h _ _ hF hs) (x1.f _ _ hF hs hB) (nF _ _ hF hs) E fun σ' B' H' s' b' h' f' r' => q σ' B' H' s' (x1.b.trans b') (fun a o n ha e => h' a o n (nF a o ha e) (x1.h a o ha e)) (fun a o n ha e nb => f' a o n (nF a o ha e) (x1.h a o ha e) (x1.f a o ha e nb)) r'⟩
theorem OK.self {B H H' : Hp} {F : List Addr} {σ : L2.St} (k : OK c st C B H F σ) (hS : C.S = none) (hB : B st = none) (hF : st ∉ F) (h : ∀ a, a ≠ st → H' a = H a) : OK c st C B H' F σ := by
  obtain ⟨F0, e, ow⟩ := k.own
  refine ⟨fun a u ea => ?_, k.nd, k.out, ⟨F0, e, ow.mono (Same.refl _) fun a ha => h a fun z => hF (by rw [← z, e]; exact List.mem_append_right _ ha)⟩, fun s t z => ?_⟩
  · rw [h a fun z => by rw [z, hB] at ea; cases ea]; exact k.sub a u ea
  · rw [hS] at z; cases z
theorem put1 {f : Str} {y : V} : putF f y [] = [(f, y)] := rfl
/-- self.f1 = a; self.f2 = b at the end of an __init__ -/
theorem exk_end {f1 f2 : Str} {q1 q2 q3 q4 : Pos} (cl : Cls X.K CA) (n1 : NoAttr X.K CA f1) (n2 : NoAttr X.K CA f2) (hN : X.N[0]? = some x) (hv : Vis X.env.scope x) (hx : (x == ("__debug__" : Str)) = false) (hx2 : (x == ("__classdict__" : Str)) = false)
    (h1 : Ev X c st a C (.im d1) C1) (h2 : Ev X c st b C1 (.im d2) C2) (z0 : C1.ρ[0]? = some (some .stt)) (z1 : C2.ρ[0]? = some (some .stt)) (zS : C1.S = none) (zS2 : C2.S = none) (hne : ¬ f2 = f1)
    (rep : ∀ B v1 v2, Rep c B d1 v1 → Rep c B d2 v2 → B st = some (.ins CA dx [(f1, v1), (f2, v2)]) → Rep c B d (.ref st))
    (hs1 : swapsWith a (some (.Attribute (.Name x q1) f1 q2)) pos.line X.env = pure false) (hs2 : swapsWith b (some (.Attribute (.Name x q3) f2 q4)) pos'.line X.env = pure false) :
    ExK X c st CA dx [.Assign [.Attribute (.Name x q1) f1 q2] a pos, .Assign [.Attribute (.Name x q3) f2 q4] b pos'] C d := fun σ B H F k hs hB hF E q =>
  ⟨_, pss_cons (ps_fld (pe_var hN hv hx hx2) (pWE a) hs1) (pss_one (ps_fld (pe_var hN hv hx hx2) (pWE b) hs2)), by
    refine h1.I k fun v1 B1 H1 F1 k1 r1 x1 => ?_
    have nF : st ∉ F1 := fun z => by
      rcases x1.n st z with w | w
      · exact hF w
      · rw [hs] at w; cases w
    have hs1' := x1.h _ _ hF hs
    have hB1 := x1.f _ _ hF hs hB
    refine ⟨.ref st, k1.stt 0 z0, st, CA, dx, [], rfl, hs1', cl, n1, by decide, ?_⟩
    rw [put1]
    have k1' := k1.self (H' := upd H1 st (.ins CA dx [(f1, v1)])) zS hB1 nF fun a ha => upd_ne ha
    refine h2.I k1' fun v2 B2 H2 F2 k2 r2 x2 => ?_
    have hs2' := x2.h _ _ nF (upd_same (H := H1) (a := st) (o := HO.ins CA dx [(f1, v1)]))
    have hB2 := x2.f _ _ nF (upd_same (H := H1) (a := st) (o := HO.ins CA dx [(f1, v1)])) hB1
    refine ⟨.ref st, k2.stt 0 z1, st, CA, dx, [(f1, v1)], rfl, hs2', cl, n2, by simp, ?_⟩
    have pe : putF f2 v2 [(f1, v1)] = [(f1, v1), (f2, v2)] := by
      show (if f1 = f2 then _ else _) = _
      rw [if_neg fun z => hne z.symm]; rfl
    rw [pe]
    have sB : Same B2 (upd B2 st (.ins CA dx [(f1, v1), (f2, v2)])) := fun a u e => by rw [upd_ne (ne_of_none e hB2)]; exact e
    refine q σ (upd B2 st (.ins CA dx [(f1, v1), (f2, v2)])) _ (fun a u e => ?_) ((x1.b.trans x2.b).trans sB) (fun a o n ha e => ?_) (fun a o n ha e nb => ?_) (rep _ v1 v2 (Rep.mono (x2.b.trans sB) _ _ r1) (Rep.mono sB _ _ r2) upd_same)
    · by_cases h : a = st
      · subst h; rw [upd_same] at e ⊢; exact e
      · rw [upd_ne h] at e ⊢; exact k2.sub a u e
    · have nF1 : a ∉ F1 := fun z => by
        rcases x1.n a z with w | w
        · exact ha w
        · rw [e] at w; cases w
      rw [upd_ne n]
      refine x2.h a o nF1 ?_
      rw [upd_ne n]; exact x1.h a o ha e
    · have nF1 : a ∉ F1 := fun z => by
        rcases x1.n a z with w | w
        · exact ha w
        · rw [e] at w; cases w
      rw [upd_ne n]
      refine x2.f a o nF1 ?_ (x1.f a o ha e nb)
      rw [upd_ne n]; exact x1.h a o ha e⟩
end
def BodyK (W : Wd) (k : Nat) (CA : Addr) (N : List Str) (qual : Str) (stm : Stmt) (ds : List D) (d : D) : Prop := ∀ f cdv A outer s H E st dx, Room k (BX W N qual stm f cdv A outer s H E).A →
  ExK (BX W N qual stm f cdv A outer s H E) W.c st CA dx (defBody stm) ⟨none, entry N (some .stt :: ds.map sd)⟩ d
section
variable {W : Wd} {k : Nat} {N ps : List Str} {x qual : Str} {stm : Stmt} {f : Addr} {fd : FuncData} {dvs : List V} {R : List D → D → Prop} {CA : Addr}
theorem fn_okK (F : FunD W.K x qual (defArgs stm) (defBody stm) (defScope stm) dvs [] f fd) (S : FnScope N ps (defScope stm)) (hl : ∀ ds d, R ds d → ds.length + 1 = ps.length) (hb : ∀ ds d, R ds d → BodyK W k CA N qual stm ds d) :
    FnOk W.P W.w W.K W.mg W.base CX0 (k + 1) f fd ps (spK W.c CA R) := by
  refine F.ok S (fun vs H Q E ⟨st, dx, B, ds, d, vs', e, _, _, _, r, hR, _⟩ => by rw [e, List.length_cons, r.len]; exact hl ds d hR) fun cdv A outer s H vs Q E hr ⟨st, dx, B, ds, d, vs', ev, sB, hH, hB, r, hR, q⟩ => ?_
  subst ev
  have hx := hb ds d hR f cdv A outer s H E st dx hr
  have ok : OK W.c st ⟨none, entry N (some .stt :: ds.map sd)⟩ B H [] (L2.start N (.ref st :: vs')) := by
    refine ⟨sB, List.nodup_nil, fun a h => (by cases h), ⟨[], rfl, ?_⟩, fun a b h => (by cases h)⟩
    unfold entry L2.start
    rw [List.length_cons, List.length_map, List.length_cons, r.len]
    exact ⟨[], [], rfl, ⟨rfl, rfl⟩, OwnE.start _ r⟩
  obtain ⟨t, h1, h2⟩ := hx _ B H [] ok hH hB (by simp) { nx := fun _ H' => Q .non H', rt := Q } fun σ' B' H' s' b' h' f' r' => q B' H' s' b' (fun a o n e => h' a o n (by simp) e) (fun a o n e nb => f' a o n (by simp) e nb) r'
  exact ⟨t, h1.nox, h2⟩
/-- every parameter is given, defaults or none -/
theorem fnK_all {f : Addr} {dvs : List V} (hd : dvs = []) (F : FunD W.K "__init__" qual (defArgs stm) (defBody stm) (defScope stm) dvs [] f fd) (hM : Mk W.K CA f) (hm : W.mg x = some (.ref CA)) (S : FnScope N ps (defScope stm)) (hl : ∀ ds d, R ds d → ds.length + 1 = ps.length) (hb : ∀ ds d, R ds d → BodyK W k CA N qual stm ds d)
    (bi : ∀ (kV doc pm : Value) (an : Option Addr) (cdv ct : Value) (us : List Value), us.length = ps.length → bindArgs (PySem.W.fnOf "__init__" qual (defArgs stm) (defBody stm) (defScope stm) .none kV doc pm an cdv ct) ⟨us, []⟩ = pure (ps.zip us)) : W.fk (k + 1) x CA [] R := by
  subst hd
  exact ⟨f, fd, ps, [], hM, hm, F.bindsN bi, .nil, fn_okK F S hl hb⟩
/-- defaults: j of them are not taken -/
theorem fnK_dfl {f : Addr} {dv : List Int} (n j : Nat) (hne : dv ≠ []) (F : FunD W.K "__init__" qual (defArgs stm) (defBody stm) (defScope stm) (dv.map V.int) [] f fd) (hM : Mk W.K CA f) (hm : W.mg x = some (.ref CA)) (S : FnScope N ps (defScope stm)) (hl : ∀ ds d, R ds d → ds.length + 1 = ps.length) (hb : ∀ ds d, R ds d → BodyK W k CA N qual stm ds d)
    (hn : n + (dv.length - j) = ps.length)
    (bi : ∀ (T : Addr) (kV doc pm : Value) (an : Option Addr) (cdv ct : Value) (us its : List Value), us.length = n → its.length = dv.length →
      ∃ k, bindArgs (PySem.W.fnOf "__init__" qual (defArgs stm) (defBody stm) (defScope stm) (.ref T) kV doc pm an cdv ct) ⟨us, []⟩ = seqItems? (.ref T) >>= k ∧ k (some its.toArray) = pure (ps.zip (us ++ its.drop j))) : W.fk (k + 1) x CA (dv.drop j) R := by
  obtain ⟨us, h1, h2⟩ := F.binds1 n j (by simpa using hne) (by simpa using hn) (by simpa using bi)
  exact ⟨f, fd, ps, us, hM, hm, h2, by rw [List.map_drop]; exact h1, fn_okK F S hl hb⟩
end
end K48

namespace HT
open PySem PySem.Spec PyProof.Rows
section
variable {prog : Program} {w : World} {A : Around} {E : Value → Shared → Prop} {s : Shared}
theorem k48_applied {sl : Addr} {n : Nat} {t : Tok} {Q : Int × Int × Nat → Shared → Prop} (hs : s.heap.IsSliceOf sl .none .none (.int (-1) t))
    (h : Q ((n : Int) - 1, -1, n) s) : wpAny (model prog w) A (Builtin.Slice.sliceApplied (.ref sl) (pure (n : Int))) Q E s := by
  obtain ⟨os, hos, hcs, hds⟩ := id hs
  unfold Builtin.Slice.sliceApplied Builtin.Slice.sliceFields
  refine wpAny_bind (wpAny_bind (wpAny_field hos hds (x := .none) rfl (wpAny_bind (wpAny_field hos hds (x := .none) rfl (wpAny_bind (wpAny_field hos hds (x := .int (-1) t) rfl (wpAny_pure ?_)))))))
  refine wpAny_bind (slicePart_int ?_)
  show wpAny _ _ (if ((-1 : Int) == 0) = true then _ else _) _ _ s
  rw [if_neg (by decide)]
  refine wpAny_bind (slicePart_none (wpAny_bind (slicePart_none (wpAny_bind (wpAny_pure ?_)))))
  show wpAny _ _ (match Builtin.Slice.sliceAdjust none none (-1) (n : Int) with | (lo, hi) => pure (lo, (-1 : Int), Builtin.Slice.slicePlaces lo hi (-1))) _ _ s
  have e : Builtin.Slice.sliceAdjust none none (-1) (n : Int) = ((n : Int) - 1, -1) := rfl
  rw [e]
  have e2 : Builtin.Slice.slicePlaces ((n : Int) - 1) (-1) (-1) = n := by
    show (if ((-1 : Int) > 0) then _ else (if (n : Int) - 1 > -1 then ((n : Int) - 1 - (-1) - 1) / (1 : Int) + 1 else 0)).toNat = n
    rw [if_neg (by decide), Int.ediv_one]
    split <;> omega
  show wpAny _ _ (pure ((n : Int) - 1, (-1 : Int), Builtin.Slice.slicePlaces ((n : Int) - 1) (-1) (-1))) _ _ s
  rw [e2]
  exact wpAny_pure h
theorem k48_pick (xs : Array Value) : ((List.range xs.size).filterMap fun (m : Nat) => xs[(((xs.size : Int) - 1) + (m : Int) * (-1)).toNat]?).toArray = xs.toList.reverse.toArray := by
  congr 1
  refine List.ext_getElem? fun i => ?_
  have e : ∀ n, n ≤ xs.size → ((List.range n).filterMap fun (m : Nat) => xs[(((xs.size : Int) - 1) + (m : Int) * (-1)).toNat]?) = xs.toList.reverse.take n := by
    intro n
    induction n with
    | zero => intro _; simp
    | succ n ih =>
      intro hn
      rw [List.range_succ, List.filterMap_append, ih (by omega), List.filterMap_cons, List.filterMap_nil]
      have e1 : ((((xs.size : Int) - 1) + (n : Int) * (-1)).toNat) = xs.size - 1 - n := by omega
      rw [e1, Array.getElem?_eq_getElem (by omega)]
      have hl : n < xs.toList.reverse.length := by rw [List.length_reverse, Array.length_toList]; omega
      rw [List.take_succ_eq_append_getElem hl, List.getElem_reverse]
      simp
  rw [e _ (Nat.le_refl _), List.take_of_length_le (by rw [List.length_reverse, Array.length_toList]; exact Nat.le_refl _)]
theorem k48_rev {t sl : Addr} {items : Array Value} {tk : Tok} {Q : Value → Shared → Prop} (ht : IsTup s.heap t items) (hs : s.heap.IsSliceOf sl .none .none (.int (-1) tk))
    (h : Q (.ref s.heap.objs.size) { s with heap := s.heap.push { cls := .type "tuple", data := .seq items.toList.reverse.toArray } })
    (hsz : items.size ≤ sizeLine) : wpAny (model prog w) A (getItem (.ref t) (.ref sl)) Q E s := by
  have htake : sizeOk (.seq items.toList.reverse.toArray) := by
    show items.toList.reverse.toArray.size ≤ sizeLine
    rw [List.size_toArray, List.length_reverse, Array.length_toList]
    exact hsz
  obtain ⟨os, hos, hcs, hds⟩ := id hs
  have hTs : s.TypeIs (.ref sl) "slice" := ⟨os, hos, hcs⟩
  unfold getItem
  try with_reducible refine wpAny_holding ?_
  first | refine wpAny_bind (wpAny_pure ?_) | skip
  refine wpAny_bind (wpAny_sequenceKey ht.typeIs (by decide) ?_)
  refine wpAny_bind (wpAny_callSpecial?_slot (name := Str.ofString "__getitem__") ht.typeIs PyProof.Rows.slot_tuple_getitem
    (wpAny_call_entry PyProof.Rows.slot_tuple_getitem ht.typeIs entry_tuple_getitem ?_ (args_tuple_getitem _ _)))
  show wpAny _ _ (Builtin.Tuple.tupleItemsOf (.ref t) >>= _) _ _ s
  refine wpAny_bind (tupleItemsOf_ ht ?_)
  refine wpAny_bind (wpAny_typeOf hTs ?_)
  rw [if_pos (by decide)]
  refine wpAny_bind (k48_applied hs ?_)
  have hno : ¬ ((((items.size : Int) - 1) == 0 && (-1 : Int) == 1 && items.size == items.size) = true) := by simp
  show wpAny _ _ (if (((items.size : Int) - 1) == 0 && (-1 : Int) == 1 && items.size == items.size) = true then _ else _) _ _ s
  rw [if_neg hno, k48_pick]
  first
    | exact wpAny_bind (m := Builtin.Tuple.tupleExact _) (wpAny_newObj_type (wpAny_pure ⟨_, rfl, wpAny_pure h⟩) htake)
    | exact wpAny_bind (m := Builtin.Tuple.tupleExact _) (wpAny_newObj_type (wpAny_bind (wpAny_pure (wpAny_pure ⟨_, rfl, wpAny_pure h⟩))) htake)
    | exact wpAny_bind (wpAny_bind (m := Builtin.Tuple.tupleExact _) (wpAny_newObj_type (wpAny_pure (wpAny_pure ⟨_, rfl, wpAny_pure h⟩)) htake))
    | exact wpAny_bind (wpAny_bind (m := Builtin.Tuple.tupleExact _) (wpAny_newObj_type (wpAny_pure ⟨_, rfl, wpAny_pure h⟩) htake))
end
end HT
namespace K48
open PySem PySem.Spec PyProof.Rows L2
section
variable {X : Cx} {c : Cl} {st : Addr} {C C0 C1 C2 C3 : Cfg} {e a b e2 elt : Expr} {d d1 d2 d3 : D} {m m1 m2 : Mu} {pos p p2 p1 p3 pos' tpos : Pos} {o : Out} {s : Stmt} {ss body : List Stmt} {es elts ifs : List Expr} {ds xs ys l l' : List D} {x y : Str} {k : Nat} {CA dx : Addr} {R : List D → D → Prop}
/-! ### t[::-1] -/
def tRevT (K : PySem.W.Frag) (te : TE) : TE := fun σ H Q => te σ H fun x H1 => ∃ a xs, x = .ref a ∧ SqT K H1 a xs ∧ ∀ p, H1 p = none → Q (.ref p) (upd H1 p (.tup xs.reverse))
theorem pe_revT {te : TE} {k : Nat} (he : PE X e te) : PE X (.Subscript e (.Slice none none (some (.UnaryOp .USub (.Constant (.int 1) k p1) p2)) p3) pos) (tRevT X.K te) := by
  refine ⟨fun pins s σ H Q I h => ?_⟩
  refine Subscript_ (thn (he.run pins s σ H _ I h) fun v s1 ⟨x, H1, I1, r1, q1⟩ => ?_)
  obtain ⟨a, xs, ex, hx, q⟩ := q1
  subst ex
  cases r1
  have hst : PO X (some (.UnaryOp .USub (.Constant (.int 1) k p1) p2)) (tPart (tUn (rU fun i => .int (-i)) (tC (.int 1)))) := po_some (pe_un un_neg pe_int)
  refine wpAny_Slice (thn (po_none.run pins s1 σ H1 (fun o H2 => o = none ∧ H2 = H1) I1 ⟨rfl, rfl⟩) fun vl s2 ⟨l, H2, I2, pl, el, e2⟩ => ?_)
  subst el e2
  refine thn (po_none.run pins s2 σ H2 (fun o H3 => o = none ∧ H3 = H2) I2 ⟨rfl, rfl⟩) fun vu s3 ⟨u, H3, I3, pu, eu, e3⟩ => ?_
  subst eu e3
  refine thn (hst.run pins s3 σ H3 (fun o H4 => o = some (-1) ∧ H4 = H3) I3 ⟨1, rfl, -1, rfl, rfl, rfl⟩) fun vs s4 ⟨o, H4, I4, ps, eo, e4⟩ => ?_
  subst eo e4
  obtain rfl : vl = .none := by cases pl; rfl
  obtain rfl : vu = .none := by cases pu; rfl
  obtain ⟨tk, rfl⟩ : ∃ tk, vs = .int (-1) tk := by cases ps; exact ⟨_, rfl⟩
  have I5 : Inv X pins σ H4 { s4 with heap := s4.heap.push { cls := .type "slice", data := .fields #[.none, .none, .int (-1) tk] } } := I4.kept (t' := s4.toks) fun b ob q => Heap.get?_push_of_some _ q
  obtain ⟨its, r, ht, hz⟩ := I5.tuple hx
  have hlen := r.length
  show wpAny (model X.prog X.w) X.A (subscriptTail e (.Slice none none (some (.UnaryOp .USub (.Constant (.int 1) k p1) p2)) p3) (.ref a) (.ref s4.heap.objs.size)) (EP X pins σ Q) X.xe { s4 with heap := s4.heap.push { cls := .type "slice", data := .fields #[.none, .none, .int (-1) tk] } }
  refine tail_any (ops := [.ref a, .ref s4.heap.objs.size]) ht.typeIs (PyProof.Rows.slot_tuple_getitem.lookup) ?_ (by with_unfolding_all rfl)
  refine HT.k48_rev ht (Heap.IsSliceOf.new _ _ _ _) ?_ (by rw [List.size_toArray]; omega)
  refine ⟨.ref _, _, I5.laid (t' := s4.toks) (o := .tup xs.reverse) (fun b ob q => Heap.get?_push_of_some _ q) (Nat.le_refl _) ?_, rfl, q _ (I5.hok.fresh (Nat.le_refl _))⟩
  exact ⟨by rw [List.length_reverse]; exact hz, _, r.reverse, IsTup.new _ _⟩
theorem ev_revT (ha : Ev X c st a C (.im (.tup l)) C1) {kk : Nat} : Ev X c st (.Subscript a (.Slice none none (some (.UnaryOp .USub (.Constant (.int 1) kk p1) p2)) p3) pos) C (.im (.tup l.reverse)) C1 := evI fun σ B H F k Q q =>
  ⟨_, pe_revT (pWE a), ha.I k fun v B1 H1 F1 k1 ⟨t, vs, ev, hB, r⟩ x1 => ⟨t, vs, ev, SqT.of (k1.sub _ _ hB), fun p hp => by
    obtain ⟨s4, x4⟩ := ext_new (o := .tup vs.reverse) k1.sub hp
    exact q (.ref p) _ _ F1 (k1.grow s4 x4) ⟨p, _, rfl, upd_same, RepL.mono x4.b _ _ r.rev⟩ (x1.trans x4.up)⟩⟩
end
end K48

namespace K48
open PySem PySem.Spec PyProof.Rows L2
/-- a tuple of ints -/
abbrev tI (ns : List Int) : D := .tup (ns.map D.int)
section
variable {X : Cx} {c : Cl} {st : Addr} {C C0 C1 C2 C3 : Cfg} {e a b e2 elt : Expr} {d d1 d2 d3 : D} {m m1 m2 : Mu} {pos p p2 p1 p3 pos' tpos : Pos} {o : Out} {s : Stmt} {ss body : List Stmt} {es elts ifs : List Expr} {ds xs ys l l' : List D} {x y : Str} {k : Nat} {CA dx : Addr} {R : List D → D → Prop} {i j : Int} {ns ms : List Int}
/-! ### x in (ints) -/
theorem flat_ints : ∀ ns : List Int, (ns.map V.int).all flatV = true
  | [] => rfl
  | n :: ns => by show (true && (ns.map V.int).all flatV) = true; rw [Bool.true_and]; exact flat_ints ns
theorem inV_ints {i : Int} : ∀ ns : List Int, inV (.int i) (ns.map V.int) = decide (i ∈ ns)
  | [] => by simp [inV]
  | n :: ns => by
    show ((n == i) || inV (.int i) (ns.map V.int)) = _
    rw [inV_ints ns]
    by_cases h : n = i
    · subst h; simp
    · rw [beq_eq_false_iff_ne.mpr h]; simp [Ne.symm h]
theorem op_inI (h : d = .lst (ns.map D.int) ∨ d = tI ns) : Op2 c (.int i) d (.bl (decide (i ∈ ns))) (rIn X.K false) := fun B H x y s h1 h2 Q k => by
  cases (show x = _ from h1)
  rcases h with rfl | rfl
  · obtain ⟨q, vs, rfl, hB, r⟩ := h2
    have e := RepL.ints r
    subst e
    exact ⟨q, _, rfl, .inl (SqL.of (s _ _ hB)), rfl, flat_ints ns, by rw [if_neg Bool.false_ne_true, inV_ints]; exact k _ B H s Ext.refl rfl⟩
  · obtain ⟨q, vs, rfl, hB, r⟩ := h2
    have e := RepL.ints r
    subst e
    exact ⟨q, _, rfl, .inr (SqT.of (s _ _ hB)), rfl, flat_ints ns, by rw [if_neg Bool.false_ne_true, inV_ints]; exact k _ B H s Ext.refl rfl⟩
theorem op_notInI (h : d = .lst (ns.map D.int) ∨ d = tI ns) : Op2 c (.int i) d (.bl (!decide (i ∈ ns))) (rIn X.K true) := fun B H x y s h1 h2 Q k => by
  cases (show x = _ from h1)
  rcases h with rfl | rfl
  · obtain ⟨q, vs, rfl, hB, r⟩ := h2
    have e := RepL.ints r
    subst e
    exact ⟨q, _, rfl, .inl (SqL.of (s _ _ hB)), rfl, flat_ints ns, by rw [if_pos rfl, inV_ints]; exact k _ B H s Ext.refl rfl⟩
  · obtain ⟨q, vs, rfl, hB, r⟩ := h2
    have e := RepL.ints r
    subst e
    exact ⟨q, _, rfl, .inr (SqT.of (s _ _ hB)), rfl, flat_ints ns, by rw [if_pos rfl, inV_ints]; exact k _ B H s Ext.refl rfl⟩
theorem ev_inI (ha : Ev X c st a C (.im (.int i)) C1) (hb : Ev X c st b C1 (.im (tI ns)) C2) (hm : behindInMarks .In b = false := by rfl) : Ev X c st (.Compare a [.In] [b] pos) C (.im (.bl (decide (i ∈ ns)))) C2 := ev_cmp op_in_seq (op_inI (.inr rfl)) ha hb hm
theorem evt_notInI (ha : Ev X c st a C (.im (.int i)) C1) (hb : Ev X c st b C1 (.im (tI ns)) C2) (hm : behindInMarks .NotIn b = false := by rfl) : EvT X c st (.Compare a [.NotIn] [b] pos) C (!decide (i ∈ ns)) C2 := evt_cmp op_notIn_seq (op_notInI (.inr rfl)) ha hb hm

/-! ### plain data as the kit's data -/
/-- tuples of ints, None -/
inductive Pd where
  | non | tI (ns : List Int)
def Pd.toD : Pd → D
  | .non => .non
  | .tI ns => K48.tI ns
def Pd.py : Pd → PyData
  | .non => .none
  | .tI ns => .tuple (ns.map PyData.int)
theorem dpAll_ints {K : PySem.W.Frag} {H : Hp} : ∀ ns : List Int, DpAll K H (ns.map V.int) (ns.map PyData.int)
  | [] => .nil
  | n :: ns => .cons (.int n) (dpAll_ints ns)
theorem Pd.dp {K : PySem.W.Frag} {B H : Hp} (s : Same B H) : ∀ {z : Pd} {v : V}, Rep c B z.toD v → Dp K H v z.py
  | .non, v, h => by cases (show v = _ from h); exact .non
  | .tI ns, v, h => by
    obtain ⟨q, vs, rfl, hB, r⟩ := h
    have e := RepL.ints r
    subst e
    exact .tup (SqT.of (s _ _ hB)) (dpAll_ints ns)
theorem Pd.dpAll {K : PySem.W.Frag} {B H : Hp} (s : Same B H) : ∀ {zs : List Pd} {vs : List V}, RepL c B (zs.map Pd.toD) vs → DpAll K H vs (zs.map Pd.py)
  | [], vs, h => by cases (show vs = [] from h); exact .nil
  | z :: zs, vs, ⟨v, r, e, h, q⟩ => by cases e; exact .cons (Pd.dp s h) (Pd.dpAll s q)
theorem ints_lay : ∀ ns : List Int, PyData.canLayAll0 (ns.map PyData.int) = true
  | [] => by simp [PyData.canLayAll0]
  | n :: ns => by simp [PyData.canLayAll0, PyData.canLay0, ints_lay ns]
theorem Pd.lay : ∀ z : Pd, z.py.canLay0 = true
  | .non => by simp [Pd.py, PyData.canLay0]
  | .tI ns => by simp [Pd.py, PyData.canLay0, ints_lay ns]
theorem Pd.depth : ∀ z : Pd, z.py.depth ≤ 1
  | .non => by simp [Pd.py, PyData.depth]
  | .tI ns => by simp [Pd.py, PyData.depth, PySem.W.depth_ints ns]
theorem pds_lay : ∀ zs : List Pd, PyData.canLayAll0 (zs.map Pd.py) = true
  | [] => by simp [PyData.canLayAll0]
  | z :: zs => by simp [PyData.canLayAll0, Pd.lay z, pds_lay zs]
theorem pds_depth : ∀ zs : List Pd, PyData.depthAll (zs.map Pd.py) ≤ 1
  | [] => by simp [PyData.depthAll]
  | z :: zs => by
    have h1 := pds_depth zs
    have h2 := Pd.depth z
    simp only [List.map_cons, PyData.depthAll]
    omega
theorem Pd.shaped (z : Pd) : SeqAt.shaped z.py = true := by
  have h := Pd.depth z
  show (z.py.canLay0 && decide (z.py.depth ≤ 64)) = true
  rw [Bool.and_eq_true]
  exact ⟨Pd.lay z, decide_eq_true (by omega)⟩
theorem pds_shaped (zs : List Pd) : SeqAt.shaped (.list (zs.map Pd.py)) = true := by
  have h1 := pds_depth zs
  have h2 : PyData.depth (.list (zs.map Pd.py)) ≤ 64 := by
    simp only [PyData.depth]
    omega
  show (PyData.canLay0 (.list (zs.map Pd.py)) && decide (PyData.depth (.list (zs.map Pd.py)) ≤ 64)) = true
  rw [Bool.and_eq_true]
  exact ⟨by simp only [PyData.canLay0]; exact pds_lay zs, decide_eq_true h2⟩
theorem eqvAll_ints : ∀ ns ms : List Int, PyData.eqvAll (ns.map PyData.int) (ms.map PyData.int) = decide (ns = ms)
  | [], [] => by simp [PyData.eqvAll]
  | [], _ :: _ => by simp [PyData.eqvAll]
  | _ :: _, [] => by simp [PyData.eqvAll]
  | n :: ns, m :: ms => by
    simp only [List.map_cons, PyData.eqvAll, eqvAll_ints ns ms, PyData.eqv]
    by_cases h : n = m
    · subst h; simp
    · rw [beq_eq_false_iff_ne.mpr h]; simp [h]
def Pd.eq : Pd → Pd → Bool
  | .non, .non => true
  | .tI ns, .tI ms => decide (ns = ms)
  | _, _ => false
theorem Pd.eqv (z u : Pd) : PyData.eqv z.py u.py = z.eq u := by
  cases z <;> cases u
  · simp [Pd.py, PyData.eqv, Pd.eq]
  · simp [Pd.py, PyData.eqv, Pd.eq]
  · simp [Pd.py, PyData.eqv, Pd.eq]
  · show PyData.eqv (.tuple _) (.tuple _) = _
    simp only [PyData.eqv, eqvAll_ints, Pd.eq]
theorem op_eqP {z u : Pd} : Op2 c z.toD u.toD (.bl (z.eq u)) (rEqD X.K) := fun B H x y s h1 h2 Q k => ⟨z.py, u.py, Pd.dp s h1, Pd.dp s h2, z.shaped, u.shaped, by rw [Pd.eqv]; exact k _ B H s Ext.refl rfl⟩
theorem op_neP {z u : Pd} : Op2 c z.toD u.toD (.bl (!z.eq u)) (rNeD X.K) := fun B H x y s h1 h2 Q k => ⟨z.py, u.py, Pd.dp s h1, Pd.dp s h2, z.shaped, u.shaped, by rw [Pd.eqv]; exact k _ B H s Ext.refl rfl⟩
theorem any_eqP (u : Pd) : ∀ zs : List Pd, (zs.map Pd.py).any (fun z => PyData.eqv z u.py) = zs.any fun z => z.eq u
  | [] => rfl
  | z :: zs => by rw [List.map_cons, List.any_cons, List.any_cons, Pd.eqv, any_eqP u zs]
theorem op_inP {zs : List Pd} {u : Pd} : Op2 c u.toD (.lst (zs.map Pd.toD)) (.bl (zs.any fun z => z.eq u)) (rInD X.K) := fun B H x y s h1 ⟨q, vs, e, hB, r⟩ Q k => by
  subst e
  exact ⟨u.py, zs.map Pd.py, Pd.dp s h1, .lst (SqL.of (s _ _ hB)) (Pd.dpAll s r), u.shaped, pds_shaped zs, by rw [any_eqP]; exact k _ B H s Ext.refl rfl⟩
theorem op_notInP {zs : List Pd} {u : Pd} : Op2 c u.toD (.lst (zs.map Pd.toD)) (.bl (!zs.any fun z => z.eq u)) (rNotInD X.K) := fun B H x y s h1 ⟨q, vs, e, hB, r⟩ Q k => by
  subst e
  exact ⟨u.py, zs.map Pd.py, Pd.dp s h1, .lst (SqL.of (s _ _ hB)) (Pd.dpAll s r), u.shaped, pds_shaped zs, by rw [any_eqP]; exact k _ B H s Ext.refl rfl⟩
def rInDT (K : PySem.W.Frag) : R2 := fun x y H Q => ∃ d ds, Dp K H x d ∧ Dp K H y (.tuple ds) ∧ SeqAt.shaped d = true ∧ PyData.canLayAll0 ds = true ∧ Q (.bl (ds.any fun z => PyData.eqv z d)) H
theorem op_inDT (hu : X.A.units + 65 < cLine) : OpR X (compareOp .In) (rInDT X.K) := by
  intro pins s σ H x y v u Q I rx ry h
  obtain ⟨d, ds, hd, he, sd, se, q⟩ := h
  obtain ⟨as, r1⟩ := Dp.reads I d x v hd rx
  obtain ⟨bs, r2⟩ := Dp.reads I (.tuple ds) y u he ry
  exact SeqAt.in_tuple_reads r2 r1 se (SeqAt.canLay_of_shaped sd) (PyProof.Rows.room_in_shaped sd hu) ⟨.bl _, H, I, rfl, q⟩
theorem op_inPT {zs : List Pd} {u : Pd} : Op2 c u.toD (.tup (zs.map Pd.toD)) (.bl (zs.any fun z => z.eq u)) (rInDT X.K) := fun B H x y s h1 ⟨q, vs, e, hB, r⟩ Q k => by
  subst e
  exact ⟨u.py, zs.map Pd.py, Pd.dp s h1, .tup (SqT.of (s _ _ hB)) (Pd.dpAll s r), u.shaped, pds_lay zs, by rw [any_eqP]; exact k _ B H s Ext.refl rfl⟩
theorem tIs_pd (ls : List (List Int)) : ls.map tI = (ls.map Pd.tI).map Pd.toD := by rw [List.map_map]; rfl
theorem any_tI (ns : List Int) : ∀ ls : List (List Int), ((ls.map Pd.tI).any fun z => z.eq (.tI ns)) = decide (ns ∈ ls)
  | [] => by simp
  | m :: ls => by
    rw [List.map_cons, List.any_cons, any_tI ns ls]
    show (decide (m = ns) || _) = _
    by_cases h : m = ns
    · subst h; simp
    · simp [h, Ne.symm h]
variable {ls : List (List Int)} (hu : Room k X.A)
include hu
theorem ev_eqT (ha : Ev X c st a C (.im (tI ns)) C1) (hb : Ev X c st b C1 (.im (tI ms)) C2) : Ev X c st (.Compare a [.Eq] [b] pos) C (.im (.bl (decide (ns = ms)))) C2 := ev_cmp (op_eqD hu.units) (op_eqP (z := .tI ns) (u := .tI ms)) ha hb (nomark _)
theorem evt_eqT (ha : Ev X c st a C (.im (tI ns)) C1) (hb : Ev X c st b C1 (.im (tI ms)) C2) : EvT X c st (.Compare a [.Eq] [b] pos) C (decide (ns = ms)) C2 := evt_cmp (op_eqD hu.units) (op_eqP (z := .tI ns) (u := .tI ms)) ha hb (nomark _)
theorem evt_neT (ha : Ev X c st a C (.im (tI ns)) C1) (hb : Ev X c st b C1 (.im (tI ms)) C2) : EvT X c st (.Compare a [.NotEq] [b] pos) C (!decide (ns = ms)) C2 := evt_cmp (op_neD hu.units) (op_neP (z := .tI ns) (u := .tI ms)) ha hb (nomark _)
theorem Room.units65 : X.A.units + 65 < cLine := by have := hu.un; omega
theorem evt_notInT (ha : Ev X c st a C (.im (tI ns)) C1) (hb : Ev X c st b C1 (.im (.lst (ls.map tI))) C2) (hm : behindInMarks .NotIn b = false := by rfl) : EvT X c st (.Compare a [.NotIn] [b] pos) C (!decide (ns ∈ ls)) C2 := by
  rw [tIs_pd] at hb
  have q := evt_cmp (c := c) (pos := pos) (op_notInD (Room.units65 hu)) (op_notInP (zs := ls.map Pd.tI) (u := .tI ns)) ha hb hm
  rw [any_tI] at q
  exact q
theorem ev_inTT (ha : Ev X c st a C (.im (tI ns)) C1) (hb : Ev X c st b C1 (.im (.tup (ls.map tI))) C2) (hm : behindInMarks .In b = false := by rfl) : Ev X c st (.Compare a [.In] [b] pos) C (.im (.bl (decide (ns ∈ ls)))) C2 := by
  rw [tIs_pd] at hb
  have q := ev_cmp (c := c) (pos := pos) (op_inDT (Room.units65 hu)) (op_inPT (zs := ls.map Pd.tI) (u := .tI ns)) ha hb hm
  rw [any_tI] at q
  exact q
theorem evt_nonIn {zs : List Pd} (hb : Ev X c st b C (.im (.lst (zs.map Pd.toD))) C2) {j} (hm : behindInMarks .In b = false := by rfl) : EvT X c st (.Compare (.Constant .none j p) [.In] [b] pos) C (zs.any fun z => z.eq .non) C2 :=
  evt_cmp (op_inD (Room.units65 hu)) (op_inP (zs := zs) (u := .non)) ev_non hb hm
end
end K48

namespace K48
open PySem PySem.Spec PyProof.Rows L2
/-- more facts behind the top -/
structure Fy (K : PySem.W.Frag) (c : Cl) : Prop where
  ne : PySem.W.findIn K (.ref c.R) "__ne__" = some (some (.builtin "object.__ne__"))
  mro : PySem.W.mroIn K c.R (.type "object") = some true
def eqS (z : Str) : D → Bool
  | .str x => decide (x = z)
  | _ => false
section
variable {X : Cx} {c : Cl} {st : Addr} {C C0 C1 C2 C3 : Cfg} {e a b e2 elt : Expr} {d d1 d2 d3 : D} {m m1 m2 : Mu} {pos p p2 p1 p3 pos' tpos : Pos} {o : Out} {s : Stmt} {ss body : List Stmt} {es elts ifs : List Expr} {ds xs ys l l' : List D} {x y z : Str} {k : Nat} {CA dx : Addr} {R : List D → D → Prop} {i j : Int} {ns ms : List Int}
theorem run_fn1 {fd : FuncData} {f : Addr} {ps : List Str} {sp : Sp} {pins : List (Addr × Obj)} {σ : L2.St} {H : Hp} {s : Shared} {Q : VK} {us : List Value} {vs : List V} (F : FnOk X.prog X.w X.K X.mg X.base CX0 k f fd ps sp) (hr : Room (k + 1) X.A) (hb : Binds X.K fd ps [])
    (I : L2.Inv X pins σ H s) (r : Vals vs us) (h : sp vs H Q E0) : wpAny (model X.prog X.w) X.A.in1 (call (.ref f) us) (EP X pins σ Q) X.xe s := by
  have hl : (us ++ []).length = ps.length := by rw [List.append_nil, ← r.length]; exact F.len _ _ _ _ h
  have r2 : Vals vs (us ++ []) := by rw [List.append_nil]; exact r
  refine wpAny_call (codeAny_mono (F.run X.A.in1 X.stack s H ⟨us, []⟩ (us ++ []) vs Q E0 hr.in1 I.env0.in1 (hb s us I.kIn hl) r2 h) fun r s' hq => ?_)
  cases r with
  | error e => exact pass0 pins σ H s e s' I hq
  | ok fl =>
    cases fl with
    | ret u => exact I.after hq
    | next => exact False.elim hq
    | brk => exact False.elim hq
    | cont => exact False.elim hq
/-- !=, an instance of Ratio on the left; a text or a Ratio on the right -/
theorem op_neOwn {g : Addr} {fd : FuncData} {ps : List Str} {sp : Sp} (T : Fx X.K X.mg c) (Y : Fy X.K c) (hs : PySem.W.findIn X.K (.ref c.R) "__eq__" = some (some (.ref g))) (hf : PySem.W.isFn X.K (.ref g) = true) (F : FnOk X.prog X.w X.K X.mg X.base CX0 k g fd ps sp) (hr : Room (k + 1) X.A) (hb : Binds X.K fd ps []) :
    OpR X (compareOp .NotEq) (fun x y H Q => ∃ a dx fs, x = .ref a ∧ H a = some (.ins c.R dx fs) ∧ ((∃ z, y = .str z) ∨ ∃ b dy gs, y = .ref b ∧ H b = some (.ins c.R dy gs)) ∧ sp [x, y] H (fun v H' => ∃ t, v = .bl t ∧ Q (.bl (!t)) H') E0) := by
  intro pins s σ H x y v u Q I rx ry h
  obtain ⟨a, dx, fs, rfl, ha, hy, q⟩ := h
  cases (show v = Value.ref a from rx)
  obtain ⟨mA, O, _⟩ := ins_get I.hok ha
  obtain ⟨od, J, _⟩ := O.look
  obtain ⟨m, hF⟩ := I.fr
  show wpAny _ _ (richCompare .NotEq _ _) _ _ _
  have hu : X.A.units + 1 < cLine := by have := hr.un; omega
  have fin : ∀ w s', EP X pins σ (fun v H' => ∃ t, v = .bl t ∧ Q (.bl (!t)) H') w s' → ∃ t, w = Value.bool t ∧ EP X pins σ Q (.bool (!t)) s' := fun w s' z => by
    obtain ⟨z', H', I', rz, t, rfl, qz⟩ := z
    exact ⟨t, rz, .bl (!t), H', I', rfl, qz⟩
  rcases hy with ⟨z, rfl⟩ | ⟨b, dy, gs, rfl, hb'⟩
  · obtain ⟨t, rfl⟩ := (show ∃ t, u = Value.str z t from ry)
    refine PySem.W.k48_ne (tb := .type "str") hu hF I.ok.mod.kin J (PySem.W.Looks.of_pure rfl) T.nfs Y.ne hs hf Y.mro ?_
    exact wpAny_mono (run_fn1 (us := [.ref a, .str z t]) (vs := [.ref a, .str z]) F hr hb I (.cons rfl (.cons ⟨t, rfl⟩ .nil)) q) fin fun _ _ x => x
  · cases (show u = Value.ref b from ry)
    obtain ⟨mA', O', _⟩ := ins_get I.hok hb'
    obtain ⟨od', J', _⟩ := O'.look
    refine PySem.W.k48_ne (tb := .ref c.R) hu hF I.ok.mod.kin J J'.type T.nf Y.ne hs hf Y.mro ?_
    exact wpAny_mono (run_fn1 (us := [.ref a, .ref b]) (vs := [.ref a, .ref b]) F hr hb I (.cons rfl (.cons rfl .nil)) q) fin fun _ _ x => x
theorem op_eqTS {b : Bool} (hu : X.A.units < cLine) : OpR X (compareOp (if b then .NotEq else .Eq)) (fun x y H Q => ∃ a xs z, x = .ref a ∧ y = .str z ∧ (SqL X.K H a xs ∨ SqT X.K H a xs) ∧ Q (.bl b) H) := by
  intro pins s σ H x y v u Q I rx ry h
  obtain ⟨a, xs, z, rfl, rfl, hq, q⟩ := h
  cases rx
  obtain ⟨t, rfl⟩ := (show ∃ t, u = Value.str z t from ry)
  have fin : EP X pins σ Q (.bool b) s := ⟨.bl b, H, I, rfl, q⟩
  rcases hq with hq | hq
  · obtain ⟨its, r, pl, hz⟩ := I.list hq
    cases b with
    | false => show wpAny _ _ (richCompare .Eq _ _) _ _ _; exact SeqAt.RcAt.list_str z t pl.isList hu _ _ _ _ fin
    | true => show wpAny _ _ (richCompare .NotEq _ _) _ _ _; exact SeqAt.RcNeAt.list_str z t pl.isList hu _ _ _ _ fin
  · obtain ⟨its, r, pl, hz⟩ := I.tuple hq
    cases b with
    | false => show wpAny _ _ (richCompare .Eq _ _) _ _ _; exact SeqAt.RcAt.tuple_str z t pl hu _ _ _ _ fin
    | true => show wpAny _ _ (richCompare .NotEq _ _) _ _ _; exact SeqAt.RcNeAt.tuple_str z t pl hu _ _ _ _ fin
theorem op_seqS {b : Bool} (h : d = .tup l ∨ d = .lst l) : Op2 c d (.str z) (.bl b) (fun x y H Q => ∃ a xs z, x = .ref a ∧ y = .str z ∧ (SqL X.K H a xs ∨ SqT X.K H a xs) ∧ Q (.bl b) H) := fun B H x y s h1 h2 Q kk => by
  rcases h with rfl | rfl
  · obtain ⟨q, vs, rfl, hB, r⟩ := h1
    exact ⟨q, vs, z, rfl, h2, .inr (SqT.of (s _ _ hB)), kk _ B H s Ext.refl rfl⟩
  · obtain ⟨q, vs, rfl, hB, r⟩ := h1
    exact ⟨q, vs, z, rfl, h2, .inl (SqL.of (s _ _ hB)), kk _ B H s Ext.refl rfl⟩
section
variable (T : Fx X.K X.mg c) (Y : Fy X.K c) (G : FnM X.prog X.w X.K X.mg X.base c k c.R "__eq__" R) (hr : Room (k + 1) X.A)
include T G hr
/-- d == 'text' -/
theorem evt_eqS (hR : ∀ q, R [.rat q, .str z] (.bl false)) (hd : d.noM = true) (ha : Ev X c st a C (.im d) C1) {j} : EvT X c st (.Compare a [.Eq] [.Constant (.str z) j p] pos) C (eqS z d) C1 := by
  cases d with
  | met _ _ => cases hd
  | non => exact evt_eq rfl ha ev_str
  | bl b => exact evt_eq rfl ha ev_str
  | int b => exact evt_eq rfl ha ev_str
  | str b => exact evt_eq rfl ha ev_str
  | tup l => exact evt_cmp (op_eqTS (b := false) hr.units0) (op_seqS (.inl rfl)) ha ev_str (nomark _)
  | lst l => exact evt_cmp (op_eqTS (b := false) hr.units0) (op_seqS (.inr rfl)) ha ev_str (nomark _)
  | rat q =>
    obtain ⟨f, fd, ps, hm, hbi, hF⟩ := G
    refine evt_cmp (op_eqOwn T hm.at_ hm.fn hF (hr.mono (Nat.le_succ _)) hbi) (fun B H x y s h1 h2 Q kk => ?_) ha ev_str (nomark _)
    obtain ⟨p, dx, e1, hp⟩ := id h1
    exact ⟨p, dx, _, e1, s _ _ hp, .inl ⟨z, h2⟩, B, [.rat q, .str z], .bl false, s, ⟨x, [y], rfl, h1, y, [], rfl, h2, rfl⟩, hR q, fun v B' H' s' x' r' => kk v B' H' s' x' r'⟩
include Y
/-- d != 'text' -/
theorem evt_neS (hR : ∀ q, R [.rat q, .str z] (.bl false)) (hd : d.noM = true) (ha : Ev X c st a C (.im d) C1) {j} : EvT X c st (.Compare a [.NotEq] [.Constant (.str z) j p] pos) C (!eqS z d) C1 := by
  cases d with
  | met _ _ => cases hd
  | non => exact evt_ne rfl ha ev_str
  | bl b => exact evt_ne rfl ha ev_str
  | int b => exact evt_ne rfl ha ev_str
  | str b => exact evt_ne rfl ha ev_str
  | tup l => exact evt_cmp (op_eqTS (b := true) hr.units0) (op_seqS (.inl rfl)) ha ev_str (nomark _)
  | lst l => exact evt_cmp (op_eqTS (b := true) hr.units0) (op_seqS (.inr rfl)) ha ev_str (nomark _)
  | rat q =>
    obtain ⟨f, fd, ps, hm, hbi, hF⟩ := G
    refine evt_cmp (op_neOwn T Y hm.at_ hm.fn hF hr hbi) (fun B H x y s h1 h2 Q kk => ?_) ha ev_str (nomark _)
    obtain ⟨p, dx, e1, hp⟩ := id h1
    exact ⟨p, dx, _, e1, s _ _ hp, .inl ⟨z, h2⟩, B, [.rat q, .str z], .bl false, s, ⟨x, [y], rfl, h1, y, [], rfl, h2, rfl⟩, hR q, fun v B' H' s' x' r' => ⟨false, r', kk _ B' H' s' x' rfl⟩⟩
/-- q1 != q2 -/
theorem evt_neQ {q1 q2 : Rat} (hR : R [.rat q1, .rat q2] (.bl (decide (q1 = q2)))) (ha : Ev X c st a C (.im (.rat q1)) C1) (hb : Ev X c st b C1 (.im (.rat q2)) C2) : EvT X c st (.Compare a [.NotEq] [b] pos) C (!decide (q1 = q2)) C2 := by
  obtain ⟨f, fd, ps, hm, hbi, hF⟩ := G
  refine evt_cmp (op_neOwn T Y hm.at_ hm.fn hF hr hbi) (fun B H x y s h1 h2 Q kk => ?_) ha hb (nomark _)
  obtain ⟨p, dx, e1, hp⟩ := id h1
  obtain ⟨p', dx', e2, hp'⟩ := id h2
  exact ⟨p, dx, _, e1, s _ _ hp, .inr ⟨p', dx', _, e2, s _ _ hp'⟩, B, [.rat q1, .rat q2], .bl (decide (q1 = q2)), s, ⟨x, [y], rfl, h1, y, [], rfl, h2, rfl⟩, hR, fun v B' H' s' x' r' => ⟨_, r', kk _ B' H' s' x' rfl⟩⟩
end
/-! ### list(range(n)) -/
theorem ev_listRg (T : Fx X.K X.mg c) (ha : Ev X c st a C (.im (.int i)) C1) (hi : -1000000 ≤ i ∧ i ≤ 1000000) (hc : X.calm = true := by rfl) (hg : Gl X "list" := by rfl) (hg2 : Gl X "range" := by rfl)
    (hs : starEach [a] X.env = (false, eval a X.env) :: starEach [] X.env := by rfl) (hs2 : starEach [.Call (.Name "range" p2) [a] [] p3] X.env = (false, eval (.Call (.Name "range" p2) [a] [] p3) X.env) :: starEach [] X.env := by rfl) : Ev X c st (.Call (.Name "list" p) [.Call (.Name "range" p2) [a] [] p3] [] pos) C (.ls ((rgD 0 1 i.toNat).map Mu.im)) C1 := fun σ B H F k Q q =>
  ⟨_, pe_listRg hc hg T.list (prg_1 hg2 T.range (pWE a) hs) hs2, ha.I k fun v B1 H1 F1 k1 r x1 => ⟨i, r, by
    refine ⟨?_, fun pp hp => ?_⟩
    · unfold RgOk; omega
    · refine ev_newList (l := rgD 0 1 i.toNat) k1 x1 ?_ hp q
      have e : rgV 0 i = ((List.range i.toNat).map fun j : Nat => (0 : Int) + ((j : Nat) : Int) * 1).map V.int := by
        unfold rgV
        rw [List.map_map, Int.sub_zero]
        exact List.map_congr_left fun j _ => by simp
      have e2 : rgD 0 1 i.toNat = ((List.range i.toNat).map fun j : Nat => (0 : Int) + ((j : Nat) : Int) * 1).map D.int := by
        unfold rgD
        rw [List.map_map]; rfl
      rw [e, e2]
      exact RepL.ofInts _⟩⟩
end
end K48

namespace K48
open PySem PySem.Spec PyProof.Rows L2
section
variable {X : Cx} {c : Cl} {st : Addr} {C C0 C1 C2 C3 : Cfg} {e a b e2 elt : Expr} {d d1 d2 d3 : D} {m m1 m2 : Mu} {pos p p2 p1 p3 pos' tpos : Pos} {o : Out} {s : Stmt} {ss body : List Stmt} {es elts ifs : List Expr} {ds xs ys l l' : List D} {x y z : Str} {k n : Nat} {CA dx : Addr} {R : List D → D → Prop} {i j : Int} {ns ms : List Int} {tg iter : Expr} {scope : Scope}
/-- a reading is worth m -/
def EvR (c : Cl) (st : Addr) (t : TE) (C : Cfg) (m : Mu) (C' : Cfg) : Prop := ∀ σ B H F, OK c st C B H F σ → ∀ Q : VK, PostE c st C' m σ F B H Q → t σ H Q
theorem EvR.frz {t : TE} (h : EvR c st t C m C1) : EvR c st t C (.im m.toD) C1 := fun σ B H F k Q q => h σ B H F k Q fun v B' H' F' Fm k' r nd o x =>
  q v (addF B' H' Fm) H' F' [] (k'.frz nd o) ⟨OwnT.frz (addF_same o) m v Fm (fun a ha => addF_in ha) r, rfl⟩ (by simpa using (k'.frz nd o).nd) (by simp) (by simpa using x.frz o)
/-- a comprehension: as a value, as the sole value of an assignment to a local -/
def EvL (X : Cx) (c : Cl) (st : Addr) (e : Expr) (C : Cfg) (m : Mu) (C' : Cfg) : Prop := ∃ t : TE, PE X e t ∧ (∀ (i : Nat) (y : Str) (py spos : Pos), X.N[i]? = some y → X.env.scope.names.lookup y = some .local → swapsWith e (some (.Name y py)) spos.line X.env = pure true → PS X (.Assign [.Name y py] e spos) (tAsg t (gName i))) ∧ EvR c st t C m C'
theorem EvL.ev (h : EvL X c st e C m C1) : Ev X c st e C m C1 := fun σ B H F k Q q => let ⟨t, h1, _, h3⟩ := h; ⟨t, h1, h3 σ B H F k Q q⟩
theorem EvL.frz (h : EvL X c st e C m C1) : EvL X c st e C (.im m.toD) C1 := let ⟨t, h1, h2, h3⟩ := h; ⟨t, h1, h2, h3.frz⟩
theorem EvL.frzL {l : List D} (h : EvL X c st e C (.ls (l.map Mu.im)) C1) : EvL X c st e C (.im (.lst l)) C1 := by
  have q := h.frz
  rw [show (Mu.ls (l.map Mu.im)).toD = D.lst l by show D.lst (Mu.toL _) = _; rw [toL_map]] at q
  exact q
theorem es_setL (i : Nat) {x : Str} {ol : Option Sl} (h : EvL X c st e C m C1) (hs : C1.ρ[i]? = some ol := by rfl) (hi : X.N[i]? = some x := by rfl) (hx : X.env.scope.names.lookup x = some .local := by rfl)
    (hsw : swapsWith e (some (.Name x p)) pos.line X.env = pure true := by rfl) : Es X c st (.Assign [.Name x p] e pos) C (.nx ⟨C1.S, C1.ρ.set i (some (.mu m))⟩) := fun σ B H F k E q =>
  let ⟨t, _, h2, h3⟩ := h
  ⟨_, h2 i x p pos hi hx hsw, h3 σ B H F k _ fun v B1 H1 F1 Fm k1 t n o x1 =>
    let ⟨F', k', s'⟩ := own_set i k1 hs t n o
    q _ B1 H1 F' k' (x1.sub s')⟩
theorem evl_lc {own : List (Str × Nat)} {ts : List Nat} (Ss : Nat → Option (Int × Int)) (f : Nat → Option Mu) (Ct Cm : Nat → Cfg) (hN : X.N.Nodup) (hi : Iter X c st tg iter C xs C1) (ok : BlkOk X.N X.env.scope scope own) (hl : xs.length ≤ 1000)
    (pl : ∀ i ∈ own.map (·.2), plainSl C1.ρ[i]? = true) (h0 : Ss 0 = C1.S) (hts : ∀ i ∈ ts, i ∈ own.map (·.2))
    (turn : ∀ s H D cl fp, ∀ i d, xs[i]? = some d → Tg (Blk X scope s H D cl fp) c st tg ⟨Ss i, wipeR C1.ρ (own.map (·.2))⟩ d (Ct i) ts ∧ wipeR (Ct i).ρ (own.map (·.2)) = wipeR C1.ρ (own.map (·.2)) ∧ (∀ i' ∈ own.map (·.2), plainSl (Ct i).ρ[i']? = true) ∧
      ((f i = none ∧ EvTs (Blk X scope s H D cl fp) c st ifs (Ct i) false ⟨Ss (i + 1), (Ct i).ρ⟩) ∨
       (∃ m, f i = some m ∧ EvTs (Blk X scope s H D cl fp) c st ifs (Ct i) true (Cm i) ∧ Ev (Blk X scope s H D cl fp) c st elt (Cm i) m ⟨Ss (i + 1), (Ct i).ρ⟩)))
    (hc : X.calm = true) (hs : ∀ x, foldedSetIterable iter X.env x = pure x) :
    EvL X c st (.ListComp elt [⟨tg, iter, ifs, 0⟩] scope pos) C (.ls (kept ((List.range xs.length).map f))) ⟨Ss xs.length, C1.ρ⟩ := by
  have g1 : ∀ (s : Shared) (H : Hp) (D : Addr) (cl : List (Str × Addr)) (fp : List Addr), PG (X.blk s H scope (compEnvC scope cl D X.env) fp) tg (fun v σ H Q => ∀ s H0 D cl fp, WG (Blk X scope s H0 D cl fp) tg v σ H Q) := fun s H0 D cl fp => ⟨fun pins s' σ H v u Q I r h => (pWG tg).run pins s' σ H v u Q I r (h s H0 D cl fp)⟩
  have g2 : ∀ (s : Shared) (H : Hp) (D : Addr) (cl : List (Str × Addr)) (fp : List Addr), PTs (X.blk s H scope (compEnvC scope cl D X.env) fp) ifs (fun σ H Q => ∀ s H0 D cl fp, ∃ t, PTs (Blk X scope s H0 D cl fp) ifs t ∧ t σ H Q) := fun s H0 D cl fp => ⟨fun pins s' σ H Q I h => let ⟨t, h1, h2⟩ := h s H0 D cl fp; h1.run pins s' σ H Q I h2⟩
  have g3 : ∀ (s : Shared) (H : Hp) (D : Addr) (cl : List (Str × Addr)) (fp : List Addr), PE (X.blk s H scope (compEnvC scope cl D X.env) fp) elt (fun σ H Q => ∀ s H0 D cl fp, WE (Blk X scope s H0 D cl fp) elt σ H Q) := fun s H0 D cl fp => ⟨fun pins s' σ H Q I h => (pWE elt).run pins s' σ H Q I (h s H0 D cl fp)⟩
  refine ⟨_, pe_lc (own := own) hc hN (pWI tg iter) ok g1 g2 g3 hs, fun i y py spos e1 e2 e3 => ps_setLc (own := own) hc hN e1 e2 e3 (pWI tg iter) ok g1 g2 g3 hs, fun σ B H F k Q q => ?_⟩
  exact hi σ B H F k _ fun J B1 H1 F1 k1 x1 wk =>
      lc_turns Ss f Ct Cm hl pl h0 hts turn k1 wk (fun D B' H' F' Fd k' t n o x => q (.ref D) B' H' F' Fd k' t n o (x1.trans x)) _ rfl _ rfl _ rfl
theorem evl_comp {own : List (Str × Nat)} {g : Nat → D} (Ss : Nat → Option (Int × Int)) (v : Nat → Option Mu) (hN : X.N.Nodup) (hi : Iter X c st tg iter C (tab n g) C1) (ok : BlkOk X.N X.env.scope scope own) (hl : n ≤ 1000)
    (pl : ∀ i ∈ own.map (·.2), plainSl C1.ρ[i]? = true) (h0 : Ss 0 = C1.S)
    (turn : ∀ i, i < n → ∃ Ct Cm ts, (∀ j ∈ ts, j ∈ own.map (·.2)) ∧ wipeR Ct.ρ (own.map (·.2)) = wipeR C1.ρ (own.map (·.2)) ∧ (∀ i' ∈ own.map (·.2), plainSl Ct.ρ[i']? = true) ∧ ∀ s H D cl fp,
      Tg (Blk X scope s H D cl fp) c st tg ⟨Ss i, wipeR C1.ρ (own.map (·.2))⟩ (g i) Ct ts ∧
      ((v i = none ∧ EvTs (Blk X scope s H D cl fp) c st ifs Ct false ⟨Ss (i + 1), Ct.ρ⟩) ∨
       (∃ m, v i = some m ∧ EvTs (Blk X scope s H D cl fp) c st ifs Ct true Cm ∧ Ev (Blk X scope s H D cl fp) c st elt Cm m ⟨Ss (i + 1), Ct.ρ⟩)))
    (hc : X.calm = true := by rfl) (hs : ∀ x, foldedSetIterable iter X.env x = pure x := by intro _; rfl) :
    EvL X c st (.ListComp elt [⟨tg, iter, ifs, 0⟩] scope pos) C (.ls (kept (tab n v))) ⟨Ss n, C1.ρ⟩ := by
  have tn : ∀ i, ∃ Ct Cm, i < n → (wipeR Ct.ρ (own.map (·.2)) = wipeR C1.ρ (own.map (·.2)) ∧ (∀ i' ∈ own.map (·.2), plainSl Ct.ρ[i']? = true) ∧ ∀ s H D cl fp,
      Tg (Blk X scope s H D cl fp) c st tg ⟨Ss i, wipeR C1.ρ (own.map (·.2))⟩ (g i) Ct (own.map (·.2)) ∧
      ((v i = none ∧ EvTs (Blk X scope s H D cl fp) c st ifs Ct false ⟨Ss (i + 1), Ct.ρ⟩) ∨
       (∃ m, v i = some m ∧ EvTs (Blk X scope s H D cl fp) c st ifs Ct true Cm ∧ Ev (Blk X scope s H D cl fp) c st elt Cm m ⟨Ss (i + 1), Ct.ρ⟩))) := fun i => by
    by_cases h : i < n
    · obtain ⟨Ct, Cm, ts, h1, h2, h3, h4⟩ := turn i h
      exact ⟨Ct, Cm, fun _ => ⟨h2, h3, fun s H D cl fp => ⟨(h4 s H D cl fp).1.mono h1, (h4 s H D cl fp).2⟩⟩⟩
    · exact ⟨C, C, fun z => absurd z h⟩
  have q := evl_lc (X := X) (c := c) (st := st) (scope := scope) (ifs := ifs) (elt := elt) (own := own) (pos := pos) Ss v (fun i => (tn i).choose) (fun i => (tn i).choose_spec.choose) hN hi ok (by rw [tab_len]; exact hl) pl h0 (fun i h => h) (fun s H D cl fp i d hd => by
    obtain ⟨h1, rfl⟩ := tab_get' hd
    obtain ⟨q1, q2, q3⟩ := (tn i).choose_spec.choose_spec h1
    exact ⟨(q3 s H D cl fp).1, q1, q2, (q3 s H D cl fp).2⟩) hc hs
  rw [tab_len] at q
  exact q
/-- [elt for tg in iter] without a change of the state -/
theorem evl_map {own : List (Str × Nat)} {g : Nat → D} (w : Nat → Mu) (hN : X.N.Nodup) (hi : Iter X c st tg iter C (tab n g) C1) (ok : BlkOk X.N X.env.scope scope own) (hl : n ≤ 1000)
    (pl : ∀ i ∈ own.map (·.2), plainSl C1.ρ[i]? = true)
    (turn : ∀ i, i < n → ∃ Ct ts, (∀ j ∈ ts, j ∈ own.map (·.2)) ∧ wipeR Ct.ρ (own.map (·.2)) = wipeR C1.ρ (own.map (·.2)) ∧ (∀ i' ∈ own.map (·.2), plainSl Ct.ρ[i']? = true) ∧ ∀ s H D cl fp,
      Tg (Blk X scope s H D cl fp) c st tg ⟨C1.S, wipeR C1.ρ (own.map (·.2))⟩ (g i) Ct ts ∧ Ev (Blk X scope s H D cl fp) c st elt Ct (w i) ⟨C1.S, Ct.ρ⟩)
    (hc : X.calm = true := by rfl) (hs : ∀ x, foldedSetIterable iter X.env x = pure x := by intro _; rfl) :
    EvL X c st (.ListComp elt [⟨tg, iter, [], 0⟩] scope pos) C (.ls (tab n w)) C1 := by
  have q := evl_comp (X := X) (c := c) (st := st) (scope := scope) (ifs := []) (elt := elt) (own := own) (pos := pos) (fun _ => C1.S) (fun i => some (w i)) hN hi ok hl pl rfl (fun i hi => by
    obtain ⟨Ct, ts, h1, h2, h3, h4⟩ := turn i hi
    exact ⟨Ct, Ct, ts, h1, h2, h3, fun s H D cl fp => ⟨(h4 s H D cl fp).1, .inr ⟨_, rfl, evts_nil, (h4 s H D cl fp).2⟩⟩⟩) hc hs
  rw [kept_some] at q
  exact q
/-- the usual case: one or more names of the comprehension's own, slots unset before; the turn gives the target's and the element's derivations -/
theorem evl_mapD {own : List (Str × Nat)} {g : Nat → D} (w : Nat → D) (hN : X.N.Nodup) (hi : Iter X c st tg iter C (tab n g) C1) (ok : BlkOk X.N X.env.scope scope own) (hl : n ≤ 1000)
    (pl : ∀ i ∈ own.map (·.2), plainSl C1.ρ[i]? = true)
    (turn : ∀ i, i < n → ∃ Ct ts, (∀ j ∈ ts, j ∈ own.map (·.2)) ∧ wipeR Ct.ρ (own.map (·.2)) = wipeR C1.ρ (own.map (·.2)) ∧ (∀ i' ∈ own.map (·.2), plainSl Ct.ρ[i']? = true) ∧ ∀ s H D cl fp,
      Tg (Blk X scope s H D cl fp) c st tg ⟨C1.S, wipeR C1.ρ (own.map (·.2))⟩ (g i) Ct ts ∧ Ev (Blk X scope s H D cl fp) c st elt Ct (.im (w i)) ⟨C1.S, Ct.ρ⟩)
    (hc : X.calm = true := by rfl) (hs : ∀ x, foldedSetIterable iter X.env x = pure x := by intro _; rfl) :
    EvL X c st (.ListComp elt [⟨tg, iter, [], 0⟩] scope pos) C (.ls ((tab n w).map Mu.im)) C1 := by
  rw [tab_map]
  exact evl_map _ hN hi ok hl pl turn hc hs
end
end K48

namespace K48
open PySem PySem.Spec PyProof.Rows L2
def itn {α : Type} (f : α → α) : Nat → α → α
  | 0, a => a
  | n + 1, a => f (itn f n a)
section
variable {X : Cx} {c : Cl} {st : Addr} {C C0 C1 C2 C3 : Cfg} {e a b e2 elt : Expr} {pos p p2 p1 p3 pos' tpos : Pos} {body : List Stmt}
theorem es_whileF {α : Type} (G : α → Cfg) (t : α → Bool) (f : α → α) (P : α → Prop) (μ : α → Nat) {a0 : α} (h0 : P a0) (hp : PassesOwn (model X.prog X.w) X.A X.env X.xe)
    (step : ∀ a, P a → t a = true → P (f a) ∧ μ (f a) < μ a) (test : ∀ a, P a → EvT X c st e (G a) (t a) (G a)) (turn : ∀ a, P a → t a = true → Ex X c st body (G a) (.nx (G (f a)))) :
    ∃ a1, P a1 ∧ t a1 = false ∧ Es X c st (.While e body [] pos) (G a0) (.nx (G a1)) := by
  have ex : ∀ m a, μ a ≤ m → P a → ∃ n, P (itn f n a) ∧ t (itn f n a) = false ∧ ∀ i, i < n → P (itn f i a) ∧ t (itn f i a) = true := by
    have sh : ∀ i a, itn f (i + 1) a = itn f i (f a) := by
      intro i
      induction i with
      | zero => intro a; rfl
      | succ i ih => intro a; show f (itn f (i + 1) a) = _; rw [ih]; rfl
    intro m
    induction m with
    | zero =>
      intro a hm hP
      cases e : t a with
      | false => exact ⟨0, hP, e, fun i hi => absurd hi (Nat.not_lt_zero _)⟩
      | true => have := (step a hP e).2; omega
    | succ m ih =>
      intro a hm hP
      cases e : t a with
      | false => exact ⟨0, hP, e, fun i hi => absurd hi (Nat.not_lt_zero _)⟩
      | true =>
        obtain ⟨h1, h2⟩ := step a hP e
        obtain ⟨n, q1, q2, q3⟩ := ih (f a) (by omega) h1
        refine ⟨n + 1, by rw [sh]; exact q1, by rw [sh]; exact q2, fun i hi => ?_⟩
        cases i with
        | zero => exact ⟨hP, e⟩
        | succ i => rw [sh]; exact q3 i (by omega)
  obtain ⟨n, q1, q2, q3⟩ := ex (μ a0) a0 (Nat.le_refl _) h0
  refine ⟨itn f n a0, q1, q2, es_while (fun i => G (itn f i a0)) n hp (fun i hi => ?_) fun i hi => turn _ (q3 i hi).1 (q3 i hi).2⟩
  by_cases h : i < n
  · have z := test _ (q3 i h).1
    rw [(q3 i h).2] at z
    rw [decide_eq_true h]; exact z
  · have e : i = n := by omega
    subst e
    have z := test _ q1
    rw [q2] at z
    rw [decide_eq_false (Nat.lt_irrefl _)]; exact z
end
end K48
namespace K48
open PySem PySem.Spec PyProof.Rows L2
def blkB (N : List Str) (sc scope : Scope) (own : List (Str × Nat)) : Bool :=
  decide (scope.kind = .function) && (scope.names.all (fun y => decide (scope.names.lookup y.1 = some y.2)) && (own.all (fun p => decide (N[p.2]? = some p.1)) &&
  (scope.names.all (fun y => !decide (y.2 = .free) || (decide (sc.names.lookup y.1 = some .cell) || decide (sc.names.lookup y.1 = some .free))) &&
  scope.names.all (fun y => !(decide (y.2 = .local) || decide (y.2 = .cell)) || (decide (y.1 ∈ own.map (·.1)) || decide (y.1 ∉ N))))))
theorem blkOk {N : List Str} {sc scope : Scope} {own : List (Str × Nat)} (h : blkB N sc scope own = true) : BlkOk N sc scope own := by
  unfold blkB at h
  simp only [Bool.and_eq_true, decide_eq_true_eq, List.all_eq_true, Bool.or_eq_true, Bool.not_eq_true', decide_eq_false_iff_not] at h
  obtain ⟨h1, h2, h3, h4, h5⟩ := h
  refine ⟨h1, h2, h3, fun y hy e => ?_, fun y hy e => ?_⟩
  · rcases h4 y hy with q | q
    · exact absurd e q
    · exact q
  · rcases h5 y hy with q | q
    · rw [Bool.or_eq_false_iff] at q
      rcases e with e | e
      · exact absurd e (of_decide_eq_false q.1)
      · exact absurd e (of_decide_eq_false q.2)
    · exact q
section
theorem ex_eq {X : Cx} {c : Cl} {st : Addr} {C C2 C3 : Cfg} {ss : List Stmt} (h : Ex X c st ss C (.nx C2)) (e : C2 = C3 := by rfl) : Ex X c st ss C (.nx C3) := e ▸ h
theorem es_eq {X : Cx} {c : Cl} {st : Addr} {C C2 C3 : Cfg} {s : Stmt} (h : Es X c st s C (.nx C2)) (e : C2 = C3 := by rfl) : Es X c st s C (.nx C3) := e ▸ h
theorem evt_to {X : Cx} {c : Cl} {st : Addr} {C C2 : Cfg} {e : Expr} {t u : Bool} (h : EvT X c st e C t C2) (q : t = u) : EvT X c st e C u C2 := q ▸ h
theorem ev_to {X : Cx} {c : Cl} {st : Addr} {C C2 : Cfg} {e : Expr} {d d' : D} (h : Ev X c st e C (.im d) C2) (q : d = d') : Ev X c st e C (.im d') C2 := q ▸ h
variable {X : Cx} {c : Cl} {st : Addr} {C C0 C1 C2 C3 : Cfg} {e a b e2 elt : Expr} {d d1 d2 d3 : D} {m m1 m2 : Mu} {pos p p2 p1 p3 pos' tpos : Pos} {es elts ifs : List Expr} {k n : Nat} {tg iter : Expr} {scope : Scope} {own : List (Str × Nat)} {S S' : Option (Int × Int)} {ts : List Nat} {g : Nat → D}
abbrev os (own : List (Str × Nat)) : List Nat := own.map (·.2)
abbrev plB (own : List (Str × Nat)) (ρ : List (Option Sl)) : Bool := (os own).all fun i => plainSl ρ[i]?
/-- one turn of a comprehension: o: the item it adds -/
def Turn (X : Cx) (c : Cl) (st : Addr) (scope : Scope) (own : List (Str × Nat)) (C1 : Cfg) (S S' : Option (Int × Int)) (tg : Expr) (d : D) (ifs : List Expr) (elt : Expr) (o : Option Mu) : Prop :=
  ∃ Ct Cm ts, (∀ j ∈ ts, j ∈ os own) ∧ wipeR Ct.ρ (os own) = wipeR C1.ρ (os own) ∧ (∀ i' ∈ os own, plainSl Ct.ρ[i']? = true) ∧ ∀ s H D cl fp,
      Tg (Blk X scope s H D cl fp) c st tg ⟨S, wipeR C1.ρ (os own)⟩ d Ct ts ∧
      ((o = none ∧ EvTs (Blk X scope s H D cl fp) c st ifs Ct false ⟨S', Ct.ρ⟩) ∨
       (∃ m, o = some m ∧ EvTs (Blk X scope s H D cl fp) c st ifs Ct true Cm ∧ Ev (Blk X scope s H D cl fp) c st elt Cm m ⟨S', Ct.ρ⟩))
theorem all_mem {ts us : List Nat} (h : (ts.all fun j => us.contains j) = true) : ∀ j ∈ ts, j ∈ us := fun j hj => by simpa using List.all_eq_true.mp h j hj
theorem all_pl {us : List Nat} {ρ : List (Option Sl)} (h : (us.all fun i => plainSl ρ[i]?) = true) : ∀ i ∈ us, plainSl ρ[i]? = true := fun j hj => List.all_eq_true.mp h j hj
theorem turn {Ct C2 : Cfg} (h : ∀ s H D cl fp, Tg (Blk X scope s H D cl fp) c st tg ⟨S, wipeR C1.ρ (os own)⟩ d Ct ts ∧ Ev (Blk X scope s H D cl fp) c st elt Ct m C2) (b0 : C2 = ⟨S', Ct.ρ⟩ := by rfl)
    (b1 : (ts.all fun j => (os own).contains j) = true := by rfl) (b2 : wipeR Ct.ρ (os own) = wipeR C1.ρ (os own) := by rfl) (b3 : plB own Ct.ρ = true := by rfl) : Turn X c st scope own C1 S S' tg d [] elt (some m) := by
  subst b0
  exact ⟨Ct, Ct, ts, all_mem b1, b2, all_pl b3, fun s H D cl fp => ⟨(h s H D cl fp).1, .inr ⟨_, rfl, evts_nil, (h s H D cl fp).2⟩⟩⟩
theorem turnF {t : Bool} {e : Expr} {Ct Cm C2 : Cfg} (h : ∀ s H D cl fp, Tg (Blk X scope s H D cl fp) c st tg ⟨S, wipeR C1.ρ (os own)⟩ d Ct ts ∧ EvT (Blk X scope s H D cl fp) c st e Ct t Cm ∧ (t = true → Ev (Blk X scope s H D cl fp) c st elt Cm m C2)) (b00 : Cm = ⟨S', Ct.ρ⟩ := by rfl) (b0 : C2 = ⟨S', Ct.ρ⟩ := by rfl)
    (b1 : (ts.all fun j => (os own).contains j) = true := by rfl) (b2 : wipeR Ct.ρ (os own) = wipeR C1.ρ (os own) := by rfl) (b3 : plB own Ct.ρ = true := by rfl) : Turn X c st scope own C1 S S' tg d [e] elt (if t = true then some m else none) := by
  subst b0 b00
  refine ⟨Ct, ⟨S', Ct.ρ⟩, ts, all_mem b1, b2, all_pl b3, fun s H D cl fp => ⟨(h s H D cl fp).1, ?_⟩⟩
  cases ht : t with
  | false => rw [if_neg Bool.false_ne_true]; exact .inl ⟨rfl, by have := (h s H D cl fp).2.1; rw [ht] at this; exact evts_one this⟩
  | true => rw [if_pos rfl]; exact .inr ⟨_, rfl, by have := (h s H D cl fp).2.1; rw [ht] at this; exact evts_one this, (h s H D cl fp).2.2 ht⟩
theorem lc_gen (own : List (Str × Nat)) (Ss : Nat → Option (Int × Int)) (v : Nat → Option Mu) (hN : X.N.Nodup) (hi : Iter X c st tg iter C (tab n g) C1) (hl : n ≤ 1000) (h0 : Ss 0 = C1.S)
    (turn : ∀ i, i < n → Turn X c st scope own C1 (Ss i) (Ss (i + 1)) tg (g i) ifs elt (v i)) (ok : blkB X.N X.env.scope scope own = true) (pl : plB own C1.ρ = true) (hc : X.calm = true) (hs : ∀ x, foldedSetIterable iter X.env x = pure x) :
    EvL X c st (.ListComp elt [⟨tg, iter, ifs, 0⟩] scope pos) C (.ls (kept (tab n v))) ⟨Ss n, C1.ρ⟩ :=
  evl_comp Ss v hN hi (blkOk ok) hl (all_pl pl) h0 (fun i hi => turn i hi) hc hs
/-- plain items, no test -/
theorem lc_map (own : List (Str × Nat)) (w : Nat → D) (hN : X.N.Nodup) (hi : Iter X c st tg iter C (tab n g) C1) (hl : n ≤ 1000)
    (turn : ∀ i, i < n → Turn X c st scope own C1 C1.S C1.S tg (g i) [] elt (some (.im (w i)))) (ok : blkB X.N X.env.scope scope own = true := by rfl) (pl : plB own C1.ρ = true := by rfl) (hc : X.calm = true := by rfl) (hs : ∀ x, foldedSetIterable iter X.env x = pure x := by intro _; rfl) :
    EvL X c st (.ListComp elt [⟨tg, iter, [], 0⟩] scope pos) C (.ls ((tab n w).map Mu.im)) C1 := by
  have q := lc_gen (pos := pos) own (fun _ => C1.S) (fun i => some (.im (w i))) hN hi hl rfl turn ok pl hc hs
  rw [kept_some, ← tab_map] at q
  exact q
/-- owned items, no test -/
theorem lc_mapM (own : List (Str × Nat)) (w : Nat → Mu) (hN : X.N.Nodup) (hi : Iter X c st tg iter C (tab n g) C1) (hl : n ≤ 1000)
    (turn : ∀ i, i < n → Turn X c st scope own C1 C1.S C1.S tg (g i) [] elt (some (w i))) (ok : blkB X.N X.env.scope scope own = true := by rfl) (pl : plB own C1.ρ = true := by rfl) (hc : X.calm = true := by rfl) (hs : ∀ x, foldedSetIterable iter X.env x = pure x := by intro _; rfl) :
    EvL X c st (.ListComp elt [⟨tg, iter, [], 0⟩] scope pos) C (.ls (tab n w)) C1 := by
  have q := lc_gen (pos := pos) own (fun _ => C1.S) (fun i => some (w i)) hN hi hl rfl turn ok pl hc hs
  rw [kept_some] at q
  exact q
def keptD (l : List (Option D)) : List D := l.filterMap id
theorem kept_if {t : Nat → Bool} {w : Nat → D} : kept (tab n fun i => if t i = true then some (Mu.im (w i)) else none) = (keptD (tab n fun i => if t i = true then some (w i) else none)).map Mu.im := by
  unfold kept keptD tab
  induction (List.range n) with
  | nil => rfl
  | cons a l ih =>
    simp only [List.map_cons, List.filterMap_cons, id]
    cases t a with
    | false => simpa using ih
    | true => simpa using ih
/-- plain items, a test -/
theorem lc_filter (own : List (Str × Nat)) (t : Nat → Bool) (w : Nat → D) (hN : X.N.Nodup) (hi : Iter X c st tg iter C (tab n g) C1) (hl : n ≤ 1000)
    (turn : ∀ i, i < n → Turn X c st scope own C1 C1.S C1.S tg (g i) ifs elt (if t i = true then some (.im (w i)) else none)) (ok : blkB X.N X.env.scope scope own = true := by rfl) (pl : plB own C1.ρ = true := by rfl) (hc : X.calm = true := by rfl) (hs : ∀ x, foldedSetIterable iter X.env x = pure x := by intro _; rfl) :
    EvL X c st (.ListComp elt [⟨tg, iter, ifs, 0⟩] scope pos) C (.ls ((keptD (tab n fun i => if t i = true then some (w i) else none)).map Mu.im)) C1 := by
  have q := lc_gen (pos := pos) own (fun _ => C1.S) (fun i => if t i = true then some (.im (w i)) else none) hN hi hl rfl turn ok pl hc hs
  rw [kept_if] at q
  exact q
/-- plain items, no test, the state goes on -/
theorem lc_st (own : List (Str × Nat)) (Ss : Nat → Int × Int) (w : Nat → D) (hN : X.N.Nodup) (hi : Iter X c st tg iter C (tab n g) C1) (hl : n ≤ 1000) (h0 : C1.S = some (Ss 0))
    (turn : ∀ i, i < n → Turn X c st scope own C1 (some (Ss i)) (some (Ss (i + 1))) tg (g i) [] elt (some (.im (w i)))) (ok : blkB X.N X.env.scope scope own = true := by rfl) (pl : plB own C1.ρ = true := by rfl) (hc : X.calm = true := by rfl) (hs : ∀ x, foldedSetIterable iter X.env x = pure x := by intro _; rfl) :
    EvL X c st (.ListComp elt [⟨tg, iter, [], 0⟩] scope pos) C (.ls ((tab n w).map Mu.im)) ⟨some (Ss n), C1.ρ⟩ := by
  have q := lc_gen (pos := pos) own (fun i => some (Ss i)) (fun i => some (.im (w i))) hN hi hl h0.symm turn ok pl hc hs
  rw [kept_some, ← tab_map] at q
  exact q
end
end K48

namespace K48
open PySem PySem.Spec PyProof.Rows L2
/-! ### lists as tables -/
theorem map_tab {α β : Type} (l : List α) (z : α) (f : α → β) : l.map f = tab l.length fun i => f (l.getD i z) := by
  refine tab_ext (by simp) fun i hi => ?_
  rw [List.getElem?_map, List.getElem?_eq_getElem hi, List.getD_eq_getElem?_getD, List.getElem?_eq_getElem hi]
  rfl
theorem getD_mem {α : Type} {l : List α} {z : α} {i : Nat} (h : i < l.length) : l.getD i z ∈ l := by
  rw [List.getD_eq_getElem?_getD, List.getElem?_eq_getElem h]
  exact List.getElem_mem h
theorem getD_at {α : Type} {l : List α} {z : α} {i : Nat} (h : i < l.length) : l[i]? = some (l.getD i z) := by
  rw [List.getD_eq_getElem?_getD, List.getElem?_eq_getElem h]
  rfl
theorem foldl_inv {α β : Type} {f : α → β → α} (P : Nat → α → Prop) {a : α} {l : List β} (h0 : P 0 a) (h : ∀ i b a, l[i]? = some b → P i a → P (i + 1) (f a b)) : P l.length (l.foldl f a) := by
  have : ∀ m, m ≤ l.length → P m ((l.take m).foldl f a) := by
    intro m
    induction m with
    | zero => intro _; exact h0
    | succ m ih =>
      intro hm
      have hb : l[m]? = some l[m] := List.getElem?_eq_getElem (by omega)
      rw [List.take_succ_eq_append_getElem (by omega), List.foldl_append]
      exact h m _ _ hb (ih (by omega))
  have q := this l.length (Nat.le_refl _)
  rwa [List.take_length] at q
theorem foldl_take {α β : Type} {f : α → β → α} {a : α} {l : List β} {i : Nat} {b : β} (h : l[i]? = some b) : (l.take (i + 1)).foldl f a = f ((l.take i).foldl f a) b := by
  have hl := (List.getElem?_eq_some_iff.mp h).1
  rw [List.take_succ_eq_append_getElem hl, List.foldl_append]
  have e : l[i] = b := (List.getElem?_eq_some_iff.mp h).2
  rw [e]
  rfl
section
variable {X : Cx} {c : Cl} {st : Addr} {C C0 C1 C2 C3 : Cfg} {e a b e2 elt : Expr} {d d1 d2 d3 : D} {m m1 m2 : Mu} {pos p p2 p1 p3 pos' tpos : Pos} {o : Out} {s : Stmt} {ss body : List Stmt} {es elts ifs : List Expr} {k n : Nat} {tg iter : Expr} {scope : Scope} {own : List (Str × Nat)} {S S' : Option (Int × Int)} {ts : List Nat} {g : Nat → D} {β : Type} {bs : List β} {inj : β → D}
/-- a loop over a list, without a return -/
theorem es_fold2 {α : Type} (G : α → Cfg) (f : α → β → α) (P : Nat → α → Prop) {a0 : α} (h0 : P 0 a0) (hp : PassesOwn (model X.prog X.w) X.A X.env X.xe) (hi : Iter X c st tg iter C (bs.map inj) (G a0))
    (turn : ∀ i b a, bs[i]? = some b → P i a → (∃ C1 ts, Tg X c st tg (G a) (inj b) C1 ts ∧ Ex X c st body C1 (.nx (G (f a b)))) ∧ P (i + 1) (f a b)) (hc : X.calm = true := by rfl)
    (hs : ∀ x, foldedSetIterable iter X.env x = pure x := by intro _; rfl) : Es X c st (.For tg iter body [] pos) C (.nx (G (bs.foldl f a0))) ∧ P bs.length (bs.foldl f a0) := by
  have inv : ∀ m, m ≤ bs.length → P m ((bs.take m).foldl f a0) := by
    intro m
    induction m with
    | zero => intro _; exact h0
    | succ m ih =>
      intro hm
      obtain ⟨b, hb⟩ : ∃ b, bs[m]? = some b := ⟨_, List.getElem?_eq_getElem (by omega)⟩
      rw [foldl_take hb]
      exact (turn m b _ hb (ih (by omega))).2
  have fin := inv bs.length (Nat.le_refl _)
  rw [List.take_length] at fin
  refine ⟨?_, fin⟩
  have q := es_forAll (X := X) (c := c) (st := st) (body := body) (pos := pos) (fun i => G ((bs.take i).foldl f a0)) hp (by simpa using hi) (fun i d hd => by
    rw [List.getElem?_map] at hd
    cases hb : bs[i]? with
    | none => rw [hb] at hd; cases hd
    | some b =>
      rw [hb] at hd
      cases hd
      rw [foldl_take hb]
      exact (turn i b _ hb (inv i (by have := (List.getElem?_eq_some_iff.mp hb).1; omega))).1) hc hs
  rw [List.length_map, List.take_length] at q
  exact q
theorem es_fold {α : Type} (G : α → Cfg) (f : α → β → α) (P : Nat → α → Prop) {a0 : α} (h0 : P 0 a0) (hp : PassesOwn (model X.prog X.w) X.A X.env X.xe) (hi : Iter X c st tg iter C (bs.map inj) (G a0))
    (turn : ∀ i b a, bs[i]? = some b → P i a → (∃ C1 ts, Tg X c st tg (G a) (inj b) C1 ts ∧ Ex X c st body C1 (.nx (G (f a b)))) ∧ P (i + 1) (f a b)) (hc : X.calm = true := by rfl)
    (hs : ∀ x, foldedSetIterable iter X.env x = pure x := by intro _; rfl) : Es X c st (.For tg iter body [] pos) C (.nx (G (bs.foldl f a0))) := (es_fold2 G f P h0 hp hi turn hc hs).1
/-- a loop over a list that leaves with m at the first item of which q does not hold -/
theorem es_allL (q : β → Bool) {S' : Option (Int × Int)} (hp : PassesOwn (model X.prog X.w) X.A X.env X.xe) (hi : Iter X c st tg iter C (bs.map inj) C1)
    (turn : ∀ b, b ∈ bs → ∃ C2 ts, Tg X c st tg C1 (inj b) C2 ts ∧ Ex X c st body C2 (if q b = true then .nx C1 else .rt m S')) (hc : X.calm = true := by rfl)
    (hs : ∀ x, foldedSetIterable iter X.env x = pure x := by intro _; rfl) : Es X c st (.For tg iter body [] pos) C (if bs.all q = true then .nx C1 else .rt m S') := by
  cases hb : bs with
  | nil =>
    subst hb
    have z := es_all (X := X) (c := c) (st := st) (tg := tg) (iter := iter) (C := C) (C1 := C1) (pos := pos) (body := body) (m := m) (S' := S') (n := 0) (g := fun _ => .non) (fun _ => true) hp hi (fun i hi => absurd hi (Nat.not_lt_zero _)) hc hs
    rw [if_pos (fun i hi => absurd hi (Nat.not_lt_zero _))] at z
    rw [if_pos (show ([] : List β).all q = true from rfl)]; exact z
  | cons b0 r =>
    rw [← hb]
    have e := map_tab bs b0 inj
    rw [e] at hi
    have z := es_all (X := X) (c := c) (st := st) (tg := tg) (iter := iter) (C := C) (C1 := C1) (pos := pos) (body := body) (m := m) (S' := S') (fun i => q (bs.getD i b0)) hp hi (fun i hi _ => turn _ (getD_mem hi)) hc hs
    have ee : (∀ i, i < bs.length → q (bs.getD i b0) = true) ↔ bs.all q = true := by
      rw [List.all_eq_true]
      constructor
      · intro h x hx
        obtain ⟨i, hi, rfl⟩ := List.getElem_of_mem hx
        have := h i hi
        rw [List.getD_eq_getElem?_getD, List.getElem?_eq_getElem hi] at this
        exact this
      · intro h i hi
        exact h _ (getD_mem hi)
    by_cases h : bs.all q = true
    · rw [if_pos (ee.mpr h)] at z
      rw [if_pos h]; exact z
    · rw [if_neg fun w => h (ee.mp w)] at z
      rw [if_neg h]; exact z
theorem lcl_map (own : List (Str × Nat)) (w : β → D) (hN : X.N.Nodup) (hi : Iter X c st tg iter C (bs.map inj) C1) (hl : bs.length ≤ 1000)
    (turn : ∀ b, b ∈ bs → Turn X c st scope own C1 C1.S C1.S tg (inj b) [] elt (some (.im (w b)))) (ok : blkB X.N X.env.scope scope own = true := by rfl) (pl : plB own C1.ρ = true := by rfl) (hc : X.calm = true := by rfl) (hs : ∀ x, foldedSetIterable iter X.env x = pure x := by intro _; rfl) :
    EvL X c st (.ListComp elt [⟨tg, iter, [], 0⟩] scope pos) C (.ls ((bs.map w).map Mu.im)) C1 := by
  cases hb : bs with
  | nil =>
    subst hb
    exact lc_map (n := 0) (g := fun _ => .non) own (fun _ => .non) hN hi (by omega) (fun i hi => absurd hi (Nat.not_lt_zero _)) ok pl hc hs
  | cons b0 r =>
    rw [← hb, map_tab bs b0 w]
    rw [map_tab bs b0 inj] at hi
    exact lc_map own (fun i => w (bs.getD i b0)) hN hi hl (fun i hi => turn _ (getD_mem hi)) ok pl hc hs
theorem keptD_filter {t : β → Bool} {w : β → D} (b0 : β) : ∀ l : List β, keptD (l.map fun b => if t b = true then some (w b) else none) = (l.filter t).map w
  | [] => rfl
  | b :: l => by
    have ih := keptD_filter (t := t) (w := w) b0 l
    unfold keptD at ih ⊢
    rw [List.map_cons, List.filterMap_cons, List.filter_cons]
    cases t b with
    | false => simpa using ih
    | true => simpa using ih
theorem lcl_filter (own : List (Str × Nat)) (t : β → Bool) (w : β → D) (hN : X.N.Nodup) (hi : Iter X c st tg iter C (bs.map inj) C1) (hl : bs.length ≤ 1000)
    (turn : ∀ b, b ∈ bs → Turn X c st scope own C1 C1.S C1.S tg (inj b) ifs elt (if t b = true then some (.im (w b)) else none)) (ok : blkB X.N X.env.scope scope own = true := by rfl) (pl : plB own C1.ρ = true := by rfl) (hc : X.calm = true := by rfl) (hs : ∀ x, foldedSetIterable iter X.env x = pure x := by intro _; rfl) :
    EvL X c st (.ListComp elt [⟨tg, iter, ifs, 0⟩] scope pos) C (.ls (((bs.filter t).map w).map Mu.im)) C1 := by
  cases hb : bs with
  | nil =>
    subst hb
    exact lc_filter (n := 0) (g := fun _ => .non) own (fun _ => false) (fun _ => .non) hN hi (by omega) (fun i hi => absurd hi (Nat.not_lt_zero _)) ok pl hc hs
  | cons b0 r =>
    rw [← hb, ← keptD_filter b0, map_tab bs b0 fun b => if t b = true then some (w b) else none]
    rw [map_tab bs b0 inj] at hi
    exact lc_filter own (fun i => t (bs.getD i b0)) (fun i => w (bs.getD i b0)) hN hi hl (fun i hi => turn _ (getD_mem hi)) ok pl hc hs
end
/-! ### no metric within -/
mutual
def D.pl : D → Bool
  | .met _ _ => false
  | .tup l => plL l
  | .lst l => plL l
  | _ => true
def plL : List D → Bool
  | [] => true
  | d :: l => d.pl && plL l
end
theorem D.pl.noM {d : D} (h : d.pl = true) : d.noM = true := by
  cases d with
  | met _ _ => simp [D.pl] at h
  | _ => rfl
theorem plL_mem : ∀ {l : List D} {d : D}, plL l = true → d ∈ l → d.pl = true
  | [], _, _, h => by cases h
  | e :: l, d, h, hd => by
    have h' : (e.pl && plL l) = true := h
    rw [Bool.and_eq_true] at h'
    rcases List.mem_cons.mp hd with rfl | hd
    · exact h'.1
    · exact plL_mem h'.2 hd
theorem plL_of : ∀ {l : List D}, (∀ d ∈ l, d.pl = true) → plL l = true
  | [], _ => rfl
  | e :: l, h => by
    show (e.pl && plL l) = true
    rw [h e (by simp), plL_of fun d hd => h d (by simp [hd])]; rfl
end K48

namespace PySem.AutoSeq1
open PySem PySem.Spec PySem.Calls PyProof.Rows
theorem k48_ext_tup (a : Addr) (xs : Array Value) (n : Nat) (b : Addr) (ys : Array Value) (m : Nat) (dd : Option Addr) (sl : Array (Option Value)) (h0 : ¬(!xs.isEmpty && Builtin.List.listTooLong (xs.size + ys.size)) = true) (h1 : xs.size ≤ sizeLine) (h2 : xs.size + ys.size ≤ sizeLine + 1) :
    Meets (Builtin.«list.extend» ⟨[.ref a, .ref b], []⟩) (fun _ R s => s.heap.get? a = some { cls := .type "list", dict := none, data := .seq xs n, slots := #[] } ∧ s.heap.get? b = some ⟨.type "tuple", dd, .seq ys m, sl⟩ ∧ R (.ok (.ret Value.none)) { s with heap := s.heap.update a (Obj.mapSeq fun x => x ++ ys), toks := s.toks }) :=
  .of_wp fun prog w A R s h => by
    obtain ⟨hp, g, d, tk, os⟩ := s
    obtain ⟨hl, hb, h⟩ := h
    have f1 := idx_int
    have f2 := sub_tuple_tuple
    have f3 := sub_list_list
    have f4 := sub_tuple_list
    have f5 := sub_list_tuple
    have z : (xs ++ ys).size ≤ sizeLine + 1 := by rw [Array.size_append]; exact h2
    wp_walk using (wpAny_updateSeq hl rfl (hz := h1) (_hz' := z)), wpAny_loadPart' hl, wpAny_loadPart' hb; exact ⟨_, rfl, h⟩
end PySem.AutoSeq1
namespace K48
open PySem PySem.Spec PyProof.Rows L2
def rExtT (K : PySem.W.Frag) : V → List V → Hp → VK → Prop := fun x vs H Q => ∃ l b xs zs, x = .ref l ∧ vs = [.ref b] ∧ H l = some (.lst xs) ∧ SqT K H b zs ∧ xs.length + zs.length ≤ sizeLine ∧ Q .non (upd H l (.lst (xs ++ zs)))
theorem mt_extT {X : Cx} : MtM X "list.extend" (rExtT X.K) := by
  intro pins s σ H x vs v us Q I rx rv h
  obtain ⟨l, b, xs, zs, rfl, rfl, hH, hB, hz, q⟩ := h
  cases rx
  obtain ⟨u, rfl, ru⟩ := rv.one
  cases ru
  obtain ⟨z, its, n, r, hl, e⟩ := I.lstM hH
  obtain ⟨its2, r2, ⟨⟨oc, dd, dat, sl⟩, ho, hc, n2, hd⟩, _⟩ := I.tuple hB
  simp only at hc hd
  subst hc hd
  have hl2 := r2.length
  have hsz : its.toArray.size + its2.toArray.size ≤ sizeLine := by rw [List.size_toArray, List.size_toArray]; omega
  have hlong : ¬ (!its.toArray.isEmpty && Builtin.List.listTooLong (its.toArray.size + its2.toArray.size)) = true := by
    rw [notLongL hsz, Bool.and_false]
    exact Bool.false_ne_true
  refine PySem.call_meets PySem.F.slot_list_extend ⟨_, e, rfl⟩ PySem.F.entry_list_extend (PySem.F.args_list_extend_2 _ _)
    (PySem.AutoSeq1.k48_ext_tup l its.toArray n b its2.toArray n2 dd sl hlong (by rw [List.size_toArray]; omega) (by omega)) ⟨e, ho, ?_⟩
  refine ⟨.non, _, I.lset (its' := its ++ its2) hH e (by simp) (r.append r2) ?_, rfl, q⟩
  rw [List.length_append]
  omega
section
variable {X : Cx} {c : Cl} {st : Addr} {C C0 C1 C2 C3 : Cfg} {e a b e2 elt : Expr} {d d1 d2 d3 : D} {m m1 m2 : Mu} {pos p p2 p1 p3 apos tpos : Pos} {l l' : List D}
/-- xs.extend(t), t a tuple -/
theorem ev_extT (n : Nat) {y : Str} (ha : Ev X c st e C (.im (.tup l')) C1) (hs0 : ∃ ms0, C.ρ[n]? = some (some (.mu (.ls ms0)))) (hs : C1.ρ[n]? = some (so l)) (hz : l.length + l'.length ≤ 100000) (hN : X.N[n]? = some y := by rfl) (hv : Vis X.env.scope y := by first | exact Or.inl rfl | exact Or.inr (Or.inl rfl) | exact Or.inr (Or.inr rfl))
    (hd : (y == ("__debug__" : Str)) = false := by decide) (hcd : (y == ("__classdict__" : Str)) = false := by decide)
    (hbase : attributeBase (.Name y p) "extend" X.env (eval (.Name y p) X.env) = eval (.Name y p) X.env := by rfl)
    (hfew : ((backTo pos (starEach [e] X.env)).all (fun x => !x.1) && (backToKw pos (keywordEach [] X.env)).all (fun x => x.1.isSome) && decide ([e].length + ([] : List Keyword).length + (if ([] : List Keyword).isEmpty then 0 else 1) < 30)) = true := by rfl)
    (hline : (apos.endLine == pos.line) = true := by rfl) (hst : starEach [e] X.env = (false, eval e X.env) :: starEach [] X.env := by rfl) (hpl : (backTo pos (starEach [] X.env)).any (·.1) = false := by rfl) :
    Ev X c st (.Call (.Attribute (.Name y p) "extend" apos) [e] [] pos) C (.im .non) ⟨C1.S, C1.ρ.set n (so (l ++ l'))⟩ := evI fun σ B H F k Q q => by
  obtain ⟨ms0, hs0⟩ := hs0
  obtain ⟨l0, acc0, _, _, _, ew0, _, h0, _⟩ := own_slot n k hs0
  refine ⟨_, pe_bm PySem.F.plainAttrs_list PySem.F.slot_list_extend PySem.F.type_list_extend mt_extT (pe_var hN hv hd hcd) (pa_cons (pWE e) pa_nil hst) hbase hfew hline hst hpl, .ref l0, ew0, .inl ⟨rfl, _, SqL.of h0⟩, ?_⟩
  refine ha.I k fun v B1 H1 F1 k1 ⟨t, vs, ev, hB, r⟩ x1 => ?_
  subst ev
  obtain ⟨l1, acc, Fa, G1, G2, ew, eF, hq, oa, back⟩ := own_slot n k1 hs
  rw [ew0] at ew; cases ew
  obtain ⟨oi, rfl⟩ := OwnL.ims oa
  refine ⟨l0, t, acc, vs, rfl, rfl, hq, SqT.of (k1.sub _ _ hB), by rw [oi.len, r.len, sizeLine_eq]; omega, ?_⟩
  have k2 := back (upd H1 l0 (.lst (acc ++ vs))) ((l ++ l').map Mu.im) (acc ++ vs) [] (fun a h => upd_ne fun z => h (by simp [z])) upd_same (OwnL.ofIms (oi.append r)) (by have := k1.nd; rw [eF] at this; exact this) (fun a ha => by cases ha)
  refine q .non B1 _ _ k2 rfl (x1.trans ⟨Same.refl _, fun a u ha e => ?_, fun _ _ _ _ h => h, fun a ha => .inl ?_⟩)
  · rw [upd_ne fun z => ha (by rw [z, eF]; simp)]; exact e
  · rw [eF]; exact ha
end
end K48

namespace K48
open PySem PySem.Spec PyProof.Rows L2
/-- all rows behind one another -/
def cat2 (n : Nat) (kk : Nat → Nat) (w : Nat → Nat → D) : List D := (List.range n).flatMap fun i => tab (kk i) (w i)
theorem cat2_succ {n : Nat} {kk : Nat → Nat} {w : Nat → Nat → D} : cat2 (n + 1) kk w = cat2 n kk w ++ tab (kk n) (w n) := by
  unfold cat2
  rw [List.range_succ, List.flatMap_append]
  simp
theorem wipe_idem {σ : L2.St} {vs vs1 : List Nat} (h : ∀ i ∈ vs1, i ∈ vs) : L2.wipe (L2.wipe σ vs1) vs = L2.wipe σ vs := by
  refine List.ext_getElem? fun j => ?_
  rw [wipe_get, wipe_get, wipe_get]
  by_cases hj : j ∈ vs
  · rw [if_pos hj, if_pos hj]
    split
    · cases σ[j]? <;> rfl
    · rfl
  · rw [if_neg hj, if_neg hj, if_neg fun z => hj (h j z)]
section
variable {X : Cx} {c : Cl} {st : Addr} {C C0 C1 C2 C3 : Cfg} {e a b e2 elt : Expr} {d d1 d2 d3 : D} {m m1 m2 : Mu} {pos p p2 p1 p3 pos' tpos : Pos} {es elts ifs : List Expr} {k n : Nat} {tg iter tg1 iter1 : Expr} {scope : Scope} {own : List (Str × Nat)} {S S' : Option (Int × Int)} {ts : List Nat} {g : Nat → D}
theorem ev_lc2 (own : List (Str × Nat)) (vs1 : List Nat) (kk : Nat → Nat) (g1 w : Nat → Nat → D) (Ct : Nat → Cfg) (Cu : Nat → Nat → Cfg) (hN : X.N.Nodup) (hi : Iter X c st tg iter C (tab n g) C1) (hl : ∀ i, i ≤ n → (cat2 i kk w).length ≤ 1000)
    (turn : ∀ s H D cl fp i, i < n → Tg (Blk X scope s H D cl fp) c st tg ⟨C1.S, wipeR C1.ρ (os own)⟩ (g i) (Ct i) (os own) ∧ Iter (Blk X scope s H D cl fp) c st tg1 iter1 (Ct i) (tab (kk i) (g1 i)) (Ct i) ∧
      ∀ j, j < kk i → Tg (Blk X scope s H D cl fp) c st tg1 ⟨C1.S, wipeR (Ct i).ρ vs1⟩ (g1 i j) (Cu i j) vs1 ∧ Ev (Blk X scope s H D cl fp) c st elt (Cu i j) (.im (w i j)) (Cu i j))
    (q1 : ∀ i, i < n → (Ct i).S = C1.S ∧ wipeR (wipeR (Ct i).ρ vs1) (os own) = wipeR C1.ρ (os own) ∧ plB own (wipeR (Ct i).ρ vs1) = true ∧ (vs1.all fun z => plainSl (Ct i).ρ[z]?) = true)
    (q2 : ∀ i j, i < n → j < kk i → (Cu i j).S = C1.S ∧ wipeR (Cu i j).ρ vs1 = wipeR (Ct i).ρ vs1 ∧ (vs1.all fun z => plainSl (Cu i j).ρ[z]?) = true)
    (hv : ∀ i ∈ vs1, i ∈ os own) (ok : blkB X.N X.env.scope scope own = true := by rfl) (pl : plB own C1.ρ = true := by rfl) (hc : X.calm = true := by rfl) (hs : ∀ x, foldedSetIterable iter X.env x = pure x := by intro _; rfl) (hs1 : ∀ env x, foldedSetIterable iter1 env x = pure x := by intro _ _; rfl) :
    Ev X c st (.ListComp elt [⟨tg, iter, [], 0⟩, ⟨tg1, iter1, [], 0⟩] scope pos) C (.ls ((cat2 n kk w).map Mu.im)) C1 := fun σ B H F k Q q => by
  refine ⟨_, pe_lc2 (own := own) (vs1 := vs1) (g := fun v σ H Q => ∀ s H0 D cl fp, WG (Blk X scope s H0 D cl fp) tg v σ H Q) (tt := fun σ H Q => Q true H) (wi1 := fun σ H R => ∀ s H0 D cl fp, ∃ wi, PI (Blk X scope s H0 D cl fp) tg1 iter1 wi ∧ wi σ H R)
    (g1 := fun v σ H Q => ∀ s H0 D cl fp, WG (Blk X scope s H0 D cl fp) tg1 v σ H Q) (tt1 := fun σ H Q => Q true H) (te := fun σ H Q => ∀ s H0 D cl fp, WE (Blk X scope s H0 D cl fp) elt σ H Q)
    hc hN (pWI tg iter) (blkOk ok) hv (fun s H0 D cl fp => ⟨fun pins s' σ H v u Q I r h => (pWG tg).run pins s' σ H v u Q I r (h s H0 D cl fp)⟩)
    (fun s H0 D cl fp => pts_nil) (fun s H0 D cl fp => ⟨fun pins s' σ H R I h => (pWI tg1 iter1).run pins s' σ H R I (h s H0 D cl fp)⟩)
    (fun s H0 D cl fp => ⟨fun pins s' σ H v u Q I r h => (pWG tg1).run pins s' σ H v u Q I r (h s H0 D cl fp)⟩) (fun s H0 D cl fp => pts_nil)
    (fun s H0 D cl fp => ⟨fun pins s' σ H Q I h => (pWE elt).run pins s' σ H Q I (h s H0 D cl fp)⟩) hs hs1, ?_⟩
  refine hi σ B H F k _ fun J B1 H1 F1 k1 x1 wk => ?_
  intro D hD
  have kw := k1.wipe (vs := os own) (all_pl pl)
  refine ⟨fun i m H => m = n - i ∧ i ≤ n ∧ ∃ B' F' Fd, OK c st ⟨C1.S, wipeR C1.ρ (os own)⟩ B' H F' (L2.wipe σ (os own)) ∧ OwnT c B' H (.ls ((cat2 i kk w).map Mu.im)) (.ref D) Fd ∧ (F' ++ Fd).Nodup ∧ (∀ a ∈ Fd, B' a = none) ∧ Ext F1 (F' ++ Fd) B1 H1 B' H, ⟨n, rfl, Nat.zero_le _, ?_⟩, ?_⟩
  · obtain ⟨y1, y2, y3, y4, y5⟩ := own_new (ms := []) (vs := []) (F := F1) (Fm := []) kw ⟨rfl, rfl⟩ (by simpa using kw.nd) (by simp) (by simpa using Ext.refl) hD
    exact ⟨B1, F1, [D], y1, y2, y3, y4, y5⟩
  · rintro i m H ⟨rfl, hin, B2, F2, Fd, k2, t2, n2, o2, x2⟩
    obtain ⟨wg, ws, wy⟩ := wk B2 H x2.b k2.sub
    rw [tab_len] at wg ws
    by_cases hlt : i < n
    · refine .inr ⟨wg i hlt, fun H => ∃ B' F' Fd, OK c st ⟨C1.S, wipeR C1.ρ (os own)⟩ B' H F' (L2.wipe σ (os own)) ∧ OwnT c B' H (.ls ((cat2 (i + 1) kk w).map Mu.im)) (.ref D) Fd ∧ (F' ++ Fd).Nodup ∧ (∀ a ∈ Fd, B' a = none) ∧ Ext F1 (F' ++ Fd) B1 H1 B' H, fun H' z => ⟨n - (i + 1), by omega, rfl, hlt, z⟩, fun x H' y => ?_⟩
      obtain ⟨B3, s3, x3, r3⟩ := wy i (g i) x H' (tab_get hlt) y
      obtain ⟨c1, c2, c3, c4⟩ := q1 i hlt
      have k3 := k2.grow s3 x3
      have x3' : Ext F2 (F2 ++ []) B2 H B3 H' := by simpa using x3.up
      obtain ⟨t3, o3, n3⟩ := keep2 k2 t2 n2 o2 (by simpa using k2.nd) x3'
      have y3 : Ext F1 (F2 ++ Fd) B1 H1 B3 H' := by simpa using ext2 x2 x3'
      rw [List.append_nil] at n3
      intro s5 H5 D5 cl5 fp5
      refine (turn s5 H5 D5 cl5 fp5 i hlt).1 _ B3 H' F2 x k3 r3 _ fun σ6 B6 H6 F6 k6 x6 f6 => ⟨wipe_fr f6 fun i h => h, ?_⟩
      have x6' : Ext F2 (F6 ++ []) B3 H' B6 H6 := by simpa using x6
      obtain ⟨t6, o6, n6⟩ := keep2 k3 t3 n3 o3 (by simpa using k6.nd) x6'
      have y6 : Ext F1 (F6 ++ Fd) B1 H1 B6 H6 := by simpa using ext2 y3 x6'
      rw [List.append_nil] at n6
      have ew := wipe_fr f6 fun i h => h
      show if true = true then _ else _
      rw [if_pos rfl]
      intro s7 H7 D7 cl7 fp7
      refine (turn s7 H7 D7 cl7 fp7 i hlt).2.1 σ6 B6 H6 F6 k6 _ fun J1 B7 H7' F7 k7 x7 wk1 => ?_
      have x7' : Ext F6 (F7 ++ []) B6 H6 B7 H7' := by simpa using x7
      obtain ⟨t7, o7, n7⟩ := keep2 k6 t6 n6 o6 (by simpa using k7.nd) x7'
      have y7 : Ext F1 (F7 ++ Fd) B1 H1 B7 H7' := by simpa using ext2 y6 x7'
      rw [List.append_nil] at n7
      have k7w := k7.wipe (vs := vs1) (all_pl c4)
      rw [c1] at k7w
      refine ⟨fun j m H => m = kk i - j ∧ j ≤ kk i ∧ ∃ B' F' Fd, OK c st ⟨C1.S, wipeR (Ct i).ρ vs1⟩ B' H F' (L2.wipe σ6 vs1) ∧ OwnT c B' H (.ls ((cat2 i kk w ++ tab j (w i)).map Mu.im)) (.ref D) Fd ∧ (F' ++ Fd).Nodup ∧ (∀ a ∈ Fd, B' a = none) ∧ Ext F1 (F' ++ Fd) B1 H1 B' H ∧ Same B7 B', ⟨kk i, rfl, Nat.zero_le _, B7, F7, Fd, k7w, by simpa [tab] using t7, n7, o7, y7, Same.refl _⟩, ?_⟩
      rintro j m H8 ⟨rfl, hjn, B8, F8, Fd8, k8, t8, n8, o8, x8, sb8⟩
      obtain ⟨wg1, ws1, wy1⟩ := wk1 B8 H8 sb8 k8.sub
      rw [tab_len] at wg1 ws1
      by_cases hjl : j < kk i
      · refine .inr ⟨wg1 j hjl, fun H => ∃ B' F' Fd, OK c st ⟨C1.S, wipeR (Ct i).ρ vs1⟩ B' H F' (L2.wipe σ6 vs1) ∧ OwnT c B' H (.ls ((cat2 i kk w ++ tab (j + 1) (w i)).map Mu.im)) (.ref D) Fd ∧ (F' ++ Fd).Nodup ∧ (∀ a ∈ Fd, B' a = none) ∧ Ext F1 (F' ++ Fd) B1 H1 B' H ∧ Same B7 B', fun H' z => ⟨kk i - (j + 1), by omega, rfl, hjl, z⟩, fun x' H9 y' => ?_⟩
        obtain ⟨B9, s9, x9, r9⟩ := wy1 j (g1 i j) x' H9 (tab_get hjl) y'
        obtain ⟨u1, u2, u3⟩ := q2 i j hlt hjl
        have k9 := k8.grow s9 x9
        have x9' : Ext F8 (F8 ++ []) B8 H8 B9 H9 := by simpa using x9.up
        obtain ⟨t9, o9, n9⟩ := keep2 k8 t8 n8 o8 (by simpa using k8.nd) x9'
        have y9 : Ext F1 (F8 ++ Fd8) B1 H1 B9 H9 := by simpa using ext2 x8 x9'
        rw [List.append_nil] at n9
        intro s10 H10 D10 cl10 fp10
        refine ((turn s10 H10 D10 cl10 fp10 i hlt).2.2 j hjl).1 _ B9 H9 F8 x' k9 r9 _ fun σ11 B11 H11 F11 k11 x11 f11 => ⟨wipe_fr f11 fun i h => h, ?_⟩
        have x11' : Ext F8 (F11 ++ []) B9 H9 B11 H11 := by simpa using x11
        obtain ⟨t11, o11, n11⟩ := keep2 k9 t9 n9 o9 (by simpa using k11.nd) x11'
        have y11 : Ext F1 (F11 ++ Fd8) B1 H1 B11 H11 := by simpa using ext2 y9 x11'
        rw [List.append_nil] at n11
        have ew1 := wipe_fr f11 fun i h => h
        show if true = true then _ else _
        rw [if_pos rfl]
        intro s12 H12 D12 cl12 fp12
        refine ((turn s12 H12 D12 cl12 fp12 i hlt).2.2 j hjl).2.I k11 fun v B13 H13 F13 k13 r13 x13 => ?_
        have x13' : Ext F11 (F13 ++ []) B11 H11 B13 H13 := by simpa using x13
        obtain ⟨t13, o13, n13⟩ := keep2 k11 t11 n11 o11 (by simpa using k13.nd) x13'
        have y13 : Ext F1 (F13 ++ Fd8) B1 H1 B13 H13 := by simpa using ext2 y11 x13'
        obtain ⟨aD, acc, Fa, eD, eF, hacc, oacc⟩ := t13
        cases eD; subst eF
        have hlen : ((cat2 i kk w ++ tab j (w i)).map Mu.im).length ≤ 1000 := by
          have h1 := hl (i + 1) hlt
          rw [cat2_succ, List.length_append, tab_len] at h1
          rw [List.length_map, List.length_append, tab_len]
          omega
        refine ⟨acc, hacc, by rw [oacc.len, sizeLine_eq]; omega, ?_⟩
        obtain ⟨z1, z2, z3⟩ := own_app (m := .im (w i j)) (Fm := []) k13 oacc hacc ⟨r13, rfl⟩ n13 (fun a ha => by rw [List.append_nil] at ha; exact o13 a ha)
        have kf := z1.wipe (vs := vs1) (all_pl u3)
        rw [ew1, u1, u2] at kf
        rw [List.append_nil] at z2 z3
        rw [List.append_nil] at n13
        refine ⟨B13, F13, _, kf, ?_, n13, fun a ha => o13 a ha, y13.trans z3, sb8.trans (x9.b.trans (x11.b.trans x13.b))⟩
        rw [tab_succ, ← List.append_assoc, List.map_append]
        exact z2
      · have e : j = kk i := by omega
        subst e
        refine .inl ⟨ws1 _ (Nat.le_refl _), ?_⟩
        have k9 := k8.wipe (vs := os own) (all_pl c3)
        rw [wipe_idem hv, ew, c2] at k9
        exact ⟨B8, F8, Fd8, k9, by rw [cat2_succ]; exact t8, n8, o8, x8⟩
    · have e : i = n := by omega
      subst e
      refine .inl ⟨ws _ (Nat.le_refl _), q (.ref D) B2 H F2 Fd ?_ t2 n2 o2 (x1.trans x2)⟩
      obtain ⟨F0, e0, w0⟩ := k1.own
      obtain ⟨G0, e1, w1⟩ := k2.own
      exact ⟨k2.sub, k2.nd, k2.out, ⟨G0, e1, OwnE.back x2.b (all_pl pl) w0 w1⟩, k2.stc⟩
end
end K48

namespace K48
open PySem PySem.Spec PyProof.Rows L2
abbrev encI (l : List Int) : PyData := .tuple (l.map PyData.int)
def sortI (ls : List (List Int)) : List (List Int) := ls.mergeSort (PySem.W.dataLe false encI)
theorem sortI_perm (ls : List (List Int)) : (sortI ls).Perm ls := List.mergeSort_perm _ _
section
variable {X : Cx} {c : Cl} {st : Addr} {C C0 C1 C2 C3 : Cfg} {e a b e2 elt : Expr} {pos p p2 p1 p3 pos' tpos : Pos} {ls : List (List Int)}
abbrev VI : Type := V × List Int
theorem zip_each {R : Value → VI → Prop} {c : Cl} {B : Hp} (h : ∀ v u ns, Rep c B (tI ns) v → RelV v u → R u (v, ns)) : ∀ {ls : List (List Int)} {vs : List V} {us : List Value}, RepL c B (ls.map tI) vs → Vals vs us → PySem.W.EachIs R us (vs.zip ls)
  | [], vs, us, hr, hv => by
    cases (show vs = [] from hr)
    cases hv
    exact .nil
  | l :: ls, vs, us, ⟨v, r, e, h1, h2⟩, hv => by
    subst e
    cases hv with
    | cons p q => exact .cons (h _ _ _ h1 p) (zip_each h h2 q)
theorem each_vals {B : Hp} : ∀ {us : List Value} {ks : List VI}, PySem.W.EachIs (fun u (b : VI) => RelV b.1 u) us ks → Vals (ks.map (·.1)) us
  | _, _, .nil => .nil
  | _, _, .cons h t => .cons h (each_vals (B := B) t)
theorem zip_rep {c : Cl} {B : Hp} : ∀ {ls : List (List Int)} {vs : List V}, RepL c B (ls.map tI) vs → (vs.zip ls).map (·.2) = ls ∧ ∀ b ∈ vs.zip ls, Rep c B (tI b.2) b.1
  | [], vs, hr => by
    cases (show vs = [] from hr)
    exact ⟨rfl, fun b hb => by cases hb⟩
  | l :: ls, vs, ⟨v, r, e, h1, h2⟩ => by
    subst e
    obtain ⟨q1, q2⟩ := zip_rep h2
    refine ⟨by rw [List.zip_cons_cons, List.map_cons, q1], fun b hb => ?_⟩
    rw [List.zip_cons_cons] at hb
    rcases List.mem_cons.mp hb with rfl | hb
    · exact h1
    · exact q2 b hb
theorem repL_of {c : Cl} {B : Hp} : ∀ {ks : List VI}, (∀ b ∈ ks, Rep c B (tI b.2) b.1) → RepL c B ((ks.map (·.2)).map tI) (ks.map (·.1))
  | [], _ => rfl
  | b :: ks, h => ⟨_, _, rfl, h b (by simp), repL_of fun z hz => h z (by simp [hz])⟩
def rSortTI (K : PySem.W.Frag) : List V → Hp → VK → Prop := fun vs H Q => ∃ (a : Addr) (xs : List V) (ls : List (List Int)) (c : Cl) (B : Hp), vs = [V.ref a] ∧ SqL K H a xs ∧ Same B H ∧ RepL c B (ls.map tI) xs ∧ (∀ l ∈ ls, l ≠ []) ∧ ls.length < 64 ∧
  ∀ p ys, H p = none → RepL c B ((sortI ls).map tI) ys → Q (.ref p) (upd H p (.lst ys))
theorem cr_sortTI {k : Nat} (hr : Room k X.A) : CallR X (.builtin "sorted") (rSortTI X.K) := by
  intro pins s σ H vs us Q I r h
  obtain ⟨a, xs, ls, c, B, rfl, hs, sB, hrep, hne, h64, q⟩ := h
  obtain ⟨its, rv, hl, _⟩ := I.list hs
  rw [Vals.ref1 r]
  obtain ⟨z1, z2⟩ := zip_rep hrep
  have lz : (xs.zip ls).length = ls.length := by rw [← congrArg List.length z1, List.length_map]
  refine PySem.W.sorted_data (bs := xs.zip ls) (enc := fun b : VI => encI b.2) (R := fun u (b : VI) => RelV b.1 u) hl.isList (zip_each (fun v u ns _ h => h) hrep rv) (zip_each (fun v u ns h1 h2 => ?_) hrep rv) (PySem.W.AllAlike.of fun b b' => ?_) (.inl fun d hd => ?_) (by rw [lz]; exact small64 h64) (fun b hb => ?_) fun out h1 h2 => ?_
  · exact Dp.reads I _ _ _ (Pd.dp (z := .tI ns) sB h1) h2
  · simp only [PySem.W.alike]
    exact PySem.W.alike_ints _ _
  · obtain ⟨b, hb, rfl⟩ := List.mem_map.mp hd
    have : b.2 ∈ ls := by rw [← z1]; exact List.mem_map_of_mem hb
    cases e : b.2 with
    | nil => exact absurd e (hne _ this)
    | cons x t => exact ⟨.int x, t.map PyData.int, rfl⟩
  · have h1 := Pd.depth (.tI b.2)
    have h2 := hr.un
    have h3 : (encI b.2).depth ≤ 1 := h1
    omega
  · obtain ⟨ep, he'⟩ := PyProof.Rows.sortedAll_at s.heap its out.toArray
    have hv := each_vals (B := B) h2
    have hlen : (((xs.zip ls).mergeSort (PySem.W.dataLe false fun b : VI => encI b.2)).map (·.1)).length ≤ sizeLine := by
      rw [List.length_map, List.length_mergeSort, lz]; exact small64 h64
    have hp : ∀ b ∈ (xs.zip ls).mergeSort (PySem.W.dataLe false fun b : VI => encI b.2), Rep c B (tI b.2) b.1 := fun b hb => z2 b ((List.mergeSort_perm _ _).mem_iff.mp hb)
    have he : ((xs.zip ls).mergeSort (PySem.W.dataLe false fun b : VI => encI b.2)).map (·.2) = sortI ls := by
      unfold sortI
      have q := List.map_mergeSort (f := fun x : VI => x.2) (r := PySem.W.dataLe false fun b : VI => encI b.2) (s := PySem.W.dataLe false encI) (l := xs.zip ls) (fun a _ b _ => rfl)
      rw [z1] at q
      exact q
    have hrep' := repL_of hp
    rw [he] at hrep'
    exact ⟨.ref _, upd H (s.heap.objs.size + 1) (.lst (((xs.zip ls).mergeSort (PySem.W.dataLe false fun b : VI => encI b.2)).map (·.1))), I.laid (t' := s.toks) (fun _ _ => PyProof.Rows.sortedAll_old) (Nat.le_succ _) ⟨hlen, out, ep, hv, he'⟩, rfl, q _ _ (I.hok.fresh (Nat.le_succ _)) hrep'⟩
theorem ev_sorted {k : Nat} (hr : Room k X.A) (hm : X.mg "sorted" = none) (hne : ∀ l ∈ ls, l ≠ []) (h64 : ls.length < 64) (ha : Ev X c st a C (.im (.lst (ls.map tI))) C1) (hg : Gl X "sorted" := by rfl) (he : starEach [a] X.env = (false, eval a X.env) :: starEach [] X.env := by rfl) : Ev X c st (.Call (.Name "sorted" p) [a] [] pos) C (.ls (((sortI ls).map tI).map Mu.im)) C1 := fun σ B H F k Q q =>
  ⟨_, pe_callB (cr_sortTI hr) hg hm boot_sorted (pa_cons (pWE a) pa_nil he) (by decide) (by decide) he rfl, ha.I k fun v B1 H1 F1 k1 ⟨t, vs, ev, hB, r⟩ x1 =>
    ⟨t, vs, ls, c, B1, by rw [ev], SqL.of (k1.sub _ _ hB), k1.sub, r, hne, h64, fun p ys hp ry => ev_newList k1 x1 ry hp q⟩⟩
end
end K48

namespace K48
open PySem PySem.Spec PyProof.Rows L2
section
variable {X : Cx} {c : Cl} {st : Addr} {C C0 C1 C2 C3 : Cfg} {e a b e2 elt : Expr} {d d1 d2 d3 : D} {m m1 m2 : Mu} {pos p p2 p1 p3 apos tpos : Pos} {l l' : List D} {tg : Expr} {n lo : Nat} {K : PySem.W.Frag}
theorem it_rg (T : Fx X.K X.mg c) (h : Ev X c st a C (.im (.int (n : Int))) C1) (hn : n ≤ 100000) (hg : Gl X "range" := by rfl) (hs : starEach [a] X.env = (false, eval a X.env) :: starEach [] X.env := by rfl) : Iter X c st tg (.Call (.Name "range" p) [a] [] pos) C (tab n fun i => .int (i : Int)) C1 := by
  have q := it_range1 (tg := tg) (p := p) (pos := pos) T.range (eva_cons h eva_nil hs) (by omega) hg hs
  rw [Int.toNat_natCast, rg1_tab] at q
  exact q
theorem it_rg2 (T : Fx X.K X.mg c) (h : Ev X c st a C (.im (.int (lo : Int))) C1) (h2 : Ev X c st b C1 (.im (.int (n : Int))) C2) (hn : lo ≤ n ∧ n ≤ 100000) (hg : Gl X "range" := by rfl) (hs : starEach [a, b] X.env = (false, eval a X.env) :: starEach [b] X.env := by rfl) (hs2 : starEach [b] X.env = (false, eval b X.env) :: starEach [] X.env := by rfl) : Iter X c st tg (.Call (.Name "range" p) [a, b] [] pos) C (tab (n - lo) fun i => .int ((lo + i : Nat) : Int)) C2 := by
  have q := it_range2 (tg := tg) (p := p) (pos := pos) T.range (eva_cons h (eva_cons h2 eva_nil hs2) hs) (by omega) (by omega) hg (by rw [hs, hs2]; rfl) hs2
  rw [show ((n : Int) - (lo : Int)).toNat = n - lo by omega, rgD_tab, show (tab (n - lo) fun i => D.int ((lo : Int) + (i : Int) * 1)) = tab (n - lo) fun i => .int ((lo + i : Nat) : Int) from tab_congr fun i _ => by rw [Int.mul_one]; rfl] at q
  exact q
/-- xs.append(e) of plain data -/
theorem ev_appD (n : Nat) {y : Str} (ha : Ev X c st e C (.im d) C1) (hs0 : ∃ ms0, C.ρ[n]? = some (some (.mu (.ls ms0)))) (hs : C1.ρ[n]? = some (so l)) (hz : l.length ≤ 100000) (hN : X.N[n]? = some y := by rfl) (hv : Vis X.env.scope y := by first | exact Or.inl rfl | exact Or.inr (Or.inl rfl) | exact Or.inr (Or.inr rfl))
    (hd : (y == ("__debug__" : Str)) = false := by decide) (hcd : (y == ("__classdict__" : Str)) = false := by decide)
    (hbase : attributeBase (.Name y p) "append" X.env (eval (.Name y p) X.env) = eval (.Name y p) X.env := by rfl)
    (hfew : ((backTo pos (starEach [e] X.env)).all (fun x => !x.1) && (backToKw pos (keywordEach [] X.env)).all (fun x => x.1.isSome) && decide ([e].length + ([] : List Keyword).length + (if ([] : List Keyword).isEmpty then 0 else 1) < 30)) = true := by rfl)
    (hline : (apos.endLine == pos.line) = true := by rfl) (hst : starEach [e] X.env = (false, eval e X.env) :: starEach [] X.env := by rfl) (hpl : (backTo pos (starEach [] X.env)).any (·.1) = false := by rfl) :
    Ev X c st (.Call (.Attribute (.Name y p) "append" apos) [e] [] pos) C (.im .non) ⟨C1.S, C1.ρ.set n (so (l ++ [d]))⟩ := by
  have q := ev_app (X := X) n ha hs0 hs (by rw [List.length_map]; exact hz) hN hv hd hcd hbase hfew hline hst hpl
  rw [show l.map Mu.im ++ [Mu.im d] = (l ++ [d]).map Mu.im by simp] at q
  exact q
end
end K48

namespace K48
open PySem PySem.Spec PyProof.Rows L2
abbrev DefW (W : Wd) (x : Str) (stm : Stmt) : Prop := ∃ f, (∃ fd, FunD W.K x x (defArgs stm) (defBody stm) (defScope stm) [] [] f fd) ∧ W.mg x = some (.ref f)
abbrev DefW2 (W : Wd) (x nm : Str) (stm : Stmt) : Prop := ∃ f, (∃ fd, FunD W.K nm nm (defArgs stm) (defBody stm) (defScope stm) [] [] f fd) ∧ W.mg x = some (.ref f)
/-- a rational's two parts, as the law's text has them -/
abbrev qD (q : Rat) : D := tI [q.num, (q.den : Int)]
end K48

namespace K48
open PySem PySem.Spec PyProof.Rows L2
/-- few bits -/
def eN : Nat := 8900
abbrev Bd (i : Int) : Prop := i.natAbs < 2 ^ eN
theorem Bd.mul {i j : Int} (h1 : Bd i) (h2 : Bd j) : CMulW i j := wide_mul h1 h2 (by decide) (by decide) (by decide)
theorem Bd.div {i j : Int} (h0 : 0 < j) (h : Bd j) : CDivW i j := wide_div h0 h (by decide) (by decide)
theorem Bd.sm {i : Int} (h : i.natAbs < 2 ^ 64) : Bd i := Nat.lt_of_lt_of_le h (Nat.pow_le_pow_right (by decide) (by decide))
theorem ratOf {n d : Int} (hd : 0 < d) : (Rat.divInt n d).num = n / (((Nat.gcd n.natAbs d.natAbs : Nat) : Int)) ∧ ((Rat.divInt n d).den : Int) = d / (((Nat.gcd n.natAbs d.natAbs : Nat) : Int)) := by
  have e1 := Rat.num_divInt n d
  have e2 := Rat.den_divInt n d
  have eg : ((d.gcd n : Nat) : Int) = ((Nat.gcd n.natAbs d.natAbs : Nat) : Int) := by
    rw [Int.gcd_comm]; rfl
  rw [Int.sign_eq_one_of_pos hd, Int.one_mul, eg] at e1
  rw [if_neg (by omega)] at e2
  refine ⟨e1, ?_⟩
  rw [e2]
  have : ((d.natAbs / d.gcd n : Nat) : Int) = (d.natAbs : Int) / ((d.gcd n : Nat) : Int) := by simp
  rw [this, eg]
  congr 1
  omega
theorem gcdPos {n d : Int} (hd : 0 < d) : 0 < ((Nat.gcd n.natAbs d.natAbs : Nat) : Int) := by
  have := Nat.gcd_pos_of_pos_right n.natAbs (show 0 < d.natAbs by omega)
  omega
theorem gcdLe {n d : Int} (hd : 0 < d) {b : Nat} (h : d.natAbs < 2 ^ b) : ((Nat.gcd n.natAbs d.natAbs : Nat) : Int).natAbs < 2 ^ b := by
  have := Nat.gcd_le_right n.natAbs (show 0 < d.natAbs by omega)
  omega
abbrev RInit (ds : List D) (r : D) : Prop := ∃ n d : Int, ds = [.int n, .int d] ∧ d ≠ 0 ∧ n.natAbs < 2 ^ eN ∧ d.natAbs < 2 ^ eN ∧ r = .rat (Rat.divInt n d)
section
variable {W : Wd} (T : Fx W.K W.mg W.c)
include T
theorem body_init {k} : ∀ ds r, RInit ds r → BodyK W k W.c.R ["self", "n", "d", "shared"] "Ratio.__init__" (meth 9 0) ds r := by
  rintro ds r ⟨n, d, rfl, hd, hn, hb, rfl⟩ f cdv A outer s H E st dx hr
  have hN : (["self", "n", "d", "shared"] : List Str).Nodup := by decide +kernel
  refine exk_cons (C1 := ⟨none, [some .stt, sd (.int n), sd (.int d), none]⟩) (es_if (evt_eq rfl (ev_name 2 rfl) ev_int) (fun h => absurd (of_decide_eq_true h) hd) fun _ => ex_nil) ?_
  have fin : ∀ (n' d' : Int), 0 < d' → d'.natAbs < 2 ^ eN → Rat.divInt n d = Rat.divInt n' d' → ExK (BX W ["self", "n", "d", "shared"] "Ratio.__init__" (meth 9 0) f cdv A outer s H E) W.c st W.c.R dx ((defBody (meth 9 0)).drop 2) ⟨none, [some .stt, sd (.int n'), sd (.int d'), none]⟩ (.rat (Rat.divInt n d)) := by
    intro n' d' h1 h2 e
    rw [e]
    obtain ⟨e1, e2⟩ := ratOf (n := n') h1
    refine exk_cons (es_set 3 (ev_gcd T.gcd (eva_cons (ev_name 1 rfl) (eva_cons (ev_name 2 rfl) eva_nil))) rfl hN) ?_
    refine exk_end T.cR T.nRn T.nRd rfl (Or.inl rfl) rfl rfl (ev_div (Bd.div (gcdPos h1) (gcdLe h1 h2)) (ev_name 1 rfl) (ev_name 3 rfl)) (ev_div (Bd.div (gcdPos h1) (gcdLe h1 h2)) (ev_name 2 rfl) (ev_name 3 rfl)) rfl rfl rfl rfl kNd ?_ rfl rfl
    intro B v1 v2 r1 r2 hB
    refine ⟨st, dx, rfl, ?_⟩
    rw [hB, show v1 = _ from r1, show v2 = _ from r2, ← e1, ← e2]
    rfl
  by_cases hlt : d < 0
  · refine exk_cons (C1 := ⟨none, [some .stt, sd (.int (-n)), sd (.int (-d)), none]⟩) (es_if (evt_to (evt_icmp .lt (ev_name 2 rfl) ev_int) (decide_eq_true hlt)) (fun _ => ex_cons (es_set 1 (ev_neg (ev_name 1 rfl)) rfl hN) (ex_eq (ex_one (es_set 2 (ev_neg (ev_name 2 rfl)) rfl hN)))) fun h => nomatch h) (fin (-n) (-d) (by omega) (by omega) ?_)
    rw [Rat.divInt_neg', Int.neg_neg]
  · refine exk_cons (C1 := ⟨none, [some .stt, sd (.int n), sd (.int d), none]⟩) (es_if (evt_icmp .lt (ev_name 2 rfl) ev_int) (fun h => absurd (of_decide_eq_true h) hlt) fun _ => ex_nil) (fin n d (by omega) hb rfl)

end
/-- few bits, of a rational -/
def eM : Nat := 4000
def Sm (q : Rat) : Prop := q.num.natAbs < 2 ^ eM ∧ q.den < 2 ^ eM
theorem eMN : 2 * 2 ^ (eM + eM) ≤ 2 ^ eN := by
  rw [← Nat.pow_succ']
  exact Nat.pow_le_pow_right (by decide) (by decide)
theorem Sm.n {q : Rat} (h : Sm q) : Bd q.num := Nat.lt_of_lt_of_le h.1 (Nat.pow_le_pow_right (by decide) (by decide))
theorem Sm.d {q : Rat} (h : Sm q) : Bd (q.den : Int) := by
  have := Nat.lt_of_lt_of_le h.2 (Nat.pow_le_pow_right (n := 2) (by decide) (show eM ≤ eN by decide))
  show ((q.den : Int)).natAbs < _
  omega
theorem mulB {i j : Int} (h1 : i.natAbs < 2 ^ eM) (h2 : j.natAbs < 2 ^ eM) : (i * j).natAbs < 2 ^ (eM + eM) := wide_lt h1 h2
theorem Bd.two {i j : Int} (h1 : i.natAbs < 2 ^ (eM + eM)) (h2 : j.natAbs < 2 ^ (eM + eM)) : Bd (i + j) ∧ Bd (i - j) := by
  have := eMN
  constructor <;> (show Int.natAbs _ < _; omega)
theorem Bd.one {i : Int} (h1 : i.natAbs < 2 ^ (eM + eM)) : Bd i := by
  have := eMN
  show Int.natAbs _ < _; omega
theorem denB {q : Rat} (h : Sm q) : ((q.den : Int)).natAbs < 2 ^ eM := by have := h.2; omega
theorem den0 (q : Rat) : (q.den : Int) ≠ 0 := by have := q.den_pos; omega
theorem ratAdd (p q : Rat) : Rat.divInt (p.num * q.den + q.num * p.den) (p.den * q.den) = p + q := by
  have := Rat.divInt_add_divInt p.num q.num (den0 p) (den0 q)
  rw [Rat.num_divInt_den, Rat.num_divInt_den] at this
  exact this.symm
theorem ratSub (p q : Rat) : Rat.divInt (p.num * q.den - q.num * p.den) (p.den * q.den) = p - q := by
  have := Rat.divInt_sub_divInt p.num q.num (den0 p) (den0 q)
  rw [Rat.num_divInt_den, Rat.num_divInt_den] at this
  exact this.symm
theorem ratMul (p q : Rat) : Rat.divInt (p.num * q.num) (p.den * q.den) = p * q := by
  have := Rat.divInt_mul_divInt p.num q.num (d₁ := (p.den : Int)) (d₂ := (q.den : Int))
  rw [Rat.num_divInt_den, Rat.num_divInt_den] at this
  exact this.symm
theorem ratNeg (p : Rat) : Rat.divInt (-p.num) (p.den) = -p := by
  rw [← Rat.neg_divInt, Rat.num_divInt_den]
abbrev DefM (W : Wd) (C : Addr) (m qual : Str) (stm : Stmt) : Prop := ∃ f, (∃ fd, FunD W.K m qual (defArgs stm) (defBody stm) (defScope stm) [] [] f fd) ∧ Meth W.K C m f
def eqR (q : Rat) : D → Bool
  | .rat p => decide (q = p)
  | _ => false
abbrev REq (ds : List D) (r : D) : Prop := ∃ q d, ds = [.rat q, d] ∧ d.noM = true ∧ r = .bl (eqR q d)
abbrev ROp (g : Rat → Rat → Rat) (ds : List D) (r : D) : Prop := ∃ p q, ds = [.rat p, .rat q] ∧ Sm p ∧ Sm q ∧ r = .rat (g p q)
section
variable {W : Wd} (T : Fx W.K W.mg W.c)
include T
theorem fm_eq {k} (h : DefM W W.c.R "__eq__" "Ratio.__eq__" (meth 9 1)) : W.fm (k + 1) W.c.R "__eq__" REq := by
  obtain ⟨f, h, hm⟩ := h
  have hN : (["self", "other"] : List Str).Nodup := by decide +kernel
  refine fnM_mk (N := ["self", "other"]) (ps := ["self", "other"]) h hm ⟨rfl, rfl, rfl, hN, rfl, by decide +kernel, by decide +kernel⟩ (fun ds d h => by obtain ⟨_, _, rfl, _⟩ := h; rfl) ?_ (fun _ _ _ _ _ _ us hl => match us, hl with | [_, _], _ => rfl)
  rintro ds r ⟨q, d, rfl, hd, rfl⟩ f cdv A outer s H E st hr
  cases d with
  | rat p =>
    refine bodyI (ex_one (es_ret (ev_and (ev_isRat T hd (ev_name 1 rfl)) fun _ => ev_and (ev_eq rfl (ev_num T (ev_name 0 rfl)) (ev_num T (ev_name 1 rfl))) fun _ => ev_one (ev_eq rfl (ev_den T (ev_name 0 rfl)) (ev_den T (ev_name 1 rfl)))))) ⟨?_, rfl⟩
    show D.bl (true && (decide (q.num = p.num) && decide ((q.den : Int) = (p.den : Int)))) = D.bl (decide (q = p))
    congr 1
    by_cases e : q = p
    · subst e; simp
    · rw [decide_eq_false e, Bool.true_and, Bool.and_eq_false_iff]
      by_cases e1 : q.num = p.num
      · right
        refine decide_eq_false fun e2 => e (Rat.ext e1 (by omega))
      · exact .inl (decide_eq_false e1)
  | met _ _ => cases hd
  | _ => exact bodyI (ex_one (es_ret (ev_and (t := false) (s := false) (ev_isRat T hd (ev_name 1 rfl)) fun h => nomatch h))) ⟨rfl, rfl⟩
theorem fm_add {k} (G : W.fk k "Ratio" W.c.R [] RInit) (h : DefM W W.c.R "__add__" "Ratio.__add__" (meth 9 2)) : W.fm (k + 2) W.c.R "__add__" (ROp fun p q => p + q) := by
  obtain ⟨f, h, hm⟩ := h
  have hN : (["self", "other"] : List Str).Nodup := by decide +kernel
  refine fnM_mk (N := ["self", "other"]) (ps := ["self", "other"]) h hm ⟨rfl, rfl, rfl, hN, rfl, by decide +kernel, by decide +kernel⟩ (fun ds d h => by obtain ⟨_, _, rfl, _⟩ := h; rfl) ?_ (fun _ _ _ _ _ _ us hl => match us, hl with | [_, _], _ => rfl)
  rintro ds r ⟨p, q, rfl, hp, hq, rfl⟩ f cdv A outer s H E st hr
  refine bodyI (ex_one (es_ret (ev_make (ds := [_, _]) G hr ⟨_, _, rfl, ?_, (Bd.two (mulB hp.1 (denB hq)) (mulB hq.1 (denB hp))).1, Bd.one (mulB (denB hp) (denB hq)), rfl⟩
    (eva_cons (ev_add (ev_mul (Bd.mul hp.n hq.d) (ev_num T (ev_name 0 rfl)) (ev_den T (ev_name 1 rfl))) (ev_mul (Bd.mul hq.n hp.d) (ev_num T (ev_name 1 rfl)) (ev_den T (ev_name 0 rfl)))) (eva_cons (ev_mul (Bd.mul hp.d hq.d) (ev_den T (ev_name 0 rfl)) (ev_den T (ev_name 1 rfl))) eva_nil))))) ⟨?_, rfl⟩
  · exact Int.mul_ne_zero (den0 p) (den0 q)
  · show D.rat (Rat.divInt _ _) = D.rat _
    rw [ratAdd]
theorem fm_sub {k} (G : W.fk k "Ratio" W.c.R [] RInit) (h : DefM W W.c.R "__sub__" "Ratio.__sub__" (meth 9 3)) : W.fm (k + 2) W.c.R "__sub__" (ROp fun p q => p - q) := by
  obtain ⟨f, h, hm⟩ := h
  have hN : (["self", "other"] : List Str).Nodup := by decide +kernel
  refine fnM_mk (N := ["self", "other"]) (ps := ["self", "other"]) h hm ⟨rfl, rfl, rfl, hN, rfl, by decide +kernel, by decide +kernel⟩ (fun ds d h => by obtain ⟨_, _, rfl, _⟩ := h; rfl) ?_ (fun _ _ _ _ _ _ us hl => match us, hl with | [_, _], _ => rfl)
  rintro ds r ⟨p, q, rfl, hp, hq, rfl⟩ f cdv A outer s H E st hr
  refine bodyI (ex_one (es_ret (ev_make (ds := [_, _]) G hr ⟨_, _, rfl, ?_, (Bd.two (mulB hp.1 (denB hq)) (mulB hq.1 (denB hp))).2, Bd.one (mulB (denB hp) (denB hq)), rfl⟩
    (eva_cons (ev_sub (ev_mul (Bd.mul hp.n hq.d) (ev_num T (ev_name 0 rfl)) (ev_den T (ev_name 1 rfl))) (ev_mul (Bd.mul hq.n hp.d) (ev_num T (ev_name 1 rfl)) (ev_den T (ev_name 0 rfl)))) (eva_cons (ev_mul (Bd.mul hp.d hq.d) (ev_den T (ev_name 0 rfl)) (ev_den T (ev_name 1 rfl))) eva_nil))))) ⟨?_, rfl⟩
  · exact Int.mul_ne_zero (den0 p) (den0 q)
  · show D.rat (Rat.divInt _ _) = D.rat _
    rw [ratSub]
theorem fm_mul {k} (G : W.fk k "Ratio" W.c.R [] RInit) (h : DefM W W.c.R "__mul__" "Ratio.__mul__" (meth 9 4)) : W.fm (k + 2) W.c.R "__mul__" (ROp fun p q => p * q) := by
  obtain ⟨f, h, hm⟩ := h
  have hN : (["self", "other"] : List Str).Nodup := by decide +kernel
  refine fnM_mk (N := ["self", "other"]) (ps := ["self", "other"]) h hm ⟨rfl, rfl, rfl, hN, rfl, by decide +kernel, by decide +kernel⟩ (fun ds d h => by obtain ⟨_, _, rfl, _⟩ := h; rfl) ?_ (fun _ _ _ _ _ _ us hl => match us, hl with | [_, _], _ => rfl)
  rintro ds r ⟨p, q, rfl, hp, hq, rfl⟩ f cdv A outer s H E st hr
  refine bodyI (ex_one (es_ret (ev_make (ds := [_, _]) G hr ⟨_, _, rfl, ?_, Bd.one (mulB hp.1 hq.1), Bd.one (mulB (denB hp) (denB hq)), rfl⟩
    (eva_cons (ev_mul (Bd.mul hp.n hq.n) (ev_num T (ev_name 0 rfl)) (ev_num T (ev_name 1 rfl))) (eva_cons (ev_mul (Bd.mul hp.d hq.d) (ev_den T (ev_name 0 rfl)) (ev_den T (ev_name 1 rfl))) eva_nil))))) ⟨?_, rfl⟩
  · exact Int.mul_ne_zero (den0 p) (den0 q)
  · show D.rat (Rat.divInt _ _) = D.rat _
    rw [ratMul]
theorem fm_neg {k} (G : W.fk k "Ratio" W.c.R [] RInit) (h : DefM W W.c.R "__neg__" "Ratio.__neg__" (meth 9 5)) : W.fm (k + 2) W.c.R "__neg__" (fun ds r => ∃ p, ds = [.rat p] ∧ Sm p ∧ r = .rat (-p)) := by
  obtain ⟨f, h, hm⟩ := h
  have hN : (["self"] : List Str).Nodup := by decide +kernel
  refine fnM_mk (N := ["self"]) (ps := ["self"]) h hm ⟨rfl, rfl, rfl, hN, rfl, by decide +kernel, by decide +kernel⟩ (fun ds d h => by obtain ⟨_, rfl, _⟩ := h; rfl) ?_ (fun _ _ _ _ _ _ us hl => match us, hl with | [_], _ => rfl)
  rintro ds r ⟨p, rfl, hp, rfl⟩ f cdv A outer s H E st hr
  refine bodyI (ex_one (es_ret (ev_make (ds := [_, _]) G hr ⟨_, _, rfl, den0 p, ?_, hp.d, rfl⟩ (eva_cons (ev_neg (ev_num T (ev_name 0 rfl))) (eva_cons (ev_den T (ev_name 0 rfl)) eva_nil))))) ⟨?_, rfl⟩
  · have := hp.n; omega
  · show D.rat (Rat.divInt _ _) = D.rat _
    rw [ratNeg]
theorem fm_isz {k} (h : DefM W W.c.R "is_zero" "Ratio.is_zero" (meth 9 7)) : W.fm (k + 1) W.c.R "is_zero" (fun ds r => ∃ p, ds = [.rat p] ∧ r = .bl (decide (p.num = 0))) := by
  obtain ⟨f, h, hm⟩ := h
  have hN : (["self"] : List Str).Nodup := by decide +kernel
  refine fnM_mk (N := ["self"]) (ps := ["self"]) h hm ⟨rfl, rfl, rfl, hN, rfl, by decide +kernel, by decide +kernel⟩ (fun ds d h => by obtain ⟨_, rfl, _⟩ := h; rfl) ?_ (fun _ _ _ _ _ _ us hl => match us, hl with | [_], _ => rfl)
  rintro ds r ⟨p, rfl, rfl⟩ f cdv A outer s H E st hr
  exact bodyI (ex_one (es_ret (ev_eq rfl (ev_num T (ev_name 0 rfl)) ev_int))) ⟨rfl, rfl⟩
theorem fm_sign {k} (h : DefM W W.c.R "sign" "Ratio.sign" (meth 9 8)) : W.fm (k + 1) W.c.R "sign" (fun ds r => ∃ p, ds = [.rat p] ∧ r = .int p.num.sign) := by
  obtain ⟨f, h, hm⟩ := h
  have hN : (["self"] : List Str).Nodup := by decide +kernel
  refine fnM_mk (N := ["self"]) (ps := ["self"]) h hm ⟨rfl, rfl, rfl, hN, rfl, by decide +kernel, by decide +kernel⟩ (fun ds d h => by obtain ⟨_, rfl, _⟩ := h; rfl) ?_ (fun _ _ _ _ _ _ us hl => match us, hl with | [_], _ => rfl)
  rintro ds r ⟨p, rfl, rfl⟩ f cdv A outer s H E st hr
  refine bodyI (ex_one (es_ret (ev_sub (ev_intB T.int (ev_icmp .gt (ev_num T (ev_name 0 rfl)) ev_int)) (ev_intB T.int (ev_icmp .lt (ev_num T (ev_name 0 rfl)) ev_int))))) ⟨?_, rfl⟩
  show D.int ((if decide (0 < p.num) = true then 1 else 0) - (if decide (p.num < 0) = true then 1 else 0)) = D.int _
  congr 1
  rcases Int.lt_trichotomy p.num 0 with h | h | h
  · rw [Int.sign_eq_neg_one_of_neg h, decide_eq_false (by omega), decide_eq_true h]; rfl
  · rw [h]; rfl
  · rw [Int.sign_eq_one_of_pos h, decide_eq_true h, decide_eq_false (by omega)]; rfl
end
end K48

namespace K48
open PySem PySem.Spec PyProof.Rows L2

section
variable {X : Cx} {c : Cl} {st : Addr} {C C0 C1 C2 C3 : Cfg} {e : Expr} {m : Mu} {pos : Pos} {o : Out} {ss A : List Stmt} {d : D}
/-- if e: return ..; the rest -/
theorem ex_guard {t : Bool} {S' : Option (Int × Int)} (hc : EvT X c st e C t C1) (h1 : t = true → Ex X c st A C1 (.rt m S')) (h2 : t = false → Ex X c st ss C1 o) : Ex X c st (.If e A [] pos :: ss) C (if t = true then .rt m S' else o) := by
  cases t with
  | true => rw [if_pos rfl]; exact ex_stop (es_if hc h1 fun h => nomatch h)
  | false => rw [if_neg Bool.false_ne_true]; exact ex_cons (es_if (o := .nx C1) hc (fun h => nomatch h) fun _ => ex_nil) (h2 rfl)
/-- .. as a test known to fail -/
theorem ex_skip (hc : EvT X c st e C false C1) (h2 : Ex X c st ss C1 o) : Ex X c st (.If e A [] pos :: ss) C o := ex_cons (es_if (o := .nx C1) hc (fun h => nomatch h) fun _ => ex_nil) h2
/-- if e: return m, at the end of a loop's body; p: no return -/
theorem ex_unless {p t : Bool} {C2 : Cfg} {S' : Option (Int × Int)} (hc : EvT X c st e C t C1) (hp : t = !p) (h1 : t = true → Ex X c st A C1 (.rt m S')) (hS : C1.S = C2.S) (w : Wk C1.ρ C2.ρ) : Ex X c st [.If e A [] pos] C (if p = true then .nx C2 else .rt m S') := by
  subst hp
  cases p with
  | true => rw [if_pos rfl]; exact ex_to (ex_one (es_if (o := .nx C1) hc (fun h => nomatch h) fun _ => ex_nil)) hS w
  | false => rw [if_neg Bool.false_ne_true]; exact ex_one (es_if hc h1 fun h => nomatch h)
theorem ex_take {S' : Option (Int × Int)} (hc : EvT X c st e C true C1) (h1 : Ex X c st A C1 (.rt m S')) : Ex X c st (.If e A [] pos :: ss) C (.rt m S') := ex_stop (es_if hc (fun _ => h1) fun h => nomatch h)
end
def isPt (n : Int) : D → Bool
  | .int i => decide (0 ≤ i) && decide (i < n)
  | _ => false
def arePts (n : Int) (k : Int) : D → Bool
  | .tup l => decide ((l.length : Int) = k) && l.all (isPt n)
  | _ => false
def isQ : D → Bool
  | .rat _ => true
  | _ => false
def areQs (k : Int) : D → Bool
  | .tup l => decide ((l.length : Int) = k) && l.all isQ
  | _ => false
theorem isTup_ex {d : D} (h : isD d .tuple = true) : ∃ l, d = .tup l := by cases d <;> first | (cases h; done) | exact ⟨_, rfl⟩
theorem arePts_no {n c : Int} {d : D} (h : isD d .tuple = false) : arePts n c d = false := by cases d <;> first | (cases h; done) | rfl
theorem areQs_no {c : Int} {d : D} (h : isD d .tuple = false) : areQs c d = false := by cases d <;> first | (cases h; done) | rfl
def part (s : List Int) (x y : Int) : Bool := !decide (decide (x ∈ s) = decide (y ∈ s))
/-- (split, weight) -/
abbrev pwD (p : List Int × Rat) : D := .tup [tI p.1, .rat p.2]
def sumP (ps : List (List Int × Rat)) (x y : Int) : Rat := ps.foldl (fun a p => if part p.1 x y = true then a + p.2 else a) 0
def allS (n : Nat) : List (List Int) := lp (fun i l => (([] : List Int) :: l).map (fun s => ((n : Int) - 1 - i) :: s) ++ l) (n - 1) []
section
variable {W : Wd} (T : Fx W.K W.mg W.c)
include T
theorem fp_zero {k} (GK : W.fk k "Ratio" W.c.R [1] RInit) (h : DefW W "zero" (top 10)) : W.fp (k + 2) "zero" (fun ds r => ds = [] ∧ r = .rat 0) := by
  obtain ⟨f, h, hm⟩ := h
  have hN : ([] : List Str).Nodup := by decide +kernel
  refine fnP_mk (N := []) (ps := []) h hm ⟨rfl, rfl, rfl, hN, rfl, by decide +kernel, by decide +kernel⟩ (fun ds d h => by obtain ⟨rfl, _⟩ := h; rfl) ?_ (fun _ _ _ _ _ _ us hl => match us, hl with | [], _ => rfl)
  rintro ds r ⟨rfl, rfl⟩ f cdv A outer s H E st hr
  refine bodyI (ex_one (es_ret (ev_make (ds := [_]) GK hr ⟨0, 1, rfl, by decide, Bd.sm (by decide), Bd.sm (by decide), rfl⟩ (eva_cons ev_int eva_nil)))) ⟨?_, rfl⟩
  show D.rat (Rat.divInt 0 1) = D.rat 0
  rfl
theorem fp_is_integer {k}  (h : DefW W "is_integer" (top 8)) : W.fp (k + 2) "is_integer" (fun ds r => ∃ d, ds = [d] ∧ d.noM = true ∧ r = .bl (isD d .int && !isD d .bool)) := by
  obtain ⟨f, h, hm⟩ := h
  have hN : (["value"] : List Str).Nodup := by decide +kernel
  refine fnP_mk (N := ["value"]) (ps := ["value"]) h hm ⟨rfl, rfl, rfl, hN, rfl, by decide +kernel, by decide +kernel⟩ (fun ds d h => by obtain ⟨_, rfl, _⟩ := h; rfl) ?_ (fun _ _ _ _ _ _ us hl => match us, hl with | [_], _ => rfl)
  rintro ds r ⟨d, rfl, hd, rfl⟩ f cdv A outer s H E st hr
  exact bodyI (ex_one (es_ret (ev_and (ev_isInt T hd (ev_name 0 rfl)) fun _ => ev_one (ev_not (ev_isBool T hd (ev_name 0 rfl)))))) ⟨rfl, rfl⟩
theorem fp_is_rational {k}  (h : DefW W "is_rational" (top 11)) : W.fp (k + 2) "is_rational" (fun ds r => ∃ q, ds = [.rat q] ∧ r = .bl true) := by
  obtain ⟨f, h, hm⟩ := h
  have hN : (["value"] : List Str).Nodup := by decide +kernel
  refine fnP_mk (N := ["value"]) (ps := ["value"]) h hm ⟨rfl, rfl, rfl, hN, rfl, by decide +kernel, by decide +kernel⟩ (fun ds d h => by obtain ⟨_, rfl, _⟩ := h; rfl) ?_ (fun _ _ _ _ _ _ us hl => match us, hl with | [_], _ => rfl)
  rintro ds r ⟨q, rfl, rfl⟩ f cdv A outer s H E st hr
  exact bodyI (ex_one (es_ret (ev_or (s := true) (t := true) (ev_isRat (d := .rat q) T rfl (ev_name 0 rfl)) fun h => nomatch h))) ⟨rfl, rfl⟩
theorem fp_as_ratio {k}  (h : DefW W "as_ratio" (top 12)) : W.fp (k + 2) "as_ratio" (fun ds r => ∃ q, ds = [.rat q] ∧ r = .rat q) := by
  obtain ⟨f, h, hm⟩ := h
  have hN : (["value"] : List Str).Nodup := by decide +kernel
  refine fnP_mk (N := ["value"]) (ps := ["value"]) h hm ⟨rfl, rfl, rfl, hN, rfl, by decide +kernel, by decide +kernel⟩ (fun ds d h => by obtain ⟨_, rfl, _⟩ := h; rfl) ?_ (fun _ _ _ _ _ _ us hl => match us, hl with | [_], _ => rfl)
  rintro ds r ⟨q, rfl, rfl⟩ f cdv A outer s H E st hr
  exact bodyI (ex_take (evt_val (ev_isRat (d := .rat q) T rfl (ev_name 0 rfl))) (ex_one (es_ret (ev_name 0 rfl)))) ⟨rfl, rfl⟩
theorem fp_is_point {k}  (h : DefW W "is_point" (top 14)) : W.fp (k + 2) "is_point" (fun ds r => ∃ n d, ds = [.int n, d] ∧ d.noM = true ∧ r = .bl (isPt n d)) := by
  obtain ⟨f, h, hm⟩ := h
  have hN : (["n", "value"] : List Str).Nodup := by decide +kernel
  refine fnP_mk (N := ["n", "value"]) (ps := ["n", "value"]) h hm ⟨rfl, rfl, rfl, hN, rfl, by decide +kernel, by decide +kernel⟩ (fun ds d h => by obtain ⟨_, _, rfl, _⟩ := h; rfl) ?_ (fun _ _ _ _ _ _ us hl => match us, hl with | [_, _], _ => rfl)
  rintro ds r ⟨n, d, rfl, hd, rfl⟩ f cdv A outer s H E st hr
  cases d with
  | met _ _ => cases hd
  | int i => exact bodyI (ex_one (es_ret (ev_and (ev_isInt T hd (ev_name 1 rfl)) fun _ => ev_and (ev_not (ev_isBool T hd (ev_name 1 rfl))) fun _ => ev_one (ev_chain .le .lt ev_int (ev_name 1 rfl) (ev_name 0 rfl))))) ⟨rfl, rfl⟩
  | bl i => exact bodyI (ex_one (es_ret (ev_and (ev_isInt T hd (ev_name 1 rfl)) fun _ => ev_and (t := false) (s := false) (ev_not (ev_isBool T hd (ev_name 1 rfl))) fun h => nomatch h))) ⟨rfl, rfl⟩
  | _ => exact bodyI (ex_one (es_ret (ev_and (t := false) (s := false) (ev_isInt T hd (ev_name 1 rfl)) fun h => nomatch h))) ⟨rfl, rfl⟩
theorem fp_are_points {k} (G : W.fp (k + 1) "is_point" (fun ds r => ∃ n d, ds = [.int n, d] ∧ d.noM = true ∧ r = .bl (isPt n d))) (h : DefW W "are_points" (top 15)) : W.fp (k + 2) "are_points" (fun ds r => ∃ n d c, ds = [.int n, d, .int c] ∧ d.pl = true ∧ r = .bl (arePts n c d)) := by
  obtain ⟨f, h, hm⟩ := h
  have hN : (["n", "value", "count", "x"] : List Str).Nodup := by decide +kernel
  refine fnP_mk (N := ["n", "value", "count", "x"]) (ps := ["n", "value", "count"]) h hm ⟨rfl, rfl, rfl, hN, rfl, by decide +kernel, by decide +kernel⟩ (fun ds d h => by obtain ⟨_, _, _, rfl, _⟩ := h; rfl) ?_ (fun _ _ _ _ _ _ us hl => match us, hl with | [_, _, _], _ => rfl)
  rintro ds r ⟨n, d, c, rfl, hd, rfl⟩ f cdv A outer s H E st hr
  cases ht : isD d .tuple with
  | true =>
    obtain ⟨l, rfl⟩ := isTup_ex ht
    refine bodyI (ex_guard (t := !decide ((l.length : Int) = c)) (EvW.t (evw_or (s := false) (evt_not (evt_val (ev_isTup (d := .tup l) T rfl (ev_name 1 rfl)))) fun _ => evw_or1 (evt_ne rfl (ev_len T.len rfl (ev_name 1 rfl)) (ev_name 2 rfl)))) (fun _ => ex_one (es_ret ev_bl)) fun _ =>
      ex_ifnx (C1 := ⟨none, [sd (.int n), sd (.tup l), sd (.int c), none]⟩) (m := .im (.bl false)) (S' := none) (es_allL (bs := l) (inj := id) (isPt n) PassesOwn.never (it_tup (by rw [List.map_id]; exact ev_name 1 rfl)) fun b hb => ⟨_, _, tg_name 3 hN, ?_⟩) fun _ => ex_one (es_ret ev_bl)) ?_
    · have hp := D.pl.noM (plL_mem (show plL l = true from hd) hb)
      exact ex_unless (evt_not (evt_val (ev_call (ds := [_, _]) (d := .bl (isPt n b)) G hr ⟨_, _, rfl, hp, rfl⟩ (eva_cons (ev_name 0 rfl) (eva_cons (ev_name 3 rfl) eva_nil))))) rfl (fun _ => ex_one (es_ret ev_bl)) rfl ⟨rfl, rfl, rfl, trivial⟩
    · refine Fin.ite (fun h => ⟨?_, rfl⟩) fun h => Fin.ite (fun h' => ⟨?_, rfl⟩) fun h' => ⟨?_, rfl⟩
      · simp only [Bool.not_eq_true', decide_eq_false_iff_not] at h
        show D.bl false = D.bl (decide _ && _)
        rw [decide_eq_false h]; rfl
      · simp only [Bool.not_eq_true', decide_eq_false_iff_not, Decidable.not_not] at h
        show D.bl true = D.bl (decide _ && _)
        rw [decide_eq_true h, h']; rfl
      · show D.bl false = D.bl (decide _ && _)
        rw [Bool.not_eq_true] at h'
        rw [h', Bool.and_false]
  | false => exact bodyI (ex_take (EvW.t (evw_orT (evt_to (evt_not (evt_val (ev_isTup T (D.pl.noM hd) (ev_name 1 rfl)))) (by rw [ht]; rfl)))) (ex_one (es_ret ev_bl))) ⟨by rw [arePts_no ht]; rfl, rfl⟩
theorem fp_are_numbers {k}  (h : DefW W "are_numbers" (top 16)) : W.fp (k + 2) "are_numbers" (fun ds r => ∃ d c, ds = [d, .int c] ∧ d.pl = true ∧ r = .bl (areQs c d)) := by
  obtain ⟨f, h, hm⟩ := h
  have hN : (["value", "count", "x"] : List Str).Nodup := by decide +kernel
  refine fnP_mk (N := ["value", "count", "x"]) (ps := ["value", "count"]) h hm ⟨rfl, rfl, rfl, hN, rfl, by decide +kernel, by decide +kernel⟩ (fun ds d h => by obtain ⟨_, _, rfl, _⟩ := h; rfl) ?_ (fun _ _ _ _ _ _ us hl => match us, hl with | [_, _], _ => rfl)
  rintro ds r ⟨d, c, rfl, hd, rfl⟩ f cdv A outer s H E st hr
  cases ht : isD d .tuple with
  | true =>
    obtain ⟨l, rfl⟩ := isTup_ex ht
    refine bodyI (ex_guard (t := !decide ((l.length : Int) = c)) (EvW.t (evw_or (s := false) (evt_not (evt_val (ev_isTup (d := .tup l) T rfl (ev_name 0 rfl)))) fun _ => evw_or1 (evt_ne rfl (ev_len T.len rfl (ev_name 0 rfl)) (ev_name 1 rfl)))) (fun _ => ex_one (es_ret ev_bl)) fun _ =>
      ex_ifnx (C1 := ⟨none, [sd (.tup l), sd (.int c), none]⟩) (m := .im (.bl false)) (S' := none) (es_allL (bs := l) (inj := id) isQ PassesOwn.never (it_tup (by rw [List.map_id]; exact ev_name 0 rfl)) fun b hb => ⟨_, _, tg_name 2 hN, ?_⟩) fun _ => ex_one (es_ret ev_bl)) ?_
    · have hp := D.pl.noM (plL_mem (show plL l = true from hd) hb)
      exact ex_unless (evt_not (evt_val (ev_isRat T hp (ev_name 2 rfl)))) (by cases b <;> rfl) (fun _ => ex_one (es_ret ev_bl)) rfl ⟨rfl, rfl, trivial⟩
    · refine Fin.ite (fun h => ⟨?_, rfl⟩) fun h => Fin.ite (fun h' => ⟨?_, rfl⟩) fun h' => ⟨?_, rfl⟩
      · simp only [Bool.not_eq_true', decide_eq_false_iff_not] at h
        show D.bl false = D.bl (decide _ && _)
        rw [decide_eq_false h]; rfl
      · simp only [Bool.not_eq_true', decide_eq_false_iff_not, Decidable.not_not] at h
        show D.bl true = D.bl (decide _ && _)
        rw [decide_eq_true h, h']; rfl
      · show D.bl false = D.bl (decide _ && _)
        rw [Bool.not_eq_true] at h'
        rw [h', Bool.and_false]
  | false => exact bodyI (ex_take (EvW.t (evw_orT (evt_to (evt_not (evt_val (ev_isTup T (D.pl.noM hd) (ev_name 0 rfl)))) (by rw [ht]; rfl)))) (ex_one (es_ret ev_bl))) ⟨by rw [areQs_no ht]; rfl, rfl⟩
theorem fp_parted {k}  (h : DefW W "parted" (top 20)) : W.fp (k + 2) "parted" (fun ds r => ∃ ns x y, ds = [tI ns, .int x, .int y] ∧ r = .bl (part ns x y)) := by
  obtain ⟨f, h, hm⟩ := h
  have hN : (["split", "x", "y"] : List Str).Nodup := by decide +kernel
  refine fnP_mk (N := ["split", "x", "y"]) (ps := ["split", "x", "y"]) h hm ⟨rfl, rfl, rfl, hN, rfl, by decide +kernel, by decide +kernel⟩ (fun ds d h => by obtain ⟨_, _, _, rfl, _⟩ := h; rfl) ?_ (fun _ _ _ _ _ _ us hl => match us, hl with | [_, _, _], _ => rfl)
  rintro ds r ⟨ns, x, y, rfl, rfl⟩ f cdv A outer s H E st hr
  exact bodyI (ex_one (es_ret (ev_ne rfl (ev_inI (ev_name 1 rfl) (ev_name 0 rfl)) (ev_inI (ev_name 2 rfl) (ev_name 0 rfl))))) ⟨rfl, rfl⟩
end
end K48

namespace K48
open PySem PySem.Spec PyProof.Rows L2

abbrev RPart (ds : List D) (r : D) : Prop := ∃ ns x y, ds = [tI ns, .int x, .int y] ∧ r = .bl (part ns x y)
theorem sumP_take {ps : List (List Int × Rat)} {x y : Int} {i : Nat} {p : List Int × Rat} (h : ps[i]? = some p) : sumP (ps.take (i + 1)) x y = if part p.1 x y = true then sumP (ps.take i) x y + p.2 else sumP (ps.take i) x y := foldl_take h
def RSum (ds : List D) (r : D) : Prop := ∃ ps x y, ds = [.tup (ps.map pwD), .int x, .int y] ∧ (∀ i, Sm (sumP (ps.take i) x y)) ∧ (∀ p ∈ ps, Sm p.2) ∧ r = .rat (sumP ps x y)
theorem sm0 : Sm 0 := ⟨by show (0 : Nat) < _; exact Nat.pow_pos (by decide), by show (1 : Nat) < _; exact Nat.one_lt_two_pow (by decide)⟩
section
variable {W : Wd} (T : Fx W.K W.mg W.c)
include T
theorem fp_summed {k} (GK : W.fk k "Ratio" W.c.R [1] RInit) (GP : W.fp (k + 1) "parted" RPart) (GA : W.fm (k + 1) W.c.R "__add__" (ROp fun p q => p + q)) (h : DefW W "summed" (top 21)) : W.fp (k + 2) "summed" (fun ds r => ∃ ps x y, ds = [.tup (ps.map pwD), .int x, .int y] ∧ (∀ i, Sm (sumP (ps.take i) x y)) ∧ (∀ p ∈ ps, Sm p.2) ∧ r = .rat (sumP ps x y)) := by
  obtain ⟨f, h, hm⟩ := h
  have hN : (["parts", "x", "y", "total", "split", "weight"] : List Str).Nodup := by decide +kernel
  refine fnP_mk (N := ["parts", "x", "y", "total", "split", "weight"]) (ps := ["parts", "x", "y"]) h hm ⟨rfl, rfl, rfl, hN, rfl, by decide +kernel, by decide +kernel⟩ (fun ds d h => by obtain ⟨_, _, _, rfl, _⟩ := h; rfl) ?_ (fun _ _ _ _ _ _ us hl => match us, hl with | [_, _, _], _ => rfl)
  rintro ds r ⟨ps, x, y, rfl, hs, hp, rfl⟩ f cdv A outer s H E st hr
  refine bodyI (ex_cons (es_set 3 (ev_make (ds := [_]) GK hr ⟨0, 1, rfl, by decide, Bd.sm (by decide), Bd.sm (by decide), rfl⟩ (eva_cons ev_int eva_nil)) rfl hN) (ex_cons (es_fold (bs := ps) (inj := pwD) (a0 := 0) (fun a : Rat => ⟨none, [sd (.tup (ps.map pwD)), sd (.int x), sd (.int y), sd (.rat a), none, none]⟩) (fun a p => if part p.1 x y = true then a + p.2 else a) (fun i a => a = sumP (ps.take i) x y) rfl PassesOwn.never (it_tup (ev_name 0 rfl)) fun i p a hi ha => ?_) (ex_one (es_ret (ev_name 3 rfl))))) ⟨rfl, rfl⟩
  · refine ⟨turnI (tg_tup (tgs_cons (tg_name 4 hN) (tgs_cons (tg_name 5 hN) tgs_nil))) (ex_one (es_if (o := .nx ⟨none, [sd (.tup (ps.map pwD)), sd (.int x), sd (.int y), sd (.rat (if part p.1 x y = true then a + p.2 else a)), sd (tI p.1), sd (.rat p.2)]⟩) (t := part p.1 x y) (evt_val (ev_call (ds := [_, _, _]) GP hr ⟨p.1, x, y, rfl, rfl⟩ (eva_cons (ev_name 4 rfl) (eva_cons (ev_name 1 rfl) (eva_cons (ev_name 2 rfl) eva_nil))))) (fun h => ?_) fun h => ?_)) rfl ⟨rfl, rfl, rfl, rfl, trivial⟩, ?_⟩
    · rw [if_pos h]
      exact ex_eq (ex_one (es_set 3 (ev_dun T GA rfl hr ⟨_, _, rfl, by rw [ha]; exact hs i, hp p (List.mem_of_getElem? hi), rfl⟩ (ev_name 3 rfl) (ev_name 5 rfl)) rfl hN))
    · rw [h, if_neg Bool.false_ne_true]; exact ex_nil
    · rw [sumP_take hi, ha]
end
end K48

namespace K48
open PySem PySem.Spec PyProof.Rows L2

def stepS (n : Int) (i : Nat) (l : List (List Int)) : List (List Int) := ((([] : List Int) :: l).map (fun s => (n - 1 + (i : Int) * (-1)) :: s)) ++ l
theorem stepS_inv {n : Int} {i : Nat} {l : List (List Int)} (h : l.length + 1 = 2 ^ i ∧ ∀ s ∈ l, s.length ≤ i) : (stepS n i l).length + 1 = 2 ^ (i + 1) ∧ ∀ s ∈ stepS n i l, s.length ≤ i + 1 := by
  unfold stepS
  refine ⟨?_, fun s hs => ?_⟩
  · simp only [List.length_append, List.length_map, List.length_cons]
    have := h.1
    rw [Nat.pow_succ]; omega
  · rcases List.mem_append.mp hs with hs | hs
    · obtain ⟨t, ht, rfl⟩ := List.mem_map.mp hs
      rcases List.mem_cons.mp ht with rfl | ht
      · simp
      · have := h.2 t ht
        simp only [List.length_cons]; omega
    · have := h.2 s hs; omega
/-- the splits in the order of the program -/
def splS (n : Nat) : List (List Int) := lp (stepS n) (n - 1) []
theorem splS_inv (n : Nat) : (splS n).length + 1 = 2 ^ (n - 1) ∧ ∀ s ∈ splS n, s.length ≤ n - 1 := lp_inv (fun i (l : List (List Int)) => l.length + 1 = 2 ^ i ∧ ∀ s ∈ l, s.length ≤ i) ⟨rfl, fun s hs => by cases hs⟩ fun i b _ h => stepS_inv h
theorem splS_len {n : Nat} (hn : n ≤ 8) : (splS n).length ≤ 127 := by
  have h := (splS_inv n).1
  have : 2 ^ (n - 1) ≤ 2 ^ 7 := Nat.pow_le_pow_right (by decide) (by omega)
  omega
theorem pow7 {i : Nat} (h : i ≤ 7) : 2 ^ i ≤ 128 := Nat.le_trans (Nat.pow_le_pow_right (by decide) h) (by decide)
abbrev RSpl (ds : List D) (r : D) : Prop := ∃ n : Nat, ds = [.int n] ∧ (1 ≤ n ∧ n ≤ 8) ∧ r = .tup ((splS n).map tI)
theorem ev_to' {X : Cx} {c : Cl} {st : Addr} {C C2 : Cfg} {e : Expr} {m m' : Mu} (h : Ev X c st e C m C2) (q : m = m') : Ev X c st e C m' C2 := q ▸ h
section
variable {W : Wd} (T : Fx W.K W.mg W.c)
include T
theorem fp_all_splits {k}  (h : DefW W "all_splits" (top 19)) : W.fp (k + 2) "all_splits" (fun ds r => ∃ n : Nat, ds = [.int n] ∧ (1 ≤ n ∧ n ≤ 8) ∧ r = .lst ((splS n).map tI)) := by
  obtain ⟨f, h, hm⟩ := h
  have hN : (["n", "found", "x", "split"] : List Str).Nodup := by decide +kernel
  refine fnP_mk (N := ["n", "found", "x", "split"]) (ps := ["n"]) h hm ⟨rfl, rfl, rfl, hN, rfl, by decide +kernel, by decide +kernel⟩ (fun ds d h => by obtain ⟨_, rfl, _⟩ := h; rfl) ?_ (fun _ _ _ _ _ _ us hl => match us, hl with | [_], _ => rfl)
  rintro ds r ⟨n, rfl, hn, rfl⟩ f cdv A outer s H E st hr
  refine bodyI (ex_cons (es_set 1 (Ev.frzL (l := []) (ev_lst (ms := []) eva_nil (by simp))) rfl hN) (ex_cons (es_loop (G := fun l : List (List Int) => ⟨none, [sd (.int n), sd (.lst (l.map tI)), none, none]⟩) (f := stepS n) (P := fun i l => l.length + 1 = 2 ^ i ∧ ∀ s ∈ l, s.length ≤ i) (a0 := []) ⟨rfl, fun s hs => by cases hs⟩ PassesOwn.never (it_range3 T.range (eva_cons (ev_sub (ev_name 0 rfl) ev_int) (eva_cons ev_int (eva_cons (ev_neg ev_int) eva_nil))) (by omega) (by omega)) fun i l hi hl => ⟨turnI (tg_name 2 hN) (ex_one (es_set 1 (Ev.frzL (l := (stepS n i l).map tI) (ev_to' (ev_catL ?_ (Ev.frzL (ev_to' (ev_catL ?_ (Ev.frzL (l := [tI [(n : Int) - 1 + (i : Int) * (-1)]]) (ev_lst (ms := [.im (tI [(n : Int) - 1 + (i : Int) * (-1)])]) (eva_cons (ev_tup (ds := [_]) (eva_cons (ev_name 2 rfl) eva_nil) (by simp)) eva_nil) (by simp))) (Ev.frzL (EvL.ev (lcl_map (bs := l) (inj := tI) [("split", 3)] (fun s => tI (((n : Int) - 1 + (i : Int) * (-1)) :: s)) hN (it_list (ev_name 1 rfl)) ?_ fun s hs => ?_)))) rfl)) (ev_name 1 rfl)) ?_)) rfl hN)) rfl ⟨rfl, rfl, trivial⟩, stepS_inv hl⟩) (ex_one (es_ret (ev_name 1 rfl))))) ⟨?_, rfl⟩
  · have h1 := hl.1
    have := pow7 (show i ≤ 7 by omega)
    simp only [List.length_append, List.length_map, List.length_cons, List.length_nil]; omega
  · have h1 := hl.1
    have := pow7 (show i ≤ 7 by omega)
    simp only [List.length_append, List.length_map, List.length_cons, List.length_nil]; omega
  · have h1 := hl.1
    have := pow7 (show i ≤ 7 by omega)
    omega
  · exact turn fun s0 H0 D0 cl fp => ⟨tg_name 3 hN, ev_catT (l := [.int ((n : Int) - 1 + (i : Int) * (-1))]) (l' := s.map D.int) (by have := hl.2 s hs; simp only [List.length_cons, List.length_nil, List.length_map]; omega) (ev_tup (ds := [_]) (eva_cons (ev_name 2 rfl) eva_nil) (by simp)) (ev_name 3 rfl)⟩
  · show _ = Mu.ls (((stepS n i l).map tI).map Mu.im)
    simp only [stepS, List.map_append, List.map_map, List.map_cons]
    rfl
  · show D.lst _ = D.lst _
    rw [show ((n : Int) - 1 - 0).toNat = n - 1 by omega]
    rfl
theorem fp_check_count {k} (GI : W.fp (k + 1) "is_integer" (fun ds r => ∃ d, ds = [d] ∧ d.noM = true ∧ r = .bl (isD d .int && !isD d .bool))) (h : DefW W "check_count" (top 32)) : W.fp (k + 2) "check_count" (fun ds r => ∃ n : Int, ds = [.int n] ∧ 1 ≤ n ∧ r = .non) := by
  obtain ⟨f, h, hm⟩ := h
  have hN : (["n"] : List Str).Nodup := by decide +kernel
  refine fnP_mk (N := ["n"]) (ps := ["n"]) h hm ⟨rfl, rfl, rfl, hN, rfl, by decide +kernel, by decide +kernel⟩ (fun ds d h => by obtain ⟨_, rfl, _⟩ := h; rfl) ?_ (fun _ _ _ _ _ _ us hl => match us, hl with | [_], _ => rfl)
  rintro ds r ⟨n, rfl, hn, rfl⟩ f cdv A outer s H E st hr
  exact bodyI (ex_one (es_if (o := .nx _) (t := false) (EvW.t (evw_orF (evt_to (evt_not (evt_val (ev_call (ds := [_]) GI hr ⟨.int n, rfl, rfl, rfl⟩ (eva_cons (ev_name 0 rfl) eva_nil)))) rfl) (evw_or1 (evt_to (evt_icmp .lt (ev_name 0 rfl) ev_int) (decide_eq_false (by omega)))))) (fun h => nomatch h) fun _ => ex_nil)) ⟨rfl, rfl⟩
theorem fp_check_points {k} (GM : ∃ t, W.mg "MOST" = some (.int 8 t)) (GC : W.fp (k + 1) "check_count" (fun ds r => ∃ n : Int, ds = [.int n] ∧ 1 ≤ n ∧ r = .non)) (h : DefW W "check_points" (top 33)) : W.fp (k + 2) "check_points" (fun ds r => ∃ n : Int, ds = [.int n] ∧ (1 ≤ n ∧ n ≤ 8) ∧ r = .non) := by
  obtain ⟨f, h, hm⟩ := h
  have hN : (["n"] : List Str).Nodup := by decide +kernel
  refine fnP_mk (N := ["n"]) (ps := ["n"]) h hm ⟨rfl, rfl, rfl, hN, rfl, by decide +kernel, by decide +kernel⟩ (fun ds d h => by obtain ⟨_, rfl, _⟩ := h; rfl) ?_ (fun _ _ _ _ _ _ us hl => match us, hl with | [_], _ => rfl)
  rintro ds r ⟨n, rfl, hn, rfl⟩ f cdv A outer s H E st hr
  obtain ⟨t8, GM⟩ := GM
  exact bodyI (ex_cons (es_expr (ev_call (ds := [_]) GC hr ⟨n, rfl, hn.1, rfl⟩ (eva_cons (ev_name 0 rfl) eva_nil))) (ex_one (es_if (o := .nx _) (t := false) (evt_to (evt_icmp .gt (ev_name 0 rfl) (ev_glob (d := .int 8) (v := .int 8) rfl GM ⟨t8, rfl⟩ fun _ => rfl)) (decide_eq_false (by omega))) (fun h => nomatch h) fun _ => ex_nil))) ⟨rfl, rfl⟩
theorem fp_splits {k} (GP : W.fp (k + 1) "check_points" (fun ds r => ∃ n : Int, ds = [.int n] ∧ (1 ≤ n ∧ n ≤ 8) ∧ r = .non)) (h : DefW W "splits" (top 34)) : W.fp (k + 2) "splits" (fun ds r => ∃ n : Nat, ds = [.int n] ∧ (1 ≤ n ∧ n ≤ 8) ∧ r = .tup ((splS n).map tI)) := by
  obtain ⟨f, h, hm⟩ := h
  have hN : (["n", "found", "x", "row"] : List Str).Nodup := by decide +kernel
  refine fnP_mk (N := ["n", "found", "x", "row"]) (ps := ["n"]) h hm ⟨rfl, rfl, rfl, hN, rfl, by decide +kernel, by decide +kernel⟩ (fun ds d h => by obtain ⟨_, rfl, _⟩ := h; rfl) ?_ (fun _ _ _ _ _ _ us hl => match us, hl with | [_], _ => rfl)
  rintro ds r ⟨n, rfl, hn, rfl⟩ f cdv A outer s H E st hr
  refine bodyI (ex_cons (es_expr (ev_call (ds := [_]) GP hr ⟨n, rfl, ⟨by omega, by omega⟩, rfl⟩ (eva_cons (ev_name 0 rfl) eva_nil))) (ex_cons (es_set 1 (Ev.frzL (l := []) (ev_lst (ms := []) eva_nil (by simp))) rfl hN) (ex_cons (es_loop (G := fun l : List (List Int) => ⟨none, [sd (.int n), sd (.lst (l.map tI)), none, none]⟩) (f := stepS n) (P := fun i l => l.length + 1 = 2 ^ i ∧ ∀ s ∈ l, s.length ≤ i) (a0 := []) ⟨rfl, fun s hs => by cases hs⟩ PassesOwn.never (it_range3 T.range (eva_cons (ev_sub (ev_name 0 rfl) ev_int) (eva_cons ev_int (eva_cons (ev_neg ev_int) eva_nil))) (by omega) (by omega)) fun i l hi hl => ⟨turnI (tg_name 2 hN) (ex_one (es_set 1 (Ev.frzL (l := (stepS n i l).map tI) (ev_to' (ev_catL ?_ (Ev.frzL (ev_to' (ev_catL ?_ (Ev.frzL (l := [tI [(n : Int) - 1 + (i : Int) * (-1)]]) (ev_lst (ms := [.im (tI [(n : Int) - 1 + (i : Int) * (-1)])]) (eva_cons (ev_tup (ds := [_]) (eva_cons (ev_name 2 rfl) eva_nil) (by simp)) eva_nil) (by simp))) (Ev.frzL (EvL.ev (lcl_map (bs := l) (inj := tI) [("row", 3)] (fun s => tI (((n : Int) - 1 + (i : Int) * (-1)) :: s)) hN (it_list (ev_name 1 rfl)) ?_ fun s hs => ?_)))) rfl)) (ev_name 1 rfl)) ?_)) rfl hN)) rfl ⟨rfl, rfl, trivial⟩, stepS_inv hl⟩) (ex_one (es_ret (ev_tupleOf T.tuple (.inl rfl) (ev_name 1 rfl))))))) ⟨?_, rfl⟩
  · have h1 := hl.1
    have := pow7 (show i ≤ 7 by omega)
    simp only [List.length_append, List.length_map, List.length_cons, List.length_nil]; omega
  · have h1 := hl.1
    have := pow7 (show i ≤ 7 by omega)
    simp only [List.length_append, List.length_map, List.length_cons, List.length_nil]; omega
  · have h1 := hl.1
    have := pow7 (show i ≤ 7 by omega)
    omega
  · exact turn fun s0 H0 D0 cl fp => ⟨tg_name 3 hN, ev_catT (l := [.int ((n : Int) - 1 + (i : Int) * (-1))]) (l' := s.map D.int) (by have := hl.2 s hs; simp only [List.length_cons, List.length_nil, List.length_map]; omega) (ev_tup (ds := [_]) (eva_cons (ev_name 2 rfl) eva_nil) (by simp)) (ev_name 3 rfl)⟩
  · show _ = Mu.ls (((stepS n i l).map tI).map Mu.im)
    simp only [stepS, List.map_append, List.map_map, List.map_cons]
    rfl
  · show D.tup _ = D.tup _
    rw [show ((n : Int) - 1 - 0).toNat = n - 1 by omega]
    rfl
end
end K48

namespace K48
open PySem PySem.Spec PyProof.Rows L2

def bq (b : Bool) : Rat := if b = true then 1 else 0
/-- a square table of rationals -/
abbrev qT (n : Nat) (g : Nat → Nat → Rat) : D := .tup (tab n fun x => .tup (tab n fun y => .rat (g x y)))
/-- the entries above the diagonal -/
def prL {α : Type} (n : Nat) (g : Nat → Nat → α) : List α := (List.range n).flatMap fun x => tab (n - (x + 1)) fun j => g x (x + 1 + j)
theorem prL_map {α β : Type} {n : Nat} {g : Nat → Nat → α} {f : α → β} : (prL n g).map f = prL n fun x y => f (g x y) := by
  unfold prL
  rw [List.map_flatMap]
  congr 1
  funext x
  rw [tab_map]
theorem drop_tab {α : Type} {n k : Nat} {g : Nat → α} : (tab n g).drop k = tab (n - k) fun j => g (k + j) := by
  refine tab_ext (by simp [tab_len]) fun i hi => ?_
  rw [List.getElem?_drop, tab_get (by omega)]
theorem cut_from {α : Type} {n k : Nat} {g : Nat → α} (h : k ≤ n) : cutD (tab n g) (some (k : Int)) none = tab (n - k) fun j => g (k + j) := by
  unfold cutD
  rw [HT.sIx_nat, HT.sIx_none, tab_len, Nat.min_eq_left h, drop_tab, List.take_of_length_le (by rw [tab_len]; exact Nat.le_refl _)]
theorem rat01 (b : Bool) : Rat.divInt (if b = true then 1 else 0) 1 = bq b := by cases b <;> rfl
/-- the cut's values -/
abbrev cutG (s : List Int) : Nat → Nat → Rat := fun x y => bq (part s x y)
def prA {α : Type} (m n : Nat) (g : Nat → Nat → α) : List α := (List.range m).flatMap fun x => tab (n - (x + 1)) fun j => g x (x + 1 + j)
theorem prA_succ {α : Type} {m n : Nat} {g : Nat → Nat → α} : prA (m + 1) n g = prA m n g ++ tab (n - (m + 1)) fun j => g m (m + 1 + j) := by
  unfold prA
  rw [List.range_succ, List.flatMap_append]; simp
theorem prA_len {α : Type} {n : Nat} {g : Nat → Nat → α} : ∀ m, (prA m n g).length ≤ m * n
  | 0 => by simp [prA]
  | m + 1 => by
    rw [prA_succ, List.length_append, tab_len]
    have := prA_len (n := n) (g := g) m
    rw [Nat.succ_mul]; omega
theorem lp_tab {α : Type} {n : Nat} {w : Nat → α} : lp (fun i l => l ++ [w i]) n [] = tab n w := lp_inv (fun i (l : List α) => l = tab i w) rfl fun i l _ h => by rw [h]; exact tab_succ.symm
theorem lp_prA {α : Type} {m n : Nat} {g : Nat → Nat → α} : lp (fun i l => l ++ tab (n - (i + 1)) fun j => g i (i + 1 + j)) m [] = prA m n g := lp_inv (fun i (l : List α) => l = prA i n g) (by simp [prA]) fun i l _ h => by rw [h]; exact prA_succ.symm
theorem prL_len {α : Type} {n : Nat} {g : Nat → Nat → α} : (prL n g).length ≤ n * n := prA_len (n := n) (g := g) n
section
variable {W : Wd} (T : Fx W.K W.mg W.c)
include T
theorem fp_is_split_build {k} (GI : W.fp (k + 1) "is_integer" (fun ds r => ∃ d, ds = [d] ∧ d.noM = true ∧ r = .bl (isD d .int && !isD d .bool))) (GS : W.fp (k + 1) "splits" RSpl) (h : DefW2 W "is_split_build" "is_split" (top 35)) : W.fp (k + 2) "is_split_build" (fun ds r => ∃ (n : Nat) (v : List Int), ds = [.int n, tI v] ∧ (1 ≤ n ∧ n ≤ 8) ∧ r = .bl (decide (v ∈ splS n))) := by
  obtain ⟨f, h, hm⟩ := h
  have hN : (["n", "value", "x"] : List Str).Nodup := by decide +kernel
  refine fnP_mk (N := ["n", "value", "x"]) (ps := ["n", "value"]) h hm ⟨rfl, rfl, rfl, hN, rfl, by decide +kernel, by decide +kernel⟩ (fun ds d h => by obtain ⟨_, _, rfl, _⟩ := h; rfl) ?_ (fun _ _ _ _ _ _ us hl => match us, hl with | [_, _], _ => rfl)
  rintro ds r ⟨n, v, rfl, hn, rfl⟩ f cdv A outer s H E st hr
  refine bodyI (ex_skip (evt_to (evt_not (evt_val (ev_isTup T rfl (ev_name 1 rfl)))) rfl) (ex_cons (es_fold (bs := v) (inj := D.int) (a0 := ()) (fun _ => ⟨none, [sd (.int n), sd (tI v), none]⟩) (fun _ _ => ()) (fun _ _ => True) trivial PassesOwn.never (it_tup (ev_name 1 rfl)) fun i b _ hi _ => ⟨turnI (tg_name 2 hN) (ex_skip (evt_to (evt_not (evt_val (ev_call (ds := [_]) GI hr ⟨.int b, rfl, rfl, rfl⟩ (eva_cons (ev_name 2 rfl) eva_nil)))) rfl) ex_nil) rfl ⟨rfl, rfl, trivial⟩, trivial⟩) (ex_one (es_ret (ev_inTT hr (ev_name 1 rfl) (ev_call (ds := [_]) GS hr ⟨n, rfl, hn, rfl⟩ (eva_cons (ev_name 0 rfl) eva_nil))))))) ⟨rfl, rfl⟩
theorem fp_cut_rows {k} (GP : W.fp (k + 1) "check_points" (fun ds r => ∃ n : Int, ds = [.int n] ∧ (1 ≤ n ∧ n ≤ 8) ∧ r = .non)) (GB : W.fp (k + 1) "is_split_build" (fun ds r => ∃ (n : Nat) (v : List Int), ds = [.int n, tI v] ∧ (1 ≤ n ∧ n ≤ 8) ∧ r = .bl (decide (v ∈ splS n)))) (GK : W.fk k "Ratio" W.c.R [1] RInit) (h : DefW W "cut_rows" (top 37)) : W.fp (k + 2) "cut_rows" (fun ds r => ∃ (n : Nat) (v : List Int), ds = [.int n, tI v] ∧ (1 ≤ n ∧ n ≤ 8) ∧ v ∈ splS n ∧ r = qT n (cutG v)) := by
  obtain ⟨f, h, hm⟩ := h
  have hN : (["n", "split", "rows", "x", "y"] : List Str).Nodup := by decide +kernel
  refine fnP_mk (N := ["n", "split", "rows", "x", "y"]) (ps := ["n", "split"]) h hm ⟨rfl, rfl, rfl, hN, rfl, by decide +kernel, by decide +kernel⟩ (fun ds d h => by obtain ⟨_, _, rfl, _⟩ := h; rfl) ?_ (fun _ _ _ _ _ _ us hl => match us, hl with | [_, _], _ => rfl)
  rintro ds r ⟨n, v, rfl, hn, hv, rfl⟩ f cdv A outer s H E st hr
  refine bodyI (ex_cons (es_expr (ev_call (ds := [_]) GP hr ⟨n, rfl, ⟨by omega, by omega⟩, rfl⟩ (eva_cons (ev_name 0 rfl) eva_nil))) (ex_skip (evt_to (evt_not (evt_val (ev_call (ds := [_, _]) GB hr ⟨n, v, rfl, hn, rfl⟩ (eva_cons (ev_name 0 rfl) (eva_cons (ev_name 1 rfl) eva_nil))))) (by rw [decide_eq_true hv]; rfl))
    (ex_cons (es_set 2 (ev_lst (ms := []) eva_nil (by simp)) rfl hN) (ex_cons (es_loop (n := n) (g := fun i => .int (i : Int)) (G := fun l : List D => ⟨none, [sd (.int n), sd (tI v), so l, none, none]⟩) (f := fun i l => l ++ [.tup (tab n fun y => .rat (cutG v i y))]) (P := fun i l => l = tab i fun x => .tup (tab n fun y => .rat (cutG v x y))) (a0 := []) rfl PassesOwn.never (it_rg T (ev_name 0 rfl) (by omega)) fun i l hi hl => ⟨turnI (tg_name 3 hN) (ex_one (es_expr (ev_appD 2 (ev_tupleOf T.tuple (.inl rfl) (Ev.frzL (EvL.ev (lc_map [("y", 4)] (fun y => .rat (cutG v i y)) hN (it_rg T (ev_name 0 rfl) (by omega)) (by omega) fun y hy => turn fun s0 H0 D0 cl fp => ⟨tg_name 4 hN, ?_⟩)))) ⟨_, rfl⟩ rfl ?_))) rfl ⟨rfl, rfl, rfl, trivial⟩, ?_⟩) (ex_frz (m := .ls _) 2 rfl (ex_one (es_ret (ev_tupleOf T.tuple (.inl rfl) (ev_name 2 rfl))))))))) ⟨?_, rfl⟩
  · exact ev_make (ds := [_]) GK hr ⟨_, _, rfl, by decide, by split <;> exact Bd.sm (by decide), Bd.sm (by decide), (by rw [rat01])⟩ (eva_cons (ev_intB (t := part v i y) T.int (ev_ne rfl (ev_inI (ev_name 3 rfl) (ev_name 1 rfl)) (ev_inI (ev_name 4 rfl) (ev_name 1 rfl)))) eva_nil)
  · rw [hl, tab_len]; omega
  · rw [hl]; exact tab_succ.symm
  · show D.tup (Mu.toL (List.map Mu.im (lp _ n []))) = _
    rw [toL_map, lp_tab]
theorem fp_pair_row {k}  (h : DefW W "pair_row" (top 46)) : W.fp (k + 2) "pair_row" (fun ds r => ∃ (n : Nat) (g : Nat → Nat → Rat), ds = [.int n, qT n g] ∧ n ≤ 8 ∧ r = .tup (prL n fun x y => .rat (g x y))) := by
  obtain ⟨f, h, hm⟩ := h
  have hN : (["n", "rows", "found", "x"] : List Str).Nodup := by decide +kernel
  refine fnP_mk (N := ["n", "rows", "found", "x"]) (ps := ["n", "rows"]) h hm ⟨rfl, rfl, rfl, hN, rfl, by decide +kernel, by decide +kernel⟩ (fun ds d h => by obtain ⟨_, _, rfl, _⟩ := h; rfl) ?_ (fun _ _ _ _ _ _ us hl => match us, hl with | [_, _], _ => rfl)
  rintro ds r ⟨n, g, rfl, hn, rfl⟩ f cdv A outer s H E st hr
  refine bodyI (ex_cons (es_set 2 (ev_lst (ms := []) eva_nil (by simp)) rfl hN) <| ex_cons (es_loop (n := n) (g := fun i => .int (i : Int)) (G := fun l : List D => ⟨none, [sd (.int n), sd (qT n g), so l, none]⟩) (f := fun i l => l ++ tab (n - (i + 1)) fun j => .rat (g i (i + 1 + j))) (P := fun i l => l = prA i n fun x y => .rat (g x y)) (a0 := []) (by simp [prA]) PassesOwn.never (it_rg T (ev_name 0 rfl) (by omega)) fun i l hi hl => ⟨turnI (tg_name 3 hN) (ex_one (es_expr (ev_extT (l' := tab (n - (i + 1)) fun j => .rat (g i (i + 1 + j))) 2 (ev_to (ev_slT (ev_ix (ix_tup hi) (ev_name 1 rfl) (ev_name 3 rfl)) (evo_some (ev_add (ev_name 3 rfl) ev_int)) evo_none) ?_) ⟨_, rfl⟩ rfl ?_))) rfl ⟨rfl, rfl, rfl, trivial⟩, ?_⟩) <| ex_frz (m := .ls _) 2 rfl <| ex_one (es_ret (ev_tupleOf T.tuple (.inl rfl) (ev_name 2 rfl)))) ⟨?_, rfl⟩
  · show D.tup _ = D.tup _
    congr 1
    exact cut_from (k := i + 1) hi
  · rw [hl, tab_len]
    have := prA_len (n := n) (g := fun x y => D.rat (g x y)) i
    have h2 : i * n ≤ 8 * 8 := Nat.mul_le_mul (by omega) hn
    omega
  · rw [hl]; exact prA_succ.symm
  · show D.tup (Mu.toL (List.map Mu.im (lp _ n []))) = _
    rw [toL_map, lp_prA (g := fun x y => D.rat (g x y))]
    rfl
theorem fp_cut_columns {k} (GS : W.fp (k + 1) "splits" RSpl) (GC : W.fp (k + 1) "cut_rows" (fun ds r => ∃ (n : Nat) (v : List Int), ds = [.int n, tI v] ∧ (1 ≤ n ∧ n ≤ 8) ∧ v ∈ splS n ∧ r = qT n (cutG v))) (GP : W.fp (k + 1) "pair_row" (fun ds r => ∃ (n : Nat) (g : Nat → Nat → Rat), ds = [.int n, qT n g] ∧ n ≤ 8 ∧ r = .tup (prL n fun x y => .rat (g x y)))) (h : DefW W "cut_columns" (top 47)) : W.fp (k + 2) "cut_columns" (fun ds r => ∃ (n : Nat), ds = [.int n] ∧ (1 ≤ n ∧ n ≤ 8) ∧ r = .lst ((splS n).map fun s => .tup (prL n fun x y => .rat (cutG s x y)))) := by
  obtain ⟨f, h, hm⟩ := h
  have hN : (["n", "split"] : List Str).Nodup := by decide +kernel
  refine fnP_mk (N := ["n", "split"]) (ps := ["n"]) h hm ⟨rfl, rfl, rfl, hN, rfl, by decide +kernel, by decide +kernel⟩ (fun ds d h => by obtain ⟨_, rfl, _⟩ := h; rfl) ?_ (fun _ _ _ _ _ _ us hl => match us, hl with | [_], _ => rfl)
  rintro ds r ⟨n, rfl, hn, rfl⟩ f cdv A outer s H E st hr
  refine bodyI (ex_one (es_ret (Ev.frzL (EvL.ev (lcl_map (bs := splS n) (inj := tI) [("split", 1)] (fun s => .tup (prL n fun x y => .rat (cutG s x y))) hN (it_tup (ev_call (ds := [_]) GS hr ⟨n, rfl, hn, rfl⟩ (eva_cons (ev_name 0 rfl) eva_nil))) ?_ fun s hs => turn fun s0 H0 D0 cl fp => ⟨tg_name 1 hN, ev_call (ds := [_, _]) GP hr ⟨n, cutG s, rfl, hn.2, rfl⟩ (eva_cons (ev_name 0 rfl) (eva_cons (ev_call (ds := [_, _]) GC hr ⟨n, s, rfl, hn, hs, rfl⟩ (eva_cons (ev_name 0 rfl) (eva_cons (ev_name 1 rfl) eva_nil))) eva_nil))⟩))))) ⟨rfl, rfl⟩
  have := splS_len hn.2
  omega
theorem mm_distance {k}  (h : DefM W W.c.M "distance" "Metric.distance" (meth 30 3)) : W.fm (k + 2) W.c.M "distance" (fun ds r => ∃ (n x y : Nat) (g : Nat → Nat → Rat), ds = [.met n (qT n g), .int x, .int y] ∧ (x < n ∧ y < n) ∧ r = .rat (g x y)) := by
  obtain ⟨f, h, hm⟩ := h
  have hN : (["self", "x", "y"] : List Str).Nodup := by decide +kernel
  refine fnM_mk (N := ["self", "x", "y"]) (ps := ["self", "x", "y"]) h hm ⟨rfl, rfl, rfl, hN, rfl, by decide +kernel, by decide +kernel⟩ (fun ds d h => by obtain ⟨_, _, _, _, rfl, _⟩ := h; rfl) ?_ (fun _ _ _ _ _ _ us hl => match us, hl with | [_, _, _], _ => rfl)
  rintro ds r ⟨n, x, y, g, rfl, hxy, rfl⟩ f cdv A outer s H E st hr
  exact bodyI (ex_one (es_ret (ev_ix (ix_tup hxy.2) (ev_ix (ix_tup hxy.1) (ev_rows T (ev_name 0 rfl)) (ev_name 1 rfl)) (ev_name 2 rfl)))) ⟨rfl, rfl⟩
theorem mm_pairs {k}  (h : DefM W W.c.M "pairs" "Metric.pairs" (meth 30 4)) : W.fm (k + 2) W.c.M "pairs" (fun ds r => ∃ (n : Nat) (g : Nat → Nat → Rat), ds = [.met n (qT n g)] ∧ n ≤ 8 ∧ r = .tup (prL n fun x y => .rat (g x y))) := by
  obtain ⟨f, h, hm⟩ := h
  have hN : (["self", "found", "x", "y"] : List Str).Nodup := by decide +kernel
  refine fnM_mk (N := ["self", "found", "x", "y"]) (ps := ["self"]) h hm ⟨rfl, rfl, rfl, hN, rfl, by decide +kernel, by decide +kernel⟩ (fun ds d h => by obtain ⟨_, _, rfl, _⟩ := h; rfl) ?_ (fun _ _ _ _ _ _ us hl => match us, hl with | [_], _ => rfl)
  rintro ds r ⟨n, g, rfl, hn, rfl⟩ f cdv A outer s H E st hr
  refine bodyI (ex_cons (es_set 1 (Ev.frzL (l := []) (ev_lst (ms := []) eva_nil (by simp))) rfl hN) <| ex_cons (es_loop (n := n) (g := fun i => .int (i : Int)) (G := fun l : List D => ⟨none, [sd (.met n (qT n g)), sd (.lst l), none, none]⟩) (f := fun i l => l ++ tab (n - (i + 1)) fun j => .rat (g i (i + 1 + j))) (P := fun i l => l = prA i n fun x y => .rat (g x y)) (a0 := []) (by simp [prA]) PassesOwn.never (it_rg T (ev_mn T (ev_name 0 rfl)) (by omega)) fun i l hi hl => ⟨turnI (tg_name 2 hN) (ex_one (es_set 1 (Ev.frzL (ev_catL ?_ (ev_name 1 rfl) (Ev.frzL (EvL.ev (lc_map (n := n - (i + 1)) (g := fun j => .int ((i + 1 + j : Nat) : Int)) [("y", 3)] (fun j => .rat (g i (i + 1 + j))) hN (it_rg2 (lo := i + 1) T (ev_to (ev_add (ev_name 2 rfl) ev_int) rfl) (ev_mn T (ev_name 0 rfl)) (by omega)) (by omega) fun y hy => turn fun s0 H0 D0 cl fp => ⟨tg_name 3 hN, ev_ix (ix_tup (show i + 1 + y < n by omega)) (ev_ix (ix_tup hi) (ev_rows T (ev_name 0 rfl)) (ev_name 2 rfl)) (ev_name 3 rfl)⟩))))) rfl hN)) rfl ⟨rfl, rfl, trivial⟩, ?_⟩) <| ex_one (es_ret (ev_tupleOf T.tuple (.inl rfl) (ev_name 1 rfl)))) ⟨?_, rfl⟩
  · rw [hl, tab_len]
    have := prA_len (n := n) (g := fun x y => D.rat (g x y)) i
    have h2 : i * n ≤ 8 * 8 := Nat.mul_le_mul (by omega) hn
    omega
  · rw [hl]; exact prA_succ.symm
  · show D.tup (lp _ n []) = _
    rw [lp_prA (g := fun x y => D.rat (g x y))]
    rfl
end
end K48

namespace K48
open PySem PySem.Spec PyProof.Rows L2

def D.toI : D → Int
  | .int i => i
  | _ => 0
def D.toQ : D → Rat
  | .rat q => q
  | _ => 0
theorem pts_ints {n : Int} : ∀ {l : List D}, l.all (isPt n) = true → l = (l.map D.toI).map D.int
  | [], _ => rfl
  | d :: l, h => by
    rw [List.all_cons, Bool.and_eq_true] at h
    rw [List.map_cons, List.map_cons, ← pts_ints h.2]
    cases d with
    | int i => rfl
    | _ => cases h.1
theorem qs_rats : ∀ {l : List D}, l.all isQ = true → l = (l.map D.toQ).map D.rat
  | [], _ => rfl
  | d :: l, h => by
    rw [List.all_cons, Bool.and_eq_true] at h
    rw [List.map_cons, List.map_cons, ← qs_rats h.2]
    cases d with
    | rat i => rfl
    | _ => cases h.1
def incr (ns : List Int) : Bool := decide (∀ i, i < ns.length - 1 → ns.getD i 0 < ns.getD (i + 1) 0)
def isSplD (n : Int) : D → Bool
  | .tup l => !decide (l.length = 0) && (l.all (isPt n) && (decide (1 ≤ (l.map D.toI).getD 0 0) && incr (l.map D.toI)))
  | _ => false
theorem isSplD_no {n : Int} {d : D} (h : isD d .tuple = false) : isSplD n d = false := by cases d <;> first | (cases h; done) | rfl
def posQ : D → Bool
  | .rat q => decide (0 < q.num)
  | _ => false
def isPartD (n : Int) : D → Bool
  | .tup [a, b] => isSplD n a && posQ b
  | _ => false
def arePartsD (n : Int) : D → Bool
  | .tup l => l.all (isPartD n)
  | _ => false
theorem arePartsD_no {n : Int} {d : D} (h : isD d .tuple = false) : arePartsD n d = false := by cases d <;> first | (cases h; done) | rfl
theorem isPartD_no {n : Int} {d : D} (h : isD d .tuple = false) : isPartD n d = false := by cases d <;> first | (cases h; done) | rfl
theorem isPartD_len {n : Int} {l : List D} (h : ¬ l.length = 2) : isPartD n (.tup l) = false := by
  match l, h with
  | [], _ => rfl
  | [_], _ => rfl
  | [_, _], h => exact absurd rfl h
  | _ :: _ :: _ :: _, _ => rfl
theorem len2 {l : List D} (h : l.length = 2) : ∃ a b, l = [a, b] := by
  match l, h with
  | [a, b], _ => exact ⟨a, b, rfl⟩
def npr (n : Nat) : Nat := (prL n fun x y => (x, y)).length
def pr (n k : Nat) : Nat × Nat := (prL n fun x y => (x, y)).getD k (0, 0)
section
variable {W : Wd} (T : Fx W.K W.mg W.c)
include T
theorem fp_is_split_checker {k} (GP : W.fp (k + 1) "are_points" (fun ds r => ∃ n d c, ds = [.int n, d, .int c] ∧ d.pl = true ∧ r = .bl (arePts n c d))) (h : DefW2 W "is_split_checker" "is_split" (top 17)) : W.fp (k + 2) "is_split_checker" (fun ds r => ∃ (n : Int) (d : D), ds = [.int n, d] ∧ d.pl = true ∧ (∀ l, d = .tup l → l.length ≤ 1000) ∧ r = .bl (isSplD n d)) := by
  obtain ⟨f, h, hm⟩ := h
  have hN : (["n", "value", "k"] : List Str).Nodup := by decide +kernel
  refine fnP_mk (N := ["n", "value", "k"]) (ps := ["n", "value"]) h hm ⟨rfl, rfl, rfl, hN, rfl, by decide +kernel, by decide +kernel⟩ (fun ds d h => by obtain ⟨_, _, rfl, _⟩ := h; rfl) ?_ (fun _ _ _ _ _ _ us hl => match us, hl with | [_, _], _ => rfl)
  rintro ds r ⟨n, d, rfl, hd, hsz, rfl⟩ f cdv A outer s H E st hr
  cases ht : isD d .tuple with
  | false => exact bodyI (ex_take (EvW.t (evw_orT (evt_to (evt_not (evt_val (ev_isTup T (D.pl.noM hd) (ev_name 1 rfl)))) (by rw [ht]; rfl)))) (ex_one (es_ret ev_bl))) ⟨by rw [isSplD_no ht]; rfl, rfl⟩
  | true =>
    obtain ⟨l, rfl⟩ := isTup_ex ht
    by_cases h0 : l.length = 0
    · exact bodyI (ex_take (EvW.t (evw_orF (evt_to (evt_not (evt_val (ev_isTup T rfl (ev_name 1 rfl)))) rfl) (evw_orT (evt_to (evt_eq rfl (ev_len T.len rfl (ev_name 1 rfl)) ev_int) (decide_eq_true (by omega)))))) (ex_one (es_ret ev_bl))) ⟨by show D.bl false = D.bl (!decide (l.length = 0) && _); rw [decide_eq_true h0]; rfl, rfl⟩
    · cases hp : l.all (isPt n) with
      | false => exact bodyI (ex_take (EvW.t (evw_orF (evt_to (evt_not (evt_val (ev_isTup T rfl (ev_name 1 rfl)))) rfl) (evw_orF (evt_to (evt_eq rfl (ev_len T.len rfl (ev_name 1 rfl)) ev_int) (decide_eq_false (by omega))) (evw_orT (evt_to (evt_not (evt_val (ev_call (ds := [_, _, _]) GP hr ⟨n, .tup l, l.length, rfl, hd, rfl⟩ (eva_cons (ev_name 0 rfl) (eva_cons (ev_name 1 rfl) (eva_cons (ev_len T.len rfl (ev_name 1 rfl)) eva_nil)))))) (by show (!(decide ((l.length : Int) = l.length) && l.all (isPt n))) = true; rw [hp, Bool.and_false]; rfl)))))) (ex_one (es_ret ev_bl))) ⟨by show D.bl false = D.bl (_ && (l.all (isPt n) && _)); rw [hp, Bool.false_and, Bool.and_false], rfl⟩
      | true =>
        have hl := pts_ints hp
        generalize hns : l.map D.toI = ns at hl
        have hlen : l.length = ns.length := by rw [← hns, List.length_map]
        have ix : ∀ i, i < ns.length → ixD (.tup l) (i : Int) = some (.int (ns.getD i 0)) := fun i hi => ix_tup0 (by rw [hl, List.getElem?_map, getD_at (z := 0) hi]; rfl)
        have hS : isSplD n (.tup l) = (decide (1 ≤ ns.getD 0 0) && incr ns) := by
          show (!decide (l.length = 0) && (l.all (isPt n) && (decide (1 ≤ (l.map D.toI).getD 0 0) && incr (l.map D.toI)))) = _
          rw [hns, hp, decide_eq_false h0]; rfl
        have pre : ∀ {X : Cx} {st : Addr} {C : Cfg} {p1 p2 p3 p4 p5 : Pos}, True := trivial
        refine bodyI (ex_guard (t := decide (ns.getD 0 0 < 1)) (EvW.t (evw_orF (evt_to (evt_not (evt_val (ev_isTup T rfl (ev_name 1 rfl)))) rfl) (evw_orF (evt_to (evt_eq rfl (ev_len T.len rfl (ev_name 1 rfl)) ev_int) (decide_eq_false (by omega))) (evw_orF (evt_to (evt_not (evt_val (ev_call (ds := [_, _, _]) GP hr ⟨n, .tup l, l.length, rfl, hd, rfl⟩ (eva_cons (ev_name 0 rfl) (eva_cons (ev_name 1 rfl) (eva_cons (ev_len T.len rfl (ev_name 1 rfl)) eva_nil)))))) (by show (!(decide ((l.length : Int) = l.length) && l.all (isPt n))) = false; rw [hp, decide_eq_true rfl]; rfl)) (evw_or1 (evt_icmp .lt (ev_ix (ix 0 (by omega)) (ev_name 1 rfl) ev_int) ev_int)))))) (fun _ => ex_one (es_ret ev_bl)) fun _ =>
          ex_ifnx (C1 := ⟨none, [sd (.int n), sd (.tup l), none]⟩) (m := .im (.bl false)) (S' := none) (es_all (n := l.length - 1) (g := fun i => .int ((1 + i : Nat) : Int)) (fun i => decide (ns.getD i 0 < ns.getD (i + 1) 0)) PassesOwn.never (it_rg2 (lo := 1) T ev_int (ev_len T.len rfl (ev_name 1 rfl)) ?_) fun i hi _ => ⟨_, _, tg_name 2 hN, ex_unless (evt_icmp .le (ev_ix (ix (1 + i) (by omega)) (ev_name 1 rfl) (ev_name 2 rfl)) (ev_ix (ix i (by omega)) (ev_name 1 rfl) (ev_to (ev_sub (ev_name 2 rfl) ev_int) ?_))) ?_ (fun _ => ex_one (es_ret ev_bl)) rfl ⟨rfl, rfl, trivial⟩⟩) fun _ => ex_one (es_ret ev_bl)) ?_
        · have := hsz l rfl
          omega
        · show D.int _ = D.int _
          congr 1; omega
        · by_cases q : ns.getD i 0 < ns.getD (i + 1) 0
          · rw [decide_eq_true q, Nat.add_comm 1 i, decide_eq_false (by omega)]; rfl
          · rw [decide_eq_false q, Nat.add_comm 1 i, decide_eq_true (by omega)]; rfl
        · refine Fin.ite (fun h => ⟨?_, rfl⟩) fun h => Fin.ite (fun h' => ⟨?_, rfl⟩) fun h' => ⟨?_, rfl⟩
          · rw [hS]
            show D.bl false = _
            rw [decide_eq_true_eq] at h
            rw [decide_eq_false (show ¬ 1 ≤ ns.getD 0 0 by omega)]; rfl
          · rw [hS]
            show D.bl true = _
            rw [decide_eq_true_eq] at h
            have e : incr ns = true := decide_eq_true fun i hi => of_decide_eq_true (h' i (by omega))
            rw [decide_eq_true (show 1 ≤ ns.getD 0 0 by omega), e]; rfl
          · rw [hS]
            show D.bl false = _
            have e : incr ns = false := decide_eq_false fun q => h' fun i hi => decide_eq_true (q i (by omega))
            rw [e, Bool.and_false]
end
end K48

namespace K48
open PySem PySem.Spec PyProof.Rows L2

/-- every tuple within is short -/
abbrev RSplC (ds : List D) (r : D) : Prop := ∃ (n : Int) (d : D), ds = [.int n, d] ∧ d.pl = true ∧ (∀ l, d = .tup l → l.length ≤ 1000) ∧ r = .bl (isSplD n d)
theorem le_neg (i : Int) : decide (i ≤ 0) = !decide (0 < i) := by
  by_cases h : 0 < i
  · rw [decide_eq_true h, decide_eq_false (by omega)]; rfl
  · rw [decide_eq_false h, decide_eq_true (by omega)]; rfl
def shP (d : D) : Prop := ∀ l a b, d = .tup l → D.tup [a, b] ∈ l → ∀ s, a = .tup s → s.length ≤ 1000
section
variable {W : Wd} (T : Fx W.K W.mg W.c)
include T
theorem fp_are_parts {k} (GS : W.fp (k + 1) "is_split_checker" RSplC) (h : DefW W "are_parts" (top 22)) : W.fp (k + 2) "are_parts" (fun ds r => ∃ (n : Int) (d : D), ds = [.int n, d] ∧ d.pl = true ∧ shP d ∧ r = .bl (arePartsD n d)) := by
  obtain ⟨f, h, hm⟩ := h
  have hN : (["n", "parts", "part"] : List Str).Nodup := by decide +kernel
  refine fnP_mk (N := ["n", "parts", "part"]) (ps := ["n", "parts"]) h hm ⟨rfl, rfl, rfl, hN, rfl, by decide +kernel, by decide +kernel⟩ (fun ds d h => by obtain ⟨_, _, rfl, _⟩ := h; rfl) ?_ (fun _ _ _ _ _ _ us hl => match us, hl with | [_, _], _ => rfl)
  rintro ds r ⟨n, d, rfl, hd, hsh, rfl⟩ f cdv A outer s H E st hr
  cases ht : isD d .tuple with
  | false => exact bodyI (ex_take (evt_to (evt_not (evt_val (ev_isTup T (D.pl.noM hd) (ev_name 1 rfl)))) (by rw [ht]; rfl)) (ex_one (es_ret ev_bl))) ⟨by rw [arePartsD_no ht]; rfl, rfl⟩
  | true =>
    obtain ⟨l, rfl⟩ := isTup_ex ht
    refine bodyI (ex_skip (evt_to (evt_not (evt_val (ev_isTup T rfl (ev_name 1 rfl)))) rfl) (ex_ifnx (C1 := ⟨none, [sd (.int n), sd (.tup l), none]⟩) (m := .im (.bl false)) (S' := none) (es_allL (bs := l) (inj := id) (isPartD n) PassesOwn.never (it_tup (by rw [List.map_id]; exact ev_name 1 rfl)) fun b hb => ⟨_, _, tg_name 2 hN, ?_⟩) fun _ => ex_one (es_ret ev_bl))) ?_
    · have hb' := plL_mem (show plL l = true from hd) hb
      cases hbt : isD b .tuple with
      | false =>
        rw [isPartD_no hbt, if_neg Bool.false_ne_true]
        exact ex_take (EvW.t (evw_orT (evt_to (evt_not (evt_val (ev_isTup T (D.pl.noM hb') (ev_name 2 rfl)))) (by show (!isD b .tuple) = true; rw [hbt]; rfl)))) (ex_one (es_ret ev_bl))
      | true =>
        obtain ⟨t, rfl⟩ := isTup_ex hbt
        by_cases h2 : t.length = 2
        · obtain ⟨x, y, rfl⟩ := len2 h2
          have hx : x.pl = true := plL_mem (show plL [x, y] = true from hb') (by simp)
          have hy : y.pl = true := plL_mem (show plL [x, y] = true from hb') (by simp)
          cases hs : isSplD n x with
          | false =>
            rw [show isPartD n (.tup [x, y]) = (isSplD n x && posQ y) from rfl, hs, Bool.false_and, if_neg Bool.false_ne_true]
            exact ex_take (EvW.t (evw_orF (evt_to (evt_not (evt_val (ev_isTup T rfl (ev_name 2 rfl)))) rfl) (evw_orF (evt_to (evt_ne rfl (ev_len T.len rfl (ev_name 2 rfl)) ev_int) rfl) (evw_or1 (evt_to (evt_not (evt_val (ev_call (ds := [_, _]) GS hr ⟨n, x, rfl, hx, hsh l x y rfl hb, rfl⟩ (eva_cons (ev_name 0 rfl) (eva_cons (ev_ix (d1 := x) (i := 0) rfl (ev_name 2 rfl) ev_int) eva_nil))))) (by rw [hs]; rfl)))))) (ex_one (es_ret ev_bl))
          | true =>
            rw [show isPartD n (.tup [x, y]) = (isSplD n x && posQ y) from rfl, hs, Bool.true_and]
            refine ex_skip (EvW.t (evw_orF (evt_to (evt_not (evt_val (ev_isTup T rfl (ev_name 2 rfl)))) rfl) (evw_orF (evt_to (evt_ne rfl (ev_len T.len rfl (ev_name 2 rfl)) ev_int) rfl) (evw_or1 (evt_to (evt_not (evt_val (ev_call (ds := [_, _]) GS hr ⟨n, x, rfl, hx, hsh l x y rfl hb, rfl⟩ (eva_cons (ev_name 0 rfl) (eva_cons (ev_ix (d1 := x) (i := 0) rfl (ev_name 2 rfl) ev_int) eva_nil))))) (by rw [hs]; rfl)))))) ?_
            cases hq : isQ y with
            | false =>
              have hpo : posQ y = false := by cases y <;> first | (cases hq; done) | rfl
              rw [hpo, if_neg Bool.false_ne_true]
              exact ex_take (EvW.t (evw_orT (evt_to (evt_not (evt_val (ev_isRat T (D.pl.noM hy) (ev_ix (d1 := y) (i := 1) rfl (ev_name 2 rfl) ev_int)))) (by cases y <;> first | (cases hq; done) | rfl)))) (ex_one (es_ret ev_bl))
            | true =>
              obtain ⟨q, rfl⟩ : ∃ q, y = .rat q := by cases y <;> first | (cases hq; done) | exact ⟨_, rfl⟩
              exact ex_unless (t := decide (q.num ≤ 0)) (EvW.t (evw_orF (evt_to (evt_not (evt_val (ev_isRat (d := .rat q) T rfl (ev_ix (i := 1) rfl (ev_name 2 rfl) ev_int)))) rfl) (evw_or1 (evt_icmp .le (ev_num T (ev_ix (d1 := .rat q) (i := 1) rfl (ev_name 2 rfl) ev_int)) ev_int)))) (le_neg q.num) (fun _ => ex_one (es_ret ev_bl)) rfl ⟨rfl, rfl, trivial⟩
        · rw [isPartD_len h2, if_neg Bool.false_ne_true]
          exact ex_take (EvW.t (evw_orF (evt_to (evt_not (evt_val (ev_isTup T rfl (ev_name 2 rfl)))) rfl) (evw_orT (evt_to (evt_ne rfl (ev_len T.len rfl (ev_name 2 rfl)) ev_int) (by rw [decide_eq_false (by omega)]; rfl))))) (ex_one (es_ret ev_bl))
    · refine Fin.ite (fun h => ⟨?_, rfl⟩) fun h => ⟨?_, rfl⟩
      · show D.bl true = D.bl (l.all (isPartD n))
        rw [h]
      · show D.bl false = D.bl (l.all (isPartD n))
        rw [Bool.not_eq_true] at h
        rw [h]
theorem fp_pairs_of {k}  (h : DefW W "pairs_of" (top 23)) : W.fp (k + 2) "pairs_of" (fun ds r => ∃ (n : Nat), ds = [.int n] ∧ n ≤ 8 ∧ r = .lst (prL n fun x y => tI [(x : Int), (y : Int)])) := by
  obtain ⟨f, h, hm⟩ := h
  have hN : (["n", "x", "y"] : List Str).Nodup := by decide +kernel
  refine fnP_mk (N := ["n", "x", "y"]) (ps := ["n"]) h hm ⟨rfl, rfl, rfl, hN, rfl, by decide +kernel, by decide +kernel⟩ (fun ds d h => by obtain ⟨_, rfl, _⟩ := h; rfl) ?_ (fun _ _ _ _ _ _ us hl => match us, hl with | [_], _ => rfl)
  rintro ds r ⟨n, rfl, hn, rfl⟩ f cdv A outer s H E st hr
  refine bodyI (ex_one (es_ret (Ev.frzL (l := prL n fun x y => tI [(x : Int), (y : Int)]) (ev_lc2 (n := n) (g := fun i => .int (i : Int)) [("x", 1), ("y", 2)] [2] (fun i => n - (i + 1)) (fun i j => .int ((i + 1 + j : Nat) : Int)) (fun i j => tI [(i : Int), ((i + 1 + j : Nat) : Int)]) (fun i => ⟨none, [sd (.int n), sd (.int (i : Int)), none]⟩) (fun i j => ⟨none, [sd (.int n), sd (.int (i : Int)), sd (.int ((i + 1 + j : Nat) : Int))]⟩) hN (it_rg T (ev_name 0 rfl) (by omega)) ?_ (fun s0 H0 D0 cl fp i hi => ⟨(tg_name 1 hN).mono ?_, it_rg2 (lo := i + 1) T (ev_to (ev_add (ev_name 1 rfl) ev_int) rfl) (ev_name 0 rfl) (by omega), fun j hj => ⟨tg_name 2 hN, ev_tup (ds := [_, _]) (eva_cons (ev_name 1 rfl) (eva_cons (ev_name 2 rfl) eva_nil)) (by simp)⟩⟩) (fun i hi => ⟨rfl, rfl, rfl, rfl⟩) (fun i j hi hj => ⟨rfl, rfl, rfl⟩) (by decide))))) ⟨rfl, rfl⟩
  · intro i hi
    have := prA_len (n := n) (g := fun x y => tI [(x : Int), (y : Int)]) i
    have h2 : i * n ≤ 8 * 8 := Nat.mul_le_mul (by omega) hn
    exact Nat.le_trans this (by omega)
  · decide
end
end K48

namespace K48
open PySem PySem.Spec PyProof.Rows L2

def prI (n : Nat) : List (Nat × Nat) := prL n fun x y => (x, y)
abbrev prD (p : Nat × Nat) : D := tI [(p.1 : Int), (p.2 : Int)]
theorem prL_prI {n : Nat} : (prL n fun x y => tI [(x : Int), (y : Int)]) = (prI n).map prD := by unfold prI; rw [prL_map]
theorem pr_get {n k : Nat} (h : k < npr n) : (prI n)[k]? = some (pr n k) := getD_at h
theorem prI_lt {n : Nat} {p : Nat × Nat} (h : p ∈ prI n) : p.1 < p.2 ∧ p.2 < n := by
  unfold prI prL at h
  obtain ⟨x, hx, hp⟩ := List.mem_flatMap.mp h
  unfold tab at hp
  obtain ⟨j, hj, rfl⟩ := List.mem_map.mp hp
  rw [List.mem_range] at hx hj
  exact ⟨by show x < x + 1 + j; omega, by show x + 1 + j < n; omega⟩
theorem pr_lt {n k : Nat} (h : k < npr n) : (pr n k).1 < (pr n k).2 ∧ (pr n k).2 < n := prI_lt (List.mem_of_getElem? (pr_get h))
theorem npr_le {n : Nat} : npr n ≤ n * n := prL_len
theorem gt_neg (i : Int) : decide (0 < i) = !decide (i ≤ 0) := by rw [le_neg]; simp
def partOf : D → List Int × Rat
  | .tup [.tup s, .rat q] => (s.map D.toI, q)
  | _ => ([], 0)
def psOf : D → List (List Int × Rat)
  | .tup l => l.map partOf
  | _ => []
def qsOf : D → List Rat
  | .tup l => l.map D.toQ
  | _ => []
theorem isPart_pw {n : Int} {d : D} (h : isPartD n d = true) : d = pwD (partOf d) := by
  match d, h with
  | .tup [a, b], h =>
    have h' : (isSplD n a && posQ b) = true := h
    rw [Bool.and_eq_true] at h'
    match a, b, h' with
    | .tup s, .rat q, h' =>
      have h1 : (!decide (s.length = 0) && (s.all (isPt n) && (decide (1 ≤ (s.map D.toI).getD 0 0) && incr (s.map D.toI)))) = true := h'.1
      rw [Bool.and_eq_true, Bool.and_eq_true] at h1
      show D.tup [D.tup s, D.rat q] = D.tup [D.tup ((s.map D.toI).map D.int), D.rat q]
      rw [← pts_ints h1.2.1]
    | .tup s, .non, h' => cases h'.2
    | .tup s, .bl _, h' => cases h'.2
    | .tup s, .int _, h' => cases h'.2
    | .tup s, .str _, h' => cases h'.2
    | .tup s, .tup _, h' => cases h'.2
    | .tup s, .lst _, h' => cases h'.2
    | .tup s, .met _ _, h' => cases h'.2
    | .non, _, h' => cases h'.1
    | .bl _, _, h' => cases h'.1
    | .int _, _, h' => cases h'.1
    | .str _, _, h' => cases h'.1
    | .rat _, _, h' => cases h'.1
    | .lst _, _, h' => cases h'.1
    | .met _ _, _, h' => cases h'.1
theorem parts_pw {n : Int} {d : D} (h : arePartsD n d = true) : d = .tup ((psOf d).map pwD) := by
  cases d with
  | tup l =>
    have h' : l.all (isPartD n) = true := h
    show D.tup l = D.tup ((l.map partOf).map pwD)
    congr 1
    rw [List.map_map]
    refine (List.map_id l).symm.trans (List.map_congr_left fun x hx => ?_)
    exact isPart_pw (List.all_eq_true.mp h' x hx)
  | _ => cases h
theorem nums_qs {c : Int} {d : D} (h : areQs c d = true) : d = .tup ((qsOf d).map D.rat) ∧ ((qsOf d).length : Int) = c := by
  cases d with
  | tup l =>
    have h' : (decide ((l.length : Int) = c) && l.all isQ) = true := h
    rw [Bool.and_eq_true, decide_eq_true_eq] at h'
    refine ⟨?_, by show ((l.map D.toQ).length : Int) = c; rw [List.length_map]; exact h'.1⟩
    show D.tup l = D.tup ((l.map D.toQ).map D.rat)
    rw [← qs_rats h'.2]
  | _ => cases h
/-- what a functional gives a split, the metric -/
def sumF (n : Nat) (v : List Rat) (s : List Int) : Nat → Rat := fun m => lp (fun k a => if part s (pr n k).1 (pr n k).2 = true then a + v.getD k 0 else a) m 0
def sumG (n : Nat) (v : List Rat) (g : Nat → Nat → Rat) : Nat → Rat := fun m => lp (fun k a => a + v.getD k 0 * g (pr n k).1 (pr n k).2) m 0
def cutsOK (n : Nat) (g : Nat → Nat → Rat) (ps : List (List Int × Rat)) : Bool := (prI n).all fun p => decide (sumP ps p.1 p.2 = g p.1 p.2)
def funOK (n : Nat) (g : Nat → Nat → Rat) (v : List Rat) : Bool := (splS n).all (fun s => decide ((sumF n v s (npr n)).num ≤ 0)) && decide (0 < (sumG n v g (npr n)).num)
/-- the paper holds -/
def holdsD (n : Nat) (g : Nat → Nat → Rat) : D → Bool
  | .tup [h, b] => if eqS "cuts" h = true then arePartsD n b && cutsOK n g (psOf b) else eqS "functional" h && (areQs (npr n) b && funOK n g (qsOf b))
  | _ => false
theorem holdsD_no {n : Nat} {g : Nat → Nat → Rat} {d : D} (h : isD d .tuple = false) : holdsD n g d = false := by cases d <;> first | (cases h; done) | rfl
theorem holdsD_len {n : Nat} {g : Nat → Nat → Rat} {l : List D} (h : ¬ l.length = 2) : holdsD n g (.tup l) = false := by
  match l, h with
  | [], _ => rfl
  | [_], _ => rfl
  | [_, _], h => exact absurd rfl h
  | _ :: _ :: _ :: _, _ => rfl
structure BdD (n : Nat) (g : Nat → Nat → Rat) (d : D) : Prop where
  p : ∀ h b, d = .tup [h, b] → arePartsD n b = true → (∀ p ∈ psOf b, Sm p.2) ∧ ∀ x y i, Sm (sumP ((psOf b).take i) x y)
  f : ∀ h b, d = .tup [h, b] → areQs (npr n) b = true → (∀ q ∈ qsOf b, Sm q) ∧ (∀ s ∈ splS n, ∀ i, i ≤ npr n → Sm (sumF n (qsOf b) s i)) ∧ (∀ i, i ≤ npr n → Sm (sumG n (qsOf b) g i)) ∧ ∀ k, k < npr n → Sm ((qsOf b).getD k 0 * g (pr n k).1 (pr n k).2)
  g : ∀ x y, x < n → y < n → Sm (g x y)
  sh : ∀ h b, d = .tup [h, b] → shP b
abbrev RTakes (ds : List D) (r : D) : Prop := ∃ (n : Nat) (g : Nat → Nat → Rat) (d : D), ds = [.met n (qT n g), d] ∧ (1 ≤ n ∧ n ≤ 8) ∧ d.pl = true ∧ BdD n g d ∧ r = .bl (holdsD n g d)
abbrev RDist (ds : List D) (r : D) : Prop := ∃ (n x y : Nat) (g : Nat → Nat → Rat), ds = [.met n (qT n g), .int x, .int y] ∧ (x < n ∧ y < n) ∧ r = .rat (g x y)
theorem ex_ifnxR {X : Cx} {c : Cl} {st : Addr} {C C1 : Cfg} {s : Stmt} {ss : List Stmt} {o : Out} {m : Mu} {b : Prop} [Decidable b] {S' : Option (Int × Int)} (h1 : Es X c st s C (if b then .nx C1 else .rt m S')) (h2 : Ex X c st ss C1 o) : Ex X c st (s :: ss) C (if b then o else .rt m S') := ex_ifnx h1 fun _ => h2
theorem ex_rtB {X : Cx} {c : Cl} {st : Addr} {C : Cfg} {ss : List Stmt} {t : Bool} {S : Option (Int × Int)} (h : Ex X c st ss C (if t = true then .rt (.im (.bl true)) S else .rt (.im (.bl false)) S)) : Ex X c st ss C (.rt (.im (.bl t)) S) := by cases t <;> exact h
section
variable {W : Wd} (T : Fx W.K W.mg W.c) (Y : Fy W.K W.c)
include T Y
theorem fp_takes_cuts {k} (GK : W.fk k "Ratio" W.c.R [1] RInit) (GE : W.fm k W.c.R "__eq__" REq) (GA : W.fm (k + 1) W.c.R "__add__" (ROp fun p q => p + q)) (GX : W.fm (k + 1) W.c.R "__mul__" (ROp fun p q => p * q)) (GD : W.fm (k + 1) W.c.M "distance" RDist)
    (G1 : W.fp (k + 1) "are_parts" (fun ds r => ∃ (n : Int) (d : D), ds = [.int n, d] ∧ d.pl = true ∧ shP d ∧ r = .bl (arePartsD n d))) (G2 : W.fp (k + 1) "pairs_of" (fun ds r => ∃ (n : Nat), ds = [.int n] ∧ n ≤ 8 ∧ r = .lst (prL n fun x y => tI [(x : Int), (y : Int)]))) (G3 : W.fp (k + 1) "summed" (fun ds r => ∃ ps x y, ds = [.tup (ps.map pwD), .int x, .int y] ∧ (∀ i, Sm (sumP (ps.take i) x y)) ∧ (∀ p ∈ ps, Sm p.2) ∧ r = .rat (sumP ps x y)))
    (G4 : W.fp (k + 1) "are_numbers" (fun ds r => ∃ d c, ds = [d, .int c] ∧ d.pl = true ∧ r = .bl (areQs c d))) (G5 : W.fp (k + 1) "all_splits" (fun ds r => ∃ n : Nat, ds = [.int n] ∧ (1 ≤ n ∧ n ≤ 8) ∧ r = .lst ((splS n).map tI))) (G6 : W.fp (k + 1) "parted" RPart) (h : DefW W "takes_cuts" (top 24)) : W.fp (k + 2) "takes_cuts" (fun ds r => ∃ (n : Nat) (g : Nat → Nat → Rat) (d : D), ds = [.met n (qT n g), d] ∧ (1 ≤ n ∧ n ≤ 8) ∧ d.pl = true ∧ BdD n g d ∧ r = .bl (holdsD n g d)) := by
  obtain ⟨f, h, hm⟩ := h
  have hN : (["metric", "paper", "n", "x", "y", "pairs", "values", "split", "total", "k"] : List Str).Nodup := by decide +kernel
  refine fnP_mk (N := ["metric", "paper", "n", "x", "y", "pairs", "values", "split", "total", "k"]) (ps := ["metric", "paper"]) h hm ⟨rfl, rfl, rfl, hN, rfl, by decide +kernel, by decide +kernel⟩ (fun ds d h => by obtain ⟨_, _, _, rfl, _⟩ := h; rfl) ?_ (fun _ _ _ _ _ _ us hl => match us, hl with | [_, _], _ => rfl)
  rintro ds r ⟨n, g, d, rfl, hn, hd, hB, rfl⟩ f cdv A outer s H E st hr
  have hpr : ∀ k, k < npr n → ((prI n).map prD)[k]? = some (prD (pr n k)) := fun k hk => by rw [List.getElem?_map, pr_get hk]; rfl
  have nle : npr n ≤ 64 := Nat.le_trans npr_le (Nat.le_trans (Nat.mul_le_mul hn.2 hn.2) (by omega))
  have zero : Rat.divInt 0 1 = 0 := rfl
  cases ht : isD d .tuple with
  | false => exact bodyI (ex_take (EvW.t (evw_orT (evt_to (evt_not (evt_val (ev_isTup T (D.pl.noM hd) (ev_name 1 rfl)))) (by rw [ht]; rfl)))) (ex_one (es_ret ev_bl))) ⟨by rw [holdsD_no ht]; rfl, rfl⟩
  | true =>
    obtain ⟨l, rfl⟩ := isTup_ex ht
    by_cases h2 : l.length = 2
    · obtain ⟨h, b, rfl⟩ := len2 h2
      have hh : h.pl = true := plL_mem (show plL [h, b] = true from hd) (by simp)
      have hb : b.pl = true := plL_mem (show plL [h, b] = true from hd) (by simp)
      cases hc : eqS "cuts" h with
      | true =>
        have hH : holdsD n g (.tup [h, b]) = (arePartsD n b && cutsOK n g (psOf b)) := if_pos hc
        cases hp : arePartsD n b with
        | false =>
          refine bodyI (ex_skip (EvW.t (evw_orF (evt_to (evt_not (evt_val (ev_isTup T rfl (ev_name 1 rfl)))) rfl) (evw_or1 (evt_to (evt_ne rfl (ev_len T.len rfl (ev_name 1 rfl)) ev_int) rfl)))) <| ex_cons (es_set 2 (ev_mn T (ev_name 0 rfl)) rfl hN) <| ex_take (evt_to (evt_eqS T GE hr (fun q => ⟨q, .str _, rfl, rfl, rfl⟩) (D.pl.noM hh) (ev_ix (d1 := h) (i := 0) rfl (ev_name 1 rfl) ev_int)) hc) <| ex_take (evt_to (evt_not (evt_val (ev_call (ds := [_, _]) G1 hr ⟨n, b, rfl, hb, hB.sh h b rfl, rfl⟩ (eva_cons (ev_name 2 rfl) (eva_cons (ev_ix (d1 := b) (i := 1) rfl (ev_name 1 rfl) ev_int) eva_nil))))) (by rw [hp]; rfl)) (ex_one (es_ret ev_bl))) ⟨?_, rfl⟩
          rw [hH, hp]; rfl
        | true =>
          have eb := parts_pw hp
          obtain ⟨s1, s2⟩ := hB.p h b rfl hp
          refine bodyI (ex_skip (EvW.t (evw_orF (evt_to (evt_not (evt_val (ev_isTup T rfl (ev_name 1 rfl)))) rfl) (evw_or1 (evt_to (evt_ne rfl (ev_len T.len rfl (ev_name 1 rfl)) ev_int) rfl)))) <| ex_cons (es_set 2 (ev_mn T (ev_name 0 rfl)) rfl hN) <| ex_take (evt_to (evt_eqS T GE hr (fun q => ⟨q, .str _, rfl, rfl, rfl⟩) (D.pl.noM hh) (ev_ix (d1 := h) (i := 0) rfl (ev_name 1 rfl) ev_int)) hc) <| ex_skip (evt_to (evt_not (evt_val (ev_call (ds := [_, _]) G1 hr ⟨n, b, rfl, hb, hB.sh h b rfl, rfl⟩ (eva_cons (ev_name 2 rfl) (eva_cons (ev_ix (d1 := b) (i := 1) rfl (ev_name 1 rfl) ev_int) eva_nil))))) (by rw [hp]; rfl)) <|
            ex_rtB (t := cutsOK n g (psOf b)) (S := none) <| ex_ifnxR (C1 := ⟨none, [sd (.met n (qT n g)), sd (.tup [h, b]), sd (.int n), none, none, none, none, none, none, none]⟩) (m := .im (.bl false)) (S' := none) (b := cutsOK n g (psOf b) = true) (es_allL (bs := prI n) (inj := prD) (fun p => decide (sumP (psOf b) p.1 p.2 = g p.1 p.2)) PassesOwn.never (it_list (ev_to (ev_call (ds := [_]) G2 hr ⟨n, rfl, hn.2, rfl⟩ (eva_cons (ev_name 2 rfl) eva_nil)) (congrArg D.lst prL_prI))) fun p hp' => ⟨_, _, tg_tup (tgs_cons (tg_name 3 hN) (tgs_cons (tg_name 4 hN) tgs_nil)), ex_unless (evt_neQ T Y GE hr ⟨_, _, rfl, rfl, rfl⟩ (ev_call (ds := [_, _, _]) G3 hr ⟨psOf b, p.1, p.2, rfl, fun i => s2 _ _ i, s1, rfl⟩ (eva_cons (ev_to (ev_ix (d1 := b) (i := 1) rfl (ev_name 1 rfl) ev_int) eb) (eva_cons (ev_name 3 rfl) (eva_cons (ev_name 4 rfl) eva_nil)))) (ev_meth (ds := [_, _]) GD T.cM hr (fun B v => inM (fun w => lkM)) ⟨n, p.1, p.2, g, rfl, ⟨by have := prI_lt hp'; omega, (prI_lt hp').2⟩, rfl⟩ (ev_name 0 rfl) (eva_cons (ev_name 3 rfl) (eva_cons (ev_name 4 rfl) eva_nil)))) rfl (fun _ => ex_one (es_ret ev_bl)) rfl ⟨rfl, rfl, rfl, trivial⟩⟩) (ex_one (es_ret ev_bl))) ⟨?_, rfl⟩
          rw [hH, hp]; rfl
      | false =>
        have hH : holdsD n g (.tup [h, b]) = (eqS "functional" h && (areQs (npr n) b && funOK n g (qsOf b))) := if_neg (by rw [hc]; decide)
        cases hf : eqS "functional" h with
        | false => exact bodyI (ex_skip (EvW.t (evw_orF (evt_to (evt_not (evt_val (ev_isTup T rfl (ev_name 1 rfl)))) rfl) (evw_or1 (evt_to (evt_ne rfl (ev_len T.len rfl (ev_name 1 rfl)) ev_int) rfl)))) <| ex_cons (es_set 2 (ev_mn T (ev_name 0 rfl)) rfl hN) <| ex_skip (evt_to (evt_eqS T GE hr (fun q => ⟨q, .str _, rfl, rfl, rfl⟩) (D.pl.noM hh) (ev_ix (d1 := h) (i := 0) rfl (ev_name 1 rfl) ev_int)) hc) <| ex_cons (es_set 5 (ev_to (ev_call (ds := [_]) G2 hr ⟨n, rfl, hn.2, rfl⟩ (eva_cons (ev_name 2 rfl) eva_nil)) (congrArg D.lst prL_prI)) rfl hN) <| ex_take (EvW.t (evw_orT (evt_to (evt_neS T Y GE hr (fun q => ⟨q, .str _, rfl, rfl, rfl⟩) (D.pl.noM hh) (ev_ix (d1 := h) (i := 0) rfl (ev_name 1 rfl) ev_int)) (by rw [hf]; rfl)))) (ex_one (es_ret ev_bl))) ⟨by rw [hH, hf]; rfl, rfl⟩
        | true =>
          cases hq : areQs (npr n) b with
          | false => exact bodyI (ex_skip (EvW.t (evw_orF (evt_to (evt_not (evt_val (ev_isTup T rfl (ev_name 1 rfl)))) rfl) (evw_or1 (evt_to (evt_ne rfl (ev_len T.len rfl (ev_name 1 rfl)) ev_int) rfl)))) <| ex_cons (es_set 2 (ev_mn T (ev_name 0 rfl)) rfl hN) <| ex_skip (evt_to (evt_eqS T GE hr (fun q => ⟨q, .str _, rfl, rfl, rfl⟩) (D.pl.noM hh) (ev_ix (d1 := h) (i := 0) rfl (ev_name 1 rfl) ev_int)) hc) <| ex_cons (es_set 5 (ev_to (ev_call (ds := [_]) G2 hr ⟨n, rfl, hn.2, rfl⟩ (eva_cons (ev_name 2 rfl) eva_nil)) (congrArg D.lst prL_prI)) rfl hN) <| ex_take (EvW.t (evw_orF (evt_to (evt_neS T Y GE hr (fun q => ⟨q, .str _, rfl, rfl, rfl⟩) (D.pl.noM hh) (ev_ix (d1 := h) (i := 0) rfl (ev_name 1 rfl) ev_int)) (by rw [hf]; rfl)) (evw_or1 (evt_to (evt_not (evt_val (ev_call (ds := [_, _]) G4 hr ⟨b, npr n, rfl, hb, rfl⟩ (eva_cons (ev_ix (d1 := b) (i := 1) rfl (ev_name 1 rfl) ev_int) (eva_cons (ev_to (ev_len T.len rfl (ev_name 5 rfl)) (by rw [List.length_map]; rfl)) eva_nil))))) (by rw [hq]; rfl))))) (ex_one (es_ret ev_bl))) ⟨by rw [hH, hf, hq]; rfl, rfl⟩
          | true =>
            obtain ⟨eb, ebl⟩ := nums_qs hq
            obtain ⟨s1, s2, s3, s4⟩ := hB.f h b rfl hq
            have hBg := hB.g
            generalize hv : qsOf b = v at eb ebl s1 s2 s3 s4
            have ixv : ∀ k, k < npr n → (v.map D.rat)[k]? = some (.rat (v.getD k 0)) := fun k hk => by rw [List.getElem?_map, getD_at (z := 0) (by omega)]; rfl
            have smv : ∀ k, k < npr n → Sm (v.getD k 0) := fun k hk => s1 _ (getD_mem (by omega))
            refine bodyI (ex_skip (EvW.t (evw_orF (evt_to (evt_not (evt_val (ev_isTup T rfl (ev_name 1 rfl)))) rfl) (evw_or1 (evt_to (evt_ne rfl (ev_len T.len rfl (ev_name 1 rfl)) ev_int) rfl)))) <| ex_cons (es_set 2 (ev_mn T (ev_name 0 rfl)) rfl hN) <| ex_skip (evt_to (evt_eqS T GE hr (fun q => ⟨q, .str _, rfl, rfl, rfl⟩) (D.pl.noM hh) (ev_ix (d1 := h) (i := 0) rfl (ev_name 1 rfl) ev_int)) hc) <| ex_cons (es_set 5 (ev_to (ev_call (ds := [_]) G2 hr ⟨n, rfl, hn.2, rfl⟩ (eva_cons (ev_name 2 rfl) eva_nil)) (congrArg D.lst prL_prI)) rfl hN) <| ex_skip (EvW.t (evw_orF (evt_to (evt_neS T Y GE hr (fun q => ⟨q, .str _, rfl, rfl, rfl⟩) (D.pl.noM hh) (ev_ix (d1 := h) (i := 0) rfl (ev_name 1 rfl) ev_int)) (by rw [hf]; rfl)) (evw_or1 (evt_to (evt_not (evt_val (ev_call (ds := [_, _]) G4 hr ⟨b, npr n, rfl, hb, rfl⟩ (eva_cons (ev_ix (d1 := b) (i := 1) rfl (ev_name 1 rfl) ev_int) (eva_cons (ev_to (ev_len T.len rfl (ev_name 5 rfl)) (by rw [List.length_map]; rfl)) eva_nil))))) (by rw [hq]; rfl))))) <| ex_cons (es_set 6 (ev_to (ev_ix (d1 := b) (i := 1) rfl (ev_name 1 rfl) ev_int) eb) rfl hN) <| ex_ifnxR (C1 := ⟨none, [sd (.met n (qT n g)), sd (.tup [h, b]), sd (.int n), none, none, sd (.lst ((prI n).map prD)), sd (.tup (v.map D.rat)), none, none, none]⟩) (o := .rt (.im (.bl (decide (0 < (sumG n v g (npr n)).num)))) none) (m := .im (.bl false)) (S' := none) (b := ((splS n).all fun s => decide ((sumF n v s (npr n)).num ≤ 0)) = true) (es_allL (bs := splS n) (inj := tI) (fun s => decide ((sumF n v s (npr n)).num ≤ 0)) PassesOwn.never (it_list (ev_call (ds := [_]) G5 hr ⟨n, rfl, hn, rfl⟩ (eva_cons (ev_name 2 rfl) eva_nil))) fun s hs => ⟨_, _, tg_name 7 hN, ?_⟩) <| ?_) ?_
            · exact ex_cons (es_set 8 (ev_make (ds := [_]) GK hr ⟨0, 1, rfl, by decide, Bd.sm (by decide), Bd.sm (by decide), rfl⟩ (eva_cons ev_int eva_nil)) rfl hN) <| ex_cons (es_loop (n := npr n) (g := fun i => .int (i : Int)) (G := fun a : Rat => ⟨none, [sd (.met n (qT n g)), sd (.tup [h, b]), sd (.int n), none, none, sd (.lst ((prI n).map prD)), sd (.tup (v.map D.rat)), sd (tI s), sd (.rat a), none]⟩) (f := fun k a => if part s (pr n k).1 (pr n k).2 = true then a + v.getD k 0 else a) (P := fun i a => a = sumF n v s i) (a0 := 0) rfl PassesOwn.never (it_rg T (ev_to (ev_len T.len rfl (ev_name 5 rfl)) (by rw [List.length_map]; rfl)) (by omega)) fun k a hk ha => ⟨turnI (tg_name 9 hN) (ex_one (es_if (o := .nx ⟨none, [sd (.met n (qT n g)), sd (.tup [h, b]), sd (.int n), none, none, sd (.lst ((prI n).map prD)), sd (.tup (v.map D.rat)), sd (tI s), sd (.rat (if part s (pr n k).1 (pr n k).2 = true then a + v.getD k 0 else a)), sd (.int k)]⟩) (t := part s (pr n k).1 (pr n k).2) (evt_val (ev_call (ds := [_, _, _]) G6 hr ⟨s, (pr n k).1, (pr n k).2, rfl, rfl⟩ (eva_cons (ev_name 7 rfl) (eva_cons (ev_ix (d1 := .int ((pr n k).1 : Int)) (i := 0) rfl (ev_ix (ix_lst0 (l := (prI n).map prD) (hpr k hk)) (ev_name 5 rfl) (ev_name 9 rfl)) ev_int) (eva_cons (ev_ix (d1 := .int ((pr n k).2 : Int)) (i := 1) rfl (ev_ix (ix_lst0 (l := (prI n).map prD) (hpr k hk)) (ev_name 5 rfl) (ev_name 9 rfl)) ev_int) eva_nil))))) (fun q => by
                rw [if_pos q]
                exact ex_eq (ex_one (es_set 8 (ev_dun T GA rfl hr ⟨_, _, rfl, by rw [ha]; exact s2 s hs k (by omega), smv k hk, rfl⟩ (ev_name 8 rfl) (ev_ix (ix_tup0 (ixv k hk)) (ev_name 6 rfl) (ev_name 9 rfl))) rfl hN))) fun q => by
                rw [q, if_neg Bool.false_ne_true]; exact ex_nil)) rfl ⟨rfl, rfl, rfl, rfl, rfl, rfl, rfl, trivial⟩, by rw [ha]; rfl⟩) <| ex_unless (evt_icmp .gt (ev_num T (ev_name 8 rfl)) ev_int) (gt_neg _) (fun _ => ex_one (es_ret ev_bl)) rfl ⟨rfl, rfl, rfl, rfl, rfl, trivial⟩
            · exact ex_cons (es_set 8 (ev_make (ds := [_]) GK hr ⟨0, 1, rfl, by decide, Bd.sm (by decide), Bd.sm (by decide), rfl⟩ (eva_cons ev_int eva_nil)) rfl hN) <| ex_cons (es_loop (n := npr n) (g := fun i => .int (i : Int)) (G := fun a : Rat => ⟨none, [sd (.met n (qT n g)), sd (.tup [h, b]), sd (.int n), none, none, sd (.lst ((prI n).map prD)), sd (.tup (v.map D.rat)), none, sd (.rat a), none]⟩) (f := fun k a => a + v.getD k 0 * g (pr n k).1 (pr n k).2) (P := fun i a => a = sumG n v g i) (a0 := 0) rfl PassesOwn.never (it_rg T (ev_to (ev_len T.len rfl (ev_name 5 rfl)) (by rw [List.length_map]; rfl)) (by omega)) fun k a hk ha => ⟨turnI (tg_name 9 hN) (ex_one (es_set 8 (ev_dun T GA rfl hr ⟨_, _, rfl, by rw [ha]; exact s3 k (by omega), s4 k hk, rfl⟩ (ev_name 8 rfl) (ev_dun T GX rfl hr ⟨_, _, rfl, smv k hk, hBg _ _ (by have := pr_lt hk; omega) (pr_lt hk).2, rfl⟩ (ev_ix (ix_tup0 (ixv k hk)) (ev_name 6 rfl) (ev_name 9 rfl)) (ev_meth (ds := [_, _]) GD T.cM hr (fun B v => inM (fun w => lkM)) ⟨n, _, _, g, rfl, ⟨by have := pr_lt hk; omega, (pr_lt hk).2⟩, rfl⟩ (ev_name 0 rfl) (eva_cons (ev_ix (d1 := .int ((pr n k).1 : Int)) (i := 0) rfl (ev_ix (ix_lst0 (l := (prI n).map prD) (hpr k hk)) (ev_name 5 rfl) (ev_name 9 rfl)) ev_int) (eva_cons (ev_ix (d1 := .int ((pr n k).2 : Int)) (i := 1) rfl (ev_ix (ix_lst0 (l := (prI n).map prD) (hpr k hk)) (ev_name 5 rfl) (ev_name 9 rfl)) ev_int) eva_nil))))) rfl hN)) rfl ⟨rfl, rfl, rfl, rfl, rfl, rfl, trivial⟩, by rw [ha]; rfl⟩) <| ex_one (es_ret (ev_icmp .gt (ev_num T (ev_name 8 rfl)) ev_int))
            · refine Fin.ite (fun q => ⟨?_, rfl⟩) fun q => ⟨?_, rfl⟩
              · rw [hH, hf, hq, hv]
                show D.bl (decide (0 < (sumG n v g (npr n)).num)) = D.bl (((splS n).all fun s => decide ((sumF n v s (npr n)).num ≤ 0)) && _)
                rw [q]; rfl
              · rw [hH, hf, hq, hv]
                rw [Bool.not_eq_true] at q
                show D.bl false = D.bl (((splS n).all fun s => decide ((sumF n v s (npr n)).num ≤ 0)) && _)
                rw [q]; rfl
    · exact bodyI (ex_take (EvW.t (evw_orF (evt_to (evt_not (evt_val (ev_isTup T rfl (ev_name 1 rfl)))) rfl) (evw_or1 (evt_to (evt_ne rfl (ev_len T.len rfl (ev_name 1 rfl)) ev_int) (by rw [decide_eq_false (by omega)]; rfl))))) (ex_one (es_ret ev_bl))) ⟨by rw [holdsD_len h2]; rfl, rfl⟩
end
end K48

namespace K48
open PySem PySem.Spec PyProof.Rows L2

/-- a metric with few bits -/
structure MetQ (n : Nat) (g : Nat → Nat → Rat) : Prop where
  z : ∀ x, x < n → g x x = 0
  s : ∀ x y, x < n → y < n → g x y = g y x
  t : ∀ x y z, x < n → y < n → z < n → 0 ≤ g x y + g y z - g x z
  p : ∀ x y, y < x → x < n → 0 < g x y
  m : ∀ x y, x < n → y < n → Sm (g x y)
  a : ∀ x y z, x < n → y < n → z < n → Sm (g x y + g y z)
theorem sgn_nn {q : Rat} (h : 0 ≤ q) : ¬ q.num.sign < 0 := by
  have h1 := Rat.num_nonneg.mpr h
  intro z
  rw [Int.sign_neg_iff] at z
  omega
theorem num_ps {q : Rat} (h : 0 < q) : 0 < q.num := by
  have h1 : 0 ≤ q.num := Rat.num_nonneg.mpr (by grind)
  have h2 : q.num ≠ 0 := fun z => by
    have := Rat.num_eq_zero.mp z
    grind
  omega
theorem sgn_ps {q : Rat} (h : 0 < q) : ¬ q.num.sign ≤ 0 := by
  have h1 := num_ps h
  rw [Int.sign_eq_one_of_pos h1]; decide
abbrev RIsZ (ds : List D) (r : D) : Prop := ∃ p, ds = [.rat p] ∧ r = .bl (decide (p.num = 0))
abbrev RSign (ds : List D) (r : D) : Prop := ∃ p, ds = [.rat p] ∧ r = .int p.num.sign
abbrev RTaken (ds : List D) (r : D) : Prop := ∃ (n : Nat) (g : Nat → Nat → Rat), ds = [qT n g] ∧ (1 ≤ n ∧ n ≤ 8) ∧ r = qT n g
abbrev RKeep (ds : List D) (r : D) : Prop := ∃ (n : Nat) (g : Nat → Nat → Rat), ds = [qT n g] ∧ n ≤ 8 ∧ MetQ n g ∧ r = .bl true
section
variable {W : Wd} (T : Fx W.K W.mg W.c) (Y : Fy W.K W.c)
include T Y
theorem fp_taken_rows {k} (GR : W.fp (k + 1) "is_rational" (fun ds r => ∃ q, ds = [.rat q] ∧ r = .bl true)) (GQ : W.fp (k + 1) "as_ratio" (fun ds r => ∃ q, ds = [.rat q] ∧ r = .rat q)) (h : DefW W "taken_rows" (top 27)) : W.fp (k + 2) "taken_rows" (fun ds r => ∃ (n : Nat) (g : Nat → Nat → Rat), ds = [qT n g] ∧ (1 ≤ n ∧ n ≤ 8) ∧ r = qT n g) := by
  obtain ⟨f, h, hm⟩ := h
  have hN : (["rows", "row", "item"] : List Str).Nodup := by decide +kernel
  refine fnP_mk (N := ["rows", "row", "item"]) (ps := ["rows"]) h hm ⟨rfl, rfl, rfl, hN, rfl, by decide +kernel, by decide +kernel⟩ (fun ds d h => by obtain ⟨_, _, rfl, _⟩ := h; rfl) ?_ (fun _ _ _ _ _ _ us hl => match us, hl with | [_], _ => rfl)
  rintro ds r ⟨n, g, rfl, hn, rfl⟩ f cdv A outer s H E st hr
  refine bodyI (ex_skip (EvW.t (evw_orF (evt_to (evt_not (evt_val (ev_isLT T (.inr rfl) rfl (ev_name 0 rfl)))) rfl) (evw_or1 (evt_to (evt_eq rfl (ev_len T.len rfl (ev_name 0 rfl)) ev_int) (by rw [tab_len]; exact decide_eq_false (by omega)))))) <| ex_cons (es_loop (n := n) (g := fun x => .tup (tab n fun y => .rat (g x y))) (G := fun _ : Unit => ⟨none, [sd (qT n g), none, none]⟩) (f := fun _ _ => ()) (P := fun _ _ => True) (a0 := ()) trivial PassesOwn.never (it_tup (ev_name 0 rfl)) fun x _ hx _ => ⟨turnI (tg_name 1 hN) (ex_skip (EvW.t (evw_orF (evt_to (evt_not (evt_val (ev_isLT T (.inr rfl) rfl (ev_name 1 rfl)))) rfl) (evw_or1 (evt_to (evt_ne rfl (ev_len T.len rfl (ev_name 1 rfl)) (ev_len T.len rfl (ev_name 0 rfl))) (by rw [tab_len, tab_len]; simp))))) <| ex_one (es_loop (n := n) (g := fun y => .rat (g x y)) (G := fun _ : Unit => ⟨none, [sd (qT n g), sd (.tup (tab n fun y => .rat (g x y))), none]⟩) (f := fun _ _ => ()) (P := fun _ _ => True) (a0 := ()) trivial PassesOwn.never (it_tup (ev_name 1 rfl)) fun y _ hy _ => ⟨turnI (tg_name 2 hN) (ex_skip (evt_to (evt_not (evt_val (ev_call (ds := [_]) GR hr ⟨g x y, rfl, rfl⟩ (eva_cons (ev_name 2 rfl) eva_nil)))) rfl) ex_nil) rfl ⟨rfl, rfl, trivial⟩, trivial⟩)) rfl ⟨rfl, trivial⟩, trivial⟩) <| ex_one (es_ret (ev_tupleOf T.tuple (.inl rfl) (Ev.frzL (EvL.ev (lc_map [("row", 1)] (fun x => .tup (tab n fun y => .rat (g x y))) hN (it_tup (ev_name 0 rfl)) (by omega) fun x hx => turn fun s0 H0 D0 cl fp => ⟨tg_name 1 hN, ev_tupleOf T.tuple (.inl rfl) (Ev.frzL (EvL.ev (lc_map [("item", 2)] (fun y => .rat (g x y)) hN (it_tup (ev_name 1 rfl)) (by omega) fun y hy => turn fun s1 H1 D1 cl1 fp1 => ⟨tg_name 2 hN, ev_call (ds := [_]) GQ hr ⟨g x y, rfl, rfl⟩ (eva_cons (ev_name 2 rfl) eva_nil)⟩)))⟩)))))) ⟨rfl, rfl⟩
theorem fp_keeps_triangles {k} (GE : W.fm k W.c.R "__eq__" REq) (GA : W.fm (k + 1) W.c.R "__add__" (ROp fun p q => p + q)) (GS : W.fm (k + 1) W.c.R "__sub__" (ROp fun p q => p - q)) (GZ : W.fm (k + 1) W.c.R "is_zero" RIsZ) (GG : W.fm (k + 1) W.c.R "sign" RSign) (h : DefW W "keeps_triangles" (top 28)) : W.fp (k + 2) "keeps_triangles" (fun ds r => ∃ (n : Nat) (g : Nat → Nat → Rat), ds = [qT n g] ∧ n ≤ 8 ∧ MetQ n g ∧ r = .bl true) := by
  obtain ⟨f, h, hm⟩ := h
  have hN : (["rows", "n", "x", "y", "z"] : List Str).Nodup := by decide +kernel
  refine fnP_mk (N := ["rows", "n", "x", "y", "z"]) (ps := ["rows"]) h hm ⟨rfl, rfl, rfl, hN, rfl, by decide +kernel, by decide +kernel⟩ (fun ds d h => by obtain ⟨_, _, rfl, _⟩ := h; rfl) ?_ (fun _ _ _ _ _ _ us hl => match us, hl with | [_], _ => rfl)
  rintro ds r ⟨n, g, rfl, hn, hM, rfl⟩ f cdv A outer s H E st hr
  refine bodyI (ex_cons (es_set 1 (ev_to (ev_len T.len rfl (ev_name 0 rfl)) (by rw [tab_len])) rfl hN) <| ex_cons (es_loop (n := n) (g := fun i => .int (i : Int)) (G := fun _ : Unit => ⟨none, [sd (qT n g), sd (.int n), none, none, none]⟩) (f := fun _ _ => ()) (P := fun _ _ => True) (a0 := ()) trivial PassesOwn.never (it_rg T (ev_name 1 rfl) (by omega)) fun x _ hx _ => ⟨turnI (tg_name 2 hN) (ex_skip (evt_to (evt_not (evt_val (ev_meth0 GZ T.cR hr (fun B v => inR lkR) ⟨g x x, rfl, rfl⟩ (ev_ix (ix_tup hx) (ev_ix (ix_tup hx) (ev_name 0 rfl) (ev_name 2 rfl)) (ev_name 2 rfl))))) (by rw [hM.z x hx]; rfl)) <| ex_one (es_loop (n := n) (g := fun i => .int (i : Int)) (G := fun _ : Unit => ⟨none, [sd (qT n g), sd (.int n), sd (.int x), none, none]⟩) (f := fun _ _ => ()) (P := fun _ _ => True) (a0 := ()) trivial PassesOwn.never (it_rg T (ev_name 1 rfl) (by omega)) fun y _ hy _ => ⟨turnI (tg_name 3 hN) (ex_skip (evt_to (evt_neQ T Y GE hr ⟨_, _, rfl, rfl, rfl⟩ (ev_ix (ix_tup hy) (ev_ix (ix_tup hx) (ev_name 0 rfl) (ev_name 2 rfl)) (ev_name 3 rfl)) (ev_ix (ix_tup hx) (ev_ix (ix_tup hy) (ev_name 0 rfl) (ev_name 3 rfl)) (ev_name 2 rfl))) (by rw [hM.s x y hx hy]; simp)) <| ex_one (es_loop (n := n) (g := fun i => .int (i : Int)) (G := fun _ : Unit => ⟨none, [sd (qT n g), sd (.int n), sd (.int x), sd (.int y), none]⟩) (f := fun _ _ => ()) (P := fun _ _ => True) (a0 := ()) trivial PassesOwn.never (it_rg T (ev_name 1 rfl) (by omega)) fun z _ hz _ => ⟨turnI (tg_name 4 hN) (ex_skip (evt_to (evt_icmp .lt (ev_meth0 GG T.cR hr (fun B v => inR lkR) ⟨g x y + g y z - g x z, rfl, rfl⟩ (ev_dun T GS rfl hr ⟨_, _, rfl, hM.a x y z hx hy hz, hM.m x z hx hz, rfl⟩ (ev_dun T GA rfl hr ⟨_, _, rfl, hM.m x y hx hy, hM.m y z hy hz, rfl⟩ (ev_ix (ix_tup hy) (ev_ix (ix_tup hx) (ev_name 0 rfl) (ev_name 2 rfl)) (ev_name 3 rfl)) (ev_ix (ix_tup hz) (ev_ix (ix_tup hy) (ev_name 0 rfl) (ev_name 3 rfl)) (ev_name 4 rfl))) (ev_ix (ix_tup hz) (ev_ix (ix_tup hx) (ev_name 0 rfl) (ev_name 2 rfl)) (ev_name 4 rfl)))) ev_int) (decide_eq_false (sgn_nn (hM.t x y z hx hy hz)))) ex_nil) rfl ⟨rfl, rfl, rfl, rfl, trivial⟩, trivial⟩)) rfl ⟨rfl, rfl, rfl, trivial⟩, trivial⟩)) rfl ⟨rfl, rfl, trivial⟩, trivial⟩) <| ex_one (es_ret ev_bl)) ⟨rfl, rfl⟩
theorem fp_is_apart {k} (GG : W.fm (k + 1) W.c.R "sign" RSign) (h : DefW W "is_apart" (top 29)) : W.fp (k + 2) "is_apart" (fun ds r => ∃ (n : Nat) (g : Nat → Nat → Rat), ds = [qT n g] ∧ n ≤ 8 ∧ MetQ n g ∧ r = .bl true) := by
  obtain ⟨f, h, hm⟩ := h
  have hN : (["rows", "x", "y"] : List Str).Nodup := by decide +kernel
  refine fnP_mk (N := ["rows", "x", "y"]) (ps := ["rows"]) h hm ⟨rfl, rfl, rfl, hN, rfl, by decide +kernel, by decide +kernel⟩ (fun ds d h => by obtain ⟨_, _, rfl, _⟩ := h; rfl) ?_ (fun _ _ _ _ _ _ us hl => match us, hl with | [_], _ => rfl)
  rintro ds r ⟨n, g, rfl, hn, hM, rfl⟩ f cdv A outer s H E st hr
  refine bodyI (ex_cons (es_loop (n := n) (g := fun i => .int (i : Int)) (G := fun _ : Unit => ⟨none, [sd (qT n g), none, none]⟩) (f := fun _ _ => ()) (P := fun _ _ => True) (a0 := ()) trivial PassesOwn.never (it_rg T (ev_to (ev_len T.len rfl (ev_name 0 rfl)) (by rw [tab_len])) (by omega)) fun x _ hx _ => ⟨turnI (tg_name 1 hN) (ex_one (es_loop (n := x) (g := fun i => .int (i : Int)) (G := fun _ : Unit => ⟨none, [sd (qT n g), sd (.int x), none]⟩) (f := fun _ _ => ()) (P := fun _ _ => True) (a0 := ()) trivial PassesOwn.never (it_rg T (ev_name 1 rfl) (by omega)) fun y _ hy _ => ⟨turnI (tg_name 2 hN) (ex_skip (evt_to (evt_icmp .le (ev_meth0 GG T.cR hr (fun B v => inR lkR) ⟨g x y, rfl, rfl⟩ (ev_ix (ix_tup (show y < n by omega)) (ev_ix (ix_tup hx) (ev_name 0 rfl) (ev_name 1 rfl)) (ev_name 2 rfl))) ev_int) (decide_eq_false (sgn_ps (hM.p x y hy hx)))) ex_nil) rfl ⟨rfl, rfl, trivial⟩, trivial⟩)) rfl ⟨rfl, trivial⟩, trivial⟩) <| ex_one (es_ret ev_bl)) ⟨rfl, rfl⟩
abbrev RMet (ds : List D) (r : D) : Prop := ∃ (n : Nat) (g : Nat → Nat → Rat), ds = [qT n g] ∧ (1 ≤ n ∧ n ≤ 8) ∧ MetQ n g ∧ r = .met n (qT n g)
theorem body_met {k} (GM : ∃ t, W.mg "MOST" = some (.int 8 t)) (GT : W.fp (k + 1) "taken_rows" RTaken) (GT2 : W.fp (k + 1) "keeps_triangles" RKeep) (GT3 : W.fp (k + 1) "is_apart" RKeep) : ∀ ds r, RMet ds r → BodyK W (k + 1) W.c.M ["self", "rows", "own"] "Metric.__init__" (meth 30 0) ds r := by
  rintro ds r ⟨n, g, rfl, hn, hM, rfl⟩ f cdv A outer s H E st dx hr
  obtain ⟨t8, GM⟩ := GM
  have hN : (["self", "rows", "own"] : List Str).Nodup := by decide +kernel
  refine exk_cons (es_set 2 (ev_call (ds := [_]) GT hr ⟨n, g, rfl, hn, rfl⟩ (eva_cons (ev_name 1 rfl) eva_nil)) rfl hN) <| exk_cons (C1 := ⟨none, [some .stt, sd (qT n g), sd (qT n g)]⟩) (es_if (t := false) (evt_to (evt_icmp .gt (ev_len T.len rfl (ev_name 2 rfl)) (ev_glob (d := .int 8) (v := .int 8) rfl GM ⟨t8, rfl⟩ fun _ => rfl)) (by rw [tab_len]; exact decide_eq_false (by omega))) (fun h => nomatch h) fun _ => ex_nil) <| exk_cons (C1 := ⟨none, [some .stt, sd (qT n g), sd (qT n g)]⟩) (es_if (t := false) (EvW.t (evw_orF (evt_to (evt_not (evt_val (ev_call (ds := [_]) GT2 hr ⟨n, g, rfl, hn.2, hM, rfl⟩ (eva_cons (ev_name 2 rfl) eva_nil)))) rfl) (evw_or1 (evt_to (evt_not (evt_val (ev_call (ds := [_]) GT3 hr ⟨n, g, rfl, hn.2, hM, rfl⟩ (eva_cons (ev_name 2 rfl) eva_nil)))) rfl)))) (fun h => nomatch h) fun _ => ex_nil) <| exk_end T.cM T.nMn T.nMr rfl (Or.inl rfl) rfl rfl (ev_to (ev_len T.len rfl (ev_name 2 rfl)) (by rw [tab_len])) (ev_name 2 rfl) rfl rfl rfl rfl kRn ?_ rfl rfl
  intro B v1 v2 r1 r2 hB
  refine ⟨st, dx, v2, rfl, ?_, r2⟩
  rw [hB, show v1 = _ from r1]
  rfl
end
end K48

namespace K48
open PySem PySem.Spec PyProof.Rows L2

theorem bq_den (b : Bool) : (bq b).den = 1 := by cases b <;> rfl
theorem bq_num (b : Bool) : (bq b).num = if b = true then 1 else 0 := by cases b <;> rfl
/-- m rows of w ints -/
abbrev iT (m w : Nat) (T : Nat → Nat → Int) : D := .lst (tab m fun i => .lst (tab w fun j => .int (T i j)))
abbrev iR (w : Nat) (r : Nat → Int) : D := .lst (tab w fun j => .int (r j))
theorem ix_last {n : Nat} {g : Nat → D} : ixD (.lst (tab (n + 1) g)) (-1) = some (g n) := by
  show atI (tab (n + 1) g) (-1) = _
  unfold atI
  have e : ixN (n + 1) (-1) = some n := by
    unfold ixN
    rw [if_neg (by decide)]
    split
    · congr 1; omega
    · omega
  rw [tab_len, e]
  exact tab_get (by omega)
theorem cut_init {α : Type} {n : Nat} {g : Nat → α} : cutD (tab (n + 1) g) none (some (-1)) = tab n g := by
  have hl : (tab (n + 1) g).length = n + 1 := tab_len
  have e : HT.sIx (n + 1) (n + 1) (some (-1)) = n := by
    show (if (-1 : Int) < 0 then ((-1 : Int) + ((n + 1 : Nat) : Int)).toNat else min (-1 : Int).toNat (n + 1)) = n
    rw [if_pos (by decide)]; omega
  have e0 : HT.sIx (n + 1) 0 none = 0 := rfl
  unfold cutD
  rw [hl, e, e0, List.drop_zero, Nat.sub_zero, tab_succ]
  exact List.take_left' tab_len
theorem cut_last {α : Type} {n : Nat} {g : Nat → α} : cutD (tab (n + 1) g) (some (-1)) none = [g n] := by
  have hl : (tab (n + 1) g).length = n + 1 := tab_len
  have e : HT.sIx (n + 1) 0 (some (-1)) = n := by
    show (if (-1 : Int) < 0 then ((-1 : Int) + ((n + 1 : Nat) : Int)).toNat else min (-1 : Int).toNat (n + 1)) = n
    rw [if_pos (by decide)]; omega
  have e0 : HT.sIx (n + 1) (n + 1) none = n + 1 := rfl
  have ed : (tab n g ++ [g n]).drop n = [g n] := List.drop_left' tab_len
  unfold cutD
  rw [hl, e, e0, tab_succ, ed]
  exact List.take_of_length_le (by rw [List.length_singleton]; omega)
theorem tab_app {α : Type} {n m : Nat} {f g : Nat → α} : tab n f ++ tab m g = tab (n + m) fun i => if i < n then f i else g (i - n) := by
  refine tab_ext (by rw [List.length_append, tab_len, tab_len]) fun i hi => ?_
  by_cases h : i < n
  · rw [List.getElem?_append_left (by rw [tab_len]; exact h), tab_get h, if_pos h]
  · rw [List.getElem?_append_right (by rw [tab_len]; omega), tab_len, tab_get (by omega), if_neg h]
theorem tab_one {α : Type} (v : α) : [v] = tab 1 fun _ => v := rfl
/-- the table to begin with -/
def T0 (N m : Nat) (A : Nat → Nat → Bool) (b : Nat → Rat) (i j : Nat) : Int :=
  if j < N then (if A i j = true then ((b i).den : Int) else 0) else if j < N + m then (if j - N = i then 1 else 0) else (b i).num
def sumT (m : Nat) (T : Nat → Nat → Int) (j : Nat) : Int := (tab m fun i => T i j).sum
def P0 (N m : Nat) (T : Nat → Nat → Int) (j : Nat) : Int := (if (decide (N ≤ j) && decide (j < N + m)) = true then 1 else 0) - sumT m T j
/-- the row that leaves -/
def leaS (last : Nat) (T : Nat → Nat → Int) (bas : Nat → Nat) (q i : Nat) (best : Option Nat) : Option Nat :=
  if 0 < T i q then (if T i last * T (best.getD i) q < T (best.getD i) last * T i q ∨ (T i last * T (best.getD i) q = T (best.getD i) last * T i q ∧ bas i < bas (best.getD i)) then some i else some (best.getD i)) else best
def lea (m last : Nat) (T : Nat → Nat → Int) (bas : Nat → Nat) (q : Nat) : Option Nat := lp (leaS last T bas q) m none
def oI : Option Nat → Int
  | none => -1
  | some b => (b : Int)
theorem lea_lt {m last : Nat} {T : Nat → Nat → Int} {bas : Nat → Nat} {q : Nat} : ∀ b, lea m last T bas q = some b → b < m := lp_inv (fun i (o : Option Nat) => ∀ b, o = some b → b < i) (fun b h => by cases h) fun i o hi h b hb => by
  unfold leaS at hb
  have hd : o.getD i < i + 1 := by
    cases o with
    | none => exact Nat.lt_succ_self i
    | some x => have := h x rfl; show x < i + 1; omega
  split at hb
  · split at hb
    · cases hb; omega
    · cases hb; omega
  · have := h b hb; omega
abbrev RFac (ds : List D) (r : D) : Prop := ∃ (bs : List Bool) (q : Rat), ds = [.lst (bs.map (fun b => .rat (bq b)) ++ [.rat q])] ∧ 0 ≤ q.num ∧ q.den < 2 ^ 63 ∧ r = .int (q.den : Int)
abbrev RStart (ds : List D) (r : D) : Prop := ∃ (N m : Nat) (A : Nat → Nat → Bool) (b : Nat → Rat), ds = [.lst (tab N fun j => .tup (tab m fun i => .rat (bq (A i j)))), .tup (tab m fun i => .rat (b i))] ∧ (N ≤ 500 ∧ m ≤ 100) ∧ (∀ i, i < m → 0 ≤ (b i).num ∧ (b i).den < 2 ^ 63 ∧ Bd (b i).num) ∧
  r = .tup [iR m fun i => ((b i).den : Int), iT m (N + m + 1) (T0 N m A b)]
abbrev RCosts (ds : List D) (r : D) : Prop := ∃ (N m : Nat) (T : Nat → Nat → Int), ds = [iT m (N + m + 1) T, .int N] ∧ (N ≤ 500 ∧ m ≤ 100) ∧ r = iR (N + m + 1) (P0 N m T)
abbrev RLea (ds : List D) (r : D) : Prop := ∃ (m last : Nat) (T : Nat → Nat → Int) (bas : Nat → Nat) (q : Nat), ds = [iT m (last + 1) T, iR m fun i => (bas i : Int), .int q] ∧ m ≤ 100 ∧ q < last + 1 ∧ (∀ i j, i < m → j < last + 1 → Bd (T i j)) ∧ r = .int (oI (lea m last T bas q))
abbrev RSub (ds : List D) (r : D) : Prop := ∃ (w : Nat) (f h : Nat → Int) (q : Nat) (sc : Int), ds = [iR w f, iR w h, .int q, .int sc] ∧ w ≤ 1000 ∧ q < w ∧ 0 < sc ∧ Bd sc ∧ (∀ j, j < w → Bd (f j) ∧ Bd (h j)) ∧ r = iR w fun j => (f j * h q - f q * h j) / sc
theorem lcm1 {a : Nat} : Nat.lcm 1 a = a := by simp [Nat.lcm]
theorem iter_to {X : Cx} {c : Cl} {st : Addr} {tg iter : Expr} {C C1 : Cfg} {xs ys : List D} (h : Iter X c st tg iter C xs C1) (e : xs = ys) : Iter X c st tg iter C ys C1 := e ▸ h
section
variable {W : Wd} (T : Fx W.K W.mg W.c)
include T
theorem fp_row_factor {k} (GG : W.fm (k + 1) W.c.R "sign" RSign) (h : DefW W "row_factor" (top 39)) : W.fp (k + 2) "row_factor" (fun ds r => ∃ (bs : List Bool) (q : Rat), ds = [.lst (bs.map (fun b => .rat (bq b)) ++ [.rat q])] ∧ 0 ≤ q.num ∧ q.den < 2 ^ 63 ∧ r = .int (q.den : Int)) := by
  obtain ⟨f, h, hm⟩ := h
  have hN : (["items", "found", "item"] : List Str).Nodup := by decide +kernel
  refine fnP_mk (N := ["items", "found", "item"]) (ps := ["items"]) h hm ⟨rfl, rfl, rfl, hN, rfl, by decide +kernel, by decide +kernel⟩ (fun ds d h => by obtain ⟨_, _, rfl, _⟩ := h; rfl) ?_ (fun _ _ _ _ _ _ us hl => match us, hl with | [_], _ => rfl)
  rintro ds r ⟨bs, q, rfl, hq, hd, rfl⟩ f cdv A outer s H E st hr
  have el : (bs.map (fun b => D.rat (bq b)) ++ [D.rat q]) = (bs.map bq ++ [q]).map D.rat := by rw [List.map_append, List.map_map]; rfl
  have fin : ∀ l : List Bool, (l.map bq).foldl (fun a p => Nat.lcm a p.den) 1 = 1 := by
    intro l
    induction l with
    | nil => rfl
    | cons b l ih => rw [List.map_cons, List.foldl_cons, bq_den]; exact ih
  have fl : (bs.map bq ++ [q]).foldl (fun a p => Nat.lcm a p.den) 1 = q.den := by
    rw [List.foldl_append, fin, List.foldl_cons, List.foldl_nil, lcm1]
  have last : ixD (.lst ((bs.map bq ++ [q]).map D.rat)) (-1) = some (.rat q) := by
    show atI _ (-1) = _
    unfold atI
    have e : ixN ((bs.map bq ++ [q]).map D.rat).length (-1) = some bs.length := by
      unfold ixN
      rw [if_neg (by decide)]
      simp only [List.length_map, List.length_append, List.length_singleton]
      split
      · congr 1; omega
      · omega
    rw [e]
    simp
  rw [el]
  refine bodyI (ex_cons (es_set 1 ev_int rfl hN) <| ex_cons (es_fold (bs := bs.map bq ++ [q]) (inj := D.rat) (G := fun a : Nat => ⟨none, [sd (.lst ((bs.map bq ++ [q]).map D.rat)), sd (.int a), none]⟩) (f := fun a p => Nat.lcm a p.den) (P := fun i a => i ≤ bs.length → a = 1) (a0 := 1) (fun _ => rfl) PassesOwn.never (it_list (ev_name 0 rfl)) fun i p a hi ha => ⟨turnI (tg_name 2 hN) (ex_one (es_set 1 (ev_to (ev_lcm T.lcm ?_ (eva_cons (ev_name 1 rfl) (eva_cons (ev_den T (ev_name 2 rfl)) eva_nil))) ?_) rfl hN)) rfl ⟨rfl, rfl, trivial⟩, ?_⟩) <| ex_one (es_ret (ev_if (t := false) (evt_to (evt_icmp .lt (ev_meth0 GG T.cR hr (fun B v => inR lkR) ⟨q, rfl, rfl⟩ (ev_ix last (ev_name 0 rfl) (ev_neg ev_int))) ev_int) (decide_eq_false ?_)) (fun h => nomatch h) fun _ => ev_name 1 rfl))) ⟨?_, rfl⟩
  · have hl : i ≤ bs.length := by have := (List.getElem?_eq_some_iff.mp hi).1; simp at this; omega
    have h1 : p.den < 2 ^ 64 := by
      have hm := List.mem_of_getElem? hi
      rcases List.mem_append.mp hm with hm | hm
      · obtain ⟨b, _, rfl⟩ := List.mem_map.mp hm
        rw [bq_den]; decide
      · rw [List.mem_singleton.mp hm]; omega
    rw [ha hl]
    exact ⟨by decide, by omega⟩
  · show D.int _ = D.int _
    congr 1
    have e1 : ((a : Int)).natAbs = a := by omega
    have e2 : ((p.den : Int)).natAbs = p.den := by omega
    rw [lcm1, e1, e2]
  · intro hl
    have hm : (bs.map bq)[i]? = some p := by
      rw [List.getElem?_append_left (by rw [List.length_map]; omega)] at hi
      exact hi
    obtain ⟨b, _, rfl⟩ := List.mem_map.mp (List.mem_of_getElem? hm)
    rw [ha (by omega), bq_den]
    rfl
  · have : 0 ≤ q.num.sign := Int.sign_nonneg_iff.mpr hq
    omega
  · show D.int _ = D.int _
    rw [fl]
theorem fp_subtracted {k}  (h : DefW W "subtracted" (top 43)) : W.fp (k + 2) "subtracted" (fun ds r => ∃ (w : Nat) (f h : Nat → Int) (q : Nat) (sc : Int), ds = [iR w f, iR w h, .int q, .int sc] ∧ w ≤ 1000 ∧ q < w ∧ 0 < sc ∧ Bd sc ∧ (∀ j, j < w → Bd (f j) ∧ Bd (h j)) ∧ r = iR w fun j => (f j * h q - f q * h j) / sc) := by
  obtain ⟨f, h, hm⟩ := h
  have hN : (["row", "head", "at", "scale", "top", "factor", "x", "y"] : List Str).Nodup := by decide +kernel
  refine fnP_mk (N := ["row", "head", "at", "scale", "top", "factor", "x", "y"]) (ps := ["row", "head", "at", "scale"]) h hm ⟨rfl, rfl, rfl, hN, rfl, by decide +kernel, by decide +kernel⟩ (fun ds d h => by obtain ⟨_, _, _, _, _, rfl, _⟩ := h; rfl) ?_ (fun _ _ _ _ _ _ us hl => match us, hl with | [_, _, _, _], _ => rfl)
  rintro ds r ⟨w, p, h, q, sc, rfl, hw, hq, h0, hsc, hb, rfl⟩ f cdv A outer s H E st hr
  have ez : zipD (tab w fun j => .int (p j)) (tab w fun j => .int (h j)) = tab w fun j => .tup [.int (p j), .int (h j)] := by
    refine tab_ext (by rw [zipD_len, tab_len, tab_len, Nat.min_self]) fun i hi => ?_
    have hl : i < (zipD (tab w fun j => D.int (p j)) (tab w fun j => D.int (h j))).length := by rw [zipD_len, tab_len, tab_len, Nat.min_self]; exact hi
    obtain ⟨x, y, h1, h2, h3⟩ := zipD_get (List.getElem?_eq_getElem hl)
    rw [tab_get hi] at h1 h2
    cases h1; cases h2
    rw [List.getElem?_eq_getElem hl, h3]
  refine bodyI (ex_cons (es_set 4 (ev_ix (ix_lst hq) (ev_name 1 rfl) (ev_name 2 rfl)) rfl hN) <| ex_cons (es_set 5 (ev_ix (ix_lst hq) (ev_name 0 rfl) (ev_name 2 rfl)) rfl hN) <| ex_one (es_ret (Ev.frzL (EvL.ev (lc_map (n := w) (g := fun j => .tup [.int (p j), .int (h j)]) [("x", 6), ("y", 7)] (fun j => .int ((p j * h q - p q * h j) / sc)) hN (iter_to (it_zip (tup := false) T.zip (eva_cons (ev_name 0 rfl) (eva_cons (ev_name 1 rfl) eva_nil))) ez) (by omega) fun j hj => turn fun s0 H0 D0 cl fp => ⟨tg_tup (tgs_cons (tg_name 6 hN) (tgs_cons (tg_name 7 hN) tgs_nil)), ev_div (Bd.div h0 hsc) (ev_sub (ev_mul (Bd.mul (hb j hj).1 (hb q hq).2) (ev_name 6 rfl) (ev_name 4 rfl)) (ev_mul (Bd.mul (hb q hq).1 (hb j hj).2) (ev_name 5 rfl) (ev_name 7 rfl))) (ev_name 3 rfl)⟩))))) ⟨rfl, rfl⟩
end
end K48

namespace K48
open PySem PySem.Spec PyProof.Rows L2

theorem lp_tab2 {α : Type} {n : Nat} {w v : Nat → α} : lp (fun i (a : List α × List α) => (a.1 ++ [w i], a.2 ++ [v i])) n ([], []) = (tab n w, tab n v) := lp_inv (fun i (a : List α × List α) => a = (tab i w, tab i v)) rfl fun i a _ h => by rw [h, tab_succ, tab_succ]
def ow (N : Nat) (A : Nat → Nat → Bool) (b : Nat → Rat) (i j : Nat) : Int := if j < N then (if A i j = true then ((b i).den : Int) else 0) else (b i).num
theorem ow_eq {N : Nat} {A : Nat → Nat → Bool} {b : Nat → Rat} {i : Nat} : ((tab N (A i)).map bq ++ [b i]).map (fun q => D.int (q.num * (((b i).den : Int) / (q.den : Int)))) = tab (N + 1) fun j => .int (ow N A b i j) := by
  rw [List.map_append, List.map_map, tab_map, tab_succ]
  congr 1
  · refine tab_congr fun j hj => ?_
    show D.int ((bq (A i j)).num * (((b i).den : Int) / ((bq (A i j)).den : Int))) = D.int (ow N A b i j)
    rw [bq_den, bq_num]
    unfold ow
    rw [if_pos hj]
    congr 1
    cases A i j <;> simp
  · show [D.int ((b i).num * (((b i).den : Int) / ((b i).den : Int)))] = [D.int (ow N A b i N)]
    unfold ow
    rw [if_neg (Nat.lt_irrefl N), Int.ediv_self (den0 _), Int.mul_one]
theorem row_eq {N m : Nat} {A : Nat → Nat → Bool} {b : Nat → Rat} {i : Nat} : (tab N fun j => D.int (ow N A b i j)) ++ (tab m fun k => D.int (if decide ((k : Int) = (i : Int)) = true then 1 else 0)) ++ [D.int (ow N A b i N)] = tab (N + m + 1) fun j => .int (T0 N m A b i j) := by
  rw [tab_one, tab_app, tab_app]
  refine tab_congr fun j hj => ?_
  unfold T0 ow
  by_cases h1 : j < N
  · rw [if_pos (show j < N + m by omega), if_pos h1, if_pos h1, if_pos h1]
  · by_cases h2 : j < N + m
    · rw [if_pos h2, if_neg h1, if_neg h1, if_pos h2]
      congr 1
      by_cases e : j - N = i
      · rw [if_pos e, if_pos (by rw [decide_eq_true_eq]; omega)]
      · rw [if_neg e, if_neg (by rw [decide_eq_true_eq]; omega)]
    · rw [if_neg h2, if_neg h1, if_neg h2, if_neg (Nat.lt_irrefl N)]
theorem EvL.to {X : Cx} {c : Cl} {st : Addr} {e : Expr} {C C1 : Cfg} {m m' : Mu} (h : EvL X c st e C m C1) (q : m = m') : EvL X c st e C m' C1 := q ▸ h
section
variable {W : Wd} (T : Fx W.K W.mg W.c)
include T
theorem fp_starting {k} (GF : W.fp (k + 1) "row_factor" RFac) (h : DefW W "starting" (top 40)) : W.fp (k + 2) "starting" (fun ds r => ∃ (N m : Nat) (A : Nat → Nat → Bool) (b : Nat → Rat), ds = [.lst (tab N fun j => .tup (tab m fun i => .rat (bq (A i j)))), .tup (tab m fun i => .rat (b i))] ∧ (N ≤ 500 ∧ m ≤ 100) ∧ (∀ i, i < m → 0 ≤ (b i).num ∧ (b i).den < 2 ^ 63 ∧ Bd (b i).num) ∧ r = .tup [iR m fun i => ((b i).den : Int), iT m (N + m + 1) (T0 N m A b)]) := by
  obtain ⟨f, h, hm⟩ := h
  have hN : (["columns", "right", "factors", "rows", "i", "items", "column", "factor", "own", "item", "extra", "k"] : List Str).Nodup := by decide +kernel
  refine fnP_mk (N := ["columns", "right", "factors", "rows", "i", "items", "column", "factor", "own", "item", "extra", "k"]) (ps := ["columns", "right"]) h hm ⟨rfl, rfl, rfl, hN, rfl, by decide +kernel, by decide +kernel⟩ (fun ds d h => by obtain ⟨_, _, _, _, rfl, _⟩ := h; rfl) ?_ (fun _ _ _ _ _ _ us hl => match us, hl with | [_, _], _ => rfl)
  rintro ds r ⟨N, m, A, b, rfl, hs, hb, rfl⟩ f cdv Ar outer sh hp0 E st hr
  refine bodyI (ex_cons (es_set 2 (ev_lst (ms := []) eva_nil (by simp)) rfl hN) <| ex_cons (es_set 3 (ev_lst (ms := []) eva_nil (by simp)) rfl hN) <| ex_cons (es_loop (n := m) (g := fun i => .int (i : Int)) (G := fun a : List D × List D => ⟨none, [sd (.lst (tab N fun j => .tup (tab m fun i => .rat (bq (A i j))))), sd (.tup (tab m fun i => .rat (b i))), so a.1, so a.2, none, none, none, none, none, none, none, none]⟩) (f := fun i a => (a.1 ++ [.int ((b i).den : Int)], a.2 ++ [.lst (tab (N + m + 1) fun j => .int (T0 N m A b i j))])) (P := fun i a => a.1.length = i ∧ a.2.length = i) (a0 := ([], [])) ⟨rfl, rfl⟩ PassesOwn.never (it_rg T (ev_to (ev_len T.len rfl (ev_name 1 rfl)) (by rw [tab_len])) (by omega)) fun i a hi ha => ⟨turnI (tg_name 4 hN) (ex_cons (es_set 5 (ev_to (Ev.frzL (ev_catL ?_ (Ev.frzL (EvL.ev (lc_map [("column", 6)] (fun j => .rat (bq (A i j))) hN (it_list (ev_name 0 rfl)) (by omega) fun j hj => turn fun s0 H0 D0 cl fp => ⟨tg_name 6 hN, ev_ix (ix_tup hi) (ev_name 6 rfl) (ev_name 4 rfl)⟩))) (Ev.frzL (l := [.rat (b i)]) (ev_lst (ms := [.im (.rat (b i))]) (eva_cons (ev_ix (ix_tup hi) (ev_name 1 rfl) (ev_name 4 rfl)) eva_nil) (by simp))))) (show _ = D.lst (((tab N (A i)).map bq ++ [b i]).map D.rat) by rw [List.map_append, List.map_map, tab_map]; rfl)) rfl hN) <|
      ex_cons (es_set 7 (ev_call (ds := [_]) GF hr ⟨tab N (A i), b i, by rw [List.map_append, List.map_map]; rfl, (hb i hi).1, (hb i hi).2.1, rfl⟩ (eva_cons (ev_name 5 rfl) eva_nil)) rfl hN) <|
      ex_cons (es_setL 8 (EvL.to (EvL.frzL (lcl_map (bs := (tab N (A i)).map bq ++ [b i]) (inj := D.rat) [("item", 9)] (fun q => .int (q.num * (((b i).den : Int) / (q.den : Int)))) hN (it_list (ev_name 5 rfl)) ?_ fun q hq => turn fun s0 H0 D0 cl fp => ⟨tg_name 9 hN, ev_mul ?_ (ev_num T (ev_name 9 rfl)) (ev_div ?_ (ev_name 7 rfl) (ev_den T (ev_name 9 rfl)))⟩)) (show _ = Mu.im (.lst (tab (N + 1) fun j => .int (ow N A b i j))) by rw [ow_eq])) rfl) <|
      ex_cons (es_setL 10 (EvL.frzL (lc_map [("k", 11)] (fun k => .int (if decide ((k : Int) = (i : Int)) = true then 1 else 0)) hN (it_rg T (ev_to (ev_len T.len rfl (ev_name 1 rfl)) (by rw [tab_len])) (by omega)) (by omega) fun k hk => turn fun s0 H0 D0 cl fp => ⟨tg_name 11 hN, ev_intB T.int (ev_eq rfl (ev_name 11 rfl) (ev_name 4 rfl))⟩)) rfl) <|
      ex_cons (es_expr (ev_appD 2 (ev_name 7 rfl) ⟨_, rfl⟩ rfl ?_)) <|
      ex_one (es_expr (ev_appD (d := .lst (tab (N + m + 1) fun j => .int (T0 N m A b i j))) 3 (ev_to (Ev.frzL (ev_catL ?_ (Ev.frzL (ev_catL ?_ (Ev.frzL (l := tab N fun j => .int (ow N A b i j)) (ev_to' (ev_slL (ev_name 8 rfl) evo_none (evo_some (ev_neg ev_int))) (by rw [show (-(1 : Int)) = -1 from rfl, cut_init]))) (ev_name 10 rfl))) (Ev.frzL (l := [.int (ow N A b i N)]) (ev_to' (ev_slL (ev_name 8 rfl) (evo_some (ev_neg ev_int)) evo_none) (by rw [show (-(1 : Int)) = -1 from rfl, cut_last]))))) (by rw [row_eq])) ⟨_, rfl⟩ rfl ?_))) rfl ⟨rfl, rfl, rfl, rfl, trivial⟩, ?_⟩) <| ex_frz (m := .ls _) 2 rfl <| ex_frz (m := .ls _) 3 rfl <| ex_one (es_ret (ev_tup (ds := [_, _]) (eva_cons (ev_name 2 rfl) (eva_cons (ev_name 3 rfl) eva_nil)) (by simp)))) ⟨?_, rfl⟩
  · rw [tab_len]; simp; omega
  · rw [List.length_append, List.length_map, tab_len]; simp; omega
  · have hbd : Bd q.num ∧ Bd (((b i).den : Int) / (q.den : Int)) := by
      have hd : Bd ((b i).den : Int) := Bd.sm (by have := (hb i hi).2.1; omega)
      rcases List.mem_append.mp hq with hq | hq
      · obtain ⟨x, _, rfl⟩ := List.mem_map.mp hq
        rw [bq_den, bq_num]
        exact ⟨by split <;> exact Bd.sm (by decide), by simpa using hd⟩
      · rw [List.mem_singleton.mp hq, Int.ediv_self (den0 _)]
        exact ⟨(hb i hi).2.2, Bd.sm (by decide)⟩
    exact Bd.mul hbd.1 hbd.2
  · rcases List.mem_append.mp hq with hq | hq
    · obtain ⟨x, _, rfl⟩ := List.mem_map.mp hq
      rw [bq_den]
      exact Bd.div (by decide) (Bd.sm (by decide))
    · rw [List.mem_singleton.mp hq]
      have := (b i).den_pos
      exact Bd.div (by omega) (Bd.sm (by have := (hb i hi).2.1; omega))
  · rw [ha.1]; omega
  · simp only [List.length_append, tab_len, List.length_cons, List.length_nil]; omega
  · rw [tab_len, tab_len]; omega
  · rw [ha.2]; omega
  · simp [ha.1, ha.2]
  · show D.tup [D.lst (Mu.toL (List.map Mu.im _)), D.lst (Mu.toL (List.map Mu.im _))] = _
    rw [toL_map, toL_map, lp_tab2]
theorem fp_costs {k}  (h : DefW W "costs" (top 41)) : W.fp (k + 2) "costs" (fun ds r => ∃ (N m : Nat) (T : Nat → Nat → Int), ds = [iT m (N + m + 1) T, .int N] ∧ (N ≤ 500 ∧ m ≤ 100) ∧ r = iR (N + m + 1) (P0 N m T)) := by
  obtain ⟨f, h, hm⟩ := h
  have hN : (["rows", "count", "width", "found", "j", "row"] : List Str).Nodup := by decide +kernel
  refine fnP_mk (N := ["rows", "count", "width", "found", "j", "row"]) (ps := ["rows", "count"]) h hm ⟨rfl, rfl, rfl, hN, rfl, by decide +kernel, by decide +kernel⟩ (fun ds d h => by obtain ⟨_, _, _, rfl, _⟩ := h; rfl) ?_ (fun _ _ _ _ _ _ us hl => match us, hl with | [_, _], _ => rfl)
  rintro ds r ⟨N, m, T1, rfl, hs, rfl⟩ f cdv Ar outer sh hp0 E st hr
  refine bodyI (ex_cons (es_set 2 (ev_to (ev_add (ev_add (ev_name 1 rfl) (ev_len T.len rfl (ev_name 0 rfl))) ev_int) (show _ = D.int ((N + m + 1 : Nat) : Int) by rw [tab_len]; rfl)) rfl hN) <| ex_cons (es_set 3 (ev_lst (ms := []) eva_nil (by simp)) rfl hN) <| ex_cons (es_loop (n := N + m + 1) (g := fun i => .int (i : Int)) (G := fun a : List D => ⟨none, [sd (iT m (N + m + 1) T1), sd (.int N), sd (.int ((N + m + 1 : Nat) : Int)), so a, none, none]⟩) (f := fun j a => a ++ [.int (P0 N m T1 j)]) (P := fun i a => a.length = i) (a0 := []) rfl PassesOwn.never (it_rg T (ev_name 2 rfl) (by omega)) fun j a hj ha => ⟨turnI (tg_name 4 hN) (ex_one (es_expr (ev_appD (d := .int (P0 N m T1 j)) 3 (ev_to (ev_sub (ev_intB T.int (ev_chain .le .lt (ev_name 1 rfl) (ev_name 4 rfl) (ev_sub (ev_name 2 rfl) ev_int))) (ev_sum (ns := tab m fun i => T1 i j) T.sum (ev_to (Ev.frzL (EvL.ev (lc_map [("row", 5)] (fun i => .int (T1 i j)) hN (it_list (ev_name 0 rfl)) (by omega) fun i hi => turn fun s0 H0 D0 cl fp => ⟨tg_name 5 hN, ev_ix (ix_lst hj) (ev_name 5 rfl) (ev_name 4 rfl)⟩))) (by rw [tab_map])))) ?_) ⟨_, rfl⟩ rfl (by rw [ha]; omega)))) rfl ⟨rfl, rfl, rfl, rfl, trivial⟩, by rw [List.length_append, ha]; rfl⟩) <| ex_frz (m := .ls _) 3 rfl <| ex_one (es_ret (ev_name 3 rfl))) ⟨?_, rfl⟩
  · show D.int ((if (decide ((N : Int) ≤ (j : Int)) && decide ((j : Int) < ((N + m + 1 : Nat) : Int) - 1)) = true then 1 else 0) - (tab m fun i => T1 i j).sum) = D.int (P0 N m T1 j)
    unfold P0 sumT
    have e1 : decide ((N : Int) ≤ (j : Int)) = decide (N ≤ j) := by simp
    have e2 : decide ((j : Int) < ((N + m + 1 : Nat) : Int) - 1) = decide (j < N + m) := by
      by_cases h : j < N + m
      · rw [decide_eq_true h, decide_eq_true (by omega)]
      · rw [decide_eq_false h, decide_eq_false (by omega)]
    rw [e1, e2]
  · show D.lst (Mu.toL (List.map Mu.im _)) = _
    rw [toL_map, lp_tab]
end
end K48

namespace K48
open PySem PySem.Spec PyProof.Rows L2
section
variable {W : Wd} (T : Fx W.K W.mg W.c)
include T
theorem fp_leaving {k}  (h : DefW W "leaving" (top 42)) : W.fp (k + 2) "leaving" (fun ds r => ∃ (m last : Nat) (T : Nat → Nat → Int) (bas : Nat → Nat) (q : Nat), ds = [iT m (last + 1) T, iR m fun i => (bas i : Int), .int q] ∧ m ≤ 100 ∧ q < last + 1 ∧ (∀ i j, i < m → j < last + 1 → Bd (T i j)) ∧ r = .int (oI (lea m last T bas q))) := by
  obtain ⟨f, h, hm⟩ := h
  have hN : (["rows", "basis", "at", "best", "i", "one", "two"] : List Str).Nodup := by decide +kernel
  refine fnP_mk (N := ["rows", "basis", "at", "best", "i", "one", "two"]) (ps := ["rows", "basis", "at"]) h hm ⟨rfl, rfl, rfl, hN, rfl, by decide +kernel, by decide +kernel⟩ (fun ds d h => by obtain ⟨_, _, _, _, _, rfl, _⟩ := h; rfl) ?_ (fun _ _ _ _ _ _ us hl => match us, hl with | [_, _, _], _ => rfl)
  rintro ds r ⟨m, last, T1, bas, q, rfl, hm', hq, hb, rfl⟩ f cdv Ar outer sh hp0 E st hr
  refine bodyI (ex_cons (es_set 3 (ev_neg ev_int) rfl hN) <| ex_cons (es_loop (n := m) (g := fun i => .int (i : Int)) (G := fun o : Option Nat => ⟨none, [sd (iT m (last + 1) T1), sd (iR m fun i => (bas i : Int)), sd (.int q), sd (.int (oI o)), none, none, none]⟩) (f := leaS last T1 bas q) (P := fun i o => ∀ b, o = some b → b < i) (a0 := none) (fun b h => by cases h) PassesOwn.never (it_rg T (ev_to (ev_len T.len rfl (ev_name 0 rfl)) (by rw [tab_len])) (by omega)) fun i o hi ho => ⟨turnI (tg_name 4 hN) (ex_one (es_if (o := .nx ⟨none, [sd (iT m (last + 1) T1), sd (iR m fun i => (bas i : Int)), sd (.int q), sd (.int (oI (leaS last T1 bas q i o))), sd (.int i), none, none]⟩) (evt_icmp .gt (ev_ix (ix_lst hq) (ev_ix (ix_lst hi) (ev_name 0 rfl) (ev_name 4 rfl)) (ev_name 2 rfl)) ev_int) (fun h => ?_) fun h => ?_)) rfl ⟨rfl, rfl, rfl, rfl, trivial⟩, ?_⟩) <| ex_one (es_ret (ev_name 3 rfl))) ⟨rfl, rfl⟩
  · have hpos : 0 < T1 i q := of_decide_eq_true h
    have hbb : o.getD i < m := by
      cases o with
      | none => exact hi
      | some b => have := ho b rfl; show b < m; omega
    have e : leaS last T1 bas q i o = if decide (T1 i last * T1 (o.getD i) q < T1 (o.getD i) last * T1 i q) || (decide (T1 i last * T1 (o.getD i) q = T1 (o.getD i) last * T1 i q) && decide ((bas i : Int) < (bas (o.getD i) : Int))) then some i else some (o.getD i) := by
      unfold leaS
      rw [if_pos hpos]
      by_cases c1 : T1 i last * T1 (o.getD i) q < T1 (o.getD i) last * T1 i q
      · simp [c1]
      · by_cases c2 : T1 i last * T1 (o.getD i) q = T1 (o.getD i) last * T1 i q
        · by_cases c3 : bas i < bas (o.getD i)
          · simp [c2, c3]
          · simp [c2, c3]
        · simp [c1, c2]
    refine ex_cons (C1 := ⟨none, [sd (iT m (last + 1) T1), sd (iR m fun i => (bas i : Int)), sd (.int q), sd (.int ((o.getD i : Nat) : Int)), sd (.int i), none, none]⟩) (es_if (evt_icmp .lt (ev_name 3 rfl) ev_int) (fun h => ?_) fun h => ?_) <| ex_cons (es_set 5 (ev_mul (Bd.mul (hb i last hi (by omega)) (hb _ q hbb hq)) (ev_ix ix_last (ev_ix (ix_lst hi) (ev_name 0 rfl) (ev_name 4 rfl)) (ev_neg ev_int)) (ev_ix (ix_lst hq) (ev_ix (ix_lst hbb) (ev_name 0 rfl) (ev_name 3 rfl)) (ev_name 2 rfl))) rfl hN) <| ex_cons (es_set 6 (ev_mul (Bd.mul (hb _ last hbb (by omega)) (hb i q hi hq)) (ev_ix ix_last (ev_ix (ix_lst hbb) (ev_name 0 rfl) (ev_name 3 rfl)) (ev_neg ev_int)) (ev_ix (ix_lst hq) (ev_ix (ix_lst hi) (ev_name 0 rfl) (ev_name 4 rfl)) (ev_name 2 rfl))) rfl hN) <| ex_to (ex_one (es_if (o := .nx ⟨none, [sd (iT m (last + 1) T1), sd (iR m fun i => (bas i : Int)), sd (.int q), sd (.int (oI (leaS last T1 bas q i o))), sd (.int i), sd (.int (T1 i last * T1 (o.getD i) q)), sd (.int (T1 (o.getD i) last * T1 i q))]⟩) (EvW.t (evw_or (evt_icmp .lt (ev_name 5 rfl) (ev_name 6 rfl)) fun _ => evw_or1 (EvW.t (evw_and (evt_eq rfl (ev_name 5 rfl) (ev_name 6 rfl)) fun _ => evw_and1 (evt_icmp .lt (ev_ix (ix_lst hi) (ev_name 1 rfl) (ev_name 4 rfl)) (ev_ix (ix_lst hbb) (ev_name 1 rfl) (ev_name 3 rfl))))))) (fun h => ?_) fun h => ?_)) rfl ⟨rfl, rfl, rfl, rfl, rfl, trivial⟩
    · cases o with
      | none => exact ex_eq (ex_one (es_set 3 (ev_name 4 rfl) rfl hN))
      | some b => exact absurd (of_decide_eq_true h) (by show ¬ ((b : Nat) : Int) < 0; omega)
    · cases o with
      | none => exact absurd (show decide ((-1 : Int) < 0) = true from rfl) (by rw [show decide ((-1 : Int) < 0) = false from h]; decide)
      | some b => exact ex_nil
    · rw [e, if_pos h]
      exact ex_eq (ex_one (es_set 3 (ev_name 4 rfl) rfl hN))
    · rw [e, if_neg (by rw [h]; decide)]
      exact ex_nil
  · have e : leaS last T1 bas q i o = o := if_neg (of_decide_eq_false h)
    rw [e]; exact ex_nil
  · intro b hb'
    unfold leaS at hb'
    have hd : o.getD i < i + 1 := by
      cases o with
      | none => exact Nat.lt_succ_self i
      | some x => have := ho x rfl; show x < i + 1; omega
    split at hb'
    · split at hb'
      · cases hb'; omega
      · cases hb'; omega
    · have := ho b hb'; omega
end
end K48

namespace K48
open PySem PySem.Spec PyProof.Rows L2
def plainO : Option Sl → Bool
  | none => true
  | some (.mu (.im _)) => true
  | _ => false
theorem OwnE.plainF {c : Cl} {st : Addr} {B H : Hp} : ∀ {ρ : List (Option Sl)} {σ : List (Option V)} {F : List Addr}, ρ.all plainO = true → OwnE c st B H ρ σ F → F = []
  | [], [], _, _, h => h
  | none :: ρ, _ :: σ, F, p, h => OwnE.plainF (ρ := ρ) (σ := σ) (by simpa [plainO] using p) h
  | some s :: ρ, some v :: σ, F, p, ⟨F1, F2, e, h, q⟩ => by
    rw [List.all_cons, Bool.and_eq_true] at p
    cases s with
    | stt => cases p.1
    | mu m =>
      cases m with
      | ls l => cases p.1
      | im d => rw [e, (show F1 = [] from h.2), OwnE.plainF p.2 q]; rfl
  | none :: _, [], _, _, h => h.elim
  | some _ :: _, [], _, _, h => h.elim
  | some _ :: _, none :: _, _, _, h => h.elim
section
variable {X : Cx} {c : Cl} {st : Addr} {C : Cfg} {e : Expr} {m : Mu} {i : Int}
/-- the one owned list is lent: its address is among the arguments of a call whose value is an int -/
theorem ev_borrow (n : Nat) (hs : C.ρ[n]? = some (some (.mu m))) (hS : C.S = none) (hpl : (C.ρ.set n (sd m.toD)).all plainO = true) (h : Ev X c st e ⟨none, C.ρ.set n (sd m.toD)⟩ (.im (.int i)) ⟨none, C.ρ.set n (sd m.toD)⟩) : Ev X c st e C (.im (.int i)) C := evI fun σ B H F k Q q => by
  obtain ⟨F0, e0, ow⟩ := k.own
  rw [hS] at e0
  have e0 : F = F0 := e0
  subst e0
  obtain ⟨F1, Fi, F2, w, eF, ew, hw, _, hset⟩ := ow.focus n hs
  obtain ⟨v, rfl, t⟩ := hw _ rfl
  have sF : Same B (addF B H F) := addF_same k.out
  have t' : OwnT c B H m v Fi := t
  have ow1 := hset (addF B H F) H (.mu (.im m.toD)) v [] sF (fun _ _ => rfl) (fun _ _ => rfl) ⟨OwnT.frz sF m v Fi (fun a ha => addF_in (by rw [eF]; simp [ha])) t', rfl⟩
  have es : σ.set n (some v) = σ := by
    refine List.ext_getElem? fun j => ?_
    by_cases hj : n = j
    · subst hj
      rw [List.getElem?_set_self (List.getElem?_eq_some_iff.mp ew).1, ew]
    · rw [List.getElem?_set_ne hj]
  rw [es] at ow1
  have nil := OwnE.plainF hpl ow1
  have ow1' : OwnE c st (addF B H F) H (C.ρ.set n (sd m.toD)) σ [] := nil ▸ ow1
  have k1 : OK c st ⟨none, C.ρ.set n (sd m.toD)⟩ (addF B H F) H [] σ := ⟨addF_sub k.sub, List.nodup_nil, fun a h => (by cases h), ⟨[], rfl, ow1'⟩, fun _ _ h => (by cases h)⟩
  refine h.I k1 fun u B2 H2 G2 k2 r2 x2 => ?_
  have hH : ∀ a ∈ F, H2 a = H a := fun a ha => by
    obtain ⟨o, e⟩ := k.there a ha
    rw [e]; exact x2.h a o (by simp) e
  have B3 : ∀ a u, (if a ∈ F then none else B2 a) = some u → a ∉ F ∧ B2 a = some u := fun a u e => by
    by_cases h : a ∈ F
    · rw [if_pos h] at e; cases e
    · rw [if_neg h] at e; exact ⟨h, e⟩
  have sB : Same B (fun a => if a ∈ F then none else B2 a) := fun a u e => by
    have hn : a ∉ F := fun z => by rw [k.out a z] at e; cases e
    show (if a ∈ F then none else B2 a) = some u
    rw [if_neg hn]
    exact x2.b a u (sF a u e)
  refine q u (fun a => if a ∈ F then none else B2 a) H2 F ⟨fun a u e => k2.sub a u (B3 a u e).2, k.nd, fun a ha => if_pos ha, ⟨F, by rw [hS]; rfl, ow.mono sB fun a ha => hH a ha⟩, fun s t z => by rw [hS] at z; cases z⟩ r2 ⟨sB, fun a o ha e => x2.h a o (by simp) e, fun a o ha e nb => ?_, fun a ha => .inl ha⟩
  show (if a ∈ F then none else B2 a) = none
  rw [if_neg ha]
  exact x2.f a o (by simp) e (by rw [addF_out ha]; exact nb)
end
end K48

namespace K48
open PySem PySem.Spec PyProof.Rows L2

theorem es_whileT {X : Cx} {c : Cl} {st : Addr} {e : Expr} {body : List Stmt} {pos : Pos} {α : Type} (G : α → Cfg) (t : α → Bool) (f : α → α) (n : Nat) {a0 : α} (hp : PassesOwn (model X.prog X.w) X.A X.env X.xe) (h1 : ∀ i, i < n → t (itn f i a0) = true) (h2 : t (itn f n a0) = false)
    (test : ∀ i, i ≤ n → EvT X c st e (G (itn f i a0)) (t (itn f i a0)) (G (itn f i a0))) (turn : ∀ i, i < n → Ex X c st body (G (itn f i a0)) (.nx (G (f (itn f i a0))))) : Es X c st (.While e body [] pos) (G a0) (.nx (G (itn f n a0))) := by
  refine es_while (fun i => G (itn f i a0)) n hp (fun i hi => ?_) fun i hi => turn i hi
  have z := test i hi
  by_cases h : i < n
  · rw [h1 i h] at z; rw [decide_eq_true h]; exact z
  · have e : i = n := by omega
    subst e
    rw [h2] at z; rw [decide_eq_false h]; exact z
theorem es_retS {X : Cx} {c : Cl} {st : Addr} {e : Expr} {pos : Pos} {C C1 : Cfg} {m : Mu} {S : Option (Int × Int)} (h : Ev X c st e C m C1) (q : C1.S = S := by rfl) : Es X c st (.Return (some e) pos) C (.rt m S) := q ▸ es_ret h
/-! ### the simplex -/
structure Sx where
  T : Nat → Nat → Int
  P : Nat → Int
  sc : Int
  bas : Nat → Nat
def enS (N : Nat) (s : Sx) : List Nat := (List.range N).filter fun j => decide (s.P j < 0)
def atS (N : Nat) (s : Sx) : Nat := (enS N s).getD 0 0
def outS (m N : Nat) (s : Sx) : Nat := (lea m (N + m) s.T s.bas (atS N s)).getD 0
def stepX (m N : Nat) (s : Sx) : Sx where
  T := fun i j => if i = outS m N s then s.T (outS m N s) j else (s.T i j * s.T (outS m N s) (atS N s) - s.T i (atS N s) * s.T (outS m N s) j) / s.sc
  P := fun j => (s.P j * s.T (outS m N s) (atS N s) - s.P (atS N s) * s.T (outS m N s) j) / s.sc
  sc := s.T (outS m N s) (atS N s)
  bas := fun i => if i = outS m N s then atS N s else s.bas i
def startX (N m : Nat) (A : Nat → Nat → Bool) (b : Nat → Rat) : Sx := ⟨T0 N m A b, P0 N m (T0 N m A b), 1, fun i => N + i⟩
abbrev runX (N m : Nat) (A : Nat → Nat → Bool) (b : Nat → Rat) (k : Nat) : Sx := itn (stepX m N) k (startX N m A b)
abbrev Bs (i : Int) : Prop := i.natAbs < 2 ^ eM
theorem Bs.bd {i : Int} (h : Bs i) : Bd i := Nat.lt_of_lt_of_le h (Nat.pow_le_pow_right (by decide) (by decide))
structure OkX (m N : Nat) (s : Sx) : Prop where
  sc : 0 < s.sc
  scB : Bs s.sc
  t : ∀ i j, i < m → j < N + m + 1 → Bs (s.T i j)
  p : ∀ j, j < N + m + 1 → Bs (s.P j)
  l : enS N s ≠ [] → ∃ o, lea m (N + m) s.T s.bas (atS N s) = some o
def RunX (N m : Nat) (A : Nat → Nat → Bool) (b : Nat → Rat) (k : Nat) : Prop := (∀ i, i < k → enS N (runX N m A b i) ≠ []) ∧ enS N (runX N m A b k) = [] ∧ ∀ i, i ≤ k → OkX m N (runX N m A b i)
/-- the weights -/
def wX (m N : Nat) (s : Sx) : Nat → Rat := lp (fun i (w : Nat → Rat) => if s.bas i < N then (fun j => if j = s.bas i then Rat.divInt (s.T i (N + m)) s.sc else w j) else w) m fun _ => 0
def outX (N m : Nat) (b : Nat → Rat) (s : Sx) : D :=
  if s.P (N + m) < 0 then .tup [.str "functional", .tup (tab m fun i => .rat (Rat.divInt (((b i).den : Int) * (s.sc - s.P (N + i))) s.sc))] else .tup [.str "weights", .tup (tab N fun j => .rat (wX m N s j))]
abbrev RFeas (ds : List D) (r : D) : Prop := ∃ (N m : Nat) (A : Nat → Nat → Bool) (b : Nat → Rat) (k : Nat), ds = [.lst (tab N fun j => .tup (tab m fun i => .rat (bq (A i j)))), .tup (tab m fun i => .rat (b i))] ∧ (N ≤ 500 ∧ m ≤ 100) ∧ (∀ i, i < m → 0 ≤ (b i).num ∧ (b i).den < 2 ^ 63 ∧ Bd (b i).num) ∧ RunX N m A b k ∧ r = outX N m b (runX N m A b k)
theorem enS_lt {N : Nat} {s : Sx} {j : Nat} (h : j ∈ enS N s) : j < N := by
  unfold enS at h
  exact List.mem_range.mp (List.mem_filter.mp h).1
theorem atS_lt {N : Nat} {s : Sx} (h : enS N s ≠ []) : atS N s < N := by
  unfold atS
  exact enS_lt (getD_mem (List.length_pos_iff.mpr h))
theorem keptE {N : Nat} {s : Sx} : keptD (tab N fun j => if decide (s.P j < 0) = true then some (D.int (j : Int)) else none) = (enS N s).map fun j : Nat => D.int (j : Int) := keptD_filter (t := fun j => decide (s.P j < 0)) (w := fun j : Nat => D.int (j : Int)) 0 (List.range N)
section
variable {W : Wd} (T : Fx W.K W.mg W.c)
include T
theorem fp_feasible {k} (GK : W.fk k "Ratio" W.c.R [] RInit) (GZ : W.fp (k + 1) "zero" (fun ds r => ds = [] ∧ r = .rat 0)) (G1 : W.fp (k + 1) "starting" RStart) (G2 : W.fp (k + 1) "costs" RCosts) (G3 : W.fp (k + 1) "leaving" RLea) (G4 : W.fp (k + 1) "subtracted" RSub) (h : DefW W "feasible" (top 44)) : W.fp (k + 2) "feasible" (fun ds r => ∃ (N m : Nat) (A : Nat → Nat → Bool) (b : Nat → Rat) (k : Nat), ds = [.lst (tab N fun j => .tup (tab m fun i => .rat (bq (A i j)))), .tup (tab m fun i => .rat (b i))] ∧ (N ≤ 500 ∧ m ≤ 100) ∧ (∀ i, i < m → 0 ≤ (b i).num ∧ (b i).den < 2 ^ 63 ∧ Bd (b i).num) ∧ RunX N m A b k ∧ r = outX N m b (runX N m A b k)) := by
  obtain ⟨f, h, hm⟩ := h
  have hN : (["columns", "right", "factors", "rows", "count", "basis", "price", "scale", "entering", "at", "out", "head", "found", "i", "j", "_"] : List Str).Nodup := by decide +kernel
  refine fnP_mk (N := ["columns", "right", "factors", "rows", "count", "basis", "price", "scale", "entering", "at", "out", "head", "found", "i", "j", "_"]) (ps := ["columns", "right"]) h hm ⟨rfl, rfl, rfl, hN, rfl, by decide +kernel, by decide +kernel⟩ (fun ds d h => by obtain ⟨_, _, _, _, _, rfl, _⟩ := h; rfl) ?_ (fun _ _ _ _ _ _ us hl => match us, hl with | [_, _], _ => rfl)
  rintro ds r ⟨N, m, A, b, kk, rfl, hs, hb, hrun, rfl⟩ f cdv Ar outer sh hp0 E st hr
  obtain ⟨hen, hend, hok⟩ := hrun
  have hok' := hok kk (Nat.le_refl _)
  refine bodyI (o := .rt (.im (outX N m b (runX N m A b kk))) none) (ex_cons (es_asg (ev_call (ds := [_, _]) G1 hr ⟨N, m, A, b, rfl, hs, hb, rfl⟩ (eva_cons (ev_name 0 rfl) (eva_cons (ev_name 1 rfl) eva_nil))) (tg_tup (tgs_cons (tg_name 2 hN) (tgs_cons (tg_name 3 hN) tgs_nil)))) <|
    ex_cons (es_set 4 (ev_to (ev_len T.len rfl (ev_name 0 rfl)) (show _ = D.int (N : Int) by rw [tab_len])) rfl hN) <|
    ex_cons (es_setL 5 (lc_map [("i", 13)] (fun i => .int ((N + i : Nat) : Int)) hN (it_rg T (ev_to (ev_len T.len rfl (ev_name 3 rfl)) (show _ = D.int (m : Int) by rw [tab_len])) (by omega)) (by omega) fun i hi => turn fun s0 H0 D0 cl fp => ⟨tg_name 13 hN, ev_to (ev_add (ev_name 4 rfl) (ev_name 13 rfl)) rfl⟩) rfl) <|
    ex_cons (es_set 6 (ev_call (ds := [_, _]) G2 hr ⟨N, m, T0 N m A b, rfl, hs, rfl⟩ (eva_cons (ev_name 3 rfl) (eva_cons (ev_name 4 rfl) eva_nil))) rfl hN) <|
    ex_cons (es_set 7 ev_int rfl hN) <|
    ex_cons (es_setL 8 (EvL.to (EvL.frzL (lc_filter [("j", 14)] (fun j => decide ((startX N m A b).P j < 0)) (fun j => .int (j : Int)) hN (it_rg T (ev_name 4 rfl) (by omega)) (by omega) fun j hj => turnF fun s0 H0 D0 cl fp => ⟨tg_name 14 hN, evt_icmp .lt (ev_ix (ix_lst (show j < N + m + 1 by omega)) (ev_name 6 rfl) (ev_name 14 rfl)) ev_int, fun _ => ev_name 14 rfl⟩)) (congrArg (fun z => Mu.im (D.lst z)) (keptE (s := (startX N m A b))))) rfl) <|
    ex_cons (es_whileT (G := fun s : Sx => ⟨none, [sd (.lst (tab N fun j => .tup (tab m fun i => .rat (bq (A i j))))), sd (.tup (tab m fun i => .rat (b i))), sd (iR m fun i => ((b i).den : Int)), sd (iT m (N + m + 1) s.T), sd (.int N), so (tab m fun i => .int (s.bas i : Int)), sd (iR (N + m + 1) s.P), sd (.int s.sc), sd (.lst ((enS N s).map fun j : Nat => .int (j : Int))), none, none, none, none, none, none, none]⟩) (t := fun s => decide ((0 : Int) < (((enS N s).map fun j : Nat => D.int (j : Int)).length : Nat))) (f := stepX m N) kk (a0 := startX N m A b) PassesOwn.never (fun i hi => ?_) ?_ (fun i hi => evt_icmp .gt (ev_len T.len rfl (ev_name 8 rfl)) ev_int) fun i hi => ?_) <| ?_) ⟨rfl, rfl⟩
  · have := List.length_pos_iff.mpr (hen i hi)
    exact decide_eq_true (by rw [List.length_map]; exact Int.ofNat_lt.mpr this)
  · show decide ((0 : Int) < (((enS N (runX N m A b kk)).map fun j : Nat => D.int (j : Int)).length : Nat)) = false
    rw [hend]; rfl
  · have ok : OkX m N (itn (stepX m N) i (startX N m A b)) := hok i (by omega)
    have he : enS N (itn (stepX m N) i (startX N m A b)) ≠ [] := hen i hi
    generalize itn (stepX m N) i (startX N m A b) = s at ok he ⊢
    have hq := atS_lt he
    obtain ⟨o, ho⟩ := ok.l he
    have hom := lea_lt o ho
    have eo : outS m N s = o := by unfold outS; rw [ho]; rfl
    have hat : ((enS N s).map fun j : Nat => D.int (j : Int))[0]? = some (.int ((atS N s : Nat) : Int)) := by
      rw [List.getElem?_map, getD_at (z := 0) (List.length_pos_iff.mpr he)]; rfl
    have hbd : ∀ i j, i < m → j < N + m + 1 → Bd (s.T i j) := fun i j h1 h2 => (ok.t i j h1 h2).bd
    refine ex_cons (es_set 9 (ev_ix (ix_lst0 hat) (ev_name 8 rfl) ev_int) rfl hN) <|
      ex_cons (es_set 10 (ev_to (ev_borrow 5 rfl rfl rfl (ev_call (ds := [_, _, _]) G3 hr ⟨m, N + m, s.T, s.bas, atS N s, rfl, hs.2, by omega, hbd, rfl⟩ (eva_cons (ev_name 3 rfl) (eva_cons (ev_to (ev_name 5 rfl) (congrArg D.lst (toL_map _))) (eva_cons (ev_name 9 rfl) eva_nil))))) (show _ = D.int (o : Int) by rw [ho]; rfl)) rfl hN) <|
      ex_cons (es_set 11 (ev_ix (ix_lst hom) (ev_name 3 rfl) (ev_name 10 rfl)) rfl hN) <|
      ex_cons (es_set 3 (EvL.ev (EvL.frzL (lc_map [("i", 13)] (fun i => .lst (tab (N + m + 1) fun j => .int ((stepX m N s).T i j))) hN (it_rg T (ev_to (ev_len T.len rfl (ev_name 3 rfl)) (show _ = D.int (m : Int) by rw [tab_len])) (by omega)) (by omega) fun i hi => turn fun s0 H0 D0 cl fp => ⟨tg_name 13 hN, ev_if (evt_eq rfl (ev_name 13 rfl) (ev_name 10 rfl)) (fun h => ev_to (ev_name 11 rfl) ?_) fun h => ev_to (ev_call (ds := [_, _, _, _]) G4 hr ⟨N + m + 1, s.T i, s.T o, atS N s, s.sc, rfl, by omega, by omega, ok.sc, ok.scB.bd, fun j hj => ⟨hbd i j hi hj, hbd o j hom hj⟩, rfl⟩ (eva_cons (ev_ix (ix_lst hi) (ev_name 3 rfl) (ev_name 13 rfl)) (eva_cons (ev_name 11 rfl) (eva_cons (ev_name 9 rfl) (eva_cons (ev_name 7 rfl) eva_nil))))) ?_⟩))) rfl hN) <|
      ex_cons (es_set 6 (ev_to (ev_call (ds := [_, _, _, _]) G4 hr ⟨N + m + 1, s.P, s.T o, atS N s, s.sc, rfl, by omega, by omega, ok.sc, ok.scB.bd, fun j hj => ⟨(ok.p j hj).bd, hbd o j hom hj⟩, rfl⟩ (eva_cons (ev_name 6 rfl) (eva_cons (ev_name 11 rfl) (eva_cons (ev_name 9 rfl) (eva_cons (ev_name 7 rfl) eva_nil))))) (show _ = iR (N + m + 1) (stepX m N s).P by show iR _ _ = iR _ _; unfold stepX; rw [eo])) rfl hN) <|
      ex_cons (es_set 7 (ev_to (ev_ix (ix_lst (show atS N s < N + m + 1 by omega)) (ev_name 11 rfl) (ev_name 9 rfl)) (show _ = D.int (stepX m N s).sc by unfold stepX; rw [eo])) rfl hN) <|
      ex_cons (es_asg (ev_name 9 rfl) (tg_set 5 (ev_name 10 rfl) ⟨_, rfl⟩ rfl (by rw [tab_len]; exact hom))) <|
      ex_to (ex_one (es_setL 8 (EvL.to (EvL.frzL (lc_filter [("j", 14)] (fun j => decide ((stepX m N s).P j < 0)) (fun j => .int (j : Int)) hN (it_rg T (ev_name 4 rfl) (by omega)) (by omega) fun j hj => turnF fun s0 H0 D0 cl fp => ⟨tg_name 14 hN, evt_icmp .lt (ev_ix (ix_lst (show j < N + m + 1 by omega)) (ev_name 6 rfl) (ev_name 14 rfl)) ev_int, fun _ => ev_name 14 rfl⟩)) (congrArg (fun z => Mu.im (D.lst z)) (keptE (s := (stepX m N s))))) rfl)) rfl ⟨rfl, rfl, rfl, rfl, rfl, ?_, rfl, rfl, rfl, trivial⟩
    · have e : i = o := by have := of_decide_eq_true h; omega
      show D.lst _ = D.lst _
      congr 1
      refine tab_congr fun j hj => ?_
      unfold stepX
      rw [eo]
      show _ = D.int (if i = o then s.T o j else _)
      rw [if_pos e]
    · have e : ¬ i = o := by have := of_decide_eq_false h; omega
      show D.lst _ = D.lst _
      congr 1
      refine tab_congr fun j hj => ?_
      unfold stepX
      rw [eo]
      show _ = D.int (if i = o then s.T o j else _)
      rw [if_neg e]
    · show so ((tab m fun i => D.int (s.bas i : Int)).set o (D.int (atS N s : Int))) = so _
      rw [tab_set]
      congr 3
      funext i
      unfold stepX
      rw [eo]
      show _ = D.int (((if i = o then atS N s else s.bas i : Nat)) : Int)
      split <;> rfl
  · have hok'' : OkX m N (itn (stepX m N) kk (startX N m A b)) := hok'
    clear hok' hok hen hend
    show Ex _ _ _ _ _ (.rt (.im (outX N m b (itn (stepX m N) kk (startX N m A b)))) none)
    generalize itn (stepX m N) kk (startX N m A b) = s at hok'' ⊢
    have hok' := hok''
    by_cases hneg : s.P (N + m) < 0
    · have eo : outX N m b s = .tup [.str "functional", .tup (tab m fun i => .rat (Rat.divInt (((b i).den : Int) * (s.sc - s.P (N + i))) s.sc))] := if_pos hneg
      rw [eo]
      refine ex_take (evt_to (evt_icmp .lt (ev_ix ix_last (ev_name 6 rfl) (ev_neg ev_int)) ev_int) (decide_eq_true hneg)) (ex_one (es_retS (ev_tup (ds := [_, _]) (eva_cons ev_str (eva_cons (ev_tupleOf T.tuple (.inl rfl) (Ev.frzL (EvL.ev (lc_map [("i", 13)] (fun i => .rat (Rat.divInt (((b i).den : Int) * (s.sc - s.P (N + i))) s.sc)) hN (it_rg T (ev_to (ev_len T.len rfl (ev_name 3 rfl)) (show _ = D.int (m : Int) by rw [tab_len])) (by omega)) (by omega) fun i hi => turn fun s0 H0 D0 cl fp => ⟨tg_name 13 hN, ev_make (ds := [_, _]) GK hr ⟨((b i).den : Int) * (s.sc - s.P (N + i)), s.sc, rfl, ?_, ?_, hok'.scB.bd, rfl⟩ (eva_cons (ev_mul ?_ (ev_ix (ix_lst hi) (ev_name 2 rfl) (ev_name 13 rfl)) (ev_sub (ev_name 7 rfl) (ev_ix (ix_lst (show N + i < N + m + 1 by omega)) (ev_name 6 rfl) (ev_to (ev_add (ev_name 4 rfl) (ev_name 13 rfl)) rfl)))) (eva_cons (ev_name 7 rfl) eva_nil))⟩)))) eva_nil)) (by simp))))
      · have := hok'.sc; omega
      · have h1 := hok'.scB
        have h2 := hok'.p (N + i) (by omega)
        have h3 := (hb i hi).2.1
        have h4 : (s.sc - s.P (N + i)).natAbs < 2 ^ (eM + 1) := by rw [Nat.pow_succ]; omega
        have h5 := wide_lt (a := 64) (show (((b i).den : Int)).natAbs < 2 ^ 64 by omega) h4
        exact Nat.lt_of_lt_of_le h5 (Nat.pow_le_pow_right (by decide) (by decide))
      · have h1 := hok'.scB
        have h2 := hok'.p (N + i) (by omega)
        have h3 := (hb i hi).2.1
        have h4 : (s.sc - s.P (N + i)).natAbs < 2 ^ (eM + 1) := by rw [Nat.pow_succ]; omega
        exact Bd.mul (Bd.sm (by omega)) (Nat.lt_of_lt_of_le h4 (Nat.pow_le_pow_right (by decide) (by decide)))
    · have eo : outX N m b s = .tup [.str "weights", .tup (tab N fun j => .rat (wX m N s j))] := if_neg hneg
      rw [eo]
      refine ex_skip (evt_to (evt_icmp .lt (ev_ix ix_last (ev_name 6 rfl) (ev_neg ev_int)) ev_int) (decide_eq_false hneg)) <|
        ex_cons (es_setL 12 (lc_map [("_", 15)] (fun _ => .rat 0) hN (it_rg T (ev_name 4 rfl) (by omega)) (by omega) fun i hi => turn fun s0 H0 D0 cl fp => ⟨tg_name 15 hN, ev_call0 GZ hr ⟨rfl, rfl⟩⟩) rfl) <|
        ex_cons (es_loop (n := m) (g := fun i => .int (i : Int)) (G := fun w : Nat → Rat => ⟨none, [sd (.lst (tab N fun j => .tup (tab m fun i => .rat (bq (A i j))))), sd (.tup (tab m fun i => .rat (b i))), sd (iR m fun i => ((b i).den : Int)), sd (iT m (N + m + 1) s.T), sd (.int N), so (tab m fun i => .int (s.bas i : Int)), sd (iR (N + m + 1) s.P), sd (.int s.sc), sd (.lst ((enS N s).map fun j : Nat => .int (j : Int))), none, none, none, so (tab N fun j => .rat (w j)), none, none, none]⟩) (f := fun i w => if s.bas i < N then (fun j => if j = s.bas i then Rat.divInt (s.T i (N + m)) s.sc else w j) else w) (P := fun _ _ => True) (a0 := fun _ => 0) trivial PassesOwn.never (it_rg T (ev_to (ev_len T.len rfl (ev_name 3 rfl)) (show _ = D.int (m : Int) by rw [tab_len])) (by omega)) fun i w hi _ => ⟨turnI (tg_name 13 hN) (ex_one (es_if (o := .nx ⟨none, [sd (.lst (tab N fun j => .tup (tab m fun i => .rat (bq (A i j))))), sd (.tup (tab m fun i => .rat (b i))), sd (iR m fun i => ((b i).den : Int)), sd (iT m (N + m + 1) s.T), sd (.int N), so (tab m fun i => .int (s.bas i : Int)), sd (iR (N + m + 1) s.P), sd (.int s.sc), sd (.lst ((enS N s).map fun j : Nat => .int (j : Int))), none, none, none, so (tab N fun j => .rat ((if s.bas i < N then (fun j => if j = s.bas i then Rat.divInt (s.T i (N + m)) s.sc else w j) else w) j)), sd (.int i), none, none]⟩) (evt_icmp .lt (ev_oix 5 (ev_name 13 rfl) ⟨_, rfl⟩ rfl (at_tab hi)) (ev_name 4 rfl)) (fun h => ?_) fun h => ?_)) rfl ⟨rfl, rfl, rfl, rfl, rfl, rfl, rfl, rfl, rfl, rfl, trivial⟩, trivial⟩) <| ex_frz (m := .ls _) 12 rfl <|
        ex_one (es_retS (ev_to (ev_tup (ds := [_, _]) (eva_cons ev_str (eva_cons (ev_tupleOf T.tuple (.inl rfl) (ev_name 12 rfl)) eva_nil)) (by simp)) ?_))
      · have hlt : s.bas i < N := by have := of_decide_eq_true h; omega
        refine ex_to (ex_one (es_asg (ev_make (ds := [_, _]) GK hr ⟨s.T i (N + m), s.sc, rfl, ?_, (hok'.t i (N + m) hi (by omega)).bd, hok'.scB.bd, rfl⟩ (eva_cons (ev_ix ix_last (ev_ix (ix_lst hi) (ev_name 3 rfl) (ev_name 13 rfl)) (ev_neg ev_int)) (eva_cons (ev_name 7 rfl) eva_nil))) (tg_set 12 (ev_oix 5 (ev_name 13 rfl) ⟨_, rfl⟩ rfl (at_tab hi)) ⟨_, rfl⟩ rfl (by rw [tab_len]; exact hlt)))) rfl ⟨rfl, rfl, rfl, rfl, rfl, rfl, rfl, rfl, rfl, ?_, rfl, trivial⟩
        · have := hok'.sc; omega
        · show so ((tab N fun j => D.rat (w j)).set (s.bas i) (D.rat _)) = so _
          rw [tab_set, if_pos hlt]
          congr 3
          funext j
          split <;> rfl
      · have hge : ¬ s.bas i < N := by have := of_decide_eq_false h; omega
        rw [if_neg hge]
        exact ex_nil
      · show D.tup [D.str _, D.tup (Mu.toL (List.map Mu.im _))] = _
        rw [toL_map]
        rfl
end
end K48

namespace K48
open PySem PySem.Spec PyProof.Rows L2

def NS (n : Nat) : Nat := (splS n).length
def spl (n j : Nat) : List Int := (splS n).getD j []
def AX (n i j : Nat) : Bool := part (spl n j) (pr n i).1 (pr n i).2
def bX (n : Nat) (g : Nat → Nat → Rat) (i : Nat) : Rat := g (pr n i).1 (pr n i).2
theorem prL_tab {n : Nat} {g : Nat → Nat → Rat} : (prL n fun x y => D.rat (g x y)) = tab (npr n) fun i => .rat (g (pr n i).1 (pr n i).2) := by
  have e : (prL n fun x y => D.rat (g x y)) = (prI n).map fun p => D.rat (g p.1 p.2) := by unfold prI; rw [prL_map]
  rw [e, map_tab (prI n) (0, 0)]
  rfl
theorem cols_tab {n : Nat} : ((splS n).map fun s => D.tup (prL n fun x y => .rat (cutG s x y))) = tab (NS n) fun j => .tup (tab (npr n) fun i => .rat (bq (AX n i j))) := by
  rw [map_tab (splS n) []]
  refine tab_congr fun j hj => ?_
  rw [prL_tab]
  rfl
abbrev sX (n : Nat) (g : Nat → Nat → Rat) (k : Nat) : Sx := runX (NS n) (npr n) (AX n) (bX n g) k
/-- what the simplex may be asked -/
structure AskX (n : Nat) (g : Nat → Nat → Rat) (k : Nat) : Prop where
  sz : 1 ≤ n ∧ n ≤ 8
  b : ∀ i, i < npr n → 0 ≤ (bX n g i).num ∧ (bX n g i).den < 2 ^ 63 ∧ Bd (bX n g i).num
  run : RunX (NS n) (npr n) (AX n) (bX n g) k
theorem npr64 {n : Nat} (h : n ≤ 8) : npr n ≤ 64 := Nat.le_trans npr_le (Nat.le_trans (Nat.mul_le_mul h h) (by omega))
def wtD (n : Nat) (s : Sx) : D := .tup (((List.range (NS n)).filter fun j => decide (0 < (wX (npr n) (NS n) s j).num)).map fun j => pwD (spl n j, wX (npr n) (NS n) s j))
def fuD (n : Nat) (g : Nat → Nat → Rat) (s : Sx) : D := .tup (tab (npr n) fun i => .rat (Rat.divInt (((bX n g i).den : Int) * (s.sc - s.P (NS n + i))) s.sc))
/-- the paper that the program gives -/
def paperX (n : Nat) (g : Nat → Nat → Rat) (s : Sx) : D := if s.P (NS n + npr n) < 0 then .tup [.str "functional", fuD n g s] else .tup [.str "cuts", wtD n s]
abbrev RDec (ds : List D) (r : D) : Prop := ∃ (n : Nat) (g : Nat → Nat → Rat) (k : Nat), ds = [.met n (qT n g)] ∧ AskX n g k ∧ r = outX (NS n) (npr n) (bX n g) (sX n g k)
theorem sgn_gt (i : Int) : decide (0 < i.sign) = decide (0 < i) := by
  by_cases h : 0 < i
  · rw [Int.sign_eq_one_of_pos h, decide_eq_true h]; rfl
  · rw [decide_eq_false h, decide_eq_false]
    intro z
    exact h (Int.sign_pos_iff.mp z)
section
variable {W : Wd} (T : Fx W.K W.mg W.c)
include T
theorem fp_decided {k} (GF : W.fp (k + 1) "feasible" RFeas) (GC : W.fp (k + 1) "cut_columns" (fun ds r => ∃ (n : Nat), ds = [.int n] ∧ (1 ≤ n ∧ n ≤ 8) ∧ r = .lst ((splS n).map fun s => .tup (prL n fun x y => .rat (cutG s x y))))) (GP : W.fm (k + 1) W.c.M "pairs" (fun ds r => ∃ (n : Nat) (g : Nat → Nat → Rat), ds = [.met n (qT n g)] ∧ n ≤ 8 ∧ r = .tup (prL n fun x y => .rat (g x y)))) (h : DefW W "decided" (top 48)) : W.fp (k + 2) "decided" (fun ds r => ∃ (n : Nat) (g : Nat → Nat → Rat) (k : Nat), ds = [.met n (qT n g)] ∧ AskX n g k ∧ r = outX (NS n) (npr n) (bX n g) (sX n g k)) := by
  obtain ⟨f, h, hm⟩ := h
  have hN : (["m"] : List Str).Nodup := by decide +kernel
  refine fnP_mk (N := ["m"]) (ps := ["m"]) h hm ⟨rfl, rfl, rfl, hN, rfl, by decide +kernel, by decide +kernel⟩ (fun ds d h => by obtain ⟨_, _, _, rfl, _⟩ := h; rfl) ?_ (fun _ _ _ _ _ _ us hl => match us, hl with | [_], _ => rfl)
  rintro ds r ⟨n, g, kk, rfl, ha, rfl⟩ f cdv Ar outer sh hp0 E st hr
  have hN8 := splS_len ha.sz.2
  have hm8 := npr64 ha.sz.2
  refine bodyI (ex_one (es_ret (ev_call (ds := [_, _]) GF hr ⟨NS n, npr n, AX n, bX n g, kk, rfl, ⟨by show (splS n).length ≤ 500; omega, by omega⟩, ha.b, ha.run, rfl⟩ (eva_cons (ev_to (ev_call (ds := [_]) GC hr ⟨n, rfl, ha.sz, rfl⟩ (eva_cons (ev_mn T (ev_name 0 rfl)) eva_nil)) (congrArg D.lst cols_tab)) (eva_cons (ev_to (ev_meth0 GP T.cM hr (fun B v => inM (fun w => lkM)) ⟨n, g, rfl, ha.sz.2, rfl⟩ (ev_name 0 rfl)) (congrArg D.tup prL_tab)) eva_nil))))) ⟨rfl, rfl⟩
theorem fp_cut_weights {k} (GD : W.fp (k + 1) "decided" RDec) (GS : W.fp (k + 1) "splits" RSpl) (GG : W.fm (k + 1) W.c.R "sign" RSign) (h : DefW W "cut_weights" (top 49)) : W.fp (k + 2) "cut_weights" (fun ds r => ∃ (n : Nat) (g : Nat → Nat → Rat) (k : Nat), ds = [.met n (qT n g)] ∧ AskX n g k ∧ r = if (sX n g k).P (NS n + npr n) < 0 then .non else wtD n (sX n g k)) := by
  obtain ⟨f, h, hm⟩ := h
  have hN : (["m", "kind", "told", "split", "weight"] : List Str).Nodup := by decide +kernel
  refine fnP_mk (N := ["m", "kind", "told", "split", "weight"]) (ps := ["m"]) h hm ⟨rfl, rfl, rfl, hN, rfl, by decide +kernel, by decide +kernel⟩ (fun ds d h => by obtain ⟨_, _, _, rfl, _⟩ := h; rfl) ?_ (fun _ _ _ _ _ _ us hl => match us, hl with | [_], _ => rfl)
  rintro ds r ⟨n, g, kk, rfl, ha, rfl⟩ f cdv Ar outer sh hp0 E st hr
  have hN8 : NS n ≤ 127 := splS_len ha.sz.2
  generalize hsx : sX n g kk = s
  by_cases hneg : s.P (NS n + npr n) < 0
  · have e : outX (NS n) (npr n) (bX n g) (sX n g kk) = .tup [.str "functional", fuD n g s] := by rw [hsx]; exact if_pos hneg
    exact bodyI (ex_cons (es_asg (ev_to (ev_call (ds := [_]) GD hr ⟨n, g, kk, rfl, ha, rfl⟩ (eva_cons (ev_name 0 rfl) eva_nil)) e) (tg_tup (tgs_cons (tg_name 1 hN) (tgs_cons (tg_name 2 hN) tgs_nil)))) <| ex_take (evt_to (evt_eq rfl (ev_name 1 rfl) ev_str) (by decide +kernel)) (ex_one (es_ret ev_non))) ⟨by rw [if_pos hneg]; rfl, rfl⟩
  · have e : outX (NS n) (npr n) (bX n g) (sX n g kk) = .tup [.str "weights", .tup (tab (NS n) fun j => .rat (wX (npr n) (NS n) s j))] := by rw [hsx]; exact if_neg hneg
    have ez : zipD ((splS n).map tI) (tab (NS n) fun j => .rat (wX (npr n) (NS n) s j)) = tab (NS n) fun j => .tup [tI (spl n j), .rat (wX (npr n) (NS n) s j)] := by
      rw [map_tab (splS n) []]
      refine tab_ext (by rw [zipD_len, tab_len, tab_len]; exact Nat.min_self _) fun i hi => ?_
      have hl : i < (zipD (tab (splS n).length fun i => tI ((splS n).getD i [])) (tab (NS n) fun j => D.rat (wX (npr n) (NS n) s j))).length := by rw [zipD_len, tab_len, tab_len]; exact Nat.lt_min.mpr ⟨hi, hi⟩
      obtain ⟨x, y, h1, h2, h3⟩ := zipD_get (List.getElem?_eq_getElem hl)
      rw [tab_get (show i < (splS n).length from hi)] at h1
      rw [tab_get hi] at h2
      cases h1; cases h2
      rw [List.getElem?_eq_getElem hl, h3]
      rfl
    refine bodyI (ex_cons (es_asg (ev_to (ev_call (ds := [_]) GD hr ⟨n, g, kk, rfl, ha, rfl⟩ (eva_cons (ev_name 0 rfl) eva_nil)) e) (tg_tup (tgs_cons (tg_name 1 hN) (tgs_cons (tg_name 2 hN) tgs_nil)))) <| ex_skip (evt_to (evt_eq rfl (ev_name 1 rfl) ev_str) (by decide +kernel)) <| ex_one (es_ret (ev_tupleOf T.tuple (.inl rfl) (Ev.frzL (EvL.ev (lc_filter (n := NS n) (g := fun j => .tup [tI (spl n j), .rat (wX (npr n) (NS n) s j)]) [("split", 3), ("weight", 4)] (fun j => decide (0 < (wX (npr n) (NS n) s j).num)) (fun j => pwD (spl n j, wX (npr n) (NS n) s j)) hN (iter_to (it_zip (tup := true) T.zip (eva_cons (ev_call (ds := [_]) GS hr ⟨n, rfl, ha.sz, rfl⟩ (eva_cons (ev_mn T (ev_name 0 rfl)) eva_nil)) (eva_cons (ev_name 2 rfl) eva_nil))) ez) (by omega) fun j hj => turnF fun s0 H0 D0 cl fp => ⟨tg_tup (tgs_cons (tg_name 3 hN) (tgs_cons (tg_name 4 hN) tgs_nil)), evt_to (evt_icmp .gt (ev_meth0 GG T.cR hr (fun B v => inR lkR) ⟨_, rfl, rfl⟩ (ev_name 4 rfl)) ev_int) (sgn_gt _), fun _ => ev_tup (ds := [_, _]) (eva_cons (ev_name 3 rfl) (eva_cons (ev_name 4 rfl) eva_nil)) (by simp)⟩)))))) ⟨?_, rfl⟩
    rw [if_neg hneg]
    show D.tup (keptD _) = D.tup _
    exact congrArg D.tup (keptD_filter (t := fun j => decide (0 < (wX (npr n) (NS n) s j).num)) (w := fun j => pwD (spl n j, wX (npr n) (NS n) s j)) 0 (List.range (NS n)))
theorem fp_cut_functional {k} (GD : W.fp (k + 1) "decided" RDec) (h : DefW W "cut_functional" (top 50)) : W.fp (k + 2) "cut_functional" (fun ds r => ∃ (n : Nat) (g : Nat → Nat → Rat) (k : Nat), ds = [.met n (qT n g)] ∧ AskX n g k ∧ (sX n g k).P (NS n + npr n) < 0 ∧ r = fuD n g (sX n g k)) := by
  obtain ⟨f, h, hm⟩ := h
  have hN : (["m", "kind", "told"] : List Str).Nodup := by decide +kernel
  refine fnP_mk (N := ["m", "kind", "told"]) (ps := ["m"]) h hm ⟨rfl, rfl, rfl, hN, rfl, by decide +kernel, by decide +kernel⟩ (fun ds d h => by obtain ⟨_, _, _, rfl, _⟩ := h; rfl) ?_ (fun _ _ _ _ _ _ us hl => match us, hl with | [_], _ => rfl)
  rintro ds r ⟨n, g, kk, rfl, ha, hneg, rfl⟩ f cdv Ar outer sh hp0 E st hr
  have e : outX (NS n) (npr n) (bX n g) (sX n g kk) = .tup [.str "functional", fuD n g (sX n g kk)] := if_pos hneg
  exact bodyI (ex_cons (es_asg (ev_to (ev_call (ds := [_]) GD hr ⟨n, g, kk, rfl, ha, rfl⟩ (eva_cons (ev_name 0 rfl) eva_nil)) e) (tg_tup (tgs_cons (tg_name 1 hN) (tgs_cons (tg_name 2 hN) tgs_nil)))) <| ex_one (es_ret (ev_if (t := true) (evt_to (evt_eq rfl (ev_name 1 rfl) ev_str) (by decide +kernel)) (fun _ => ev_name 2 rfl) fun h => nomatch h))) ⟨rfl, rfl⟩
theorem fp_cut_paper {k} (GW : W.fp (k + 1) "cut_weights" (fun ds r => ∃ (n : Nat) (g : Nat → Nat → Rat) (k : Nat), ds = [.met n (qT n g)] ∧ AskX n g k ∧ r = if (sX n g k).P (NS n + npr n) < 0 then .non else wtD n (sX n g k))) (GU : W.fp (k + 1) "cut_functional" (fun ds r => ∃ (n : Nat) (g : Nat → Nat → Rat) (k : Nat), ds = [.met n (qT n g)] ∧ AskX n g k ∧ (sX n g k).P (NS n + npr n) < 0 ∧ r = fuD n g (sX n g k))) (h : DefW W "cut_paper" (top 52)) : W.fp (k + 2) "cut_paper" (fun ds r => ∃ (n : Nat) (g : Nat → Nat → Rat) (k : Nat), ds = [.met n (qT n g)] ∧ AskX n g k ∧ r = paperX n g (sX n g k)) := by
  obtain ⟨f, h, hm⟩ := h
  have hN : (["metric", "weights"] : List Str).Nodup := by decide +kernel
  refine fnP_mk (N := ["metric", "weights"]) (ps := ["metric"]) h hm ⟨rfl, rfl, rfl, hN, rfl, by decide +kernel, by decide +kernel⟩ (fun ds d h => by obtain ⟨_, _, _, rfl, _⟩ := h; rfl) ?_ (fun _ _ _ _ _ _ us hl => match us, hl with | [_], _ => rfl)
  rintro ds r ⟨n, g, kk, rfl, ha, rfl⟩ f cdv Ar outer sh hp0 E st hr
  by_cases hneg : (sX n g kk).P (NS n + npr n) < 0
  · exact bodyI (ex_cons (es_set 1 (ev_to (ev_call (ds := [_]) GW hr ⟨n, g, kk, rfl, ha, rfl⟩ (eva_cons (ev_name 0 rfl) eva_nil)) (if_pos hneg)) rfl hN) <| ex_skip (evt_notN (d := .non) (ev_name 1 rfl)) <| ex_one (es_ret (ev_tup (ds := [_, _]) (eva_cons ev_str (eva_cons (ev_call (ds := [_]) GU hr ⟨n, g, kk, rfl, ha, hneg, rfl⟩ (eva_cons (ev_name 0 rfl) eva_nil)) eva_nil)) (by simp)))) ⟨(if_pos hneg).symm, rfl⟩
  · exact bodyI (ex_cons (es_set 1 (ev_to (ev_call (ds := [_]) GW hr ⟨n, g, kk, rfl, ha, rfl⟩ (eva_cons (ev_name 0 rfl) eva_nil)) (if_neg hneg)) rfl hN) <| ex_take (evt_notN (d := wtD n (sX n g kk)) (ev_name 1 rfl)) <| ex_one (es_ret (ev_tup (ds := [_, _]) (eva_cons ev_str (eva_cons (ev_name 1 rfl) eva_nil)) (by simp)))) ⟨(if_neg hneg).symm, rfl⟩
end
end K48

namespace K48
open PySem PySem.Spec PyProof.Rows L2
section
variable {X : Cx} {c : Cl} {st : Addr} {C C0 C1 C2 C3 : Cfg} {e a b e2 elt : Expr} {d d1 d2 d3 : D} {m m1 m2 : Mu} {pos p p2 p1 p3 apos tpos : Pos} {l l' : List D} {y : Str}
/-- the state's numbers -/
def stI (s : Int × Int) : Bool → Int
  | false => s.1
  | true => s.2
def stSet (s : Int × Int) (v : Int) : Bool → Int × Int
  | false => (v, s.2)
  | true => (s.1, v)
/-- state[0], state[1] -/
theorem ev_st (n : Nat) (t : Bool) {s : Int × Int} {kk : Nat} (hs : C.ρ[n]? = some (some .stt)) (hS : C.S = some s) (hN : X.N[n]? = some y := by rfl) (hv : Vis X.env.scope y := by first | exact Or.inl rfl | exact Or.inr (Or.inl rfl) | exact Or.inr (Or.inr rfl))
    (hd : (y == ("__debug__" : Str)) = false := by decide) (hcd : (y == ("__classdict__" : Str)) = false := by decide) (hp : PlainIx (.Constant (.int (if t then 1 else 0)) kk p2) := by intro _ _; rfl) : Ev X c st (.Subscript (.Name y p) (.Constant (.int (if t then 1 else 0)) kk p2) pos) C (.im (.int (stI s t))) C := evI fun σ B H F k Q q => by
  refine ⟨_, pe_ix ix_list (pe_var hN hv hd hcd) pe_int hp, .ref st, k.stt n hs, st, [.int s.1, .int s.2], _, .int (stI s t), rfl, rfl, SqL.of (k.stc s.1 s.2 hS), ?_, q _ B H F k rfl Ext.refl⟩
  cases t <;> rfl
/-- state[0] = .., state[1] = .. -/
theorem tg_st (n : Nat) (t : Bool) {s : Int × Int} {v : Int} {kk : Nat} (hs : C.ρ[n]? = some (some .stt)) (hS : C.S = some s) (hN : X.N[n]? = some y := by rfl) (hv : Vis X.env.scope y := by first | exact Or.inl rfl | exact Or.inr (Or.inl rfl) | exact Or.inr (Or.inr rfl))
    (hd : (y == ("__debug__" : Str)) = false := by decide) (hcd : (y == ("__classdict__" : Str)) = false := by decide)
    (ha : ∀ v, assign (.Subscript (.Name y p) (.Constant (.int (if t then 1 else 0)) kk p2) pos) X.env v = (do
      let ov ← holding [v] (eval (.Name y p) X.env)
      let iv ← holding [v, ov] (eval (.Constant (.int (if t then 1 else 0)) kk p2) X.env)
      standAt pos
      holding [v, ov, iv] (setItem ov iv v)
      release [v, ov, iv] []) := by intro _; rfl) : Tg X c st (.Subscript (.Name y p) (.Constant (.int (if t then 1 else 0)) kk p2) pos) C (.int v) ⟨some (stSet s v t), C.ρ⟩ [] := fun σ B H F u k r Q q => by
  cases (show u = _ from r)
  obtain ⟨F0, e, ow⟩ := k.own
  have e' : F = st :: F0 := by rw [e, hS]; rfl
  have nd := k.nd
  rw [e'] at nd
  have hst := k.stc s.1 s.2 hS
  refine ⟨_, pg_sub (pe_var hN hv hd hcd) pe_int set_list ha, .ref st, k.stt n hs, st, [.int s.1, .int s.2], _, (if t then 1 else 0), rfl, rfl, hst, by cases t <;> rfl, ?_⟩
  have el : ([V.int s.1, V.int s.2] : List V).set (if t then 1 else 0) (.int v) = [.int (stSet s v t).1, .int (stSet s v t).2] := by cases t <;> rfl
  rw [el]
  have up : ∀ a, a ≠ st → upd H st (.lst [.int (stSet s v t).1, .int (stSet s v t).2]) a = H a := fun a h => upd_ne h
  refine q σ B _ F ⟨fun a u ea => ?_, k.nd, k.out, ⟨F0, e', ow.mono (Same.refl _) fun a ha => up a fun z => (List.nodup_cons.mp nd).1 (z ▸ ha)⟩, fun x y z => ?_⟩ ⟨Same.refl _, fun a o ha ea => ?_, fun _ _ _ _ h => h, fun a ha => .inl ha⟩ ⟨rfl, fun _ _ => rfl⟩
  · rw [up a fun z => by rw [z, k.out st (by rw [e']; simp)] at ea; cases ea]; exact k.sub a u ea
  · have z' : stSet s v t = (x, y) := Option.some.inj z
    rw [upd_same, z']
  · rw [up a fun z => ha (by rw [z, e']; simp)]; exact ea
/-- len of an owned list -/
theorem ev_olen (T : Fx X.K X.mg c) (n : Nat) {ms : List Mu} (hs : C.ρ[n]? = some (some (.mu (.ls ms)))) (hN : X.N[n]? = some y := by rfl) (hv : Vis X.env.scope y := by first | exact Or.inl rfl | exact Or.inr (Or.inl rfl) | exact Or.inr (Or.inr rfl))
    (hd : (y == ("__debug__" : Str)) = false := by decide) (hcd : (y == ("__classdict__" : Str)) = false := by decide) (hg : Gl X "len" := by rfl) (he : starEach [.Name y p2] X.env = (false, eval (.Name y p2) X.env) :: starEach [] X.env := by rfl) : Ev X c st (.Call (.Name "len" p) [.Name y p2] [] pos) C (.im (.int (ms.length : Nat))) C := evI fun σ B H F k Q q => by
  obtain ⟨l0, acc, _, _, _, ew, _, hq, oa, _⟩ := own_slot n k hs
  exact ⟨_, pe_callB call_len hg T.len PySem.boot_len (pa_cons (pe_var hN hv hd hcd) pa_nil he) (by decide) (by decide) he rfl, .ref l0, ew, _, _, rfl, .inl ⟨acc, SqL.of hq, oa.len.symm⟩, q _ B H F k rfl Ext.refl⟩
end
end K48

namespace K48
open PySem PySem.Spec PyProof.Rows L2

/-! ### the drawn numbers -/
def nx (s : Int × Int) : Int := (s.2 * 48271 + 11) % 2147483647
def tkV (s : Int × Int) (m : Nat) : Nat := if 0 < s.1 then (s.1 % (m : Int)).toNat else ((nx s / 7) % (m : Int)).toNat
def tkS (s : Int × Int) (m : Nat) : Int × Int := if 0 < s.1 then (s.1 / (m : Int), s.2) else (s.1, nx s)
theorem tkV_lt {s : Int × Int} {m : Nat} (h : 0 < m) : tkV s m < m := by
  have h0 : (0 : Int) < (m : Int) := by omega
  unfold tkV
  split
  · have h1 := Int.emod_nonneg s.1 (show (m : Int) ≠ 0 by omega)
    have h2 := Int.emod_lt_of_pos s.1 h0
    omega
  · have h1 := Int.emod_nonneg (nx s / 7) (show (m : Int) ≠ 0 by omega)
    have h2 := Int.emod_lt_of_pos (nx s / 7) h0
    omega
abbrev RTake (S : Int × Int) (ds : List D) (r : D) (S' : Int × Int) : Prop := ∃ m : Nat, ds = [.int m] ∧ (0 < m ∧ m < 2 ^ 60) ∧ r = .int (tkV S m) ∧ S' = tkS S m
/-- a drawn order -/
def ordL (n : Nat) (s : Int × Int) : (Int × Int) × List Nat × List Nat := lp (fun _ (a : (Int × Int) × List Nat × List Nat) => (tkS a.1 a.2.1.length, a.2.1.eraseIdx (tkV a.1 a.2.1.length), a.2.2 ++ [a.2.1.getD (tkV a.1 a.2.1.length) 0])) n (s, List.range n, [])
abbrev ROrd (S : Int × Int) (ds : List D) (r : D) (S' : Int × Int) : Prop := ∃ n : Nat, ds = [.int n] ∧ (1 ≤ n ∧ n ≤ 16) ∧ r = .lst ((ordL n S).2.2.map fun j : Nat => .int (j : Int)) ∧ S' = (ordL n S).1
theorem erase_map {α β : Type} {f : α → β} : ∀ {l : List α} {i : Nat}, (l.map f).eraseIdx i = (l.eraseIdx i).map f
  | [], _ => rfl
  | a :: l, 0 => rfl
  | a :: l, i + 1 => by
    show f a :: (l.map f).eraseIdx i = f a :: (l.eraseIdx i).map f
    rw [erase_map]
/-- shortest paths -/
def fwS (d : Nat → Nat → Int) (k x y : Nat) : Nat → Nat → Int := fun a b => if a = x ∧ b = y then (if d x k + d k y < d x y then d x k + d k y else d x y) else d a b
def fwY (n k x : Nat) (d : Nat → Nat → Int) : Nat → Nat → Int := lp (fun y d => fwS d k x y) n d
def fwX (n k : Nat) (d : Nat → Nat → Int) : Nat → Nat → Int := lp (fun x d => fwY n k x d) n d
def fwK (n : Nat) (d : Nat → Nat → Int) : Nat → Nat → Int := lp (fun k d => fwX n k d) n d
/-- rows of tuples, of lists -/
abbrev rT (n : Nat) (d : Nat → Nat → Int) : D := .lst (tab n fun x => .tup (tab n fun y => .int (d x y)))
abbrev rL (n : Nat) (d : Nat → Nat → Int) : D := .lst (tab n fun x => .lst (tab n fun y => .int (d x y)))
abbrev oR (n : Nat) (d : Nat → Nat → Int) : Option Sl := so2 (tab n fun x => tab n fun y => .int (d x y))
theorem toL_mrow : ∀ rows : List (List D), Mu.toL (rows.map mrow) = rows.map D.lst
  | [] => rfl
  | r :: rows => by
    show (mrow r).toD :: Mu.toL (rows.map mrow) = _
    rw [toL_mrow rows]
    show D.lst (Mu.toL (r.map Mu.im)) :: _ = _
    rw [toL_map]; rfl
theorem oR_frz {n : Nat} {d : Nat → Nat → Int} : D.lst (Mu.toL ((tab n fun x => tab n fun y => D.int (d x y)).map mrow)) = rL n d := by rw [toL_mrow, tab_map]
theorem set2 {n x y : Nat} {d : Nat → Nat → Int} {v : Int} (hx : x < n) (hy : y < n) : ((tab n fun a => tab n fun b => D.int (d a b)).set x ((tab n fun b => D.int (d x b)).set y (.int v))) = tab n fun a => tab n fun b => .int (if a = x ∧ b = y then v else d a b) := by
  rw [tab_set, tab_set]
  refine tab_congr fun a ha => ?_
  by_cases e : a = x
  · subst e
    rw [if_pos rfl]
    refine tab_congr fun b hb => ?_
    by_cases e2 : b = y
    · rw [if_pos e2, if_pos ⟨rfl, e2⟩]
    · rw [if_neg e2, if_neg fun h => e2 h.2]
  · rw [if_neg e]
    refine tab_congr fun b hb => ?_
    rw [if_neg fun h => e h.1]
abbrev RShort (ds : List D) (r : D) : Prop := ∃ (n : Nat) (d : Nat → Nat → Int), ds = [rL n d] ∧ n ≤ 1000 ∧ r = rT n (fwK n d)
section
variable {W : Wd} (T : Fx W.K W.mg W.c)
include T
theorem fs_law_take {k}  (h : DefW W "_law_take" (top 55)) : W.fs (k + 2) "_law_take" (fun S ds r S' => ∃ m : Nat, ds = [.int m] ∧ (0 < m ∧ m < 2 ^ 60) ∧ r = .int (tkV S m) ∧ S' = tkS S m) := by
  obtain ⟨f, h, hm⟩ := h
  have hN : (["_law_state_here", "_law_m", "_law_value"] : List Str).Nodup := by decide +kernel
  refine fnS_mk (N := ["_law_state_here", "_law_m", "_law_value"]) (ps := ["_law_state_here", "_law_m"]) h hm ⟨rfl, rfl, rfl, hN, rfl, by decide +kernel, by decide +kernel⟩ (fun S ds d S' h => by obtain ⟨_, rfl, _⟩ := h; rfl) ?_ (fun _ _ _ _ _ _ us hl => match us, hl with | [_, _], _ => rfl)
  rintro S ds r S' ⟨m, rfl, hm', rfl, rfl⟩ f cdv Ar outer sh hp0 E st hr
  have m0 : (0 : Int) < (m : Int) := by omega
  have mB : Bd (m : Int) := Bd.sm (by omega)
  by_cases h : 0 < S.1
  · have e1 : ((tkV S m : Nat) : Int) = S.1 % (m : Int) := by
      unfold tkV
      rw [if_pos h]
      have h1 := Int.emod_nonneg S.1 (show (m : Int) ≠ 0 by omega)
      omega
    have e2 : tkS S m = stSet S (S.1 / (m : Int)) false := if_pos h
    rw [e1, e2]
    exact bodyI (ex_take (evt_to (evt_icmp .gt (ev_st 0 false (s := S) rfl rfl) ev_int) (decide_eq_true h)) <| ex_cons (es_set 2 (ev_mod m0 (ev_int1 T.int (ev_st 0 false (s := S) rfl rfl)) (ev_name 1 rfl)) rfl hN) <| ex_cons (es_asg (ev_div (Bd.div m0 mB) (ev_st 0 false (s := S) rfl rfl) (ev_name 1 rfl)) (tg_st 0 false (s := S) rfl rfl)) <| ex_one (es_ret (ev_name 2 rfl))) ⟨rfl, rfl⟩
  · have e1 : ((tkV S m : Nat) : Int) = (nx S / 7) % (m : Int) := by
      unfold tkV
      rw [if_neg h]
      have h1 := Int.emod_nonneg (nx S / 7) (show (m : Int) ≠ 0 by omega)
      omega
    have e2 : tkS S m = stSet S (nx S) true := if_neg h
    rw [e1, e2]
    exact bodyI (ex_skip (evt_to (evt_icmp .gt (ev_st 0 false (s := S) rfl rfl) ev_int) (decide_eq_false h)) <| ex_cons (es_asg (ev_mod (by decide) (ev_int1 T.int (ev_add (ev_mul64 (.inr (by decide)) (ev_st 0 true (s := S) rfl rfl) ev_int) ev_int)) ev_int) (tg_st 0 true (s := S) rfl rfl)) <| ex_one (es_ret (ev_mod m0 (ev_int1 T.int (ev_div (Bd.div (by decide) (Bd.sm (by decide))) (ev_st 0 true (s := stSet S (nx S) true) rfl rfl) ev_int)) (ev_name 1 rfl)))) ⟨rfl, rfl⟩
theorem fs_law_order_of {k} (GT : W.fs (k + 1) "_law_take" RTake) (h : DefW W "_law_order_of" (top 56)) : W.fs (k + 2) "_law_order_of" (fun S ds r S' => ∃ n : Nat, ds = [.int n] ∧ (1 ≤ n ∧ n ≤ 16) ∧ r = .lst ((ordL n S).2.2.map fun j : Nat => .int (j : Int)) ∧ S' = (ordL n S).1) := by
  obtain ⟨f, h, hm⟩ := h
  have hN : (["_law_state_here", "_law_n", "_law_left", "_law_found", "_law_k"] : List Str).Nodup := by decide +kernel
  refine fnS_mk (N := ["_law_state_here", "_law_n", "_law_left", "_law_found", "_law_k"]) (ps := ["_law_state_here", "_law_n"]) h hm ⟨rfl, rfl, rfl, hN, rfl, by decide +kernel, by decide +kernel⟩ (fun S ds d S' h => by obtain ⟨_, rfl, _⟩ := h; rfl) ?_ (fun _ _ _ _ _ _ us hl => match us, hl with | [_, _], _ => rfl)
  rintro S ds r S' ⟨n, rfl, hn, rfl, rfl⟩ f cdv Ar outer sh hp0 E st hr
  refine bodyI (ex_cons (es_set 2 (ev_to' (ev_listRg T (ev_name 1 rfl) (by omega)) (show _ = Mu.ls (((List.range n).map fun j : Nat => D.int (j : Int)).map Mu.im) by rw [Int.toNat_natCast, rg1_tab]; rfl)) rfl hN) <| ex_cons (es_set 3 (ev_lst (ms := []) eva_nil (by simp)) rfl hN) <| ex_cons (es_loop (n := n) (g := fun i => .int (i : Int)) (G := fun a : (Int × Int) × List Nat × List Nat => ⟨some a.1, [some .stt, sd (.int n), so (a.2.1.map fun j : Nat => .int (j : Int)), so (a.2.2.map fun j : Nat => .int (j : Int)), none]⟩) (f := fun _ (a : (Int × Int) × List Nat × List Nat) => (tkS a.1 a.2.1.length, a.2.1.eraseIdx (tkV a.1 a.2.1.length), a.2.2 ++ [a.2.1.getD (tkV a.1 a.2.1.length) 0])) (P := fun i a => a.2.1.length + i = n ∧ a.2.2.length = i) (a0 := (S, List.range n, [])) ⟨by simp, rfl⟩ PassesOwn.never (it_rg T (ev_name 1 rfl) (by omega)) fun i a hi ha => ⟨turnI (tg_name 4 hN) (ex_one (es_expr (ev_appD (d := .int ((a.2.1.getD (tkV a.1 a.2.1.length) 0 : Nat) : Int)) 3 (ev_pop (jn := tkV a.1 a.2.1.length) 2 (ev_callS (ds := [_]) (s' := tkS a.1 a.2.1.length) 0 GT hr rfl (eva_cons (ev_to (ev_olen T 2 rfl) (show _ = D.int ((a.2.1.length : Nat) : Int) by rw [List.length_map, List.length_map])) eva_nil) rfl ⟨a.2.1.length, rfl, by omega, rfl, rfl⟩) ⟨_, rfl⟩ rfl ?_ ?_) ⟨_, rfl⟩ rfl ?_))) rfl ⟨rfl, rfl, ?_, ?_, trivial⟩, ?_⟩) <| ex_frz (m := .ls _) 3 rfl <| ex_one (es_ret (ev_name 3 rfl))) ⟨?_, rfl⟩
  · have hlt : tkV a.1 a.2.1.length < a.2.1.length := tkV_lt (by omega)
    show (a.2.1.map fun j : Nat => D.int (j : Int))[tkV a.1 a.2.1.length]? = some (.int ((a.2.1.getD (tkV a.1 a.2.1.length) 0 : Nat) : Int))
    rw [List.getElem?_map, getD_at (z := 0) hlt]; rfl
  · rw [List.length_map]; omega
  · rw [List.length_map]; omega
  · show so ((a.2.1.map fun j : Nat => D.int (j : Int)).eraseIdx (tkV a.1 a.2.1.length)) = so ((a.2.1.eraseIdx (tkV a.1 a.2.1.length)).map fun j : Nat => D.int (j : Int))
    rw [erase_map]
  · show so ((a.2.2.map fun j : Nat => D.int (j : Int)) ++ [_]) = so ((a.2.2 ++ [_]).map fun j : Nat => D.int (j : Int))
    rw [List.map_append]; rfl
  · have hlt : tkV a.1 a.2.1.length < a.2.1.length := tkV_lt (by omega)
    refine ⟨?_, by simp [ha.2]⟩
    show (a.2.1.eraseIdx (tkV a.1 a.2.1.length)).length + (i + 1) = n
    rw [List.length_eraseIdx_of_lt hlt]; omega
  · show D.lst (Mu.toL (List.map Mu.im _)) = _
    rw [toL_map]
    rfl
theorem fp_law_shortest {k}  (h : DefW W "_law_shortest" (top 57)) : W.fp (k + 2) "_law_shortest" (fun ds r => ∃ (n : Nat) (d : Nat → Nat → Int), ds = [rL n d] ∧ n ≤ 1000 ∧ r = rT n (fwK n d)) := by
  obtain ⟨f, h, hm⟩ := h
  have hN : (["_law_rows_here", "_law_n", "_law_found", "_law_row", "_law_k", "_law_x", "_law_y"] : List Str).Nodup := by decide +kernel
  refine fnP_mk (N := ["_law_rows_here", "_law_n", "_law_found", "_law_row", "_law_k", "_law_x", "_law_y"]) (ps := ["_law_rows_here"]) h hm ⟨rfl, rfl, rfl, hN, rfl, by decide +kernel, by decide +kernel⟩ (fun ds d h => by obtain ⟨_, _, rfl, _⟩ := h; rfl) ?_ (fun _ _ _ _ _ _ us hl => match us, hl with | [_], _ => rfl)
  rintro ds r ⟨n, d0, rfl, hn, rfl⟩ f cdv Ar outer sh hp0 E st hr
  refine bodyI (ex_cons (es_set 1 (ev_to (ev_len T.len rfl (ev_name 0 rfl)) (show _ = D.int (n : Int) by rw [tab_len])) rfl hN) <| ex_cons (es_setL 2 (EvL.to (lc_mapM [("_law_row", 3)] (fun x => mrow (tab n fun y => .int (d0 x y))) hN (it_list (ev_name 0 rfl)) hn fun x hx => turn fun s0 H0 D0 cl fp => ⟨tg_name 3 hN, ev_listOf T.list (.inl rfl) (ev_name 3 rfl)⟩) (show _ = Mu.ls ((tab n fun x => tab n fun y => D.int (d0 x y)).map mrow) by rw [tab_map])) rfl) <|
    ex_cons (es_loop (n := n) (g := fun i => .int (i : Int)) (G := fun d : Nat → Nat → Int => ⟨none, [sd (rL n d0), sd (.int n), oR n d, none, none, none, none]⟩) (f := fun k d => fwX n k d) (P := fun _ _ => True) (a0 := d0) trivial PassesOwn.never (it_rg T (ev_name 1 rfl) (by omega)) fun k d hk _ => ⟨turnI (tg_name 4 hN) (ex_one (es_loop (n := n) (g := fun i => .int (i : Int)) (G := fun d : Nat → Nat → Int => ⟨none, [sd (rL n d0), sd (.int n), oR n d, none, sd (.int k), none, none]⟩) (f := fun x d => fwY n k x d) (P := fun _ _ => True) (a0 := d) trivial PassesOwn.never (it_rg T (ev_name 1 rfl) (by omega)) fun x d hx _ => ⟨turnI (tg_name 5 hN) (ex_one (es_loop (n := n) (g := fun i => .int (i : Int)) (G := fun d : Nat → Nat → Int => ⟨none, [sd (rL n d0), sd (.int n), oR n d, none, sd (.int k), sd (.int x), none]⟩) (f := fun y d => fwS d k x y) (P := fun _ _ => True) (a0 := d) trivial PassesOwn.never (it_rg T (ev_name 1 rfl) (by omega)) fun y d hy _ => ⟨turnI (tg_name 6 hN) (ex_one (es_asg (ev_min T.min (eva_cons (ev_oix2 2 6 (ev_name 5 rfl) ⟨_, rfl⟩ rfl rfl (at_tab hx) (at_tab hy)) (eva_cons (ev_add (ev_oix2 2 4 (ev_name 5 rfl) ⟨_, rfl⟩ rfl rfl (at_tab hx) (at_tab hk)) (ev_oix2 2 6 (ev_name 4 rfl) ⟨_, rfl⟩ rfl rfl (at_tab hk) (at_tab hy))) eva_nil))) (tg_set2 2 5 6 rfl rfl rfl (tab_get hx) (by rw [tab_len]; exact hy)))) rfl ⟨rfl, rfl, congrArg (fun z => (some (Sl.mu (.ls (z.map mrow))) : Option Sl)) (set2 hx hy), rfl, rfl, trivial⟩, trivial⟩)) rfl ⟨rfl, rfl, rfl, rfl, trivial⟩, trivial⟩)) rfl ⟨rfl, rfl, rfl, trivial⟩, trivial⟩) <|
    ex_frz (m := .ls _) 2 rfl <| ex_one (es_ret (Ev.frzL (EvL.ev (lc_map [("_law_row", 3)] (fun x => .tup (tab n fun y => .int (fwK n d0 x y))) hN (it_list (ev_to (ev_name 2 rfl) oR_frz)) hn fun x hx => turn fun s0 H0 D0 cl fp => ⟨tg_name 3 hN, ev_tupleOf T.tuple (.inl rfl) (ev_name 3 rfl)⟩))))) ⟨rfl, rfl⟩
theorem fp_law_renamed {k}  (h : DefW W "_law_renamed" (top 59)) : W.fp (k + 2) "_law_renamed" (fun ds r => ∃ (n m : Nat) (g : Nat → Nat → Int) (o : List Nat), ds = [rT m g, .lst (o.map fun j : Nat => .int (j : Int))] ∧ n ≤ 1000 ∧ o.length = n ∧ (∀ i, i < n → o.getD i 0 < m) ∧ r = rT n fun x y => g (o.getD x 0) (o.getD y 0)) := by
  obtain ⟨f, h, hm⟩ := h
  have hN : (["_law_rows_here", "_law_order", "_law_x", "_law_y"] : List Str).Nodup := by decide +kernel
  refine fnP_mk (N := ["_law_rows_here", "_law_order", "_law_x", "_law_y"]) (ps := ["_law_rows_here", "_law_order"]) h hm ⟨rfl, rfl, rfl, hN, rfl, by decide +kernel, by decide +kernel⟩ (fun ds d h => by obtain ⟨_, _, _, _, rfl, _⟩ := h; rfl) ?_ (fun _ _ _ _ _ _ us hl => match us, hl with | [_, _], _ => rfl)
  rintro ds r ⟨n, m, g, o, rfl, hn, rfl, ho, rfl⟩ f cdv Ar outer sh hp0 E st hr
  have eo : (o.map fun j : Nat => D.int (j : Int)) = tab o.length fun i => .int ((o.getD i 0 : Nat) : Int) := map_tab o 0 _
  rw [eo]
  refine bodyI (ex_one (es_ret (Ev.frzL (EvL.ev (lc_map [("_law_x", 2)] (fun x => .tup (tab o.length fun y => .int (g (o.getD x 0) (o.getD y 0)))) hN (it_list (ev_name 1 rfl)) hn fun x hx => ?_))))) ⟨rfl, rfl⟩
  refine turn fun s0 H0 D0 cl fp => ⟨tg_name 2 hN, ev_tupleOf T.tuple (.inl rfl) (Ev.frzL (EvL.ev (lc_map [("_law_y", 3)] (fun y => .int (g (o.getD x 0) (o.getD y 0))) hN (it_list (ev_name 1 rfl)) hn fun y hy => ?_)))⟩
  exact turn fun s1 H1 D1 cl1 fp1 => ⟨tg_name 3 hN, ev_ix (ix_tup (ho y hy)) (ev_ix (ix_lst (ho x hx)) (ev_name 0 rfl) (ev_name 2 rfl)) (ev_name 3 rfl)⟩
end
end K48

namespace K48
open PySem PySem.Spec PyProof.Rows L2

theorem farD {x y : Nat} : True := trivial
/-- both entries of an edge -/
def sy2 (d : Nat → Nat → Int) (x z : Nat) (v : Int) : Nat → Nat → Int := fun a b => if a = z ∧ b = x then v else if a = x ∧ b = z then v else d a b
def far (x y : Nat) : Int := if x = y then 0 else 10000
theorem far_t {x y : Nat} (h : decide ((x : Int) = (y : Int)) = true) : D.int 0 = D.int (far x y) := by
  have e : x = y := by have := of_decide_eq_true h; omega
  unfold far; rw [if_pos e]
theorem far_f {x y : Nat} (h : decide ((x : Int) = (y : Int)) = false) : D.int 10000 = D.int (far x y) := by
  have e : ¬ x = y := by have := of_decide_eq_false h; omega
  unfold far; rw [if_neg e]
def webS (thick x y : Nat) (a : (Int × Int) × (Nat → Nat → Int)) : (Int × Int) × (Nat → Nat → Int) :=
  if y + 1 = x then (tkS (tkS a.1 x) 4, sy2 a.2 x (tkV a.1 x) (1 + (tkV (tkS a.1 x) 4 : Nat)))
  else if tkV a.1 thick = 0 then (tkS (tkS a.1 thick) 4, sy2 a.2 x y (1 + (tkV (tkS a.1 thick) 4 : Nat))) else (tkS a.1 thick, a.2)
def webX (thick x : Nat) (a : (Int × Int) × (Nat → Nat → Int)) : (Int × Int) × (Nat → Nat → Int) := lp (fun y a => webS thick x y a) x a
def webR (n thick : Nat) (s : Int × Int) : (Int × Int) × (Nat → Nat → Int) := lp (fun x a => webX thick x a) n (s, far)
def treS (x : Nat) (a : (Int × Int) × (Nat → Nat → Int)) : (Int × Int) × (Nat → Nat → Int) := (tkS (tkS a.1 x) 4, sy2 a.2 x (tkV a.1 x) (1 + (tkV (tkS a.1 x) 4 : Nat)))
def treR (m : Nat) (s : Int × Int) : (Int × Int) × (Nat → Nat → Int) := lp (fun i a => treS (1 + i) a) (m - 1) (s, far)
abbrev idD (a b : Nat) : Nat := a
theorem set22 {n x z : Nat} {d : Nat → Nat → Int} {v : Int} (hx : x < n) (hz : z < n) : (((tab n fun a => tab n fun b => D.int (d a b)).set x ((tab n fun b => D.int (d x b)).set z (.int v))).set z ((tab n fun b => D.int (if z = x ∧ b = z then v else d z b)).set x (.int v))) = tab n fun a => tab n fun b => .int (sy2 d x z v a b) := by
  rw [set2 hx hz, set2 (d := fun a b => if a = x ∧ b = z then v else d a b) hz hx]
  rfl
theorem get22 {n x z : Nat} {d : Nat → Nat → Int} {v : Int} (hx : x < n) (hz : z < n) : ((tab n fun a => tab n fun b => D.int (d a b)).set x ((tab n fun b => D.int (d x b)).set z (.int v)))[z]? = some (tab n fun b => D.int (if z = x ∧ b = z then v else d z b)) := by
  rw [set2 hx hz]
  exact tab_get hz
abbrev RWeb (S : Int × Int) (ds : List D) (r : D) (S' : Int × Int) : Prop := ∃ n thick : Nat, ds = [.int n, .int thick] ∧ (1 ≤ n ∧ n ≤ 16) ∧ (1 ≤ thick ∧ thick ≤ 100) ∧ r = rT n (fwK n (webR n thick S).2) ∧ S' = (webR n thick S).1
section
variable {X : Cx} {c : Cl} {st : Addr} {C : Cfg} {e1 e2 : Expr} {pos : Pos}
/-- rows[x][z], rows[z][x] = v, v -/
theorem tg_edge {S : Option (Int × Int)} {ρ : List (Option Sl)} {n x z kr kx kz : Nat} {d : Nat → Nat → Int} {v : Int} {yr yx yz : Str} {q1 q2 q3 q4 q5 q6 q7 q8 q9 q0 : Pos} {kk : Nat} (hx : x < n) (hz : z < n) (h0 : ρ[kr]? = some (oR n d)) (h1 : ρ[kx]? = some (sd (.int (x : Int)))) (h2 : ρ[kz]? = some (sd (.int (z : Int)))) (hrx : kr ≠ kx) (hrz : kr ≠ kz)
    (hN : X.N[kr]? = some yr) (hNx : X.N[kx]? = some yx) (hNz : X.N[kz]? = some yz) (vr : Vis X.env.scope yr) (vx : Vis X.env.scope yx) (vz : Vis X.env.scope yz)
    (dr : (yr == ("__debug__" : Str)) = false) (cr : (yr == ("__classdict__" : Str)) = false) (dx : (yx == ("__debug__" : Str)) = false) (cx : (yx == ("__classdict__" : Str)) = false) (dz : (yz == ("__debug__" : Str)) = false) (cz : (yz == ("__classdict__" : Str)) = false)
    (ha : ∀ v, assign (.Subscript (.Subscript (.Name yr q1) (.Name yx q2) q3) (.Name yz q4) q5) X.env v = (do
      let ov ← holding [v] (eval (.Subscript (.Name yr q1) (.Name yx q2) q3) X.env)
      let iv ← holding [v, ov] (eval (.Name yz q4) X.env)
      standAt q5
      holding [v, ov, iv] (setItem ov iv v)
      release [v, ov, iv] []))
    (hb : ∀ v, assign (.Subscript (.Subscript (.Name yr q6) (.Name yz q7) q8) (.Name yx q9) q0) X.env v = (do
      let ov ← holding [v] (eval (.Subscript (.Name yr q6) (.Name yz q7) q8) X.env)
      let iv ← holding [v, ov] (eval (.Name yx q9) X.env)
      standAt q0
      holding [v, ov, iv] (setItem ov iv v)
      release [v, ov, iv] []))
    (hs : (assignEach [.Subscript (.Subscript (.Name yr q1) (.Name yx q2) q3) (.Name yz q4) q5, .Subscript (.Subscript (.Name yr q6) (.Name yz q7) q8) (.Name yx q9) q0] X.env).map (·.2) = assign (.Subscript (.Subscript (.Name yr q1) (.Name yx q2) q3) (.Name yz q4) q5) X.env :: (assignEach [.Subscript (.Subscript (.Name yr q6) (.Name yz q7) q8) (.Name yx q9) q0] X.env).map (·.2))
    (hs2 : (assignEach [.Subscript (.Subscript (.Name yr q6) (.Name yz q7) q8) (.Name yx q9) q0] X.env).map (·.2) = assign (.Subscript (.Subscript (.Name yr q6) (.Name yz q7) q8) (.Name yx q9) q0) X.env :: (assignEach [] X.env).map (·.2))
    (hc : X.calm = true) (hn : (assignEach [.Subscript (.Subscript (.Name yr q1) (.Name yx q2) q3) (.Name yz q4) q5, .Subscript (.Subscript (.Name yr q6) (.Name yz q7) q8) (.Name yx q9) q0] X.env).length = 2) (hst : (assignEach [.Subscript (.Subscript (.Name yr q1) (.Name yx q2) q3) (.Name yz q4) q5, .Subscript (.Subscript (.Name yr q6) (.Name yz q7) q8) (.Name yx q9) q0] X.env).findIdx? (·.1) = none)
    (hp : PlainIx (.Name yx q2)) (hp2 : PlainIx (.Name yz q7)) :
    Tg X c st (.Tuple [.Subscript (.Subscript (.Name yr q1) (.Name yx q2) q3) (.Name yz q4) q5, .Subscript (.Subscript (.Name yr q6) (.Name yz q7) q8) (.Name yx q9) q0] kk pos) ⟨S, ρ⟩ (.tup [.int v, .int v]) ⟨S, ρ.set kr (oR n (sy2 d x z v))⟩ [] := by
  have t1 := tg_set2 (X := X) (c := c) (st := st) (C := ⟨S, ρ⟩) (d := .int v) (rows := tab n fun a => tab n fun b => .int (d a b)) (p := q1) (p2 := q2) (p3 := q3) (p4 := q4) (pos := q5) kr kx kz h0 h1 h2 (tab_get hx) (by rw [tab_len]; exact hz) hN vr hNx vx hNz vz dr cr dx cx dz cz hp ha
  have e1 : (ρ.set kr (so2 ((tab n fun a => tab n fun b => D.int (d a b)).set x ((tab n fun b => D.int (d x b)).set z (.int v)))))[kx]? = some (sd (.int (x : Int))) := by rw [List.getElem?_set_ne hrx]; exact h1
  have e2 : (ρ.set kr (so2 ((tab n fun a => tab n fun b => D.int (d a b)).set x ((tab n fun b => D.int (d x b)).set z (.int v)))))[kz]? = some (sd (.int (z : Int))) := by rw [List.getElem?_set_ne hrz]; exact h2
  have e0 : (ρ.set kr (so2 ((tab n fun a => tab n fun b => D.int (d a b)).set x ((tab n fun b => D.int (d x b)).set z (.int v)))))[kr]? = some (so2 ((tab n fun a => tab n fun b => D.int (d a b)).set x ((tab n fun b => D.int (d x b)).set z (.int v)))) := List.getElem?_set_self (List.getElem?_eq_some_iff.mp h0).1
  have t2 := tg_set2 (X := X) (c := c) (st := st) (C := ⟨S, ρ.set kr (so2 ((tab n fun a => tab n fun b => D.int (d a b)).set x ((tab n fun b => D.int (d x b)).set z (.int v))))⟩) (d := .int v) (rows := (tab n fun a => tab n fun b => D.int (d a b)).set x ((tab n fun b => D.int (d x b)).set z (.int v))) (p := q6) (p2 := q7) (p3 := q8) (p4 := q9) (pos := q0) kr kz kx e0 e2 e1 (get22 hx hz) (by rw [tab_len]; exact hx) hN vr hNz vz hNx vx dr cr dz cz dx cx hp2 hb
  rw [set22 hx hz, List.set_set] at t2
  exact tg_tup (tgs_cons t1 (tgs_cons t2 tgs_nil hs2) hs) rfl hc hn hst
end
section
variable {W : Wd} (T : Fx W.K W.mg W.c)
include T
theorem fs_law_web {k} (GT : W.fs (k + 1) "_law_take" RTake) (GS : W.fp (k + 1) "_law_shortest" RShort) (h : DefW W "_law_web" (top 58)) : W.fs (k + 2) "_law_web" (fun S ds r S' => ∃ n thick : Nat, ds = [.int n, .int thick] ∧ (1 ≤ n ∧ n ≤ 16) ∧ (1 ≤ thick ∧ thick ≤ 100) ∧ r = rT n (fwK n (webR n thick S).2) ∧ S' = (webR n thick S).1) := by
  obtain ⟨f, h, hm⟩ := h
  have hN : (["_law_state_here", "_law_n", "_law_thick", "_law_rows_here", "_law_x", "_law_y", "_law_z", "_law_length"] : List Str).Nodup := by decide +kernel
  refine fnS_mk (N := ["_law_state_here", "_law_n", "_law_thick", "_law_rows_here", "_law_x", "_law_y", "_law_z", "_law_length"]) (ps := ["_law_state_here", "_law_n", "_law_thick"]) h hm ⟨rfl, rfl, rfl, hN, rfl, by decide +kernel, by decide +kernel⟩ (fun S ds d S' h => by obtain ⟨_, _, rfl, _⟩ := h; rfl) ?_ (fun _ _ _ _ _ _ us hl => match us, hl with | [_, _, _], _ => rfl)
  rintro S ds r S' ⟨n, thick, rfl, hn, ht, rfl, rfl⟩ f cdv Ar outer sh hp0 E st hr
  refine bodyI (ex_cons (es_setL 3 (EvL.to (lc_mapM [("_law_x", 4)] (fun x => mrow (tab n fun y => .int (far x y))) hN (it_rg T (ev_name 1 rfl) (by omega)) (by omega) fun x hx => turn fun s0 H0 D0 cl fp => ⟨tg_name 4 hN, EvL.ev (lc_map [("_law_y", 5)] (fun y => .int (far x y)) hN (it_rg T (ev_name 1 rfl) (by omega)) (by omega) fun y hy => turn fun s1 H1 D1 cl1 fp1 => ⟨tg_name 5 hN, ev_if (evt_eq rfl (ev_name 4 rfl) (ev_name 5 rfl)) (fun h => ev_to ev_int (far_t h)) fun h => ev_to ev_int (far_f h)⟩)⟩) (show _ = Mu.ls ((tab n fun x => tab n fun y => D.int (far x y)).map mrow) by rw [tab_map])) rfl) <| ex_cons (es_loop (n := n) (g := fun i => .int (i : Int)) (G := fun a : (Int × Int) × (Nat → Nat → Int) => ⟨some a.1, [some .stt, sd (.int n), sd (.int thick), oR n a.2, none, none, none, none]⟩) (f := fun x a => webX thick x a) (P := fun _ _ => True) (a0 := (S, far)) trivial PassesOwn.never (it_rg T (ev_name 1 rfl) (by omega)) fun x a hx _ => ⟨turnI (tg_name 4 hN) (ex_one (es_loop (n := x) (g := fun i => .int (i : Int)) (G := fun a : (Int × Int) × (Nat → Nat → Int) => ⟨some a.1, [some .stt, sd (.int n), sd (.int thick), oR n a.2, sd (.int x), none, none, none]⟩) (f := fun y a => webS thick x y a) (P := fun _ _ => True) (a0 := a) trivial PassesOwn.never (it_rg T (ev_name 4 rfl) (by omega)) fun y a hy _ => ⟨⟨_, _, tg_name 5 hN, ?_⟩, trivial⟩)) rfl ⟨rfl, rfl, rfl, rfl, trivial⟩, trivial⟩) <| ex_frz (m := .ls _) 3 rfl <| ex_one (es_ret (ev_call (ds := [_]) GS hr ⟨n, (webR n thick S).2, rfl, by omega, rfl⟩ (eva_cons (ev_to (ev_name 3 rfl) oR_frz) eva_nil)))) ⟨rfl, rfl⟩
  by_cases h1 : y + 1 = x
  · have e : webS thick x y a = (tkS (tkS a.1 x) 4, sy2 a.2 x (tkV a.1 x) (1 + (tkV (tkS a.1 x) 4 : Nat))) := if_pos h1
    rw [e]
    have hz : tkV a.1 x < n := Nat.lt_trans (tkV_lt (by omega)) hx
    exact ex_to (ex_one (es_if (EvW.t (evw_orT (evt_to (evt_eq rfl (ev_name 5 rfl) (ev_sub (ev_name 4 rfl) ev_int)) (decide_eq_true (by omega))))) (fun _ => ex_cons (es_set 6 (ev_name 5 rfl) rfl hN) <| ex_cons (es_if (evt_to (evt_eq rfl (ev_name 5 rfl) (ev_sub (ev_name 4 rfl) ev_int)) (decide_eq_true (by omega))) (fun _ => ex_one (es_set 6 (ev_callS (ds := [_]) (s := a.1) 0 GT hr rfl (eva_cons (ev_name 4 rfl) eva_nil) rfl ⟨x, rfl, by omega, rfl, rfl⟩) rfl hN)) fun h => nomatch h) <| ex_cons (es_set 7 (ev_add ev_int (ev_callS (ds := [_]) (s := tkS a.1 x) 0 GT hr rfl (eva_cons ev_int eva_nil) rfl ⟨4, rfl, by omega, rfl, rfl⟩)) rfl hN) <| ex_one (es_asg (ev_tup (ds := [_, _]) (eva_cons (ev_name 7 rfl) (eva_cons (ev_name 7 rfl) eva_nil)) (by simp)) (tg_edge (kr := 3) (kx := 4) (kz := 6) hx hz rfl rfl rfl (by decide) (by decide) rfl rfl rfl (by first | exact Or.inl rfl | exact Or.inr (Or.inl rfl)) (by first | exact Or.inl rfl | exact Or.inr (Or.inl rfl)) (by first | exact Or.inl rfl | exact Or.inr (Or.inl rfl)) (by decide) (by decide) (by decide) (by decide) (by decide) (by decide) (by intro _; rfl) (by intro _; rfl) rfl rfl rfl rfl rfl (by intro _ _; rfl) (by intro _ _; rfl)))) fun h => nomatch h)) rfl ⟨rfl, rfl, rfl, rfl, rfl, trivial⟩
  · by_cases h2 : tkV a.1 thick = 0
    · have e : webS thick x y a = (tkS (tkS a.1 thick) 4, sy2 a.2 x y (1 + (tkV (tkS a.1 thick) 4 : Nat))) := (if_neg h1).trans (if_pos h2)
      rw [e]
      exact ex_to (ex_one (es_if (EvW.t (evw_orF (evt_to (evt_eq rfl (ev_name 5 rfl) (ev_sub (ev_name 4 rfl) ev_int)) (decide_eq_false (by omega))) (evw_or1 (evt_to (evt_eq rfl (ev_callS (ds := [_]) (s := a.1) 0 GT hr rfl (eva_cons (ev_name 2 rfl) eva_nil) rfl ⟨thick, rfl, by omega, rfl, rfl⟩) ev_int) (decide_eq_true (by omega)))))) (fun _ => ex_cons (es_set 6 (ev_name 5 rfl) rfl hN) <| ex_skip (evt_to (evt_eq rfl (ev_name 5 rfl) (ev_sub (ev_name 4 rfl) ev_int)) (decide_eq_false (by omega))) <| ex_cons (es_set 7 (ev_add ev_int (ev_callS (ds := [_]) (s := tkS a.1 thick) 0 GT hr rfl (eva_cons ev_int eva_nil) rfl ⟨4, rfl, by omega, rfl, rfl⟩)) rfl hN) <| ex_one (es_asg (ev_tup (ds := [_, _]) (eva_cons (ev_name 7 rfl) (eva_cons (ev_name 7 rfl) eva_nil)) (by simp)) (tg_edge (kr := 3) (kx := 4) (kz := 6) hx (show y < n by omega) rfl rfl rfl (by decide) (by decide) rfl rfl rfl (by first | exact Or.inl rfl | exact Or.inr (Or.inl rfl)) (by first | exact Or.inl rfl | exact Or.inr (Or.inl rfl)) (by first | exact Or.inl rfl | exact Or.inr (Or.inl rfl)) (by decide) (by decide) (by decide) (by decide) (by decide) (by decide) (by intro _; rfl) (by intro _; rfl) rfl rfl rfl rfl rfl (by intro _ _; rfl) (by intro _ _; rfl)))) fun h => nomatch h)) rfl ⟨rfl, rfl, rfl, rfl, rfl, trivial⟩
    · have e : webS thick x y a = (tkS a.1 thick, a.2) := (if_neg h1).trans (if_neg h2)
      rw [e]
      exact ex_to (ex_skip (EvW.t (evw_orF (evt_to (evt_eq rfl (ev_name 5 rfl) (ev_sub (ev_name 4 rfl) ev_int)) (decide_eq_false (by omega))) (evw_or1 (evt_to (evt_eq rfl (ev_callS (ds := [_]) (s := a.1) 0 GT hr rfl (eva_cons (ev_name 2 rfl) eva_nil) rfl ⟨thick, rfl, by omega, rfl, rfl⟩) ev_int) (decide_eq_false (by omega)))))) ex_nil) rfl ⟨rfl, rfl, rfl, rfl, rfl, trivial⟩
end
end K48

namespace K48
open PySem PySem.Spec PyProof.Rows L2

/-- what a drawn order is -/
structure OrdOK (n : Nat) (o : List Nat) : Prop where
  len : o.length = n
  lt : ∀ v ∈ o, v < n
  nd : o.Nodup
abbrev ordS (_ : Nat) (a : (Int × Int) × List Nat × List Nat) : (Int × Int) × List Nat × List Nat := (tkS a.1 a.2.1.length, a.2.1.eraseIdx (tkV a.1 a.2.1.length), a.2.2 ++ [a.2.1.getD (tkV a.1 a.2.1.length) 0])
theorem pick_ok {N m : Nat} (hm : m ≤ N) (s : Int × Int) : let a := lp ordS m (s, List.range N, []); a.2.1.length + m = N ∧ a.2.2.length = m ∧ (∀ v ∈ a.2.2, v < N) ∧ a.2.2.Nodup := by
  have h := lp_inv (f := ordS) (a := (s, List.range N, [])) (n := m) (fun i a => a.2.1.length + i = N ∧ a.2.2.length = i ∧ (∀ v ∈ a.2.1, v < N) ∧ (∀ v ∈ a.2.2, v < N) ∧ a.2.1.Nodup ∧ a.2.2.Nodup ∧ ∀ v ∈ a.2.1, v ∉ a.2.2) ⟨by simp, rfl, fun v hv => (by simpa using hv), fun v hv => (by cases hv), List.nodup_range, List.nodup_nil, fun v _ h => (by cases h)⟩ fun i a hi ha => by
    obtain ⟨h1, h2, h3, h4, h5, h6, h7⟩ := ha
    have hlt : tkV a.1 a.2.1.length < a.2.1.length := tkV_lt (by omega)
    have hmem : a.2.1.getD (tkV a.1 a.2.1.length) 0 ∈ a.2.1 := getD_mem hlt
    refine ⟨by show (a.2.1.eraseIdx _).length + _ = N; rw [List.length_eraseIdx_of_lt hlt]; omega, by show (a.2.2 ++ [_]).length = _; simp [h2], fun v hv => h3 v (List.mem_of_mem_eraseIdx hv), fun v hv => ?_, h5.eraseIdx _, ?_, fun v hv hw => ?_⟩
    · rcases List.mem_append.mp hv with hv | hv
      · exact h4 v hv
      · rw [List.mem_singleton.mp hv]; exact h3 _ hmem
    · exact nd_mk h6 (by simp) fun v hv hw => h7 _ hmem (List.mem_singleton.mp hw ▸ hv)
    · rcases List.mem_append.mp hw with hw | hw
      · exact h7 v (List.mem_of_mem_eraseIdx hv) hw
      · rw [List.mem_singleton.mp hw] at hv
        have e : a.2.1.getD (tkV a.1 a.2.1.length) 0 = a.2.1[tkV a.1 a.2.1.length] := by rw [List.getD_eq_getElem?_getD, List.getElem?_eq_getElem hlt]; rfl
        rw [e] at hv
        obtain ⟨j, hj, hne, e2⟩ := List.mem_eraseIdx_iff_getElem.mp hv
        exact hne ((List.getElem_inj h5).mp e2)
  exact ⟨h.1, h.2.1, h.2.2.2.1, h.2.2.2.2.2.1⟩
theorem ord_ok (n : Nat) (s : Int × Int) : OrdOK n (ordL n s).2.2 := by
  obtain ⟨_, h1, h2, h3⟩ := pick_ok (Nat.le_refl n) s
  exact ⟨h1, h2, h3⟩
theorem cut_to {α : Type} {l : List α} {n : Nat} (h : n ≤ l.length) : cutD l none (some (n : Int)) = l.take n := by
  have e0 : HT.sIx l.length 0 none = 0 := rfl
  unfold cutD
  rw [HT.sIx_nat, e0, Nat.min_eq_left h, List.drop_zero, Nat.sub_zero]
def mT (n : Nat) (S : Int × Int) : Nat := n + tkV S 3
def treO (n : Nat) (S : Int × Int) : List Nat := (ordL (mT n S) (treR (mT n S) (tkS S 3)).1).2.2.take n
def treD (n : Nat) (S : Int × Int) : Nat → Nat → Int := fun x y => fwK (mT n S) (treR (mT n S) (tkS S 3)).2 ((treO n S).getD x 0) ((treO n S).getD y 0)
def treE (n : Nat) (S : Int × Int) : Int × Int := (ordL (mT n S) (treR (mT n S) (tkS S 3)).1).1
/-- points of the grid -/
def grdL (n : Nat) (s : Int × Int) : (Int × Int) × List Nat × List Nat := lp ordS n (s, List.range 16, [])
def ptD (j : Nat) : D := tI [((j / 4 : Nat) : Int), ((j % 4 : Nat) : Int)]
def iab (i : Int) : Int := if i < 0 then -i else i
def l1 (p q : Nat) : Int := iab (((p / 4 : Nat) : Int) - ((q / 4 : Nat) : Int)) + iab (((p % 4 : Nat) : Int) - ((q % 4 : Nat) : Int))
def grdD (n : Nat) (S : Int × Int) : Nat → Nat → Int := fun x y => l1 ((grdL n S).2.2.getD x 0) ((grdL n S).2.2.getD y 0)
/-- near equal distances -/
def lowB (S : Int × Int) : Nat := 1 + tkV S 3
def bndS (lw x y : Nat) (a : (Int × Int) × (Nat → Nat → Int)) : (Int × Int) × (Nat → Nat → Int) := (tkS a.1 (lw + 1), sy2 a.2 x y ((lw + tkV a.1 (lw + 1) : Nat) : Int))
def bndX (lw x : Nat) (a : (Int × Int) × (Nat → Nat → Int)) : (Int × Int) × (Nat → Nat → Int) := lp (fun y a => bndS lw x y a) x a
def bndR (n : Nat) (S : Int × Int) : (Int × Int) × (Nat → Nat → Int) := lp (fun x a => bndX (lowB S) x a) n (tkS S 3, fun _ _ => 0)
/-- levels -/
def hgtS (a : Nat × (Int × Int) × (Nat → Int)) : Nat × (Int × Int) × (Nat → Int) := (a.1 + 1, tkS a.2.1 3, fun j => if j = a.1 + 1 then a.2.2 a.1 + 1 + (tkV a.2.1 3 : Nat) else a.2.2 j)
def hgtR (S : Int × Int) : Nat × (Int × Int) × (Nat → Int) := lp (fun _ a => hgtS a) 2 (0, tkS S 2, fun _ => 1 + (tkV S 2 : Nat))
def wS (S : Int × Int) (i : Nat) : Int × Int := itn (fun s => tkS (tkS s 2) 2) i S
def wd (S : Int × Int) (i k : Nat) : Int := if k = 0 then (tkV (wS S i) 2 : Nat) else if k = 1 then (tkV (tkS (wS S i) 2) 2 : Nat) else (i : Int)
def lev (h : Nat → Int) (w : Nat → Nat → Int) (x y : Nat) : Int := if w x 0 ≠ w y 0 then h 2 else if w x 1 ≠ w y 1 then h 1 else if w x 2 ≠ w y 2 then h 0 else 0
section
variable {W : Wd} (T : Fx W.K W.mg W.c)
include T
theorem fs_law_of_tree {k} (GT : W.fs (k + 1) "_law_take" RTake) (GS : W.fp (k + 1) "_law_shortest" RShort) (GO : W.fs (k + 1) "_law_order_of" ROrd) (GR : W.fp (k + 1) "_law_renamed" (fun ds r => ∃ (n m : Nat) (g : Nat → Nat → Int) (o : List Nat), ds = [rT m g, .lst (o.map fun j : Nat => .int (j : Int))] ∧ n ≤ 1000 ∧ o.length = n ∧ (∀ i, i < n → o.getD i 0 < m) ∧ r = rT n fun x y => g (o.getD x 0) (o.getD y 0))) (h : DefW W "_law_of_tree" (top 60)) : W.fs (k + 2) "_law_of_tree" (fun S ds r S' => ∃ n : Nat, ds = [.int n] ∧ (1 ≤ n ∧ n ≤ 8) ∧ r = rT n (treD n S) ∧ S' = treE n S) := by
  obtain ⟨f, h, hm⟩ := h
  have hN : (["_law_state_here", "_law_n", "_law_m", "_law_rows_here", "_law_x", "_law_z", "_law_length", "_law_y"] : List Str).Nodup := by decide +kernel
  refine fnS_mk (N := ["_law_state_here", "_law_n", "_law_m", "_law_rows_here", "_law_x", "_law_z", "_law_length", "_law_y"]) (ps := ["_law_state_here", "_law_n"]) h hm ⟨rfl, rfl, rfl, hN, rfl, by decide +kernel, by decide +kernel⟩ (fun S ds d S' h => by obtain ⟨_, rfl, _⟩ := h; rfl) ?_ (fun _ _ _ _ _ _ us hl => match us, hl with | [_, _], _ => rfl)
  rintro S ds r S' ⟨n, rfl, hn, rfl, rfl⟩ f cdv Ar outer sh hp0 E st hr
  have hmT : n ≤ mT n S ∧ mT n S ≤ 16 := by
    have := tkV_lt (s := S) (m := 3) (by omega)
    unfold mT; omega
  refine bodyI (ex_cons (es_set 2 (ev_to (ev_add (ev_name 1 rfl) (ev_callS (ds := [_]) (s := S) 0 GT hr rfl (eva_cons ev_int eva_nil) rfl ⟨3, rfl, by omega, rfl, rfl⟩)) (show _ = D.int ((mT n S : Nat) : Int) from rfl)) rfl hN) <| ex_cons (es_setL 3 (EvL.to (lc_mapM [("_law_x", 4)] (fun x => mrow (tab (mT n S) fun y => .int (far x y))) hN (it_rg T (ev_name 2 rfl) (by omega)) (by omega) fun x hx => turn fun s0 H0 D0 cl fp => ⟨tg_name 4 hN, EvL.ev (lc_map [("_law_y", 7)] (fun y => .int (far x y)) hN (it_rg T (ev_name 2 rfl) (by omega)) (by omega) fun y hy => turn fun s1 H1 D1 cl1 fp1 => ⟨tg_name 7 hN, ev_if (evt_eq rfl (ev_name 4 rfl) (ev_name 7 rfl)) (fun h => ev_to ev_int (far_t h)) fun h => ev_to ev_int (far_f h)⟩)⟩) (show _ = Mu.ls ((tab (mT n S) fun x => tab (mT n S) fun y => D.int (far x y)).map mrow) by rw [tab_map])) rfl) <| ex_cons (es_loop (n := mT n S - 1) (g := fun i => .int ((1 + i : Nat) : Int)) (G := fun a : (Int × Int) × (Nat → Nat → Int) => ⟨some a.1, [some .stt, sd (.int n), sd (.int (mT n S)), oR (mT n S) a.2, none, none, none, none]⟩) (f := fun i a => treS (1 + i) a) (P := fun _ _ => True) (a0 := (tkS S 3, far)) trivial PassesOwn.never (it_rg2 (lo := 1) T ev_int (ev_name 2 rfl) (by omega)) fun i a hi _ => ⟨turnI (tg_name 4 hN) (ex_cons (es_set 5 (ev_callS (ds := [_]) (s := a.1) 0 GT hr rfl (eva_cons (ev_name 4 rfl) eva_nil) rfl ⟨1 + i, rfl, by omega, rfl, rfl⟩) rfl hN) <| ex_cons (es_set 6 (ev_add ev_int (ev_callS (ds := [_]) (s := tkS a.1 (1 + i)) 0 GT hr rfl (eva_cons ev_int eva_nil) rfl ⟨4, rfl, by omega, rfl, rfl⟩)) rfl hN) <| ex_one (es_asg (ev_tup (ds := [_, _]) (eva_cons (ev_name 6 rfl) (eva_cons (ev_name 6 rfl) eva_nil)) (by simp)) (tg_edge (kr := 3) (kx := 4) (kz := 5) (show 1 + i < mT n S by omega) (Nat.lt_trans (tkV_lt (show 0 < 1 + i by omega)) (show 1 + i < mT n S by omega)) rfl rfl rfl (by decide) (by decide) rfl rfl rfl (by first | exact Or.inl rfl | exact Or.inr (Or.inl rfl)) (by first | exact Or.inl rfl | exact Or.inr (Or.inl rfl)) (by first | exact Or.inl rfl | exact Or.inr (Or.inl rfl)) (by decide) (by decide) (by decide) (by decide) (by decide) (by decide) (by intro _; rfl) (by intro _; rfl) rfl rfl rfl rfl rfl (by intro _ _; rfl) (by intro _ _; rfl)))) rfl ⟨rfl, rfl, rfl, rfl, trivial⟩, trivial⟩) <| ex_frz (m := .ls _) 3 rfl <| ex_one (es_ret (ev_call (ds := [_, _]) GR hr ⟨n, mT n S, fwK (mT n S) (treR (mT n S) (tkS S 3)).2, treO n S, rfl, by omega, ?_, ?_, rfl⟩ (eva_cons (ev_call (ds := [_]) GS hr ⟨mT n S, (treR (mT n S) (tkS S 3)).2, rfl, by omega, rfl⟩ (eva_cons (ev_to (ev_name 3 rfl) oR_frz) eva_nil)) (eva_cons (Ev.frzL (ev_to' (ev_slL (ev_callS (ds := [_]) (s := (treR (mT n S) (tkS S 3)).1) 0 GO hr rfl (eva_cons (ev_name 2 rfl) eva_nil) rfl ⟨mT n S, rfl, by omega, rfl, rfl⟩) evo_none (evo_some (ev_name 1 rfl))) ?_)) eva_nil))))) ⟨rfl, rfl⟩
  · unfold treO
    rw [List.length_take, (ord_ok _ _).len]; omega
  · intro i hi
    have hl : (treO n S).length = n := by unfold treO; rw [List.length_take, (ord_ok _ _).len]; omega
    have hm := getD_mem (z := 0) (show i < (treO n S).length by omega)
    exact (ord_ok _ _).lt _ (List.mem_of_mem_take hm)
  · show Mu.ls ((cutD ((ordL (mT n S) (treR (mT n S) (tkS S 3)).1).2.2.map fun j : Nat => D.int (j : Int)) none (some (n : Int))).map Mu.im) = Mu.ls (((treO n S).map fun j : Nat => D.int (j : Int)).map Mu.im)
    rw [cut_to (by rw [List.length_map, (ord_ok _ _).len]; omega), ← List.map_take]
    rfl
theorem fs_law_grid {k} (GT : W.fs (k + 1) "_law_take" RTake) (h : DefW W "_law_grid" (top 61)) : W.fs (k + 2) "_law_grid" (fun S ds r S' => ∃ n : Nat, ds = [.int n] ∧ (1 ≤ n ∧ n ≤ 8) ∧ r = rT n (grdD n S) ∧ S' = (grdL n S).1) := by
  obtain ⟨f, h, hm⟩ := h
  have hN : (["_law_state_here", "_law_n", "_law_left", "_law_points", "_law_k", "_law_x", "_law_a", "_law_b"] : List Str).Nodup := by decide +kernel
  refine fnS_mk (N := ["_law_state_here", "_law_n", "_law_left", "_law_points", "_law_k", "_law_x", "_law_a", "_law_b"]) (ps := ["_law_state_here", "_law_n"]) h hm ⟨rfl, rfl, rfl, hN, rfl, by decide +kernel, by decide +kernel⟩ (fun S ds d S' h => by obtain ⟨_, rfl, _⟩ := h; rfl) ?_ (fun _ _ _ _ _ _ us hl => match us, hl with | [_, _], _ => rfl)
  rintro S ds r S' ⟨n, rfl, hn, rfl, rfl⟩ f cdv Ar outer sh hp0 E st hr
  obtain ⟨_, hl2, _, _⟩ := pick_ok (N := 16) (m := n) (by omega) S
  have hl2 : (grdL n S).2.2.length = n := hl2
  refine bodyI (ex_cons (es_setL 2 (EvL.to (lc_map (n := 16) [("_law_x", 5)] (fun j => ptD j) hN (it_rg (n := 16) T ev_int (by omega)) (by omega) fun j hj => turn fun s0 H0 D0 cl fp => ⟨tg_name 5 hN, ev_to (ev_tup (ds := [_, _]) (eva_cons (ev_div (Bd.div (by decide) (Bd.sm (by decide))) (ev_name 5 rfl) ev_int) (eva_cons (ev_mod (by decide) (ev_int1 T.int (ev_name 5 rfl)) ev_int) eva_nil)) (by simp)) (by unfold ptD tI; simp)⟩) (show _ = Mu.ls (((List.range 16).map ptD).map Mu.im) from rfl)) rfl) <| ex_cons (es_set 3 (ev_lst (ms := []) eva_nil (by simp)) rfl hN) <| ex_cons (es_loop (n := n) (g := fun i => .int (i : Int)) (G := fun a : (Int × Int) × List Nat × List Nat => ⟨some a.1, [some .stt, sd (.int n), so (a.2.1.map ptD), so (a.2.2.map ptD), none, none, none, none]⟩) (f := ordS) (P := fun i a => a.2.1.length + i = 16 ∧ a.2.2.length = i) (a0 := (S, List.range 16, [])) ⟨by simp, rfl⟩ PassesOwn.never (it_rg T (ev_name 1 rfl) (by omega)) fun i a hi ha => ⟨turnI (tg_name 4 hN) (ex_one (es_expr (ev_appD (d := ptD (a.2.1.getD (tkV a.1 a.2.1.length) 0)) 3 (ev_pop (jn := tkV a.1 a.2.1.length) 2 (ev_callS (ds := [_]) (s' := tkS a.1 a.2.1.length) 0 GT hr rfl (eva_cons (ev_to (ev_olen T 2 rfl) (show _ = D.int ((a.2.1.length : Nat) : Int) by rw [List.length_map, List.length_map])) eva_nil) rfl ⟨a.2.1.length, rfl, by omega, rfl, rfl⟩) ⟨_, rfl⟩ rfl ?_ ?_) ⟨_, rfl⟩ rfl ?_))) rfl ⟨rfl, rfl, ?_, ?_, trivial⟩, ?_⟩) <| ex_frz (m := .ls _) 3 rfl <| ex_one (es_ret (Ev.frzL (EvL.ev (lc_map (n := n) (g := fun x => ptD ((grdL n S).2.2.getD x 0)) [("_law_a", 6)] (fun x => .tup (tab n fun y => .int (grdD n S x y))) hN (iter_to (it_list (ev_to (ev_name 3 rfl) (congrArg D.lst (toL_map _)))) ?_) (by omega) fun x hx => turn fun s0 H0 D0 cl fp => ⟨tg_name 6 hN, ev_tupleOf T.tuple (.inl rfl) (Ev.frzL (EvL.ev (lc_map (n := n) (g := fun x => ptD ((grdL n S).2.2.getD x 0)) [("_law_b", 7)] (fun y => .int (grdD n S x y)) hN (iter_to (it_list (ev_to (ev_name 3 rfl) (congrArg D.lst (toL_map _)))) ?_) (by omega) fun y hy => turn fun s1 H1 D1 cl1 fp1 => ⟨tg_name 7 hN, ev_add (ev_abs T.abs (ev_sub (ev_ix (i := 0) rfl (ev_name 6 rfl) ev_int) (ev_ix (i := 0) rfl (ev_name 7 rfl) ev_int))) (ev_abs T.abs (ev_sub (ev_ix (i := 1) rfl (ev_name 6 rfl) ev_int) (ev_ix (i := 1) rfl (ev_name 7 rfl) ev_int)))⟩)))⟩))))) ⟨rfl, rfl⟩
  · have hlt : tkV a.1 a.2.1.length < a.2.1.length := tkV_lt (by omega)
    show (a.2.1.map ptD)[tkV a.1 a.2.1.length]? = _
    rw [List.getElem?_map, getD_at (z := 0) hlt]; rfl
  · rw [List.length_map]; omega
  · rw [List.length_map]; omega
  · show so ((a.2.1.map ptD).eraseIdx (tkV a.1 a.2.1.length)) = so ((a.2.1.eraseIdx (tkV a.1 a.2.1.length)).map ptD)
    rw [erase_map]
  · show so ((a.2.2.map ptD) ++ [_]) = so ((a.2.2 ++ [_]).map ptD)
    rw [List.map_append]; rfl
  · have hlt : tkV a.1 a.2.1.length < a.2.1.length := tkV_lt (by omega)
    refine ⟨?_, by simp [ha.2]⟩
    show (a.2.1.eraseIdx (tkV a.1 a.2.1.length)).length + (i + 1) = 16
    rw [List.length_eraseIdx_of_lt hlt]; omega
  · show (grdL n S).2.2.map ptD = _
    rw [map_tab _ 0 ptD, hl2]
  · show (grdL n S).2.2.map ptD = _
    rw [map_tab _ 0 ptD, hl2]
end
end K48

namespace K48
open PySem PySem.Spec PyProof.Rows L2

theorem ev_same {X : Cx} {c : Cl} {st : Addr} {C : Cfg} {e : Expr} {m : Mu} (h : Ev X c st e C m C) : Ev X c st e C m C := h
theorem lev_eq (h : Nat → Int) (w : Nat → Nat → Int) (x y : Nat) : (((List.range 3).filter fun k => !decide (w x k = w y k)) = [] → lev h w x y = 0) ∧ (∀ k r, ((List.range 3).filter fun k => !decide (w x k = w y k)) = k :: r → k ≤ 2 ∧ lev h w x y = h (2 - k)) := by
  have e : ((List.range 3).filter fun k => !decide (w x k = w y k)) = (if w x 0 ≠ w y 0 then [0] else []) ++ ((if w x 1 ≠ w y 1 then [1] else []) ++ (if w x 2 ≠ w y 2 then [2] else [])) := by
    show List.filter _ [0, 1, 2] = _
    by_cases h0 : w x 0 = w y 0 <;> by_cases h1 : w x 1 = w y 1 <;> by_cases h2 : w x 2 = w y 2 <;> simp [h0, h1, h2]
  rw [e]
  unfold lev
  by_cases h0 : w x 0 = w y 0 <;> by_cases h1 : w x 1 = w y 1 <;> by_cases h2 : w x 2 = w y 2 <;> simp [h0, h1, h2] <;> (intro k r h; subst h; simp)
/-- the drawn metrics -/
def famR (pick n : Nat) (s : Int × Int) : (Int × Int) × (Nat → Nat → Int) :=
  if pick = 0 then ((webR n 2 s).1, fwK n (webR n 2 s).2) else if pick = 1 then ((webR n 5 s).1, fwK n (webR n 5 s).2) else if pick = 2 then (treE n s, treD n s) else if pick = 3 then ((grdL n s).1, grdD n s) else if pick = 4 then ((bndR n s).1, (bndR n s).2) else
  (wS (hgtR s).2.1 n, lev (hgtR s).2.2 (wd (hgtR s).2.1))
def rowN (most : Nat) (S : Int × Int) : Nat := 1 + tkV S most
def rowR (most : Nat) (S : Int × Int) : (Int × Int) × (Nat → Nat → Int) := famR (tkV (tkS S most) 6) (rowN most S) (tkS (tkS S most) 6)
abbrev ROne (rel : Nat → Int × Int → (Nat → Nat → Int) × (Int × Int)) (S : Int × Int) (ds : List D) (r : D) (S' : Int × Int) : Prop := ∃ n : Nat, ds = [.int n] ∧ (1 ≤ n ∧ n ≤ 8) ∧ r = rT n (rel n S).1 ∧ S' = (rel n S).2
section
variable {W : Wd} (T : Fx W.K W.mg W.c)
include T
theorem fs_law_band {k} (GT : W.fs (k + 1) "_law_take" RTake) (h : DefW W "_law_band" (top 62)) : W.fs (k + 2) "_law_band" (fun S ds r S' => ∃ n : Nat, ds = [.int n] ∧ (1 ≤ n ∧ n ≤ 8) ∧ r = rT n (bndR n S).2 ∧ S' = (bndR n S).1) := by
  obtain ⟨f, h, hm⟩ := h
  have hN : (["_law_state_here", "_law_n", "_law_low_here", "_law_rows_here", "_law_x", "_law_y", "_law_length", "_law_row"] : List Str).Nodup := by decide +kernel
  refine fnS_mk (N := ["_law_state_here", "_law_n", "_law_low_here", "_law_rows_here", "_law_x", "_law_y", "_law_length", "_law_row"]) (ps := ["_law_state_here", "_law_n"]) h hm ⟨rfl, rfl, rfl, hN, rfl, by decide +kernel, by decide +kernel⟩ (fun S ds d S' h => by obtain ⟨_, rfl, _⟩ := h; rfl) ?_ (fun _ _ _ _ _ _ us hl => match us, hl with | [_, _], _ => rfl)
  rintro S ds r S' ⟨n, rfl, hn, rfl, rfl⟩ f cdv Ar outer sh hp0 E st hr
  have hlw : lowB S ≤ 4 := by
    have := tkV_lt (s := S) (m := 3) (by omega)
    unfold lowB; omega
  refine bodyI (ex_cons (es_set 2 (ev_to (ev_add ev_int (ev_callS (ds := [_]) (s := S) 0 GT hr rfl (eva_cons ev_int eva_nil) rfl ⟨3, rfl, by omega, rfl, rfl⟩)) (show _ = D.int ((lowB S : Nat) : Int) by unfold lowB; simp)) rfl hN) <| ex_cons (es_setL 3 (EvL.to (lc_mapM [("_law_x", 4)] (fun x => mrow (tab n fun y => .int 0)) hN (it_rg T (ev_name 1 rfl) (by omega)) (by omega) fun x hx => turn fun s0 H0 D0 cl fp => ⟨tg_name 4 hN, EvL.ev (lc_map [("_law_y", 5)] (fun y => .int 0) hN (it_rg T (ev_name 1 rfl) (by omega)) (by omega) fun y hy => turn fun s1 H1 D1 cl1 fp1 => ⟨tg_name 5 hN, ev_int⟩)⟩) (show _ = Mu.ls ((tab n fun x => tab n fun y => D.int ((fun _ _ => 0 : Nat → Nat → Int) x y)).map mrow) by rw [tab_map])) rfl) <| ex_cons (es_loop (n := n) (g := fun i => .int (i : Int)) (G := fun a : (Int × Int) × (Nat → Nat → Int) => ⟨some a.1, [some .stt, sd (.int n), sd (.int (lowB S : Nat)), oR n a.2, none, none, none, none]⟩) (f := fun x a => bndX (lowB S) x a) (P := fun _ _ => True) (a0 := (tkS S 3, fun _ _ => 0)) trivial PassesOwn.never (it_rg T (ev_name 1 rfl) (by omega)) fun x a hx _ => ⟨turnI (tg_name 4 hN) (ex_one (es_loop (n := x) (g := fun i => .int (i : Int)) (G := fun a : (Int × Int) × (Nat → Nat → Int) => ⟨some a.1, [some .stt, sd (.int n), sd (.int (lowB S : Nat)), oR n a.2, sd (.int x), none, none, none]⟩) (f := fun y a => bndS (lowB S) x y a) (P := fun _ _ => True) (a0 := a) trivial PassesOwn.never (it_rg T (ev_name 4 rfl) (by omega)) fun y a hy _ => ⟨turnI (tg_name 5 hN) (ex_cons (es_set 6 (ev_to (ev_add (ev_name 2 rfl) (ev_callS (ds := [_]) (s := a.1) 0 GT hr rfl (eva_cons (ev_to (ev_add (ev_name 2 rfl) ev_int) (show _ = D.int ((lowB S + 1 : Nat) : Int) from rfl)) eva_nil) rfl ⟨lowB S + 1, rfl, by omega, rfl, rfl⟩)) (show _ = D.int ((lowB S + tkV a.1 (lowB S + 1) : Nat) : Int) from rfl)) rfl hN) <| ex_one (es_asg (ev_tup (ds := [_, _]) (eva_cons (ev_name 6 rfl) (eva_cons (ev_name 6 rfl) eva_nil)) (by simp)) (tg_edge (kr := 3) (kx := 4) (kz := 5) hx (show y < n by omega) rfl rfl rfl (by decide) (by decide) rfl rfl rfl (by first | exact Or.inl rfl | exact Or.inr (Or.inl rfl)) (by first | exact Or.inl rfl | exact Or.inr (Or.inl rfl)) (by first | exact Or.inl rfl | exact Or.inr (Or.inl rfl)) (by decide) (by decide) (by decide) (by decide) (by decide) (by decide) (by intro _; rfl) (by intro _; rfl) rfl rfl rfl rfl rfl (by intro _ _; rfl) (by intro _ _; rfl)))) rfl ⟨rfl, rfl, rfl, rfl, rfl, trivial⟩, trivial⟩)) rfl ⟨rfl, rfl, rfl, rfl, trivial⟩, trivial⟩) <| ex_frz (m := .ls _) 3 rfl <| ex_one (es_ret (Ev.frzL (EvL.ev (lc_map [("_law_row", 7)] (fun x => .tup (tab n fun y => .int ((bndR n S).2 x y))) hN (it_list (ev_to (ev_name 3 rfl) oR_frz)) (by omega) fun x hx => turn fun s0 H0 D0 cl fp => ⟨tg_name 7 hN, ev_tupleOf T.tuple (.inl rfl) (ev_name 7 rfl)⟩))))) ⟨rfl, rfl⟩
theorem fs_law_levels {k} (GT : W.fs (k + 1) "_law_take" RTake) (h : DefW W "_law_levels" (top 63)) : W.fs (k + 2) "_law_levels" (fun S ds r S' => ∃ n : Nat, ds = [.int n] ∧ (1 ≤ n ∧ n ≤ 8) ∧ r = rT n (lev (hgtR S).2.2 (wd (hgtR S).2.1)) ∧ S' = wS (hgtR S).2.1 n) := by
  obtain ⟨f, h, hm⟩ := h
  have hN : (["_law_state_here", "_law_n", "_law_heights", "_law_k", "_law_words", "_law_x", "_law_rows_here", "_law_one", "_law_row", "_law_two_here", "_law_apart"] : List Str).Nodup := by decide +kernel
  refine fnS_mk (N := ["_law_state_here", "_law_n", "_law_heights", "_law_k", "_law_words", "_law_x", "_law_rows_here", "_law_one", "_law_row", "_law_two_here", "_law_apart"]) (ps := ["_law_state_here", "_law_n"]) h hm ⟨rfl, rfl, rfl, hN, rfl, by decide +kernel, by decide +kernel⟩ (fun S ds d S' h => by obtain ⟨_, rfl, _⟩ := h; rfl) ?_ (fun _ _ _ _ _ _ us hl => match us, hl with | [_, _], _ => rfl)
  rintro S ds r S' ⟨n, rfl, hn, rfl, rfl⟩ f cdv Ar outer sh hp0 E st hr
  have hh3 : (hgtR S).1 = 2 := rfl
  refine bodyI (o := .rt (.im (rT n (lev (hgtR S).2.2 (wd (hgtR S).2.1)))) (some (wS (hgtR S).2.1 n))) (ex_cons (es_set 2 (ev_lst (ms := [.im (.int (1 + (tkV S 2 : Nat)))]) (eva_cons (ev_add ev_int (ev_callS (ds := [_]) (s := S) 0 GT hr rfl (eva_cons ev_int eva_nil) rfl ⟨2, rfl, by omega, rfl, rfl⟩)) eva_nil) (by simp)) rfl hN) <| ex_cons (es_loop (n := 2) (g := fun i => .int (i : Int)) (G := fun a : Nat × (Int × Int) × (Nat → Int) => ⟨some a.2.1, [some .stt, sd (.int n), so (tab (a.1 + 1) fun j => .int (a.2.2 j)), none, none, none, none, none, none, none, none]⟩) (f := fun _ a => hgtS a) (P := fun i a => a.1 = i) (a0 := (0, tkS S 2, fun _ => 1 + (tkV S 2 : Nat))) rfl PassesOwn.never (it_rg (n := 2) T ev_int (by omega)) fun i a hi ha => ⟨turnI (tg_name 3 hN) (ex_one (es_expr (ev_appD 2 (ev_add (ev_add (ev_oix 2 (ev_neg ev_int) ⟨_, rfl⟩ rfl (ix_last (g := fun j => D.int (a.2.2 j)))) ev_int) (ev_callS (ds := [_]) (s := a.2.1) 0 GT hr rfl (eva_cons ev_int eva_nil) rfl ⟨3, rfl, by omega, rfl, rfl⟩)) ⟨_, rfl⟩ rfl (by rw [tab_len]; omega)))) rfl ⟨rfl, rfl, ?_, trivial⟩, by show a.1 + 1 = i + 1; rw [ha]⟩) <| ex_frz (m := .ls _) 2 rfl <| ?_) ⟨rfl, rfl⟩
  · show so ((tab (a.1 + 1) fun j => D.int (a.2.2 j)) ++ [_]) = so (tab (a.1 + 1 + 1) fun j => D.int (if j = a.1 + 1 then a.2.2 a.1 + 1 + (tkV a.2.1 3 : Nat) else a.2.2 j))
    rw [tab_snoc]
    congr 3
    funext j
    split <;> rfl
  · show Ex _ _ _ _ ⟨some (hgtR S).2.1, [some .stt, sd (.int n), sd (.lst (Mu.toL ((tab ((hgtR S).1 + 1) fun j => D.int ((hgtR S).2.2 j)).map Mu.im))), none, none, none, none, none, none, none, none]⟩ (.rt (.im (rT n (lev (hgtR S).2.2 (wd (hgtR S).2.1)))) (some (wS (hgtR S).2.1 n)))
    rw [toL_map, hh3]
    generalize (hgtR S).2.2 = hh
    generalize (hgtR S).2.1 = s1
    generalize hww : wd s1 = ww
    refine ex_cons (es_setL 4 (EvL.frzL (lc_st (n := n) (g := fun i => .int (i : Int)) [("_law_x", 5)] (wS s1) (fun i => .tup (tab 3 fun k => .int (ww i k))) hN (it_rg T (ev_name 1 rfl) (by omega)) (by omega) rfl fun i hi => turn fun s0 H0 D0 cl fp => ⟨tg_name 5 hN, ev_to (ev_tup (ds := [_, _, _]) (eva_cons (ev_callS (ds := [_]) (s := wS s1 i) 0 GT hr rfl (eva_cons ev_int eva_nil) rfl ⟨2, rfl, by omega, rfl, rfl⟩) (eva_cons (ev_callS (ds := [_]) (s := tkS (wS s1 i) 2) 0 GT hr rfl (eva_cons ev_int eva_nil) rfl ⟨2, rfl, by omega, rfl, rfl⟩) (eva_cons (ev_name 5 rfl) eva_nil))) (by simp)) (by rw [← hww]; rfl)⟩)) rfl) <|
      ex_cons (es_set 6 (ev_lst (ms := []) eva_nil (by simp)) rfl hN) <| ex_cons (es_loop (n := n) (g := fun i => .tup (tab 3 fun k => .int (ww i k))) (G := fun l : List D => ⟨some (wS s1 n), [some .stt, sd (.int n), sd (.lst (tab 3 fun j => .int (hh j))), none, sd (.lst (tab n fun i => .tup (tab 3 fun k => .int (ww i k)))), none, so l, none, none, none, none]⟩) (f := fun x l => l ++ [.tup (tab n fun y => .int (lev hh ww x y))]) (P := fun i l => l.length = i) (a0 := []) rfl PassesOwn.never (it_list (ev_name 4 rfl)) fun x l hx hl => ⟨turnI (tg_name 7 hN) (ex_cons (es_set 8 (ev_lst (ms := []) eva_nil (by simp)) rfl hN) <| ex_cons (es_loop (n := n) (g := fun i => .tup (tab 3 fun k => .int (ww i k))) (G := fun r : List D => ⟨some (wS s1 n), [some .stt, sd (.int n), sd (.lst (tab 3 fun j => .int (hh j))), none, sd (.lst (tab n fun i => .tup (tab 3 fun k => .int (ww i k)))), none, so l, sd (.tup (tab 3 fun k => .int (ww x k))), so r, none, none]⟩) (f := fun y r => r ++ [.int (lev hh ww x y)]) (P := fun i l => l.length = i) (a0 := []) rfl PassesOwn.never (it_list (ev_name 4 rfl)) fun y r hy hl2 => ⟨turnI (tg_name 9 hN) (ex_cons (es_setL 10 (EvL.to (EvL.frzL (lc_filter (n := 3) (g := fun i => .int (i : Int)) [("_law_k", 3)] (fun k => !decide (ww x k = ww y k)) (fun k => .int (k : Int)) hN (it_rg (n := 3) T ev_int (by omega)) (by omega) fun k hk => turnF fun s0 H0 D0 cl fp => ⟨tg_name 3 hN, evt_ne rfl (ev_ix (ix_tup hk) (ev_name 7 rfl) (ev_name 3 rfl)) (ev_ix (ix_tup hk) (ev_name 9 rfl) (ev_name 3 rfl)), fun _ => ev_name 3 rfl⟩)) (show _ = Mu.im (D.lst (((List.range 3).filter fun k => !decide (ww x k = ww y k)).map fun k : Nat => .int (k : Int))) from congrArg (fun z => Mu.im (D.lst z)) (keptD_filter (t := fun k => !decide (ww x k = ww y k)) (w := fun k : Nat => D.int (k : Int)) 0 (List.range 3)))) rfl) <| ex_one (es_expr (ev_appD (d := .int (lev hh ww x y)) 8 (ev_same ?_) ⟨_, rfl⟩ rfl (by rw [hl2]; omega)))) rfl ⟨rfl, rfl, rfl, rfl, rfl, rfl, rfl, trivial⟩, by rw [List.length_append, hl2]; rfl⟩) <| ex_frz (m := .ls _) 8 rfl <| ex_one (es_expr (ev_appD 6 (ev_tupleOf T.tuple (.inl rfl) (ev_to (ev_name 8 rfl) (congrArg D.lst (toL_map _)))) ⟨_, rfl⟩ rfl (by rw [hl]; omega)))) rfl ⟨rfl, rfl, rfl, rfl, ?_, trivial⟩, by rw [List.length_append, hl]; rfl⟩) <| ex_frz (m := .ls _) 6 rfl <| ex_one (es_retS (ev_to (ev_name 6 rfl) ?_))
    · obtain ⟨q1, q2⟩ := lev_eq hh ww x y
      generalize ((List.range 3).filter fun k => !decide (ww x k = ww y k)) = ap at q1 q2
      cases ap with
      | nil =>
        rw [q1 rfl]
        exact ev_if (t := true) (evt_to (evt_eq rfl (ev_len T.len rfl (ev_name 10 rfl)) ev_int) rfl) (fun _ => ev_int) fun h => nomatch h
      | cons j r' =>
        obtain ⟨hj, e⟩ := q2 j r' rfl
        rw [e]
        exact ev_if (t := false) (evt_to (evt_eq rfl (ev_len T.len rfl (ev_name 10 rfl)) ev_int) (decide_eq_false (by simp only [List.length_map, List.length_cons]; omega))) (fun h => nomatch h) fun _ => ev_ix (ix_lst (show 2 - j < 3 by omega)) (ev_name 2 rfl) (ev_to (ev_sub ev_int (ev_ix (ix_lst0 (i := 0) (d := .int (j : Int)) rfl) (ev_name 10 rfl) ev_int)) (by show D.int _ = D.int _; congr 1; omega))
    · show so (l ++ [D.tup (lp _ n [])]) = _
      rw [lp_tab]
    · show D.lst (Mu.toL ((lp _ n []).map Mu.im)) = _
      rw [toL_map, lp_tab]
end
end K48

namespace K48
open PySem PySem.Spec PyProof.Rows L2

abbrev RGen (rel : Nat → Int × Int → (Int × Int) × (Nat → Nat → Int)) (S : Int × Int) (ds : List D) (r : D) (S' : Int × Int) : Prop := ∃ n : Nat, ds = [.int n] ∧ (1 ≤ n ∧ n ≤ 8) ∧ r = rT n (rel n S).2 ∧ S' = (rel n S).1
def facN (S : Int × Int) : Nat := 1 + tkV S 4
def facD (S : Int × Int) : Nat := 1 + tkV (tkS S 4) 3
def facS (S : Int × Int) : Int × Int := tkS (tkS S 4) 3
/-- a length times the factor -/
def fq (p q : Nat) (i : Int) : Rat := Rat.divInt (i * (p : Int)) (q : Int)
/-- rows of rationals, as tuples; as the law's own pairs -/
abbrev lT (n : Nat) (g : Nat → Nat → Rat) : D := .lst (tab n fun x => .lst (tab n fun y => qD (g x y)))
theorem int_mod (a b : Int) : (a % b).toNat = 0 → True := fun _ => trivial
theorem whileN {α : Type} {t : α → Bool} {f : α → α} {P : α → Prop} {μ : α → Nat} {a : α} (h0 : P a) (step : ∀ a, P a → t a = true → P (f a) ∧ μ (f a) < μ a) : ∃ n, P (itn f n a) ∧ t (itn f n a) = false ∧ ∀ i, i < n → P (itn f i a) ∧ t (itn f i a) = true := by
  have sh : ∀ i a, itn f (i + 1) a = itn f i (f a) := by
    intro i
    induction i with
    | zero => intro a; rfl
    | succ i ih => intro a; show f (itn f (i + 1) a) = _; rw [ih]; rfl
  have ex : ∀ m a, μ a ≤ m → P a → ∃ n, P (itn f n a) ∧ t (itn f n a) = false ∧ ∀ i, i < n → P (itn f i a) ∧ t (itn f i a) = true := by
    intro m
    induction m with
    | zero =>
      intro a hm hP
      cases e : t a with
      | false => exact ⟨0, hP, e, fun i hi => absurd hi (Nat.not_lt_zero _)⟩
      | true => have := (step a hP e).2; omega
    | succ m ih =>
      intro a hm hP
      cases e : t a with
      | false => exact ⟨0, hP, e, fun i hi => absurd hi (Nat.not_lt_zero _)⟩
      | true =>
        obtain ⟨h1, h2⟩ := step a hP e
        obtain ⟨n, q1, q2, q3⟩ := ih (f a) (by omega) h1
        refine ⟨n + 1, by rw [sh]; exact q1, by rw [sh]; exact q2, fun i hi => ?_⟩
        cases i with
        | zero => exact ⟨hP, e⟩
        | succ i => rw [sh]; exact q3 i (by omega)
  exact ex (μ a) a (Nat.le_refl _) h0
section
variable {W : Wd} (T : Fx W.K W.mg W.c)
include T
theorem fs_law_rows {k} (GT : W.fs (k + 1) "_law_take" RTake) (GW : W.fs (k + 1) "_law_web" RWeb) (GO : W.fs (k + 1) "_law_of_tree" (fun S ds r S' => ∃ n : Nat, ds = [.int n] ∧ (1 ≤ n ∧ n ≤ 8) ∧ r = rT n (treD n S) ∧ S' = treE n S)) (GG : W.fs (k + 1) "_law_grid" (fun S ds r S' => ∃ n : Nat, ds = [.int n] ∧ (1 ≤ n ∧ n ≤ 8) ∧ r = rT n (grdD n S) ∧ S' = (grdL n S).1)) (GB : W.fs (k + 1) "_law_band" (fun S ds r S' => ∃ n : Nat, ds = [.int n] ∧ (1 ≤ n ∧ n ≤ 8) ∧ r = rT n (bndR n S).2 ∧ S' = (bndR n S).1)) (GL : W.fs (k + 1) "_law_levels" (fun S ds r S' => ∃ n : Nat, ds = [.int n] ∧ (1 ≤ n ∧ n ≤ 8) ∧ r = rT n (lev (hgtR S).2.2 (wd (hgtR S).2.1)) ∧ S' = wS (hgtR S).2.1 n)) (h : DefW W "_law_rows" (top 64)) : W.fs (k + 2) "_law_rows" (fun S ds r S' => ∃ most : Nat, ds = [.int most] ∧ (1 ≤ most ∧ most ≤ 8) ∧ r = rT (rowN most S) (rowR most S).2 ∧ S' = (rowR most S).1) := by
  obtain ⟨f, h, hm⟩ := h
  have hN : (["_law_state_here", "_law_most", "_law_n", "_law_pick"] : List Str).Nodup := by decide +kernel
  refine fnS_mk (N := ["_law_state_here", "_law_most", "_law_n", "_law_pick"]) (ps := ["_law_state_here", "_law_most"]) h hm ⟨rfl, rfl, rfl, hN, rfl, by decide +kernel, by decide +kernel⟩ (fun S ds d S' h => by obtain ⟨_, rfl, _⟩ := h; rfl) ?_ (fun _ _ _ _ _ _ us hl => match us, hl with | [_, _], _ => rfl)
  rintro S ds r S' ⟨most, rfl, hmo, rfl, rfl⟩ f cdv Ar outer sh hp0 E st hr
  have hn : 1 ≤ rowN most S ∧ rowN most S ≤ 8 := by
    have := tkV_lt (s := S) (m := most) (by omega)
    unfold rowN; omega
  have hp : tkV (tkS S most) 6 < 6 := tkV_lt (by omega)
  refine bodyI (o := .rt (.im (rT (rowN most S) (rowR most S).2)) (some (rowR most S).1)) (ex_cons (es_set 2 (ev_to (ev_add ev_int (ev_callS (ds := [_]) (s := S) 0 GT hr rfl (eva_cons (ev_name 1 rfl) eva_nil) rfl ⟨most, rfl, by omega, rfl, rfl⟩)) (show _ = D.int ((rowN most S : Nat) : Int) by unfold rowN; simp)) rfl hN) <| ex_cons (es_set 3 (ev_callS (ds := [_]) (s := tkS S most) 0 GT hr rfl (eva_cons ev_int eva_nil) rfl ⟨6, rfl, by omega, rfl, rfl⟩) rfl hN) <| ?_) ⟨rfl, rfl⟩
  show Ex _ _ _ _ ⟨some (tkS (tkS S most) 6), [some .stt, sd (.int most), sd (.int (rowN most S : Nat)), sd (.int (tkV (tkS S most) 6 : Nat))]⟩ (.rt (.im (rT (rowN most S) (famR (tkV (tkS S most) 6) (rowN most S) (tkS (tkS S most) 6)).2)) (some (famR (tkV (tkS S most) 6) (rowN most S) (tkS (tkS S most) 6)).1))
  generalize rowN most S = n at hn
  generalize tkS (tkS S most) 6 = s
  generalize tkV (tkS S most) 6 = q at hp
  unfold famR
  have t : ∀ j : Int, decide (((q : Nat) : Int) = j) = decide (((q : Nat) : Int) = j) := fun _ => rfl
  by_cases q0 : q = 0
  · rw [if_pos q0]
    exact ex_take (evt_to (evt_eq rfl (ev_name 3 rfl) ev_int) (decide_eq_true (by omega))) (ex_one (es_retS (ev_callS (ds := [_, _]) (s := s) 0 GW hr rfl (eva_cons (ev_name 2 rfl) (eva_cons ev_int eva_nil)) rfl ⟨n, 2, rfl, by omega, by omega, rfl, rfl⟩)))
  rw [if_neg q0]
  refine ex_skip (evt_to (evt_eq rfl (ev_name 3 rfl) ev_int) (decide_eq_false (by omega))) ?_
  by_cases q1 : q = 1
  · rw [if_pos q1]
    exact ex_take (evt_to (evt_eq rfl (ev_name 3 rfl) ev_int) (decide_eq_true (by omega))) (ex_one (es_retS (ev_callS (ds := [_, _]) (s := s) 0 GW hr rfl (eva_cons (ev_name 2 rfl) (eva_cons ev_int eva_nil)) rfl ⟨n, 5, rfl, by omega, by omega, rfl, rfl⟩)))
  rw [if_neg q1]
  refine ex_skip (evt_to (evt_eq rfl (ev_name 3 rfl) ev_int) (decide_eq_false (by omega))) ?_
  by_cases q2 : q = 2
  · rw [if_pos q2]
    exact ex_take (evt_to (evt_eq rfl (ev_name 3 rfl) ev_int) (decide_eq_true (by omega))) (ex_one (es_retS (ev_callS (ds := [_]) (s := s) 0 GO hr rfl (eva_cons (ev_name 2 rfl) eva_nil) rfl ⟨n, rfl, by omega, rfl, rfl⟩)))
  rw [if_neg q2]
  refine ex_skip (evt_to (evt_eq rfl (ev_name 3 rfl) ev_int) (decide_eq_false (by omega))) ?_
  by_cases q3 : q = 3
  · rw [if_pos q3]
    exact ex_take (evt_to (evt_eq rfl (ev_name 3 rfl) ev_int) (decide_eq_true (by omega))) (ex_one (es_retS (ev_callS (ds := [_]) (s := s) 0 GG hr rfl (eva_cons (ev_name 2 rfl) eva_nil) rfl ⟨n, rfl, by omega, rfl, rfl⟩)))
  rw [if_neg q3]
  refine ex_skip (evt_to (evt_eq rfl (ev_name 3 rfl) ev_int) (decide_eq_false (by omega))) ?_
  by_cases q4 : q = 4
  · rw [if_pos q4]
    exact ex_take (evt_to (evt_eq rfl (ev_name 3 rfl) ev_int) (decide_eq_true (by omega))) (ex_one (es_retS (ev_callS (ds := [_]) (s := s) 0 GB hr rfl (eva_cons (ev_name 2 rfl) eva_nil) rfl ⟨n, rfl, by omega, rfl, rfl⟩)))
  rw [if_neg q4]
  refine ex_skip (evt_to (evt_eq rfl (ev_name 3 rfl) ev_int) (decide_eq_false (by omega))) ?_
  exact ex_one (es_retS (ev_callS (ds := [_]) (s := s) 0 GL hr rfl (eva_cons (ev_name 2 rfl) eva_nil) rfl ⟨n, rfl, by omega, rfl, rfl⟩))
theorem fs_law_factor {k} (GT : W.fs (k + 1) "_law_take" RTake) (h : DefW W "_law_factor" (top 65)) : W.fs (k + 2) "_law_factor" (fun S ds r S' => ds = [] ∧ r = tI [((facN S : Nat) : Int), ((facD S : Nat) : Int)] ∧ S' = facS S) := by
  obtain ⟨f, h, hm⟩ := h
  have hN : (["_law_state_here"] : List Str).Nodup := by decide +kernel
  refine fnS_mk (N := ["_law_state_here"]) (ps := ["_law_state_here"]) h hm ⟨rfl, rfl, rfl, hN, rfl, by decide +kernel, by decide +kernel⟩ (fun S ds d S' h => by obtain ⟨rfl, _⟩ := h; rfl) ?_ (fun _ _ _ _ _ _ us hl => match us, hl with | [_], _ => rfl)
  rintro S ds r S' ⟨rfl, rfl, rfl⟩ f cdv Ar outer sh hp0 E st hr
  refine bodyI (ex_one (es_ret (ev_tup (ds := [_, _]) (eva_cons (ev_add ev_int (ev_callS (ds := [_]) (s := S) 0 GT hr rfl (eva_cons ev_int eva_nil) rfl ⟨4, rfl, by omega, rfl, rfl⟩)) (eva_cons (ev_add ev_int (ev_callS (ds := [_]) (s := tkS S 4) 0 GT hr rfl (eva_cons ev_int eva_nil) rfl ⟨3, rfl, by omega, rfl, rfl⟩)) eva_nil)) (by simp)))) ⟨?_, rfl⟩
  show D.tup [D.int (1 + _), D.int (1 + _)] = D.tup [D.int _, D.int _]
  unfold facN facD
  simp
theorem fp_law_ratios {k} (GK : W.fk k "Ratio" W.c.R [] RInit) (h : DefW W "_law_ratios" (top 66)) : W.fp (k + 2) "_law_ratios" (fun ds r => ∃ (n p q : Nat) (d : Nat → Nat → Int), ds = [rT n d, tI [(p : Int), (q : Int)]] ∧ n ≤ 8 ∧ (0 < q ∧ q < 100 ∧ p < 100) ∧ (∀ x y, x < n → y < n → (d x y).natAbs < 2 ^ 32) ∧ r = qT n fun x y => fq p q (d x y)) := by
  obtain ⟨f, h, hm⟩ := h
  have hN : (["_law_rows_here", "_law_factor_here", "_law_row", "_law_x"] : List Str).Nodup := by decide +kernel
  refine fnP_mk (N := ["_law_rows_here", "_law_factor_here", "_law_row", "_law_x"]) (ps := ["_law_rows_here", "_law_factor_here"]) h hm ⟨rfl, rfl, rfl, hN, rfl, by decide +kernel, by decide +kernel⟩ (fun ds d h => by obtain ⟨_, _, _, _, rfl, _⟩ := h; rfl) ?_ (fun _ _ _ _ _ _ us hl => match us, hl with | [_, _], _ => rfl)
  rintro ds r ⟨n, p, q, d, rfl, hn, hpq, hd, rfl⟩ f cdv Ar outer sh hp0 E st hr
  refine bodyI (ex_one (es_ret (ev_tupleOf T.tuple (.inl rfl) (Ev.frzL (EvL.ev (lc_map (n := n) (g := fun x => .tup (tab n fun y => .int (d x y))) [("_law_row", 2)] (fun x => .tup (tab n fun y => .rat (fq p q (d x y)))) hN (it_list (ev_name 0 rfl)) (by omega) fun x hx => turn fun s0 H0 D0 cl fp => ⟨tg_name 2 hN, ev_tupleOf T.tuple (.inl rfl) (Ev.frzL (EvL.ev (lc_map (n := n) (g := fun y => .int (d x y)) [("_law_x", 3)] (fun y => .rat (fq p q (d x y))) hN (it_tup (ev_name 2 rfl)) (by omega) fun y hy => turn fun s1 H1 D1 cl1 fp1 => ⟨tg_name 3 hN, ev_make (ds := [_, _]) GK hr ⟨_, _, rfl, by omega, ?_, Bd.sm (by omega), rfl⟩ (eva_cons (ev_mul (Bd.mul (Bd.sm (Nat.lt_trans (hd x y hx hy) (by decide))) (Bd.sm (by omega))) (ev_name 3 rfl) (ev_ix (d1 := .int (p : Int)) (i := 0) rfl (ev_name 1 rfl) ev_int)) (eva_cons (ev_ix (d1 := .int (q : Int)) (i := 1) rfl (ev_name 1 rfl) ev_int) eva_nil))⟩)))⟩)))))) ⟨rfl, rfl⟩
  have h1 := hd x y hx hy
  refine Bd.sm ?_
  rw [Int.natAbs_mul]
  have h2 : ((p : Int)).natAbs < 100 := by omega
  have h3 := Nat.mul_lt_mul'' h1 h2
  exact Nat.lt_of_lt_of_le h3 (by decide)
theorem fp_law_low {k}  (h : DefW W "_law_low" (top 67)) : W.fp (k + 2) "_law_low" (fun ds r => ∃ n d : Int, ds = [.int n, .int d] ∧ 0 < d ∧ Bd d ∧ r = qD (Rat.divInt n d)) := by
  obtain ⟨f, h, hm⟩ := h
  have hN : (["_law_n", "_law_d", "_law_a", "_law_b"] : List Str).Nodup := by decide +kernel
  refine fnP_mk (N := ["_law_n", "_law_d", "_law_a", "_law_b"]) (ps := ["_law_n", "_law_d"]) h hm ⟨rfl, rfl, rfl, hN, rfl, by decide +kernel, by decide +kernel⟩ (fun ds d h => by obtain ⟨_, _, rfl, _⟩ := h; rfl) ?_ (fun _ _ _ _ _ _ us hl => match us, hl with | [_, _], _ => rfl)
  rintro ds r ⟨n, d, rfl, hd, hb, rfl⟩ f cdv Ar outer sh hp0 E st hr
  obtain ⟨N, hP, hN0, hlt⟩ := whileN (t := fun a : Nat × Nat => !decide ((a.2 : Int) = 0)) (f := fun a => (a.2, a.1 % a.2)) (P := fun a => Nat.gcd a.1 a.2 = Nat.gcd n.natAbs d.natAbs) (μ := fun a => a.2) (a := (n.natAbs, d.natAbs)) rfl (fun a ha ht => by
      have h2 : 0 < a.2 := by
        rcases Nat.eq_zero_or_pos a.2 with h | h
        · rw [h] at ht; simp at ht
        · exact h
      refine ⟨?_, Nat.mod_lt _ h2⟩
      show Nat.gcd a.2 (a.1 % a.2) = _
      rw [Nat.gcd_comm a.2, ← Nat.gcd_rec, Nat.gcd_comm]; exact ha)
  have hz : (itn (fun a : Nat × Nat => (a.2, a.1 % a.2)) N (n.natAbs, d.natAbs)).2 = 0 := by
    have := hN0
    simp only [Bool.not_eq_false', decide_eq_true_eq] at this
    omega
  have hg : (itn (fun a : Nat × Nat => (a.2, a.1 % a.2)) N (n.natAbs, d.natAbs)).1 = Nat.gcd n.natAbs d.natAbs := by
    have := hP
    rw [hz, Nat.gcd_zero_right] at this
    exact this
  obtain ⟨e1, e2⟩ := ratOf (n := n) hd
  refine bodyI (o := .rt (.im (qD (Rat.divInt n d))) none) (ex_skip (evt_to (evt_icmp .lt (ev_name 1 rfl) ev_int) (decide_eq_false (by omega))) <| ex_cons (es_eq (C3 := ⟨none, [sd (.int n), sd (.int d), sd (.int ((n.natAbs : Nat) : Int)), sd (.int ((d.natAbs : Nat) : Int))]⟩) (es_par 2 3 (eva_cons (ev_to (ev_abs T.abs (ev_name 0 rfl)) (show _ = D.int ((n.natAbs : Nat) : Int) by congr 1; split <;> omega)) (eva_cons (ev_to (ev_name 1 rfl) (show _ = D.int ((d.natAbs : Nat) : Int) by congr 1; omega)) eva_nil)) rfl rfl rfl hN)) <| ex_cons (es_whileT (G := fun a : Nat × Nat => ⟨none, [sd (.int n), sd (.int d), sd (.int a.1), sd (.int a.2)]⟩) (t := fun a => !decide ((a.2 : Int) = 0)) (f := fun a => (a.2, a.1 % a.2)) N (a0 := (n.natAbs, d.natAbs)) PassesOwn.never (fun i hi => (hlt i hi).2) hN0 (fun i hi => evt_ne rfl (ev_name 3 rfl) ev_int) fun i hi => ex_eq (ex_one (es_par 2 3 (eva_cons (ev_name 3 rfl) (eva_cons (ev_mod ?_ (ev_int1 T.int (ev_name 2 rfl)) (ev_name 3 rfl)) eva_nil)) rfl rfl rfl hN)) rfl) <| ?_) ⟨rfl, rfl⟩
  · have ht := (hlt i hi).2
    simp only [Bool.not_eq_true', decide_eq_false_iff_not] at ht
    omega
  · show Ex _ _ _ _ ⟨none, [sd (.int n), sd (.int d), sd (.int ((itn (fun a : Nat × Nat => (a.2, a.1 % a.2)) N (n.natAbs, d.natAbs)).1 : Int)), sd (.int ((itn (fun a : Nat × Nat => (a.2, a.1 % a.2)) N (n.natAbs, d.natAbs)).2 : Int))]⟩ _
    rw [hg, hz]
    show Ex _ _ _ _ _ (.rt (.im (.tup [.int (Rat.divInt n d).num, .int ((Rat.divInt n d).den : Int)])) none)
    rw [e1, e2]
    exact ex_one (es_retS (ev_tup (ds := [_, _]) (eva_cons (ev_div (Bd.div (gcdPos hd) (gcdLe hd hb)) (ev_name 0 rfl) (ev_name 2 rfl)) (eva_cons (ev_div (Bd.div (gcdPos hd) (gcdLe hd hb)) (ev_name 1 rfl) (ev_name 2 rfl)) eva_nil)) (by simp)))
end
end K48

namespace K48
open PySem PySem.Spec PyProof.Rows L2

theorem es_allF {X : Cx} {c : Cl} {st : Addr} {tg iter : Expr} {C : Cfg} {pos : Pos} {body : List Stmt} {m : Mu} {β : Type} {bs : List β} {inj : β → D} {α : Type} (G : α → Cfg) (f : α → β → α) (q : β → Bool) (P : Nat → α → Prop) {a0 : α} {S' : Option (Int × Int)} (h0 : P 0 a0) (hp : PassesOwn (model X.prog X.w) X.A X.env X.xe) (hi : Iter X c st tg iter C (bs.map inj) (G a0))
    (turn : ∀ i b a, bs[i]? = some b → P i a → (∃ C2 ts, Tg X c st tg (G a) (inj b) C2 ts ∧ Ex X c st body C2 (if q b = true then .nx (G (f a b)) else .rt m S')) ∧ (q b = true → P (i + 1) (f a b))) (hc : X.calm = true := by rfl)
    (hs : ∀ x, foldedSetIterable iter X.env x = pure x := by intro _; rfl) : Es X c st (.For tg iter body [] pos) C (if bs.all q = true then .nx (G (bs.foldl f a0)) else .rt m S') := by
  have inv : ∀ k, k ≤ bs.length → (∀ j b, j < k → bs[j]? = some b → q b = true) → P k ((bs.take k).foldl f a0) := by
    intro k
    induction k with
    | zero => intro _ _; exact h0
    | succ k ih =>
      intro hk hq
      obtain ⟨b, hb⟩ : ∃ b, bs[k]? = some b := ⟨_, List.getElem?_eq_getElem (by omega)⟩
      rw [foldl_take hb]
      exact (turn k b _ hb (ih (by omega) fun j b' hj => hq j b' (by omega))).2 (hq k b (by omega) hb)
  by_cases h : bs.all q = true
  · rw [if_pos h]
    have hq : ∀ j b, bs[j]? = some b → q b = true := fun j b hb => List.all_eq_true.mp h b (List.mem_of_getElem? hb)
    have z := es_forAll (X := X) (c := c) (st := st) (body := body) (pos := pos) (fun i => G ((bs.take i).foldl f a0)) hp (by simpa using hi) (fun i d hd => by
      rw [List.getElem?_map] at hd
      cases hb : bs[i]? with
      | none => rw [hb] at hd; cases hd
      | some b =>
        rw [hb] at hd
        cases hd
        have t := (turn i b _ hb (inv i (by have := (List.getElem?_eq_some_iff.mp hb).1; omega) fun j b' _ hb' => hq j b' hb')).1
        rw [if_pos (hq i b hb)] at t
        rw [foldl_take hb]
        exact t) hc hs
    rw [List.length_map, List.take_length] at z
    exact z
  · rw [if_neg h]
    obtain ⟨n, hn, h1, h2⟩ : ∃ (n : Nat) (b : β), bs[n]? = some b ∧ q b = false ∧ ∀ j b', j < n → bs[j]? = some b' → q b' = true := by
      have : ∀ l : List β, ¬ l.all q = true → ∃ (n : Nat) (b : β), l[n]? = some b ∧ q b = false ∧ ∀ j b', j < n → l[j]? = some b' → q b' = true := by
        intro l
        induction l with
        | nil => intro h; exact absurd rfl h
        | cons b l ih =>
          intro h
          cases hb : q b with
          | false => exact ⟨0, b, rfl, hb, fun j b' hj => absurd hj (Nat.not_lt_zero _)⟩
          | true =>
            rw [List.all_cons, hb, Bool.true_and] at h
            obtain ⟨n, b', q1, q2, q3⟩ := ih h
            refine ⟨n + 1, b', by simpa using q1, q2, fun j b2 hj hb2 => ?_⟩
            cases j with
            | zero => simp at hb2; rw [← hb2]; exact hb
            | succ j => exact q3 j b2 (by omega) (by simpa using hb2)
      exact this bs h
    obtain ⟨h2, h3⟩ := h2
    have hl := (List.getElem?_eq_some_iff.mp h1).1
    obtain ⟨C2, ts, t1, t2⟩ := (turn n hn _ h1 (inv n (by omega) h3)).1
    rw [if_neg (by rw [h2]; decide)] at t2
    refine es_forRet (fun i => G ((bs.take i).foldl f a0)) n hp (by simpa using hi) (fun i d hi' hd => ?_) (by rw [List.getElem?_map, h1]; rfl) t1 t2 hc hs
    rw [List.getElem?_map] at hd
    cases hb : bs[i]? with
    | none => rw [hb] at hd; cases hd
    | some b =>
      rw [hb] at hd
      cases hd
      have t := (turn i b _ hb (inv i (by omega) fun j b' hj hb' => h3 j b' (by omega) hb')).1
      rw [if_pos (h3 i b hi' hb)] at t
      rw [foldl_take hb]
      exact t
abbrev RLow (ds : List D) (r : D) : Prop := ∃ n d : Int, ds = [.int n, .int d] ∧ 0 < d ∧ Bd d ∧ r = qD (Rat.divInt n d)
abbrev RQop (g : Rat → Rat → Rat) (ds : List D) (r : D) : Prop := ∃ p q, ds = [qD p, qD q] ∧ Sm p ∧ Sm q ∧ r = qD (g p q)
theorem lt_nn (i : Int) : decide (i < 0) = !decide (0 ≤ i) := by
  by_cases h : 0 ≤ i
  · rw [decide_eq_true h, decide_eq_false (by omega)]; rfl
  · rw [decide_eq_false h, decide_eq_true (by omega)]; rfl
theorem le_nn (n i : Int) : decide (n ≤ i) = !decide (i < n) := by
  by_cases h : i < n
  · rw [decide_eq_true h, decide_eq_false (by omega)]; rfl
  · rw [decide_eq_false h, decide_eq_true (by omega)]; rfl
def seenP : D → Pd
  | .rat q => .tI [q.num, (q.den : Int)]
  | _ => .non
abbrev RSeen (ds : List D) (r : D) : Prop := ∃ d, ds = [d] ∧ d.noM = true ∧ r = (seenP d).toD
theorem seen_all : ∀ l : List D, (l.map seenP).any (fun z => z.eq .non) = !l.all isQ
  | [] => rfl
  | d :: l => by
    rw [List.map_cons, List.any_cons, List.all_cons, seen_all l]
    cases d <;> simp [seenP, Pd.eq, isQ]
theorem seen_qs : ∀ {l : List D}, l.all isQ = true → (l.map seenP).map Pd.toD = (l.map D.toQ).map qD
  | [], _ => rfl
  | d :: l, h => by
    rw [List.all_cons, Bool.and_eq_true] at h
    rw [List.map_cons, List.map_cons, List.map_cons, List.map_cons, seen_qs h.2]
    cases d with
    | rat q => rfl
    | _ => cases h.1
/-- the law's splits -/
def lsS (n : Nat) : List (List Int) := lp (fun i l => l ++ l.map fun s => ((n : Int) - 1 + (i : Int) * (-1)) :: s) (n - 1) [[]]
def lawS (n : Nat) : List (List Int) := sortI ((lsS n).filter fun s => decide (0 < s.length))
theorem lsS_len (n : Nat) : (lsS n).length = 2 ^ (n - 1) := lp_inv (fun i (l : List (List Int)) => l.length = 2 ^ i) rfl fun i b _ h => by rw [List.length_append, List.length_map, h, Nat.pow_succ]; omega
theorem lsS_el (n : Nat) : ∀ s ∈ lsS n, s.length ≤ n - 1 := lp_inv (fun i (l : List (List Int)) => ∀ s ∈ l, s.length ≤ i) (fun s hs => by rw [List.mem_singleton.mp hs]; simp) fun i b _ h s hs => by
  rcases List.mem_append.mp hs with hs | hs
  · have := h s hs; omega
  · obtain ⟨t, ht, rfl⟩ := List.mem_map.mp hs
    have := h t ht
    simp only [List.length_cons]; omega
abbrev RLSpl (ds : List D) (r : D) : Prop := ∃ n : Nat, ds = [.int n] ∧ (1 ≤ n ∧ n ≤ 6) ∧ r = .lst ((lawS n).map tI)
abbrev lwD (p : List Int × Rat) : D := .tup [tI p.1, qD p.2]
section
variable {W : Wd} (T : Fx W.K W.mg W.c)
include T
theorem fp_law_plus {k} (GL : W.fp (k + 1) "_law_low" RLow) (h : DefW W "_law_plus" (top 68)) : W.fp (k + 2) "_law_plus" (fun ds r => ∃ p q, ds = [qD p, qD q] ∧ Sm p ∧ Sm q ∧ r = qD ((fun p q => p + q) p q)) := by
  obtain ⟨f, h, hm⟩ := h
  have hN : (["_law_a", "_law_b"] : List Str).Nodup := by decide +kernel
  refine fnP_mk (N := ["_law_a", "_law_b"]) (ps := ["_law_a", "_law_b"]) h hm ⟨rfl, rfl, rfl, hN, rfl, by decide +kernel, by decide +kernel⟩ (fun ds d h => by obtain ⟨_, _, rfl, _⟩ := h; rfl) ?_ (fun _ _ _ _ _ _ us hl => match us, hl with | [_, _], _ => rfl)
  rintro ds r ⟨p, q, rfl, hp, hq, rfl⟩ f cdv Ar outer sh hp0 E st hr
  refine bodyI (ex_one (es_ret (ev_call (ds := [_, _]) GL hr ⟨_, _, rfl, ?_, Bd.one (mulB (denB hp) (denB hq)), rfl⟩ (eva_cons (ev_add (ev_mul (Bd.mul hp.n hq.d) (ev_ix (d1 := .int p.num) (i := 0) rfl (ev_name 0 rfl) ev_int) (ev_ix (d1 := .int (q.den : Int)) (i := 1) rfl (ev_name 1 rfl) ev_int)) (ev_mul (Bd.mul hq.n hp.d) (ev_ix (d1 := .int q.num) (i := 0) rfl (ev_name 1 rfl) ev_int) (ev_ix (d1 := .int (p.den : Int)) (i := 1) rfl (ev_name 0 rfl) ev_int))) (eva_cons (ev_mul (Bd.mul hp.d hq.d) (ev_ix (d1 := .int (p.den : Int)) (i := 1) rfl (ev_name 0 rfl) ev_int) (ev_ix (d1 := .int (q.den : Int)) (i := 1) rfl (ev_name 1 rfl) ev_int)) eva_nil))))) ⟨?_, rfl⟩
  · have h1 := p.den_pos
    have h2 := q.den_pos
    exact Int.mul_pos (by omega) (by omega)
  · show qD (Rat.divInt _ _) = qD _
    rw [ratAdd]
theorem fp_law_mul {k} (GL : W.fp (k + 1) "_law_low" RLow) (h : DefW W "_law_mul" (top 69)) : W.fp (k + 2) "_law_mul" (fun ds r => ∃ p q, ds = [qD p, qD q] ∧ Sm p ∧ Sm q ∧ r = qD ((fun p q => p * q) p q)) := by
  obtain ⟨f, h, hm⟩ := h
  have hN : (["_law_a", "_law_b"] : List Str).Nodup := by decide +kernel
  refine fnP_mk (N := ["_law_a", "_law_b"]) (ps := ["_law_a", "_law_b"]) h hm ⟨rfl, rfl, rfl, hN, rfl, by decide +kernel, by decide +kernel⟩ (fun ds d h => by obtain ⟨_, _, rfl, _⟩ := h; rfl) ?_ (fun _ _ _ _ _ _ us hl => match us, hl with | [_, _], _ => rfl)
  rintro ds r ⟨p, q, rfl, hp, hq, rfl⟩ f cdv Ar outer sh hp0 E st hr
  refine bodyI (ex_one (es_ret (ev_call (ds := [_, _]) GL hr ⟨_, _, rfl, ?_, Bd.one (mulB (denB hp) (denB hq)), rfl⟩ (eva_cons (ev_mul (Bd.mul hp.n hq.n) (ev_ix (d1 := .int p.num) (i := 0) rfl (ev_name 0 rfl) ev_int) (ev_ix (d1 := .int q.num) (i := 0) rfl (ev_name 1 rfl) ev_int)) (eva_cons (ev_mul (Bd.mul hp.d hq.d) (ev_ix (d1 := .int (p.den : Int)) (i := 1) rfl (ev_name 0 rfl) ev_int) (ev_ix (d1 := .int (q.den : Int)) (i := 1) rfl (ev_name 1 rfl) ev_int)) eva_nil))))) ⟨?_, rfl⟩
  · have h1 := p.den_pos
    have h2 := q.den_pos
    exact Int.mul_pos (by omega) (by omega)
  · show qD (Rat.divInt _ _) = qD _
    rw [ratMul]
theorem fp_law_seen {k}  (h : DefW W "_law_seen" (top 70)) : W.fp (k + 2) "_law_seen" (fun ds r => ∃ d, ds = [d] ∧ d.noM = true ∧ r = (seenP d).toD) := by
  obtain ⟨f, h, hm⟩ := h
  have hN : (["_law_x"] : List Str).Nodup := by decide +kernel
  refine fnP_mk (N := ["_law_x"]) (ps := ["_law_x"]) h hm ⟨rfl, rfl, rfl, hN, rfl, by decide +kernel, by decide +kernel⟩ (fun ds d h => by obtain ⟨_, rfl, _⟩ := h; rfl) ?_ (fun _ _ _ _ _ _ us hl => match us, hl with | [_], _ => rfl)
  rintro ds r ⟨d, rfl, hd, rfl⟩ f cdv Ar outer sh hp0 E st hr
  cases hq : isQ d with
  | true =>
    obtain ⟨q, rfl⟩ : ∃ q, d = .rat q := by cases d <;> first | (cases hq; done) | exact ⟨_, rfl⟩
    exact bodyI (ex_skip (evt_to (evt_not (evt_val (ev_isRat (d := .rat q) T rfl (ev_name 0 rfl)))) rfl) <| ex_one (es_ret (ev_tup (ds := [_, _]) (eva_cons (ev_num T (ev_name 0 rfl)) (eva_cons (ev_den T (ev_name 0 rfl)) eva_nil)) (by simp)))) ⟨rfl, rfl⟩
  | false => exact bodyI (ex_take (evt_to (evt_not (evt_val (ev_isRat T hd (ev_name 0 rfl)))) (by cases d <;> first | (cases hq; done) | rfl)) (ex_one (es_ret ev_non))) ⟨by cases d <;> first | (cases hq; done) | rfl, rfl⟩
theorem fp_law_numbers_of {k} (GS : W.fp (k + 1) "_law_seen" RSeen) (h : DefW W "_law_numbers_of" (top 71)) : W.fp (k + 2) "_law_numbers_of" (fun ds r => ∃ d c, ds = [d, .int c] ∧ d.pl = true ∧ (∀ l, d = .tup l → l.length ≤ 1000) ∧ r = if areQs c d = true then .lst ((qsOf d).map qD) else .non) := by
  obtain ⟨f, h, hm⟩ := h
  have hN : (["_law_value", "_law_count", "_law_found", "_law_x"] : List Str).Nodup := by decide +kernel
  refine fnP_mk (N := ["_law_value", "_law_count", "_law_found", "_law_x"]) (ps := ["_law_value", "_law_count"]) h hm ⟨rfl, rfl, rfl, hN, rfl, by decide +kernel, by decide +kernel⟩ (fun ds d h => by obtain ⟨_, _, rfl, _⟩ := h; rfl) ?_ (fun _ _ _ _ _ _ us hl => match us, hl with | [_, _], _ => rfl)
  rintro ds r ⟨d, c, rfl, hd, hsz, rfl⟩ f cdv Ar outer sh hp0 E st hr
  cases ht : isD d .tuple with
  | false => exact bodyI (ex_take (EvW.t (evw_orT (evt_to (evt_not (evt_val (ev_isTup T (D.pl.noM hd) (ev_name 0 rfl)))) (by rw [ht]; rfl)))) (ex_one (es_ret ev_non))) ⟨by rw [areQs_no ht]; rfl, rfl⟩
  | true =>
    obtain ⟨l, rfl⟩ := isTup_ex ht
    by_cases hc : (l.length : Int) = c
    · have e : areQs c (.tup l) = l.all isQ := by show (decide ((l.length : Int) = c) && l.all isQ) = _; rw [decide_eq_true hc]; rfl
      have ez : (l.map seenP).map Pd.toD = l.map fun d => (seenP d).toD := by rw [List.map_map]; rfl
      rw [e]
      refine bodyI (ex_skip (EvW.t (evw_orF (evt_to (evt_not (evt_val (ev_isTup (d := .tup l) T rfl (ev_name 0 rfl)))) rfl) (evw_or1 (evt_to (evt_ne rfl (ev_len T.len rfl (ev_name 0 rfl)) (ev_name 1 rfl)) (by rw [decide_eq_true hc]; rfl))))) <| ex_cons (es_setL 2 (EvL.to (EvL.frzL (lcl_map (bs := l) (inj := id) [("_law_x", 3)] (fun d => (seenP d).toD) hN (it_tup (by rw [List.map_id]; exact ev_name 0 rfl)) (hsz l rfl) fun b hb => turn fun s0 H0 D0 cl fp => ⟨tg_name 3 hN, ev_call (ds := [_]) GS hr ⟨b, rfl, D.pl.noM (plL_mem (show plL l = true from hd) hb), rfl⟩ (eva_cons (ev_name 3 rfl) eva_nil)⟩)) (show _ = Mu.im (D.lst ((l.map seenP).map Pd.toD)) by rw [ez])) rfl) <| ex_guard (evt_nonIn hr (ev_name 2 rfl)) (fun _ => ex_one (es_ret ev_non)) fun _ => ex_one (es_ret (ev_name 2 rfl))) (Fin.ite (fun h => ⟨?_, rfl⟩) fun h => ⟨?_, rfl⟩)
      · rw [seen_all, Bool.not_eq_true'] at h
        rw [h]; rfl
      · rw [seen_all, Bool.not_eq_true', Bool.not_eq_false] at h
        rw [if_pos h]
        show D.lst _ = D.lst _
        rw [seen_qs h]; rfl
    · have e : areQs c (.tup l) = false := by show (decide ((l.length : Int) = c) && l.all isQ) = _; rw [decide_eq_false hc]; rfl
      exact bodyI (ex_take (EvW.t (evw_orF (evt_to (evt_not (evt_val (ev_isTup (d := .tup l) T rfl (ev_name 0 rfl)))) rfl) (evw_or1 (evt_to (evt_ne rfl (ev_len T.len rfl (ev_name 0 rfl)) (ev_name 1 rfl)) (by rw [decide_eq_false hc]; rfl))))) (ex_one (es_ret ev_non))) ⟨by rw [e]; rfl, rfl⟩
theorem fp_law_are_points {k}  (h : DefW W "_law_are_points" (top 72)) : W.fp (k + 2) "_law_are_points" (fun ds r => ∃ n d c, ds = [.int n, d, .int c] ∧ d.pl = true ∧ r = .bl (arePts n c d)) := by
  obtain ⟨f, h, hm⟩ := h
  have hN : (["_law_n", "_law_value", "_law_count", "_law_x"] : List Str).Nodup := by decide +kernel
  refine fnP_mk (N := ["_law_n", "_law_value", "_law_count", "_law_x"]) (ps := ["_law_n", "_law_value", "_law_count"]) h hm ⟨rfl, rfl, rfl, hN, rfl, by decide +kernel, by decide +kernel⟩ (fun ds d h => by obtain ⟨_, _, _, rfl, _⟩ := h; rfl) ?_ (fun _ _ _ _ _ _ us hl => match us, hl with | [_, _, _], _ => rfl)
  rintro ds r ⟨n, d, c, rfl, hd, rfl⟩ f cdv Ar outer sh hp0 E st hr
  cases ht : isD d .tuple with
  | false => exact bodyI (ex_take (EvW.t (evw_orT (evt_to (evt_not (evt_val (ev_isTup T (D.pl.noM hd) (ev_name 1 rfl)))) (by rw [ht]; rfl)))) (ex_one (es_ret ev_bl))) ⟨by rw [arePts_no ht]; rfl, rfl⟩
  | true =>
    obtain ⟨l, rfl⟩ := isTup_ex ht
    refine bodyI (ex_guard (t := !decide ((l.length : Int) = c)) (EvW.t (evw_or (s := false) (evt_not (evt_val (ev_isTup (d := .tup l) T rfl (ev_name 1 rfl)))) fun _ => evw_or1 (evt_ne rfl (ev_len T.len rfl (ev_name 1 rfl)) (ev_name 2 rfl)))) (fun _ => ex_one (es_ret ev_bl)) fun _ =>
      ex_ifnx (C1 := ⟨none, [sd (.int n), sd (.tup l), sd (.int c), none]⟩) (m := .im (.bl false)) (S' := none) (es_allL (bs := l) (inj := id) (isPt n) PassesOwn.never (it_tup (by rw [List.map_id]; exact ev_name 1 rfl)) fun b hb => ⟨_, _, tg_name 3 hN, ?_⟩) fun _ => ex_one (es_ret ev_bl)) ?_
    · have hp := D.pl.noM (plL_mem (show plL l = true from hd) hb)
      have fin : ∀ (t : Bool), t = !isPt n b → (t = t) := fun _ _ => rfl
      cases b with
      | met _ _ => cases hp
      | int i => exact ex_unless (t := decide (i < 0) || decide (n ≤ i)) (EvW.t (evw_orF (evt_to (evt_not (evt_val (ev_isInt T hp (ev_name 3 rfl)))) rfl) (evw_orF (evt_to (evt_val (ev_isBool T hp (ev_name 3 rfl))) rfl) (evw_or (evt_icmp .lt (ev_name 3 rfl) ev_int) fun _ => evw_or1 (evt_icmp .ge (ev_name 3 rfl) (ev_name 0 rfl)))))) (by show _ = !(decide (0 ≤ i) && decide (i < n)); rw [Bool.not_and, lt_nn i, le_nn n i]) (fun _ => ex_one (es_ret ev_bl)) rfl ⟨rfl, rfl, rfl, trivial⟩
      | bl i => exact ex_unless (t := true) (EvW.t (evw_orF (evt_to (evt_not (evt_val (ev_isInt T hp (ev_name 3 rfl)))) rfl) (evw_orT (evt_to (evt_val (ev_isBool T hp (ev_name 3 rfl))) rfl)))) rfl (fun _ => ex_one (es_ret ev_bl)) rfl ⟨rfl, rfl, rfl, trivial⟩
      | non => exact ex_unless (t := true) (EvW.t (evw_orT (evt_to (evt_not (evt_val (ev_isInt T hp (ev_name 3 rfl)))) rfl))) rfl (fun _ => ex_one (es_ret ev_bl)) rfl ⟨rfl, rfl, rfl, trivial⟩
      | str _ => exact ex_unless (t := true) (EvW.t (evw_orT (evt_to (evt_not (evt_val (ev_isInt T hp (ev_name 3 rfl)))) rfl))) rfl (fun _ => ex_one (es_ret ev_bl)) rfl ⟨rfl, rfl, rfl, trivial⟩
      | rat _ => exact ex_unless (t := true) (EvW.t (evw_orT (evt_to (evt_not (evt_val (ev_isInt T hp (ev_name 3 rfl)))) rfl))) rfl (fun _ => ex_one (es_ret ev_bl)) rfl ⟨rfl, rfl, rfl, trivial⟩
      | tup _ => exact ex_unless (t := true) (EvW.t (evw_orT (evt_to (evt_not (evt_val (ev_isInt T hp (ev_name 3 rfl)))) rfl))) rfl (fun _ => ex_one (es_ret ev_bl)) rfl ⟨rfl, rfl, rfl, trivial⟩
      | lst _ => exact ex_unless (t := true) (EvW.t (evw_orT (evt_to (evt_not (evt_val (ev_isInt T hp (ev_name 3 rfl)))) rfl))) rfl (fun _ => ex_one (es_ret ev_bl)) rfl ⟨rfl, rfl, rfl, trivial⟩
    · refine Fin.ite (fun h => ⟨?_, rfl⟩) fun h => Fin.ite (fun h' => ⟨?_, rfl⟩) fun h' => ⟨?_, rfl⟩
      · simp only [Bool.not_eq_true', decide_eq_false_iff_not] at h
        show D.bl false = D.bl (decide _ && _)
        rw [decide_eq_false h]; rfl
      · simp only [Bool.not_eq_true', decide_eq_false_iff_not, Decidable.not_not] at h
        show D.bl true = D.bl (decide _ && _)
        rw [decide_eq_true h, h']; rfl
      · show D.bl false = D.bl (decide _ && _)
        rw [Bool.not_eq_true] at h'
        rw [h', Bool.and_false]
theorem fp_law_table {k} (GL : W.fp (k + 1) "_law_low" RLow) (h : DefW W "_law_table" (top 73)) : W.fp (k + 2) "_law_table" (fun ds r => ∃ (n p q : Nat) (d : Nat → Nat → Int), ds = [rT n d, tI [(p : Int), (q : Int)]] ∧ n ≤ 8 ∧ (0 < q ∧ q < 100 ∧ p < 100) ∧ (∀ x y, x < n → y < n → (d x y).natAbs < 2 ^ 32) ∧ r = lT n fun x y => fq p q (d x y)) := by
  obtain ⟨f, h, hm⟩ := h
  have hN : (["_law_rows_here", "_law_factor_here", "_law_row", "_law_x"] : List Str).Nodup := by decide +kernel
  refine fnP_mk (N := ["_law_rows_here", "_law_factor_here", "_law_row", "_law_x"]) (ps := ["_law_rows_here", "_law_factor_here"]) h hm ⟨rfl, rfl, rfl, hN, rfl, by decide +kernel, by decide +kernel⟩ (fun ds d h => by obtain ⟨_, _, _, _, rfl, _⟩ := h; rfl) ?_ (fun _ _ _ _ _ _ us hl => match us, hl with | [_, _], _ => rfl)
  rintro ds r ⟨n, p, q, d, rfl, hn, hpq, hd, rfl⟩ f cdv Ar outer sh hp0 E st hr
  exact bodyI (ex_one (es_ret (Ev.frzL (EvL.ev (lc_map (n := n) (g := fun x => .tup (tab n fun y => .int (d x y))) [("_law_row", 2)] (fun x => .lst (tab n fun y => qD (fq p q (d x y)))) hN (it_list (ev_name 0 rfl)) (by omega) fun x hx => turn fun s0 H0 D0 cl fp => ⟨tg_name 2 hN, Ev.frzL (EvL.ev (lc_map (n := n) (g := fun y => .int (d x y)) [("_law_x", 3)] (fun y => qD (fq p q (d x y))) hN (it_tup (ev_name 2 rfl)) (by omega) fun y hy => turn fun s1 H1 D1 cl1 fp1 => ⟨tg_name 3 hN, ev_call (ds := [_, _]) GL hr ⟨_, _, rfl, by omega, Bd.sm (by omega), rfl⟩ (eva_cons (ev_mul (Bd.mul (Bd.sm (Nat.lt_trans (hd x y hx hy) (by decide))) (Bd.sm (by omega))) (ev_name 3 rfl) (ev_ix (d1 := .int (p : Int)) (i := 0) rfl (ev_name 1 rfl) ev_int)) (eva_cons (ev_ix (d1 := .int (q : Int)) (i := 1) rfl (ev_name 1 rfl) ev_int) eva_nil))⟩))⟩))))) ⟨rfl, rfl⟩
end
end K48

namespace K48
open PySem PySem.Spec PyProof.Rows L2

theorem qD0 : D.tup [.int 0, .int 1] = qD 0 := rfl
theorem prA_map {α β : Type} {m n : Nat} {g : Nat → Nat → α} {f : α → β} : (prA m n g).map f = prA m n fun x y => f (g x y) := by
  unfold prA
  rw [List.map_flatMap]
  congr 1
  funext x
  rw [tab_map]
abbrev RLSum (ds : List D) (r : D) : Prop := ∃ ps x y, ds = [.lst (ps.map lwD), .int x, .int y] ∧ (∀ i, Sm (sumP (ps.take i) x y)) ∧ (∀ p ∈ ps, Sm p.2) ∧ r = qD (sumP ps x y)
/-- a part, as the law reads it -/
def isPartL (n : Nat) : D → Bool
  | .tup [.tup s, w] => (s.all (isPt n) && decide (s.map D.toI ∈ lawS n)) && posQ w
  | _ => false
def arePartsL (n : Nat) : D → Bool
  | .tup l => l.all (isPartL n)
  | _ => false
theorem arePartsL_no {n : Nat} {d : D} (h : isD d .tuple = false) : arePartsL n d = false := by cases d <;> first | (cases h; done) | rfl
theorem isPartL_no {n : Nat} {d : D} (h : isD d .tuple = false) : isPartL n d = false := by cases d <;> first | (cases h; done) | rfl
theorem isPartL_no2 {n : Nat} {a b : D} (h : isD a .tuple = false) : isPartL n (.tup [a, b]) = false := by cases a <;> first | (cases h; done) | rfl
theorem isPartL_len {n : Nat} {l : List D} (h : ¬ l.length = 2) : isPartL n (.tup l) = false := by
  match l, h with
  | [], _ => simp [isPartL]
  | [_], _ => simp [isPartL]
  | [_, _], h => exact absurd rfl h
  | _ :: _ :: _ :: _, _ => simp [isPartL]
theorem posQ_no {d : D} (h : isQ d = false) : posQ d = false := by cases d <;> first | (cases h; done) | rfl
abbrev RLPts (ds : List D) (r : D) : Prop := ∃ n d c, ds = [.int n, d, .int c] ∧ d.pl = true ∧ r = .bl (arePts n c d)
section
variable {W : Wd} (T : Fx W.K W.mg W.c)
include T
theorem fp_law_splits {k}  (h : DefW W "_law_splits" (top 76)) : W.fp (k + 2) "_law_splits" (fun ds r => ∃ n : Nat, ds = [.int n] ∧ (1 ≤ n ∧ n ≤ 6) ∧ r = .lst ((lawS n).map tI)) := by
  obtain ⟨f, h, hm⟩ := h
  have hN : (["_law_n", "_law_found", "_law_x", "_law_split"] : List Str).Nodup := by decide +kernel
  refine fnP_mk (N := ["_law_n", "_law_found", "_law_x", "_law_split"]) (ps := ["_law_n"]) h hm ⟨rfl, rfl, rfl, hN, rfl, by decide +kernel, by decide +kernel⟩ (fun ds d h => by obtain ⟨_, rfl, _⟩ := h; rfl) ?_ (fun _ _ _ _ _ _ us hl => match us, hl with | [_], _ => rfl)
  rintro ds r ⟨n, rfl, hn, rfl⟩ f cdv Ar outer sh hp0 E st hr
  have en : ((n : Int) - 1 - 0).toNat = n - 1 := by omega
  have hL : (lp (fun i (l : List (List Int)) => l ++ l.map fun s => ((n : Int) - 1 + (i : Int) * (-1)) :: s) ((n : Int) - 1 - 0).toNat [[]]) = lsS n := by rw [en]; rfl
  have h32 : (lsS n).length ≤ 32 := by
    rw [lsS_len]
    exact Nat.le_trans (Nat.pow_le_pow_right (by decide) (show n - 1 ≤ 5 by omega)) (by decide)
  refine bodyI (o := .rt (.im (.lst ((lawS n).map tI))) none) (ex_cons (es_set 1 (Ev.frzL (l := [tI []]) (ev_lst (ms := [.im (tI [])]) (eva_cons (ev_tup (ds := []) eva_nil (by simp)) eva_nil) (by simp))) rfl hN) <| ex_cons (es_loop (G := fun l : List (List Int) => ⟨none, [sd (.int n), sd (.lst (l.map tI)), none, none]⟩) (f := fun i l => l ++ l.map fun s => ((n : Int) - 1 + (i : Int) * (-1)) :: s) (P := fun i l => l.length = 2 ^ i ∧ ∀ s ∈ l, s.length ≤ i) (a0 := [[]]) ⟨rfl, fun s hs => by rw [List.mem_singleton.mp hs]; simp⟩ PassesOwn.never (it_range3 T.range (eva_cons (ev_sub (ev_name 0 rfl) ev_int) (eva_cons ev_int (eva_cons (ev_neg ev_int) eva_nil))) (by omega) (by omega)) fun i l hi hl => ⟨turnI (tg_name 2 hN) (ex_one (es_set 1 (Ev.frzL (l := (l ++ l.map fun s => ((n : Int) - 1 + (i : Int) * (-1)) :: s).map tI) (ev_to' (ev_catL ?_ (ev_name 1 rfl) (Ev.frzL (EvL.ev (lcl_map (bs := l) (inj := tI) [("_law_split", 3)] (fun s => tI (((n : Int) - 1 + (i : Int) * (-1)) :: s)) hN (it_list (ev_name 1 rfl)) ?_ fun s hs => turn fun s0 H0 D0 cl fp => ⟨tg_name 3 hN, ev_catT (l := [.int ((n : Int) - 1 + (i : Int) * (-1))]) (l' := s.map D.int) (by have := hl.2 s hs; simp only [List.length_cons, List.length_nil, List.length_map]; omega) (ev_tup (ds := [_]) (eva_cons (ev_name 2 rfl) eva_nil) (by simp)) (ev_name 3 rfl)⟩)))) ?_)) rfl hN)) rfl ⟨rfl, rfl, trivial⟩, ?_⟩) <| ?_) ⟨rfl, rfl⟩
  · have h1 := hl.1
    have := pow7 (show i ≤ 7 by omega)
    simp only [List.length_map]; omega
  · have h1 := hl.1
    have := pow7 (show i ≤ 7 by omega)
    omega
  · show _ = Mu.ls (((l ++ l.map fun s => ((n : Int) - 1 + (i : Int) * (-1)) :: s).map tI).map Mu.im)
    simp only [List.map_append, List.map_map]
    rfl
  · refine ⟨by rw [List.length_append, List.length_map, hl.1, Nat.pow_succ]; omega, fun s hs => ?_⟩
    rcases List.mem_append.mp hs with hs | hs
    · have := hl.2 s hs; omega
    · obtain ⟨t, ht, rfl⟩ := List.mem_map.mp hs
      have := hl.2 t ht
      simp only [List.length_cons]; omega
  · show Ex _ _ _ _ ⟨none, [sd (.int n), sd (.lst ((lp (fun i (l : List (List Int)) => l ++ l.map fun s => ((n : Int) - 1 + (i : Int) * (-1)) :: s) ((n : Int) - 1 - 0).toNat [[]]).map tI)), none, none]⟩ _
    rw [hL]
    refine ex_one (es_retS (Ev.frzL (ev_sorted (ls := (lsS n).filter fun s => decide (0 < s.length)) hr T.sorted (fun s hs => ?_) ?_ (Ev.frzL (EvL.ev (lcl_filter (bs := lsS n) (inj := tI) [("_law_split", 3)] (fun s => decide (0 < s.length)) tI hN (it_list (ev_name 1 rfl)) (by omega) fun s hs => turnF fun s0 H0 D0 cl fp => ⟨tg_name 3 hN, evt_to (evt_icmp .gt (ev_len T.len rfl (ev_name 3 rfl)) ev_int) ?_, fun _ => ev_name 3 rfl⟩))))))
    · have := (List.mem_filter.mp hs).2
      rw [decide_eq_true_eq] at this
      exact List.length_pos_iff.mp this
    · exact Nat.lt_of_le_of_lt (List.length_filter_le _ _) (by omega)
    · rw [List.length_map]
      by_cases h : 0 < s.length
      · rw [decide_eq_true h, decide_eq_true (by omega)]
      · rw [decide_eq_false h, decide_eq_false (by omega)]
theorem fp_law_summed {k} (GP : W.fp (k + 1) "_law_plus" (RQop fun p q => p + q)) (h : DefW W "_law_summed" (top 78)) : W.fp (k + 2) "_law_summed" (fun ds r => ∃ ps x y, ds = [.lst (ps.map lwD), .int x, .int y] ∧ (∀ i, Sm (sumP (ps.take i) x y)) ∧ (∀ p ∈ ps, Sm p.2) ∧ r = qD (sumP ps x y)) := by
  obtain ⟨f, h, hm⟩ := h
  have hN : (["_law_parts", "_law_x", "_law_y", "_law_total", "_law_split", "_law_weight"] : List Str).Nodup := by decide +kernel
  refine fnP_mk (N := ["_law_parts", "_law_x", "_law_y", "_law_total", "_law_split", "_law_weight"]) (ps := ["_law_parts", "_law_x", "_law_y"]) h hm ⟨rfl, rfl, rfl, hN, rfl, by decide +kernel, by decide +kernel⟩ (fun ds d h => by obtain ⟨_, _, _, rfl, _⟩ := h; rfl) ?_ (fun _ _ _ _ _ _ us hl => match us, hl with | [_, _, _], _ => rfl)
  rintro ds r ⟨ps, x, y, rfl, hs, hp, rfl⟩ f cdv Ar outer sh hp0 E st hr
  refine bodyI (ex_cons (es_set 3 (ev_to (ev_tup (ds := [_, _]) (eva_cons ev_int (eva_cons ev_int eva_nil)) (by simp)) qD0) rfl hN) (ex_cons (es_fold (bs := ps) (inj := lwD) (a0 := 0) (fun a : Rat => ⟨none, [sd (.lst (ps.map lwD)), sd (.int x), sd (.int y), sd (qD a), none, none]⟩) (fun a p => if part p.1 x y = true then a + p.2 else a) (fun i a => a = sumP (ps.take i) x y) rfl PassesOwn.never (it_list (ev_name 0 rfl)) fun i p a hi ha => ?_) (ex_one (es_ret (ev_name 3 rfl))))) ⟨rfl, rfl⟩
  refine ⟨turnI (tg_tup (tgs_cons (tg_name 4 hN) (tgs_cons (tg_name 5 hN) tgs_nil))) (ex_one (es_if (o := .nx ⟨none, [sd (.lst (ps.map lwD)), sd (.int x), sd (.int y), sd (qD (if part p.1 x y = true then a + p.2 else a)), sd (tI p.1), sd (qD p.2)]⟩) (t := part p.1 x y) (evt_ne rfl (ev_inI (ev_name 1 rfl) (ev_name 4 rfl)) (ev_inI (ev_name 2 rfl) (ev_name 4 rfl))) (fun h => ?_) fun h => ?_)) rfl ⟨rfl, rfl, rfl, rfl, trivial⟩, ?_⟩
  · rw [if_pos h]
    exact ex_eq (ex_one (es_set 3 (ev_call (ds := [_, _]) GP hr ⟨a, p.2, rfl, by rw [ha]; exact hs i, hp p (List.mem_of_getElem? hi), rfl⟩ (eva_cons (ev_name 3 rfl) (eva_cons (ev_name 5 rfl) eva_nil))) rfl hN))
  · rw [h, if_neg Bool.false_ne_true]; exact ex_nil
  · rw [sumP_take hi, ha]
theorem fp_law_two {k}  (h : DefW W "_law_two" (top 79)) : W.fp (k + 2) "_law_two" (fun ds r => ∃ n : Nat, ds = [.int n] ∧ n ≤ 8 ∧ r = .lst ((prI n).map prD)) := by
  obtain ⟨f, h, hm⟩ := h
  have hN : (["_law_n", "_law_found", "_law_x", "_law_y"] : List Str).Nodup := by decide +kernel
  refine fnP_mk (N := ["_law_n", "_law_found", "_law_x", "_law_y"]) (ps := ["_law_n"]) h hm ⟨rfl, rfl, rfl, hN, rfl, by decide +kernel, by decide +kernel⟩ (fun ds d h => by obtain ⟨_, rfl, _⟩ := h; rfl) ?_ (fun _ _ _ _ _ _ us hl => match us, hl with | [_], _ => rfl)
  rintro ds r ⟨n, rfl, hn, rfl⟩ f cdv Ar outer sh hp0 E st hr
  refine bodyI (ex_cons (es_set 1 (Ev.frzL (l := []) (ev_lst (ms := []) eva_nil (by simp))) rfl hN) <| ex_cons (es_loop (n := n) (g := fun i => .int (i : Int)) (G := fun l : List D => ⟨none, [sd (.int n), sd (.lst l), none, none]⟩) (f := fun i l => l ++ tab (n - (i + 1)) fun j => prD (i, i + 1 + j)) (P := fun i l => l = prA i n fun x y => prD (x, y)) (a0 := []) (by simp [prA]) PassesOwn.never (it_rg T (ev_name 0 rfl) (by omega)) fun i l hi hl => ⟨turnI (tg_name 2 hN) (ex_one (es_set 1 (Ev.frzL (ev_catL ?_ (ev_name 1 rfl) (Ev.frzL (EvL.ev (lc_map (n := n - (i + 1)) (g := fun j => .int ((i + 1 + j : Nat) : Int)) [("_law_y", 3)] (fun j => prD (i, i + 1 + j)) hN (it_rg2 (lo := i + 1) T (ev_to (ev_add (ev_name 2 rfl) ev_int) rfl) (ev_name 0 rfl) (by omega)) (by omega) fun y hy => turn fun s0 H0 D0 cl fp => ⟨tg_name 3 hN, ev_tup (ds := [_, _]) (eva_cons (ev_name 2 rfl) (eva_cons (ev_name 3 rfl) eva_nil)) (by simp)⟩))))) rfl hN)) rfl ⟨rfl, rfl, trivial⟩, ?_⟩) <| ex_one (es_ret (ev_name 1 rfl))) ⟨?_, rfl⟩
  · rw [hl, tab_len]
    have := prA_len (n := n) (g := fun x y => prD (x, y)) i
    have h2 : i * n ≤ 8 * 8 := Nat.mul_le_mul (by omega) hn
    omega
  · rw [hl]; exact prA_succ.symm
  · show D.lst (lp _ n []) = _
    rw [lp_prA (g := fun x y => prD (x, y))]
    exact congrArg D.lst prA_map.symm
theorem fp_law_parts_of {k} (GP : W.fp (k + 1) "_law_are_points" RLPts) (GS : W.fp (k + 1) "_law_splits" RLSpl) (GN : W.fp (k + 1) "_law_seen" RSeen) (h : DefW W "_law_parts_of" (top 77)) : W.fp (k + 2) "_law_parts_of" (fun ds r => ∃ (n : Nat) (d : D), ds = [.int n, d] ∧ (1 ≤ n ∧ n ≤ 6) ∧ d.pl = true ∧ (∀ l, d = .tup l → l.length ≤ 1000) ∧ r = if arePartsL n d = true then .lst ((psOf d).map lwD) else .non) := by
  obtain ⟨f, h, hm⟩ := h
  have hN : (["_law_n", "_law_parts", "_law_found", "_law_part", "_law_weight"] : List Str).Nodup := by decide +kernel
  refine fnP_mk (N := ["_law_n", "_law_parts", "_law_found", "_law_part", "_law_weight"]) (ps := ["_law_n", "_law_parts"]) h hm ⟨rfl, rfl, rfl, hN, rfl, by decide +kernel, by decide +kernel⟩ (fun ds d h => by obtain ⟨_, _, rfl, _⟩ := h; rfl) ?_ (fun _ _ _ _ _ _ us hl => match us, hl with | [_, _], _ => rfl)
  rintro ds r ⟨n, d, rfl, hn, hd, hsz, rfl⟩ f cdv Ar outer sh hp0 E st hr
  cases ht : isD d .tuple with
  | false => exact bodyI (ex_take (evt_to (evt_not (evt_val (ev_isTup T (D.pl.noM hd) (ev_name 1 rfl)))) (by rw [ht]; rfl)) (ex_one (es_ret ev_non))) ⟨by rw [arePartsL_no ht]; rfl, rfl⟩
  | true =>
    obtain ⟨l, rfl⟩ := isTup_ex ht
    refine bodyI (ex_skip (evt_to (evt_not (evt_val (ev_isTup (d := .tup l) T rfl (ev_name 1 rfl)))) rfl) <| ex_cons (es_set 2 (ev_lst (ms := []) eva_nil (by simp)) rfl hN) <| ex_ifnxR (C1 := ⟨none, [sd (.int n), sd (.tup l), so (l.foldl (fun a b => a ++ [lwD (partOf b)]) []), none, none]⟩) (m := .im .non) (S' := none) (b := l.all (isPartL n) = true) (es_allF (bs := l) (inj := id) (G := fun a : List D => ⟨none, [sd (.int n), sd (.tup l), so a, none, none]⟩) (f := fun a b => a ++ [lwD (partOf b)]) (q := isPartL n) (P := fun i a => a.length = i) (a0 := []) rfl PassesOwn.never (it_tup (by rw [List.map_id]; exact ev_name 1 rfl)) fun i b a hi ha => ⟨⟨_, _, tg_name 3 hN, ?_⟩, fun _ => by rw [List.length_append, ha]; rfl⟩) <| ex_frz (m := .ls _) 2 rfl <| ex_one (es_ret (ev_name 2 rfl))) (Fin.ite (fun h => ⟨?_, rfl⟩) fun h => ⟨?_, rfl⟩)
    · have hb := List.mem_of_getElem? hi
      have hil : i < l.length := (List.getElem?_eq_some_iff.mp hi).1
      have hal : a.length ≤ 1000 := by have := hsz l rfl; omega
      have hb' := plL_mem (show plL l = true from hd) hb
      cases hbt : isD b .tuple with
      | false =>
        rw [isPartL_no hbt, if_neg Bool.false_ne_true]
        exact ex_take (EvW.t (evw_orT (evt_to (evt_not (evt_val (ev_isTup T (D.pl.noM hb') (ev_name 3 rfl)))) (by show (!isD b .tuple) = true; rw [hbt]; rfl)))) (ex_one (es_ret ev_non))
      | true =>
        obtain ⟨t, rfl⟩ := isTup_ex hbt
        by_cases h2 : t.length = 2
        · obtain ⟨x, y, rfl⟩ := len2 h2
          have hx : x.pl = true := plL_mem (show plL [x, y] = true from hb') (by simp)
          have hy : y.pl = true := plL_mem (show plL [x, y] = true from hb') (by simp)
          cases hxt : isD x .tuple with
          | false =>
            rw [isPartL_no2 hxt, if_neg Bool.false_ne_true]
            exact ex_take (EvW.t (evw_orF (evt_to (evt_not (evt_val (ev_isTup T rfl (ev_name 3 rfl)))) rfl) (evw_orF (evt_to (evt_ne rfl (ev_len T.len rfl (ev_name 3 rfl)) ev_int) rfl) (evw_or1 (evt_to (evt_not (evt_val (ev_isTup T (D.pl.noM hx) (ev_ix (d1 := x) (i := 0) rfl (ev_name 3 rfl) ev_int)))) (by rw [hxt]; rfl)))))) (ex_one (es_ret ev_non))
          | true =>
            obtain ⟨s, rfl⟩ := isTup_ex hxt
            refine ex_skip (EvW.t (evw_orF (evt_to (evt_not (evt_val (ev_isTup T rfl (ev_name 3 rfl)))) rfl) (evw_orF (evt_to (evt_ne rfl (ev_len T.len rfl (ev_name 3 rfl)) ev_int) rfl) (evw_or1 (evt_to (evt_not (evt_val (ev_isTup (d := .tup s) T rfl (ev_ix (d1 := .tup s) (i := 0) rfl (ev_name 3 rfl) ev_int)))) rfl))))) ?_
            have hq : isPartL n (.tup [.tup s, y]) = ((s.all (isPt n) && decide (s.map D.toI ∈ lawS n)) && posQ y) := rfl
            rw [hq]
            cases hp : s.all (isPt n) with
            | false =>
              exact ex_take (EvW.t (evw_orT (evt_to (evt_not (evt_val (ev_call (ds := [_, _, _]) GP hr ⟨(n : Int), .tup s, s.length, rfl, hx, rfl⟩ (eva_cons (ev_name 0 rfl) (eva_cons (ev_ix (d1 := .tup s) (i := 0) rfl (ev_name 3 rfl) ev_int) (eva_cons (ev_len T.len rfl (ev_ix (d1 := .tup s) (i := 0) rfl (ev_name 3 rfl) ev_int)) eva_nil)))))) (by show (!(decide ((s.length : Int) = s.length) && s.all (isPt n))) = true; rw [hp, Bool.and_false]; rfl)))) (ex_one (es_ret ev_non))
            | true =>
              have es := pts_ints hp
              have eD : D.tup s = tI (s.map D.toI) := congrArg D.tup es
              have first : ∀ {C : Cfg} {p1 p2 p3 p4 : Pos}, True := trivial
              cases hm : decide (s.map D.toI ∈ lawS n) with
              | false =>
                exact ex_take (EvW.t (evw_orF (evt_to (evt_not (evt_val (ev_call (ds := [_, _, _]) GP hr ⟨(n : Int), .tup s, s.length, rfl, hx, rfl⟩ (eva_cons (ev_name 0 rfl) (eva_cons (ev_ix (d1 := .tup s) (i := 0) rfl (ev_name 3 rfl) ev_int) (eva_cons (ev_len T.len rfl (ev_ix (d1 := .tup s) (i := 0) rfl (ev_name 3 rfl) ev_int)) eva_nil)))))) (by show (!(decide ((s.length : Int) = s.length) && s.all (isPt n))) = false; rw [hp, decide_eq_true rfl]; rfl)) (evw_or1 (evt_to (evt_notInT hr (ev_to (ev_ix (d1 := .tup s) (i := 0) rfl (ev_name 3 rfl) ev_int) eD) (ev_call (ds := [_]) GS hr ⟨n, rfl, hn, rfl⟩ (eva_cons (ev_name 0 rfl) eva_nil))) (by rw [hm]; rfl))))) (ex_one (es_ret ev_non))
              | true =>
                refine ex_skip (EvW.t (evw_orF (evt_to (evt_not (evt_val (ev_call (ds := [_, _, _]) GP hr ⟨(n : Int), .tup s, s.length, rfl, hx, rfl⟩ (eva_cons (ev_name 0 rfl) (eva_cons (ev_ix (d1 := .tup s) (i := 0) rfl (ev_name 3 rfl) ev_int) (eva_cons (ev_len T.len rfl (ev_ix (d1 := .tup s) (i := 0) rfl (ev_name 3 rfl) ev_int)) eva_nil)))))) (by show (!(decide ((s.length : Int) = s.length) && s.all (isPt n))) = false; rw [hp, decide_eq_true rfl]; rfl)) (evw_or1 (evt_to (evt_notInT hr (ev_to (ev_ix (d1 := .tup s) (i := 0) rfl (ev_name 3 rfl) ev_int) eD) (ev_call (ds := [_]) GS hr ⟨n, rfl, hn, rfl⟩ (eva_cons (ev_name 0 rfl) eva_nil))) (by rw [hm]; rfl))))) ?_
                cases hyq : isQ y with
                | false =>
                  rw [posQ_no hyq]
                  refine ex_cons (es_set 4 (ev_call (ds := [_]) GN hr ⟨y, rfl, D.pl.noM hy, rfl⟩ (eva_cons (ev_ix (d1 := y) (i := 1) rfl (ev_name 3 rfl) ev_int) eva_nil)) rfl hN) <| ex_take (EvW.t (evw_orT (evt_to (evt_isN (ev_name 4 rfl)) (by cases y <;> first | (cases hyq; done) | rfl)))) (ex_one (es_ret ev_non))
                | true =>
                  obtain ⟨w, rfl⟩ : ∃ w, y = .rat w := by cases y <;> first | (cases hyq; done) | exact ⟨_, rfl⟩
                  refine ex_cons (es_set 4 (ev_call (ds := [_]) GN hr ⟨.rat w, rfl, rfl, rfl⟩ (eva_cons (ev_ix (d1 := .rat w) (i := 1) rfl (ev_name 3 rfl) ev_int) eva_nil)) rfl hN) ?_
                  by_cases hw : 0 < w.num
                  · rw [show posQ (.rat w) = true from decide_eq_true hw]
                    refine ex_skip (EvW.t (evw_orF (evt_to (evt_isN (d := qD w) (ev_name 4 rfl)) rfl) (evw_or1 (evt_to (evt_icmp .le (ev_ix (d1 := .int w.num) (i := 0) rfl (ev_name (d := qD w) 4 rfl) ev_int) ev_int) (decide_eq_false (by omega)))))) ?_
                    exact ex_to (ex_one (es_expr (ev_appD (d := lwD (partOf (.tup [.tup s, .rat w]))) 2 (ev_tup (ds := [_, _]) (eva_cons (ev_to (ev_ix (d1 := .tup s) (i := 0) rfl (ev_name 3 rfl) ev_int) eD) (eva_cons (ev_name (d := qD w) 4 rfl) eva_nil)) (by simp)) ⟨_, rfl⟩ rfl (by omega)))) rfl ⟨rfl, rfl, rfl, trivial⟩
                  · rw [show posQ (.rat w) = false from decide_eq_false hw]
                    exact ex_take (EvW.t (evw_orF (evt_to (evt_isN (d := qD w) (ev_name 4 rfl)) rfl) (evw_or1 (evt_to (evt_icmp .le (ev_ix (d1 := .int w.num) (i := 0) rfl (ev_name (d := qD w) 4 rfl) ev_int) ev_int) (decide_eq_true (by omega)))))) (ex_one (es_ret ev_non))
        · rw [isPartL_len h2, if_neg Bool.false_ne_true]
          exact ex_take (EvW.t (evw_orF (evt_to (evt_not (evt_val (ev_isTup T rfl (ev_name 3 rfl)))) rfl) (evw_orT (evt_to (evt_ne rfl (ev_len T.len rfl (ev_name 3 rfl)) ev_int) (by rw [decide_eq_false (by omega)]; rfl))))) (ex_one (es_ret ev_non))
    · have e : arePartsL n (.tup l) = l.all (isPartL n) := rfl
      rw [e, if_pos h]
      show D.lst (Mu.toL (List.map Mu.im _)) = D.lst ((l.map partOf).map lwD)
      rw [toL_map, List.map_map]
      congr 1
      have : ∀ (l : List D) (a : List D), l.foldl (fun a b => a ++ [lwD (partOf b)]) a = a ++ l.map (lwD ∘ partOf) := by
        intro l
        induction l with
        | nil => intro a; simp
        | cons b l ih => intro a; rw [List.foldl_cons, ih]; simp
      rw [this]; simp
    · have e : arePartsL n (.tup l) = l.all (isPartL n) := rfl
      rw [e, if_neg h]; rfl
end
end K48

namespace K48
open PySem PySem.Spec PyProof.Rows L2
/-! ### the splits, plainly -/
def IsSpl (n : Nat) (s : List Int) : Prop := s ≠ [] ∧ s.Pairwise (· < ·) ∧ ∀ v ∈ s, 1 ≤ v ∧ v < n
theorem mem_splS {n : Nat} (hn : 1 ≤ n) (s : List Int) : s ∈ splS n ↔ IsSpl n s := by
  have h := lp_inv (f := stepS n) (a := []) (n := n - 1) (fun i (l : List (List Int)) => ∀ s, s ∈ l ↔ (s ≠ [] ∧ s.Pairwise (· < ·) ∧ ∀ v ∈ s, (n : Int) - i ≤ v ∧ v < n)) (fun s => by
      constructor
      · intro h; cases h
      · rintro ⟨h1, h2, h3⟩
        cases s with
        | nil => exact absurd rfl h1
        | cons v t => have := h3 v (by simp); simp at this; omega) fun i l hi hl s => by
    unfold stepS
    rw [List.mem_append, List.mem_map]
    constructor
    · rintro (⟨t, ht, rfl⟩ | hs)
      · rcases List.mem_cons.mp ht with rfl | ht
        · refine ⟨by simp, List.pairwise_singleton _ _, fun v hv => ?_⟩
          rw [List.mem_singleton.mp hv]; omega
        · obtain ⟨q1, q2, q3⟩ := (hl t).mp ht
          refine ⟨by simp, List.pairwise_cons.mpr ⟨fun v hv => ?_, q2⟩, fun v hv => ?_⟩
          · have := q3 v hv; omega
          · rcases List.mem_cons.mp hv with rfl | hv
            · omega
            · have := q3 v hv; omega
      · obtain ⟨q1, q2, q3⟩ := (hl s).mp hs
        exact ⟨q1, q2, fun v hv => by have := q3 v hv; omega⟩
    · rintro ⟨q1, q2, q3⟩
      cases s with
      | nil => exact absurd rfl q1
      | cons v t =>
        have hv := q3 v (by simp)
        obtain ⟨p1, p2⟩ := List.pairwise_cons.mp q2
        by_cases e : v = (n : Int) - 1 + (i : Int) * (-1)
        · left
          refine ⟨t, ?_, by rw [e]⟩
          cases t with
          | nil => simp
          | cons w t' =>
            refine List.mem_cons_of_mem _ ((hl _).mpr ⟨by simp, p2, fun u hu => ?_⟩)
            have h1 := p1 u hu
            have h2 := q3 u (List.mem_cons_of_mem _ hu)
            omega
        · right
          refine (hl _).mpr ⟨by simp, q2, fun u hu => ?_⟩
          have h2 := q3 u hu
          rcases List.mem_cons.mp hu with rfl | hu
          · omega
          · have := p1 u hu; omega
  rw [show splS n = lp (stepS n) (n - 1) [] from rfl, h]
  unfold IsSpl
  constructor
  · rintro ⟨a, b, c⟩; exact ⟨a, b, fun v hv => by have := c v hv; omega⟩
  · rintro ⟨a, b, c⟩; exact ⟨a, b, fun v hv => by have := c v hv; omega⟩
theorem mem_lawS {n : Nat} (hn : 1 ≤ n) (s : List Int) : s ∈ lawS n ↔ IsSpl n s := by
  have h := lp_inv (f := fun i (l : List (List Int)) => l ++ l.map fun s => ((n : Int) - 1 + (i : Int) * (-1)) :: s) (a := [[]]) (n := n - 1) (fun i (l : List (List Int)) => ∀ s, s ∈ l ↔ (s.Pairwise (· < ·) ∧ ∀ v ∈ s, (n : Int) - i ≤ v ∧ v < n)) (fun s => by
      constructor
      · intro h; rw [List.mem_singleton.mp h]; exact ⟨List.Pairwise.nil, fun v hv => by cases hv⟩
      · rintro ⟨h2, h3⟩
        cases s with
        | nil => simp
        | cons v t => have := h3 v (by simp); simp at this; omega) fun i l hi hl s => by
    rw [List.mem_append, List.mem_map]
    constructor
    · rintro (hs | ⟨t, ht, rfl⟩)
      · obtain ⟨q2, q3⟩ := (hl s).mp hs
        exact ⟨q2, fun v hv => by have := q3 v hv; omega⟩
      · obtain ⟨q2, q3⟩ := (hl t).mp ht
        refine ⟨List.pairwise_cons.mpr ⟨fun v hv => ?_, q2⟩, fun v hv => ?_⟩
        · have := q3 v hv; omega
        · rcases List.mem_cons.mp hv with rfl | hv
          · omega
          · have := q3 v hv; omega
    · rintro ⟨q2, q3⟩
      cases s with
      | nil => exact .inl ((hl []).mpr ⟨List.Pairwise.nil, fun v hv => by cases hv⟩)
      | cons v t =>
        have hv := q3 v (by simp)
        obtain ⟨p1, p2⟩ := List.pairwise_cons.mp q2
        by_cases e : v = (n : Int) - 1 + (i : Int) * (-1)
        · right
          refine ⟨t, (hl _).mpr ⟨p2, fun u hu => ?_⟩, by rw [e]⟩
          have h1 := p1 u hu
          have h2 := q3 u (List.mem_cons_of_mem _ hu)
          omega
        · left
          refine (hl _).mpr ⟨q2, fun u hu => ?_⟩
          have h2 := q3 u hu
          rcases List.mem_cons.mp hu with rfl | hu
          · omega
          · have := p1 u hu; omega
  have hm : s ∈ lsS n ↔ _ := h s
  unfold lawS
  rw [(sortI_perm _).mem_iff, List.mem_filter, hm, decide_eq_true_eq]
  unfold IsSpl
  constructor
  · rintro ⟨⟨b, c⟩, a⟩; exact ⟨List.length_pos_iff.mp a, b, fun v hv => by have := c v hv; omega⟩
  · rintro ⟨a, b, c⟩; exact ⟨⟨b, fun v hv => by have := c v hv; omega⟩, List.length_pos_iff.mpr a⟩
theorem incr_iff : ∀ s : List Int, incr s = true ↔ s.Pairwise (· < ·)
  | [] => by simp [incr]
  | [a] => by simp [incr]
  | a :: b :: t => by
    have ih := incr_iff (b :: t)
    rw [List.pairwise_cons, ← ih]
    unfold incr at ih ⊢
    rw [decide_eq_true_eq, decide_eq_true_eq]
    have pw : (∀ i, i < (b :: t).length - 1 → (b :: t).getD i 0 < (b :: t).getD (i + 1) 0) → ∀ v ∈ b :: t, b ≤ v := fun h v hv => by
      have q := ih.mp (decide_eq_true h)
      rcases List.mem_cons.mp hv with rfl | hv
      · omega
      · have := (List.pairwise_cons.mp q).1 v hv; omega
    constructor
    · intro h
      have h0 : a < b := h 0 (by simp)
      have h1 : ∀ i, i < (b :: t).length - 1 → (b :: t).getD i 0 < (b :: t).getD (i + 1) 0 := fun i hi => h (i + 1) (by simp at hi ⊢; omega)
      exact ⟨fun v hv => by have := pw h1 v hv; omega, h1⟩
    · rintro ⟨h1, h2⟩ i hi
      cases i with
      | zero => exact h1 b (by simp)
      | succ i => exact h2 i (by simp at hi ⊢; omega)
theorem isSpl_law {n : Nat} (hn : 1 ≤ n) (s : List D) : isSplD n (.tup s) = (s.all (isPt n) && decide (s.map D.toI ∈ lawS n)) := by
  show (!decide (s.length = 0) && (s.all (isPt n) && (decide (1 ≤ (s.map D.toI).getD 0 0) && incr (s.map D.toI)))) = _
  cases hp : s.all (isPt n) with
  | false => simp
  | true =>
    rw [Bool.true_and, Bool.true_and]
    have hpt : ∀ v ∈ s.map D.toI, 0 ≤ v ∧ v < n := fun v hv => by
      obtain ⟨d, hd, rfl⟩ := List.mem_map.mp hv
      have := List.all_eq_true.mp hp d hd
      cases d with
      | int i => show 0 ≤ i ∧ i < _; simpa [isPt] using this
      | _ => cases this
    have key : (!decide (s.length = 0) && (decide (1 ≤ (s.map D.toI).getD 0 0) && incr (s.map D.toI))) = true ↔ s.map D.toI ∈ lawS n := by
      rw [mem_lawS hn]
      simp only [Bool.and_eq_true, Bool.not_eq_true', decide_eq_false_iff_not, decide_eq_true_eq, incr_iff]
      generalize hns : s.map D.toI = ns at hpt
      have hl : s.length = ns.length := by rw [← hns, List.length_map]
      rw [hl]
      unfold IsSpl
      constructor
      · rintro ⟨h1, h2, h3⟩
        refine ⟨fun z => h1 (by rw [z]; rfl), h3, fun v hv => ⟨?_, (hpt v hv).2⟩⟩
        cases ns with
        | nil => cases hv
        | cons a t =>
          have h2 : 1 ≤ a := h2
          rcases List.mem_cons.mp hv with rfl | hv
          · exact h2
          · have := (List.pairwise_cons.mp h3).1 v hv; omega
      · rintro ⟨h1, h2, h3⟩
        cases ns with
        | nil => exact absurd rfl h1
        | cons a t => exact ⟨by simp, (h3 a (by simp)).1, h2⟩
    cases hb : (!decide (s.length = 0) && (decide (1 ≤ (s.map D.toI).getD 0 0) && incr (s.map D.toI))) with
    | true => exact (decide_eq_true (key.mp hb)).symm
    | false => exact (decide_eq_false fun z => by rw [key.mpr z] at hb; cases hb).symm
theorem isPart_law {n : Nat} (hn : 1 ≤ n) (d : D) : isPartL n d = isPartD n d := by
  cases ht : isD d .tuple with
  | false => rw [isPartL_no ht, isPartD_no ht]
  | true =>
    obtain ⟨l, rfl⟩ := isTup_ex ht
    by_cases h2 : l.length = 2
    · obtain ⟨a, b, rfl⟩ := len2 h2
      show isPartL n (.tup [a, b]) = (isSplD n a && posQ b)
      cases hat : isD a .tuple with
      | false => rw [isPartL_no2 hat, isSplD_no hat, Bool.false_and]
      | true =>
        obtain ⟨s, rfl⟩ := isTup_ex hat
        rw [isSpl_law hn]; rfl
    · rw [isPartL_len h2, isPartD_len h2]
theorem areParts_law {n : Nat} (hn : 1 ≤ n) (d : D) : arePartsL n d = arePartsD n d := by
  cases d with
  | tup l =>
    show l.all (isPartL n) = l.all (isPartD n)
    congr 1
    exact funext (isPart_law hn)
  | _ => rfl
theorem all_law {n : Nat} (hn : 1 ≤ n) (p : List Int → Bool) : (lawS n).all p = (splS n).all p := by
  have : (lawS n).all p = true ↔ (splS n).all p = true := by
    rw [List.all_eq_true, List.all_eq_true]
    constructor
    · intro h s hs; exact h s ((mem_lawS hn s).mpr ((mem_splS hn s).mp hs))
    · intro h s hs; exact h s ((mem_splS hn s).mpr ((mem_lawS hn s).mp hs))
  cases h1 : (lawS n).all p with
  | true => exact (this.mp h1).symm
  | false =>
    cases h2 : (splS n).all p with
    | true => rw [this.mpr h2] at h1; cases h1
    | false => rfl
end K48

namespace K48
open PySem PySem.Spec PyProof.Rows L2

theorem qD_inj (p q : Rat) : decide (([p.num, (p.den : Int)] : List Int) = [q.num, (q.den : Int)]) = decide (p = q) := by
  by_cases h : p = q
  · subst h; simp
  · rw [decide_eq_false h]
    refine decide_eq_false fun e => h ?_
    simp only [List.cons.injEq, and_true] at e
    exact Rat.ext e.1 (by omega)
/-- every list within is short -/
def shD (d : D) : Prop := ∀ h b, d = .tup [h, b] → ∀ l, b = .tup l → l.length ≤ 1000
abbrev RHold (ds : List D) (r : D) : Prop := ∃ (n : Nat) (g : Nat → Nat → Rat) (d : D), ds = [lT n g, d] ∧ (1 ≤ n ∧ n ≤ 6) ∧ d.pl = true ∧ BdD n g d ∧ shD d ∧ r = .bl (holdsD n g d)
theorem lwD_ix (p : List Int × Rat) : True := trivial
section
variable {W : Wd} (T : Fx W.K W.mg W.c) (Y : Fy W.K W.c)
include T Y
theorem fp_law_cuts_hold {k} (GE : W.fm k W.c.R "__eq__" REq) (G1 : W.fp (k + 1) "_law_two" (fun ds r => ∃ n : Nat, ds = [.int n] ∧ n ≤ 8 ∧ r = .lst ((prI n).map prD))) (G2 : W.fp (k + 1) "_law_parts_of" (fun ds r => ∃ (n : Nat) (d : D), ds = [.int n, d] ∧ (1 ≤ n ∧ n ≤ 6) ∧ d.pl = true ∧ (∀ l, d = .tup l → l.length ≤ 1000) ∧ r = if arePartsL n d = true then .lst ((psOf d).map lwD) else .non)) (G3 : W.fp (k + 1) "_law_summed" RLSum)
    (G4 : W.fp (k + 1) "_law_numbers_of" (fun ds r => ∃ d c, ds = [d, .int c] ∧ d.pl = true ∧ (∀ l, d = .tup l → l.length ≤ 1000) ∧ r = if areQs c d = true then .lst ((qsOf d).map qD) else .non)) (G5 : W.fp (k + 1) "_law_splits" RLSpl) (G6 : W.fp (k + 1) "_law_plus" (RQop fun p q => p + q)) (G7 : W.fp (k + 1) "_law_mul" (RQop fun p q => p * q)) (h : DefW W "_law_cuts_hold" (top 80)) : W.fp (k + 2) "_law_cuts_hold" (fun ds r => ∃ (n : Nat) (g : Nat → Nat → Rat) (d : D), ds = [lT n g, d] ∧ (1 ≤ n ∧ n ≤ 6) ∧ d.pl = true ∧ BdD n g d ∧ shD d ∧ r = .bl (holdsD n g d)) := by
  obtain ⟨f, h, hm⟩ := h
  have hN : (["_law_table_here", "_law_paper", "_law_n", "_law_pairs", "_law_parts", "_law_p", "_law_values", "_law_split", "_law_total", "_law_k"] : List Str).Nodup := by decide +kernel
  refine fnP_mk (N := ["_law_table_here", "_law_paper", "_law_n", "_law_pairs", "_law_parts", "_law_p", "_law_values", "_law_split", "_law_total", "_law_k"]) (ps := ["_law_table_here", "_law_paper"]) h hm ⟨rfl, rfl, rfl, hN, rfl, by decide +kernel, by decide +kernel⟩ (fun ds d h => by obtain ⟨_, _, _, rfl, _⟩ := h; rfl) ?_ (fun _ _ _ _ _ _ us hl => match us, hl with | [_, _], _ => rfl)
  rintro ds r ⟨n, g, d, rfl, hn, hd, hB, hsh, rfl⟩ f cdv Ar outer sh hp0 E st hr
  have hpr : ∀ k, k < npr n → ((prI n).map prD)[k]? = some (prD (pr n k)) := fun k hk => by rw [List.getElem?_map, pr_get hk]; rfl
  have nle : npr n ≤ 64 := npr64 (by omega)
  have ple : (prI n).length ≤ 64 := nle
  cases ht : isD d .tuple with
  | false => exact bodyI (ex_cons (es_set 2 (ev_to (ev_len T.len rfl (ev_name 0 rfl)) (show _ = D.int (n : Int) by rw [tab_len])) rfl hN) <| ex_take (EvW.t (evw_orT (evt_to (evt_not (evt_val (ev_isTup T (D.pl.noM hd) (ev_name 1 rfl)))) (by rw [ht]; rfl)))) (ex_one (es_ret ev_bl))) ⟨by rw [holdsD_no ht]; rfl, rfl⟩
  | true =>
    obtain ⟨l, rfl⟩ := isTup_ex ht
    by_cases h2 : l.length = 2
    · obtain ⟨h, b, rfl⟩ := len2 h2
      have hh : h.pl = true := plL_mem (show plL [h, b] = true from hd) (by simp)
      have hb : b.pl = true := plL_mem (show plL [h, b] = true from hd) (by simp)
      have hal := areParts_law hn.1 b
      cases hc : eqS "cuts" h with
      | true =>
        have hH : holdsD n g (.tup [h, b]) = (arePartsD n b && cutsOK n g (psOf b)) := if_pos hc
        cases hp : arePartsD n b with
        | false =>
          rw [hp] at hal
          refine bodyI (ex_cons (es_set 2 (ev_to (ev_len T.len rfl (ev_name 0 rfl)) (show _ = D.int (n : Int) by rw [tab_len])) rfl hN) <| ex_skip (EvW.t (evw_orF (evt_to (evt_not (evt_val (ev_isTup T rfl (ev_name 1 rfl)))) rfl) (evw_or1 (evt_to (evt_ne rfl (ev_len T.len rfl (ev_name 1 rfl)) ev_int) rfl)))) <| ex_cons (es_set 3 (ev_call (ds := [_]) G1 hr ⟨n, rfl, by omega, rfl⟩ (eva_cons (ev_name 2 rfl) eva_nil)) rfl hN) <| ex_take (evt_to (evt_eqS T GE hr (fun q => ⟨q, .str _, rfl, rfl, rfl⟩) (D.pl.noM hh) (ev_ix (d1 := h) (i := 0) rfl (ev_name 1 rfl) ev_int)) hc) <| ex_cons (es_set 4 (ev_to (ev_call (ds := [_, _]) G2 hr ⟨n, b, rfl, hn, hb, hsh h b rfl, rfl⟩ (eva_cons (ev_name 2 rfl) (eva_cons (ev_ix (d1 := b) (i := 1) rfl (ev_name 1 rfl) ev_int) eva_nil))) (show _ = D.non by rw [hal]; rfl)) rfl hN) <| ex_take (evt_isN (d := .non) (ev_name 4 rfl)) (ex_one (es_ret ev_bl))) ⟨?_, rfl⟩
          rw [hH, hp]; rfl
        | true =>
          rw [hp] at hal
          obtain ⟨s1, s2⟩ := hB.p h b rfl hp
          refine bodyI (ex_cons (es_set 2 (ev_to (ev_len T.len rfl (ev_name 0 rfl)) (show _ = D.int (n : Int) by rw [tab_len])) rfl hN) <| ex_skip (EvW.t (evw_orF (evt_to (evt_not (evt_val (ev_isTup T rfl (ev_name 1 rfl)))) rfl) (evw_or1 (evt_to (evt_ne rfl (ev_len T.len rfl (ev_name 1 rfl)) ev_int) rfl)))) <| ex_cons (es_set 3 (ev_call (ds := [_]) G1 hr ⟨n, rfl, by omega, rfl⟩ (eva_cons (ev_name 2 rfl) eva_nil)) rfl hN) <| ex_take (evt_to (evt_eqS T GE hr (fun q => ⟨q, .str _, rfl, rfl, rfl⟩) (D.pl.noM hh) (ev_ix (d1 := h) (i := 0) rfl (ev_name 1 rfl) ev_int)) hc) <| ex_cons (es_set 4 (ev_to (ev_call (ds := [_, _]) G2 hr ⟨n, b, rfl, hn, hb, hsh h b rfl, rfl⟩ (eva_cons (ev_name 2 rfl) (eva_cons (ev_ix (d1 := b) (i := 1) rfl (ev_name 1 rfl) ev_int) eva_nil))) (show _ = D.lst ((psOf b).map lwD) by rw [hal]; rfl)) rfl hN) <| ex_skip (evt_isN (d := .lst ((psOf b).map lwD)) (ev_name 4 rfl)) <| ex_one (es_ret (ev_eq rfl (ev_len T.len rfl (Ev.frzL (EvL.ev (lcl_filter (bs := prI n) (inj := prD) [("_law_p", 5)] (fun p => !decide (sumP (psOf b) p.1 p.2 = g p.1 p.2)) prD hN (it_list (ev_name 3 rfl)) (by omega) fun p hp' => turnF fun s0 H0 D0 cl fp => ⟨tg_name 5 hN, evt_to (evt_neT hr (ev_call (ds := [_, _, _]) G3 hr ⟨psOf b, p.1, p.2, rfl, fun i => s2 _ _ i, s1, rfl⟩ (eva_cons (ev_name 4 rfl) (eva_cons (ev_ix (d1 := .int (p.1 : Int)) (i := 0) rfl (ev_name 5 rfl) ev_int) (eva_cons (ev_ix (d1 := .int (p.2 : Int)) (i := 1) rfl (ev_name 5 rfl) ev_int) eva_nil)))) (ev_ix (ix_lst (prI_lt hp').2) (ev_ix (ix_lst (show p.1 < n by have := prI_lt hp'; omega)) (ev_name 0 rfl) (ev_ix (d1 := .int (p.1 : Int)) (i := 0) rfl (ev_name 5 rfl) ev_int)) (ev_ix (d1 := .int (p.2 : Int)) (i := 1) rfl (ev_name 5 rfl) ev_int))) (by rw [qD_inj]), fun _ => ev_name 5 rfl⟩)))) ev_int))) ⟨?_, rfl⟩
          rw [hH, hp]
          show D.bl (decide _) = D.bl (cutsOK n g (psOf b))
          congr 1
          unfold cutsOK
          rw [List.length_map]
          cases ha : (prI n).all fun p => decide (sumP (psOf b) p.1 p.2 = g p.1 p.2) with
          | true =>
            have e : (prI n).filter (fun p => !decide (sumP (psOf b) p.1 p.2 = g p.1 p.2)) = [] := List.filter_eq_nil_iff.mpr fun p hp => by rw [List.all_eq_true.mp ha p hp]; decide
            rw [e]; rfl
          | false =>
            refine decide_eq_false fun z => ?_
            have e : (prI n).filter (fun p => !decide (sumP (psOf b) p.1 p.2 = g p.1 p.2)) = [] := List.eq_nil_of_length_eq_zero (by omega)
            have : ((prI n).all fun p => decide (sumP (psOf b) p.1 p.2 = g p.1 p.2)) = true := List.all_eq_true.mpr fun p hp => by
              have := List.filter_eq_nil_iff.mp e p hp
              simpa using this
            rw [this] at ha; cases ha
      | false =>
        have hH : holdsD n g (.tup [h, b]) = (eqS "functional" h && (areQs (npr n) b && funOK n g (qsOf b))) := if_neg (by rw [hc]; decide)
        cases hf : eqS "functional" h with
        | false => exact bodyI (ex_cons (es_set 2 (ev_to (ev_len T.len rfl (ev_name 0 rfl)) (show _ = D.int (n : Int) by rw [tab_len])) rfl hN) <| ex_skip (EvW.t (evw_orF (evt_to (evt_not (evt_val (ev_isTup T rfl (ev_name 1 rfl)))) rfl) (evw_or1 (evt_to (evt_ne rfl (ev_len T.len rfl (ev_name 1 rfl)) ev_int) rfl)))) <| ex_cons (es_set 3 (ev_call (ds := [_]) G1 hr ⟨n, rfl, by omega, rfl⟩ (eva_cons (ev_name 2 rfl) eva_nil)) rfl hN) <| ex_skip (evt_to (evt_eqS T GE hr (fun q => ⟨q, .str _, rfl, rfl, rfl⟩) (D.pl.noM hh) (ev_ix (d1 := h) (i := 0) rfl (ev_name 1 rfl) ev_int)) hc) <| ex_take (evt_to (evt_neS T Y GE hr (fun q => ⟨q, .str _, rfl, rfl, rfl⟩) (D.pl.noM hh) (ev_ix (d1 := h) (i := 0) rfl (ev_name 1 rfl) ev_int)) (by rw [hf]; rfl)) (ex_one (es_ret ev_bl))) ⟨by rw [hH, hf]; rfl, rfl⟩
        | true =>
          cases hq : areQs (npr n) b with
          | false => exact bodyI (ex_cons (es_set 2 (ev_to (ev_len T.len rfl (ev_name 0 rfl)) (show _ = D.int (n : Int) by rw [tab_len])) rfl hN) <| ex_skip (EvW.t (evw_orF (evt_to (evt_not (evt_val (ev_isTup T rfl (ev_name 1 rfl)))) rfl) (evw_or1 (evt_to (evt_ne rfl (ev_len T.len rfl (ev_name 1 rfl)) ev_int) rfl)))) <| ex_cons (es_set 3 (ev_call (ds := [_]) G1 hr ⟨n, rfl, by omega, rfl⟩ (eva_cons (ev_name 2 rfl) eva_nil)) rfl hN) <| ex_skip (evt_to (evt_eqS T GE hr (fun q => ⟨q, .str _, rfl, rfl, rfl⟩) (D.pl.noM hh) (ev_ix (d1 := h) (i := 0) rfl (ev_name 1 rfl) ev_int)) hc) <| ex_skip (evt_to (evt_neS T Y GE hr (fun q => ⟨q, .str _, rfl, rfl, rfl⟩) (D.pl.noM hh) (ev_ix (d1 := h) (i := 0) rfl (ev_name 1 rfl) ev_int)) (by rw [hf]; rfl)) <| ex_cons (es_set 6 (ev_to (ev_call (ds := [_, _]) G4 hr ⟨b, (npr n : Int), rfl, hb, hsh h b rfl, rfl⟩ (eva_cons (ev_ix (d1 := b) (i := 1) rfl (ev_name 1 rfl) ev_int) (eva_cons (ev_to (ev_len T.len rfl (ev_name 3 rfl)) (show _ = D.int (npr n : Int) by rw [List.length_map]; rfl)) eva_nil))) (show _ = D.non by rw [hq]; rfl)) rfl hN) <| ex_take (evt_isN (d := .non) (ev_name 6 rfl)) (ex_one (es_ret ev_bl))) ⟨by rw [hH, hf, hq]; rfl, rfl⟩
          | true =>
            obtain ⟨eb, ebl⟩ := nums_qs hq
            obtain ⟨s1, s2, s3, s4⟩ := hB.f h b rfl hq
            have hBg := hB.g
            have hv0 : (if areQs (npr n) b = true then D.lst ((qsOf b).map qD) else .non) = .lst ((qsOf b).map qD) := by rw [hq]; rfl
            generalize hv : qsOf b = v at eb ebl s1 s2 s3 s4 hv0
            have ixv : ∀ k, k < npr n → (v.map qD)[k]? = some (qD (v.getD k 0)) := fun k hk => by rw [List.getElem?_map, getD_at (z := 0) (by omega)]; rfl
            have smv : ∀ k, k < npr n → Sm (v.getD k 0) := fun k hk => s1 _ (getD_mem (by omega))
            refine bodyI (ex_cons (es_set 2 (ev_to (ev_len T.len rfl (ev_name 0 rfl)) (show _ = D.int (n : Int) by rw [tab_len])) rfl hN) <| ex_skip (EvW.t (evw_orF (evt_to (evt_not (evt_val (ev_isTup T rfl (ev_name 1 rfl)))) rfl) (evw_or1 (evt_to (evt_ne rfl (ev_len T.len rfl (ev_name 1 rfl)) ev_int) rfl)))) <| ex_cons (es_set 3 (ev_call (ds := [_]) G1 hr ⟨n, rfl, by omega, rfl⟩ (eva_cons (ev_name 2 rfl) eva_nil)) rfl hN) <| ex_skip (evt_to (evt_eqS T GE hr (fun q => ⟨q, .str _, rfl, rfl, rfl⟩) (D.pl.noM hh) (ev_ix (d1 := h) (i := 0) rfl (ev_name 1 rfl) ev_int)) hc) <| ex_skip (evt_to (evt_neS T Y GE hr (fun q => ⟨q, .str _, rfl, rfl, rfl⟩) (D.pl.noM hh) (ev_ix (d1 := h) (i := 0) rfl (ev_name 1 rfl) ev_int)) (by rw [hf]; rfl)) <| ex_cons (es_set 6 (ev_to (ev_call (ds := [_, _]) G4 hr ⟨b, (npr n : Int), rfl, hb, hsh h b rfl, rfl⟩ (eva_cons (ev_ix (d1 := b) (i := 1) rfl (ev_name 1 rfl) ev_int) (eva_cons (ev_to (ev_len T.len rfl (ev_name 3 rfl)) (show _ = D.int (npr n : Int) by rw [List.length_map]; rfl)) eva_nil))) (by rw [hv]; exact hv0)) rfl hN) <| ex_skip (evt_isN (d := .lst (v.map qD)) (ev_name 6 rfl)) <| ex_ifnxR (C1 := ⟨none, [sd (lT n g), sd (.tup [h, b]), sd (.int n), sd (.lst ((prI n).map prD)), none, none, sd (.lst (v.map qD)), none, none, none]⟩) (o := .rt (.im (.bl (decide (0 < (sumG n v g (npr n)).num)))) none) (m := .im (.bl false)) (S' := none) (b := ((lawS n).all fun s => decide ((sumF n v s (npr n)).num ≤ 0)) = true) (es_allL (bs := lawS n) (inj := tI) (fun s => decide ((sumF n v s (npr n)).num ≤ 0)) PassesOwn.never (it_list (ev_call (ds := [_]) G5 hr ⟨n, rfl, hn, rfl⟩ (eva_cons (ev_name 2 rfl) eva_nil))) fun s hs => ⟨_, _, tg_name 7 hN, ?_⟩) <| ?_) ?_
            · have hs' : s ∈ splS n := (mem_splS hn.1 s).mpr ((mem_lawS hn.1 s).mp hs)
              exact ex_cons (es_set 8 (ev_to (ev_tup (ds := [_, _]) (eva_cons ev_int (eva_cons ev_int eva_nil)) (by simp)) qD0) rfl hN) <| ex_cons (es_loop (n := npr n) (g := fun i => .int (i : Int)) (G := fun a : Rat => ⟨none, [sd (lT n g), sd (.tup [h, b]), sd (.int n), sd (.lst ((prI n).map prD)), none, none, sd (.lst (v.map qD)), sd (tI s), sd (qD a), none]⟩) (f := fun k a => if part s (pr n k).1 (pr n k).2 = true then a + v.getD k 0 else a) (P := fun i a => a = sumF n v s i) (a0 := 0) rfl PassesOwn.never (it_rg T (ev_to (ev_len T.len rfl (ev_name 3 rfl)) (by rw [List.length_map]; rfl)) (by omega)) fun k a hk ha => ⟨turnI (tg_name 9 hN) (ex_one (es_if (o := .nx ⟨none, [sd (lT n g), sd (.tup [h, b]), sd (.int n), sd (.lst ((prI n).map prD)), none, none, sd (.lst (v.map qD)), sd (tI s), sd (qD (if part s (pr n k).1 (pr n k).2 = true then a + v.getD k 0 else a)), sd (.int k)]⟩) (t := part s (pr n k).1 (pr n k).2) (evt_ne rfl (ev_inI (ev_ix (d1 := .int ((pr n k).1 : Int)) (i := 0) rfl (ev_ix (ix_lst0 (l := (prI n).map prD) (hpr k hk)) (ev_name 3 rfl) (ev_name 9 rfl)) ev_int) (ev_name 7 rfl)) (ev_inI (ev_ix (d1 := .int ((pr n k).2 : Int)) (i := 1) rfl (ev_ix (ix_lst0 (l := (prI n).map prD) (hpr k hk)) (ev_name 3 rfl) (ev_name 9 rfl)) ev_int) (ev_name 7 rfl))) (fun q => by
                rw [if_pos q]
                exact ex_eq (ex_one (es_set 8 (ev_call (ds := [_, _]) G6 hr ⟨a, v.getD k 0, rfl, by rw [ha]; exact s2 s hs' k (by omega), smv k hk, rfl⟩ (eva_cons (ev_name 8 rfl) (eva_cons (ev_ix (ix_lst0 (ixv k hk)) (ev_name 6 rfl) (ev_name 9 rfl)) eva_nil))) rfl hN))) fun q => by
                rw [q, if_neg Bool.false_ne_true]; exact ex_nil)) rfl ⟨rfl, rfl, rfl, rfl, rfl, rfl, rfl, trivial⟩, by rw [ha]; rfl⟩) <| ex_unless (evt_icmp .gt (ev_ix (d1 := .int (sumF n v s (npr n)).num) (i := 0) rfl (ev_name (d := qD (sumF n v s (npr n))) 8 rfl) ev_int) ev_int) (gt_neg _) (fun _ => ex_one (es_ret ev_bl)) rfl ⟨rfl, rfl, rfl, rfl, rfl, trivial⟩
            · exact ex_cons (es_set 8 (ev_to (ev_tup (ds := [_, _]) (eva_cons ev_int (eva_cons ev_int eva_nil)) (by simp)) qD0) rfl hN) <| ex_cons (es_loop (n := npr n) (g := fun i => .int (i : Int)) (G := fun a : Rat => ⟨none, [sd (lT n g), sd (.tup [h, b]), sd (.int n), sd (.lst ((prI n).map prD)), none, none, sd (.lst (v.map qD)), none, sd (qD a), none]⟩) (f := fun k a => a + v.getD k 0 * g (pr n k).1 (pr n k).2) (P := fun i a => a = sumG n v g i) (a0 := 0) rfl PassesOwn.never (it_rg T (ev_to (ev_len T.len rfl (ev_name 3 rfl)) (by rw [List.length_map]; rfl)) (by omega)) fun k a hk ha => ⟨turnI (tg_name 9 hN) (ex_one (es_set 8 (ev_call (ds := [_, _]) G6 hr ⟨a, v.getD k 0 * g (pr n k).1 (pr n k).2, rfl, by rw [ha]; exact s3 k (by omega), s4 k hk, rfl⟩ (eva_cons (ev_name 8 rfl) (eva_cons (ev_call (ds := [_, _]) G7 hr ⟨v.getD k 0, g (pr n k).1 (pr n k).2, rfl, smv k hk, hBg _ _ (by have := pr_lt hk; omega) (pr_lt hk).2, rfl⟩ (eva_cons (ev_ix (ix_lst0 (ixv k hk)) (ev_name 6 rfl) (ev_name 9 rfl)) (eva_cons (ev_ix (ix_lst (pr_lt hk).2) (ev_ix (ix_lst (show (pr n k).1 < n by have := pr_lt hk; omega)) (ev_name 0 rfl) (ev_ix (d1 := .int ((pr n k).1 : Int)) (i := 0) rfl (ev_ix (ix_lst0 (l := (prI n).map prD) (hpr k hk)) (ev_name 3 rfl) (ev_name 9 rfl)) ev_int)) (ev_ix (d1 := .int ((pr n k).2 : Int)) (i := 1) rfl (ev_ix (ix_lst0 (l := (prI n).map prD) (hpr k hk)) (ev_name 3 rfl) (ev_name 9 rfl)) ev_int)) eva_nil))) eva_nil))) rfl hN)) rfl ⟨rfl, rfl, rfl, rfl, rfl, rfl, trivial⟩, by rw [ha]; rfl⟩) <| ex_one (es_retS (ev_icmp .gt (ev_ix (d1 := .int (sumG n v g (npr n)).num) (i := 0) rfl (ev_name (d := qD (sumG n v g (npr n))) 8 rfl) ev_int) ev_int))
            · have hF : holdsD n g (.tup [h, b]) = (((lawS n).all fun s => decide ((sumF n v s (npr n)).num ≤ 0)) && decide (0 < (sumG n v g (npr n)).num)) := by
                rw [hH, hf, hq, hv, Bool.true_and, Bool.true_and, all_law hn.1]; rfl
              refine Fin.ite (fun q => ⟨?_, rfl⟩) fun q => ⟨?_, rfl⟩
              · rw [hF, q]; rfl
              · rw [Bool.not_eq_true] at q
                rw [hF, q]; rfl
    · exact bodyI (ex_cons (es_set 2 (ev_to (ev_len T.len rfl (ev_name 0 rfl)) (show _ = D.int (n : Int) by rw [tab_len])) rfl hN) <| ex_take (EvW.t (evw_orF (evt_to (evt_not (evt_val (ev_isTup T rfl (ev_name 1 rfl)))) rfl) (evw_or1 (evt_to (evt_ne rfl (ev_len T.len rfl (ev_name 1 rfl)) ev_int) (by rw [decide_eq_false (by omega)]; rfl))))) (ex_one (es_ret ev_bl))) ⟨by rw [holdsD_len h2]; rfl, rfl⟩
end
end K48

namespace K48
open PySem PySem.Spec PyProof.Rows L2

def toldL : List (List Int) := [[0, 2, 2, 1, 1], [2, 0, 2, 1, 1], [2, 2, 0, 1, 1], [1, 1, 1, 0, 2], [1, 1, 1, 2, 0]]
def tolD (x y : Nat) : Int := (toldL.getD x []).getD y 0
def telO (S : Int × Int) : List Nat := (ordL 5 S).2.2
def telD (S : Int × Int) : Nat → Nat → Int := fun x y => tolD ((telO S).getD x 0) ((telO S).getD y 0)
/-- a sum of drawn cuts -/
def lawX (n i : Nat) : List Int := (lawS n).getD i []
def LN (n : Nat) : Nat := (lawS n).length
def csN (S : Int × Int) : Nat := 2 + tkV S 4
def csS (S : Int × Int) (i : Nat) : Int × Int := itn (fun s => tkS s 3) i S
def csC (S : Int × Int) (i : Nat) : Int := ((tkV (csS S i) 3 : Nat) : Int)
def csW (n : Nat) (S : Int × Int) (x y : Nat) : Int := (((List.range (LN n)).filter fun i => part (lawX n i) x y).map (csC S)).sum
def csD (n : Nat) (S : Int × Int) : Nat → Nat → Int := fun x y => csW n S x y + 2 * (if (!decide ((x : Int) = (y : Int))) = true then 1 else 0)
theorem lawS_len {n : Nat} (hn : n ≤ 6) : (lawS n).length ≤ 32 := by
  unfold lawS
  rw [(sortI_perm _).length_eq]
  refine Nat.le_trans (List.length_filter_le _ _) ?_
  rw [lsS_len]
  exact Nat.le_trans (Nat.pow_le_pow_right (by decide) (show n - 1 ≤ 5 by omega)) (by decide)
/-- one place drawn anew -/
def wordsO : List D := [.str "tree", .str "points", .str "levels", .str "cuts", .str "functional", .str "euclid", .str "vector", .str "isometric", .str "unlike", .str "splits", .bl true, .bl false]
def isI : D → Bool
  | .int _ => true
  | _ => false
def D.els : D → List D
  | .tup l => l
  | _ => []
def othR (n : Nat) (d : D) (S : Int × Int) : D × (Int × Int) :=
  if decide (tkV S 13 = 0) = true then (.tup [], tkS S 13)
  else if decide (tkV S 13 = 1) = true then (.int ((tkV (tkS S 13) (n + 3) : Nat) - 1), tkS (tkS S 13) (n + 3))
  else if decide (tkV S 13 = 2) = true then (.rat (Rat.divInt ((tkV (tkS S 13) 5 : Nat) - 1) (1 + (tkV (tkS (tkS S 13) 5) 2 : Nat))), tkS (tkS (tkS S 13) 5) 2)
  else if (decide (tkV S 13 = 3) && isQ d) = true then (.rat (d.toQ + Rat.divInt 1 (1 + (tkV (tkS S 13) 2 : Nat))), tkS (tkS S 13) 2)
  else if (decide (tkV S 13 = 4) && isQ d) = true then (.int d.toQ.num, tkS S 13)
  else if (decide (tkV S 13 = 5) && isQ d) = true then (.rat (-d.toQ), tkS S 13)
  else if (decide (tkV S 13 = 6) && isI d) = true then (.int (d.toI + 1), tkS S 13)
  else if (decide (tkV S 13 = 7) && isD d .tuple) = true then (.lst d.els, tkS S 13)
  else if (decide (tkV S 13 = 8) && isD d .tuple) = true then (.tup (cutD d.els none (some (-1))), tkS S 13)
  else if (decide (tkV S 13 = 9) && isD d .tuple) = true then (.tup (d.els ++ cutD d.els none (some 1)), tkS S 13)
  else if (decide (tkV S 13 = 10) && isD d .tuple) = true then (.tup d.els.reverse, tkS S 13)
  else if decide (tkV S 13 = 11) = true then (wordsO.getD (tkV (tkS S 13) 12) .non, tkS (tkS S 13) 12) else (.non, tkS S 13)
/-- what may be bent -/
structure BenOK (d : D) : Prop where
  pl : d.pl = true
  q : ∀ q, d = .rat q → Sm q
  l : ∀ l, d = .tup l → l.length ≤ 1000
abbrev ROth (S : Int × Int) (ds : List D) (r : D) (S' : Int × Int) : Prop := ∃ (n : Nat) (d : D), ds = [.int n, d] ∧ n ≤ 100 ∧ BenOK d ∧ r = (othR n d S).1 ∧ S' = (othR n d S).2
theorem smHalf (v : Nat) (h : v < 2) (i : Int) (hi : i.natAbs < 100) : Sm (Rat.divInt i (1 + (v : Int))) := by
  obtain ⟨e1, e2⟩ := ratOf (n := i) (d := 1 + (v : Int)) (by omega)
  have g0 := gcdPos (n := i) (d := 1 + (v : Int)) (by omega)
  have h1 : (Rat.divInt i (1 + (v : Int))).num.natAbs ≤ i.natAbs := by rw [e1]; exact Int.natAbs_ediv_le_natAbs _ _
  have h2 : ((Rat.divInt i (1 + (v : Int))).den : Int).natAbs ≤ (1 + (v : Int)).natAbs := by rw [e2]; exact Int.natAbs_ediv_le_natAbs _ _
  have h3 : 2 ^ 7 ≤ 2 ^ eM := Nat.pow_le_pow_right (by decide) (by decide)
  exact ⟨by omega, by omega⟩
section
variable {W : Wd} (T : Fx W.K W.mg W.c)
include T
theorem fs_law_told {k} (GO : W.fs (k + 1) "_law_order_of" ROrd) (GR : W.fp (k + 1) "_law_renamed" (fun ds r => ∃ (n m : Nat) (g : Nat → Nat → Int) (o : List Nat), ds = [rT m g, .lst (o.map fun j : Nat => .int (j : Int))] ∧ n ≤ 1000 ∧ o.length = n ∧ (∀ i, i < n → o.getD i 0 < m) ∧ r = rT n fun x y => g (o.getD x 0) (o.getD y 0))) (h : DefW W "_law_told" (top 81)) : W.fs (k + 2) "_law_told" (fun S ds r S' => ds = [] ∧ r = rT 5 (telD S) ∧ S' = (ordL 5 S).1) := by
  obtain ⟨f, h, hm⟩ := h
  have hN : (["_law_state_here", "_law_rows_here", "_law_row"] : List Str).Nodup := by decide +kernel
  refine fnS_mk (N := ["_law_state_here", "_law_rows_here", "_law_row"]) (ps := ["_law_state_here"]) h hm ⟨rfl, rfl, rfl, hN, rfl, by decide +kernel, by decide +kernel⟩ (fun S ds d S' h => by obtain ⟨rfl, _⟩ := h; rfl) ?_ (fun _ _ _ _ _ _ us hl => match us, hl with | [_], _ => rfl)
  rintro S ds r S' ⟨rfl, rfl, rfl⟩ f cdv Ar outer sh hp0 E st hr
  have ok := ord_ok 5 S
  refine bodyI (ex_cons (es_set 1 (ev_to (Ev.frzL (l := toldL.map fun r => .lst (r.map D.int)) (ev_lst (ms := [.im (.lst [.int 0, .int 2, .int 2, .int 1, .int 1]), .im (.lst [.int 2, .int 0, .int 2, .int 1, .int 1]), .im (.lst [.int 2, .int 2, .int 0, .int 1, .int 1]), .im (.lst [.int 1, .int 1, .int 1, .int 0, .int 2]), .im (.lst [.int 1, .int 1, .int 1, .int 2, .int 0])]) (eva_cons (Ev.frzL (l := [.int 0, .int 2, .int 2, .int 1, .int 1]) (ev_lst (ms := [.im (.int 0), .im (.int 2), .im (.int 2), .im (.int 1), .im (.int 1)]) (eva_cons ev_int (eva_cons ev_int (eva_cons ev_int (eva_cons ev_int (eva_cons ev_int (eva_nil)))))) (by simp))) (eva_cons (Ev.frzL (l := [.int 2, .int 0, .int 2, .int 1, .int 1]) (ev_lst (ms := [.im (.int 2), .im (.int 0), .im (.int 2), .im (.int 1), .im (.int 1)]) (eva_cons ev_int (eva_cons ev_int (eva_cons ev_int (eva_cons ev_int (eva_cons ev_int (eva_nil)))))) (by simp))) (eva_cons (Ev.frzL (l := [.int 2, .int 2, .int 0, .int 1, .int 1]) (ev_lst (ms := [.im (.int 2), .im (.int 2), .im (.int 0), .im (.int 1), .im (.int 1)]) (eva_cons ev_int (eva_cons ev_int (eva_cons ev_int (eva_cons ev_int (eva_cons ev_int (eva_nil)))))) (by simp))) (eva_cons (Ev.frzL (l := [.int 1, .int 1, .int 1, .int 0, .int 2]) (ev_lst (ms := [.im (.int 1), .im (.int 1), .im (.int 1), .im (.int 0), .im (.int 2)]) (eva_cons ev_int (eva_cons ev_int (eva_cons ev_int (eva_cons ev_int (eva_cons ev_int (eva_nil)))))) (by simp))) (eva_cons (Ev.frzL (l := [.int 1, .int 1, .int 1, .int 2, .int 0]) (ev_lst (ms := [.im (.int 1), .im (.int 1), .im (.int 1), .im (.int 2), .im (.int 0)]) (eva_cons ev_int (eva_cons ev_int (eva_cons ev_int (eva_cons ev_int (eva_cons ev_int (eva_nil)))))) (by simp))) eva_nil))))) (by simp))) rfl) rfl hN) <| ex_one (es_ret (ev_call (ds := [_, _]) GR hr ⟨5, 5, tolD, telO S, rfl, by omega, ok.len, fun i hi => ok.lt _ (getD_mem (by have := ok.len; show i < (ordL 5 S).2.2.length; omega)), rfl⟩ (eva_cons (ev_to (Ev.frzL (EvL.ev (lcl_map (bs := toldL) (inj := fun r => .lst (r.map D.int)) [("_law_row", 2)] (fun r => .tup (r.map D.int)) hN (it_list (ev_name 1 rfl)) (by decide) fun b hb => turn fun s0 H0 D0 cl fp => ⟨tg_name 2 hN, ev_tupleOf T.tuple (.inl rfl) (ev_name 2 rfl)⟩))) (show _ = rT 5 tolD from rfl)) (eva_cons (ev_callS (ds := [_]) (s := S) 0 GO hr rfl (eva_cons ev_int eva_nil) rfl ⟨5, rfl, by omega, rfl, rfl⟩) eva_nil))))) ⟨rfl, rfl⟩
end
end K48

namespace K48
open PySem PySem.Spec PyProof.Rows L2
section
variable {W : Wd} (T : Fx W.K W.mg W.c) (Y : Fy W.K W.c)
include T Y
theorem fs_law_cut_rows {k} (GT : W.fs (k + 1) "_law_take" RTake) (GS : W.fp (k + 1) "_law_splits" RLSpl) (h : DefW W "_law_cut_rows" (top 82)) : W.fs (k + 2) "_law_cut_rows" (fun S ds r S' => ds = [] ∧ r = rT (csN S) (csD (csN S) (tkS S 4)) ∧ S' = csS (tkS S 4) (LN (csN S))) := by
  obtain ⟨f, h, hm⟩ := h
  have hN : (["_law_state_here", "_law_n", "_law_parts", "_law_rows_here", "_law_x", "_law_y", "_law_split", "_law_w"] : List Str).Nodup := by decide +kernel
  refine fnS_mk (N := ["_law_state_here", "_law_n", "_law_parts", "_law_rows_here", "_law_x", "_law_y", "_law_split", "_law_w"]) (ps := ["_law_state_here"]) h hm ⟨rfl, rfl, rfl, hN, rfl, by decide +kernel, by decide +kernel⟩ (fun S ds d S' h => by obtain ⟨rfl, _⟩ := h; rfl) ?_ (fun _ _ _ _ _ _ us hl => match us, hl with | [_], _ => rfl)
  rintro S ds r S' ⟨rfl, rfl, rfl⟩ f cdv Ar outer sh hp0 E st hr
  have hn : 2 ≤ csN S ∧ csN S ≤ 5 := by
    have := tkV_lt (s := S) (m := 4) (by omega)
    unfold csN; omega
  have hL : LN (csN S) ≤ 32 := lawS_len (by omega)
  have etab : (lawS (csN S)).map tI = tab (LN (csN S)) fun i => tI (lawX (csN S) i) := map_tab (lawS (csN S)) [] tI
  refine bodyI (o := .rt (.im (rT (csN S) (csD (csN S) (tkS S 4)))) (some (csS (tkS S 4) (LN (csN S))))) (ex_cons (es_set 1 (ev_to (ev_add ev_int (ev_callS (ds := [_]) (s := S) 0 GT hr rfl (eva_cons ev_int eva_nil) rfl ⟨4, rfl, by omega, rfl, rfl⟩)) (show _ = D.int ((csN S : Nat) : Int) by unfold csN; simp)) rfl hN) <| ?_) ⟨rfl, rfl⟩
  show Ex _ _ _ _ ⟨some (tkS S 4), [some .stt, sd (.int (csN S : Nat)), none, none, none, none, none, none]⟩ _
  generalize tkS S 4 = s1
  generalize csN S = n at hn hL etab
  refine ex_cons (es_set 2 (EvL.ev (EvL.frzL (lc_st (n := LN n) (g := fun i => tI (lawX n i)) [("_law_split", 6)] (csS s1) (fun i => .tup [tI (lawX n i), .int (csC s1 i)]) hN (iter_to (it_list (ev_call (ds := [_]) GS hr ⟨n, rfl, by omega, rfl⟩ (eva_cons (ev_name 1 rfl) eva_nil))) etab) (by omega) rfl fun i hi => turn fun s0 H0 D0 cl fp => ⟨tg_name 6 hN, ev_tup (ds := [_, _]) (eva_cons (ev_name 6 rfl) (eva_cons (ev_callS (ds := [_]) (s := csS s1 i) 0 GT hr rfl (eva_cons ev_int eva_nil) rfl ⟨3, rfl, by omega, rfl, rfl⟩) eva_nil)) (by simp)⟩))) rfl hN) ?_
  have ecs : csD n s1 = fun x y => csW n s1 x y + 2 * (if (!decide ((x : Int) = (y : Int))) = true then 1 else 0) := rfl
  have ecw : ∀ x y, csW n s1 x y = (((List.range (LN n)).filter fun i => part (lawX n i) x y).map (csC s1)).sum := fun _ _ => rfl
  rw [ecs]
  generalize csW n s1 = wt at ecw
  show Ex _ _ _ _ ⟨some (csS s1 (LN n)), [some .stt, sd (.int (n : Nat)), sd (.lst (tab (LN n) fun i => .tup [tI (lawX n i), .int (csC s1 i)])), none, none, none, none, none]⟩ _
  generalize csS s1 (LN n) = s2
  generalize csC s1 = cc at ecw ⊢
  show Ex _ _ _ _ ⟨some s2, [some .stt, sd (.int n), sd (.lst (tab (LN n) fun i => .tup [tI (lawX n i), .int (cc i)])), none, none, none, none, none]⟩ _
  refine ex_cons (es_set 3 (ev_lst (ms := []) eva_nil (by simp)) rfl hN) <| ex_cons (es_loop (n := n) (g := fun i => .int (i : Int)) (G := fun l : List D => ⟨some s2, [some .stt, sd (.int n), sd (.lst (tab (LN n) fun i => .tup [tI (lawX n i), .int (cc i)])), so l, none, none, none, none]⟩) (f := fun x l => l ++ [.tup (tab n fun y => .int (wt x y))]) (P := fun i l => l.length = i) (a0 := []) rfl PassesOwn.never (it_rg T (ev_name 1 rfl) (by omega)) fun x l hx hl => ⟨turnI (tg_name 4 hN) (ex_one (es_expr (ev_appD (d := .tup (tab n fun y => .int (wt x y))) 3 (ev_tupleOf T.tuple (.inl rfl) (Ev.frzL (EvL.ev (lc_map (n := n) (g := fun i => .int (i : Int)) [("_law_y", 5)] (fun y => .int (wt x y)) hN (it_rg T (ev_name 1 rfl) (by omega)) (by omega) fun y hy => turn fun s0 H0 D0 cl fp => ⟨tg_name 5 hN, ev_to (ev_sum (ns := ((List.range (LN n)).filter fun i => part (lawX n i) x y).map cc) T.sum (ev_to (Ev.frzL (EvL.ev (lc_filter (n := LN n) (g := fun i => .tup [tI (lawX n i), .int (cc i)]) [("_law_split", 6), ("_law_w", 7)] (fun i => part (lawX n i) x y) (fun i => .int (cc i)) hN (it_list (ev_name 2 rfl)) (by omega) fun i hi => turnF fun s1 H1 D1 cl1 fp1 => ⟨tg_tup (tgs_cons (tg_name 6 hN) (tgs_cons (tg_name 7 hN) tgs_nil)), evt_ne rfl (ev_inI (ev_name 4 rfl) (ev_name 6 rfl)) (ev_inI (ev_name 5 rfl) (ev_name 6 rfl)), fun _ => ev_name 7 rfl⟩))) ?_)) (by rw [ecw x y])⟩)))) ⟨_, rfl⟩ rfl (by rw [hl]; omega)))) rfl ⟨rfl, rfl, rfl, rfl, trivial⟩, by rw [List.length_append, hl]; rfl⟩) <| ex_frz (m := .ls _) 3 rfl <| ex_one (es_retS (Ev.frzL (EvL.ev (lc_map (n := n) (g := fun i => .int (i : Int)) [("_law_x", 4)] (fun x => .tup (tab n fun y => .int (wt x y + 2 * (if (!decide ((x : Int) = (y : Int))) = true then 1 else 0)))) hN (it_rg T (ev_name 1 rfl) (by omega)) (by omega) fun x hx => turn fun s0 H0 D0 cl fp => ⟨tg_name 4 hN, ev_tupleOf T.tuple (.inl rfl) (Ev.frzL (EvL.ev (lc_map (n := n) (g := fun i => .int (i : Int)) [("_law_y", 5)] (fun y => .int (wt x y + 2 * (if (!decide ((x : Int) = (y : Int))) = true then 1 else 0))) hN (it_rg T (ev_name 1 rfl) (by omega)) (by omega) fun y hy => turn fun s1 H1 D1 cl1 fp1 => ⟨tg_name 5 hN, ev_add (ev_ix (ix_tup hy) (ev_ix (ix_lst hx) (ev_to (d' := .lst (tab n fun x => .tup (tab n fun y => .int (wt x y)))) (ev_name 3 rfl) ?_) (ev_name 4 rfl)) (ev_name 5 rfl)) (ev_mul (Bd.mul (Bd.sm (by decide)) (by split <;> exact Bd.sm (by decide))) ev_int (ev_intB T.int (ev_ne rfl (ev_name 4 rfl) (ev_name 5 rfl))))⟩)))⟩))))
  · show D.lst (keptD _) = D.lst _
    rw [List.map_map]
    exact congrArg D.lst (keptD_filter (t := fun i => part (lawX n i) x y) (w := fun i => D.int (cc i)) 0 (List.range (LN n)))
  · show D.lst (Mu.toL ((lp _ n []).map Mu.im)) = D.lst (tab n fun x => .tup (tab n fun y => .int (wt x y)))
    rw [toL_map, lp_tab]
end
end K48

namespace K48
open PySem PySem.Spec PyProof.Rows L2

theorem isInt_eq (d : D) (h : d.noM = true) : (isD d .int && !isD d .bool) = isI d := by cases d <;> first | (cases h; done) | rfl
theorem isRat_eq (d : D) (h : d.noM = true) : isD d .rat = isQ d := by cases d <;> first | (cases h; done) | rfl
theorem natEq (q c : Nat) : decide ((q : Int) = (c : Int)) = decide (q = c) := by
  by_cases h : q = c
  · rw [decide_eq_true h, decide_eq_true (by omega)]
  · rw [decide_eq_false h, decide_eq_false (by omega)]
theorem isQ_ex {d : D} (h : isQ d = true) : ∃ q, d = .rat q := by cases d <;> first | (cases h; done) | exact ⟨_, rfl⟩
theorem isI_ex {d : D} (h : isI d = true) : ∃ q, d = .int q := by cases d <;> first | (cases h; done) | exact ⟨_, rfl⟩
theorem wordsO_at {j : Nat} (h : j < 12) : wordsO[j]? = some (wordsO.getD j .non) := getD_at (z := .non) (show j < wordsO.length from h)
theorem Fin.ite2 {b : Prop} [Decidable b] {o1 o2 : Out} {p1 p2 : D × (Int × Int)} (h1 : b → Fin o1 (some p1.2) p1.1) (h2 : ¬ b → Fin o2 (some p2.2) p2.1) : Fin (if b then o1 else o2) (some (if b then p1 else p2).2) (if b then p1 else p2).1 := by
  by_cases h : b
  · rw [if_pos h, if_pos h]; exact h1 h
  · rw [if_neg h, if_neg h]; exact h2 h
theorem cutD_len {α : Type} (l : List α) (a b : Option Int) : (cutD l a b).length ≤ l.length := by
  unfold cutD
  rw [List.length_take, List.length_drop]; omega
theorem and2 {a b : Bool} (h : (a && b) = true) : b = true := (Bool.and_eq_true_iff.mp h).2
/-- the paper with one place drawn anew -/
def benR : Nat → Nat → D → (Int × Int) → D × (Int × Int)
  | 0, n, d, S => othR n d S
  | r + 1, n, d, S => if isD d .tuple = false ∨ d.els = [] then othR n d S else if tkV S 6 = 0 then othR n d (tkS S 6) else
      (.tup (cutD d.els none (some (tkV (tkS S 6) d.els.length : Int)) ++ [(benR r n (d.els.getD (tkV (tkS S 6) d.els.length) .non) (tkS (tkS S 6) d.els.length)).1] ++ cutD d.els (some ((tkV (tkS S 6) d.els.length : Int) + 1)) none), (benR r n (d.els.getD (tkV (tkS S 6) d.els.length) .non) (tkS (tkS S 6) d.els.length)).2)
section
variable {W : Wd} (T : Fx W.K W.mg W.c) (Y : Fy W.K W.c)
include T Y
theorem fs_law_other {k} (GT : W.fs (k + 1) "_law_take" RTake) (GK : W.fk k "Ratio" W.c.R [] RInit) (GA : W.fm (k + 1) W.c.R "__add__" (ROp fun p q => p + q)) (GN : W.fm (k + 1) W.c.R "__neg__" (fun ds r => ∃ p, ds = [.rat p] ∧ Sm p ∧ r = .rat (-p))) (h : DefW W "_law_other" (top 74)) : W.fs (k + 2) "_law_other" (fun S ds r S' => ∃ (n : Nat) (d : D), ds = [.int n, d] ∧ n ≤ 100 ∧ BenOK d ∧ r = (othR n d S).1 ∧ S' = (othR n d S).2) := by
  obtain ⟨f, h, hm⟩ := h
  have hN : (["_law_state_here", "_law_n", "_law_data", "_law_k"] : List Str).Nodup := by decide +kernel
  refine fnS_mk (N := ["_law_state_here", "_law_n", "_law_data", "_law_k"]) (ps := ["_law_state_here", "_law_n", "_law_data"]) h hm ⟨rfl, rfl, rfl, hN, rfl, by decide +kernel, by decide +kernel⟩ (fun S ds d S' h => by obtain ⟨_, _, rfl, _⟩ := h; rfl) ?_ (fun _ _ _ _ _ _ us hl => match us, hl with | [_, _, _], _ => rfl)
  rintro S ds r S' ⟨n, d, rfl, hn, hB, rfl, rfl⟩ f cdv Ar outer sh hp0 E st hr
  have hM : d.noM = true := D.pl.noM hB.pl
  have hk := tkV_lt (s := S) (m := 13) (by omega)
  have hq := hB.q
  have hl := hB.l
  unfold othR
  refine bodyI (ex_cons (es_set 3 (ev_callS (ds := [_]) (s := S) 0 GT hr rfl (eva_cons ev_int eva_nil) rfl ⟨13, rfl, by omega, rfl, rfl⟩) rfl hN) <|
      ex_guard (m := .im (.tup [])) (S' := some (tkS S 13)) (evt_to (evt_eq rfl (ev_name 3 rfl) ev_int) (natEq _ 0)) (fun _ => ex_one (es_retS (ev_tup (ds := []) eva_nil (by simp)))) fun _ =>
      ex_guard (m := .im (.int ((tkV (tkS S 13) (n + 3) : Nat) - 1))) (S' := some (tkS (tkS S 13) (n + 3))) (evt_to (evt_eq rfl (ev_name 3 rfl) ev_int) (natEq _ 1)) (fun _ => ex_one (es_retS (ev_sub (ev_callS (ds := [_]) (s := tkS S 13) 0 GT hr rfl (eva_cons (ev_to (ev_add (ev_name 1 rfl) ev_int) (show _ = D.int ((n + 3 : Nat) : Int) from rfl)) eva_nil) rfl ⟨n + 3, rfl, by omega, rfl, rfl⟩) ev_int))) fun _ =>
      ex_guard (m := .im (.rat (Rat.divInt ((tkV (tkS S 13) 5 : Nat) - 1) (1 + (tkV (tkS (tkS S 13) 5) 2 : Nat))))) (S' := some (tkS (tkS (tkS S 13) 5) 2)) (evt_to (evt_eq rfl (ev_name 3 rfl) ev_int) (natEq _ 2)) (fun _ => ex_one (es_retS (ev_make (ds := [_, _]) GK hr ⟨_, _, rfl, by omega, Bd.sm (by have := tkV_lt (s := tkS S 13) (m := 5) (by omega); omega), Bd.sm (by have := tkV_lt (s := tkS (tkS S 13) 5) (m := 2) (by omega); omega), rfl⟩ (eva_cons (ev_sub (ev_callS (ds := [_]) (s := tkS S 13) 0 GT hr rfl (eva_cons ev_int eva_nil) rfl ⟨5, rfl, by omega, rfl, rfl⟩) ev_int) (eva_cons (ev_add ev_int (ev_callS (ds := [_]) (s := tkS (tkS S 13) 5) 0 GT hr rfl (eva_cons ev_int eva_nil) rfl ⟨2, rfl, by omega, rfl, rfl⟩)) eva_nil))))) fun _ =>
      ex_guard (m := .im (.rat (d.toQ + Rat.divInt 1 (1 + (tkV (tkS S 13) 2 : Nat))))) (S' := some (tkS (tkS S 13) 2)) (EvW.t (evw_and (evt_to (evt_eq rfl (ev_name 3 rfl) ev_int) (natEq _ 3)) fun _ => evw_and1 (evt_to (evt_val (ev_isRat T hM (ev_name 2 rfl))) (isRat_eq d hM)))) (fun h => by
        obtain ⟨x, rfl⟩ := isQ_ex (and2 h)
        exact ex_one (es_retS (ev_dun T GA rfl hr ⟨x, _, rfl, hq x rfl, smHalf _ (tkV_lt (by omega)) 1 (by decide), rfl⟩ (ev_name 2 rfl) (ev_make (ds := [_, _]) GK hr ⟨_, _, rfl, by omega, Bd.sm (by decide), Bd.sm (by have := tkV_lt (s := tkS S 13) (m := 2) (by omega); omega), rfl⟩ (eva_cons ev_int (eva_cons (ev_add ev_int (ev_callS (ds := [_]) (s := tkS S 13) 0 GT hr rfl (eva_cons ev_int eva_nil) rfl ⟨2, rfl, by omega, rfl, rfl⟩)) eva_nil)))))) fun _ =>
      ex_guard (m := .im (.int d.toQ.num)) (S' := some (tkS S 13)) (EvW.t (evw_and (evt_to (evt_eq rfl (ev_name 3 rfl) ev_int) (natEq _ 4)) fun _ => evw_and1 (evt_to (evt_val (ev_isRat T hM (ev_name 2 rfl))) (isRat_eq d hM)))) (fun h => by
        obtain ⟨x, rfl⟩ := isQ_ex (and2 h)
        exact ex_one (es_retS (ev_num T (ev_name 2 rfl)))) fun _ =>
      ex_guard (m := .im (.rat (-d.toQ))) (S' := some (tkS S 13)) (EvW.t (evw_and (evt_to (evt_eq rfl (ev_name 3 rfl) ev_int) (natEq _ 5)) fun _ => evw_and1 (evt_to (evt_val (ev_isRat T hM (ev_name 2 rfl))) (isRat_eq d hM)))) (fun h => by
        obtain ⟨x, rfl⟩ := isQ_ex (and2 h)
        exact ex_one (es_retS (ev_negQ GN hr ⟨x, rfl, hq x rfl, rfl⟩ (ev_name 2 rfl)))) fun _ =>
      ex_guard (m := .im (.int (d.toI + 1))) (S' := some (tkS S 13)) (evt_to (EvW.t (evw_and (evt_to (evt_eq rfl (ev_name 3 rfl) ev_int) (natEq _ 6)) fun _ => evw_and (evt_val (ev_isInt T hM (ev_name 2 rfl))) fun _ => evw_and1 (evt_not (evt_val (ev_isBool T hM (ev_name 2 rfl)))))) (by rw [isInt_eq d hM])) (fun h => by
        obtain ⟨x, rfl⟩ := isI_ex (and2 h)
        exact ex_one (es_retS (ev_add (ev_name 2 rfl) ev_int))) fun _ =>
      ex_guard (m := .ls (d.els.map Mu.im)) (S' := some (tkS S 13)) (EvW.t (evw_and (evt_to (evt_eq rfl (ev_name 3 rfl) ev_int) (natEq _ 7)) fun _ => evw_and1 (evt_val (ev_isTup T hM (ev_name 2 rfl))))) (fun h => by
        obtain ⟨x, rfl⟩ := isTup_ex (and2 h)
        exact ex_one (es_retS (ev_listOf T.list (.inr rfl) (ev_name 2 rfl)))) fun _ =>
      ex_guard (m := .im (.tup (cutD d.els none (some (-1))))) (S' := some (tkS S 13)) (EvW.t (evw_and (evt_to (evt_eq rfl (ev_name 3 rfl) ev_int) (natEq _ 8)) fun _ => evw_and1 (evt_val (ev_isTup T hM (ev_name 2 rfl))))) (fun h => by
        obtain ⟨x, rfl⟩ := isTup_ex (and2 h)
        exact ex_one (es_retS (ev_slT (ev_name 2 rfl) evo_none (evo_some (ev_neg ev_int))))) fun _ =>
      ex_guard (m := .im (.tup (d.els ++ cutD d.els none (some 1)))) (S' := some (tkS S 13)) (EvW.t (evw_and (evt_to (evt_eq rfl (ev_name 3 rfl) ev_int) (natEq _ 9)) fun _ => evw_and1 (evt_val (ev_isTup T hM (ev_name 2 rfl))))) (fun h => by
        obtain ⟨x, rfl⟩ := isTup_ex (and2 h)
        exact ex_one (es_retS (ev_catT (by have := hl x rfl; have h2 := cutD_len x none (some 1); show x.length + (cutD x none (some 1)).length ≤ _; omega) (ev_name 2 rfl) (ev_slT (ev_name 2 rfl) evo_none (evo_some ev_int))))) fun _ =>
      ex_guard (m := .im (.tup d.els.reverse)) (S' := some (tkS S 13)) (EvW.t (evw_and (evt_to (evt_eq rfl (ev_name 3 rfl) ev_int) (natEq _ 10)) fun _ => evw_and1 (evt_val (ev_isTup T hM (ev_name 2 rfl))))) (fun h => by
        obtain ⟨x, rfl⟩ := isTup_ex (and2 h)
        exact ex_one (es_retS (ev_revT (ev_name 2 rfl)))) fun _ =>
      ex_guard (m := .im (wordsO.getD (tkV (tkS S 13) 12) .non)) (S' := some (tkS (tkS S 13) 12)) (o := .rt (.im .non) (some (tkS S 13))) (evt_to (evt_eq rfl (ev_name 3 rfl) ev_int) (natEq _ 11)) (fun _ => ex_one (es_retS (ev_ix (ix_lst0 (wordsO_at (tkV_lt (by omega)))) (Ev.frzL (l := wordsO) (ev_lst (ms := wordsO.map Mu.im) (eva_cons ev_str (eva_cons ev_str (eva_cons ev_str (eva_cons ev_str (eva_cons ev_str (eva_cons ev_str (eva_cons ev_str (eva_cons ev_str (eva_cons ev_str (eva_cons ev_str (eva_cons ev_bl (eva_cons ev_bl (eva_nil))))))))))))) (by decide))) (ev_callS (ds := [_]) (s := tkS S 13) 0 GT hr rfl (eva_cons ev_int eva_nil) rfl ⟨12, rfl, by omega, rfl, rfl⟩)))) fun _ =>
      ex_one (es_retS ev_non)) ?_
  exact Fin.ite2 (fun _ => ⟨rfl, rfl⟩) fun _ => Fin.ite2 (fun _ => ⟨rfl, rfl⟩) fun _ => Fin.ite2 (fun _ => ⟨rfl, rfl⟩) fun _ => Fin.ite2 (fun _ => ⟨rfl, rfl⟩) fun _ => Fin.ite2 (fun _ => ⟨rfl, rfl⟩) fun _ => Fin.ite2 (fun _ => ⟨rfl, rfl⟩) fun _ => Fin.ite2 (fun _ => ⟨rfl, rfl⟩) fun _ => Fin.ite2 (fun _ => ⟨congrArg D.lst (toL_map _), rfl⟩) fun _ => Fin.ite2 (fun _ => ⟨rfl, rfl⟩) fun _ => Fin.ite2 (fun _ => ⟨rfl, rfl⟩) fun _ => Fin.ite2 (fun _ => ⟨rfl, rfl⟩) fun _ => Fin.ite2 (fun _ => ⟨rfl, rfl⟩) fun _ => ⟨rfl, rfl⟩
end
end K48

namespace K48
open PySem PySem.Spec PyProof.Rows L2

mutual
/-- P of all rationals within, no list longer than L, no metric -/
def D.ok (P : Rat → Prop) (L : Nat) : D → Prop
  | .rat q => P q
  | .tup l => l.length ≤ L ∧ okL P L l
  | .lst l => l.length ≤ L ∧ okL P L l
  | .met _ _ => False
  | _ => True
def okL (P : Rat → Prop) (L : Nat) : List D → Prop
  | [] => True
  | d :: l => D.ok P L d ∧ okL P L l
end
theorem okL_iff {P : Rat → Prop} {L : Nat} : ∀ {l : List D}, okL P L l ↔ ∀ d ∈ l, d.ok P L
  | [] => by simp [okL]
  | d :: l => by simp [okL, okL_iff (l := l)]
mutual
theorem D.ok.pl {P : Rat → Prop} {L : Nat} : ∀ {d : D}, d.ok P L → d.pl = true
  | .non, _ => rfl
  | .bl _, _ => rfl
  | .int _, _ => rfl
  | .str _, _ => rfl
  | .rat _, _ => rfl
  | .tup l, h => okL.pl (l := l) h.2
  | .lst l, h => okL.pl (l := l) h.2
  | .met _ _, h => h.elim
theorem okL.pl {P : Rat → Prop} {L : Nat} : ∀ {l : List D}, okL P L l → plL l = true
  | [], _ => rfl
  | d :: l, h => by show (d.pl && plL l) = true; rw [D.ok.pl h.1, okL.pl h.2]; rfl
end
mutual
theorem D.ok.mono {P P' : Rat → Prop} {L L' : Nat} (hP : ∀ q, P q → P' q) (hL : L ≤ L') : ∀ {d : D}, d.ok P L → d.ok P' L'
  | .non, _ => trivial
  | .bl _, _ => trivial
  | .int _, _ => trivial
  | .str _, _ => trivial
  | .rat q, h => hP q h
  | .tup l, h => ⟨Nat.le_trans h.1 hL, okL.mono hP hL h.2⟩
  | .lst l, h => ⟨Nat.le_trans h.1 hL, okL.mono hP hL h.2⟩
  | .met _ _, h => h
theorem okL.mono {P P' : Rat → Prop} {L L' : Nat} (hP : ∀ q, P q → P' q) (hL : L ≤ L') : ∀ {l : List D}, okL P L l → okL P' L' l
  | [], _ => trivial
  | d :: l, h => ⟨D.ok.mono hP hL h.1, okL.mono hP hL h.2⟩
end
theorem BenOK.of {d : D} (h : d.ok Sm 1000) : BenOK d := ⟨h.pl, fun q e => by subst e; exact h, fun l e => by subst e; exact h.1⟩
abbrev RBen (r : Nat) (S : Int × Int) (ds : List D) (res : D) (S' : Int × Int) : Prop := ∃ (n : Nat) (d : D), ds = [.int n, d, .int r] ∧ n ≤ 100 ∧ d.ok Sm 1000 ∧ res = (benR r n d S).1 ∧ S' = (benR r n d S).2
section
variable {W : Wd} (T : Fx W.K W.mg W.c) (Y : Fy W.K W.c)
include T Y
theorem fs_law_bend {k} (r : Nat) (GT : W.fs (k + 1) "_law_take" RTake) (GO : W.fs (k + 1) "_law_other" ROth) (GB : r ≠ 0 → W.fs (k + 1) "_law_bend" (RBen (r - 1))) (h : DefW W "_law_bend" (top 75)) : W.fs (k + 2) "_law_bend" (RBen r) := by
  obtain ⟨f, h, hm⟩ := h
  have hN : (["_law_state_here", "_law_n", "_law_data", "_law_room", "_law_at"] : List Str).Nodup := by decide +kernel
  refine fnS_mk (N := ["_law_state_here", "_law_n", "_law_data", "_law_room", "_law_at"]) (ps := ["_law_state_here", "_law_n", "_law_data", "_law_room"]) h hm ⟨rfl, rfl, rfl, hN, rfl, by decide +kernel, by decide +kernel⟩ (fun S ds d S' h => by obtain ⟨_, _, rfl, _⟩ := h; rfl) ?_ (fun _ _ _ _ _ _ us hl => match us, hl with | [_, _, _, _], _ => rfl)
  rintro S ds res S' ⟨n, d, rfl, hn, hd, rfl, rfl⟩ f cdv Ar outer sh hp0 E st hr
  have hM : d.noM = true := D.pl.noM hd.pl
  cases r with
  | zero =>
    exact bodyI (ex_take (EvW.t (evw_orT (evt_to (evt_eq rfl (ev_name 3 rfl) ev_int) rfl))) (ex_one (es_retS (ev_callS (ds := [_, _]) (s := S) 0 GO hr rfl (eva_cons (ev_name 1 rfl) (eva_cons (ev_name 2 rfl) eva_nil)) rfl ⟨n, d, rfl, hn, BenOK.of hd, rfl, rfl⟩)))) ⟨rfl, rfl⟩
  | succ r =>
    have hrm : decide (((r + 1 : Nat) : Int) = 0) = false := decide_eq_false (by omega)
    cases ht : isD d .tuple with
    | false =>
      have e : benR (r + 1) n d S = othR n d S := if_pos (.inl ht)
      rw [e]
      exact bodyI (ex_take (EvW.t (evw_orF (evt_to (evt_eq rfl (ev_name 3 rfl) ev_int) hrm) (evw_orT (evt_to (evt_not (evt_val (ev_isTup T hM (ev_name 2 rfl)))) (by rw [ht]; rfl))))) (ex_one (es_retS (ev_callS (ds := [_, _]) (s := S) 0 GO hr rfl (eva_cons (ev_name 1 rfl) (eva_cons (ev_name 2 rfl) eva_nil)) rfl ⟨n, d, rfl, hn, BenOK.of hd, rfl, rfl⟩)))) ⟨rfl, rfl⟩
    | true =>
      obtain ⟨l, rfl⟩ := isTup_ex ht
      by_cases h0 : l = []
      · have e : benR (r + 1) n (.tup l) S = othR n (.tup l) S := if_pos (.inr h0)
        rw [e]
        exact bodyI (ex_take (EvW.t (evw_orF (evt_to (evt_eq rfl (ev_name 3 rfl) ev_int) hrm) (evw_orF (evt_to (evt_not (evt_val (ev_isTup (d := .tup l) T rfl (ev_name 2 rfl)))) rfl) (evw_orT (evt_to (evt_eq rfl (ev_len T.len rfl (ev_name 2 rfl)) ev_int) (by rw [h0]; rfl)))))) (ex_one (es_retS (ev_callS (ds := [_, _]) (s := S) 0 GO hr rfl (eva_cons (ev_name 1 rfl) (eva_cons (ev_name 2 rfl) eva_nil)) rfl ⟨n, .tup l, rfl, hn, BenOK.of hd, rfl, rfl⟩)))) ⟨rfl, rfl⟩
      · have hl := List.length_pos_iff.mpr h0
        by_cases h6 : tkV S 6 = 0
        · have e : benR (r + 1) n (.tup l) S = othR n (.tup l) (tkS S 6) := (if_neg (by rintro (h | h); exact Bool.noConfusion h; exact h0 h)).trans (if_pos h6)
          rw [e]
          exact bodyI (ex_take (EvW.t (evw_orF (evt_to (evt_eq rfl (ev_name 3 rfl) ev_int) hrm) (evw_orF (evt_to (evt_not (evt_val (ev_isTup (d := .tup l) T rfl (ev_name 2 rfl)))) rfl) (evw_orF (evt_to (evt_eq rfl (ev_len T.len rfl (ev_name 2 rfl)) ev_int) (decide_eq_false (by omega))) (evw_or1 (evt_to (evt_eq rfl (ev_callS (ds := [_]) (s := S) 0 GT hr rfl (eva_cons ev_int eva_nil) rfl ⟨6, rfl, by omega, rfl, rfl⟩) ev_int) (decide_eq_true (by omega)))))))) (ex_one (es_retS (ev_callS (ds := [_, _]) (s := tkS S 6) 0 GO hr rfl (eva_cons (ev_name 1 rfl) (eva_cons (ev_name 2 rfl) eva_nil)) rfl ⟨n, .tup l, rfl, hn, BenOK.of hd, rfl, rfl⟩)))) ⟨rfl, rfl⟩
        · have e : benR (r + 1) n (.tup l) S = (.tup (cutD l none (some (tkV (tkS S 6) l.length : Int)) ++ [(benR r n (l.getD (tkV (tkS S 6) l.length) .non) (tkS (tkS S 6) l.length)).1] ++ cutD l (some ((tkV (tkS S 6) l.length : Int) + 1)) none), (benR r n (l.getD (tkV (tkS S 6) l.length) .non) (tkS (tkS S 6) l.length)).2) := (if_neg (by rintro (h | h); exact Bool.noConfusion h; exact h0 h)).trans (if_neg h6)
          rw [e]
          have hat := tkV_lt (s := tkS S 6) (m := l.length) hl
          have hget := getD_at (z := D.non) hat
          have hok := okL_iff.mp hd.2 _ (getD_mem (z := D.non) hat)
          have hlen := hd.1
          have c1 := cutD_len l none (some (tkV (tkS S 6) l.length : Int))
          have c2 := cutD_len l (some ((tkV (tkS S 6) l.length : Int) + 1)) none
          exact bodyI (ex_skip (EvW.t (evw_orF (evt_to (evt_eq rfl (ev_name 3 rfl) ev_int) hrm) (evw_orF (evt_to (evt_not (evt_val (ev_isTup (d := .tup l) T rfl (ev_name 2 rfl)))) rfl) (evw_orF (evt_to (evt_eq rfl (ev_len T.len rfl (ev_name 2 rfl)) ev_int) (decide_eq_false (by omega))) (evw_or1 (evt_to (evt_eq rfl (ev_callS (ds := [_]) (s := S) 0 GT hr rfl (eva_cons ev_int eva_nil) rfl ⟨6, rfl, by omega, rfl, rfl⟩) ev_int) (decide_eq_false (by omega)))))))) <| ex_cons (es_set 4 (ev_callS (ds := [_]) (s := tkS S 6) 0 GT hr rfl (eva_cons (ev_len T.len rfl (ev_name 2 rfl)) eva_nil) rfl ⟨l.length, rfl, ⟨hl, by omega⟩, rfl, rfl⟩) rfl hN) <| ex_one (es_ret (ev_catT (by rw [List.length_append, List.length_singleton]; omega) (ev_catT (by rw [List.length_singleton]; omega) (ev_slT (ev_name 2 rfl) evo_none (evo_some (ev_name 4 rfl))) (ev_tup (ds := [_]) (eva_cons (ev_callS (ds := [_, _, _]) (s := tkS (tkS S 6) l.length) 0 (GB (by omega)) hr rfl (eva_cons (ev_name 1 rfl) (eva_cons (ev_ix (ix_tup0 hget) (ev_name 2 rfl) (ev_name 4 rfl)) (eva_cons (ev_to (ev_sub (ev_name 3 rfl) ev_int) (show _ = D.int ((r + 1 - 1 : Nat) : Int) by show D.int _ = D.int _; congr 1; omega)) eva_nil))) rfl ⟨n, _, rfl, hn, hok, rfl, rfl⟩) eva_nil) (by simp))) (ev_slT (ev_name 2 rfl) (evo_some (ev_add (ev_name 4 rfl) ev_int)) evo_none)))) ⟨rfl, rfl⟩
end
end K48

namespace K48
open PySem PySem.Spec PyProof.Rows L2

def fnl (l : List D) : D := .tup [.str "functional", .tup l]
def ctl (l : List D) : D := .tup [.str "cuts", .tup l]
def dSs (S : Int × Int) (i : Nat) : Int × Int := itn (fun s => tkS s 5) i S
def drawQ (S : Int × Int) (i : Nat) : Rat := Rat.divInt ((tkV (dSs S i) 5 : Nat) - 2) 1
def dp1 (n : Nat) (S : Int × Int) : (Int × Int) × List D := lp (fun _ (a : (Int × Int) × List D) => (dSs a.1 (npr n), a.2 ++ [fnl (tab (npr n) fun i => .rat (drawQ a.1 i))])) 3 (S, [])
def bsL : List (List Int) := [[1, 1, 1, -1, -1], [-1, -1, 1, 1, 1], [1, -1, 1, -1, 1]]
def bAt (b : List Int) (c : Int) (n i : Nat) : Rat := Rat.divInt (c * b.getD (pr n i).1 0 * b.getD (pr n i).2 0) 1
def bA1 (b : List Int) (n i : Nat) : Rat := Rat.divInt (b.getD (pr n i).1 0 * b.getD (pr n i).2 0) 1
def dp2 (n : Nat) (l : List D) : List D := bsL.foldl (fun l b => if n = 5 then l ++ [fnl (tab (npr n) fun i => .rat (bA1 b n i))] ++ [fnl (tab (npr n) fun i => .rat (bAt b 2 n i))] else l) l
def cutV0 (at_ : List Int) (n i : Nat) : Int := 1 - 2 * (if decide (decide (((pr n i).1 : Int) ∈ at_) = decide (((pr n i).2 : Int) ∈ at_)) = true then 1 else 0)
def cmpl (at_ : List Int) (n : Nat) : List Int := ((List.range n).filter fun x : Nat => !decide ((x : Int) ∈ at_)).map fun x : Nat => (x : Int)
def dp3 (n : Nat) (at_ : List Int) : List D := [fnl (tab (npr n) fun i => .rat (Rat.divInt (-(cutV0 at_ n i)) 1)), ctl [.tup [tI at_, .rat 0]], ctl [.tup [tI (cmpl at_ n), .rat 1]]]
def dpE (n : Nat) (S : Int × Int) : (Int × Int) × List D := if 0 < LN n then (tkS (dp1 n S).1 (LN n), dp2 n (dp1 n S).2 ++ dp3 n (lawX n (tkV (dp1 n S).1 (LN n)))) else ((dp1 n S).1, dp2 n (dp1 n S).2)
theorem prs_tab {n : Nat} : (prI n).map prD = tab (npr n) fun i => prD (pr n i) := map_tab (prI n) (0, 0) prD
theorem rat0 : Rat.divInt 0 1 = 0 := rfl
theorem rat1 : Rat.divInt 1 1 = 1 := rfl
theorem bsL_len {b : List Int} (h : b ∈ bsL) : b.length = 5 ∧ ∀ v ∈ b, v.natAbs = 1 := by
  simp only [bsL, List.mem_cons, List.mem_nil_iff, or_false] at h
  rcases h with rfl | rfl | rfl <;> simp
section
variable {W : Wd} (T : Fx W.K W.mg W.c) (Y : Fy W.K W.c)
include T Y
theorem fs_law_drawn_papers {k} (GT : W.fs (k + 1) "_law_take" RTake) (GK : W.fk k "Ratio" W.c.R [1] RInit) (G1 : W.fp (k + 1) "_law_two" (fun ds r => ∃ n : Nat, ds = [.int n] ∧ n ≤ 8 ∧ r = .lst ((prI n).map prD))) (GS : W.fp (k + 1) "_law_splits" RLSpl) (h : DefW W "_law_drawn_papers" (top 83)) : W.fs (k + 2) "_law_drawn_papers" (fun S ds r S' => ∃ n : Nat, ds = [.int n] ∧ (1 ≤ n ∧ n ≤ 5) ∧ r = .lst (dpE n S).2 ∧ S' = (dpE n S).1) := by
  obtain ⟨f, h, hm⟩ := h
  have hN : (["_law_state_here", "_law_n", "_law_pairs", "_law_found", "_law_turn", "_law_p", "_law_splits_here", "_law_b", "_law_x", "_law_y", "_law_at", "_law_values", "_law_v"] : List Str).Nodup := by decide +kernel
  refine fnS_mk (N := ["_law_state_here", "_law_n", "_law_pairs", "_law_found", "_law_turn", "_law_p", "_law_splits_here", "_law_b", "_law_x", "_law_y", "_law_at", "_law_values", "_law_v"]) (ps := ["_law_state_here", "_law_n"]) h hm ⟨rfl, rfl, rfl, hN, rfl, by decide +kernel, by decide +kernel⟩ (fun S ds d S' h => by obtain ⟨_, rfl, _⟩ := h; rfl) ?_ (fun _ _ _ _ _ _ us hl => match us, hl with | [_, _], _ => rfl)
  rintro S ds r S' ⟨n, rfl, hn, rfl, rfl⟩ f cdv Ar outer sh hp0 E st hr
  have hm64 : npr n ≤ 64 := npr64 (by omega)
  have hL : (lawS n).length ≤ 32 := lawS_len (by omega)
  have itp : ∀ {X : Cx} {st : Addr} {C C1 : Cfg} {tg iter : Expr}, Iter X W.c st tg iter C ((prI n).map prD) C1 → Iter X W.c st tg iter C (tab (npr n) fun i => prD (pr n i)) C1 := fun h => iter_to h prs_tab
  refine bodyI (o := .rt (.im (.lst (dpE n S).2)) (some (dpE n S).1)) (ex_cons (es_set 2 (ev_call (ds := [_]) G1 hr ⟨n, rfl, by omega, rfl⟩ (eva_cons (ev_name 1 rfl) eva_nil)) rfl hN) <| ex_cons (es_set 3 (ev_lst (ms := []) eva_nil (by simp)) rfl hN) <| ex_cons (es_loop (n := 3) (g := fun i => .int (i : Int)) (G := fun a : (Int × Int) × List D => ⟨some a.1, [some .stt, sd (.int n), sd (.lst ((prI n).map prD)), so a.2, none, none, none, none, none, none, none, none, none]⟩) (f := fun _ (a : (Int × Int) × List D) => (dSs a.1 (npr n), a.2 ++ [fnl (tab (npr n) fun i => .rat (drawQ a.1 i))])) (P := fun i a => a.2.length = i) (a0 := (S, [])) rfl PassesOwn.never (it_rg (n := 3) T ev_int (by omega)) fun j a hj ha => ⟨turnI (tg_name 4 hN) (ex_one (es_expr (ev_appD (d := fnl (tab (npr n) fun i => .rat (drawQ a.1 i))) 3 (ev_tup (ds := [_, _]) (eva_cons ev_str (eva_cons (ev_tupleOf T.tuple (.inl rfl) (Ev.frzL (EvL.ev (lc_st (n := npr n) (g := fun i => prD (pr n i)) [("_law_p", 5)] (dSs a.1) (fun i => .rat (drawQ a.1 i)) hN (itp (it_list (ev_name 2 rfl))) (by omega) rfl fun i hi => turn fun s0 H0 D0 cl fp => ⟨tg_name 5 hN, (ev_make (ds := [_]) GK hr ⟨_, 1, rfl, by decide, Bd.sm (by have := tkV_lt (s := dSs a.1 i) (m := 5) (by omega); omega), Bd.sm (by decide), rfl⟩ (eva_cons (ev_sub (ev_callS (ds := [_]) (s := dSs a.1 i) 0 GT hr rfl (eva_cons ev_int eva_nil) rfl ⟨5, rfl, by omega, rfl, rfl⟩) ev_int) eva_nil))⟩)))) eva_nil)) (by simp)) ⟨_, rfl⟩ rfl (by rw [ha]; omega)))) rfl ⟨rfl, rfl, rfl, rfl, trivial⟩, by rw [List.length_append, ha]; rfl⟩) <|
    ex_cons (es_set 6 (ev_call (ds := [_]) GS hr ⟨n, rfl, by omega, rfl⟩ (eva_cons (ev_name 1 rfl) eva_nil)) rfl hN) <| ?_) ⟨rfl, rfl⟩
  show Ex _ _ _ _ ⟨some (dp1 n S).1, [some .stt, sd (.int n), sd (.lst ((prI n).map prD)), so (dp1 n S).2, none, none, sd (.lst ((lawS n).map tI)), none, none, none, none, none, none]⟩ _
  have hl3 : (dp1 n S).2.length = 3 := lp_inv (f := fun _ (a : (Int × Int) × List D) => (dSs a.1 (npr n), a.2 ++ [fnl (tab (npr n) fun i => .rat (drawQ a.1 i))])) (a := (S, [])) (n := 3) (fun i (a : (Int × Int) × List D) => a.2.length = i) rfl fun i a _ h => by show (a.2 ++ [_]).length = _; rw [List.length_append, h]; rfl
  unfold dpE
  generalize (dp1 n S).1 = s at *
  generalize (dp1 n S).2 = l0 at hl3
  have bD : ∀ b : List Int, D.tup (b.map D.int) = tI b := fun _ => rfl
  refine ex_cons (es_fold (bs := bsL) (inj := tI) (G := fun l : List D => ⟨some s, [some .stt, sd (.int n), sd (.lst ((prI n).map prD)), so l, none, none, sd (.lst ((lawS n).map tI)), none, none, none, none, none, none]⟩) (f := fun l b => if n = 5 then l ++ [fnl (tab (npr n) fun i => .rat (bA1 b n i))] ++ [fnl (tab (npr n) fun i => .rat (bAt b 2 n i))] else l) (P := fun i l => l.length ≤ 3 + 2 * i) (a0 := l0) (by omega) PassesOwn.never (it_list (ev_to (Ev.frzL (l := bsL.map tI) (ev_lst (ms := (bsL.map tI).map Mu.im) (eva_cons (ev_tup (ds := [_, _, _, _, _]) (eva_cons ev_int (eva_cons ev_int (eva_cons ev_int (eva_cons (ev_neg ev_int) (eva_cons (ev_neg ev_int) eva_nil))))) (by simp)) (eva_cons (ev_tup (ds := [_, _, _, _, _]) (eva_cons (ev_neg ev_int) (eva_cons (ev_neg ev_int) (eva_cons ev_int (eva_cons ev_int (eva_cons ev_int eva_nil))))) (by simp)) (eva_cons (ev_tup (ds := [_, _, _, _, _]) (eva_cons ev_int (eva_cons (ev_neg ev_int) (eva_cons ev_int (eva_cons (ev_neg ev_int) (eva_cons ev_int eva_nil))))) (by simp)) eva_nil))) (by decide))) rfl)) fun j b l hj hl => ?_) ?_
  · obtain ⟨hb5, hb1⟩ := bsL_len (List.mem_of_getElem? hj)
    have hj3 : j < 3 := (List.getElem?_eq_some_iff.mp hj).1
    refine ⟨turnI (tg_name 7 hN) (ex_one (es_if (o := .nx ⟨some s, [some .stt, sd (.int n), sd (.lst ((prI n).map prD)), so (if n = 5 then l ++ [fnl (tab (npr n) fun i => .rat (bA1 b n i))] ++ [fnl (tab (npr n) fun i => .rat (bAt b 2 n i))] else l), none, none, sd (.lst ((lawS n).map tI)), sd (tI b), none, none, none, none, none]⟩) (evt_eq rfl (ev_name 1 rfl) ev_int) (fun h => ?_) fun h => ?_)) rfl ⟨rfl, rfl, rfl, rfl, rfl, trivial⟩, ?_⟩
    · have h5 : n = 5 := by have := of_decide_eq_true h; omega
      have hbx : ∀ i, i < npr n → (b.map D.int)[(pr n i).1]? = some (.int (b.getD (pr n i).1 0)) ∧ (b.map D.int)[(pr n i).2]? = some (.int (b.getD (pr n i).2 0)) := fun i hi => by
        have := pr_lt hi
        exact ⟨by rw [List.getElem?_map, getD_at (z := 0) (by omega)]; rfl, by rw [List.getElem?_map, getD_at (z := 0) (by omega)]; rfl⟩
      have hv : ∀ i, i < npr n → (b.getD (pr n i).1 0).natAbs = 1 ∧ (b.getD (pr n i).2 0).natAbs = 1 := fun i hi => by
        have := pr_lt hi
        exact ⟨hb1 _ (getD_mem (by omega)), hb1 _ (getD_mem (by omega))⟩
      rw [if_pos h5]
      refine ex_cons (es_expr (ev_appD (d := fnl (tab (npr n) fun i => .rat (bA1 b n i))) 3 (ev_tup (ds := [_, _]) (eva_cons ev_str (eva_cons (ev_tupleOf T.tuple (.inl rfl) (Ev.frzL (EvL.ev (lc_map (n := npr n) (g := fun i => prD (pr n i)) [("_law_x", 8), ("_law_y", 9)] (fun i => .rat (bA1 b n i)) hN (itp (it_list (ev_name 2 rfl))) (by omega) fun i hi => turn fun s0 H0 D0 cl fp => ⟨tg_tup (tgs_cons (tg_name 8 hN) (tgs_cons (tg_name 9 hN) tgs_nil)), (ev_make (ds := [_]) GK hr ⟨_, 1, rfl, by decide, Bd.sm (by rw [Int.natAbs_mul, (hv i hi).1, (hv i hi).2]; decide), Bd.sm (by decide), rfl⟩ (eva_cons (ev_mul (Bd.mul (Bd.sm (by rw [(hv i hi).1]; decide)) (Bd.sm (by rw [(hv i hi).2]; decide))) (ev_ix (ix_tup0 (hbx i hi).1) (ev_name 7 rfl) (ev_name 8 rfl)) (ev_ix (ix_tup0 (hbx i hi).2) (ev_name 7 rfl) (ev_name 9 rfl))) eva_nil))⟩)))) eva_nil)) (by simp)) ⟨_, rfl⟩ rfl (by omega))) <| ex_eq (ex_one (es_expr (ev_appD (d := fnl (tab (npr n) fun i => .rat (bAt b 2 n i))) 3 (ev_tup (ds := [_, _]) (eva_cons ev_str (eva_cons (ev_tupleOf T.tuple (.inl rfl) (Ev.frzL (EvL.ev (lc_map (n := npr n) (g := fun i => prD (pr n i)) [("_law_x", 8), ("_law_y", 9)] (fun i => .rat (bAt b 2 n i)) hN (itp (it_list (ev_name 2 rfl))) (by omega) fun i hi => turn fun s0 H0 D0 cl fp => ⟨tg_tup (tgs_cons (tg_name 8 hN) (tgs_cons (tg_name 9 hN) tgs_nil)), (ev_make (ds := [_]) GK hr ⟨_, 1, rfl, by decide, Bd.sm (by rw [Int.natAbs_mul, Int.natAbs_mul, (hv i hi).1, (hv i hi).2]; decide), Bd.sm (by decide), rfl⟩ (eva_cons (ev_mul (Bd.mul (Bd.sm (by rw [Int.natAbs_mul, (hv i hi).1]; decide)) (Bd.sm (by rw [(hv i hi).2]; decide))) (ev_mul (Bd.mul (Bd.sm (by decide)) (Bd.sm (by rw [(hv i hi).1]; decide))) ev_int (ev_ix (ix_tup0 (hbx i hi).1) (ev_name 7 rfl) (ev_name 8 rfl))) (ev_ix (ix_tup0 (hbx i hi).2) (ev_name 7 rfl) (ev_name 9 rfl))) eva_nil))⟩)))) eva_nil)) (by simp)) ⟨_, rfl⟩ rfl (by rw [List.length_append, List.length_singleton]; omega))))
    · have h5 : ¬ n = 5 := by have := of_decide_eq_false h; omega
      rw [if_neg h5]; exact ex_nil
    · split
      · rw [List.length_append, List.length_append, List.length_singleton, List.length_singleton]; omega
      · omega
  · have hl9 : (dp2 n l0).length ≤ 9 := foldl_inv (f := fun (l : List D) b => if n = 5 then l ++ [fnl (tab (npr n) fun i => .rat (bA1 b n i))] ++ [fnl (tab (npr n) fun i => .rat (bAt b 2 n i))] else l) (l := bsL) (a := l0) (fun i l => l.length ≤ 3 + 2 * i) (by omega) fun i b l _ h => by
      split
      · rw [List.length_append, List.length_append, List.length_singleton, List.length_singleton]; omega
      · omega
    show Ex _ _ _ _ ⟨some s, [some .stt, sd (.int n), sd (.lst ((prI n).map prD)), so (dp2 n l0), none, none, sd (.lst ((lawS n).map tI)), none, none, none, none, none, none]⟩ _
    generalize dp2 n l0 = l at hl9
    by_cases hp : 0 < LN n
    · rw [if_pos hp]
      have hat : tkV s (LN n) < LN n := tkV_lt hp
      have hix : ((lawS n).map tI)[tkV s (LN n)]? = some (tI (lawX n (tkV s (LN n)))) := by rw [List.getElem?_map, getD_at (z := []) hat]; rfl
      generalize lawX n (tkV s (LN n)) = at_ at hix
      have hcv : ∀ i, (cutV0 at_ n i).natAbs ≤ 3 := fun i => by unfold cutV0; split <;> decide
      refine ex_cons (C1 := ⟨some (tkS s (LN n)), [some .stt, sd (.int n), sd (.lst ((prI n).map prD)), so (l ++ dp3 n at_), none, none, sd (.lst ((lawS n).map tI)), none, none, none, none, none, none]⟩) (es_if (t := true) (evt_to (evt_icmp .gt (ev_len T.len rfl (ev_name 6 rfl)) ev_int) (decide_eq_true (by rw [List.length_map]; exact Int.ofNat_lt.mpr hp))) (fun _ => ?_) fun h => nomatch h) ?_
      · refine ex_cons (es_set 10 (ev_ix (ix_lst0 hix) (ev_name 6 rfl) (ev_callS (ds := [_]) (s := s) 0 GT hr rfl (eva_cons (ev_to (ev_len T.len rfl (ev_name 6 rfl)) (show _ = D.int ((LN n : Nat) : Int) by rw [List.length_map]; rfl)) eva_nil) rfl ⟨LN n, rfl, ⟨hp, by unfold LN; omega⟩, rfl, rfl⟩)) rfl hN) <|
          ex_cons (es_setL 11 (EvL.frzL (lc_map (n := npr n) (g := fun i => prD (pr n i)) [("_law_x", 8), ("_law_y", 9)] (fun i => .int (cutV0 at_ n i)) hN (itp (it_list (ev_name 2 rfl))) (by omega) fun i hi => turn fun s0 H0 D0 cl fp => ⟨tg_tup (tgs_cons (tg_name 8 hN) (tgs_cons (tg_name 9 hN) tgs_nil)), ev_sub ev_int (ev_mul (Bd.mul (Bd.sm (by decide)) (by split <;> exact Bd.sm (by decide))) ev_int (ev_intB T.int (ev_eq rfl (ev_inI (ev_name 8 rfl) (ev_name 10 rfl)) (ev_inI (ev_name 9 rfl) (ev_name 10 rfl)))))⟩)) rfl) <|
          ex_cons (es_expr (ev_appD (d := fnl (tab (npr n) fun i => .rat (Rat.divInt (-(cutV0 at_ n i)) 1))) 3 (ev_tup (ds := [_, _]) (eva_cons ev_str (eva_cons (ev_tupleOf T.tuple (.inl rfl) (Ev.frzL (EvL.ev (lc_map (n := npr n) (g := fun i => .int (cutV0 at_ n i)) [("_law_v", 12)] (fun i => .rat (Rat.divInt (-(cutV0 at_ n i)) 1)) hN (it_list (ev_name 11 rfl)) (by omega) fun i hi => turn fun s0 H0 D0 cl fp => ⟨tg_name 12 hN, (ev_make (ds := [_]) GK hr ⟨_, 1, rfl, by decide, Bd.sm (by have := hcv i; omega), Bd.sm (by decide), rfl⟩ (eva_cons (ev_neg (ev_name 12 rfl)) eva_nil))⟩)))) eva_nil)) (by simp)) ⟨_, rfl⟩ rfl (by omega))) <|
          ex_cons (es_expr (ev_appD (d := ctl [.tup [tI at_, .rat 0]]) 3 (ev_tup (ds := [_, _]) (eva_cons ev_str (eva_cons (ev_tup (ds := [_]) (eva_cons (ev_tup (ds := [_, _]) (eva_cons (ev_name 10 rfl) (eva_cons (ev_to (ev_make (ds := [_]) GK hr ⟨_, 1, rfl, by decide, Bd.sm (by decide), Bd.sm (by decide), rfl⟩ (eva_cons ev_int eva_nil)) (show _ = D.rat 0 from rfl)) eva_nil)) (by simp)) eva_nil) (by simp)) eva_nil)) (by simp)) ⟨_, rfl⟩ rfl (by rw [List.length_append, List.length_singleton]; omega))) <|
          ex_to (ex_one (es_expr (ev_appD (d := ctl [.tup [tI (cmpl at_ n), .rat 1]]) 3 (ev_tup (ds := [_, _]) (eva_cons ev_str (eva_cons (ev_tup (ds := [_]) (eva_cons (ev_tup (ds := [_, _]) (eva_cons (ev_tupleOf T.tuple (.inl rfl) (ev_to (Ev.frzL (EvL.ev (lc_filter (n := n) (g := fun i => .int (i : Int)) [("_law_x", 8)] (fun x : Nat => !decide ((x : Int) ∈ at_)) (fun x : Nat => .int (x : Int)) hN (it_rg T (ev_name 1 rfl) (by omega)) (by omega) fun i hi => turnF fun s0 H0 D0 cl fp => ⟨tg_name 8 hN, evt_notInI (ev_name 8 rfl) (ev_name 10 rfl), fun _ => ev_name 8 rfl⟩))) (show _ = D.lst ((cmpl at_ n).map D.int) from congrArg D.lst ((keptD_filter (t := fun x : Nat => !decide ((x : Int) ∈ at_)) (w := fun x : Nat => D.int (x : Int)) 0 (List.range n)).trans (by unfold cmpl; rw [List.map_map]; rfl))))) (eva_cons (ev_to (ev_make (ds := [_]) GK hr ⟨_, 1, rfl, by decide, Bd.sm (by decide), Bd.sm (by decide), rfl⟩ (eva_cons ev_int eva_nil)) (show _ = D.rat 1 from rfl)) eva_nil)) (by simp)) eva_nil) (by simp)) eva_nil)) (by simp)) ⟨_, rfl⟩ rfl (by simp only [List.length_append, List.length_singleton]; omega)))) rfl ⟨rfl, rfl, rfl, congrArg so (by unfold dp3; simp), rfl, trivial⟩
      · exact ex_frz (m := .ls _) 3 rfl <| ex_one (es_retS (ev_to (ev_name 3 rfl) (congrArg D.lst (toL_map _))))
    · rw [if_neg hp]
      exact ex_skip (evt_to (evt_icmp .gt (ev_len T.len rfl (ev_name 6 rfl)) ev_int) (decide_eq_false (by rw [List.length_map]; unfold LN at hp; omega))) <| ex_frz (m := .ls _) 3 rfl <| ex_one (es_retS (ev_to (ev_name 3 rfl) (congrArg D.lst (toL_map _))))
end
end K48

namespace K48
open PySem PySem.Spec PyProof.Rows L2

def mvL : List Rat := [1, -1, Rat.divInt 1 2, Rat.divInt (-1) 2]
def mvW (t : Rat) (s : List Int) (ps : List (List Int × Rat)) : Rat := ps.foldl (fun a p => if p.1 = s then a + p.2 else a) (if s.length = 2 then -t else t)
def mvR (t : Rat) (ps : List (List Int × Rat)) : List D := (lawS 4).foldl (fun l s => if (mvW t s ps).num ≠ 0 then l ++ [pwD (s, mvW t s ps)] else l) []
theorem mvL_sm {t : Rat} (h : t ∈ mvL) : Sm t := by
  have h3 : 2 ^ 7 ≤ 2 ^ eM := Nat.pow_le_pow_right (by decide) (by decide)
  have e : t.num.natAbs ≤ 2 ∧ t.den ≤ 2 := by
    simp only [mvL, List.mem_cons, List.mem_nil_iff, or_false] at h
    rcases h with rfl | rfl | rfl | rfl <;> decide
  exact ⟨by omega, by omega⟩
theorem mvW_take {t : Rat} {s : List Int} {ps : List (List Int × Rat)} {i : Nat} {p : List Int × Rat} (h : ps[i]? = some p) : mvW t s (ps.take (i + 1)) = if p.1 = s then mvW t s (ps.take i) + p.2 else mvW t s (ps.take i) := foldl_take h
abbrev RMov (ds : List D) (r : D) : Prop := ∃ (n : Nat) (ps : List (List Int × Rat)), ds = [.int n, .tup (ps.map pwD)] ∧ (∀ t ∈ mvL, ∀ s i, Sm (mvW t s (ps.take i))) ∧ (∀ p ∈ ps, Sm p.2) ∧ r = if n = 4 then .lst (mvL.map fun t => .tup (mvR t ps)) else .lst []
section
variable {W : Wd} (T : Fx W.K W.mg W.c) (Y : Fy W.K W.c)
include T Y
theorem fp_law_moved_weights {k} (GK1 : W.fk k "Ratio" W.c.R [1] RInit) (GK2 : W.fk k "Ratio" W.c.R [] RInit) (GA : W.fm (k + 1) W.c.R "__add__" (ROp fun p q => p + q)) (GN : W.fm (k + 1) W.c.R "__neg__" (fun ds r => ∃ p, ds = [.rat p] ∧ Sm p ∧ r = .rat (-p))) (GS : W.fp (k + 1) "_law_splits" RLSpl) (h : DefW W "_law_moved_weights" (top 84)) : W.fp (k + 2) "_law_moved_weights" (fun ds r => ∃ (n : Nat) (ps : List (List Int × Rat)), ds = [.int n, .tup (ps.map pwD)] ∧ (∀ t ∈ mvL, ∀ s i, Sm (mvW t s (ps.take i))) ∧ (∀ p ∈ ps, Sm p.2) ∧ r = if n = 4 then .lst (mvL.map fun t => .tup (mvR t ps)) else .lst []) := by
  obtain ⟨f, h, hm⟩ := h
  have hN : (["_law_n", "_law_parts", "_law_found", "_law_t", "_law_row", "_law_split", "_law_w", "_law_other_here", "_law_weight"] : List Str).Nodup := by decide +kernel
  refine fnP_mk (N := ["_law_n", "_law_parts", "_law_found", "_law_t", "_law_row", "_law_split", "_law_w", "_law_other_here", "_law_weight"]) (ps := ["_law_n", "_law_parts"]) h hm ⟨rfl, rfl, rfl, hN, rfl, by decide +kernel, by decide +kernel⟩ (fun ds d h => by obtain ⟨_, _, rfl, _⟩ := h; rfl) ?_ (fun _ _ _ _ _ _ us hl => match us, hl with | [_, _], _ => rfl)
  rintro ds r ⟨n, ps, rfl, hs, hp, rfl⟩ f cdv Ar outer sh hp0 E st hr
  by_cases h4 : n = 4
  · subst h4
    rw [if_pos rfl]
    have hL : (lawS 4).length ≤ 32 := lawS_len (by omega)
    refine bodyI (ex_skip (evt_to (evt_ne rfl (ev_name 0 rfl) ev_int) rfl) <| ex_cons (es_set 2 (ev_lst (ms := []) eva_nil (by simp)) rfl hN) <| ex_cons (es_fold (bs := mvL) (inj := D.rat) (G := fun l : List D => ⟨none, [sd (.int (4 : Nat)), sd (.tup (ps.map pwD)), so l, none, none, none, none, none, none]⟩) (f := fun l t => l ++ [.tup (mvR t ps)]) (P := fun i l => l.length = i) (a0 := []) rfl PassesOwn.never (it_list (ev_to (Ev.frzL (l := mvL.map D.rat) (ev_lst (ms := (mvL.map D.rat).map Mu.im) (eva_cons (ev_make (ds := [_]) GK1 hr ⟨_, 1, rfl, by decide, Bd.sm (by decide), Bd.sm (by decide), rfl⟩ (eva_cons ev_int eva_nil)) (eva_cons (ev_make (ds := [_]) GK1 hr ⟨_, 1, rfl, by decide, Bd.sm (by decide), Bd.sm (by decide), rfl⟩ (eva_cons (ev_neg ev_int) eva_nil)) (eva_cons (ev_make (ds := [_, _]) GK2 hr ⟨_, 2, rfl, by decide, Bd.sm (by decide), Bd.sm (by decide), rfl⟩ (eva_cons ev_int (eva_cons ev_int eva_nil))) (eva_cons (ev_make (ds := [_, _]) GK2 hr ⟨_, 2, rfl, by decide, Bd.sm (by decide), Bd.sm (by decide), rfl⟩ (eva_cons (ev_neg ev_int) (eva_cons ev_int eva_nil))) eva_nil)))) (by decide))) rfl)) fun i t l hi hl => ⟨turnI (tg_name 3 hN) (ex_cons (es_set 4 (ev_lst (ms := []) eva_nil (by simp)) rfl hN) <| ex_cons (es_fold (bs := lawS 4) (inj := tI) (G := fun r : List D => ⟨none, [sd (.int (4 : Nat)), sd (.tup (ps.map pwD)), so l, sd (.rat t), so r, none, none, none, none]⟩) (f := fun r s => if (mvW t s ps).num ≠ 0 then r ++ [pwD (s, mvW t s ps)] else r) (P := fun j r => r.length ≤ j) (a0 := []) (by simp) PassesOwn.never (it_list (ev_call (ds := [_]) GS hr ⟨4, rfl, by omega, rfl⟩ (eva_cons ev_int eva_nil))) fun j s r hj hr2 => ?_) <| ex_frz (m := .ls _) 4 rfl <| ex_one (es_expr (ev_appD (d := .tup (mvR t ps)) 2 (ev_tupleOf T.tuple (.inl rfl) (ev_to (ev_name 4 rfl) (congrArg D.lst (toL_map _)))) ⟨_, rfl⟩ rfl (by have := (List.getElem?_eq_some_iff.mp hi).1; rw [hl]; have : mvL.length = 4 := rfl; omega)))) rfl ⟨rfl, rfl, rfl, trivial⟩, by rw [List.length_append, hl]; rfl⟩) <| ex_frz (m := .ls _) 2 rfl <| ex_one (es_ret (ev_name 2 rfl))) ⟨?_, rfl⟩
    · have ht := List.mem_of_getElem? hi
      have htS := mvL_sm ht
      have hj32 : j < 32 := by have := (List.getElem?_eq_some_iff.mp hj).1; omega
      refine ⟨turnI (tg_name 5 hN) (ex_cons (es_set 6 (ev_name 3 rfl) rfl hN) <| ex_cons (C1 := ⟨none, [sd (.int (4 : Nat)), sd (.tup (ps.map pwD)), so l, sd (.rat t), so r, sd (tI s), sd (.rat (if s.length = 2 then -t else t)), none, none]⟩) (es_if (evt_eq rfl (ev_len T.len rfl (ev_name 5 rfl)) ev_int) (fun h => ?_) fun h => ?_) <| ex_cons (es_fold (bs := ps) (inj := pwD) (G := fun a : Rat => ⟨none, [sd (.int (4 : Nat)), sd (.tup (ps.map pwD)), so l, sd (.rat t), so r, sd (tI s), sd (.rat a), none, none]⟩) (f := fun a p => if p.1 = s then a + p.2 else a) (P := fun i a => a = mvW t s (ps.take i)) (a0 := if s.length = 2 then -t else t) rfl PassesOwn.never (it_tup (ev_name 1 rfl)) fun i2 p a hi2 ha => ⟨turnI (tg_tup (tgs_cons (tg_name 7 hN) (tgs_cons (tg_name 8 hN) tgs_nil))) (ex_one (es_if (o := .nx ⟨none, [sd (.int (4 : Nat)), sd (.tup (ps.map pwD)), so l, sd (.rat t), so r, sd (tI s), sd (.rat (if p.1 = s then a + p.2 else a)), sd (tI p.1), sd (.rat p.2)]⟩) (evt_eqT hr (ev_name 7 rfl) (ev_name 5 rfl)) (fun h => ?_) fun h => ?_)) rfl ⟨rfl, rfl, rfl, rfl, rfl, rfl, rfl, trivial⟩, ?_⟩) <| ex_one (es_if (o := .nx ⟨none, [sd (.int (4 : Nat)), sd (.tup (ps.map pwD)), so l, sd (.rat t), so (if (mvW t s ps).num ≠ 0 then r ++ [pwD (s, mvW t s ps)] else r), sd (tI s), sd (.rat (mvW t s ps)), none, none]⟩) (evt_ne rfl (ev_num T (ev_name (d := .rat (mvW t s ps)) 6 rfl)) ev_int) (fun h => ?_) fun h => ?_)) rfl ⟨rfl, rfl, rfl, rfl, rfl, trivial⟩, ?_⟩
      · have h2 : s.length = 2 := by have := of_decide_eq_true h; rw [List.length_map] at this; omega
        rw [if_pos h2]
        exact ex_eq (ex_one (es_set 6 (ev_negQ GN hr ⟨t, rfl, htS, rfl⟩ (ev_name 3 rfl)) rfl hN))
      · have h2 : ¬ s.length = 2 := by have := of_decide_eq_false h; rw [List.length_map] at this; omega
        rw [if_neg h2]
        exact ex_nil
      · have h2 : p.1 = s := of_decide_eq_true h
        rw [if_pos h2]
        exact ex_eq (ex_one (es_set 6 (ev_dun T GA rfl hr ⟨a, p.2, rfl, by rw [ha]; exact hs t ht s i2, hp p (List.mem_of_getElem? hi2), rfl⟩ (ev_name 6 rfl) (ev_name 8 rfl)) rfl hN))
      · have h2 : ¬ p.1 = s := of_decide_eq_false h
        rw [if_neg h2]
        exact ex_nil
      · rw [mvW_take hi2, ha]
      · have h2 : (mvW t s ps).num ≠ 0 := by simpa using h
        rw [if_pos h2]
        exact ex_eq (ex_one (es_expr (ev_appD (d := pwD (s, mvW t s ps)) 4 (ev_tup (ds := [_, _]) (eva_cons (ev_name 5 rfl) (eva_cons (ev_name (d := .rat (mvW t s ps)) 6 rfl) eva_nil)) (by simp)) ⟨_, rfl⟩ rfl (by omega))))
      · have h2 : ¬ (mvW t s ps).num ≠ 0 := by simpa using h
        rw [if_neg h2]
        exact ex_nil
      · show (if (mvW t s ps).num ≠ 0 then r ++ [pwD (s, mvW t s ps)] else r).length ≤ j + 1
        split
        · rw [List.length_append, List.length_singleton]; omega
        · omega
    · show D.lst (Mu.toL (List.map Mu.im _)) = _
      rw [toL_map]
      rfl
  · rw [if_neg h4]
    exact bodyI (ex_take (evt_to (evt_ne rfl (ev_name 0 rfl) ev_int) (by rw [decide_eq_false (by omega)]; rfl)) (ex_one (es_ret (Ev.frzL (l := []) (ev_lst (ms := []) eva_nil (by simp)))))) ⟨rfl, rfl⟩
end
end K48

namespace K48
open PySem PySem.Spec PyProof.Rows L2
/-- the state that a script makes -/
def lsF (ns : List Int) : Int × Int := ns.foldl (fun a n => (a.1 * 1000003 + iab n, (a.2 * 48271 + n) % 2147483647)) (0, 1)
/-- the promise: a new list of two ints -/
def spN (K : PySem.W.Frag) (f : List Int → Int × Int) : Sp := fun vs H Q _ => ∃ (a : Addr) (ns : List Int), vs = [.ref a] ∧ SqL K H a (ns.map V.int) ∧ ns.length ≤ 63 ∧
  ∀ p H', H p = none → H' p = some (.lst [.int (f ns).1, .int (f ns).2]) → (∀ b o, H b = some o → H' b = some o) → Q (.ref p) H'
section
variable {X : Cx} {c : Cl} {st : Addr} {C C0 C1 C2 C3 : Cfg} {e a b e2 : Expr} {pos : Pos} {xs : List D} {tg iter : Expr} {body : List Stmt}
theorem es_forAt (Cs : Nat → Cfg) {σ : L2.St} {B H : Hp} {F : List Addr} (hc : X.calm = true) (hp : PassesOwn (model X.prog X.w) X.A X.env X.xe)
    (hi : ∀ R : It → Hp → Prop, (∀ J B' H' F', OK c st (Cs 0) B' H' F' σ → Ext F F' B H B' H' → Walk c J B' xs → R J H') → ∃ wi, PI X tg iter wi ∧ wi σ H R)
    (turn : ∀ i d, xs[i]? = some d → ∃ C' ts, Tg X c st tg (Cs i) d C' ts ∧ Ex X c st body C' (.nx (Cs (i + 1)))) (hs : ∀ x, foldedSetIterable iter X.env x = pure x) (E : Ends) (q : PostO c st (.nx (Cs xs.length)) F B H E) : WS X (.For tg iter body [] pos) E σ H :=
  ⟨_, ps_for hp hc (pWI tg iter) (pWG tg) (pWB body) hs, hi _ fun J B1 H1 F1 k1 x1 wk => by
    refine ⟨fun i m σ H => m = xs.length + 1 - i ∧ i ≤ xs.length ∧ ∃ B' F', OK c st (Cs i) B' H F' σ ∧ Ext F1 F' B1 H1 B' H, ⟨xs.length + 1, rfl, Nat.zero_le _, B1, F1, k1, Ext.refl⟩, ?_⟩
    rintro i m σ2 H2 ⟨rfl, hin, B2, F2, k2, x2⟩
    obtain ⟨wg, ws, wy⟩ := wk B2 H2 x2.b k2.sub
    by_cases hlt : i < xs.length
    · obtain ⟨d, hd⟩ : ∃ d, xs[i]? = some d := ⟨_, List.getElem?_eq_getElem (by omega)⟩
      obtain ⟨C', ts, ht, hb⟩ := turn i d hd
      refine .inr ⟨wg i (by omega), fun σ' H' => ∃ B' F', OK c st (Cs (i + 1)) B' H' F' σ' ∧ Ext F1 F' B1 H1 B' H', fun σ' H' z => ⟨xs.length + 1 - (i + 1), by omega, rfl, hlt, z⟩, fun x H' y => ?_⟩
      obtain ⟨B', s', x', r'⟩ := wy i d x H' hd y
      refine ht σ2 B' H' F2 x (k2.grow s' x') r' _ fun σ3 B3 H3 F3 k3 x3 _ => hb σ3 B3 H3 F3 k3 _ fun σ4 B4 H4 F4 k4 x4 => ⟨B4, F4, k4, ((x2.trans x'.up).trans x3).trans x4⟩
    · have e : i = xs.length := by omega
      subst e
      exact .inl ⟨ws _ (Nat.le_refl _), q _ B2 H2 F2 k2 (x1.trans x2)⟩⟩
end
abbrev DefS (W : Wd) (x : Str) (stm : Stmt) : Prop := ∃ f, (∃ fd, FunD W.K x x (defArgs stm) (defBody stm) (defScope stm) [] [] f fd) ∧ W.mg x = some (.ref f)
/-- the def that makes the state -/
def FnN (W : Wd) (k : Nat) (x : Str) (f : List Int → Int × Int) : Prop := ∃ (g : Addr) (fd : FuncData) (ps : List Str), W.mg x = some (.ref g) ∧ PySem.W.keepIn W.K (.ref g) = true ∧ Binds W.K fd ps [] ∧ FnOk W.P W.w W.K W.mg W.base CX0 k g fd ps (spN W.K f)
theorem cut63 {ns : List Int} (h : ns.length ≤ 63) : cutV (ns.map V.int) none (some 63) = ns.map V.int := by
  show ((ns.map V.int).drop _).take _ = _
  have e0 : HT.sIx (ns.map V.int).length 0 none = 0 := rfl
  have e1 : HT.sIx (ns.map V.int).length (ns.map V.int).length (some 63) = (ns.map V.int).length := by
    have := HT.sIx_nat (ns.map V.int).length (ns.map V.int).length 63
    rw [Nat.min_eq_right (by rw [List.length_map]; exact h)] at this
    exact this
  rw [e0, e1, List.drop_zero, Nat.sub_zero, List.take_length]
section
variable {W : Wd} (T : Fx W.K W.mg W.c)
include T
theorem fn_law_state {k} (h : DefW W "_law_state" (top 54)) : FnN W (k + 1) "_law_state" lsF := by
  obtain ⟨f, ⟨fd, F⟩, hm⟩ := h
  have hN : (["_law_script", "_law_seed", "_law_total", "_law_cell"] : List Str).Nodup := by decide +kernel
  have S : FnScope ["_law_script", "_law_seed", "_law_total", "_law_cell"] ["_law_script"] (defScope (top 54)) := ⟨rfl, rfl, rfl, hN, rfl, by decide +kernel, by decide +kernel⟩
  refine ⟨f, fd, ["_law_script"], hm, F.kp, F.bindsN fun _ _ _ _ _ _ us hl => match us, hl with | [_], _ => rfl, ?_⟩
  refine F.ok S (fun vs H Q E ⟨a, ns, e, _⟩ => by rw [e]; rfl) fun cdv A outer s H vs Q E hr ⟨a, ns, ev, hS, hl, q⟩ => ?_
  subst ev
  have key : WB (BX W ["_law_script", "_law_seed", "_law_total", "_law_cell"] "_law_state" (top 54) f cdv A outer s H E) (defBody (top 54)) { nx := fun _ H' => Q .non H', rt := Q } (L2.start ["_law_script", "_law_seed", "_law_total", "_law_cell"] [.ref a]) H := by
    have ok : OK W.c a ⟨none, [some .stt, none, none, none]⟩ (fun _ => none) H [] (L2.start ["_law_script", "_law_seed", "_law_total", "_law_cell"] [.ref a]) :=
      ⟨fun b u e => (by cases e), List.nodup_nil, fun b h => (by cases h), ⟨[], rfl, ⟨[], [], rfl, ⟨rfl, rfl⟩, OwnE.nones 3⟩⟩, fun _ _ h => (by cases h)⟩
    refine ⟨_, pss_cons (pWS _) (pWB _), ?_⟩
    refine (es_set (X := BX W ["_law_script", "_law_seed", "_law_total", "_law_cell"] "_law_state" (top 54) f cdv A outer s H E) 1 ev_int rfl hN) _ _ _ _ ok _ fun σ1 B1 H1 F1 k1 x1 => ?_
    refine ⟨_, pss_cons (pWS _) (pWB _), ?_⟩
    refine (es_set (X := BX W ["_law_script", "_law_seed", "_law_total", "_law_cell"] "_law_state" (top 54) f cdv A outer s H E) 2 ev_int rfl hN) _ _ _ _ k1 _ fun σ2 B2 H2 F2 k2 x2 => ?_
    have x12 := x1.trans x2
    have hS2 : SqL W.K H2 a (ns.map V.int) := by
      rcases hS with hS | hS
      · rcases hS with hS | ⟨o, hS⟩
        · exact .inl (.inl (x12.h _ _ (by simp) hS))
        · exact .inl (.inr ⟨o, x12.h _ _ (by simp) hS⟩)
      · exact .inr hS
    refine ⟨_, pss_cons (pWS _) (pWB _), ?_⟩
    refine es_forAt (X := BX W ["_law_script", "_law_seed", "_law_total", "_law_cell"] "_law_state" (top 54) f cdv A outer s H E) (c := W.c) (st := a) (xs := ns.map D.int) (fun i => ⟨none, [some .stt, sd (.int ((ns.take i).foldl (fun a n => (a.1 * 1000003 + iab n, (a.2 * 48271 + n) % 2147483647)) ((0 : Int), (1 : Int))).1), sd (.int ((ns.take i).foldl (fun a n => (a.1 * 1000003 + iab n, (a.2 * 48271 + n) % 2147483647)) ((0 : Int), (1 : Int))).2), none]⟩) rfl PassesOwn.never (σ := σ2) (B := B2) (H := H2) (F := F2) (fun R hR => ?_) (fun i d hd => ?_) (by intro _; rfl) _ fun σ3 B3 H3 F3 k3 x3 => ?_
    · refine ⟨_, pi_list (pe_slice sl_list (pe_var (i := 0) rfl (Or.inl rfl)) po_none (po_some pe_int)), .ref a, k2.stt 0 rfl, ?_⟩
      refine ⟨63, rfl, a, ns.map V.int, rfl, hS2, fun p hp => ?_⟩
      rw [cut63 hl]
      obtain ⟨s4, x4⟩ := ext_new (o := .lst (ns.map V.int)) k2.sub hp
      exact ⟨p, rfl, ⟨_, SqL.of upd_same⟩, hR _ _ _ F2 (k2.grow s4 x4) x4.up (walk_list upd_same (RepL.ofInts ns))⟩
    · rw [List.getElem?_map] at hd
      cases hn : ns[i]? with
      | none => rw [hn] at hd; cases hd
      | some v =>
        rw [hn] at hd
        cases hd
        rw [foldl_take hn]
        generalize (ns.take i).foldl (fun a n => (a.1 * 1000003 + iab n, (a.2 * 48271 + n) % 2147483647)) ((0 : Int), (1 : Int)) = p
        exact turnI (tg_name 3 hN) (ex_cons (es_set 1 (ev_add (ev_mul64 (.inr (by decide)) (ev_name 1 rfl) ev_int) (ev_abs T.abs (ev_name 3 rfl))) rfl hN) <| ex_one (es_set 2 (ev_mod (by decide) (ev_int1 T.int (ev_add (ev_mul64 (.inr (by decide)) (ev_name 2 rfl) ev_int) (ev_name 3 rfl))) ev_int) rfl hN)) rfl ⟨rfl, rfl, rfl, trivial⟩
    · rw [List.length_map, List.take_length] at k3
      refine (ex_one (es_ret (ev_lst (ms := [.im (.int (lsF ns).1), .im (.int (lsF ns).2)]) (eva_cons (ev_name 1 rfl) (eva_cons (ev_name 2 rfl) eva_nil)) (by simp)))) _ _ _ _ k3 _ fun v B4 H4 Fm k4 t4 n4 o4 x4 => ?_
      obtain ⟨p, acc, F', e1, e2, hp, u, r, G1, G2, e3, e4, h1, u2, r2, G3, G4, e5, e6, h2, e7, e8⟩ := t4
      subst e1
      rw [e3, e5, e7, show u = V.int _ from h1.1, show u2 = V.int _ from h2.1] at hp
      have xx := (x12.trans x3).trans x4
      have pn : H p = none := by
        rcases xx.n p (by rw [e2]; simp [stF]) with z | z
        · cases z
        · exact z
      exact q p H4 pn hp fun b o h => xx.h b o (by simp) h
  obtain ⟨t, h1, h2⟩ := key
  exact ⟨t, h1.nox, h2⟩
end
end K48

namespace K48
open PySem PySem.Spec PyProof.Rows L2

abbrev lawN : List Str := ["_law_script", "_law_state_here", "_law_kind", "_law_rows_here", "_law_factor_here", "_law_n", "_law_table_here", "_law_metric", "_law_paper", "_law_pairs", "_law_flat", "_law_low_here", "_law_high", "_law_tries", "_law_halved", "_law_turn", "_law_data", "_law_step", "_law_taken", "_law_p", "_law_split", "_law_w", "_law_row"]
theorem lawN_nd : lawN.Nodup := by decide +kernel
/-- the tries by bending -/
def benX (n : Nat) (m : Nat) (paper : D) (S : Int × Int) : D × (Int × Int) := lp (fun _ (a : D × (Int × Int)) => benR 4 n a.1 a.2) m (paper, S)
def benT (n : Nat) (paper : D) (S : Int × Int) (l : List D) : (Int × Int) × List D := lp (fun _ (a : (Int × Int) × List D) => ((benX n (1 + tkV a.1 2) paper (tkS a.1 2)).2, a.2 ++ [(benX n (1 + tkV a.1 2) paper (tkS a.1 2)).1])) 3 (S, l)
/-- what each try must be -/
structure TryOK (n : Nat) (g : Nat → Nat → Rat) (hd : Str) (d : D) : Prop where
  pl : d.pl = true
  bd : BdD n g d
  sh : shD d
  ex : holdsD n g d = true → ∃ b, d = .tup [.str hd, b]
/-- the paper and its bends -/
structure BendOK (n : Nat) (paper : D) : Prop where
  ok : ∀ S m, m ≤ 2 → (benX n m paper S).1.ok Sm 1000
section
variable {W : Wd} (T : Fx W.K W.mg W.c) (Y : Fy W.K W.c)
include T Y
/-- the tries' tail: bends, then every try -/
theorem law_tail {k} {f : Addr} {cdv : Value} {Ar : Around} {outer : List Env} {sh : Shared} {hp0 : Hp} {E : XK} {st : Addr} (hr : Room (k + 1) (BX W lawN "law" (top 85) f cdv Ar outer sh hp0 E).A) (GT : W.fs (k + 1) "_law_take" RTake) (GB : W.fs (k + 1) "_law_bend" (RBen 4)) (GC : W.fp (k + 1) "takes_cuts" RTakes) (GH : W.fp (k + 1) "_law_cuts_hold" RHold)
    {kind n p q : Nat} {d : Nat → Nat → Int} {g : Nat → Nat → Rat} {hd : Str} {pb : D} {paper : D} (hn : 1 ≤ n ∧ n ≤ 5) (hpa : paper = .tup [.str hd, pb]) (hB : BendOK n paper) (S : Int × Int) (l : List D) (hl : l.length ≤ 900) (hT : ∀ x ∈ (benT n paper S l).2, TryOK n g hd x) :
    Ex (BX W lawN "law" (top 85) f cdv Ar outer sh hp0 E) W.c st ((defBody (top 85)).drop 21) ⟨some S, [none, some .stt, sd (.int (kind : Nat)), sd (rT n d), sd (tI [(p : Int), (q : Int)]), sd (.int (n : Nat)), sd (lT n g), sd (.met n (qT n g)), sd paper, sd (.lst ((prI n).map prD)), none, none, none, so l, none, none, none, none, none, none, none, none, none]⟩ (.rt (.im (.bl true)) (some (benT n paper S l).1)) := by
  have hN := lawN_nd
  refine ex_cons (es_loop (n := 3) (g := fun i => .int (i : Int)) (G := fun a : (Int × Int) × List D => ⟨some a.1, [none, some .stt, sd (.int (kind : Nat)), sd (rT n d), sd (tI [(p : Int), (q : Int)]), sd (.int (n : Nat)), sd (lT n g), sd (.met n (qT n g)), sd paper, sd (.lst ((prI n).map prD)), none, none, none, so a.2, none, none, none, none, none, none, none, none, none]⟩) (f := fun _ (a : (Int × Int) × List D) => ((benX n (1 + tkV a.1 2) paper (tkS a.1 2)).2, a.2 ++ [(benX n (1 + tkV a.1 2) paper (tkS a.1 2)).1])) (P := fun i a => a.2.length ≤ 900 + i) (a0 := (S, l)) (by omega) PassesOwn.never (it_rg (n := 3) T ev_int (by omega)) fun i a hi ha => ⟨turnI (tg_name 15 hN) (ex_cons (es_set 16 (ev_name 8 rfl) rfl hN) <| ex_cons (es_loop (n := 1 + tkV a.1 2) (g := fun i => .int (i : Int)) (G := fun b : D × (Int × Int) => ⟨some b.2, [none, some .stt, sd (.int (kind : Nat)), sd (rT n d), sd (tI [(p : Int), (q : Int)]), sd (.int (n : Nat)), sd (lT n g), sd (.met n (qT n g)), sd paper, sd (.lst ((prI n).map prD)), none, none, none, so a.2, none, sd (.int i), sd b.1, none, none, none, none, none, none]⟩) (f := fun _ (b : D × (Int × Int)) => benR 4 n b.1 b.2) (P := fun j b => b = benX n j paper (tkS a.1 2)) (a0 := (paper, tkS a.1 2)) rfl PassesOwn.never (it_rg T (ev_to (ev_add ev_int (ev_callS (ds := [_]) (s := a.1) 1 GT hr rfl (eva_cons ev_int eva_nil) rfl ⟨2, rfl, by omega, rfl, rfl⟩)) (show _ = D.int ((1 + tkV a.1 2 : Nat) : Int) by simp)) (by have := tkV_lt (s := a.1) (m := 2) (by omega); omega)) fun j b hj hb => ⟨turnI (tg_name 17 hN) (ex_one (es_set 16 (ev_callS (ds := [_, _, _]) (s := b.2) 1 GB hr rfl (eva_cons (ev_name 5 rfl) (eva_cons (ev_name 16 rfl) (eva_cons ev_int eva_nil))) rfl ⟨n, b.1, rfl, by omega, by rw [hb]; exact hB.ok _ _ (by have := tkV_lt (s := a.1) (m := 2) (by omega); omega), rfl, rfl⟩) rfl hN)) rfl ⟨rfl, rfl, rfl, rfl, rfl, rfl, rfl, rfl, rfl, rfl, rfl, rfl, trivial⟩, by rw [hb]; rfl⟩) <| ex_one (es_expr (ev_appD 13 (ev_name 16 rfl) ⟨_, rfl⟩ rfl (by omega)))) rfl ⟨rfl, rfl, rfl, rfl, rfl, rfl, rfl, rfl, rfl, rfl, trivial⟩, by show (a.2 ++ [_]).length ≤ _; rw [List.length_append, List.length_singleton]; omega⟩) ?_
  show Ex _ _ _ _ ⟨some (benT n paper S l).1, [none, some .stt, sd (.int (kind : Nat)), sd (rT n d), sd (tI [(p : Int), (q : Int)]), sd (.int (n : Nat)), sd (lT n g), sd (.met n (qT n g)), sd paper, sd (.lst ((prI n).map prD)), none, none, none, so (benT n paper S l).2, none, none, none, none, none, none, none, none, none]⟩ _
  generalize (benT n paper S l).1 = s at *
  generalize (benT n paper S l).2 = tr at hT
  refine ex_frz (m := .ls (tr.map Mu.im)) 13 rfl ?_
  refine ex_cons (C1 := ⟨some s, [none, some .stt, sd (.int (kind : Nat)), sd (rT n d), sd (tI [(p : Int), (q : Int)]), sd (.int (n : Nat)), sd (lT n g), sd (.met n (qT n g)), sd paper, sd (.lst ((prI n).map prD)), none, none, none, sd (.lst (Mu.toL (tr.map Mu.im))), none, none, none, none, none, none, none, none, none]⟩) ?_ (ex_one (es_retS ev_bl))
  refine es_fold (bs := tr) (inj := id) (G := fun _ : Unit => ⟨some s, [none, some .stt, sd (.int (kind : Nat)), sd (rT n d), sd (tI [(p : Int), (q : Int)]), sd (.int (n : Nat)), sd (lT n g), sd (.met n (qT n g)), sd paper, sd (.lst ((prI n).map prD)), none, none, none, sd (.lst (Mu.toL (tr.map Mu.im))), none, none, none, none, none, none, none, none, none]⟩) (f := fun _ _ => ()) (P := fun _ _ => True) (a0 := ()) trivial PassesOwn.never (it_list (ev_to (ev_name 13 rfl) (show D.lst (Mu.toL (tr.map Mu.im)) = D.lst (tr.map id) by rw [List.map_id, toL_map]))) fun i x _ hx _ => ⟨⟨_, _, tg_name 16 hN, ?_⟩, trivial⟩
  have hT' := hT x (List.mem_of_getElem? hx)
  have ex' := hT'.ex
  generalize hb : holdsD n g x = b at ex'
  refine ex_cons (es_set 18 (ev_to (ev_call (ds := [_, _]) GC hr ⟨n, g, x, rfl, by omega, hT'.pl, hT'.bd, rfl⟩ (eva_cons (ev_name 7 rfl) (eva_cons (ev_name 16 rfl) eva_nil))) (congrArg D.bl hb)) rfl hN) ?_
  cases b with
  | false =>
    refine ex_skip (EvW.t (evw_orF (EvW.t (evw_andT (evt_to (evt_notB (s := false) (ev_name 18 rfl)) rfl) (evw_and1 (evt_to (evt_notB (s := false) (ev_name 18 rfl)) rfl)))) (evw_or1 (evt_to (evt_ne (d1 := .bl false) (d2 := .bl false) rfl (ev_name 18 rfl) (ev_to (ev_call (ds := [_, _]) GH hr ⟨n, g, x, rfl, by omega, hT'.pl, hT'.bd, hT'.sh, rfl⟩ (eva_cons (ev_name 6 rfl) (eva_cons (ev_name 16 rfl) eva_nil))) (congrArg D.bl hb))) rfl)))) <| ex_skip (EvW.t (evw_andF (evt_val (t := false) (ev_name 18 rfl)))) (ex_to ex_nil rfl ⟨rfl, rfl, rfl, rfl, rfl, rfl, rfl, rfl, rfl, rfl, trivial⟩)
  | true =>
    obtain ⟨b', e⟩ := ex' rfl
    subst e
    subst hpa
    refine ex_skip (EvW.t (evw_orF (EvW.t (evw_andF (evt_to (evt_notB (s := true) (ev_name 18 rfl)) rfl))) (evw_or1 (evt_to (evt_ne (d1 := .bl true) (d2 := .bl true) rfl (ev_name 18 rfl) (ev_to (ev_call (ds := [_, _]) GH hr ⟨n, g, _, rfl, by omega, hT'.pl, hT'.bd, hT'.sh, rfl⟩ (eva_cons (ev_name 6 rfl) (eva_cons (ev_name 16 rfl) eva_nil))) (congrArg D.bl hb))) rfl)))) <| ex_skip (EvW.t (evw_andT (evt_val (t := true) (ev_name 18 rfl)) (evw_and1 (evt_to (evt_ne (d1 := .str hd) (d2 := .str hd) rfl (ev_ix (d1 := .str hd) (i := 0) rfl (ev_name 16 rfl) ev_int) (ev_ix (d1 := .str hd) (i := 0) rfl (ev_name 8 rfl) ev_int)) (by simp))))) (ex_to ex_nil rfl ⟨rfl, rfl, rfl, rfl, rfl, rfl, rfl, rfl, rfl, rfl, trivial⟩)
end
end K48

namespace K48
open PySem PySem.Spec PyProof.Rows L2

def cD (b : D) : D := .tup [.str "cuts", b]
def papD : Sum (List (List Int × Rat)) (List Rat) → D
  | .inl ps => cD (.tup (ps.map pwD))
  | .inr xs => fnl (xs.map D.rat)
def papH : Sum (List (List Int × Rat)) (List Rat) → Str
  | .inl _ => "cuts"
  | .inr _ => "functional"
def cstD (n : Nat) (z : Int) : D := .tup (tab (npr n) fun _ => .rat (Rat.divInt z 1))
def tr2 (n : Nat) : List D := [cD (.tup []), .tup [.str "functional", cstD n 0], .tup [.str "functional", cstD n (-1)], .tup [.str "functional", cstD n 1], .lst [.str "cuts", .tup []], .non, .tup [.str "cuts"], .tup [.str "functional"]]
def tr3 (n : Nat) : List D := (lawS n).map fun s => cD (.tup [pwD (s, Rat.divInt 1 1)])
def hvP (ps : List (List Int × Rat)) : List (List Int × Rat) := ps.map fun p => (p.1, Rat.divInt p.2.num (2 * (p.2.den : Int)))
def mvs (n : Nat) (ps : List (List Int × Rat)) : List D := if n = 4 then mvL.map fun t => .tup (mvR t ps) else []
def tr4 (n : Nat) : Sum (List (List Int × Rat)) (List Rat) → List D
  | .inl ps => [cD (.tup (ps.map pwD).reverse), cD (.tup (ps.map pwD ++ ps.map pwD)), cD (.tup ((ps.map pwD).drop 1))] ++ ((mvs n ps).map cD ++ [cD (.tup ((hvP ps).map pwD ++ (hvP ps).map pwD))])
  | .inr _ => []
/-- the tries ahead of the bends -/
def trA (n : Nat) (S : Int × Int) (P : Sum (List (List Int × Rat)) (List Rat)) : List D := (((dpE n S).2 ++ tr2 n) ++ tr3 n) ++ tr4 n P
structure PapOK (P : Sum (List (List Int × Rat)) (List Rat)) : Prop where
  sz : ∀ ps, P = .inl ps → ps.length ≤ 200
  mv : ∀ ps, P = .inl ps → ∀ t ∈ mvL, ∀ s i, Sm (mvW t s (ps.take i))
  sm : ∀ ps, P = .inl ps → ∀ p ∈ ps, Sm p.2
theorem hvB {q : Rat} (h : Sm q) : Bd (2 * (q.den : Int)) := by
  have h2 := h.2
  have h3 : 2 * 2 ^ eM ≤ 2 ^ eN := by
    have : 2 * 2 ^ eM = 2 ^ (eM + 1) := by rw [Nat.pow_succ, Nat.mul_comm]
    rw [this]
    exact Nat.pow_le_pow_right (by decide) (by decide)
  show (2 * (q.den : Int)).natAbs < 2 ^ eN
  rw [Int.natAbs_mul]
  have e1 : (2 : Int).natAbs = 2 := rfl
  have e2 : (q.den : Int).natAbs = q.den := Int.natAbs_natCast _
  rw [e1, e2]
  generalize 2 ^ eM = a at *
  generalize 2 ^ eN = b at *
  omega
theorem cut_drop1 {l : List D} : cutD l (some 1) none = l.drop 1 := by
  unfold cutD
  have e0 : HT.sIx l.length 0 (some 1) = min 1 l.length := HT.sIx_nat l.length 0 1
  have e1 : HT.sIx l.length l.length none = l.length := rfl
  rw [e0, e1]
  cases l with
  | nil => rfl
  | cons a l =>
    have : min 1 (a :: l).length = 1 := by rw [List.length_cons]; omega
    rw [this, List.length_cons, Nat.add_sub_cancel, List.drop_one, List.tail_cons, List.take_length]
section
variable {X : Cx} {c : Cl} {st : Addr} {C : Cfg} {ss : List Stmt} {o : Out}
theorem ex_frzL (i : Nat) (l : List D) (hs : C.ρ[i]? = some (so l)) (h : Ex X c st ss ⟨C.S, C.ρ.set i (sd (.lst l))⟩ o) : Ex X c st ss C o :=
  ex_frz (m := .ls (l.map Mu.im)) i hs (by rw [show (Mu.ls (l.map Mu.im)).toD = D.lst l from congrArg D.lst (toL_map l)]; exact h)
end
section
variable {W : Wd} (T : Fx W.K W.mg W.c) (Y : Fy W.K W.c)
include T Y

theorem law_mid {k} {f : Addr} {cdv : Value} {Ar : Around} {outer : List Env} {sh : Shared} {hp0 : Hp} {E : XK} {st : Addr} (hr : Room (k + 1) (BX W lawN "law" (top 85) f cdv Ar outer sh hp0 E).A) (GT : W.fs (k + 1) "_law_take" RTake) (GB : W.fs (k + 1) "_law_bend" (RBen 4)) (GC : W.fp (k + 1) "takes_cuts" RTakes) (GH : W.fp (k + 1) "_law_cuts_hold" RHold)
    (GK1 : W.fk k "Ratio" W.c.R [1] RInit) (GK2 : W.fk k "Ratio" W.c.R [] RInit) (G1 : W.fp (k + 1) "_law_two" (fun ds r => ∃ n : Nat, ds = [.int n] ∧ n ≤ 8 ∧ r = .lst ((prI n).map prD))) (GS : W.fp (k + 1) "_law_splits" RLSpl) (GD : W.fs (k + 1) "_law_drawn_papers" (fun S ds r S' => ∃ n : Nat, ds = [.int n] ∧ (1 ≤ n ∧ n ≤ 5) ∧ r = .lst (dpE n S).2 ∧ S' = (dpE n S).1)) (GM : W.fp (k + 1) "_law_moved_weights" RMov)
    {kind n p q : Nat} {d : Nat → Nat → Int} {g : Nat → Nat → Rat} {P : Sum (List (List Int × Rat)) (List Rat)} (hn : 1 ≤ n ∧ n ≤ 5) (hP : PapOK P) (hB : BendOK n (papD P)) (S : Int × Int) (hl : (dpE n S).2.length ≤ 100) (hT : ∀ x ∈ (benT n (papD P) (dpE n S).1 (trA n S P)).2, TryOK n g (papH P) x) :
    Ex (BX W lawN "law" (top 85) f cdv Ar outer sh hp0 E) W.c st ((defBody (top 85)).drop 13) ⟨some S, [none, some .stt, sd (.int (kind : Nat)), sd (rT n d), sd (tI [(p : Int), (q : Int)]), sd (.int (n : Nat)), sd (lT n g), sd (.met n (qT n g)), sd (papD P), none, none, none, none, none, none, none, none, none, none, none, none, none, none]⟩ (.rt (.im (.bl true)) (some (benT n (papD P) (dpE n S).1 (trA n S P)).1)) := by
  have hN := lawN_nd
  have hm64 : npr n ≤ 64 := npr64 (by omega)
  have hL : (lawS n).length ≤ 32 := lawS_len (by omega)
  have itp : ∀ {X : Cx} {st : Addr} {C C1 : Cfg} {tg iter : Expr}, Iter X W.c st tg iter C ((prI n).map prD) C1 → Iter X W.c st tg iter C (tab (npr n) fun i => prD (pr n i)) C1 := fun h => iter_to h prs_tab
  have h2 : (tr2 n).length = 8 := rfl
  have h3 : (tr3 n).length ≤ 32 := by unfold tr3; rw [List.length_map]; exact hL
  refine ex_cons (es_set 9 (ev_call (ds := [_]) G1 hr ⟨n, rfl, by omega, rfl⟩ (eva_cons (ev_name 5 rfl) eva_nil)) rfl hN) <|
    ex_cons (es_set 10 (ev_tupleOf T.tuple (.inl rfl) (Ev.frzL (EvL.ev (lc_map (n := npr n) (g := fun i => prD (pr n i)) [("_law_p", 19)] (fun _ => .rat (Rat.divInt 0 1)) hN (itp (it_list (ev_name 9 rfl))) (by omega) fun i hi => turn fun s0 H0 D0 cl fp => ⟨tg_name 19 hN, ev_make (ds := [_]) GK1 hr ⟨_, 1, rfl, by decide, Bd.sm (by decide), Bd.sm (by decide), rfl⟩ (eva_cons ev_int eva_nil)⟩)))) rfl hN) <| ex_cons (es_set 11 (ev_tupleOf T.tuple (.inl rfl) (Ev.frzL (EvL.ev (lc_map (n := npr n) (g := fun i => prD (pr n i)) [("_law_p", 19)] (fun _ => .rat (Rat.divInt (-1) 1)) hN (itp (it_list (ev_name 9 rfl))) (by omega) fun i hi => turn fun s0 H0 D0 cl fp => ⟨tg_name 19 hN, ev_make (ds := [_]) GK1 hr ⟨_, 1, rfl, by decide, Bd.sm (by decide), Bd.sm (by decide), rfl⟩ (eva_cons (ev_neg ev_int) eva_nil)⟩)))) rfl hN) <| ex_cons (es_set 12 (ev_tupleOf T.tuple (.inl rfl) (Ev.frzL (EvL.ev (lc_map (n := npr n) (g := fun i => prD (pr n i)) [("_law_p", 19)] (fun _ => .rat (Rat.divInt 1 1)) hN (itp (it_list (ev_name 9 rfl))) (by omega) fun i hi => turn fun s0 H0 D0 cl fp => ⟨tg_name 19 hN, ev_make (ds := [_]) GK1 hr ⟨_, 1, rfl, by decide, Bd.sm (by decide), Bd.sm (by decide), rfl⟩ (eva_cons ev_int eva_nil)⟩)))) rfl hN) <|
    ex_cons (es_set 13 (ev_callS (ds := [_]) (s := S) 1 GD hr rfl (eva_cons (ev_name 5 rfl) eva_nil) rfl ⟨n, rfl, hn, rfl, rfl⟩) rfl hN) ?_
  show Ex _ _ _ _ ⟨some (dpE n S).1, [none, some .stt, sd (.int (kind : Nat)), sd (rT n d), sd (tI [(p : Int), (q : Int)]), sd (.int (n : Nat)), sd (lT n g), sd (.met n (qT n g)), sd (papD P), sd (.lst ((prI n).map prD)), sd (cstD n 0), sd (cstD n (-1)), sd (cstD n 1), sd (.lst (dpE n S).2), none, none, none, none, none, none, none, none, none]⟩ _
  unfold trA at *
  generalize (dpE n S).1 = s at *
  generalize (dpE n S).2 = l0 at *
  refine ex_cons (es_set 13 (ev_catL (by rw [h2]; omega) (ev_name 13 rfl) (Ev.frzL (l := tr2 n) (ev_lst (ms := (tr2 n).map Mu.im) (eva_cons (ev_tup (ds := [_, _]) (eva_cons ev_str (eva_cons (ev_tup (ds := []) eva_nil (by simp)) eva_nil)) (by simp)) (eva_cons (ev_tup (ds := [_, _]) (eva_cons ev_str (eva_cons (ev_name 10 rfl) eva_nil)) (by simp)) (eva_cons (ev_tup (ds := [_, _]) (eva_cons ev_str (eva_cons (ev_name 11 rfl) eva_nil)) (by simp)) (eva_cons (ev_tup (ds := [_, _]) (eva_cons ev_str (eva_cons (ev_name 12 rfl) eva_nil)) (by simp)) (eva_cons (Ev.frzL (l := [.str "cuts", .tup []]) (ev_lst (ms := [.im (.str "cuts"), .im (.tup [])]) (eva_cons ev_str (eva_cons (ev_tup (ds := []) eva_nil (by simp)) eva_nil)) (by simp))) (eva_cons ev_non (eva_cons (ev_tup (ds := [_]) (eva_cons ev_str eva_nil) (by simp)) (eva_cons (ev_tup (ds := [_]) (eva_cons ev_str eva_nil) (by simp)) eva_nil)))))))) (by rw [List.length_map, h2]; omega)))) rfl hN) <| ex_frzL 13 (l0 ++ tr2 n) rfl ?_
  refine ex_cons (es_set 13 (ev_catL (l' := tr3 n) (by rw [List.length_append, h2]; omega) (ev_name 13 rfl) (Ev.frzL (EvL.ev (lcl_map (bs := lawS n) (inj := tI) [("_law_split", 20)] (fun s => cD (.tup [pwD (s, Rat.divInt 1 1)])) hN (it_list (ev_call (ds := [_]) GS hr ⟨n, rfl, by omega, rfl⟩ (eva_cons (ev_name 5 rfl) eva_nil))) (by omega) fun b hb => turn fun s0 H0 D0 cl fp => ⟨tg_name 20 hN, (ev_tup (ds := [_, _]) (eva_cons ev_str (eva_cons (ev_tup (ds := [_]) (eva_cons (ev_tup (ds := [_, _]) (eva_cons (ev_name 20 rfl) (eva_cons (ev_make (ds := [_]) GK1 hr ⟨_, 1, rfl, by decide, Bd.sm (by decide), Bd.sm (by decide), rfl⟩ (eva_cons ev_int eva_nil)) eva_nil)) (by simp)) eva_nil) (by simp)) eva_nil)) (by simp))⟩)))) rfl hN) ?_
  cases P with
  | inr xs =>
    refine ex_cons (es_if (t := false) (evt_to (evt_eq rfl (ev_ix (d1 := .str "functional") (i := 0) rfl (ev_name 8 rfl) ev_int) ev_str) rfl) (fun h => nomatch h) fun _ => ex_nil) ?_
    refine ex_weak (C1 := ⟨some s, [none, some .stt, sd (.int (kind : Nat)), sd (rT n d), sd (tI [(p : Int), (q : Int)]), sd (.int (n : Nat)), sd (lT n g), sd (.met n (qT n g)), sd (papD (.inr xs)), sd (.lst ((prI n).map prD)), none, none, none, so ((l0 ++ tr2 n) ++ tr3 n), none, none, none, none, none, none, none, none, none]⟩) ⟨rfl, rfl, rfl, rfl, rfl, rfl, rfl, rfl, rfl, rfl, trivial⟩ rfl ?_
    have e : tr4 n (.inr xs) = [] := rfl
    rw [e, List.append_nil] at hT ⊢
    exact law_tail T Y hr GT GB GC GH hn rfl hB s _ (by rw [List.length_append, List.length_append, h2]; omega) hT
  | inl ps =>
    have hps := hP.sz ps rfl
    have hmv := hP.mv ps rfl
    have hsm := hP.sm ps rfl
    have hmL : (mvs n ps).length ≤ 4 := by
      unfold mvs; split
      · rw [List.length_map]; decide
      · exact Nat.zero_le _
    have hpl : (ps.map pwD).length ≤ 200 := by rw [List.length_map]; exact hps
    have hhl : ((hvP ps).map pwD).length ≤ 200 := by rw [List.length_map]; unfold hvP; rw [List.length_map]; exact hps
    have eP : papD (.inl ps) = .tup [.str "cuts", .tup (ps.map pwD)] := rfl
    refine ex_cons (C1 := ⟨some s, [none, some .stt, sd (.int (kind : Nat)), sd (rT n d), sd (tI [(p : Int), (q : Int)]), sd (.int (n : Nat)), sd (lT n g), sd (.met n (qT n g)), sd (papD (.inl ps)), sd (.lst ((prI n).map prD)), none, none, none, so (((l0 ++ tr2 n) ++ tr3 n) ++ tr4 n (.inl ps)), none, none, none, none, none, none, none, none, none]⟩) (es_if (t := true) (evt_to (evt_eq rfl (ev_ix (d1 := .str "cuts") (i := 0) rfl (ev_name 8 rfl) ev_int) ev_str) rfl) (fun _ => ?_) fun h => nomatch h) ?_
    · refine ex_frzL 13 ((l0 ++ tr2 n) ++ tr3 n) rfl ?_
      refine ex_cons (es_set 13 (ev_catL (l' := [cD (.tup (ps.map pwD).reverse), cD (.tup (ps.map pwD ++ ps.map pwD)), cD (.tup ((ps.map pwD).drop 1))]) (by rw [List.length_append, List.length_append, h2]; simp only [List.length_cons, List.length_nil]; omega) (ev_name 13 rfl) (Ev.frzL (ev_lst (ms := [cD (.tup (ps.map pwD).reverse), cD (.tup (ps.map pwD ++ ps.map pwD)), cD (.tup ((ps.map pwD).drop 1))].map Mu.im) (eva_cons (ev_tup (ds := [_, _]) (eva_cons ev_str (eva_cons (ev_revT (ev_ix (d1 := .tup (ps.map pwD)) (i := 1) rfl (ev_name 8 rfl) ev_int)) eva_nil)) (by simp)) (eva_cons (ev_tup (ds := [_, _]) (eva_cons ev_str (eva_cons (ev_catT (by omega) (ev_ix (d1 := .tup (ps.map pwD)) (i := 1) rfl (ev_name 8 rfl) ev_int) (ev_ix (d1 := .tup (ps.map pwD)) (i := 1) rfl (ev_name 8 rfl) ev_int)) eva_nil)) (by simp)) (eva_cons (ev_tup (ds := [_, _]) (eva_cons ev_str (eva_cons (ev_to (ev_slT (ev_ix (d1 := .tup (ps.map pwD)) (i := 1) rfl (ev_name 8 rfl) ev_int) (evo_some ev_int) evo_none) (congrArg D.tup cut_drop1)) eva_nil)) (by simp)) eva_nil))) (by simp)))) rfl hN) ?_
      refine ex_cons (es_set 14 (ev_tupleOf (l := (hvP ps).map pwD) T.tuple (.inl rfl) (ev_to (Ev.frzL (EvL.ev (lcl_map (bs := ps) (inj := pwD) [("_law_split", 20), ("_law_w", 21)] (fun p => pwD (p.1, Rat.divInt p.2.num (2 * (p.2.den : Int)))) hN (it_tup (ev_ix (d1 := .tup (ps.map pwD)) (i := 1) rfl (ev_name 8 rfl) ev_int)) (by omega) fun p hp => turn fun s0 H0 D0 cl fp => ⟨tg_tup (tgs_cons (tg_name 20 hN) (tgs_cons (tg_name 21 hN) tgs_nil)), (ev_tup (ds := [_, _]) (eva_cons (ev_name 20 rfl) (eva_cons (ev_make (ds := [_, _]) GK2 hr ⟨_, _, rfl, by have := p.2.den_pos; omega, (hsm p hp).n, hvB (hsm p hp), rfl⟩ (eva_cons (ev_num T (ev_name 21 rfl)) (eva_cons (ev_mul (Bd.mul (Bd.sm (by decide)) (hsm p hp).d) ev_int (ev_den T (ev_name 21 rfl))) eva_nil))) eva_nil)) (by simp))⟩))) (show D.lst (ps.map fun p => pwD (p.1, Rat.divInt p.2.num (2 * (p.2.den : Int)))) = D.lst ((hvP ps).map pwD) by unfold hvP; rw [List.map_map]; rfl))) rfl hN) ?_
      refine ex_frzL 13 (((l0 ++ tr2 n) ++ tr3 n) ++ [cD (.tup (ps.map pwD).reverse), cD (.tup (ps.map pwD ++ ps.map pwD)), cD (.tup ((ps.map pwD).drop 1))]) rfl ?_
      refine ex_cons (es_set 13 (ev_catL (l' := (mvs n ps).map cD) (by rw [List.length_append, List.length_append, List.length_append, List.length_map, h2]; simp only [List.length_cons, List.length_nil]; omega) (ev_name 13 rfl) (Ev.frzL (EvL.ev (lcl_map (bs := mvs n ps) (inj := id) [("_law_row", 22)] cD hN (it_list (ev_to (ev_call (ds := [_, _]) GM hr ⟨n, ps, rfl, hmv, hsm, rfl⟩ (eva_cons (ev_name 5 rfl) (eva_cons (ev_ix (d1 := .tup (ps.map pwD)) (i := 1) rfl (ev_name 8 rfl) ev_int) eva_nil))) (by rw [List.map_id]; unfold mvs; split <;> rfl))) (by omega) fun b hb => turn fun s0 H0 D0 cl fp => ⟨tg_name 22 hN, (ev_tup (ds := [_, _]) (eva_cons ev_str (eva_cons (ev_name 22 rfl) eva_nil)) (by simp))⟩)))) rfl hN) ?_
      refine ex_to (ex_one (es_expr (ev_appD (d := cD (.tup ((hvP ps).map pwD ++ (hvP ps).map pwD))) 13 (ev_tup (ds := [_, _]) (eva_cons ev_str (eva_cons (ev_catT (by omega) (ev_name 14 rfl) (ev_name 14 rfl)) eva_nil)) (by simp)) ⟨_, rfl⟩ rfl (by rw [List.length_append, List.length_append, List.length_append, List.length_append, List.length_map, h2]; simp only [List.length_cons, List.length_nil]; omega)))) rfl ⟨rfl, rfl, rfl, rfl, rfl, rfl, rfl, rfl, rfl, ?_, trivial⟩
      unfold tr4
      simp only [List.append_assoc, List.cons_append, List.nil_append]
    · exact law_tail T Y hr GT GB GC GH hn rfl hB s _ (by unfold tr4; simp only [List.length_append, List.length_map, List.length_cons, List.length_nil]; omega) hT
end
end K48

namespace K48
open PySem PySem.Spec PyProof.Rows L2

abbrev Fam := Nat × (Nat → Nat → Int) × (Int × Int)
def fam0 (kd : Nat) (S : Int × Int) : Fam := (rowN (if 2 < kd then 5 else 4) S, (rowR (if 2 < kd then 5 else 4) S).2, (rowR (if 2 < kd then 5 else 4) S).1)
def fam1 (kd : Nat) (a : Fam) : Fam := if kd = 0 then (5, telD a.2.2, (ordL 5 a.2.2).1) else a
def fam2 (kd : Nat) (a : Fam) : Fam := if kd = 1 then (csN a.2.2, csD (csN a.2.2) (tkS a.2.2 4), csS (tkS a.2.2 4) (LN (csN a.2.2))) else a
def fam3 (kd : Nat) (a : Fam) : Fam := if kd = 2 then (5, treD 5 a.2.2, treE 5 a.2.2) else a
/-- the rows that the law draws -/
def famL (kd : Nat) (S : Int × Int) : Fam := fam3 kd (fam2 kd (fam1 kd (fam0 kd S)))
/-- what the mathematics must show of drawn rows -/
structure CaseOK (kd n : Nat) (d : Nat → Nat → Int) (p q : Nat) (S : Int × Int) : Prop where
  n5 : 1 ≤ n ∧ n ≤ 5
  pq : 0 < q ∧ q < 100 ∧ p < 100
  sm : ∀ x y, x < n → y < n → (d x y).natAbs < 2 ^ 32
  met : MetQ n fun x y => fq p q (d x y)
  pap : ∃ k P, AskX n (fun x y => fq p q (d x y)) k ∧ paperX n (fun x y => fq p q (d x y)) (sX n (fun x y => fq p q (d x y)) k) = papD P ∧ PapOK P ∧ TryOK n (fun x y => fq p q (d x y)) (papH P) (papD P) ∧ holdsD n (fun x y => fq p q (d x y)) (papD P) = true ∧ BendOK n (papD P) ∧
    (kd = 0 → papH P = "functional") ∧ ((n < 5 ∨ kd = 1 ∨ kd = 2) → papH P = "cuts") ∧ ∀ x ∈ (benT n (papD P) (dpE n S).1 (trA n S P)).2, TryOK n (fun x y => fq p q (d x y)) (papH P) x
  few : (dpE n S).2.length ≤ 100
/-- the whole law's mathematics, at a state -/
def LawOK (S0 : Int × Int) : Prop := CaseOK (tkV S0 5) (famL (tkV S0 5) (tkS S0 5)).1 (famL (tkV S0 5) (tkS S0 5)).2.1 (facN (famL (tkV S0 5) (tkS S0 5)).2.2) (facD (famL (tkV S0 5) (tkS S0 5)).2.2) (facS (famL (tkV S0 5) (tkS S0 5)).2.2)
theorem evt_andf {X : Cx} {c : Cl} {st : Addr} {C C1 : Cfg} {a b : Expr} {es : List Expr} {pos : Pos} {s : Bool} (h : EvT X c st a C s C1) (h2 : EvW X c st (.BoolOp .And (b :: es) pos) C1 false C1) : EvW X c st (.BoolOp .And (a :: b :: es) pos) C false C1 := by
  cases s with
  | true => exact evw_andT h h2
  | false => exact evw_andF h
theorem exs_cons {X : Cx} {c : Cl} {st : Addr} {C C1 : Cfg} {s : Stmt} {ss : List Stmt} {m : Mu} (h1 : Es X c st s C (.nx C1)) (h2 : ∃ z, Ex X c st ss C1 (.rt m (some z))) : ∃ z, Ex X c st (s :: ss) C (.rt m (some z)) := let ⟨z, h⟩ := h2; ⟨z, ex_cons h1 h⟩
theorem exs_skip {X : Cx} {c : Cl} {st : Addr} {C C1 : Cfg} {e : Expr} {A ss : List Stmt} {pos : Pos} {m : Mu} (h1 : EvT X c st e C false C1) (h2 : ∃ z, Ex X c st ss C1 (.rt m (some z))) : ∃ z, Ex X c st (.If e A [] pos :: ss) C (.rt m (some z)) := let ⟨z, h⟩ := h2; ⟨z, ex_skip h1 h⟩
structure CalL (W : Wd) (k : Nat) : Prop where
  GT : W.fs (k + 1) "_law_take" RTake
  GB : W.fs (k + 1) "_law_bend" (RBen 4)
  GC : W.fp (k + 1) "takes_cuts" RTakes
  GH : W.fp (k + 1) "_law_cuts_hold" RHold
  K1 : W.fk k "Ratio" W.c.R [1] RInit
  K2 : W.fk k "Ratio" W.c.R [] RInit
  KM : W.fk k "Metric" W.c.M [] RMet
  G2 : W.fp (k + 1) "_law_two" (fun ds r => ∃ n : Nat, ds = [.int n] ∧ n ≤ 8 ∧ r = .lst ((prI n).map prD))
  GS : W.fp (k + 1) "_law_splits" RLSpl
  GD : W.fs (k + 1) "_law_drawn_papers" (fun S ds r S' => ∃ n : Nat, ds = [.int n] ∧ (1 ≤ n ∧ n ≤ 5) ∧ r = .lst (dpE n S).2 ∧ S' = (dpE n S).1)
  GM : W.fp (k + 1) "_law_moved_weights" RMov
  R0 : W.fs (k + 1) "_law_rows" (fun S ds r S' => ∃ most : Nat, ds = [.int most] ∧ (1 ≤ most ∧ most ≤ 8) ∧ r = rT (rowN most S) (rowR most S).2 ∧ S' = (rowR most S).1)
  R1 : W.fs (k + 1) "_law_told" (fun S ds r S' => ds = [] ∧ r = rT 5 (telD S) ∧ S' = (ordL 5 S).1)
  R2 : W.fs (k + 1) "_law_cut_rows" (fun S ds r S' => ds = [] ∧ r = rT (csN S) (csD (csN S) (tkS S 4)) ∧ S' = csS (tkS S 4) (LN (csN S)))
  R3 : W.fs (k + 1) "_law_of_tree" (fun S ds r S' => ∃ n : Nat, ds = [.int n] ∧ (1 ≤ n ∧ n ≤ 8) ∧ r = rT n (treD n S) ∧ S' = treE n S)
  GF : W.fs (k + 1) "_law_factor" (fun S ds r S' => ds = [] ∧ r = tI [((facN S : Nat) : Int), ((facD S : Nat) : Int)] ∧ S' = facS S)
  TB : W.fp (k + 1) "_law_table" (fun ds r => ∃ (n p q : Nat) (d : Nat → Nat → Int), ds = [rT n d, tI [(p : Int), (q : Int)]] ∧ n ≤ 8 ∧ (0 < q ∧ q < 100 ∧ p < 100) ∧ (∀ x y, x < n → y < n → (d x y).natAbs < 2 ^ 32) ∧ r = lT n fun x y => fq p q (d x y))
  RT : W.fp (k + 1) "_law_ratios" (fun ds r => ∃ (n p q : Nat) (d : Nat → Nat → Int), ds = [rT n d, tI [(p : Int), (q : Int)]] ∧ n ≤ 8 ∧ (0 < q ∧ q < 100 ∧ p < 100) ∧ (∀ x y, x < n → y < n → (d x y).natAbs < 2 ^ 32) ∧ r = qT n fun x y => fq p q (d x y))
  CP : W.fp (k + 1) "cut_paper" (fun ds r => ∃ (n : Nat) (g : Nat → Nat → Rat) (k : Nat), ds = [.met n (qT n g)] ∧ AskX n g k ∧ r = paperX n g (sX n g k))
section
variable {W : Wd} (T : Fx W.K W.mg W.c) (Y : Fy W.K W.c)
include T Y

theorem law_ex {k} {f : Addr} {cdv : Value} {Ar : Around} {outer : List Env} {sh : Shared} {hp0 : Hp} {E : XK} {st : Addr} (hr : Room (k + 1) (BX W lawN "law" (top 85) f cdv Ar outer sh hp0 E).A) (G : CalL W k) (S0 : Int × Int) (hO : LawOK S0) :
    ∃ s' , Ex (BX W lawN "law" (top 85) f cdv Ar outer sh hp0 E) W.c st ((defBody (top 85)).drop 1) ⟨some S0, [none, some .stt, none, none, none, none, none, none, none, none, none, none, none, none, none, none, none, none, none, none, none, none, none]⟩ (.rt (.im (.bl true)) (some s')) := by
  have hN := lawN_nd
  unfold LawOK at hO
  refine exs_cons (es_set 2 (ev_callS (ds := [_]) (s := S0) 1 G.GT hr rfl (eva_cons ev_int eva_nil) rfl ⟨5, rfl, by omega, rfl, rfl⟩) rfl hN) ?_
  · generalize tkV S0 5 = kd at *
    generalize tkS S0 5 = S1 at *
    refine exs_cons (es_set 3 (ev_callS (ds := [.int ((if 2 < kd then 5 else 4 : Nat) : Int)]) (s := S1) 1 G.R0 hr rfl (eva_cons (ev_to (ev_add ev_int (ev_intB T.int (ev_icmp .gt (ev_name 2 rfl) ev_int))) ?_) eva_nil) rfl ⟨_, rfl, by split <;> omega, rfl, rfl⟩) rfl hN) ?_
    · congr 1
      by_cases h : 2 < kd
      · rw [if_pos h, decide_eq_true (show (2 : Int) < (kd : Int) by omega)]; rfl
      · rw [if_neg h, decide_eq_false (show ¬ (2 : Int) < (kd : Int) by omega)]; rfl
    show ∃ s', Ex _ _ _ _ ⟨some (fam0 kd S1).2.2, [none, some .stt, sd (.int (kd : Nat)), sd (rT (fam0 kd S1).1 (fam0 kd S1).2.1), none, none, none, none, none, none, none, none, none, none, none, none, none, none, none, none, none, none, none]⟩ (.rt _ (some s'))
    unfold famL at hO
    generalize fam0 kd S1 = a0 at *
    refine exs_cons (C1 := ⟨some (fam1 kd a0).2.2, [none, some .stt, sd (.int (kd : Nat)), sd (rT (fam1 kd a0).1 (fam1 kd a0).2.1), none, none, none, none, none, none, none, none, none, none, none, none, none, none, none, none, none, none, none]⟩) (es_if (evt_eq rfl (ev_name 2 rfl) ev_int) (fun h => ?_) fun h => ?_) ?_
    · have hk : kd = 0 := by have := of_decide_eq_true h; omega
      rw [show fam1 kd a0 = _ from if_pos hk]
      exact ex_eq (ex_one (es_set 3 (ev_callS (ds := []) (s := a0.2.2) 1 G.R1 hr rfl eva_nil rfl ⟨rfl, rfl, rfl⟩) rfl hN))
    · have hk : ¬ kd = 0 := by have := of_decide_eq_false h; omega
      rw [show fam1 kd a0 = _ from if_neg hk]
      exact ex_nil
    generalize fam1 kd a0 = a1 at *
    refine exs_cons (C1 := ⟨some (fam2 kd a1).2.2, [none, some .stt, sd (.int (kd : Nat)), sd (rT (fam2 kd a1).1 (fam2 kd a1).2.1), none, none, none, none, none, none, none, none, none, none, none, none, none, none, none, none, none, none, none]⟩) (es_if (evt_eq rfl (ev_name 2 rfl) ev_int) (fun h => ?_) fun h => ?_) ?_
    · have hk : kd = 1 := by have := of_decide_eq_true h; omega
      rw [show fam2 kd a1 = _ from if_pos hk]
      exact ex_eq (ex_one (es_set 3 (ev_callS (ds := []) (s := a1.2.2) 1 G.R2 hr rfl eva_nil rfl ⟨rfl, rfl, rfl⟩) rfl hN))
    · have hk : ¬ kd = 1 := by have := of_decide_eq_false h; omega
      rw [show fam2 kd a1 = _ from if_neg hk]
      exact ex_nil
    generalize fam2 kd a1 = a2 at *
    refine exs_cons (C1 := ⟨some (fam3 kd a2).2.2, [none, some .stt, sd (.int (kd : Nat)), sd (rT (fam3 kd a2).1 (fam3 kd a2).2.1), none, none, none, none, none, none, none, none, none, none, none, none, none, none, none, none, none, none, none]⟩) (es_if (evt_eq rfl (ev_name 2 rfl) ev_int) (fun h => ?_) fun h => ?_) ?_
    · have hk : kd = 2 := by have := of_decide_eq_true h; omega
      rw [show fam3 kd a2 = _ from if_pos hk]
      exact ex_eq (ex_one (es_set 3 (ev_callS (ds := [_]) (s := a2.2.2) 1 G.R3 hr rfl (eva_cons ev_int eva_nil) rfl ⟨5, rfl, by omega, rfl, rfl⟩) rfl hN))
    · have hk : ¬ kd = 2 := by have := of_decide_eq_false h; omega
      rw [show fam3 kd a2 = _ from if_neg hk]
      exact ex_nil
    generalize fam3 kd a2 = a3 at *
    obtain ⟨n, d, S2⟩ := a3
    have hC : CaseOK kd n d (facN S2) (facD S2) (facS S2) := hO
    have hn := hC.n5
    obtain ⟨kx, P, hA, hp, hP, hPT, hPH, hPB, hk0, hk1, hTr⟩ := hC.pap
    refine exs_cons (es_set 4 (ev_callS (ds := []) (s := S2) 1 G.GF hr rfl eva_nil rfl ⟨rfl, rfl, rfl⟩) rfl hN) ?_
    have hpq := hC.pq
    have hsm := hC.sm
    have hme := hC.met
    have hfew := hC.few
    clear hC hO
    generalize facN S2 = p at *
    generalize facD S2 = q at *
    generalize facS S2 = S3 at *
    refine exs_cons (es_set 5 (ev_to (ev_len T.len rfl (ev_name 3 rfl)) (show _ = D.int (n : Int) by rw [tab_len])) rfl hN) <|
      exs_cons (es_set 6 (ev_call (ds := [_, _]) G.TB hr ⟨n, p, q, d, rfl, by omega, hpq, hsm, rfl⟩ (eva_cons (ev_name 3 rfl) (eva_cons (ev_name 4 rfl) eva_nil))) rfl hN) <|
      exs_cons (es_set 7 (ev_make (ds := [_]) G.KM hr ⟨n, _, rfl, by omega, hme, rfl⟩ (eva_cons (ev_call (ds := [_, _]) G.RT hr ⟨n, p, q, d, rfl, by omega, hpq, hsm, rfl⟩ (eva_cons (ev_name 3 rfl) (eva_cons (ev_name 4 rfl) eva_nil))) eva_nil)) rfl hN) <|
      exs_cons (es_set 8 (ev_to (ev_call (ds := [_]) G.CP hr ⟨n, _, kx, rfl, hA, rfl⟩ (eva_cons (ev_name 7 rfl) eva_nil)) hp) rfl hN) ?_
    generalize (fun x y => fq p q (d x y)) = g at *
    refine exs_skip (EvW.t (evw_orF (evt_to (evt_not (evt_val (t := true) (ev_to (ev_call (ds := [_, _]) G.GH hr ⟨n, g, papD P, rfl, by omega, hPT.pl, hPT.bd, hPT.sh, rfl⟩ (eva_cons (ev_name 6 rfl) (eva_cons (ev_name 8 rfl) eva_nil))) (congrArg D.bl hPH)))) rfl) (evw_or1 (evt_to (evt_notB (s := true) (ev_to (ev_call (ds := [_, _]) G.GC hr ⟨n, g, papD P, rfl, by omega, hPT.pl, hPT.bd, rfl⟩ (eva_cons (ev_name 7 rfl) (eva_cons (ev_name 8 rfl) eva_nil))) (congrArg D.bl hPH))) rfl)))) ?_
    have hend := law_mid T Y hr G.GT G.GB G.GC G.GH G.K1 G.K2 G.G2 G.GS G.GD G.GM (st := st) (kind := kd) (n := n) (p := p) (q := q) (d := d) (g := g) hn hP hPB S3 hfew hTr
    cases P with
    | inl ps =>
      have h0 : ¬ kd = 0 := fun e => absurd (hk0 e) (by show ¬ ("cuts" : Str) = "functional"; decide)
      refine exs_skip (EvW.t (evw_orF (EvW.t (evw_andF (evt_to (evt_eq rfl (ev_name 2 rfl) ev_int) (decide_eq_false (by omega))))) (evw_or1 (EvW.t (evt_andf (evw_or (evt_icmp .lt (ev_name 5 rfl) ev_int) fun _ => evw_or (evt_eq rfl (ev_name 2 rfl) ev_int) fun _ => evw_or1 (evt_eq rfl (ev_name 2 rfl) ev_int)).t (evw_and1 (evt_to (evt_ne rfl (ev_ix (d1 := .str "cuts") (i := 0) rfl (ev_name 8 rfl) ev_int) ev_str) rfl))))))) ?_
      exact ⟨_, hend⟩
    | inr xs =>
      have h1 : ¬ (n < 5 ∨ kd = 1 ∨ kd = 2) := fun e => absurd (hk1 e) (by show ¬ ("functional" : Str) = "cuts"; decide)
      have h5 : ¬ n < 5 := fun e => h1 (.inl e)
      have h6 : ¬ kd = 1 := fun e => h1 (.inr (.inl e))
      have h7 : ¬ kd = 2 := fun e => h1 (.inr (.inr e))
      refine exs_skip (EvW.t (evw_orF (EvW.t (evt_andf (evt_eq rfl (ev_name 2 rfl) ev_int) (evw_and1 (evt_to (evt_ne rfl (ev_ix (d1 := .str "functional") (i := 0) rfl (ev_name 8 rfl) ev_int) ev_str) rfl)))) (evw_or1 (EvW.t (evw_andF (EvW.t (evw_orF (evt_to (evt_icmp .lt (ev_name 5 rfl) ev_int) (decide_eq_false (by omega))) (evw_orF (evt_to (evt_eq rfl (ev_name 2 rfl) ev_int) (decide_eq_false (by omega))) (evw_or1 (evt_to (evt_eq rfl (ev_name 2 rfl) ev_int) (decide_eq_false (by omega)))))))))))) ?_
      exact ⟨_, hend⟩
  
end
end K48

namespace K48
/-- a finite sum -/
def sg : Nat → (Nat → Int) → Int
  | 0, _ => 0
  | n + 1, f => sg n f + f n
theorem sg_congr {n : Nat} {f g : Nat → Int} (h : ∀ i, i < n → f i = g i) : sg n f = sg n g := by
  induction n with
  | zero => rfl
  | succ n ih => show sg n f + f n = sg n g + g n; rw [ih fun i hi => h i (by omega), h n (by omega)]
theorem sg_zero {n : Nat} {f : Nat → Int} (h : ∀ i, i < n → f i = 0) : sg n f = 0 := by
  induction n with
  | zero => rfl
  | succ n ih => show sg n f + f n = 0; rw [ih fun i hi => h i (by omega), h n (by omega)]; rfl
theorem sg_add {n : Nat} {f g : Nat → Int} : sg n (fun i => f i + g i) = sg n f + sg n g := by
  induction n with
  | zero => rfl
  | succ n ih => show sg n (fun i => f i + g i) + (f n + g n) = (sg n f + f n) + (sg n g + g n); rw [ih]; omega
theorem sg_mul {n : Nat} {f : Nat → Int} (c : Int) : sg n (fun i => c * f i) = c * sg n f := by
  induction n with
  | zero => show (0 : Int) = c * 0; rw [Int.mul_zero]
  | succ n ih => show sg n _ + _ = c * (sg n f + f n); rw [ih, Int.mul_add]
theorem sg_sub {n : Nat} {f g : Nat → Int} : sg n (fun i => f i - g i) = sg n f - sg n g := by
  induction n with
  | zero => rfl
  | succ n ih => show sg n (fun i => f i - g i) + (f n - g n) = (sg n f + f n) - (sg n g + g n); rw [ih]; omega
theorem sg_lin {n : Nat} {f g : Nat → Int} (a b : Int) : sg n (fun i => a * f i + b * g i) = a * sg n f + b * sg n g := by
  rw [sg_add (f := fun i => a * f i) (g := fun i => b * g i), sg_mul, sg_mul]
theorem sg_one {n c : Nat} {f : Nat → Int} (hc : c < n) (h : ∀ i, i < n → i ≠ c → f i = 0) : sg n f = f c := by
  induction n with
  | zero => omega
  | succ n ih =>
    show sg n f + f n = f c
    by_cases e : c = n
    · subst e; rw [sg_zero fun i hi => h i (by omega) (by omega)]; omega
    · rw [ih (by omega) fun i hi h1 => h i (by omega) h1, h n (by omega) (by omega)]; omega
theorem sg_two {n c c' : Nat} {f : Nat → Int} (hc : c < n) (hc' : c' < n) (hne : c ≠ c') (h : ∀ i, i < n → i ≠ c → i ≠ c' → f i = 0) : sg n f = f c + f c' := by
  have e : sg n f = sg n (fun i => (if i = c then f c else 0) + (if i = c' then f c' else 0)) := sg_congr fun i hi => by
    by_cases h1 : i = c
    · subst h1; rw [if_pos rfl, if_neg hne]; omega
    · by_cases h2 : i = c'
      · subst h2; rw [if_pos rfl, if_neg h1]; omega
      · rw [if_neg h1, if_neg h2, h i hi h1 h2]; rfl
  rw [e, sg_add, sg_one hc fun i _ h1 => if_neg h1, sg_one hc' fun i _ h1 => if_neg h1, if_pos rfl, if_pos rfl]
theorem sg_comm {n m : Nat} {f : Nat → Nat → Int} : sg n (fun i => sg m fun j => f i j) = sg m fun j => sg n fun i => f i j := by
  induction n with
  | zero => exact (sg_zero fun _ _ => rfl).symm
  | succ n ih => show sg n _ + sg m _ = sg m fun j => sg n (fun i => f i j) + f n j; rw [ih, sg_add]
theorem sg_le {n : Nat} {f g : Nat → Int} (h : ∀ i, i < n → f i ≤ g i) : sg n f ≤ sg n g := by
  induction n with
  | zero => exact Int.le_refl _
  | succ n ih => show sg n f + f n ≤ sg n g + g n; have := ih fun i hi => h i (by omega); have := h n (by omega); omega
theorem sg_nn {n : Nat} {f : Nat → Int} (h : ∀ i, i < n → 0 ≤ f i) : 0 ≤ sg n f := by
  have := sg_le (f := fun _ => 0) h
  rwa [sg_zero fun _ _ => rfl] at this
theorem sg_pos_ex {n : Nat} {f : Nat → Int} (h : 0 < sg n f) : ∃ i, i < n ∧ 0 < f i := by
  induction n with
  | zero => exact absurd h (Int.lt_irrefl 0)
  | succ n ih =>
    have h' : 0 < sg n f + f n := h
    by_cases h1 : 0 < f n
    · exact ⟨n, by omega, h1⟩
    · obtain ⟨i, hi, h2⟩ := ih (by omega); exact ⟨i, by omega, h2⟩
theorem sg_abs {n : Nat} {f : Nat → Int} {B : Nat} (h : ∀ i, i < n → (f i).natAbs ≤ B) : (sg n f).natAbs ≤ n * B := by
  induction n with
  | zero => show (0 : Int).natAbs ≤ _; simp
  | succ n ih =>
    show (sg n f + f n).natAbs ≤ _
    have := ih fun i hi => h i (by omega)
    have := h n (by omega)
    rw [Nat.succ_mul]; omega
/-! ### determinants -/
abbrev Vc := Nat → Int
def up (v : Nat → Vc) (c : Nat) (x : Vc) : Nat → Vc := fun k => if k = c then x else v k
def sk (i k : Nat) : Nat := if k < i then k else k + 1
def sn (i : Nat) : Int := if i % 2 = 0 then 1 else -1
def mn (v : Nat → Vc) (i : Nat) : Nat → Vc := fun k r => v (sk i k) (r + 1)
def dt : Nat → (Nat → Vc) → Int
  | 0, _ => 1
  | m + 1, v => sg (m + 1) fun i => sn i * v i 0 * dt m (mn v i)
theorem sk_lt {i k m : Nat} (h : k < m) : sk i k < m + 1 := by unfold sk; split <;> omega
theorem dt_congr {m : Nat} {v w : Nat → Vc} (h : ∀ i r, i < m → r < m → v i r = w i r) : dt m v = dt m w := by
  induction m generalizing v w with
  | zero => rfl
  | succ m ih =>
    refine sg_congr fun i hi => ?_
    show sn i * v i 0 * dt m (mn v i) = sn i * w i 0 * dt m (mn w i)
    rw [h i 0 hi (by omega), ih (v := mn v i) (w := mn w i) fun k r hk hr => h _ _ (sk_lt hk) (by omega)]
theorem mn_up_self (v : Nat → Vc) (i : Nat) (x : Vc) : mn (up v i x) i = mn v i := by
  funext k r
  show up v i x (sk i k) (r + 1) = _
  unfold up
  rw [if_neg (by unfold sk; split <;> omega)]; rfl
theorem mn_up {v : Nat → Vc} {i c : Nat} (h : c ≠ i) (x : Vc) : mn (up v c x) i = up (mn v i) (if c < i then c else c - 1) fun r => x (r + 1) := by
  funext k r
  show up v c x (sk i k) (r + 1) = _
  unfold up
  have : sk i k = c ↔ k = (if c < i then c else c - 1) := by unfold sk; split <;> split <;> omega
  by_cases e : sk i k = c
  · rw [if_pos e, if_pos (this.mp e)]
  · rw [if_neg e, if_neg fun z => e (this.mpr z)]; rfl
theorem dt_lin {m : Nat} (v : Nat → Vc) {c : Nat} (hc : c < m) (a b : Int) (x y : Vc) : dt m (up v c fun r => a * x r + b * y r) = a * dt m (up v c x) + b * dt m (up v c y) := by
  induction m generalizing v c x y with
  | zero => omega
  | succ m ih =>
    show sg (m + 1) _ = a * sg (m + 1) _ + b * sg (m + 1) _
    rw [← sg_lin]
    refine sg_congr fun i hi => ?_
    show sn i * up v c _ i 0 * dt m (mn (up v c _) i) = a * (sn i * up v c x i 0 * dt m (mn (up v c x) i)) + b * (sn i * up v c y i 0 * dt m (mn (up v c y) i))
    by_cases e : i = c
    · subst e
      rw [mn_up_self, mn_up_self, mn_up_self]
      have e1 : ∀ z : Vc, up v i z i = z := fun z => if_pos rfl
      rw [e1, e1, e1]
      grind
    · have e1 : ∀ z : Vc, up v c z i = v i := fun z => if_neg e
      rw [e1, e1, e1, mn_up (Ne.symm e), mn_up (Ne.symm e), mn_up (Ne.symm e), ih (mn v i) (by split <;> omega) (fun r => x (r + 1)) fun r => y (r + 1)]
      grind
theorem sn_succ (i : Nat) : sn (i + 1) = - sn i := by unfold sn; split <;> split <;> omega
theorem dt_adj {m : Nat} {v : Nat → Vc} {c : Nat} (hc : c + 1 < m) (h : v c = v (c + 1)) : dt m v = 0 := by
  induction m generalizing v c with
  | zero => omega
  | succ m ih =>
    show sg (m + 1) _ = 0
    rw [sg_two (c := c) (c' := c + 1) (by omega) (by omega) (by omega) fun i hi h1 h2 => ?_]
    · show sn c * v c 0 * dt m (mn v c) + sn (c + 1) * v (c + 1) 0 * dt m (mn v (c + 1)) = 0
      have e : mn v c = mn v (c + 1) := by
        funext k r
        show v (sk c k) (r + 1) = v (sk (c + 1) k) (r + 1)
        by_cases e : k = c
        · subst e
          have e1 : sk k k = k + 1 := by unfold sk; split <;> omega
          have e2 : sk (k + 1) k = k := by unfold sk; split <;> omega
          rw [e1, e2, h]
        · have e1 : sk c k = sk (c + 1) k := by unfold sk; split <;> split <;> omega
          rw [e1]
      rw [← h, e, sn_succ]; grind
    · show sn i * v i 0 * dt m (mn v i) = 0
      have : dt m (mn v i) = 0 := by
        by_cases hi2 : i < c
        · refine ih (c := c - 1) (by omega) ?_
          funext r
          show v (sk i (c - 1)) (r + 1) = v (sk i (c - 1 + 1)) (r + 1)
          have e1 : sk i (c - 1) = c := by unfold sk; split <;> omega
          have e2 : sk i (c - 1 + 1) = c + 1 := by unfold sk; split <;> omega
          rw [e1, e2, h]
        · refine ih (c := c) (by omega) ?_
          funext r
          show v (sk i c) (r + 1) = v (sk i (c + 1)) (r + 1)
          have e1 : sk i c = c := by unfold sk; split <;> omega
          have e2 : sk i (c + 1) = c + 1 := by unfold sk; split <;> omega
          rw [e1, e2, h]
      rw [this, Int.mul_zero]
theorem up_up {v : Nat → Vc} {c : Nat} {x y : Vc} : up (up v c x) c y = up v c y := by
  funext k; unfold up; split <;> rfl
theorem up_comm {v : Nat → Vc} {c d : Nat} (h : c ≠ d) {x y : Vc} : up (up v c x) d y = up (up v d y) c x := by
  funext k; unfold up; split <;> split <;> first | rfl | omega
theorem up_id {v : Nat → Vc} {c : Nat} : up v c (v c) = v := by
  funext k; unfold up; split
  · rename_i h; rw [h]
  · rfl
/-- what is 0 at two equal columns changes its sign -/
theorem swap_of {m c d : Nat} (hc : c < m) (hd : d < m) (hcd : c ≠ d) (v : Nat → Vc) (h : ∀ x, dt m (up (up v c x) d x) = 0) (x y : Vc) : dt m (up (up v c x) d y) = - dt m (up (up v c y) d x) := by
  have h1 := h fun r => 1 * x r + 1 * y r
  rw [dt_lin _ hd, up_comm hcd, up_comm hcd, dt_lin _ hc, dt_lin _ hc, up_comm (Ne.symm hcd), up_comm (Ne.symm hcd), up_comm (Ne.symm hcd), up_comm (Ne.symm hcd), h x, h y] at h1
  omega
theorem dt_eq {m : Nat} {v : Nat → Vc} {c d : Nat} (hcd : c < d) (hd : d < m) (h : v c = v d) : dt m v = 0 := by
  induction d generalizing v with
  | zero => omega
  | succ d ih =>
    by_cases e : c = d
    · subst e; exact dt_adj hd h
    · have h1 := swap_of (m := m) (c := d) (d := d + 1) (by omega) hd (by omega) v (fun x => dt_adj hd (by unfold up; rw [if_neg (by omega), if_pos rfl, if_pos rfl])) (v d) (v (d + 1))
      rw [up_id, up_id] at h1
      rw [h1, ih (v := up (up v d (v (d + 1))) (d + 1) (v d)) (by omega) (by omega) ?_]
      · rfl
      · unfold up; rw [if_neg (by omega), if_neg (by omega), if_neg (by omega), if_pos rfl, h]
theorem dt_rep {m : Nat} {v : Nat → Vc} {c d : Nat} (hcd : c ≠ d) (hc : c < m) (hd : d < m) (h : v c = v d) : dt m v = 0 := by
  by_cases e : c < d
  · exact dt_eq e hd h
  · exact dt_eq (show d < c by omega) hc h.symm
theorem dt_swap {m c d : Nat} (hc : c < m) (hd : d < m) (hcd : c ≠ d) (v : Nat → Vc) (x y : Vc) : dt m (up (up v c x) d y) = - dt m (up (up v c y) d x) :=
  swap_of hc hd hcd v (fun x => dt_rep hcd hc hd (by unfold up; rw [if_neg hcd, if_pos rfl, if_pos rfl])) x y
theorem dt_sum {m n : Nat} (v : Nat → Vc) {c : Nat} (hc : c < m) (f : Nat → Int) (x : Nat → Vc) : dt m (up v c fun r => sg n fun l => f l * x l r) = sg n fun l => f l * dt m (up v c (x l)) := by
  induction n with
  | zero =>
    have h := dt_lin v hc 0 0 (fun _ => 0) fun _ => 0
    rw [Int.zero_mul, Int.zero_mul] at h
    exact h
  | succ n ih =>
    have h := dt_lin v hc 1 (f n) (fun r => sg n fun l => f l * x l r) (x n)
    rw [ih, Int.one_mul] at h
    show dt m (up v c fun r => sg n (fun l => f l * x l r) + f n * x n r) = sg n (fun l => f l * dt m (up v c (x l))) + f n * dt m (up v c (x n))
    rw [← h]
    congr 2
    funext r
    rw [Int.one_mul]
theorem dt_one {m : Nat} : dt m (fun k r => if r = k then 1 else 0) = 1 := by
  induction m with
  | zero => rfl
  | succ m ih =>
    show sg (m + 1) _ = 1
    rw [sg_one (c := 0) (by omega) fun i _ h => ?_]
    · show sn 0 * (if 0 = 0 then 1 else 0) * dt m _ = 1
      have : dt m (mn (fun k r => if r = k then 1 else 0) 0) = 1 := by
        refine Eq.trans (dt_congr fun i r _ _ => ?_) ih
        show (if r + 1 = sk 0 i then (1 : Int) else 0) = (if r = i then 1 else 0)
        have : sk 0 i = i + 1 := by unfold sk; split <;> omega
        rw [this]
        by_cases e : r = i
        · rw [if_pos e, if_pos (by omega)]
        · rw [if_neg e, if_neg (by omega)]
      rw [this]; rfl
    · show sn i * (if 0 = i then 1 else 0) * _ = 0
      rw [if_neg (Ne.symm h)]; simp
def fct : Nat → Nat
  | 0 => 1
  | n + 1 => (n + 1) * fct n
theorem dt_bd {m : Nat} {v : Nat → Vc} {K : Nat} (h : ∀ i r, i < m → r < m → (v i r).natAbs ≤ K) : (dt m v).natAbs ≤ fct m * K ^ m := by
  induction m generalizing v with
  | zero => show (1 : Int).natAbs ≤ 1 * K ^ 0; simp
  | succ m ih =>
    have h1 : ∀ i, i < m + 1 → (sn i * v i 0 * dt m (mn v i)).natAbs ≤ K * (fct m * K ^ m) := fun i hi => by
      rw [Int.natAbs_mul, Int.natAbs_mul]
      have e : (sn i).natAbs = 1 := by unfold sn; split <;> rfl
      rw [e, Nat.one_mul]
      exact Nat.mul_le_mul (h i 0 hi (by omega)) (ih fun k r hk hr => h _ _ (sk_lt hk) (by omega))
    have h2 := sg_abs h1
    refine Nat.le_trans h2 ?_
    show _ ≤ (m + 1) * fct m * (K ^ m * K)
    rw [show K * (fct m * K ^ m) = fct m * (K ^ m * K) by rw [Nat.mul_comm K, Nat.mul_assoc], ← Nat.mul_assoc]
    exact Nat.le_refl _
end K48

namespace K48
/-- a column of the table to begin with -/
def Vx (N m : Nat) (A : Nat → Nat → Bool) (b : Nat → Rat) (j : Nat) : Vc := fun r => T0 N m A b r j
def cst (N m j : Nat) : Int := if N ≤ j ∧ j < N + m then 1 else 0
structure Inv (N m : Nat) (A : Nat → Nat → Bool) (b : Nat → Rat) (s : Sx) : Prop where
  sc : s.sc = dt m fun k => Vx N m A b (s.bas k)
  ps : 0 < s.sc
  bs : ∀ l, l < m → s.bas l < N + m
  t : ∀ j r, j < N + m + 1 → r < m → s.sc * Vx N m A b j r = sg m fun l => s.T l j * Vx N m A b (s.bas l) r
  nn : ∀ l, l < m → 0 ≤ s.T l (N + m)
  p : ∀ j, j < N + m + 1 → s.P j = s.sc * cst N m j - sg m fun l => cst N m (s.bas l) * s.T l j
def stp (s : Sx) (o q : Nat) : Sx where
  T := fun i j => if i = o then s.T o j else (s.T i j * s.T o q - s.T i q * s.T o j) / s.sc
  P := fun j => (s.P j * s.T o q - s.P q * s.T o j) / s.sc
  sc := s.T o q
  bas := fun i => if i = o then q else s.bas i
theorem stepX_stp (m N : Nat) (s : Sx) : stepX m N s = stp s (outS m N s) (atS N s) := rfl
section
variable {N m : Nat} {A : Nat → Nat → Bool} {b : Nat → Rat} {s s' : Sx}
theorem dt_scale {m c : Nat} {v : Nat → Vc} (hc : c < m) (a : Int) (x : Vc) : dt m (up v c fun r => a * x r) = a * dt m (up v c x) := by
  have h := dt_lin v hc a 0 x x
  rw [Int.zero_mul, Int.add_zero] at h
  rw [← h]; congr 2; funext r; omega
theorem Inv.ex (h : Inv N m A b s) (v : Nat → Vc) {c j : Nat} (hc : c < m) (hj : j < N + m + 1) : s.sc * dt m (up v c (Vx N m A b j)) = sg m fun l => s.T l j * dt m (up v c (Vx N m A b (s.bas l))) := by
  rw [← dt_scale hc, ← dt_sum v hc]
  refine dt_congr fun i r _ hr => ?_
  unfold up
  split
  · exact h.t j r hj hr
  · rfl
abbrev BV (N m : Nat) (A : Nat → Nat → Bool) (b : Nat → Rat) (s : Sx) : Nat → Vc := fun k => Vx N m A b (s.bas k)
theorem Inv.td (h : Inv N m A b s) {i j : Nat} (hi : i < m) (hj : j < N + m + 1) : s.T i j = dt m (up (BV N m A b s) i (Vx N m A b j)) := by
  have e := h.ex (BV N m A b s) hi hj
  rw [sg_one hi fun l hl hne => ?_] at e
  · have e2 : up (BV N m A b s) i (Vx N m A b (s.bas i)) = BV N m A b s := up_id
    rw [e2, ← h.sc, Int.mul_comm (s.T i j)] at e
    exact (Int.eq_of_mul_eq_mul_left (by have := h.ps; omega) e).symm
  · rw [dt_rep (c := i) (d := l) (Ne.symm hne) hi hl, Int.mul_zero]
    unfold up
    rw [if_pos rfl, if_neg hne]
theorem Inv.tb (h : Inv N m A b s) {i k : Nat} (hi : i < m) (hk : k < m) : s.T i (s.bas k) = if i = k then s.sc else 0 := by
  rw [h.td hi (by have := h.bs k hk; omega)]
  split
  · rename_i e; subst e
    have e2 : up (BV N m A b s) i (Vx N m A b (s.bas i)) = BV N m A b s := up_id
    rw [e2, h.sc]
  · rename_i e
    exact dt_rep (c := i) (d := k) e hi hk (by unfold up; rw [if_pos rfl, if_neg (Ne.symm e)])
theorem Inv.inj (h : Inv N m A b s) {i k : Nat} (hi : i < m) (hk : k < m) (e : s.bas i = s.bas k) : i = k := by
  have h1 := h.tb hi hi
  rw [if_pos rfl, e, h.tb hi hk] at h1
  have := h.ps
  split at h1
  · assumption
  · omega
/-- the division of the step leaves no rest -/
theorem Inv.exact (h : Inv N m A b s) {i o j q : Nat} (hi : i < m) (ho : o < m) (hne : i ≠ o) (hj : j < N + m + 1) (hq : q < N + m + 1) :
    s.T i j * s.T o q - s.T i q * s.T o j = s.sc * dt m (up (up (BV N m A b s) o (Vx N m A b q)) i (Vx N m A b j)) := by
  rw [h.ex _ hi hj, sg_two (c := i) (c' := o) hi ho hne fun l hl h1 h2 => ?_]
  · have e1 : dt m (up (up (BV N m A b s) o (Vx N m A b q)) i (Vx N m A b (s.bas i))) = s.T o q := by
      have e2 : up (BV N m A b s) i (Vx N m A b (s.bas i)) = BV N m A b s := up_id
      rw [up_comm (Ne.symm hne), e2, h.td ho hq]
    have e3 : dt m (up (up (BV N m A b s) o (Vx N m A b q)) i (Vx N m A b (s.bas o))) = - s.T i q := by
      have e4 : up (BV N m A b s) o (Vx N m A b (s.bas o)) = BV N m A b s := up_id
      rw [dt_swap ho hi (Ne.symm hne), e4, h.td hi hq]
    rw [e1, e3]; grind
  · rw [dt_rep (c := i) (d := l) (Ne.symm h1) hi hl, Int.mul_zero]
    unfold up
    rw [if_pos rfl, if_neg h1, if_neg h2]
theorem Inv.pb (h : Inv N m A b s) {k : Nat} (hk : k < m) : s.P (s.bas k) = 0 := by
  have hb := h.bs k hk
  rw [h.p _ (by omega), sg_one hk fun l hl hne => ?_, h.tb hk hk, if_pos rfl]
  · grind
  · rw [h.tb hl hk, if_neg hne, Int.mul_zero]
/-- what a step needs -/
structure Can (N m : Nat) (s : Sx) (o q : Nat) : Prop where
  om : o < m
  qN : q < N
  pos : 0 < s.T o q
  rat : ∀ i, i < m → 0 < s.T i q → s.T o (N + m) * s.T i q ≤ s.T i (N + m) * s.T o q
theorem Inv.tstep (h : Inv N m A b s) {o q : Nat} (c : Can N m s o q) {i j : Nat} (hi : i < m) (hne : i ≠ o) (hj : j < N + m + 1) : s.sc * (stp s o q).T i j = s.T i j * s.T o q - s.T i q * s.T o j := by
  show s.sc * (if i = o then _ else _) = _
  have hq := c.qN
  rw [if_neg hne, h.exact hi c.om hne hj (by omega), Int.mul_ediv_cancel_left _ (by have := h.ps; omega)]
theorem Inv.pstep (h : Inv N m A b s) {o q : Nat} (c : Can N m s o q) {j : Nat} (hj : j < N + m + 1) : s.P j * s.T o q - s.P q * s.T o j = s.sc * (s.T o q * cst N m j - sg m fun l => cst N m ((stp s o q).bas l) * (stp s o q).T l j) := by
  have hq := c.qN
  have e1 : s.sc * (sg m fun l => cst N m ((stp s o q).bas l) * (stp s o q).T l j) = sg m fun l => (cst N m (s.bas l) * s.T l j * s.T o q - cst N m (s.bas l) * s.T l q * s.T o j) + (if l = o then s.sc * (cst N m q * s.T o j) else 0) := by
    rw [← sg_mul]
    refine sg_congr fun l hl => ?_
    by_cases e : l = o
    · subst e
      rw [if_pos rfl]
      have e2 : (stp s l q).bas l = q := if_pos rfl
      have e3 : (stp s l q).T l j = s.T l j := if_pos rfl
      rw [e2, e3]; grind
    · rw [if_neg e]
      have e2 : (stp s o q).bas l = s.bas l := if_neg e
      have e3 := h.tstep c hl e hj
      rw [e2]; grind
  have e4 : (sg m fun l => (if l = o then s.sc * (cst N m q * s.T o j) else 0)) = s.sc * (cst N m q * s.T o j) := by
    rw [sg_one c.om fun l _ h1 => if_neg h1, if_pos rfl]
  have e5 : (sg m fun l => (cst N m (s.bas l) * s.T l j * s.T o q - cst N m (s.bas l) * s.T l q * s.T o j)) = s.T o q * (sg m fun l => cst N m (s.bas l) * s.T l j) - s.T o j * sg m fun l => cst N m (s.bas l) * s.T l q := by
    rw [← sg_mul, ← sg_mul, ← sg_sub]
    exact sg_congr fun l _ => by grind
  rw [Int.mul_sub, e1, sg_add, e4, e5, h.p j hj, h.p q (by omega)]
  grind
theorem Inv.step (h : Inv N m A b s) {o q : Nat} (c : Can N m s o q) : Inv N m A b (stp s o q) := by
  have hq := c.qN
  have hps := h.ps
  have hT : ∀ i j, i < m → i ≠ o → j < N + m + 1 → s.sc * (stp s o q).T i j = s.T i j * s.T o q - s.T i q * s.T o j := fun i j hi hne hj => h.tstep c hi hne hj
  have hO : ∀ j, (stp s o q).T o j = s.T o j := fun j => if_pos rfl
  refine ⟨?_, c.pos, ?_, ?_, ?_, ?_⟩
  · show s.T o q = _
    rw [h.td c.om (by omega)]
    refine dt_congr fun i r _ _ => ?_
    show up _ o _ i r = Vx N m A b (if i = o then q else s.bas i) r
    unfold up
    split <;> rfl
  · intro l hl
    show (if l = o then q else s.bas l) < _
    split
    · omega
    · exact h.bs l hl
  · intro j r hj hr
    have e1 : s.sc * (sg m fun l => (stp s o q).T l j * Vx N m A b ((stp s o q).bas l) r) = sg m fun l => (s.T l j * Vx N m A b (s.bas l) r * s.T o q - s.T l q * Vx N m A b (s.bas l) r * s.T o j) + (if l = o then s.sc * (s.T o j * Vx N m A b q r) else 0) := by
      rw [← sg_mul]
      refine sg_congr fun l hl => ?_
      by_cases e : l = o
      · subst e
        rw [if_pos rfl]
        have e2 : (stp s l q).bas l = q := if_pos rfl
        rw [e2, hO]; grind
      · rw [if_neg e]
        have e2 : (stp s o q).bas l = s.bas l := if_neg e
        have e3 := hT l j hl e hj
        rw [e2]; grind
    have e4 : (sg m fun l => (if l = o then s.sc * (s.T o j * Vx N m A b q r) else 0)) = s.sc * (s.T o j * Vx N m A b q r) := by
      rw [sg_one c.om fun l _ h1 => if_neg h1, if_pos rfl]
    have e5 : (sg m fun l => (s.T l j * Vx N m A b (s.bas l) r * s.T o q - s.T l q * Vx N m A b (s.bas l) r * s.T o j)) = s.T o q * (s.sc * Vx N m A b j r) - s.T o j * (s.sc * Vx N m A b q r) := by
      rw [h.t j r hj hr, h.t q r (by omega) hr, ← sg_mul, ← sg_mul, ← sg_sub]
      exact sg_congr fun l _ => by grind
    refine Int.eq_of_mul_eq_mul_left (a := s.sc) (by omega) ?_
    rw [e1, sg_add, e4, e5]
    show s.sc * (s.T o q * _) = _
    grind
  · intro l hl
    by_cases e : l = o
    · subst e; rw [hO]; exact h.nn l hl
    · have e3 := hT l (N + m) hl e (by omega)
      have h1 := h.nn l hl
      have h2 := h.nn o c.om
      have h3 := c.pos
      have h4 : 0 ≤ s.sc * (stp s o q).T l (N + m) := by
        rw [e3]
        by_cases h5 : 0 < s.T l q
        · have := c.rat l hl h5
          rw [Int.mul_comm (s.T l q)]; omega
        · have h6 : 0 ≤ (- s.T l q) * s.T o (N + m) := Int.mul_nonneg (by omega) h2
          have h7 : 0 ≤ s.T l (N + m) * s.T o q := Int.mul_nonneg h1 (by omega)
          rw [Int.neg_mul] at h6; omega
      exact Int.nonneg_of_mul_nonneg_right h4 hps
  · intro j hj
    show (s.P j * s.T o q - s.P q * s.T o j) / s.sc = _
    rw [h.pstep c hj, Int.mul_ediv_cancel_left _ (by omega)]
    rfl
theorem Inv.pst (h : Inv N m A b s) {o q : Nat} (c : Can N m s o q) {j : Nat} (hj : j < N + m + 1) : (stp s o q).P j * s.sc = s.P j * s.T o q - s.P q * s.T o j := by
  rw [h.pstep c hj, (h.step c).p j hj, Int.mul_comm]
  rfl
theorem sumT_sg {m : Nat} {T : Nat → Nat → Int} {j : Nat} : sumT m T j = sg m fun i => T i j := by
  induction m with
  | zero => rfl
  | succ m ih =>
    show ((List.range (m + 1)).map fun i => T i j).sum = sg m _ + T m j
    rw [List.range_succ, List.map_append, List.sum_append, ← ih]
    show _ = ((List.range m).map fun i => T i j).sum + T m j
    simp
theorem Vx_unit {k : Nat} (hk : k < m) (r : Nat) : Vx N m A b (N + k) r = if r = k then 1 else 0 := by
  show T0 N m A b r (N + k) = _
  unfold T0
  rw [if_neg (by omega), if_pos (by omega)]
  have : N + k - N = r ↔ r = k := by omega
  by_cases e : r = k
  · rw [if_pos e, if_pos (this.mpr e)]
  · rw [if_neg e, if_neg fun z => e (this.mp z)]
theorem Inv.start (hb : ∀ i, i < m → 0 ≤ (b i).num) : Inv N m A b (startX N m A b) := by
  have hu : ∀ j r, r < m → Vx N m A b j r = sg m fun l => T0 N m A b l j * Vx N m A b (N + l) r := fun j r hr => by
    rw [sg_one hr fun l hl hne => ?_]
    · rw [Vx_unit hr, if_pos rfl, Int.mul_one]; rfl
    · rw [Vx_unit hl, if_neg (Ne.symm hne), Int.mul_zero]
  refine ⟨?_, ?_, ?_, ?_, ?_, ?_⟩
  · refine (Eq.trans (dt_congr fun i r hi hr => ?_) (dt_one (m := m))).symm
    show Vx N m A b (N + i) r = _
    rw [Vx_unit hi]
  · show (0 : Int) < 1; decide
  · intro l hl; show N + l < N + m; omega
  · intro j r hj hr
    show 1 * _ = _
    rw [Int.one_mul]
    exact hu j r hr
  · intro l hl
    show 0 ≤ T0 N m A b l (N + m)
    unfold T0
    rw [if_neg (by omega), if_neg (by omega)]
    exact hb l hl
  · intro j hj
    show P0 N m (T0 N m A b) j = 1 * cst N m j - _
    unfold P0
    rw [sumT_sg, Int.one_mul]
    have e1 : (if (decide (N ≤ j) && decide (j < N + m)) = true then (1 : Int) else 0) = cst N m j := by
      unfold cst
      by_cases h1 : N ≤ j ∧ j < N + m
      · rw [if_pos h1, if_pos (by simp [h1.1, h1.2])]
      · rw [if_neg h1, if_neg (by simp; omega)]
    rw [e1]
    congr 1
    refine sg_congr fun l hl => ?_
    show _ = cst N m (N + l) * T0 N m A b l j
    unfold cst
    rw [if_pos (by omega), Int.one_mul]
/-- the columns by the added ones -/
theorem Inv.dual (h : Inv N m A b s) {l j : Nat} (hl : l < m) (hj : j < N + m + 1) : s.T l j = sg m fun r => Vx N m A b j r * s.T l (N + r) := by
  rw [h.td hl hj]
  have e : dt m (up (BV N m A b s) l (Vx N m A b j)) = dt m (up (BV N m A b s) l fun r => sg m fun k => Vx N m A b j k * Vx N m A b (N + k) r) := by
    refine dt_congr fun i r _ hr => ?_
    unfold up
    split
    · show _ = sg m fun k => Vx N m A b j k * Vx N m A b (N + k) r
      rw [sg_one hr fun l hl hne => ?_]
      · rw [Vx_unit hr, if_pos rfl, Int.mul_one]
      · rw [Vx_unit hl, if_neg (Ne.symm hne), Int.mul_zero]
    · rfl
  rw [e, dt_sum _ hl (fun k => Vx N m A b j k) fun k => Vx N m A b (N + k)]
  refine sg_congr fun r hr => ?_
  show _ * dt m (up (BV N m A b s) l (Vx N m A b (N + r))) = _
  rw [← h.td hl (by omega)]
/-- the multipliers -/
def mul_ (N m : Nat) (s : Sx) (r : Nat) : Int := sg m fun l => cst N m (s.bas l) * s.T l (N + r)
theorem Inv.pm (h : Inv N m A b s) {j : Nat} (hj : j < N + m + 1) : s.P j = s.sc * cst N m j - sg m fun r => mul_ N m s r * Vx N m A b j r := by
  rw [h.p j hj]
  congr 1
  have e : (sg m fun r => mul_ N m s r * Vx N m A b j r) = sg m fun r => sg m fun l => cst N m (s.bas l) * (Vx N m A b j r * s.T l (N + r)) := by
    refine sg_congr fun r hr => ?_
    unfold mul_
    rw [Int.mul_comm, ← sg_mul]
    exact sg_congr fun l _ => by grind
  rw [e, sg_comm]
  refine sg_congr fun l hl => ?_
  rw [sg_mul, ← h.dual hl hj]
theorem Inv.pi (h : Inv N m A b s) {r : Nat} (hr : r < m) : mul_ N m s r = s.sc - s.P (N + r) := by
  rw [h.p (N + r) (by omega)]
  unfold cst
  rw [if_pos (by omega)]
  show sg m (fun l => (if N ≤ s.bas l ∧ s.bas l < N + m then 1 else 0) * s.T l (N + r)) = _
  omega
theorem Inv.two (h1 : Inv N m A b s) (h2 : Inv N m A b s') {q : Nat} (hq : q < N + m + 1) : s.sc * s'.P q - (sg m fun l => s.T l q * s'.P (s.bas l)) = s'.sc * s.P q := by
  have e1 : (sg m fun l => s.T l q * s'.P (s.bas l)) = sg m fun l => s'.sc * (cst N m (s.bas l) * s.T l q) - sg m fun r => mul_ N m s' r * (s.T l q * Vx N m A b (s.bas l) r) := by
    refine sg_congr fun l hl => ?_
    rw [h2.pm (show s.bas l < N + m + 1 by have := h1.bs l hl; omega), Int.mul_sub, ← sg_mul]
    congr 1
    · grind
    · exact sg_congr fun r _ => by grind
  have e2 : (sg m fun l => sg m fun r => mul_ N m s' r * (s.T l q * Vx N m A b (s.bas l) r)) = sg m fun r => mul_ N m s' r * (s.sc * Vx N m A b q r) := by
    rw [sg_comm]
    refine sg_congr fun r hr => ?_
    rw [sg_mul, ← h1.t q r hq hr]
  have e3 : (sg m fun r => mul_ N m s' r * (s.sc * Vx N m A b q r)) = s.sc * sg m fun r => mul_ N m s' r * Vx N m A b q r := by
    rw [← sg_mul]
    exact sg_congr fun r _ => by grind
  rw [e1, sg_sub, e2, e3, sg_mul, h2.pm hq, h1.p q hq]
  grind
end
end K48

namespace K48
/-! ### the leaving row -/
theorem lex_lt {a1 q1 a2 q2 a3 q3 : Int} (p1 : 0 < q1) (p2 : 0 < q2) (p3 : 0 < q3) (h1 : a1 * q2 < a2 * q1) (h2 : a2 * q3 ≤ a3 * q2) : a1 * q3 < a3 * q1 := by
  have h3 : (a1 * q2) * q3 < (a2 * q1) * q3 := Int.mul_lt_mul_of_pos_right h1 p3
  have h4 : (a2 * q3) * q1 ≤ (a3 * q2) * q1 := Int.mul_le_mul_of_nonneg_right h2 (by omega)
  have h5 : q2 * (a1 * q3) < q2 * (a3 * q1) := by grind
  exact Int.lt_of_mul_lt_mul_left h5 (by omega)
theorem lex_le {a1 q1 a2 q2 a3 q3 : Int} (p1 : 0 < q1) (p2 : 0 < q2) (p3 : 0 < q3) (h1 : a1 * q2 = a2 * q1) (h2 : a2 * q3 < a3 * q2) : a1 * q3 < a3 * q1 := by
  have h3 : (a1 * q2) * q3 = (a2 * q1) * q3 := by rw [h1]
  have h4 : (a2 * q3) * q1 < (a3 * q2) * q1 := Int.mul_lt_mul_of_pos_right h2 p1
  have h5 : q2 * (a1 * q3) < q2 * (a3 * q1) := by grind
  exact Int.lt_of_mul_lt_mul_left h5 (by omega)
theorem lex_eq {a1 q1 a2 q2 a3 q3 : Int} (p1 : 0 < q1) (p2 : 0 < q2) (p3 : 0 < q3) (h1 : a1 * q2 = a2 * q1) (h2 : a2 * q3 = a3 * q2) : a1 * q3 = a3 * q1 := by
  have h3 : (a1 * q2) * q3 = (a2 * q1) * q3 := by rw [h1]
  have h4 : (a2 * q3) * q1 = (a3 * q2) * q1 := by rw [h2]
  have h5 : q2 * (a1 * q3) = q2 * (a3 * q1) := by grind
  exact Int.eq_of_mul_eq_mul_left (by omega) h5
/-- what the leaving row is, of the first i -/
def LeaP (last : Nat) (T : Nat → Nat → Int) (bas : Nat → Nat) (q i : Nat) (o : Option Nat) : Prop :=
  match o with
  | none => ∀ k, k < i → ¬ 0 < T k q
  | some B => B < i ∧ 0 < T B q ∧ ∀ k, k < i → 0 < T k q → T B last * T k q < T k last * T B q ∨ (T B last * T k q = T k last * T B q ∧ bas B ≤ bas k)
theorem lea_ok {m last : Nat} {T : Nat → Nat → Int} {bas : Nat → Nat} {q : Nat} : LeaP last T bas q m (lea m last T bas q) := by
  refine lp_inv (fun i o => LeaP last T bas q i o) (fun k hk => absurd hk (Nat.not_lt_zero _)) fun i o hi h => ?_
  unfold leaS
  by_cases hp : 0 < T i q
  · rw [if_pos hp]
    cases o with
    | none =>
      have h' : ∀ k, k < i → ¬ 0 < T k q := h
      rw [if_neg (by show ¬ (T i last * T i q < T i last * T i q ∨ (T i last * T i q = T i last * T i q ∧ bas i < bas i)); omega)]
      refine ⟨by show i < i + 1; omega, hp, fun k hk hk2 => ?_⟩
      have : k = i := by
        by_cases e : k = i
        · exact e
        · exact absurd hk2 (h' k (by omega))
      subst this
      exact Or.inr ⟨rfl, Nat.le_refl _⟩
    | some B =>
      obtain ⟨hB, hq, hr⟩ := h
      show LeaP last T bas q (i + 1) (if T i last * T B q < T B last * T i q ∨ (T i last * T B q = T B last * T i q ∧ bas i < bas B) then some i else some B)
      by_cases hc : T i last * T B q < T B last * T i q ∨ (T i last * T B q = T B last * T i q ∧ bas i < bas B)
      · rw [if_pos hc]
        refine ⟨by omega, hp, fun k hk hk2 => ?_⟩
        by_cases e : k = i
        · subst e; exact Or.inr ⟨rfl, Nat.le_refl _⟩
        · have h2 := hr k (by omega) hk2
          rcases hc with hc | ⟨hc, hb⟩
          · left; exact lex_lt hp hq hk2 hc (by rcases h2 with h2 | h2 <;> omega)
          · rcases h2 with h2 | ⟨h2, hb2⟩
            · left; exact lex_le hp hq hk2 hc h2
            · right; exact ⟨lex_eq hp hq hk2 hc h2, by omega⟩
      · rw [if_neg hc]
        refine ⟨by omega, hq, fun k hk hk2 => ?_⟩
        by_cases e : k = i
        · subst e
          rcases Int.lt_trichotomy (T k last * T B q) (T B last * T k q) with h3 | h3 | h3
          · exact absurd (Or.inl h3) hc
          · right; exact ⟨h3.symm, by
              by_cases h4 : bas k < bas B
              · exact absurd (Or.inr ⟨h3, h4⟩) hc
              · omega⟩
          · left; exact h3
        · exact hr k (by omega) hk2
  · rw [if_neg hp]
    cases o with
    | none =>
      intro k hk
      by_cases e : k = i
      · subst e; exact hp
      · exact h k (by omega)
    | some B =>
      obtain ⟨hB, hq, hr⟩ := h
      refine ⟨by omega, hq, fun k hk hk2 => ?_⟩
      by_cases e : k = i
      · subst e; exact absurd hk2 hp
      · exact hr k (by omega) hk2
/-! ### the pigeonhole -/
theorem pigeon : ∀ (K : Nat) (f : Nat → Nat), (∀ i, i ≤ K → f i < K) → ∃ i j, i < j ∧ f i = f j
  | 0, f, h => absurd (h 0 (Nat.le_refl _)) (Nat.not_lt_zero _)
  | K + 1, f, h => by
    by_cases hc : ∃ i, i ≤ K ∧ f i = f (K + 1)
    · obtain ⟨i, hi, e⟩ := hc
      exact ⟨i, K + 1, by omega, e⟩
    · have hn : ∀ i, i ≤ K → f i ≠ f (K + 1) := fun i hi e => hc ⟨i, hi, e⟩
      have aux : ∃ i j, i < j ∧ (i ≤ K ∧ j ≤ K) ∧ f i = f j := by
        by_cases hd : ∃ i j, i < j ∧ (i ≤ K ∧ j ≤ K) ∧ f i = f j
        · exact hd
        · exfalso
          -- the map that is capped
          have hg : ∀ i, i ≤ K → (fun i => if i ≤ K then (if f i = K then f (K + 1) else f i) else 0) i < K := fun i hi => by
            have h1 := h i (by omega)
            have h2 := h (K + 1) (by omega)
            have h3 := hn i hi
            show (if i ≤ K then (if f i = K then f (K + 1) else f i) else 0) < K
            rw [if_pos hi]
            split <;> omega
          exact absurd hd (by
            intro hd
            have : ∀ (M : Nat) (g : Nat → Nat), (∀ i, i ≤ M → g i < M) → ∃ i j, i < j ∧ j ≤ M ∧ g i = g j := by
              intro M
              induction M with
              | zero => intro g hg; exact absurd (hg 0 (Nat.le_refl _)) (Nat.not_lt_zero _)
              | succ M ih =>
                intro g hg
                by_cases hc : ∃ i, i ≤ M ∧ g i = g (M + 1)
                · obtain ⟨i, hi, e⟩ := hc
                  exact ⟨i, M + 1, by omega, by omega, e⟩
                · obtain ⟨i, j, hij, hj, e⟩ := ih (fun i => if g i = M then g (M + 1) else g i) fun i hi => by
                    have h1 := hg i (by omega)
                    have h2 := hg (M + 1) (by omega)
                    have h3 : g i ≠ g (M + 1) := fun e => hc ⟨i, hi, e⟩
                    show (if g i = M then g (M + 1) else g i) < M
                    split <;> omega
                  have h3 : g i ≠ g (M + 1) := fun e => hc ⟨i, by omega, e⟩
                  have h4 : g j ≠ g (M + 1) := fun e => hc ⟨j, by omega, e⟩
                  have e' : (if g i = M then g (M + 1) else g i) = (if g j = M then g (M + 1) else g j) := e
                  refine ⟨i, j, hij, by omega, ?_⟩
                  split at e' <;> split at e' <;> omega
            obtain ⟨i, j, hij, hj, e⟩ := this K _ hg
            have e' : (if i ≤ K then (if f i = K then f (K + 1) else f i) else 0) = (if j ≤ K then (if f j = K then f (K + 1) else f j) else 0) := e
            rw [if_pos (by omega), if_pos hj] at e'
            refine hd ⟨i, j, hij, ⟨by omega, hj⟩, ?_⟩
            have h3 := hn i (by omega)
            have h4 := hn j hj
            split at e' <;> split at e' <;> omega)
      obtain ⟨i, j, hij, _, e⟩ := aux
      exact ⟨i, j, hij, e⟩
/-- a basis as a number -/
def enc (W : Nat) (f : Nat → Nat) : Nat → Nat
  | 0 => 0
  | l + 1 => enc W f l + f l * W ^ l
theorem enc_lt {W : Nat} {f : Nat → Nat} : ∀ {m : Nat}, (∀ l, l < m → f l < W) → enc W f m < W ^ m
  | 0, _ => Nat.one_pos
  | m + 1, h => by
    have h1 := enc_lt (m := m) fun l hl => h l (by omega)
    have h2 := h m (by omega)
    show enc W f m + f m * W ^ m < W ^ m * W
    have h3 : (f m + 1) * W ^ m ≤ W * W ^ m := Nat.mul_le_mul_right _ h2
    rw [Nat.succ_mul] at h3
    rw [Nat.mul_comm (W ^ m)]; omega
theorem enc_inj {W : Nat} {f g : Nat → Nat} : ∀ {m : Nat}, (∀ l, l < m → f l < W) → (∀ l, l < m → g l < W) → enc W f m = enc W g m → ∀ l, l < m → f l = g l
  | 0, _, _, _, l, hl => absurd hl (Nat.not_lt_zero _)
  | m + 1, hf, hg, e, l, hl => by
    have h1 := enc_lt (m := m) fun l hl => hf l (by omega)
    have h2 := enc_lt (m := m) fun l hl => hg l (by omega)
    have e' : enc W f m + f m * W ^ m = enc W g m + g m * W ^ m := e
    have e1 : f m = g m := by
      rcases Nat.lt_trichotomy (f m) (g m) with h | h | h
      · have h3 : (f m + 1) * W ^ m ≤ g m * W ^ m := Nat.mul_le_mul_right _ h
        rw [Nat.succ_mul] at h3; omega
      · exact h
      · have h3 : (g m + 1) * W ^ m ≤ f m * W ^ m := Nat.mul_le_mul_right _ h
        rw [Nat.succ_mul] at h3; omega
    rw [e1] at e'
    by_cases h3 : l = m
    · subst h3; exact e1
    · exact enc_inj (m := m) (fun l hl => hf l (by omega)) (fun l hl => hg l (by omega)) (by omega) l (by omega)
/-! ### Bland's rule ends -/
structure Go (N m : Nat) (A : Nat → Nat → Bool) (b : Nat → Rat) (s : Nat → Sx) (q o : Nat → Nat) : Prop where
  inv : ∀ k, Inv N m A b (s k)
  can : ∀ k, Can N m (s k) (o k) (q k)
  neg : ∀ k, (s k).P (q k) < 0
  lst : ∀ k j, j < q k → 0 ≤ (s k).P j
  tie : ∀ k i, i < m → 0 < (s k).T i (q k) → (s k).T (o k) (N + m) * (s k).T i (q k) = (s k).T i (N + m) * (s k).T (o k) (q k) → (s k).bas (o k) ≤ (s k).bas i
  nxt : ∀ k, s (k + 1) = stp (s k) (o k) (q k)
def Bk (m : Nat) (s : Nat → Sx) (k j : Nat) : Prop := ∃ l, l < m ∧ (s k).bas l = j
section
variable {N m : Nat} {A : Nat → Nat → Bool} {b : Nat → Rat} {s : Nat → Sx} {q o : Nat → Nat}
theorem Go.bas (G : Go N m A b s q o) (k l : Nat) : (s (k + 1)).bas l = if l = o k then q k else (s k).bas l := by rw [G.nxt]; rfl
theorem Go.qnb (G : Go N m A b s q o) (k : Nat) : ¬ Bk m s k (q k) := fun ⟨l, hl, e⟩ => by
  have h1 := (G.inv k).pb hl
  have h2 := G.neg k
  rw [e] at h1; omega
theorem Go.enter (G : Go N m A b s q o) {k j : Nat} (h1 : ¬ Bk m s k j) : ∀ d, Bk m s (k + d) j → ∃ i, k ≤ i ∧ i < k + d ∧ q i = j
  | 0, h2 => absurd h2 h1
  | d + 1, ⟨l, hl, e⟩ => by
    have e' := G.bas (k + d) l
    rw [show k + (d + 1) = k + d + 1 by omega] at e
    rw [e] at e'
    by_cases h : l = o (k + d)
    · rw [if_pos h] at e'; exact ⟨k + d, by omega, by omega, e'.symm⟩
    · rw [if_neg h] at e'
      obtain ⟨i, h2, h3, h4⟩ := G.enter h1 d ⟨l, hl, e'.symm⟩
      exact ⟨i, h2, by omega, h4⟩
theorem Go.leave (G : Go N m A b s q o) {k j : Nat} (h1 : Bk m s k j) : ∀ d, ¬ Bk m s (k + d) j → ∃ i, k ≤ i ∧ i < k + d ∧ (s i).bas (o i) = j
  | 0, h2 => absurd h1 h2
  | d + 1, h2 => by
    by_cases h : Bk m s (k + d) j
    · obtain ⟨l, hl, e⟩ := h
      by_cases h3 : l = o (k + d)
      · subst h3; exact ⟨k + d, by omega, by omega, e⟩
      · exact absurd ⟨l, hl, by rw [show k + (d + 1) = k + d + 1 by omega, G.bas, if_neg h3]; exact e⟩ h2
    · obtain ⟨i, h3, h4, h5⟩ := G.leave h1 d h
      exact ⟨i, h3, by omega, h5⟩
theorem argmax (q : Nat → Nat) (a : Nat) : ∀ d, ∃ k, a ≤ k ∧ k < a + (d + 1) ∧ ∀ i, a ≤ i → i < a + (d + 1) → q i ≤ q k
  | 0 => ⟨a, Nat.le_refl _, by omega, fun i h1 h2 => (show i = a by omega) ▸ Nat.le_refl _⟩
  | d + 1 => by
    obtain ⟨k, h1, h2, h3⟩ := argmax q a d
    by_cases h : q k ≤ q (a + (d + 1))
    · refine ⟨a + (d + 1), by omega, by omega, fun i h4 h5 => ?_⟩
      by_cases e : i = a + (d + 1)
      · subst e; exact Nat.le_refl _
      · exact Nat.le_trans (h3 i h4 (by omega)) h
    · refine ⟨k, h1, by omega, fun i h4 h5 => ?_⟩
      by_cases e : i = a + (d + 1)
      · subst e; omega
      · exact h3 i h4 (by omega)
theorem Inv.same {s s' : Sx} (h : Inv N m A b s) (h' : Inv N m A b s') (e : ∀ l, l < m → s.bas l = s'.bas l) : s.sc = s'.sc ∧ (∀ l j, l < m → j < N + m + 1 → s.T l j = s'.T l j) ∧ ∀ j, j < N + m + 1 → s.P j = s'.P j := by
  have e1 : s.sc = s'.sc := by
    rw [h.sc, h'.sc]
    exact dt_congr fun i r hi _ => by rw [e i hi]
  have e2 : ∀ l j, l < m → j < N + m + 1 → s.T l j = s'.T l j := fun l j hl hj => by
    rw [h.td hl hj, h'.td hl hj]
    refine dt_congr fun i r hi _ => ?_
    unfold up
    split
    · rfl
    · show Vx N m A b (s.bas i) r = Vx N m A b (s'.bas i) r
      rw [e i hi]
  refine ⟨e1, e2, fun j hj => ?_⟩
  rw [h.p j hj, h'.p j hj, e1]
  congr 1
  exact sg_congr fun l hl => by rw [e l hl, e2 l j hl hj]
theorem Go.no_cycle (G : Go N m A b s q o) {a d : Nat} (hd : 0 < d) (e : ∀ l, l < m → (s a).bas l = (s (a + d)).bas l) : False := by
  obtain ⟨sc_ab, T_ab, P_ab⟩ := (G.inv a).same (G.inv (a + d)) e
  have Bab : ∀ j, Bk m s a j ↔ Bk m s (a + d) j := fun j => ⟨fun ⟨l, hl, h⟩ => ⟨l, hl, by rw [← e l hl]; exact h⟩, fun ⟨l, hl, h⟩ => ⟨l, hl, by rw [e l hl]; exact h⟩⟩
  -- the value does not move
  have key : ∀ k, ((s (k + 1)).P (N + m) * (s a).sc - (s a).P (N + m) * (s (k + 1)).sc) * (s k).sc = ((s k).P (N + m) * (s a).sc - (s a).P (N + m) * (s k).sc) * (s (k + 1)).sc + (- (s k).P (q k) * (s k).T (o k) (N + m)) * (s a).sc := fun k => by
    have h1 := (G.inv k).pst (G.can k) (j := N + m) (by omega)
    have h2 : (s (k + 1)).sc = (s k).T (o k) (q k) := by rw [G.nxt]; rfl
    rw [← G.nxt] at h1
    rw [h2]
    grind
  have dnn : ∀ k, 0 ≤ - (s k).P (q k) * (s k).T (o k) (N + m) := fun k => Int.mul_nonneg (by have := G.neg k; omega) ((G.inv k).nn _ (G.can k).om)
  have enn : ∀ n, 0 ≤ (s (a + n)).P (N + m) * (s a).sc - (s a).P (N + m) * (s (a + n)).sc := fun n => by
    induction n with
    | zero => show 0 ≤ (s a).P (N + m) * (s a).sc - (s a).P (N + m) * (s a).sc; omega
    | succ n ih =>
      have h1 := key (a + n)
      have h2 := Int.mul_nonneg ih (Int.le_of_lt (G.inv (a + n + 1)).ps)
      have h3 := Int.mul_nonneg (dnn (a + n)) (Int.le_of_lt (G.inv a).ps)
      have h4 : 0 ≤ ((s (a + n + 1)).P (N + m) * (s a).sc - (s a).P (N + m) * (s (a + n + 1)).sc) * (s (a + n)).sc := by rw [h1]; omega
      exact Int.nonneg_of_mul_nonneg_left h4 (G.inv (a + n)).ps
  have epos : ∀ n0, 0 < - (s (a + n0)).P (q (a + n0)) * (s (a + n0)).T (o (a + n0)) (N + m) → ∀ n, 0 < (s (a + (n0 + 1 + n))).P (N + m) * (s a).sc - (s a).P (N + m) * (s (a + (n0 + 1 + n))).sc := fun n0 h0 n => by
    induction n with
    | zero =>
      have h1 := key (a + n0)
      have h2 := Int.mul_nonneg (enn n0) (Int.le_of_lt (G.inv (a + n0 + 1)).ps)
      have h3 := Int.mul_pos h0 (G.inv a).ps
      have h4 : 0 < ((s (a + n0 + 1)).P (N + m) * (s a).sc - (s a).P (N + m) * (s (a + n0 + 1)).sc) * (s (a + n0)).sc := by rw [h1]; omega
      exact Int.pos_of_mul_pos_left h4 (G.inv (a + n0)).ps
    | succ n ih =>
      have h1 := key (a + (n0 + 1 + n))
      have h2 := Int.mul_pos ih (G.inv (a + (n0 + 1 + n) + 1)).ps
      have h3 := Int.mul_nonneg (dnn (a + (n0 + 1 + n))) (Int.le_of_lt (G.inv a).ps)
      have h4 : 0 < ((s (a + (n0 + 1 + n) + 1)).P (N + m) * (s a).sc - (s a).P (N + m) * (s (a + (n0 + 1 + n) + 1)).sc) * (s (a + (n0 + 1 + n))).sc := by rw [h1]; omega
      exact Int.pos_of_mul_pos_left h4 (G.inv (a + (n0 + 1 + n))).ps
  have deg : ∀ n, n < d → (s (a + n)).T (o (a + n)) (N + m) = 0 := fun n hn => by
    have h1 := (G.inv (a + n)).nn _ (G.can (a + n)).om
    by_cases h2 : (s (a + n)).T (o (a + n)) (N + m) = 0
    · exact h2
    · exfalso
      have h3 := epos n (Int.mul_pos (by have := G.neg (a + n); omega) (by omega)) (d - (n + 1))
      rw [show n + 1 + (d - (n + 1)) = d by omega, ← P_ab (N + m) (by omega), ← sc_ab] at h3
      omega
  -- what moves is 0
  have zstep : ∀ n j, n < d → ((∀ l, l < m → (s (a + n)).bas l = j → (s (a + n)).T l (N + m) = 0) ∨ q (a + n) = j) → ∀ l, l < m → (s (a + n + 1)).bas l = j → (s (a + n + 1)).T l (N + m) = 0 := fun n j hn hz l hl hb => by
    rw [G.bas] at hb
    by_cases h : l = o (a + n)
    · subst h
      rw [G.nxt]
      show (if _ = _ then (s (a + n)).T (o (a + n)) (N + m) else _) = 0
      rw [if_pos rfl]; exact deg n hn
    · rw [if_neg h] at hb
      have h0 : (s (a + n)).T l (N + m) = 0 := by
        rcases hz with hz | hz
        · exact hz l hl hb
        · exact absurd ⟨l, hl, by rw [hb, hz]⟩ (G.qnb (a + n))
      have h1 := (G.inv (a + n)).tstep (G.can (a + n)) hl h (j := N + m) (by omega)
      rw [h0, deg n hn, ← G.nxt] at h1
      have h2 := (G.inv (a + n)).ps
      have h3 : (s (a + n)).sc * (s (a + n + 1)).T l (N + m) = (s (a + n)).sc * 0 := by rw [h1]; grind
      exact Int.eq_of_mul_eq_mul_left (by omega) h3
  have zfrom : ∀ n j, (∀ l, l < m → (s (a + n)).bas l = j → (s (a + n)).T l (N + m) = 0) → ∀ c, n + c ≤ d → ∀ l, l < m → (s (a + (n + c))).bas l = j → (s (a + (n + c))).T l (N + m) = 0 := fun n j h c => by
    induction c with
    | zero => intro _; exact h
    | succ c ih => intro hc; exact zstep (n + c) j (by omega) (Or.inl (ih (by omega)))
  have zall : ∀ i j, i < d → q (a + i) = j → ∀ n, n ≤ d → ∀ l, l < m → (s (a + n)).bas l = j → (s (a + n)).T l (N + m) = 0 := fun i j hi hj n hn => by
    have h1 := zstep i j hi (Or.inr hj)
    have h2 : ∀ n, i + 1 ≤ n → n ≤ d → ∀ l, l < m → (s (a + n)).bas l = j → (s (a + n)).T l (N + m) = 0 := fun n h3 h4 => by
      have := zfrom (i + 1) j h1 (n - (i + 1)) (by omega)
      rwa [show i + 1 + (n - (i + 1)) = n by omega] at this
    have h3 : ∀ l, l < m → (s (a + 0)).bas l = j → (s (a + 0)).T l (N + m) = 0 := fun l hl hb => by
      show (s a).T l (N + m) = 0
      rw [T_ab l (N + m) hl (by omega)]
      exact h2 d (by omega) (Nat.le_refl _) l hl (by rw [← e l hl]; exact hb)
    have := zfrom 0 j h3 n (by omega)
    rwa [Nat.zero_add] at this
  -- what is in one basis and not in another one enters
  have fick : ∀ n n' j, n ≤ d → n' ≤ d → Bk m s (a + n) j → ¬ Bk m s (a + n') j → ∃ i, i < d ∧ q (a + i) = j := fun n n' j hn hn' h1 h2 => by
    have ent : ∀ u v, u ≤ v → v ≤ d → ¬ Bk m s (a + u) j → Bk m s (a + v) j → ∃ i, i < d ∧ q (a + i) = j := fun u v huv hv h3 h4 => by
      obtain ⟨i, h5, h6, h7⟩ := G.enter h3 (v - u) (by rw [show a + u + (v - u) = a + v by omega]; exact h4)
      exact ⟨i - a, by omega, by rw [show a + (i - a) = i by omega]; exact h7⟩
    by_cases h3 : n' ≤ n
    · exact ent n' n h3 hn h2 h1
    · by_cases h4 : Bk m s a j
      · exact ent n' d hn' (Nat.le_refl _) h2 ((Bab j).mp h4)
      · exact ent 0 n (Nat.zero_le _) hn h4 h1
  -- the greatest one that moves
  obtain ⟨k1, h1a, h1d, hmax⟩ := argmax q a (d - 1)
  rw [show d - 1 + 1 = d by omega] at h1d hmax
  have hmax' : ∀ i, i < d → q (a + i) ≤ q k1 := fun i hi => hmax (a + i) (by omega) (by omega)
  have hk2 : ∃ k2, a ≤ k2 ∧ k2 < a + d ∧ (s k2).bas (o k2) = q k1 := by
    by_cases h : Bk m s a (q k1)
    · obtain ⟨i, h2, h3, h4⟩ := G.leave h (k1 - a) (by rw [show a + (k1 - a) = k1 by omega]; exact G.qnb k1)
      exact ⟨i, h2, by omega, h4⟩
    · have hb : Bk m s (k1 + 1) (q k1) := ⟨o k1, (G.can k1).om, by rw [G.bas, if_pos rfl]⟩
      obtain ⟨i, h2, h3, h4⟩ := G.leave hb (a + d - (k1 + 1)) (by rw [show k1 + 1 + (a + d - (k1 + 1)) = a + d by omega]; exact fun z => h ((Bab _).mpr z))
      exact ⟨i, by omega, by omega, h4⟩
  obtain ⟨k2, h2a, h2d, ht⟩ := hk2
  have hst : q k2 ≠ q k1 := fun z => G.qnb k2 ⟨o k2, (G.can k2).om, by rw [ht, z]⟩
  have hst2 : q k2 < q k1 := by
    have := hmax k2 h2a h2d
    omega
  have hP2s := G.lst k1 (q k2) hst2
  have hqN := (G.can k2).qN
  have hqN1 := (G.can k1).qN
  have h2 := (G.inv k2).two (G.inv k1) (q := q k2) (by omega)
  have h3 : 0 < sg m fun l => (s k2).T l (q k2) * (s k1).P ((s k2).bas l) := by
    have h4 := Int.mul_nonneg (Int.le_of_lt (G.inv k2).ps) hP2s
    have h5 : (s k1).sc * (s k2).P (q k2) < 0 := Int.mul_neg_of_pos_of_neg (G.inv k1).ps (G.neg k2)
    omega
  obtain ⟨l, hl, hpos⟩ := sg_pos_ex h3
  have hlo : l ≠ o k2 := fun z => by
    subst z
    rw [ht] at hpos
    have h4 := (G.can k2).pos
    have h5 := Int.mul_neg_of_pos_of_neg h4 (G.neg k1)
    omega
  have hjt : (s k2).bas l ≠ q k1 := fun z => hlo ((G.inv k2).inj hl (G.can k2).om (by rw [z, ht]))
  have hnb : ¬ Bk m s k1 ((s k2).bas l) := fun ⟨l', hl', e'⟩ => by
    have h4 := (G.inv k1).pb hl'
    rw [e'] at h4
    rw [h4, Int.mul_zero] at hpos
    omega
  obtain ⟨i, hi, hqi⟩ := fick (k2 - a) (k1 - a) ((s k2).bas l) (by omega) (by omega) (by rw [show a + (k2 - a) = k2 by omega]; exact ⟨l, hl, rfl⟩) (by rw [show a + (k1 - a) = k1 by omega]; exact hnb)
  have hlt : (s k2).bas l < q k1 := by
    have := hmax' i hi
    omega
  have hPj := G.lst k1 _ hlt
  have hTl : 0 < (s k2).T l (q k2) := by
    by_cases h4 : 0 < (s k2).T l (q k2)
    · exact h4
    · have h5 : 0 ≤ (- (s k2).T l (q k2)) * (s k1).P ((s k2).bas l) := Int.mul_nonneg (by omega) hPj
      rw [Int.neg_mul] at h5
      omega
  have hz : (s k2).T l (N + m) = 0 := by
    have := zall i ((s k2).bas l) hi hqi (k2 - a) (by omega) l hl (by rw [show a + (k2 - a) = k2 by omega])
    rwa [show a + (k2 - a) = k2 by omega] at this
  have hzo : (s k2).T (o k2) (N + m) = 0 := by
    have := deg (k2 - a) (by omega)
    rwa [show a + (k2 - a) = k2 by omega] at this
  have := G.tie k2 l hl hTl (by rw [hz, hzo]; simp)
  omega
theorem Go.no (G : Go N m A b s q o) : False := by
  obtain ⟨i, j, hij, e⟩ := pigeon ((N + m) ^ m) (fun k => enc (N + m) (s k).bas m) fun k _ => enc_lt fun l hl => (G.inv k).bs l hl
  refine G.no_cycle (a := i) (d := j - i) (by omega) ?_
  rw [show i + (j - i) = j by omega]
  exact enc_inj (fun l hl => (G.inv i).bs l hl) (fun l hl => (G.inv j).bs l hl) e
end
end K48

namespace K48
section
variable {N m : Nat} {A : Nat → Nat → Bool} {b : Nat → Rat} {s : Sx}
theorem enS_first {N : Nat} {s : Sx} (h : enS N s ≠ []) : atS N s < N ∧ s.P (atS N s) < 0 ∧ ∀ j, j < atS N s → 0 ≤ s.P j := by
  have hp : (enS N s).Pairwise (· < ·) := (List.pairwise_lt_range).filter _
  have hm : ∀ j, j ∈ enS N s ↔ j < N ∧ s.P j < 0 := fun j => by unfold enS; rw [List.mem_filter, List.mem_range, decide_eq_true_eq]
  unfold atS
  generalize enS N s = l at *
  match l, h with
  | q :: r, _ =>
    show q < N ∧ s.P q < 0 ∧ ∀ j, j < q → 0 ≤ s.P j
    have h1 := (hm q).mp (List.mem_cons_self ..)
    refine ⟨h1.1, h1.2, fun j hj => ?_⟩
    by_cases h2 : s.P j < 0
    · have h3 := (hm j).mpr ⟨by omega, h2⟩
      rcases List.mem_cons.mp h3 with h4 | h4
      · omega
      · have := List.rel_of_pairwise_cons hp h4
        omega
    · omega
theorem cst01 (N m j : Nat) : cst N m j = 0 ∨ cst N m j = 1 := by unfold cst; split <;> simp
/-- a step can be made -/
theorem Inv.can (h : Inv N m A b s) (he : enS N s ≠ []) : (∃ o, lea m (N + m) s.T s.bas (atS N s) = some o) ∧ Can N m s (outS m N s) (atS N s) ∧ ∀ i, i < m → 0 < s.T i (atS N s) → s.T (outS m N s) (N + m) * s.T i (atS N s) = s.T i (N + m) * s.T (outS m N s) (atS N s) → s.bas (outS m N s) ≤ s.bas i := by
  obtain ⟨hq, hneg, _⟩ := enS_first he
  have hL : LeaP (N + m) s.T s.bas (atS N s) m (lea m (N + m) s.T s.bas (atS N s)) := lea_ok
  unfold outS
  generalize atS N s = q at *
  generalize lea m (N + m) s.T s.bas q = o at *
  cases o with
  | none =>
    exfalso
    rw [h.p q (by omega)] at hneg
    have e : cst N m q = 0 := if_neg (by omega)
    rw [e, Int.mul_zero] at hneg
    obtain ⟨l, hl, hp⟩ := sg_pos_ex (n := m) (f := fun l => cst N m (s.bas l) * s.T l q) (by omega)
    refine hL l hl ?_
    rcases cst01 N m (s.bas l) with h1 | h1
    · rw [h1] at hp; omega
    · rw [h1] at hp; omega
  | some o =>
    obtain ⟨ho, hpos, hr⟩ := hL
    refine ⟨⟨o, rfl⟩, ⟨ho, hq, hpos, fun i hi h1 => ?_⟩, fun i hi h1 h2 => ?_⟩
    · show s.T o (N + m) * s.T i q ≤ s.T i (N + m) * s.T o q
      rcases hr i hi h1 with h2 | h2 <;> omega
    · have h2' : s.T o (N + m) * s.T i q = s.T i (N + m) * s.T o q := h2
      rcases hr i hi h1 with h3 | h3
      · omega
      · exact h3.2
theorem first_of {p : Nat → Prop} (h : ∃ k, p k) : ∃ k, p k ∧ ∀ i, i < k → ¬ p i := by
  obtain ⟨k, hk⟩ := h
  induction k using Nat.strongRecOn with
  | ind k ih =>
    by_cases h : ∃ i, i < k ∧ p i
    · obtain ⟨i, hi, hp⟩ := h; exact ih i hi hp
    · exact ⟨k, hk, fun i hi hp => h ⟨i, hi, hp⟩⟩
theorem run_inv (hb : ∀ i, i < m → 0 ≤ (b i).num) : ∀ k, (∀ i, i < k → enS N (runX N m A b i) ≠ []) → Inv N m A b (runX N m A b k)
  | 0, _ => Inv.start hb
  | k + 1, h => by
    have h1 := run_inv hb k fun i hi => h i (by omega)
    show Inv N m A b (stepX m N (runX N m A b k))
    rw [stepX_stp]
    exact h1.step (h1.can (h k (by omega))).2.1
theorem run_ends (hb : ∀ i, i < m → 0 ≤ (b i).num) : ∃ k, (∀ i, i < k → enS N (runX N m A b i) ≠ []) ∧ enS N (runX N m A b k) = [] ∧ ∀ i, i ≤ k → Inv N m A b (runX N m A b i) := by
  have h : ∃ k, enS N (runX N m A b k) = [] := by
    by_cases h : ∃ k, enS N (runX N m A b k) = []
    · exact h
    · exfalso
      have hn : ∀ k, enS N (runX N m A b k) ≠ [] := fun k z => h ⟨k, z⟩
      have hi : ∀ k, Inv N m A b (runX N m A b k) := fun k => run_inv hb k fun i _ => hn i
      exact Go.no (N := N) (m := m) (A := A) (b := b) (s := runX N m A b) (q := fun k => atS N (runX N m A b k)) (o := fun k => outS m N (runX N m A b k)) ⟨hi, fun k => ((hi k).can (hn k)).2.1, fun k => (enS_first (hn k)).2.1, fun k j hj => (enS_first (hn k)).2.2 j hj, fun k => ((hi k).can (hn k)).2.2, fun k => stepX_stp m N _⟩
  obtain ⟨k, h1, h2⟩ := first_of h
  exact ⟨k, h2, h1, fun i hi => run_inv hb i fun j hj => h2 j (by omega)⟩
/-! ### bounds -/
theorem sg_absB {n : Nat} {f : Nat → Int} {B : Nat} (h : ∀ i, i < n → (f i).natAbs ≤ B) : (sg n f).natAbs ≤ n * B := sg_abs h
/-- what all numbers of the first table are -/
structure Sz (N m : Nat) (A : Nat → Nat → Bool) (b : Nat → Rat) (K X : Nat) : Prop where
  k1 : 1 ≤ K
  d : ∀ i, i < m → (b i).den ≤ K
  x : ∀ i, i < m → (b i).num.natAbs ≤ X
  x1 : 1 ≤ X
theorem Sz.v {K X : Nat} (z : Sz N m A b K X) {j r : Nat} (hj : j < N + m) (hr : r < m) : (Vx N m A b j r).natAbs ≤ K := by
  have := z.d r hr
  have := z.k1
  show (T0 N m A b r j).natAbs ≤ K
  unfold T0
  split
  · split
    · rw [Int.natAbs_natCast]; assumption
    · exact Nat.zero_le _
  · split <;> simp [*]
theorem Sz.vx {K X : Nat} (z : Sz N m A b K X) {r : Nat} (hr : r < m) : (Vx N m A b (N + m) r).natAbs ≤ X := by
  show (T0 N m A b r (N + m)).natAbs ≤ X
  unfold T0
  rw [if_neg (by omega), if_neg (by omega)]
  exact z.x r hr
theorem Inv.scB {K X : Nat} (h : Inv N m A b s) (z : Sz N m A b K X) : s.sc.natAbs ≤ fct m * K ^ m := by
  rw [h.sc]
  exact dt_bd fun i r hi hr => z.v (h.bs i hi) hr
theorem Inv.tB {K X : Nat} (h : Inv N m A b s) (z : Sz N m A b K X) {i j : Nat} (hi : i < m) (hj : j < N + m) : (s.T i j).natAbs ≤ fct m * K ^ m := by
  rw [h.td hi (by omega)]
  refine dt_bd fun k r hk hr => ?_
  unfold up
  split
  · exact z.v hj hr
  · exact z.v (h.bs k hk) hr
theorem Inv.tL {K X : Nat} (h : Inv N m A b s) (z : Sz N m A b K X) {i : Nat} (hi : i < m) : (s.T i (N + m)).natAbs ≤ m * (X * (fct m * K ^ m)) := by
  rw [h.dual hi (by omega)]
  refine sg_abs fun r hr => ?_
  rw [Int.natAbs_mul]
  exact Nat.mul_le_mul (z.vx hr) (h.tB z hi (by omega))
theorem Inv.tA {K X : Nat} (h : Inv N m A b s) (z : Sz N m A b K X) {i j : Nat} (hi : i < m) (hj : j < N + m + 1) : (s.T i j).natAbs ≤ m * (X * (fct m * K ^ m)) := by
  by_cases e : j < N + m
  · refine Nat.le_trans (h.tB z hi e) ?_
    have h1 : 1 * (1 * (fct m * K ^ m)) ≤ m * (X * (fct m * K ^ m)) := Nat.mul_le_mul (show 1 ≤ m by omega) (Nat.mul_le_mul_right _ z.x1)
    rwa [Nat.one_mul, Nat.one_mul] at h1
  · have : j = N + m := by omega
    subst this; exact h.tL z hi
theorem Inv.pB {K X : Nat} (h : Inv N m A b s) (z : Sz N m A b K X) {j : Nat} (hj : j < N + m + 1) : (s.P j).natAbs ≤ fct m * K ^ m + m * (m * (X * (fct m * K ^ m))) := by
  rw [h.p j hj]
  have h1 : (s.sc * cst N m j).natAbs ≤ fct m * K ^ m := by
    have := h.scB z
    rcases cst01 N m j with e | e <;> rw [e] <;> simp [*]
  have h2 : (sg m fun l => cst N m (s.bas l) * s.T l j).natAbs ≤ m * (m * (X * (fct m * K ^ m))) := sg_abs fun l hl => by
    have := h.tA z hl hj
    rcases cst01 N m (s.bas l) with e | e <;> rw [e] <;> simp [*]
  omega
theorem fct_mono {a c : Nat} (h : a ≤ c) : fct a ≤ fct c := by
  induction c with
  | zero => have : a = 0 := by omega
            subst this; exact Nat.le_refl _
  | succ c ih =>
    by_cases e : a = c + 1
    · subst e; exact Nat.le_refl _
    · refine Nat.le_trans (ih (by omega)) ?_
      show fct c ≤ (c + 1) * fct c
      have := Nat.mul_le_mul_right (fct c) (show 1 ≤ c + 1 by omega)
      rwa [Nat.one_mul] at this
theorem few_bits {m : Nat} (hm : m ≤ 10) : fct m * 3 ^ m < 2 ^ 38 := by
  refine Nat.lt_of_le_of_lt (Nat.mul_le_mul (fct_mono hm) (Nat.pow_le_pow_right (by decide) hm)) ?_
  decide +kernel
/-- all numbers of the tables have few bits -/
structure Few (N m : Nat) (s : Sx) : Prop where
  sc : s.sc.natAbs < 2 ^ 38
  t : ∀ i j, i < m → j < N + m + 1 → (s.T i j).natAbs < 2 ^ 58
  p : ∀ j, j < N + m + 1 → (s.P j).natAbs < 2 ^ 62
theorem Inv.few (h : Inv N m A b s) (z : Sz N m A b 3 (2 ^ 16)) (hm : m ≤ 10) : Few N m s := by
  have hF := few_bits hm
  have e1 : m * (2 ^ 16 * (fct m * 3 ^ m)) ≤ 10 * (2 ^ 16 * 2 ^ 38) := Nat.mul_le_mul hm (Nat.mul_le_mul_left _ (by omega))
  have e2 : m * (m * (2 ^ 16 * (fct m * 3 ^ m))) ≤ 10 * (10 * (2 ^ 16 * 2 ^ 38)) := Nat.mul_le_mul hm e1
  refine ⟨Nat.lt_of_le_of_lt (h.scB z) hF, fun i j hi hj => ?_, fun j hj => ?_⟩
  · have := h.tA z hi hj; omega
  · have := h.pB z hj; omega
theorem runX_ok (z : Sz N m A b 3 (2 ^ 16)) (hm : m ≤ 10) (hb : ∀ i, i < m → 0 ≤ (b i).num) : ∃ k, RunX N m A b k ∧ Inv N m A b (runX N m A b k) ∧ Few N m (runX N m A b k) ∧ ∀ j, j < N → 0 ≤ (runX N m A b k).P j := by
  obtain ⟨k, h1, h2, h3⟩ := run_ends (N := N) (A := A) hb
  have hk := h3 k (Nat.le_refl _)
  refine ⟨k, ⟨h1, h2, fun i hi => ?_⟩, hk, hk.few z hm, fun j hj => ?_⟩
  · have hI := h3 i hi
    have hF := hI.few z hm
    have up : ∀ {x c : Nat}, c ≤ 62 → x < 2 ^ c → x < 2 ^ eM := fun {x c} hc hx => Nat.lt_of_lt_of_le hx (Nat.pow_le_pow_right (by decide) (Nat.le_trans hc (by decide)))
    exact ⟨hI.ps, up (by decide) hF.sc, fun i j h4 h5 => up (by decide) (hF.t i j h4 h5), fun j h4 => up (Nat.le_refl _) (hF.p j h4), fun he => (hI.can he).1⟩
  · by_cases h4 : (runX N m A b k).P j < 0
    · have : j ∈ enS N (runX N m A b k) := by unfold enS; rw [List.mem_filter, List.mem_range, decide_eq_true_eq]; exact ⟨hj, h4⟩
      rw [h2] at this
      cases this
    · omega
end
end K48

namespace K48
/-- a finite sum of rationals -/
def rs : Nat → (Nat → Rat) → Rat
  | 0, _ => 0
  | n + 1, f => rs n f + f n
theorem rs_congr {n : Nat} {f g : Nat → Rat} (h : ∀ i, i < n → f i = g i) : rs n f = rs n g := by
  induction n with
  | zero => rfl
  | succ n ih => show rs n f + f n = rs n g + g n; rw [ih fun i hi => h i (by omega), h n (by omega)]
theorem rs_zero {n : Nat} {f : Nat → Rat} (h : ∀ i, i < n → f i = 0) : rs n f = 0 := by
  induction n with
  | zero => rfl
  | succ n ih => show rs n f + f n = 0; rw [ih fun i hi => h i (by omega), h n (by omega)]; exact Rat.add_zero 0
theorem rs_add {n : Nat} {f g : Nat → Rat} : rs n (fun i => f i + g i) = rs n f + rs n g := by
  induction n with
  | zero => exact (Rat.add_zero 0).symm
  | succ n ih => show rs n (fun i => f i + g i) + (f n + g n) = (rs n f + f n) + (rs n g + g n); rw [ih]; grind
theorem rs_mul {n : Nat} {f : Nat → Rat} (c : Rat) : rs n (fun i => c * f i) = c * rs n f := by
  induction n with
  | zero => show (0 : Rat) = c * 0; grind
  | succ n ih => show rs n (fun i => c * f i) + c * f n = c * (rs n f + f n); rw [ih]; grind
theorem rs_one {n c : Nat} {f : Nat → Rat} (hc : c < n) (h : ∀ i, i < n → i ≠ c → f i = 0) : rs n f = f c := by
  induction n with
  | zero => omega
  | succ n ih =>
    show rs n f + f n = f c
    by_cases e : c = n
    · subst e; rw [rs_zero fun i hi => h i (by omega) (by omega)]; grind
    · rw [ih (by omega) fun i hi h1 => h i (by omega) h1, h n (by omega) (by omega)]; grind
theorem rs_cast {n : Nat} {f : Nat → Int} : ((sg n f : Int) : Rat) = rs n fun i => ((f i : Int) : Rat) := by
  induction n with
  | zero => rfl
  | succ n ih => show ((sg n f + f n : Int) : Rat) = rs n _ + _; rw [Rat.intCast_add, ih]
theorem rs_np {n : Nat} {f : Nat → Rat} (h : ∀ i, i < n → f i ≤ 0) : rs n f ≤ 0 := by
  induction n with
  | zero => exact Rat.le_refl
  | succ n ih => show rs n f + f n ≤ 0; have := ih fun i hi => h i (by omega); have := h n (by omega); grind
theorem np_of {r c : Rat} (hc : 0 < c) (h : r * c ≤ 0) : r ≤ 0 := by
  by_cases h1 : r ≤ 0
  · exact h1
  · have := Rat.mul_pos (show 0 < r by grind) hc
    grind
theorem ps_of {r c : Rat} (hc : 0 < c) (h : 0 < r * c) : 0 < r := by
  by_cases h1 : 0 < r
  · exact h1
  · have := Rat.mul_nonneg (show 0 ≤ -r by grind) (show 0 ≤ c by grind)
    grind
theorem eq_of {r t c : Rat} (hc : 0 < c) (h : r * c = t * c) : r = t := by
  have h1 : (r - t) * c = 0 := by grind
  rcases Rat.mul_eq_zero.mp h1 with h2 | h2 <;> grind
theorem dv_mul {a c : Int} (hc : 0 < c) : Rat.divInt a c * (c : Rat) = (a : Rat) := by
  rw [Rat.divInt_eq_div]
  exact Rat.div_mul_cancel fun z => by have := Rat.intCast_eq_zero_iff.mp z; omega
theorem den_mul (q : Rat) : ((q.den : Int) : Rat) * q = ((q.num : Int) : Rat) := by
  have h := dv_mul (a := q.num) (c := (q.den : Int)) (by have := q.den_pos; omega)
  rw [Rat.num_divInt_den] at h
  rw [Rat.mul_comm]; exact h
theorem cast_pos {c : Int} (h : 0 < c) : (0 : Rat) < (c : Rat) := Rat.intCast_pos.mpr h
section
variable {N m : Nat} {A : Nat → Nat → Bool} {b : Nat → Rat} {s : Sx}
def fuV (N : Nat) (b : Nat → Rat) (s : Sx) (i : Nat) : Rat := Rat.divInt (((b i).den : Int) * (s.sc - s.P (N + i))) s.sc
theorem fun_np (h : Inv N m A b s) {j : Nat} (hj : j < N) (hp : 0 ≤ s.P j) : rs m (fun i => if A i j = true then fuV N b s i else 0) ≤ 0 := by
  refine np_of (cast_pos h.ps) ?_
  rw [Rat.mul_comm, ← rs_mul]
  have e : rs m (fun i => (s.sc : Rat) * (if A i j = true then fuV N b s i else 0)) = rs m fun i => ((mul_ N m s i * Vx N m A b j i : Int) : Rat) := by
    refine rs_congr fun i hi => ?_
    have e1 : Vx N m A b j i = if A i j = true then ((b i).den : Int) else 0 := if_pos hj
    rw [e1, h.pi hi]
    split
    · rw [Rat.mul_comm]; unfold fuV; rw [dv_mul h.ps, Int.mul_comm]
    · rw [Int.mul_zero]; grind
  rw [e, ← rs_cast]
  have h1 := h.pm (j := j) (by omega)
  have h2 : cst N m j = 0 := if_neg (by omega)
  rw [h2, Int.mul_zero] at h1
  exact Rat.intCast_nonpos.mpr (by omega)
theorem fun_ps (h : Inv N m A b s) (hp : s.P (N + m) < 0) : 0 < rs m (fun i => fuV N b s i * b i) := by
  refine ps_of (cast_pos h.ps) ?_
  rw [Rat.mul_comm, ← rs_mul]
  have e : rs m (fun i => (s.sc : Rat) * (fuV N b s i * b i)) = rs m fun i => ((mul_ N m s i * Vx N m A b (N + m) i : Int) : Rat) := by
    refine rs_congr fun i hi => ?_
    have e1 : Vx N m A b (N + m) i = (b i).num := by
      show T0 N m A b i (N + m) = _
      unfold T0
      rw [if_neg (by omega), if_neg (by omega)]
    rw [e1, h.pi hi]
    have e2 : fuV N b s i * (s.sc : Rat) = ((((b i).den : Int) * (s.sc - s.P (N + i)) : Int) : Rat) := dv_mul h.ps
    have e3 := den_mul (b i)
    rw [Rat.intCast_mul] at e2
    rw [Rat.intCast_mul, ← e3]
    grind
  rw [e, ← rs_cast]
  have h1 := h.pm (j := N + m) (by omega)
  have h2 : cst N m (N + m) = 0 := if_neg (by omega)
  rw [h2, Int.mul_zero] at h1
  exact Rat.intCast_pos.mpr (by omega)
def wN (m N : Nat) (s : Sx) (i j : Nat) : Int := sg i fun l => if s.bas l = j then s.T l (N + m) else 0
theorem wX_eq (h : Inv N m A b s) {j : Nat} (hj : j < N) : wX m N s j = Rat.divInt (wN m N s m j) s.sc := by
  unfold wX
  refine lp_inv (fun i (w : Nat → Rat) => w j = Rat.divInt (wN m N s i j) s.sc) ?_ fun i w hi hw => ?_
  · show (0 : Rat) = Rat.divInt 0 s.sc
    rw [Rat.zero_divInt]
  · show (if s.bas i < N then (fun j => if j = s.bas i then Rat.divInt (s.T i (N + m)) s.sc else w j) else w) j = Rat.divInt (wN m N s i j + (if s.bas i = j then s.T i (N + m) else 0)) s.sc
    by_cases e : s.bas i = j
    · rw [if_pos (by omega), if_pos e]
      show (if j = s.bas i then _ else _) = _
      rw [if_pos e.symm]
      have : wN m N s i j = 0 := sg_zero fun l hl => if_neg fun z => by
        have := h.inj (show l < m by omega) hi (by rw [z, e])
        omega
      rw [this, Int.zero_add]
    · rw [if_neg e, Int.add_zero, ← hw]
      split
      · show (if j = s.bas i then _ else _) = _
        rw [if_neg (Ne.symm e)]
      · rfl
theorem wX_nn (h : Inv N m A b s) {j : Nat} (hj : j < N) : 0 ≤ wX m N s j := by
  rw [wX_eq h hj]
  refine Rat.divInt_nonneg (sg_nn fun l hl => ?_) (Int.le_of_lt h.ps)
  split
  · exact h.nn l hl
  · exact Int.le_refl _
/-- a weight is 0 or one quotient -/
theorem wX_val (h : Inv N m A b s) {j : Nat} (hj : j < N) : wX m N s j = 0 ∨ ∃ l, l < m ∧ wX m N s j = Rat.divInt (s.T l (N + m)) s.sc := by
  rw [wX_eq h hj]
  by_cases e : ∃ l, l < m ∧ s.bas l = j
  · obtain ⟨l, hl, e⟩ := e
    right
    refine ⟨l, hl, ?_⟩
    unfold wN
    rw [sg_one hl fun i hi hne => if_neg fun z => hne (h.inj hi hl (by rw [z, e])), if_pos e]
  · left
    have : wN m N s m j = 0 := sg_zero fun l hl => if_neg fun z => e ⟨l, hl, z⟩
    rw [this, Rat.zero_divInt]
theorem wts_ok (h : Inv N m A b s) (hp : ¬ s.P (N + m) < 0) {i : Nat} (hi : i < m) : rs N (fun j => if A i j = true then wX m N s j else 0) = b i := by
  have hz : ∀ l, l < m → ¬ s.bas l < N → s.T l (N + m) = 0 := by
    have h1 := h.p (N + m) (by omega)
    have h2 : cst N m (N + m) = 0 := if_neg (by omega)
    rw [h2, Int.mul_zero] at h1
    have h0 : ∀ l, l < m → 0 ≤ cst N m (s.bas l) * s.T l (N + m) := fun l hl => Int.mul_nonneg (by rcases cst01 N m (s.bas l) with e | e <;> rw [e] <;> decide) (h.nn l hl)
    intro l hl hb
    have hc : cst N m (s.bas l) = 1 := if_pos ⟨by omega, h.bs l hl⟩
    by_cases e : s.T l (N + m) = 0
    · exact e
    · exfalso
      have h3 : sg m (fun k => if k = l then s.T l (N + m) else 0) ≤ sg m fun l => cst N m (s.bas l) * s.T l (N + m) := sg_le fun k hk => by
        by_cases e : k = l
        · subst e; rw [if_pos rfl, hc, Int.one_mul]; exact Int.le_refl _
        · rw [if_neg e]; exact h0 k hk
      rw [sg_one hl fun k _ hne => if_neg hne, if_pos rfl] at h3
      have := h.nn l hl
      omega
  have hI : (sg N fun j => Vx N m A b j i * wN m N s m j) = s.sc * (b i).num := by
    have e1 : (sg N fun j => Vx N m A b j i * wN m N s m j) = sg N fun j => sg m fun l => Vx N m A b j i * (if s.bas l = j then s.T l (N + m) else 0) := sg_congr fun j _ => by unfold wN; rw [← sg_mul]
    rw [e1, sg_comm]
    have e2 : Vx N m A b (N + m) i = (b i).num := by
      show T0 N m A b i (N + m) = _
      unfold T0
      rw [if_neg (by omega), if_neg (by omega)]
    rw [← e2, h.t (N + m) i (by omega) hi]
    refine sg_congr fun l hl => ?_
    by_cases hb : s.bas l < N
    · rw [sg_one hb fun j _ hne => by rw [if_neg (Ne.symm hne), Int.mul_zero], if_pos rfl, Int.mul_comm]
    · rw [hz l hl hb, Int.zero_mul]
      exact sg_zero fun j _ => by split <;> exact Int.mul_zero _
  have hsc := cast_pos h.ps
  have hdn : (0 : Rat) < (((b i).den : Int) : Rat) := cast_pos (by have := (b i).den_pos; omega)
  refine eq_of (Rat.mul_pos hsc hdn) ?_
  rw [Rat.mul_comm, ← rs_mul]
  have e : rs N (fun j => (s.sc : Rat) * (((b i).den : Int) : Rat) * (if A i j = true then wX m N s j else 0)) = rs N fun j => ((Vx N m A b j i * wN m N s m j : Int) : Rat) := by
    refine rs_congr fun j hj => ?_
    have e1 : Vx N m A b j i = if A i j = true then ((b i).den : Int) else 0 := if_pos hj
    rw [e1, wX_eq h hj]
    split
    · have := dv_mul (a := wN m N s m j) h.ps
      rw [Rat.intCast_mul]; grind
    · rw [Int.zero_mul]; grind
  rw [e, ← rs_cast, hI]
  have := den_mul (b i)
  rw [Rat.intCast_mul]; grind
end
end K48

namespace K48
open PySem PySem.Spec PyProof.Rows L2
/-! ### cut sums against functionals -/
def FV (n : Nat) (v : Nat → Rat) (s : List Int) : Rat := rs (npr n) fun k => if part s (pr n k).1 (pr n k).2 = true then v k else 0
def GV (n : Nat) (v : Nat → Rat) (g : Nat → Nat → Rat) : Rat := rs (npr n) fun k => v k * g (pr n k).1 (pr n k).2
/-- no functional stands against g -/
def Cone (n : Nat) (g : Nat → Nat → Rat) : Prop := ∀ v : Nat → Rat, (∀ s, IsSpl n s → FV n v s ≤ 0) → GV n v g ≤ 0
section
variable {n : Nat} {g g' : Nat → Nat → Rat}
theorem Cone.congr (h : Cone n g) (e : ∀ x y, x < y → y < n → g x y = g' x y) : Cone n g' := fun v hv => by
  have := h v hv
  have e' : GV n v g = GV n v g' := rs_congr fun k hk => by have := pr_lt hk; rw [e _ _ this.1 this.2]
  rwa [e'] at this
theorem Cone.zero : Cone n fun _ _ => 0 := fun v _ => by
  have e : GV n v (fun _ _ => 0) = 0 := rs_zero fun k _ => by grind
  rw [e]; exact Rat.le_refl
theorem Cone.add (h : Cone n g) (h' : Cone n g') : Cone n fun x y => g x y + g' x y := fun v hv => by
  have e : GV n v (fun x y => g x y + g' x y) = GV n v g + GV n v g' := by
    unfold GV
    rw [← rs_add]
    exact rs_congr fun k _ => by grind
  have h1 := h v hv
  have h2 := h' v hv
  grind
theorem Cone.smul (h : Cone n g) {c : Rat} (hc : 0 ≤ c) : Cone n fun x y => c * g x y := fun v hv => by
  have e : GV n v (fun x y => c * g x y) = c * GV n v g := by
    unfold GV
    rw [← rs_mul]
    exact rs_congr fun k _ => by grind
  have h1 := Rat.mul_nonneg hc (show 0 ≤ - GV n v g by have := h v hv; grind)
  grind
theorem Cone.spl {s : List Int} (hs : IsSpl n s) : Cone n fun x y => bq (part s x y) := fun v hv => by
  have e : GV n v (fun x y => bq (part s x y)) = FV n v s := rs_congr fun k _ => by
    show _ * bq (part s (pr n k).1 (pr n k).2) = _
    unfold bq
    split <;> grind
  rw [e]; exact hv s hs
theorem mem_cutOf {n : Nat} {χ : Nat → Bool} {x : Nat} (hx : x < n) : (x : Int) ∈ (((List.range n).filter fun x => χ x != χ 0).map fun x : Nat => (x : Int)) ↔ (χ x != χ 0) = true := by
  constructor
  · intro h
    obtain ⟨y, hy, e⟩ := List.mem_map.mp h
    have : y = x := by omega
    subst this
    exact (List.mem_filter.mp hy).2
  · intro h
    exact List.mem_map.mpr ⟨x, List.mem_filter.mpr ⟨List.mem_range.mpr hx, h⟩, rfl⟩
theorem bool3 : ∀ a b c : Bool, (!decide (decide ((a != c) = true) = decide ((b != c) = true))) = (a != b) := by decide
theorem Cone.cut (χ : Nat → Bool) : Cone n fun x y => bq (χ x != χ y) := by
  by_cases h0 : ((List.range n).filter fun x => χ x != χ 0).map (fun x : Nat => (x : Int)) = []
  · refine Cone.zero.congr fun x y hxy hy => ?_
    have h1 : ∀ x, x < n → (χ x != χ 0) = false := fun x hx => by
      cases hb : (χ x != χ 0) with
      | false => rfl
      | true =>
        have := (mem_cutOf (χ := χ) hx).mpr hb
        rw [h0] at this
        cases this
    have h2 := h1 x (by omega)
    have h3 := h1 y hy
    have e : (χ x != χ y) = false := by
      revert h2 h3
      cases χ x <;> cases χ y <;> cases χ 0 <;> simp
    rw [e]; rfl
  · have hs : IsSpl n (((List.range n).filter fun x => χ x != χ 0).map fun x : Nat => (x : Int)) := by
      refine ⟨h0, ?_, fun v hv => ?_⟩
      · rw [List.pairwise_map]
        exact ((List.pairwise_lt_range).filter _).imp fun h => Int.ofNat_lt.mpr h
      · obtain ⟨x, hx, rfl⟩ := List.mem_map.mp hv
        obtain ⟨h1, h2⟩ := List.mem_filter.mp hx
        have := List.mem_range.mp h1
        have : x ≠ 0 := fun z => by subst z; simp at h2
        omega
    refine (Cone.spl hs).congr fun x y hxy hy => ?_
    congr 1
    unfold part
    have h1 := mem_cutOf (χ := χ) (show x < n by omega)
    have h2 := mem_cutOf (χ := χ) hy
    rw [decide_eq_decide.mpr h1, decide_eq_decide.mpr h2]
    exact bool3 _ _ _
theorem cone_fold : ∀ {ps : List (List Int × Rat)}, (∀ p ∈ ps, IsSpl n p.1 ∧ 0 ≤ p.2) → ∀ a : Nat → Nat → Rat, Cone n a → Cone n fun x y => ps.foldl (fun a p => if part p.1 x y = true then a + p.2 else a) (a x y)
  | [], _, a, ha => ha
  | p :: ps, h, a, ha => by
    have hp := h p (List.mem_cons_self ..)
    have h1 : Cone n fun x y => a x y + p.2 * bq (part p.1 x y) := ha.add ((Cone.spl hp.1).smul hp.2)
    refine (cone_fold (fun q hq => h q (List.mem_cons_of_mem _ hq)) _ h1).congr fun x y _ _ => ?_
    rw [List.foldl_cons]
    congr 1
    unfold bq
    split <;> grind
theorem cone_sumP {ps : List (List Int × Rat)} (h : ∀ p ∈ ps, IsSpl n p.1 ∧ 0 ≤ p.2) : Cone n fun x y => sumP ps x y := cone_fold h (fun _ _ => 0) Cone.zero
/-! ### papers that hold -/
theorem eqS_iff {z : Str} {d : D} (h : eqS z d = true) : d = .str z := by
  cases d with
  | str x => rw [of_decide_eq_true (show decide (x = z) = true from h)]
  | _ => cases h
theorem num_pos_iff {q : Rat} : 0 < q.num ↔ 0 < q := by
  constructor
  · intro h
    have h1 : 0 ≤ q := Rat.num_nonneg.mp (by omega)
    have h2 : q ≠ 0 := fun z => by rw [z] at h; exact absurd h (by decide)
    grind
  · exact num_ps
theorem isSplD_ok {n : Nat} (hn : 1 ≤ n) {a : D} (h : isSplD n a = true) : ∃ s, a = .tup s ∧ s.all (isPt n) = true ∧ IsSpl n (s.map D.toI) := by
  cases ht : isD a .tuple with
  | false => rw [isSplD_no ht] at h; cases h
  | true =>
    obtain ⟨s, rfl⟩ := isTup_ex ht
    rw [isSpl_law hn, Bool.and_eq_true] at h
    exact ⟨s, rfl, h.1, (mem_lawS hn _).mp (of_decide_eq_true h.2)⟩
theorem partD_ok {n : Nat} (hn : 1 ≤ n) {d : D} (h : isPartD n d = true) : ∃ s q, d = .tup [.tup s, .rat q] ∧ IsSpl n (s.map D.toI) ∧ 0 < q := by
  cases ht : isD d .tuple with
  | false => rw [isPartD_no ht] at h; cases h
  | true =>
    obtain ⟨l, rfl⟩ := isTup_ex ht
    by_cases h2 : l.length = 2
    · obtain ⟨a, b, rfl⟩ := len2 h2
      have h' : (isSplD n a && posQ b) = true := h
      rw [Bool.and_eq_true] at h'
      obtain ⟨s, rfl, _, hs⟩ := isSplD_ok hn h'.1
      cases b with
      | rat q => exact ⟨s, q, rfl, hs, num_pos_iff.mp (of_decide_eq_true h'.2)⟩
      | _ => cases h'.2
    · rw [isPartD_len h2] at h; cases h
theorem parts_ok {n : Nat} (hn : 1 ≤ n) {b : D} (h : arePartsD n b = true) : ∀ p ∈ psOf b, IsSpl n p.1 ∧ 0 < p.2 := by
  cases b with
  | tup l =>
    intro p hp
    obtain ⟨d, hd, rfl⟩ := List.mem_map.mp (show p ∈ l.map partOf from hp)
    obtain ⟨s, q, rfl, hs, hq⟩ := partD_ok hn (List.all_eq_true.mp h d hd)
    exact ⟨hs, hq⟩
  | _ => cases h
theorem holds_hd {d : D} (h : holdsD n g d = true) : ∃ b, (d = .tup [.str "cuts", b] ∧ arePartsD n b = true ∧ cutsOK n g (psOf b) = true) ∨ (d = .tup [.str "functional", b] ∧ areQs (npr n) b = true ∧ funOK n g (qsOf b) = true) := by
  cases ht : isD d .tuple with
  | false => rw [holdsD_no ht] at h; cases h
  | true =>
    obtain ⟨l, rfl⟩ := isTup_ex ht
    by_cases h2 : l.length = 2
    · obtain ⟨a, b, rfl⟩ := len2 h2
      have h' : (if eqS "cuts" a = true then arePartsD n b && cutsOK n g (psOf b) else eqS "functional" a && (areQs (npr n) b && funOK n g (qsOf b))) = true := h
      refine ⟨b, ?_⟩
      split at h'
      · rename_i e
        left
        rw [Bool.and_eq_true] at h'
        rw [eqS_iff e]
        exact ⟨rfl, h'⟩
      · right
        rw [Bool.and_eq_true, Bool.and_eq_true] at h'
        rw [eqS_iff h'.1]
        exact ⟨rfl, h'.2⟩
    · rw [holdsD_len h2] at h; cases h
theorem sumF_rs {v : List Rat} {s : List Int} {m : Nat} : sumF n v s m = rs m fun k => if part s (pr n k).1 (pr n k).2 = true then v.getD k 0 else 0 := by
  induction m with
  | zero => rfl
  | succ m ih =>
    show (if part s (pr n m).1 (pr n m).2 = true then sumF n v s m + v.getD m 0 else sumF n v s m) = rs m _ + _
    rw [← ih]
    split <;> grind
theorem sumG_rs {v : List Rat} {m : Nat} : sumG n v g m = rs m fun k => v.getD k 0 * g (pr n k).1 (pr n k).2 := by
  induction m with
  | zero => rfl
  | succ m ih =>
    show sumG n v g m + v.getD m 0 * g (pr n m).1 (pr n m).2 = rs m _ + _
    rw [← ih]
theorem cuts_cone (hn : 1 ≤ n) {b : D} (h1 : arePartsD n b = true) (h2 : cutsOK n g (psOf b) = true) : Cone n g := by
  have h := parts_ok hn h1
  intro v hv
  have h3 := cone_sumP (n := n) (ps := psOf b) (fun p hp => ⟨(h p hp).1, by have := (h p hp).2; grind⟩) v hv
  have e : GV n v (fun x y => sumP (psOf b) x y) = GV n v g := rs_congr fun k hk => by
    have := of_decide_eq_true (List.all_eq_true.mp h2 _ (List.mem_of_getElem? (pr_get hk)))
    show v k * sumP (psOf b) (pr n k).1 (pr n k).2 = _
    rw [this]
  rwa [e] at h3
theorem fun_cone (hn : 1 ≤ n) {v : List Rat} (h : funOK n g v = true) : ¬ Cone n g := by
  unfold funOK at h
  rw [Bool.and_eq_true] at h
  intro hc
  have h1 := hc (fun k => v.getD k 0) fun s hs => by
    have := of_decide_eq_true (List.all_eq_true.mp h.1 s ((mem_splS hn s).mpr hs))
    rw [sumF_rs] at this
    unfold FV
    generalize rs (npr n) _ = q at *
    by_cases h2 : 0 < q
    · have := num_ps h2; omega
    · grind
  have h2 := num_pos_iff.mp (of_decide_eq_true h.2)
  rw [sumG_rs] at h2
  unfold GV at h1
  grind
theorem fun_ok {v : List Rat} (h1 : ∀ s, s ∈ splS n → FV n (fun k => v.getD k 0) s ≤ 0) (h2 : 0 < GV n (fun k => v.getD k 0) g) : funOK n g v = true := by
  unfold funOK
  rw [Bool.and_eq_true]
  refine ⟨List.all_eq_true.mpr fun s hs => decide_eq_true ?_, decide_eq_true ?_⟩
  · have := h1 s hs
    rw [sumF_rs]
    unfold FV at this
    generalize rs (npr n) _ = q at *
    by_cases h3 : 0 < q.num
    · have := num_pos_iff.mp h3; grind
    · omega
  · rw [sumG_rs]
    exact num_ps h2
/-- a paper that holds begins as the kind says -/
theorem hd_of (hn : 1 ≤ n) {d : D} {hd : Str} (h : (hd = "cuts" ∧ Cone n g) ∨ (hd = "functional" ∧ ¬ Cone n g)) (h1 : holdsD n g d = true) : ∃ b, d = .tup [.str hd, b] := by
  obtain ⟨b, ⟨rfl, h2, h3⟩ | ⟨rfl, h2, h3⟩⟩ := holds_hd h1
  · rcases h with ⟨rfl, _⟩ | ⟨_, hc⟩
    · exact ⟨b, rfl⟩
    · exact absurd (cuts_cone hn h2 h3) hc
  · rcases h with ⟨_, hc⟩ | ⟨rfl, _⟩
    · exact absurd hc (fun_cone hn h3)
    · exact ⟨b, rfl⟩
end
end K48

namespace K48
open PySem PySem.Spec PyProof.Rows L2
/-! ### rationals of few bits -/
def Ht (h : Nat) (q : Rat) : Prop := q.num.natAbs < 2 ^ h ∧ q.den < 2 ^ h
theorem Ht.mono {h h' : Nat} {q : Rat} (a : Ht h q) (l : h ≤ h') : Ht h' q := ⟨Nat.lt_of_lt_of_le a.1 (Nat.pow_le_pow_right (by decide) l), Nat.lt_of_lt_of_le a.2 (Nat.pow_le_pow_right (by decide) l)⟩
theorem Ht.sm' {h : Nat} {q : Rat} (a : Ht h q) (l : h ≤ 4000) : Sm q := a.mono l
theorem Ht.divInt {h : Nat} {n d : Int} (hd : 0 < d) (h1 : n.natAbs < 2 ^ h) (h2 : d.natAbs < 2 ^ h) : Ht h (Rat.divInt n d) := by
  obtain ⟨e1, e2⟩ := ratOf (n := n) (d := d) hd
  have h3 : (Rat.divInt n d).num.natAbs ≤ n.natAbs := by rw [e1]; exact Int.natAbs_ediv_le_natAbs _ _
  have h4 : ((Rat.divInt n d).den : Int).natAbs ≤ d.natAbs := by rw [e2]; exact Int.natAbs_ediv_le_natAbs _ _
  exact ⟨by omega, by omega⟩
theorem Ht.neg {h : Nat} {q : Rat} (a : Ht h q) : Ht h (-q) := ⟨by show (-q.num).natAbs < _; rw [Int.natAbs_neg]; exact a.1, a.2⟩
theorem mul_lt2 {a b x y : Nat} (h1 : a < 2 ^ x) (h2 : b < 2 ^ y) : a * b < 2 ^ (x + y) := by
  rw [Nat.pow_add]
  exact Nat.mul_lt_mul'' h1 h2
theorem Ht.add {h1 h2 : Nat} {p q : Rat} (a : Ht h1 p) (b : Ht h2 q) : Ht (h1 + h2 + 1) (p + q) := by
  have e : p + q = Rat.divInt (p.num * (q.den : Int) + q.num * (p.den : Int)) ((p.den : Int) * (q.den : Int)) := by
    rw [← Rat.divInt_add_divInt _ _ (by have := p.den_pos; omega) (by have := q.den_pos; omega), Rat.num_divInt_den, Rat.num_divInt_den]
  rw [e]
  have p0 := p.den_pos
  have q0 := q.den_pos
  have e1 : (2 : Nat) ^ (h1 + h2 + 1) = 2 ^ (h1 + h2) * 2 := rfl
  refine Ht.divInt (Int.mul_pos (by omega) (by omega)) ?_ ?_
  · have z1 : (p.num * (q.den : Int)).natAbs < 2 ^ (h1 + h2) := by rw [Int.natAbs_mul, Int.natAbs_natCast]; exact mul_lt2 a.1 b.2
    have z2 : (q.num * (p.den : Int)).natAbs < 2 ^ (h1 + h2) := by rw [Int.natAbs_mul, Int.natAbs_natCast, Nat.add_comm]; exact mul_lt2 b.1 a.2
    have := Int.natAbs_add_le (p.num * (q.den : Int)) (q.num * (p.den : Int))
    omega
  · have z1 : ((p.den : Int) * (q.den : Int)).natAbs < 2 ^ (h1 + h2) := by rw [Int.natAbs_mul, Int.natAbs_natCast, Int.natAbs_natCast]; exact mul_lt2 a.2 b.2
    omega
theorem Ht.mul {h1 h2 : Nat} {p q : Rat} (a : Ht h1 p) (b : Ht h2 q) : Ht (h1 + h2) (p * q) := by
  have e : p * q = Rat.divInt (p.num * q.num) ((p.den : Int) * (q.den : Int)) := by
    rw [← Rat.divInt_mul_divInt, Rat.num_divInt_den, Rat.num_divInt_den]
  rw [e]
  have p0 := p.den_pos
  have q0 := q.den_pos
  refine Ht.divInt (Int.mul_pos (by omega) (by omega)) ?_ ?_
  · rw [Int.natAbs_mul]; exact mul_lt2 a.1 b.1
  · rw [Int.natAbs_mul, Int.natAbs_natCast, Int.natAbs_natCast]; exact mul_lt2 a.2 b.2
theorem Ht.zero {h : Nat} (l : 1 ≤ h) : Ht h 0 := Ht.mono (h := 1) ⟨by decide, by decide⟩ l
theorem Ht.fold {α : Type} {h : Nat} {t : α → Bool} {w : α → Rat} : ∀ {ps : List α}, (∀ p ∈ ps, Ht h (w p)) → ∀ {h0 : Nat} {a : Rat}, Ht h0 a → Ht (h0 + ps.length * (h + 1)) (ps.foldl (fun a p => if t p = true then a + w p else a) a)
  | [], _, h0, a, ha => ha.mono (by simp)
  | p :: ps, hp, h0, a, ha => by
    rw [List.foldl_cons]
    have h1 : Ht (h0 + h + 1) (if t p = true then a + w p else a) := by
      split
      · exact ha.add (hp p (List.mem_cons_self ..))
      · exact ha.mono (by omega)
    refine (Ht.fold (t := t) (w := w) (ps := ps) (fun q hq => hp q (List.mem_cons_of_mem _ hq)) h1).mono ?_
    rw [List.length_cons, Nat.succ_mul]; omega
theorem ht_sumP {h L : Nat} {ps : List (List Int × Rat)} (hp : ∀ p ∈ ps, Ht h p.2) (hl : ps.length ≤ L) (x y : Int) (i : Nat) : Ht (1 + L * (h + 1)) (sumP (ps.take i) x y) := by
  refine (Ht.fold (t := fun p : List Int × Rat => part p.1 x y) (w := fun p => p.2) (ps := ps.take i) (fun p hq => hp p (List.mem_of_mem_take hq)) (Ht.zero (Nat.le_refl 1))).mono ?_
  have : (ps.take i).length ≤ L := by rw [List.length_take]; omega
  have := Nat.mul_le_mul_right (h + 1) this
  omega
theorem ht_getD {h : Nat} {v : List Rat} (h1 : 1 ≤ h) (hv : ∀ q ∈ v, Ht h q) (k : Nat) : Ht h (v.getD k 0) := by
  by_cases hk : k < v.length
  · exact hv _ (getD_mem hk)
  · have : v.getD k 0 = 0 := by rw [List.getD_eq_getElem?_getD, List.getElem?_eq_none (by omega)]; rfl
    rw [this]; exact Ht.zero h1
theorem ht_sumF {n h : Nat} {v : List Rat} (h1 : 1 ≤ h) (hv : ∀ q ∈ v, Ht h q) (s : List Int) : ∀ i, Ht (1 + i * (h + 1)) (sumF n v s i)
  | 0 => Ht.zero (by omega)
  | i + 1 => by
    show Ht _ (if part s (pr n i).1 (pr n i).2 = true then sumF n v s i + v.getD i 0 else sumF n v s i)
    have ih := ht_sumF (n := n) h1 hv s i
    rw [Nat.succ_mul]
    split
    · exact (ih.add (ht_getD h1 hv i)).mono (by omega)
    · exact ih.mono (by omega)
theorem ht_sumG {n h c : Nat} {v : List Rat} {g : Nat → Nat → Rat} (h1 : 1 ≤ h) (hv : ∀ q ∈ v, Ht h q) (hg : ∀ x y, x < n → y < n → Ht c (g x y)) : ∀ i, i ≤ npr n → Ht (1 + i * (h + c + 1)) (sumG n v g i)
  | 0, _ => Ht.zero (by omega)
  | i + 1, hi => by
    show Ht _ (sumG n v g i + v.getD i 0 * g (pr n i).1 (pr n i).2)
    have ih := ht_sumG h1 hv hg i (by omega)
    have := pr_lt (show i < npr n by omega)
    rw [Nat.succ_mul]
    exact (ih.add ((ht_getD h1 hv i).mul (hg _ _ (by omega) this.2))).mono (by omega)
/-! ### tries -/
section
variable {n : Nat} {g : Nat → Nat → Rat}
theorem ok_parts {h L : Nat} {b : D} (ok : b.ok (Ht h) L) (hb : arePartsD n b = true) : (∀ p ∈ psOf b, Ht h p.2) ∧ (psOf b).length ≤ L := by
  cases b with
  | tup l =>
    refine ⟨fun p hp => ?_, by show (l.map partOf).length ≤ L; rw [List.length_map]; exact ok.1⟩
    obtain ⟨d, hd, rfl⟩ := List.mem_map.mp (show p ∈ l.map partOf from hp)
    have hpd : isPartD n d = true := List.all_eq_true.mp hb d hd
    have hdk := okL_iff.mp ok.2 d hd
    cases ht : isD d .tuple with
    | false => rw [isPartD_no ht] at hpd; cases hpd
    | true =>
      obtain ⟨l2, rfl⟩ := isTup_ex ht
      by_cases h2 : l2.length = 2
      · obtain ⟨a, q, rfl⟩ := len2 h2
        have h' : (isSplD n a && posQ q) = true := hpd
        rw [Bool.and_eq_true] at h'
        cases q with
        | rat q =>
          cases hat : isD a .tuple with
          | false => rw [isSplD_no hat] at h'; cases h'.1
          | true =>
            obtain ⟨s, rfl⟩ := isTup_ex hat
            exact okL_iff.mp hdk.2 (.rat q) (by simp)
        | _ => cases h'.2
      · rw [isPartD_len h2] at hpd; cases hpd
  | _ => cases hb
theorem ok_qs {h L : Nat} {b : D} {k : Int} (ok : b.ok (Ht h) L) (hb : areQs k b = true) : ∀ q ∈ qsOf b, Ht h q := by
  cases b with
  | tup l =>
    intro q hq
    obtain ⟨d, hd, rfl⟩ := List.mem_map.mp (show q ∈ l.map D.toQ from hq)
    have h' : (decide ((l.length : Int) = k) && l.all isQ) = true := hb
    rw [Bool.and_eq_true] at h'
    have hdq := List.all_eq_true.mp h'.2 d hd
    have hdk := okL_iff.mp ok.2 d hd
    cases d with
    | rat q => exact hdk
    | _ => cases hdq
  | _ => cases hb
theorem ok_two {h L : Nat} {a b : D} (ok : (D.tup [a, b]).ok (Ht h) L) : b.ok (Ht h) L := okL_iff.mp ok.2 b (by simp)
theorem bd_ok {h L : Nat} {d : D} (ok : d.ok (Ht h) L) (h1 : 1 ≤ h) (hL : L ≤ 1000) (b1 : 1 + L * (h + 1) ≤ 4000) (b2 : 1 + npr n * (h + 18 + 1) ≤ 4000) (hg : ∀ x y, x < n → y < n → Ht 18 (g x y)) : BdD n g d := by
  have hh : 1 ≤ npr n → h + 18 ≤ 4000 := fun z => by
    have := Nat.mul_le_mul_right (h + 18 + 1) z
    omega
  refine ⟨?_, ?_, fun x y hx hy => (hg x y hx hy).sm' (by decide), ?_⟩
  · rintro a b rfl hb
    obtain ⟨h2, h3⟩ := ok_parts (ok_two ok) hb
    have hps : ∀ p ∈ psOf b, Sm p.2 := fun p hp => by
      have hl : 1 ≤ L := by have := List.length_pos_of_mem hp; omega
      have := Nat.mul_le_mul_right (h + 1) hl
      exact (h2 p hp).sm' (by omega)
    exact ⟨hps, fun x y i => (ht_sumP h2 h3 x y i).sm' b1⟩
  · rintro a b rfl hb
    have h2 := ok_qs (ok_two ok) hb
    have e : (qsOf b).length = npr n := by
      cases b with
      | tup l =>
        have h' : (decide ((l.length : Int) = (npr n : Int)) && l.all isQ) = true := hb
        rw [Bool.and_eq_true, decide_eq_true_eq] at h'
        show (l.map D.toQ).length = _
        rw [List.length_map]; omega
      | _ => cases hb
    refine ⟨fun q hq => ?_, fun s hs i hi => ?_, fun i hi => ?_, fun k hk => ?_⟩
    · have : 1 ≤ npr n := by have := List.length_pos_of_mem hq; omega
      exact (h2 q hq).sm' (by have := hh this; omega)
    · have := Nat.mul_le_mul hi (show h + 1 ≤ h + 18 + 1 by omega)
      exact (ht_sumF h1 h2 s i).sm' (by omega)
    · have := Nat.mul_le_mul_right (h + 18 + 1) hi
      exact (ht_sumG h1 h2 hg i hi).sm' (by omega)
    · have := pr_lt hk
      exact ((ht_getD h1 h2 k).mul (hg _ _ (by omega) this.2)).sm' (by have := hh (by omega); omega)
  · rintro a b rfl l x y rfl hm s rfl
    have h2 := okL_iff.mp (ok_two ok).2 _ hm
    have h3 : (D.tup s).ok (Ht h) L := okL_iff.mp h2.2 _ (by simp)
    exact Nat.le_trans h3.1 hL
theorem try_ok {h L : Nat} {d : D} {hd : Str} (hn : 1 ≤ n) (ok : d.ok (Ht h) L) (h1 : 1 ≤ h) (hL : L ≤ 1000) (b1 : 1 + L * (h + 1) ≤ 4000) (b2 : 1 + npr n * (h + 18 + 1) ≤ 4000) (hg : ∀ x y, x < n → y < n → Ht 18 (g x y)) (hh : (hd = "cuts" ∧ Cone n g) ∨ (hd = "functional" ∧ ¬ Cone n g)) : TryOK n g hd d := by
  refine ⟨ok.pl, bd_ok ok h1 hL b1 b2 hg, ?_, fun h => hd_of hn hh h⟩
  rintro a b rfl l rfl
  exact Nat.le_trans (ok_two ok).1 hL
end
/-! ### bends -/
theorem cutD_mem {α : Type} {l : List α} {a b : Option Int} {x : α} (h : x ∈ cutD l a b) : x ∈ l := List.mem_of_mem_drop (List.mem_of_mem_take h)
theorem cut_one_len {α : Type} (l : List α) : (cutD l none (some 1)).length ≤ 1 := by
  unfold cutD
  rw [List.length_take]
  have e1 : HT.sIx l.length l.length (some 1) = min 1 l.length := HT.sIx_nat l.length l.length 1
  have e0 : HT.sIx l.length 0 none = 0 := rfl
  rw [e1, e0]; omega
theorem cut_from_len {α : Type} (l : List α) {i : Nat} (h : i < l.length) : (cutD l (some ((i : Int) + 1)) none).length + (i + 1) ≤ l.length := by
  unfold cutD
  rw [List.length_take, List.length_drop]
  have e1 : HT.sIx l.length l.length none = l.length := rfl
  have e0 : HT.sIx l.length 0 (some ((i : Int) + 1)) = min (i + 1) l.length := HT.sIx_nat l.length 0 (i + 1)
  rw [e1, e0]; omega
theorem words_okL (P : Rat → Prop) (L : Nat) : okL P L wordsO := ⟨trivial, trivial, trivial, trivial, trivial, trivial, trivial, trivial, trivial, trivial, trivial, trivial, trivial⟩
theorem words_ok (P : Rat → Prop) (L i : Nat) : (wordsO.getD i .non).ok P L := by
  by_cases h : i < wordsO.length
  · exact okL_iff.mp (words_okL P L) _ (getD_mem h)
  · rw [List.getD_eq_getElem?_getD, List.getElem?_eq_none (Nat.le_of_not_lt h)]; trivial
theorem ite_ok {c : Prop} [Decidable c] {a b : D × (Int × Int)} {Q : D → Prop} (h1 : c → Q a.1) (h2 : ¬ c → Q b.1) : Q (if c then a else b).1 := by
  by_cases h : c
  · rw [if_pos h]; exact h1 h
  · rw [if_neg h]; exact h2 h
theorem oth_ok {n h L : Nat} {d : D} {S : Int × Int} (h3 : 3 ≤ h) (ok : d.ok (Ht h) L) : (othR n d S).1.ok (Ht (h + 3)) (L + 1) := by
  have ok' : d.ok (Ht (h + 3)) (L + 1) := ok.mono (fun q hq => hq.mono (by omega)) (by omega)
  have hq : ∀ v : Nat, v < 2 → Ht 2 (Rat.divInt 1 (1 + (v : Int))) := fun v hv => Ht.divInt (by omega) (by decide) (by omega)
  unfold othR
  refine ite_ok (Q := fun d => d.ok (Ht (h + 3)) (L + 1)) (fun _ => ⟨Nat.zero_le _, trivial⟩) fun _ => ?_
  refine ite_ok (Q := fun d => d.ok (Ht (h + 3)) (L + 1)) (fun _ => trivial) fun _ => ?_
  refine ite_ok (Q := fun d => d.ok (Ht (h + 3)) (L + 1)) (fun _ => ?_) fun _ => ?_
  · have hv := tkV_lt (s := tkS S 13) (m := 5) (by omega)
    have hw := tkV_lt (s := tkS (tkS S 13) 5) (m := 2) (by omega)
    exact (Ht.divInt (h := 3) (by omega) (by omega) (by omega)).mono (by omega)
  refine ite_ok (Q := fun d => d.ok (Ht (h + 3)) (L + 1)) (fun e => ?_) fun _ => ?_
  · obtain ⟨x, rfl⟩ := isQ_ex (and2 e)
    exact ((show Ht h x from ok).add (hq _ (tkV_lt (by omega)))).mono (by omega)
  refine ite_ok (Q := fun d => d.ok (Ht (h + 3)) (L + 1)) (fun _ => trivial) fun _ => ?_
  refine ite_ok (Q := fun d => d.ok (Ht (h + 3)) (L + 1)) (fun e => ?_) fun _ => ?_
  · obtain ⟨x, rfl⟩ := isQ_ex (and2 e)
    exact (show Ht (h + 3) x from ok').neg
  refine ite_ok (Q := fun d => d.ok (Ht (h + 3)) (L + 1)) (fun _ => trivial) fun _ => ?_
  refine ite_ok (Q := fun d => d.ok (Ht (h + 3)) (L + 1)) (fun e => ?_) fun _ => ?_
  · obtain ⟨l, rfl⟩ := isTup_ex (and2 e)
    exact ok'
  refine ite_ok (Q := fun d => d.ok (Ht (h + 3)) (L + 1)) (fun e => ?_) fun _ => ?_
  · obtain ⟨l, rfl⟩ := isTup_ex (and2 e)
    exact ⟨Nat.le_trans (cutD_len _ _ _) ok'.1, okL_iff.mpr fun x hx => okL_iff.mp ok'.2 x (cutD_mem hx)⟩
  refine ite_ok (Q := fun d => d.ok (Ht (h + 3)) (L + 1)) (fun e => ?_) fun _ => ?_
  · obtain ⟨l, rfl⟩ := isTup_ex (and2 e)
    refine ⟨?_, okL_iff.mpr fun x hx => okL_iff.mp ok'.2 x ?_⟩
    · rw [List.length_append]
      have := cut_one_len (D.tup l).els
      have : (D.tup l).els.length ≤ L := ok.1
      omega
    · rcases List.mem_append.mp hx with hx | hx
      · exact hx
      · exact cutD_mem hx
  refine ite_ok (Q := fun d => d.ok (Ht (h + 3)) (L + 1)) (fun e => ?_) fun _ => ?_
  · obtain ⟨l, rfl⟩ := isTup_ex (and2 e)
    refine ⟨?_, okL_iff.mpr fun x hx => okL_iff.mp ok'.2 x (List.mem_reverse.mp hx)⟩
    rw [List.length_reverse]; exact ok'.1
  exact ite_ok (Q := fun d => d.ok (Ht (h + 3)) (L + 1)) (fun _ => words_ok _ _ _) fun _ => trivial
theorem ben_ok {n h L : Nat} (h3 : 3 ≤ h) : ∀ (r : Nat) {d : D} {S : Int × Int}, d.ok (Ht h) L → (benR r n d S).1.ok (Ht (h + 3)) (L + 1)
  | 0, d, S, ok => oth_ok h3 ok
  | r + 1, d, S, ok => by
    unfold benR
    split
    · exact oth_ok h3 ok
    split
    · exact oth_ok h3 ok
    · rename_i h1 h2
      have ht : isD d .tuple = true := by
        cases e : isD d .tuple with
        | true => rfl
        | false => exact absurd (Or.inl e) h1
      obtain ⟨l, rfl⟩ := isTup_ex ht
      have hl : (D.tup l).els ≠ [] := fun z => h1 (Or.inr z)
      have hl0 : 0 < l.length := List.length_pos_iff.mpr hl
      have ok' : (D.tup l).ok (Ht (h + 3)) (L + 1) := ok.mono (fun q hq => hq.mono (by omega)) (by omega)
      have hi : tkV (tkS S 6) l.length < l.length := tkV_lt hl0
      show (D.tup (cutD l none (some (tkV (tkS S 6) l.length : Int)) ++ [(benR r n (l.getD (tkV (tkS S 6) l.length) .non) (tkS (tkS S 6) l.length)).1] ++ cutD l (some ((tkV (tkS S 6) l.length : Int) + 1)) none)).ok _ _
      generalize tkV (tkS S 6) l.length = i at *
      refine ⟨?_, okL_iff.mpr fun x hx => ?_⟩
      · rw [List.length_append, List.length_append, List.length_singleton, cut_to (Nat.le_of_lt hi), List.length_take]
        have := cut_from_len l hi
        have := ok'.1
        omega
      · rcases List.mem_append.mp hx with hx | hx
        · rcases List.mem_append.mp hx with hx | hx
          · exact okL_iff.mp ok'.2 x (cutD_mem hx)
          · rw [List.mem_singleton.mp hx]
            exact ben_ok h3 r (okL_iff.mp ok.2 _ (getD_mem hi))
        · exact okL_iff.mp ok'.2 x (cutD_mem hx)
theorem benX_ok {n h L : Nat} {d : D} (h3 : 3 ≤ h) (ok : d.ok (Ht h) L) {S : Int × Int} : ∀ m, (benX n m d S).1.ok (Ht (h + 3 * m)) (L + m)
  | 0 => ok
  | m + 1 => by
    show (benR 4 n (benX n m d S).1 (benX n m d S).2).1.ok _ _
    exact ben_ok (Nat.le_trans h3 (Nat.le_add_right _ _)) 4 (benX_ok h3 ok m)
theorem benX_ok2 {n h L : Nat} {d : D} (h3 : 3 ≤ h) (ok : d.ok (Ht h) L) {S : Int × Int} {m : Nat} (hm : m ≤ 2) : (benX n m d S).1.ok (Ht (h + 6)) (L + 2) := (benX_ok h3 ok m).mono (fun q hq => hq.mono (by omega)) (by omega)
theorem benT_mem {n : Nat} {paper : D} {S : Int × Int} {l : List D} {x : D} (h : x ∈ (benT n paper S l).2) : x ∈ l ∨ ∃ S m, m ≤ 2 ∧ x = (benX n m paper S).1 := by
  have : ∀ x ∈ (benT n paper S l).2, x ∈ l ∨ ∃ S m, m ≤ 2 ∧ x = (benX n m paper S).1 := by
    unfold benT
    refine lp_inv (fun _ (a : (Int × Int) × List D) => ∀ x ∈ a.2, x ∈ l ∨ ∃ S m, m ≤ 2 ∧ x = (benX n m paper S).1) (fun x hx => Or.inl hx) fun i a _ ih x hx => ?_
    rcases List.mem_append.mp hx with hx | hx
    · exact ih x hx
    · rw [List.mem_singleton.mp hx]
      have := tkV_lt (s := a.1) (m := 2) (by omega)
      exact Or.inr ⟨_, _, show 1 + tkV a.1 2 ≤ 2 by omega, rfl⟩
  exact this x h
end K48

namespace K48
open PySem PySem.Spec PyProof.Rows L2
/-! ### the paper -/
theorem npr5 {n : Nat} (h : n ≤ 5) : npr n ≤ 10 := by
  have : n = 0 ∨ n = 1 ∨ n = 2 ∨ n = 3 ∨ n = 4 ∨ n = 5 := by omega
  rcases this with rfl | rfl | rfl | rfl | rfl | rfl <;> decide +kernel
theorem npr4 : npr 4 = 6 := by decide +kernel
theorem NS_le {n : Nat} (h : n ≤ 5) : NS n ≤ 15 := by
  have h1 := (splS_inv n).1
  have : 2 ^ (n - 1) ≤ 2 ^ 4 := Nat.pow_le_pow_right (by decide) (by omega)
  show (splS n).length ≤ 15
  omega
theorem NS4 : NS 4 = 7 := by decide +kernel
theorem spl_mem {n j : Nat} (h : j < NS n) : spl n j ∈ splS n := getD_mem h
theorem spl_ex {n : Nat} {s : List Int} (h : s ∈ splS n) : ∃ j, j < NS n ∧ s = spl n j := by
  obtain ⟨j, hj, e⟩ := List.getElem_of_mem h
  refine ⟨j, hj, ?_⟩
  unfold spl
  rw [List.getD_eq_getElem?_getD, List.getElem?_eq_getElem hj, Option.getD_some, e]
/-- the parts of a paper of cuts -/
def psX (n : Nat) (s : Sx) : List (List Int × Rat) := ((List.range (NS n)).filter fun j => decide (0 < (wX (npr n) (NS n) s j).num)).map fun j => (spl n j, wX (npr n) (NS n) s j)
def xsX (n : Nat) (g : Nat → Nat → Rat) (s : Sx) : List Rat := tab (npr n) (fuV (NS n) (bX n g) s)
def PX (n : Nat) (g : Nat → Nat → Rat) (s : Sx) : Sum (List (List Int × Rat)) (List Rat) := if s.P (NS n + npr n) < 0 then .inr (xsX n g s) else .inl (psX n s)
theorem paper_PX {n : Nat} {g : Nat → Nat → Rat} {s : Sx} : paperX n g s = papD (PX n g s) := by
  unfold paperX PX
  by_cases h : s.P (NS n + npr n) < 0
  · rw [if_pos h, if_pos h]
    show _ = D.tup [.str "functional", .tup ((xsX n g s).map D.rat)]
    unfold xsX
    rw [tab_map]; rfl
  · rw [if_neg h, if_neg h]
    show _ = D.tup [.str "cuts", .tup ((psX n s).map pwD)]
    unfold psX
    rw [List.map_map]; rfl
section
variable {n : Nat} {g : Nat → Nat → Rat} {s : Sx}
theorem sum_fold {t : Nat → Bool} {w : Nat → Rat} (p : Nat → Bool) (hz : ∀ j, p j = false → w j = 0) : ∀ N, ((List.range N).filter p).foldl (fun (a : Rat) j => if t j = true then a + w j else a) 0 = rs N fun j => if t j = true then w j else 0
  | 0 => rfl
  | N + 1 => by
    rw [List.range_succ, List.filter_append, List.foldl_append, sum_fold p hz N]
    show _ = rs N _ + (if t N = true then w N else 0)
    cases hp : p N with
    | true =>
      have : [N].filter p = [N] := by rw [List.filter_cons, if_pos hp]; rfl
      rw [this]
      show (if t N = true then _ + w N else _) = _
      split <;> grind
    | false =>
      have : [N].filter p = [] := by rw [List.filter_cons, if_neg (by rw [hp]; decide)]; rfl
      rw [this, hz N hp]
      show rs N _ = _
      split <;> grind
theorem sumP_psX {x y : Int} (hw : ∀ j, j < NS n → 0 ≤ wX (npr n) (NS n) s j) : sumP (psX n s) x y = rs (NS n) fun j => if part (spl n j) x y = true then wX (npr n) (NS n) s j else 0 := by
  unfold sumP psX
  rw [List.foldl_map]
  show ((List.range (NS n)).filter _).foldl (fun (a : Rat) j => if part (spl n j) x y = true then a + wX (npr n) (NS n) s j else a) 0 = _
  have e : ((List.range (NS n)).filter fun j => decide (0 < (wX (npr n) (NS n) s j).num)) = (List.range (NS n)).filter fun j => decide (0 < (if j < NS n then wX (npr n) (NS n) s j else 0).num) := List.filter_congr fun j hj => by rw [if_pos (List.mem_range.mp hj)]
  have e2 : ∀ l : List Nat, (∀ j ∈ l, j < NS n) → ∀ a : Rat, l.foldl (fun (a : Rat) j => if part (spl n j) x y = true then a + wX (npr n) (NS n) s j else a) a = l.foldl (fun (a : Rat) j => if part (spl n j) x y = true then a + (if j < NS n then wX (npr n) (NS n) s j else 0) else a) a := by
    intro l
    induction l with
    | nil => intro _ a; rfl
    | cons j l ih =>
      intro h a
      rw [List.foldl_cons, List.foldl_cons, if_pos (h j (by simp)), ih fun i hi => h i (by simp [hi])]
  rw [e2 _ (fun j hj => List.mem_range.mp (List.mem_filter.mp hj).1), e, sum_fold (t := fun j => part (spl n j) x y) (w := fun j => if j < NS n then wX (npr n) (NS n) s j else 0)]
  · exact rs_congr fun j hj => by rw [if_pos hj]
  · intro j hj
    have h1 := of_decide_eq_false hj
    by_cases h : j < NS n
    · rw [if_pos h] at h1 ⊢
      have := hw j h
      by_cases e : 0 < wX (npr n) (NS n) s j
      · exact absurd (num_ps e) h1
      · grind
    · exact if_neg h
abbrev InvX (n : Nat) (g : Nat → Nat → Rat) (s : Sx) : Prop := Inv (NS n) (npr n) (AX n) (bX n g) s
theorem psX_mem (hn : 1 ≤ n) {p : List Int × Rat} (h : p ∈ psX n s) : ∃ j, j < NS n ∧ p = (spl n j, wX (npr n) (NS n) s j) ∧ IsSpl n p.1 ∧ 0 < p.2 := by
  obtain ⟨j, hj, rfl⟩ := List.mem_map.mp h
  obtain ⟨h1, h2⟩ := List.mem_filter.mp hj
  have hj' := List.mem_range.mp h1
  exact ⟨j, hj', rfl, (mem_splS hn _).mp (spl_mem hj'), num_pos_iff.mp (of_decide_eq_true h2)⟩
theorem spl_isD (hn : 1 ≤ n) {t : List Int} (h : IsSpl n t) : isSplD n (tI t) = true := by
  show isSplD n (.tup (t.map D.int)) = true
  rw [isSpl_law hn, Bool.and_eq_true]
  have e : (t.map D.int).map D.toI = t := by rw [List.map_map]; exact List.map_id' t
  refine ⟨List.all_eq_true.mpr fun d hd => ?_, decide_eq_true ?_⟩
  · obtain ⟨v, hv, rfl⟩ := List.mem_map.mp hd
    have := h.2.2 v hv
    show (decide (0 ≤ v) && decide (v < n)) = true
    rw [decide_eq_true (by omega), decide_eq_true (by omega)]; rfl
  · rw [e]; exact (mem_lawS hn _).mpr h
theorem psOf_map (ps : List (List Int × Rat)) : psOf (.tup (ps.map pwD)) = ps := by
  show (ps.map pwD).map partOf = ps
  rw [List.map_map]
  have : ∀ p : List Int × Rat, (partOf ∘ pwD) p = p := fun p => by
    show (((p.1.map D.int).map D.toI), p.2) = p
    rw [List.map_map]
    have : p.1.map (D.toI ∘ D.int) = p.1 := List.map_id' p.1
    rw [this]
  rw [List.map_congr_left fun p _ => this p, List.map_id']
theorem holdsD_eq {h b : D} : holdsD n g (.tup [h, b]) = if eqS "cuts" h = true then arePartsD n b && cutsOK n g (psOf b) else eqS "functional" h && (areQs (npr n) b && funOK n g (qsOf b)) := rfl
theorem holds_cuts (hn : 1 ≤ n) {ps : List (List Int × Rat)} (h1 : ∀ p ∈ ps, IsSpl n p.1 ∧ 0 < p.2) (h2 : ∀ k, k < npr n → sumP ps (pr n k).1 (pr n k).2 = g (pr n k).1 (pr n k).2) : holdsD n g (papD (.inl ps)) = true := by
  have e : holdsD n g (papD (.inl ps)) = (arePartsD n (.tup (ps.map pwD)) && cutsOK n g (psOf (.tup (ps.map pwD)))) := by
    rw [show papD (.inl ps) = .tup [.str "cuts", .tup (ps.map pwD)] from rfl, holdsD_eq, if_pos (by decide)]
  rw [e, psOf_map, Bool.and_eq_true]
  refine ⟨List.all_eq_true.mpr fun d hd => ?_, List.all_eq_true.mpr fun p hp => decide_eq_true ?_⟩
  · obtain ⟨p, hp, rfl⟩ := List.mem_map.mp hd
    show (isSplD n (tI p.1) && decide (0 < p.2.num)) = true
    rw [spl_isD hn (h1 p hp).1, decide_eq_true (num_ps (h1 p hp).2)]; rfl
  · obtain ⟨k, hk, e⟩ := List.getElem_of_mem hp
    have hk' : k < npr n := hk
    have e2 : pr n k = p := by
      have := pr_get hk'
      rw [List.getElem?_eq_getElem hk, e] at this
      exact (Option.some.inj this).symm
    have := h2 k hk'
    rwa [e2] at this
theorem qsOf_map (xs : List Rat) : qsOf (.tup (xs.map D.rat)) = xs := by
  show (xs.map D.rat).map D.toQ = xs
  rw [List.map_map]
  exact List.map_id' xs
theorem holds_funct {xs : List Rat} (hl : xs.length = npr n) (h : funOK n g xs = true) : holdsD n g (papD (.inr xs)) = true := by
  have e : holdsD n g (papD (.inr xs)) = (eqS "functional" (D.str "functional") && (areQs (npr n) (.tup (xs.map D.rat)) && funOK n g (qsOf (.tup (xs.map D.rat))))) := by
    rw [show papD (.inr xs) = .tup [.str "functional", .tup (xs.map D.rat)] from rfl, holdsD_eq, if_neg (by decide)]
  rw [e, qsOf_map, h, Bool.and_true, Bool.and_eq_true]
  refine ⟨by decide, ?_⟩
  show (decide (((xs.map D.rat).length : Int) = (npr n : Int)) && (xs.map D.rat).all isQ) = true
  rw [List.length_map, hl, decide_eq_true rfl, Bool.true_and]
  exact List.all_eq_true.mpr fun d hd => by
    obtain ⟨x, _, rfl⟩ := List.mem_map.mp hd
    rfl
theorem PX_holds (hn : 1 ≤ n) (h : InvX n g s) (hp : ∀ j, j < NS n → 0 ≤ s.P j) : holdsD n g (papD (PX n g s)) = true ∧ (papH (PX n g s) = "cuts" ∧ Cone n g ∨ papH (PX n g s) = "functional" ∧ ¬ Cone n g) := by
  unfold PX
  by_cases hneg : s.P (NS n + npr n) < 0
  · rw [if_pos hneg]
    have hl : (xsX n g s).length = npr n := by unfold xsX; exact tab_len
    have hg : ∀ k, k < npr n → (xsX n g s).getD k 0 = fuV (NS n) (bX n g) s k := fun k hk => by
      unfold xsX
      rw [List.getD_eq_getElem?_getD, tab_get hk]; rfl
    have hf : funOK n g (xsX n g s) = true := by
      refine fun_ok (fun t ht => ?_) ?_
      · obtain ⟨j, hj, rfl⟩ := spl_ex ht
        have := fun_np h hj (hp j hj)
        have e : FV n (fun k => (xsX n g s).getD k 0) (spl n j) = rs (npr n) fun i => if AX n i j = true then fuV (NS n) (bX n g) s i else 0 := rs_congr fun k hk => by
          show (if part (spl n j) (pr n k).1 (pr n k).2 = true then (xsX n g s).getD k 0 else 0) = _
          rw [hg k hk]; rfl
        rw [e]; exact this
      · have := fun_ps h hneg
        have e : GV n (fun k => (xsX n g s).getD k 0) g = rs (npr n) fun i => fuV (NS n) (bX n g) s i * bX n g i := rs_congr fun k hk => by
          show (xsX n g s).getD k 0 * _ = _
          rw [hg k hk]; rfl
        rw [e]; exact this
    exact ⟨holds_funct hl hf, Or.inr ⟨rfl, fun_cone hn hf⟩⟩
  · rw [if_neg hneg]
    have h1 : ∀ p ∈ psX n s, IsSpl n p.1 ∧ 0 < p.2 := fun p hp => by
      obtain ⟨j, _, _, h1, h2⟩ := psX_mem hn hp
      exact ⟨h1, h2⟩
    have h2 : ∀ k, k < npr n → sumP (psX n s) (pr n k).1 (pr n k).2 = g (pr n k).1 (pr n k).2 := fun k hk => by
      rw [sumP_psX fun j hj => wX_nn h hj]
      exact wts_ok h hneg hk
    refine ⟨holds_cuts hn h1 h2, Or.inl ⟨rfl, ?_⟩⟩
    have h3 := cone_sumP (n := n) (ps := psX n s) fun p hp => ⟨(h1 p hp).1, by have := (h1 p hp).2; grind⟩
    intro v hv
    have h4 := h3 v hv
    have e : GV n v (fun x y => sumP (psX n s) x y) = GV n v g := rs_congr fun k hk => by
      show v k * sumP (psX n s) (pr n k).1 (pr n k).2 = _
      rw [h2 k hk]
    rwa [e] at h4
/-- what is said of the paper's numbers -/
structure PapB (n : Nat) (P : Sum (List (List Int × Rat)) (List Rat)) : Prop where
  l : ∀ ps, P = .inl ps → ps.length ≤ NS n ∧ ∀ p ∈ ps, Ht 58 p.2 ∧ IsSpl n p.1
  r : ∀ xs, P = .inr xs → xs.length = npr n ∧ ∀ x ∈ xs, Ht 66 x
theorem PX_bd (hn : 1 ≤ n) (h : InvX n g s) (hf : Few (NS n) (npr n) s) (hd : ∀ i, i < npr n → (bX n g i).den ≤ 3) : PapB n (PX n g s) := by
  unfold PX
  have hs := h.ps
  have hsc := hf.sc
  refine ⟨fun ps e => ?_, fun xs e => ?_⟩
  · by_cases hneg : s.P (NS n + npr n) < 0
    · rw [if_pos hneg] at e; cases e
    · rw [if_neg hneg] at e
      cases e
      refine ⟨?_, fun p hp => ?_⟩
      · unfold psX
        rw [List.length_map]
        exact Nat.le_trans (List.length_filter_le _ _) (by rw [List.length_range]; exact Nat.le_refl _)
      · obtain ⟨j, hj, e, h1, h2⟩ := psX_mem hn hp
        refine ⟨?_, h1⟩
        rw [e]
        show Ht 58 (wX (npr n) (NS n) s j)
        rcases wX_val h hj with h3 | ⟨l, hl, h3⟩
        · rw [h3]; exact Ht.zero (by decide)
        · rw [h3]; exact Ht.divInt hs (hf.t l _ hl (by omega)) (by omega)
  · by_cases hneg : s.P (NS n + npr n) < 0
    · rw [if_pos hneg] at e
      cases e
      refine ⟨by unfold xsX; exact tab_len, fun x hx => ?_⟩
      unfold xsX at hx
      obtain ⟨i, hi, rfl⟩ := List.mem_map.mp (show x ∈ (List.range (npr n)).map _ from hx)
      have hi' := List.mem_range.mp hi
      have h1 := hd i hi'
      have h2 := hf.p (NS n + i) (by omega)
      refine Ht.divInt hs ?_ (by omega)
      rw [Int.natAbs_mul, Int.natAbs_natCast]
      have h3 : (s.sc - s.P (NS n + i)).natAbs < 2 ^ 63 := by omega
      exact Nat.lt_of_le_of_lt (Nat.mul_le_mul_right _ h1) (by omega)
    · rw [if_neg hneg] at e; cases e
end
end K48

namespace K48
open PySem PySem.Spec PyProof.Rows L2
/-! ### all tries have few bits -/
abbrev okX (d : D) : Prop := d.ok (Ht 72) 40
theorem tab_mem {α : Type} {n : Nat} {f : Nat → α} {x : α} (h : x ∈ tab n f) : ∃ i, i < n ∧ x = f i := by
  obtain ⟨i, hi, rfl⟩ := List.mem_map.mp (show x ∈ (List.range n).map f from h)
  exact ⟨i, List.mem_range.mp hi, rfl⟩
theorem ok_fnl {l : List D} (hl : l.length ≤ 40) (h : ∀ x ∈ l, ∃ q, x = .rat q ∧ Ht 72 q) : okX (fnl l) :=
  ⟨by show 2 ≤ 40; decide, trivial, ⟨hl, okL_iff.mpr fun x hx => by obtain ⟨q, rfl, hq⟩ := h x hx; exact hq⟩, trivial⟩
theorem ok_tab {n : Nat} (hn : n ≤ 5) {f : Nat → Rat} (h : ∀ i, i < npr n → Ht 72 (f i)) : okX (fnl (tab (npr n) fun i => .rat (f i))) :=
  ok_fnl (by rw [tab_len]; have := npr5 hn; omega) fun x hx => by
    obtain ⟨i, hi, rfl⟩ := tab_mem hx
    exact ⟨_, rfl, h i hi⟩
theorem ok_int {i : Int} (h : i.natAbs < 100) : Ht 72 (Rat.divInt i 1) := (Ht.divInt (h := 7) (by decide) (by omega) (by decide)).mono (by decide)
theorem ok_tI {L : Nat} {P : Rat → Prop} {s : List Int} (h : s.length ≤ L) : (tI s).ok P L := ⟨by rw [List.length_map]; exact h, okL_iff.mpr fun d hd => by
  obtain ⟨v, _, rfl⟩ := List.mem_map.mp hd
  trivial⟩
theorem ok_pw {P : Rat → Prop} {L : Nat} {p : List Int × Rat} (h2 : 2 ≤ L) (h : p.1.length ≤ L) (hq : P p.2) : (pwD p).ok P L := ⟨h2, ok_tI h, hq, trivial⟩
theorem ok_cD {P : Rat → Prop} {L : Nat} {l : List D} (h2 : 2 ≤ L) (hl : l.length ≤ L) (h : ∀ d ∈ l, d.ok P L) : (cD (.tup l)).ok P L := ⟨h2, trivial, ⟨hl, okL_iff.mpr h⟩, trivial⟩
theorem law_len {n : Nat} (hn : 1 ≤ n) {s : List Int} (h : s ∈ lawS n) : s.length ≤ n - 1 := (splS_inv n).2 s ((mem_splS hn s).mpr ((mem_lawS hn s).mp h))
theorem isSpl_len {n : Nat} (hn : 1 ≤ n) {s : List Int} (h : IsSpl n s) : s.length ≤ n - 1 := (splS_inv n).2 s ((mem_splS hn s).mpr h)
theorem b_abs {b : List Int} (hb : b ∈ bsL) (i : Nat) : (b.getD i 0).natAbs ≤ 1 := by
  have h5 : b = [1, 1, 1, -1, -1] ∨ b = [-1, -1, 1, 1, 1] ∨ b = [1, -1, 1, -1, 1] := by simpa [bsL] using hb
  by_cases hi : i < 5
  · have : i = 0 ∨ i = 1 ∨ i = 2 ∨ i = 3 ∨ i = 4 := by omega
    rcases h5 with rfl | rfl | rfl <;> rcases this with rfl | rfl | rfl | rfl | rfl <;> decide
  · have hl : b.length = 5 := by rcases h5 with rfl | rfl | rfl <;> rfl
    rw [List.getD_eq_getElem?_getD, List.getElem?_eq_none (by omega)]; decide
theorem dp1_ok {n : Nat} (hn : n ≤ 5) (S : Int × Int) : (dp1 n S).2.length ≤ 3 ∧ ∀ d ∈ (dp1 n S).2, okX d := by
  unfold dp1
  refine lp_inv (fun i (a : (Int × Int) × List D) => a.2.length ≤ i ∧ ∀ d ∈ a.2, okX d) ⟨Nat.le_refl _, fun d hd => nomatch hd⟩ fun i a _ ih => ⟨?_, fun d hd => ?_⟩
  · rw [List.length_append, List.length_singleton]; have := ih.1; omega
  · rcases List.mem_append.mp hd with hd | hd
    · exact ih.2 d hd
    · rw [List.mem_singleton.mp hd]
      refine ok_tab hn fun i hi => ?_
      have := tkV_lt (s := dSs a.1 i) (m := 5) (by omega)
      exact ok_int (by omega)
theorem dp2_ok {n : Nat} (hn : n ≤ 5) {l : List D} (hl : l.length ≤ 3) (h : ∀ d ∈ l, okX d) : (dp2 n l).length ≤ 9 ∧ ∀ d ∈ dp2 n l, okX d := by
  have key : ∀ bs : List (List Int), (∀ b ∈ bs, b ∈ bsL) → ∀ l : List D, (∀ d ∈ l, okX d) → (bs.foldl (fun l b => if n = 5 then l ++ [fnl (tab (npr n) fun i => .rat (bA1 b n i))] ++ [fnl (tab (npr n) fun i => .rat (bAt b 2 n i))] else l) l).length ≤ l.length + 2 * bs.length ∧ ∀ d ∈ bs.foldl (fun l b => if n = 5 then l ++ [fnl (tab (npr n) fun i => .rat (bA1 b n i))] ++ [fnl (tab (npr n) fun i => .rat (bAt b 2 n i))] else l) l, okX d := by
    intro bs
    induction bs with
    | nil => intro _ l h; exact ⟨by simp, h⟩
    | cons b bs ih =>
      intro hb l h
      rw [List.foldl_cons]
      have hbm := hb b (List.mem_cons_self ..)
      have h1 : ∀ d ∈ (if n = 5 then l ++ [fnl (tab (npr n) fun i => .rat (bA1 b n i))] ++ [fnl (tab (npr n) fun i => .rat (bAt b 2 n i))] else l), okX d := by
        split
        · intro d hd
          rcases List.mem_append.mp hd with hd | hd
          · rcases List.mem_append.mp hd with hd | hd
            · exact h d hd
            · rw [List.mem_singleton.mp hd]
              refine ok_tab hn fun i hi => ok_int ?_
              rw [Int.natAbs_mul]
              have := Nat.mul_le_mul (b_abs hbm (pr n i).1) (b_abs hbm (pr n i).2)
              omega
          · rw [List.mem_singleton.mp hd]
            refine ok_tab hn fun i hi => ok_int ?_
            rw [Int.natAbs_mul, Int.natAbs_mul]
            have := Nat.mul_le_mul (Nat.mul_le_mul (Nat.le_refl 2) (b_abs hbm (pr n i).1)) (b_abs hbm (pr n i).2)
            have e : (2 : Int).natAbs = 2 := rfl
            rw [e]; omega
        · exact h
      have h2 : (if n = 5 then l ++ [fnl (tab (npr n) fun i => .rat (bA1 b n i))] ++ [fnl (tab (npr n) fun i => .rat (bAt b 2 n i))] else l).length ≤ l.length + 2 := by
        split
        · rw [List.length_append, List.length_append]; exact Nat.le_refl _
        · omega
      obtain ⟨h3, h4⟩ := ih (fun b hb' => hb b (List.mem_cons_of_mem _ hb')) _ h1
      exact ⟨by rw [List.length_cons]; omega, h4⟩
  obtain ⟨h1, h2⟩ := key bsL (fun b hb => hb) l h
  have : bsL.length = 3 := rfl
  exact ⟨by unfold dp2; omega, h2⟩
theorem dp3_ok {n : Nat} (hn : n ≤ 5) {at_ : List Int} (ha : at_.length ≤ 40) : ∀ d ∈ dp3 n at_, okX d := by
  unfold dp3
  intro d hd
  simp only [List.mem_cons, List.mem_nil_iff, or_false] at hd
  have hc : (cmpl at_ n).length ≤ 40 := by
    unfold cmpl
    rw [List.length_map]
    refine Nat.le_trans (List.length_filter_le _ _) ?_
    rw [List.length_range]; omega
  rcases hd with rfl | rfl | rfl
  · refine ok_tab hn fun i hi => ok_int ?_
    unfold cutV0
    split <;> decide
  · exact ⟨by show 2 ≤ 40; decide, trivial, ⟨by show 1 ≤ 40; decide, ⟨by show 2 ≤ 40; decide, ok_tI ha, Ht.zero (by decide), trivial⟩, trivial⟩, trivial⟩
  · exact ⟨by show 2 ≤ 40; decide, trivial, ⟨by show 1 ≤ 40; decide, ⟨by show 2 ≤ 40; decide, ok_tI hc, (show Ht 72 1 from ⟨by decide +kernel, by decide +kernel⟩), trivial⟩, trivial⟩, trivial⟩
theorem dpE_ok {n : Nat} (hn : 1 ≤ n ∧ n ≤ 5) (S : Int × Int) : (dpE n S).2.length ≤ 12 ∧ ∀ d ∈ (dpE n S).2, okX d := by
  have h1 := dp1_ok hn.2 S
  have h2 := dp2_ok hn.2 h1.1 h1.2
  unfold dpE
  by_cases h : 0 < LN n
  · rw [if_pos h]
    have h3 : lawX n (tkV (dp1 n S).1 (LN n)) ∈ lawS n := getD_mem (tkV_lt h)
    refine ⟨?_, fun d hd => ?_⟩
    · show (dp2 n (dp1 n S).2 ++ dp3 n _).length ≤ 12
      rw [List.length_append]
      have : (dp3 n (lawX n (tkV (dp1 n S).1 (LN n)))).length = 3 := rfl
      have := h2.1
      omega
    · rcases List.mem_append.mp hd with hd | hd
      · exact h2.2 d hd
      · exact dp3_ok hn.2 (by have := law_len hn.1 h3; omega) d hd
  · rw [if_neg h]
    exact ⟨Nat.le_trans h2.1 (by decide), h2.2⟩
theorem one72 : Ht 72 (Rat.divInt 1 1) := ok_int (by decide)
theorem tr2_ok {n : Nat} (hn : n ≤ 5) : ∀ d ∈ tr2 n, okX d := by
  intro d hd
  have hc : ∀ z : Int, z.natAbs < 100 → okX (.tup [.str "functional", cstD n z]) := fun z hz => ok_tab hn fun i _ => ok_int hz
  unfold tr2 at hd
  simp only [List.mem_cons, List.mem_nil_iff, or_false] at hd
  rcases hd with rfl | rfl | rfl | rfl | rfl | rfl | rfl | rfl
  · exact ok_cD (by decide) (Nat.zero_le _) fun d hd => nomatch hd
  · exact hc 0 (by decide)
  · exact hc (-1) (by decide)
  · exact hc 1 (by decide)
  · exact ⟨by show 2 ≤ 40; decide, trivial, ⟨Nat.zero_le _, trivial⟩, trivial⟩
  · trivial
  · exact ⟨by show 1 ≤ 40; decide, trivial, trivial⟩
  · exact ⟨by show 1 ≤ 40; decide, trivial, trivial⟩
theorem tr3_ok {n : Nat} (hn : 1 ≤ n ∧ n ≤ 5) : ∀ d ∈ tr3 n, okX d := by
  intro d hd
  obtain ⟨s, hs, rfl⟩ := List.mem_map.mp hd
  have := law_len hn.1 hs
  refine ok_cD (by decide) (by show 1 ≤ 40; decide) fun d hd => ?_
  rw [List.mem_singleton.mp hd]
  exact ok_pw (by decide) (show s.length ≤ 40 by omega) one72
/-- few bits -/
def Good (n : Nat) (d : D) : Prop := ∃ h L, d.ok (Ht h) L ∧ 1 ≤ h ∧ L ≤ 1000 ∧ 1 + L * (h + 1) ≤ 4000 ∧ 1 + npr n * (h + 18 + 1) ≤ 4000
theorem okX.good {n : Nat} (hn : n ≤ 5) {d : D} (h : okX d) : Good n d := ⟨72, 40, h, by decide, by decide, by decide, by
  have := Nat.mul_le_mul_right (72 + 18 + 1) (npr5 hn)
  omega⟩
section
variable {n : Nat} {P : Sum (List (List Int × Rat)) (List Rat)}
theorem ok_ps (hn : 1 ≤ n ∧ n ≤ 5) {ps : List (List Int × Rat)} {h L : Nat} (hL : 4 ≤ L) (hp : ∀ p ∈ ps, Ht h p.2 ∧ IsSpl n p.1) : ∀ d ∈ ps.map pwD, d.ok (Ht h) L := fun d hd => by
  obtain ⟨p, hp', rfl⟩ := List.mem_map.mp hd
  have := isSpl_len hn.1 (hp p hp').2
  exact ok_pw (by omega) (by omega) (hp p hp').1
theorem pap_ok (hn : 1 ≤ n ∧ n ≤ 5) (hB : PapB n P) : (papD P).ok (Ht 66) 15 := by
  cases P with
  | inl ps =>
    obtain ⟨h1, h2⟩ := hB.l ps rfl
    have := NS_le hn.2
    exact ok_cD (by decide) (by rw [List.length_map]; omega) (ok_ps hn (by decide) fun p hp => ⟨(h2 p hp).1.mono (by decide), (h2 p hp).2⟩)
  | inr xs =>
    obtain ⟨h1, h2⟩ := hB.r xs rfl
    have := npr5 hn.2
    refine ⟨by show 2 ≤ 15; decide, trivial, ⟨by rw [List.length_map]; omega, okL_iff.mpr fun d hd => ?_⟩, trivial⟩
    obtain ⟨x, hx, rfl⟩ := List.mem_map.mp hd
    exact h2 x hx
theorem mvL_ht {t : Rat} (h : t ∈ mvL) : Ht 2 t := by
  unfold mvL at h
  simp only [List.mem_cons, List.mem_nil_iff, or_false] at h
  rcases h with rfl | rfl | rfl | rfl
  · exact ⟨by decide +kernel, by decide +kernel⟩
  · exact ⟨by decide +kernel, by decide +kernel⟩
  · exact Ht.divInt (by decide) (by decide) (by decide)
  · exact Ht.divInt (by decide) (by decide) (by decide)
theorem mvW_ht {t : Rat} (h : t ∈ mvL) {ps : List (List Int × Rat)} {L : Nat} (hl : ps.length ≤ L) (hp : ∀ p ∈ ps, Ht 58 p.2) (s : List Int) : Ht (2 + L * 59) (mvW t s ps) := by
  have h0 : Ht 2 (if s.length = 2 then -t else t) := by
    split
    · exact (mvL_ht h).neg
    · exact mvL_ht h
  have h1 := Ht.fold (h := 58) (t := fun p : List Int × Rat => decide (p.1 = s)) (w := fun p => p.2) hp h0
  unfold mvW
  have e : ps.foldl (fun a p => if p.1 = s then a + p.2 else a) (if s.length = 2 then -t else t) = ps.foldl (fun a p => if decide (p.1 = s) = true then a + p.2 else a) (if s.length = 2 then -t else t) := by
    congr 1
    funext a p
    by_cases e : p.1 = s
    · rw [if_pos e, if_pos (decide_eq_true e)]
    · rw [if_neg e, if_neg (by rw [decide_eq_false e]; decide)]
  rw [e]
  refine h1.mono ?_
  have := Nat.mul_le_mul_right 59 hl
  omega
theorem lawS4 : (lawS 4).length = 7 := by
  unfold lawS
  rw [(sortI_perm _).length_eq]
  decide +kernel
theorem mvR_ok {t : Rat} (ht : t ∈ mvL) {ps : List (List Int × Rat)} (hl : ps.length ≤ 7) (hp : ∀ p ∈ ps, Ht 58 p.2) : (mvR t ps).length ≤ 7 ∧ ∀ d ∈ mvR t ps, d.ok (Ht 415) 7 := by
  have key : ∀ ss : List (List Int), (∀ s ∈ ss, s ∈ lawS 4) → ∀ l : List D, (∀ d ∈ l, d.ok (Ht 415) 7) → (ss.foldl (fun l s => if (mvW t s ps).num ≠ 0 then l ++ [pwD (s, mvW t s ps)] else l) l).length ≤ l.length + ss.length ∧ ∀ d ∈ ss.foldl (fun l s => if (mvW t s ps).num ≠ 0 then l ++ [pwD (s, mvW t s ps)] else l) l, d.ok (Ht 415) 7 := by
    intro ss
    induction ss with
    | nil => intro _ l h; exact ⟨by simp, h⟩
    | cons s ss ih =>
      intro hs l h
      rw [List.foldl_cons]
      have hsm := hs s (List.mem_cons_self ..)
      have h1 : ∀ d ∈ (if (mvW t s ps).num ≠ 0 then l ++ [pwD (s, mvW t s ps)] else l), d.ok (Ht 415) 7 := by
        split
        · intro d hd
          rcases List.mem_append.mp hd with hd | hd
          · exact h d hd
          · rw [List.mem_singleton.mp hd]
            have := law_len (by decide) hsm
            exact ok_pw (by decide) (show s.length ≤ 7 by omega) (mvW_ht ht hl hp s)
        · exact h
      have h2 : (if (mvW t s ps).num ≠ 0 then l ++ [pwD (s, mvW t s ps)] else l).length ≤ l.length + 1 := by
        split
        · rw [List.length_append]; exact Nat.le_refl _
        · omega
      obtain ⟨h3, h4⟩ := ih (fun b hb' => hs b (List.mem_cons_of_mem _ hb')) _ h1
      exact ⟨by rw [List.length_cons]; omega, h4⟩
  obtain ⟨h1, h2⟩ := key (lawS 4) (fun s hs => hs) [] fun d hd => nomatch hd
  rw [lawS4] at h1
  exact ⟨by unfold mvR; simpa using h1, h2⟩
theorem tr4_good (hn : 1 ≤ n ∧ n ≤ 5) (hB : PapB n P) : ∀ d ∈ tr4 n P, Good n d := by
  cases P with
  | inr xs => exact fun d hd => nomatch hd
  | inl ps =>
    obtain ⟨h1, h2⟩ := hB.l ps rfl
    have hN := NS_le hn.2
    have hm : ∀ d ∈ ps.map pwD, okX d := ok_ps hn (by decide) fun p hp => ⟨(h2 p hp).1.mono (by decide), (h2 p hp).2⟩
    have hm2 : ∀ d ∈ (hvP ps).map pwD, okX d := by
      refine ok_ps hn (by decide) fun p hp => ?_
      obtain ⟨p0, hp0, rfl⟩ := List.mem_map.mp (show p ∈ ps.map _ from hp)
      obtain ⟨h3, h4⟩ := h2 p0 hp0
      refine ⟨(Ht.divInt (h := 59) (by have := p0.2.den_pos; omega) (by have := h3.1; omega) ?_).mono (by decide), h4⟩
      have := h3.2
      omega
    have hl2 : (hvP ps).length = ps.length := by unfold hvP; rw [List.length_map]
    intro d hd
    rcases List.mem_append.mp (show d ∈ [cD (.tup (ps.map pwD).reverse), cD (.tup (ps.map pwD ++ ps.map pwD)), cD (.tup ((ps.map pwD).drop 1))] ++ ((mvs n ps).map cD ++ [cD (.tup ((hvP ps).map pwD ++ (hvP ps).map pwD))]) from hd) with hd | hd
    · simp only [List.mem_cons, List.mem_nil_iff, or_false] at hd
      refine okX.good hn.2 ?_
      rcases hd with rfl | rfl | rfl
      · exact ok_cD (by decide) (by rw [List.length_reverse, List.length_map]; omega) fun d hd => hm d (List.mem_reverse.mp hd)
      · exact ok_cD (by decide) (by rw [List.length_append, List.length_map]; omega) fun d hd => by
          rcases List.mem_append.mp hd with hd | hd <;> exact hm d hd
      · exact ok_cD (by decide) (by rw [List.length_drop, List.length_map]; omega) fun d hd => hm d (List.mem_of_mem_drop hd)
    · rcases List.mem_append.mp hd with hd | hd
      · obtain ⟨r, hr, rfl⟩ := List.mem_map.mp hd
        unfold mvs at hr
        by_cases h4 : n = 4
        · subst h4
          rw [if_pos rfl] at hr
          obtain ⟨t, ht, rfl⟩ := List.mem_map.mp hr
          rw [NS4] at h1
          obtain ⟨h3, h5⟩ := mvR_ok ht h1 fun p hp => (h2 p hp).1
          exact ⟨415, 7, ok_cD (by decide) h3 h5, by decide, by decide, by decide, by rw [npr4]; decide⟩
        · rw [if_neg h4] at hr; cases hr
      · rw [List.mem_singleton.mp hd]
        refine okX.good hn.2 (ok_cD (by decide) (by rw [List.length_append, List.length_map]; omega) fun d hd => ?_)
        rcases List.mem_append.mp hd with hd | hd <;> exact hm2 d hd
theorem papOK (hn : 1 ≤ n ∧ n ≤ 5) (hB : PapB n P) : PapOK P := by
  have hN := NS_le hn.2
  refine ⟨fun ps e => ?_, fun ps e t ht s i => ?_, fun ps e p hp => ?_⟩
  · have := (hB.l ps e).1; omega
  · obtain ⟨h1, h2⟩ := hB.l ps e
    exact (mvW_ht ht (L := 15) (by rw [List.length_take]; omega) (fun p hp => (h2 p (List.mem_of_mem_take hp)).1) s).sm' (by decide)
  · exact ((hB.l ps e).2 p hp).1.sm' (by decide)
theorem bendOK (hn : 1 ≤ n ∧ n ≤ 5) (hB : PapB n P) : BendOK n (papD P) := ⟨fun S m hm => (benX_ok2 (by decide) (pap_ok hn hB) hm).mono (fun q hq => hq.sm' (by decide)) (by decide)⟩
theorem all_good (hn : 1 ≤ n ∧ n ≤ 5) (hB : PapB n P) (S : Int × Int) : ∀ x ∈ (benT n (papD P) (dpE n S).1 (trA n S P)).2, Good n x := by
  intro x hx
  rcases benT_mem hx with hx | ⟨S', m, hm, rfl⟩
  · unfold trA at hx
    rcases List.mem_append.mp hx with hx | hx
    · rcases List.mem_append.mp hx with hx | hx
      · rcases List.mem_append.mp hx with hx | hx
        · exact okX.good hn.2 ((dpE_ok hn S).2 x hx)
        · exact okX.good hn.2 (tr2_ok hn.2 x hx)
      · exact okX.good hn.2 (tr3_ok hn x hx)
    · exact tr4_good hn hB x hx
  · exact okX.good hn.2 ((benX_ok2 (by decide) (pap_ok hn hB) hm).mono (fun q hq => hq.mono (by decide)) (by decide))
end
end K48

namespace K48
open PySem PySem.Spec PyProof.Rows L2
/-- a metric of whole numbers -/
structure MetI (n : Nat) (d : Nat → Nat → Int) : Prop where
  z : ∀ x, x < n → d x x = 0
  s : ∀ x y, x < n → y < n → d x y = d y x
  t : ∀ x y z, x < n → y < n → z < n → d x z ≤ d x y + d y z
  p : ∀ x y, x < n → y < n → x ≠ y → 0 < d x y
  b : ∀ x y, x < n → y < n → d x y ≤ 10000
abbrev cI (d : Nat → Nat → Int) : Nat → Nat → Rat := fun x y => ((d x y : Int) : Rat)
theorem MetI.nn {n : Nat} {d : Nat → Nat → Int} (h : MetI n d) {x y : Nat} (hx : x < n) (hy : y < n) : 0 ≤ d x y := by
  by_cases e : x = y
  · subst e; rw [h.z x hx]; exact Int.le_refl _
  · have := h.p x y hx hy e; omega
section
variable {n p q : Nat} {d : Nat → Nat → Int}
theorem fq_eq (hq : 0 < q) (i : Int) : fq p q i = Rat.divInt p q * (i : Rat) := by
  refine eq_of (c := ((q : Int) : Rat)) (cast_pos (by omega)) ?_
  unfold fq
  rw [dv_mul (by omega)]
  have := dv_mul (a := (p : Int)) (c := (q : Int)) (by omega)
  rw [Rat.intCast_mul]
  grind
theorem pq_pos (hp : 0 < p) (hq : 0 < q) : 0 < Rat.divInt p q := by
  refine ps_of (c := ((q : Int) : Rat)) (cast_pos (by omega)) ?_
  rw [dv_mul (by omega)]
  exact cast_pos (by omega)
theorem cone_fq (hp : 0 < p) (hq : 0 < q) : Cone n (fun x y => fq p q (d x y)) ↔ Cone n (cI d) := by
  have h0 := pq_pos hp hq
  constructor
  · intro h
    have h1 := h.smul (c := (Rat.divInt p q)⁻¹) (by have := Rat.inv_pos.mpr h0; grind)
    refine h1.congr fun x y _ _ => ?_
    rw [fq_eq hq]
    have := Rat.inv_mul_cancel _ (show Rat.divInt p q ≠ 0 by grind)
    show (Rat.divInt p q)⁻¹ * (Rat.divInt p q * cI d x y) = cI d x y
    grind
  · intro h
    have h1 := h.smul (c := Rat.divInt p q) (by grind)
    exact h1.congr fun x y _ _ => (fq_eq hq _).symm
theorem fq_num (hq : 1 ≤ q ∧ q ≤ 3) (hp : 1 ≤ p ∧ p ≤ 4) {i : Int} (h0 : 0 ≤ i) (h1 : i ≤ 10000) : 0 ≤ (fq p q i).num ∧ (fq p q i).num.natAbs ≤ 40000 ∧ (fq p q i).den ≤ 3 := by
  obtain ⟨e1, e2⟩ := ratOf (n := i * (p : Int)) (d := (q : Int)) (by omega)
  have h3 : (fq p q i).num.natAbs ≤ (i * (p : Int)).natAbs := by unfold fq; rw [e1]; exact Int.natAbs_ediv_le_natAbs _ _
  have h4 : ((fq p q i).den : Int).natAbs ≤ (q : Int).natAbs := by unfold fq; rw [e2]; exact Int.natAbs_ediv_le_natAbs _ _
  refine ⟨Rat.num_nonneg.mpr (Rat.divInt_nonneg (Int.mul_nonneg h0 (by omega)) (by omega)), ?_, by omega⟩
  rw [Int.natAbs_mul, Int.natAbs_natCast] at h3
  have := Nat.mul_le_mul (show i.natAbs ≤ 10000 by omega) hp.2
  omega
theorem case_ok {kd : Nat} {S : Int × Int} (hn : 1 ≤ n ∧ n ≤ 5) (hp : 1 ≤ p ∧ p ≤ 4) (hq : 1 ≤ q ∧ q ≤ 3) (hm : MetI n d) (h0 : kd = 0 → ¬ Cone n (cI d)) (h1 : (n < 5 ∨ kd = 1 ∨ kd = 2) → Cone n (cI d)) : CaseOK kd n d p q S := by
  have hfn : ∀ x y, x < n → y < n → 0 ≤ (fq p q (d x y)).num ∧ (fq p q (d x y)).num.natAbs ≤ 40000 ∧ (fq p q (d x y)).den ≤ 3 := fun x y hx hy => fq_num hq hp (hm.nn hx hy) (hm.b x y hx hy)
  have hHt : ∀ x y, x < n → y < n → Ht 16 (fq p q (d x y)) := fun x y hx hy => by
    have := hfn x y hx hy
    exact ⟨by omega, by omega⟩
  have hc := pq_pos (p := p) (q := q) (by omega) (by omega)
  refine ⟨hn, ⟨by omega, by omega, by omega⟩, fun x y hx hy => ?_, ?_, ?_, ?_⟩
  · have := hm.nn hx hy
    have := hm.b x y hx hy
    omega
  · refine ⟨fun x hx => ?_, fun x y hx hy => ?_, fun x y z hx hy hz => ?_, fun x y hxy hx => ?_, fun x y hx hy => (hHt x y hx hy).sm' (by decide), fun x y z hx hy hz => ((hHt x y hx hy).add (hHt y z hy hz)).sm' (by decide)⟩
    · show fq p q (d x x) = 0
      rw [hm.z x hx, fq_eq (by omega)]
      exact Rat.mul_zero _
    · show fq p q (d x y) = fq p q (d y x)
      rw [hm.s x y hx hy]
    · show 0 ≤ fq p q (d x y) + fq p q (d y z) - fq p q (d x z)
      rw [fq_eq (by omega), fq_eq (by omega), fq_eq (by omega)]
      have h2 : (0 : Rat) ≤ ((d x y + d y z - d x z : Int) : Rat) := Rat.intCast_nonneg.mpr (by have := hm.t x y z hx hy hz; omega)
      have h3 := Rat.mul_nonneg (show 0 ≤ Rat.divInt p q by grind) h2
      rw [Rat.intCast_sub, Rat.intCast_add] at h3
      grind
    · show 0 < fq p q (d x y)
      rw [fq_eq (by omega)]
      exact Rat.mul_pos hc (cast_pos (hm.p x y hx (by omega) (by omega)))
  · have hb : ∀ i, i < npr n → 0 ≤ (bX n (fun x y => fq p q (d x y)) i).num ∧ (bX n (fun x y => fq p q (d x y)) i).num.natAbs ≤ 40000 ∧ (bX n (fun x y => fq p q (d x y)) i).den ≤ 3 := fun i hi => by
      have := pr_lt hi
      exact hfn _ _ (by omega) this.2
    obtain ⟨k, hr, hI, hF, hP⟩ := runX_ok (N := NS n) (m := npr n) (A := AX n) (b := bX n (fun x y => fq p q (d x y))) ⟨by decide, fun i hi => (hb i hi).2.2, fun i hi => Nat.le_trans (hb i hi).2.1 (by decide), by decide⟩ (npr5 hn.2) fun i hi => (hb i hi).1
    have hB := PX_bd hn.1 hI hF fun i hi => (hb i hi).2.2
    obtain ⟨hh, hk⟩ := PX_holds hn.1 hI hP
    have hG : ∀ x, Good n x → TryOK n (fun x y => fq p q (d x y)) (papH (PX n (fun x y => fq p q (d x y)) (sX n (fun x y => fq p q (d x y)) k))) x := fun x ⟨h, L, ok, a1, a2, a3, a4⟩ => try_ok hn.1 ok a1 a2 a3 a4 (fun x y hx hy => (hHt x y hx hy).mono (by decide)) hk
    refine ⟨k, PX n (fun x y => fq p q (d x y)) (sX n (fun x y => fq p q (d x y)) k), ⟨⟨hn.1, by omega⟩, fun i hi => ?_, hr⟩, paper_PX, papOK hn hB, ?_, hh, bendOK hn hB, fun e => ?_, fun e => ?_, fun x hx => hG x (all_good hn hB S x hx)⟩
    · obtain ⟨a1, a2, a3⟩ := hb i hi
      exact ⟨a1, by omega, Bd.sm (by omega)⟩
    · exact hG _ (okX.good hn.2 ((pap_ok hn hB).mono (fun q hq => hq.mono (by decide)) (by decide)))
    · rcases hk with ⟨_, h⟩ | ⟨h, _⟩
      · exact absurd ((cone_fq (by omega) (by omega)).mp h) (h0 e)
      · exact h
    · rcases hk with ⟨h, _⟩ | ⟨_, h⟩
      · exact h
      · exact absurd ((cone_fq (by omega) (by omega)).mpr (h1 e)) h
  · have := (dpE_ok hn S).1; omega
end
end K48

namespace K48
open PySem PySem.Spec PyProof.Rows L2
/-- a sum of cuts -/
inductive CS : (Nat → Nat → Rat) → Prop
  | zero : CS fun _ _ => 0
  | add {g : Nat → Nat → Rat} (h : CS g) {c : Rat} (hc : 0 ≤ c) (χ : Nat → Bool) : CS fun x y => g x y + c * bq (χ x != χ y)
theorem CS.cone {g : Nat → Nat → Rat} (h : CS g) (n : Nat) : Cone n g := by
  induction h with
  | zero => exact Cone.zero
  | add h hc χ ih => exact ih.add ((Cone.cut χ).smul hc)
theorem CS.pull {g : Nat → Nat → Rat} (h : CS g) (f : Nat → Nat) : CS fun x y => g (f x) (f y) := by
  induction h with
  | zero => exact CS.zero
  | add h hc χ ih => exact CS.add ih hc fun x => χ (f x)
def c0 (x : Nat) : Bool := x == 0
def c1 (x : Nat) : Bool := x == 1
def c2 (x : Nat) : Bool := x == 2
def c3 (x : Nat) : Bool := x == 3
def c01 (x : Nat) : Bool := x == 0 || x == 1
def c02 (x : Nat) : Bool := x == 0 || x == 2
def c03 (x : Nat) : Bool := x == 0 || x == 3
/-- a metric of four points is a sum of cuts -/
theorem four_sum {e01 e02 e03 e12 e13 e23 M : Rat} (h1 : e01 + e23 ≤ M) (h2 : e02 + e13 ≤ M) (h3 : e03 + e12 ≤ M) (hM : M = e01 + e23 ∨ M = e02 + e13 ∨ M = e03 + e12)
    (t012 : e12 ≤ e01 + e02) (t013 : e13 ≤ e01 + e03) (t023 : e23 ≤ e02 + e03) (t102 : e02 ≤ e01 + e12) (t103 : e03 ≤ e01 + e13) (t123 : e23 ≤ e12 + e13) (t201 : e01 ≤ e02 + e12) (t203 : e03 ≤ e02 + e23) (t213 : e13 ≤ e12 + e23) (t301 : e01 ≤ e03 + e13) (t302 : e02 ≤ e03 + e23) (t312 : e12 ≤ e13 + e23) (n : Nat) :
    Cone n fun x y => 0 + (e01 + e02 + e03 - M) / 2 * bq (c0 x != c0 y) + (e01 + e12 + e13 - M) / 2 * bq (c1 x != c1 y) + (e02 + e12 + e23 - M) / 2 * bq (c2 x != c2 y) + (e03 + e13 + e23 - M) / 2 * bq (c3 x != c3 y) + (M - (e01 + e23)) / 2 * bq (c01 x != c01 y) + (M - (e02 + e13)) / 2 * bq (c02 x != c02 y) + (M - (e03 + e12)) / 2 * bq (c03 x != c03 y) := by
  refine CS.cone (CS.add (CS.add (CS.add (CS.add (CS.add (CS.add (CS.add CS.zero ?_ c0) ?_ c1) ?_ c2) ?_ c3) ?_ c01) ?_ c02) ?_ c03) n
  · rcases hM with h | h | h <;> grind
  · rcases hM with h | h | h <;> grind
  · rcases hM with h | h | h <;> grind
  · rcases hM with h | h | h <;> grind
  · grind
  · grind
  · grind
theorem four {n : Nat} (hn : 1 ≤ n ∧ n ≤ 4) {d : Nat → Nat → Int} (hm : MetI n d) : Cone n (cI d) := by
  have f : ∀ x, min x (n - 1) < n := fun x => by omega
  have key : ∃ e : Nat → Nat → Rat, (∀ x y, x < n → y < n → e x y = cI d x y) ∧ (∀ x y, e x y = e y x) ∧ (∀ x y z, e x z ≤ e x y + e y z) := by
    refine ⟨fun x y => cI d (min x (n - 1)) (min y (n - 1)), fun x y hx hy => ?_, fun x y => ?_, fun x y z => ?_⟩
    · show cI d (min x (n - 1)) (min y (n - 1)) = _
      rw [Nat.min_eq_left (by omega), Nat.min_eq_left (by omega)]
    · show ((d _ _ : Int) : Rat) = ((d _ _ : Int) : Rat)
      rw [hm.s _ _ (f x) (f y)]
    · show ((d _ _ : Int) : Rat) ≤ ((d _ _ : Int) : Rat) + ((d _ _ : Int) : Rat)
      rw [← Rat.intCast_add]
      exact Rat.intCast_le_intCast.mpr (hm.t _ _ _ (f x) (f y) (f z))
  obtain ⟨e, he, hs, ht⟩ := key
  have hM : ∃ M, e 0 1 + e 2 3 ≤ M ∧ e 0 2 + e 1 3 ≤ M ∧ e 0 3 + e 1 2 ≤ M ∧ (M = e 0 1 + e 2 3 ∨ M = e 0 2 + e 1 3 ∨ M = e 0 3 + e 1 2) := by
    by_cases a : e 0 1 + e 2 3 ≤ e 0 2 + e 1 3
    · by_cases b : e 0 2 + e 1 3 ≤ e 0 3 + e 1 2
      · exact ⟨e 0 3 + e 1 2, by grind, b, Rat.le_refl, Or.inr (Or.inr rfl)⟩
      · exact ⟨e 0 2 + e 1 3, a, Rat.le_refl, by grind, Or.inr (Or.inl rfl)⟩
    · by_cases b : e 0 1 + e 2 3 ≤ e 0 3 + e 1 2
      · exact ⟨e 0 3 + e 1 2, b, by grind, Rat.le_refl, Or.inr (Or.inr rfl)⟩
      · exact ⟨e 0 1 + e 2 3, Rat.le_refl, by grind, by grind, Or.inl rfl⟩
  obtain ⟨M, h1, h2, h3, h4⟩ := hM
  have s10 := hs 1 0
  have s20 := hs 2 0
  have s30 := hs 3 0
  have s21 := hs 2 1
  have s31 := hs 3 1
  have s32 := hs 3 2
  have t012 := ht 1 0 2
  have t013 := ht 1 0 3
  have t023 := ht 2 0 3
  have t102 := ht 0 1 2
  have t103 := ht 0 1 3
  have t123 := ht 2 1 3
  have t201 := ht 0 2 1
  have t203 := ht 0 2 3
  have t213 := ht 1 2 3
  have t301 := ht 0 3 1
  have t302 := ht 0 3 2
  have t312 := ht 1 3 2
  rw [s10] at t012 t013
  rw [s20] at t023
  rw [s21] at t123 t201
  rw [s31] at t301
  rw [s32] at t302 t312
  refine (four_sum h1 h2 h3 h4 (by grind) (by grind) (by grind) (by grind) (by grind) (by grind) (by grind) (by grind) (by grind) (by grind) (by grind) (by grind) n).congr fun x y hxy hy => ?_
  rw [← he x y (by omega) hy]
  have hc : (x = 0 ∧ y = 1) ∨ (x = 0 ∧ y = 2) ∨ (x = 0 ∧ y = 3) ∨ (x = 1 ∧ y = 2) ∨ (x = 1 ∧ y = 3) ∨ (x = 2 ∧ y = 3) := by omega
  have b0 : bq false = 0 := rfl
  have b1 : bq true = 1 := rfl
  rcases hc with ⟨rfl, rfl⟩ | ⟨rfl, rfl⟩ | ⟨rfl, rfl⟩ | ⟨rfl, rfl⟩ | ⟨rfl, rfl⟩ | ⟨rfl, rfl⟩ <;> simp [c0, c1, c2, c3, c01, c02, c03, b0, b1] <;> grind
end K48

namespace K48
open PySem PySem.Spec PyProof.Rows L2
/-! ### shortest paths -/
def nw (d : Nat → Nat → Int) (k a b : Nat) : Int := if d a k + d k b < d a b then d a k + d k b else d a b
section
variable {n k : Nat} {d : Nat → Nat → Int}
theorem fwX_eq (hk : k < n) (h0 : d k k = 0) (hn : ∀ a b, a < n → b < n → 0 ≤ d a b) : ∀ a b, a < n → b < n → fwX n k d a b = nw d k a b := by
  have hnk : ∀ a, a < n → nw d k a k = d a k := fun a ha => by unfold nw; rw [h0]; split <;> omega
  have hkn : ∀ b, b < n → nw d k k b = d k b := fun b hb => by unfold nw; rw [h0]; split <;> omega
  have key := lp_inv (f := fun x e => fwY n k x e) (a := d) (n := n) (fun x (e : Nat → Nat → Int) => ∀ a b, a < n → b < n → e a b = if a < x then nw d k a b else d a b) (fun a b _ _ => (if_neg (Nat.not_lt_zero _)).symm) fun x e hx ih => by
    have key2 := lp_inv (f := fun y e => fwS e k x y) (a := e) (n := n) (fun y (e2 : Nat → Nat → Int) => ∀ a b, a < n → b < n → e2 a b = if a < x ∨ (a = x ∧ b < y) then nw d k a b else d a b) (fun a b ha hb => by
      rw [ih a b ha hb]
      by_cases h : a < x
      · rw [if_pos h, if_pos (Or.inl h)]
      · rw [if_neg h, if_neg (by omega)]) fun y e2 hy ih2 a b ha hb => by
      show (if a = x ∧ b = y then (if e2 x k + e2 k y < e2 x y then e2 x k + e2 k y else e2 x y) else e2 a b) = _
      by_cases h : a = x ∧ b = y
      · obtain ⟨rfl, rfl⟩ := h
        rw [if_pos ⟨rfl, rfl⟩, if_pos (Or.inr ⟨rfl, by omega⟩)]
        have e1 : e2 a k = d a k := by
          rw [ih2 a k ha hk]
          split
          · exact hnk a ha
          · rfl
        have e3 : e2 k b = d k b := by
          rw [ih2 k b hk hb]
          split
          · exact hkn b hb
          · rfl
        have e4 : e2 a b = d a b := by
          rw [ih2 a b ha hb, if_neg (by omega)]
        rw [e1, e3, e4]; rfl
      · rw [if_neg h, ih2 a b ha hb]
        by_cases h2 : a < x ∨ (a = x ∧ b < y)
        · rw [if_pos h2, if_pos (by omega)]
        · rw [if_neg h2, if_neg (by omega)]
    intro a b ha hb
    have := key2 a b ha hb
    show fwY n k x e a b = _
    unfold fwY
    rw [this]
    by_cases h : a < x + 1
    · rw [if_pos h, if_pos (by omega)]
    · rw [if_neg h, if_neg (by omega)]
  intro a b ha hb
  have := key a b ha hb
  unfold fwX
  rw [this, if_pos ha]
/-- what the rows are to begin with, and after k rounds -/
structure FwI (n k : Nat) (d : Nat → Nat → Int) : Prop where
  z : ∀ x, x < n → d x x = 0
  s : ∀ x y, x < n → y < n → d x y = d y x
  p : ∀ x y, x < n → y < n → x ≠ y → 0 < d x y
  b : ∀ x y, x < n → y < n → d x y ≤ 10000
  t : ∀ j, j < k → ∀ x y, x < n → y < n → d x y ≤ d x j + d j y
theorem FwI.nn (h : FwI n k d) {x y : Nat} (hx : x < n) (hy : y < n) : 0 ≤ d x y := by
  by_cases e : x = y
  · subst e; rw [h.z x hx]; exact Int.le_refl _
  · have := h.p x y hx hy e; omega
theorem FwI.step (h : FwI n k d) (hk : k < n) : FwI n (k + 1) (fwX n k d) := by
  have e := fwX_eq hk (h.z k hk) (fun a b ha hb => h.nn ha hb)
  have hz := h.z k hk
  refine ⟨fun x hx => ?_, fun x y hx hy => ?_, fun x y hx hy hne => ?_, fun x y hx hy => ?_, fun j hj x y hx hy => ?_⟩
  · rw [e x x hx hx]
    unfold nw
    have h1 := h.z x hx
    have h2 := h.nn hx hk
    have h3 := h.nn hk hx
    split <;> omega
  · rw [e x y hx hy, e y x hy hx]
    unfold nw
    rw [h.s x y hx hy, h.s x k hx hk, h.s k y hk hy]
    split <;> split <;> omega
  · rw [e x y hx hy]
    unfold nw
    have h1 := h.p x y hx hy hne
    have h2 := h.nn hx hk
    have h3 := h.nn hk hy
    split
    · by_cases h4 : x = k
      · subst h4; omega
      · have := h.p x k hx hk h4; omega
    · omega
  · rw [e x y hx hy]
    unfold nw
    have := h.b x y hx hy
    split <;> omega
  · have hjn : j < n := by omega
    rw [e x y hx hy, e x j hx hjn, e j y hjn hy]
    unfold nw
    have n1 := h.nn hx hk
    have n2 := h.nn hk hy
    have n3 := h.nn hk hjn
    have n4 := h.nn hjn hk
    by_cases h1 : j = k
    · subst h1
      rw [hz]
      split <;> split <;> split <;> omega
    · have a1 := h.t j (by omega) x y hx hy
      have a2 := h.t j (by omega) x k hx hk
      have a3 := h.t j (by omega) k y hk hy
      split <;> split <;> split <;> omega
theorem FwI.all (h : FwI n 0 d) : FwI n n (fwK n d) := by
  unfold fwK
  exact lp_inv (fun k e => FwI n k e) h fun k e hk ih => ih.step hk
theorem fw_met (h : FwI n 0 d) : MetI n (fwK n d) := by
  have h1 := h.all
  exact ⟨h1.z, h1.s, fun x y z hx hy hz => h1.t y hy x z hx hz, h1.p, h1.b⟩
theorem fw_le : ∀ a b, fwK n d a b ≤ d a b := by
  unfold fwK
  refine lp_inv (fun k (e : Nat → Nat → Int) => ∀ a b, e a b ≤ d a b) (fun a b => Int.le_refl _) fun k e _ ih => ?_
  show ∀ a b, fwX n k e a b ≤ d a b
  unfold fwX
  refine lp_inv (fun x (e : Nat → Nat → Int) => ∀ a b, e a b ≤ d a b) ih fun x e _ ih => ?_
  show ∀ a b, fwY n k x e a b ≤ d a b
  unfold fwY
  refine lp_inv (fun x (e : Nat → Nat → Int) => ∀ a b, e a b ≤ d a b) ih fun y e _ ih a b => ?_
  show (if a = x ∧ b = y then (if e x k + e k y < e x y then e x k + e k y else e x y) else e a b) ≤ d a b
  split
  · rename_i h
    obtain ⟨rfl, rfl⟩ := h
    have := ih a b
    split <;> omega
  · exact ih a b
theorem fw_ge {t : Nat → Nat → Int} (ht : ∀ a b c, a < n → b < n → c < n → t a c ≤ t a b + t b c) (h0 : ∀ a b, a < n → b < n → t a b ≤ d a b) : ∀ a b, a < n → b < n → t a b ≤ fwK n d a b := by
  unfold fwK
  refine lp_inv (fun k (e : Nat → Nat → Int) => ∀ a b, a < n → b < n → t a b ≤ e a b) h0 fun k e hk ih => ?_
  show ∀ a b, a < n → b < n → t a b ≤ fwX n k e a b
  unfold fwX
  refine lp_inv (fun x (e : Nat → Nat → Int) => ∀ a b, a < n → b < n → t a b ≤ e a b) ih fun x e hx ih => ?_
  show ∀ a b, a < n → b < n → t a b ≤ fwY n k x e a b
  unfold fwY
  refine lp_inv (fun x (e : Nat → Nat → Int) => ∀ a b, a < n → b < n → t a b ≤ e a b) ih fun y e hy ih a b ha hb => ?_
  show t a b ≤ (if a = x ∧ b = y then (if e x k + e k y < e x y then e x k + e k y else e x y) else e a b)
  split
  · rename_i h
    obtain ⟨rfl, rfl⟩ := h
    have h1 := ht a k b ha hk hb
    have h2 := ih a k ha hk
    have h3 := ih k b hk hb
    have h4 := ih a b ha hb
    split <;> omega
  · exact ih a b ha hb
end
/-! ### rows before the paths -/
structure IniW (d : Nat → Nat → Int) : Prop where
  z : ∀ x, d x x = 0
  s : ∀ x y, d x y = d y x
  p : ∀ x y, x ≠ y → 0 < d x y
  b : ∀ x y, d x y ≤ 10000
theorem IniW.fw {d : Nat → Nat → Int} (h : IniW d) (n : Nat) : FwI n 0 d := ⟨fun x _ => h.z x, fun x y _ _ => h.s x y, fun x y _ _ e => h.p x y e, fun x y _ _ => h.b x y, fun j hj => absurd hj (Nat.not_lt_zero _)⟩
theorem far_ini : IniW far := by
  refine ⟨fun x => if_pos rfl, fun x y => ?_, fun x y e => ?_, fun x y => ?_⟩
  · unfold far
    by_cases e : x = y
    · rw [if_pos e, if_pos e.symm]
    · rw [if_neg e, if_neg (Ne.symm e)]
  · unfold far; rw [if_neg e]; decide
  · unfold far; split <;> decide
theorem sy2_ini {d : Nat → Nat → Int} (h : IniW d) {x z : Nat} {v : Int} (hne : x ≠ z) (hv : 0 < v ∧ v ≤ 10000) : IniW (sy2 d x z v) := by
  unfold sy2
  refine ⟨fun a => ?_, fun a c => ?_, fun a c e => ?_, fun a c => ?_⟩
  · show (if a = z ∧ a = x then v else if a = x ∧ a = z then v else d a a) = 0
    rw [if_neg (by omega), if_neg (by omega)]; exact h.z a
  · show (if a = z ∧ c = x then v else if a = x ∧ c = z then v else d a c) = (if c = z ∧ a = x then v else if c = x ∧ a = z then v else d c a)
    rw [h.s a c]
    split <;> split <;> first | rfl | (split <;> first | rfl | omega) | omega
  · show 0 < (if a = z ∧ c = x then v else if a = x ∧ c = z then v else d a c)
    have := h.p a c e
    split
    · omega
    · split <;> omega
  · show (if a = z ∧ c = x then v else if a = x ∧ c = z then v else d a c) ≤ 10000
    have := h.b a c
    split
    · omega
    · split <;> omega
theorem len_ok (s : Int × Int) : (0 : Int) < 1 + (tkV s 4 : Nat) ∧ (1 : Int) + (tkV s 4 : Nat) ≤ 4 := by
  have := tkV_lt (s := s) (m := 4) (by omega)
  omega
theorem web_ini (n thick : Nat) (s : Int × Int) : IniW (webR n thick s).2 := by
  unfold webR
  refine lp_inv (fun _ (a : (Int × Int) × (Nat → Nat → Int)) => IniW a.2) far_ini fun x a _ ih => ?_
  show IniW (webX thick x a).2
  unfold webX
  refine lp_inv (fun _ (a : (Int × Int) × (Nat → Nat → Int)) => IniW a.2) ih fun y a hy ih => ?_
  show IniW (webS thick x y a).2
  unfold webS
  split
  · have := tkV_lt (s := a.1) (m := x) (by omega)
    have h4 := len_ok (tkS a.1 x)
    exact sy2_ini ih (by omega) (by omega)
  · split
    · have h4 := len_ok (tkS a.1 thick)
      exact sy2_ini ih (by omega) (by omega)
    · exact ih
theorem tre_ini (m : Nat) (s : Int × Int) : IniW (treR m s).2 := by
  unfold treR
  refine lp_inv (fun _ (a : (Int × Int) × (Nat → Nat → Int)) => IniW a.2) far_ini fun i a _ ih => ?_
  have := tkV_lt (s := a.1) (m := 1 + i) (by omega)
  have h4 := len_ok (tkS a.1 (1 + i))
  exact sy2_ini ih (by omega) (by omega)
/-! ### metrics by names -/
theorem MetI.pull {m n : Nat} {D : Nat → Nat → Int} (h : MetI m D) {f : Nat → Nat} (hf : ∀ x, x < n → f x < m) (hi : ∀ x y, x < n → y < n → f x = f y → x = y) : MetI n fun x y => D (f x) (f y) :=
  ⟨fun x hx => h.z _ (hf x hx), fun x y hx hy => h.s _ _ (hf x hx) (hf y hy), fun x y z hx hy hz => h.t _ _ _ (hf x hx) (hf y hy) (hf z hz), fun x y hx hy e => h.p _ _ (hf x hx) (hf y hy) fun z => e (hi x y hx hy z), fun x y hx hy => h.b _ _ (hf x hx) (hf y hy)⟩
theorem nd_inj {l : List Nat} (h : l.Nodup) {x y : Nat} (hx : x < l.length) (hy : y < l.length) (e : l.getD x 0 = l.getD y 0) : x = y := by
  rw [List.getD_eq_getElem?_getD, List.getD_eq_getElem?_getD, List.getElem?_eq_getElem hx, List.getElem?_eq_getElem hy] at e
  exact (List.getElem_inj h).mp e
theorem l1_met : MetI 16 l1 := by
  refine ⟨fun x _ => ?_, fun x y _ _ => ?_, fun x y z _ _ _ => ?_, fun x y _ _ e => ?_, fun x y _ _ => ?_⟩
  · unfold l1 iab; split <;> split <;> omega
  · unfold l1 iab; split <;> split <;> split <;> split <;> omega
  · unfold l1 iab; split <;> split <;> split <;> split <;> split <;> split <;> omega
  · unfold l1 iab; split <;> split <;> omega
  · unfold l1 iab; split <;> split <;> omega
theorem grd_met {n : Nat} (hn : n ≤ 16) (S : Int × Int) : MetI n (grdD n S) := by
  have h : (grdL n S).2.1.length + n = 16 ∧ (grdL n S).2.2.length = n ∧ (∀ v ∈ (grdL n S).2.2, v < 16) ∧ (grdL n S).2.2.Nodup := pick_ok hn S
  obtain ⟨_, h1, h2, h3⟩ := h
  exact l1_met.pull (f := fun x => (grdL n S).2.2.getD x 0) (fun x hx => h2 _ (getD_mem (by omega))) fun x y hx hy e => nd_inj h3 (by omega) (by omega) e
theorem tre_met {n : Nat} (S : Int × Int) : MetI n (treD n S) := by
  have h := ord_ok (mT n S) (treR (mT n S) (tkS S 3)).1
  have hl : (treO n S).length = n := by
    unfold treO
    rw [List.length_take, h.len]
    unfold mT; omega
  have hlt : ∀ v ∈ treO n S, v < mT n S := fun v hv => h.lt v (List.mem_of_mem_take hv)
  have hnd : (treO n S).Nodup := h.nd.sublist (List.take_sublist _ _)
  exact (fw_met ((tre_ini (mT n S) (tkS S 3)).fw (mT n S))).pull (f := fun x => (treO n S).getD x 0) (fun x hx => hlt _ (getD_mem (by omega))) fun x y hx hy e => nd_inj hnd (by omega) (by omega) e
/-- near equal distances -/
theorem bnd_met (n : Nat) (S : Int × Int) : MetI n (bndR n S).2 := by
  have hlw : 1 ≤ lowB S ∧ lowB S ≤ 3 := by
    have := tkV_lt (s := S) (m := 3) (by omega)
    unfold lowB; omega
  have key : (∀ x, (bndR n S).2 x x = 0) ∧ (∀ x y, (bndR n S).2 x y = (bndR n S).2 y x) ∧ ∀ x y, x < n → y < x → ((lowB S : Nat) : Int) ≤ (bndR n S).2 x y ∧ (bndR n S).2 x y ≤ 2 * ((lowB S : Nat) : Int) := by
    unfold bndR
    generalize lowB S = lw at *
    refine lp_inv (fun i (a : (Int × Int) × (Nat → Nat → Int)) => (∀ x, a.2 x x = 0) ∧ (∀ x y, a.2 x y = a.2 y x) ∧ ∀ x y, x < i → y < x → ((lw : Nat) : Int) ≤ a.2 x y ∧ a.2 x y ≤ 2 * ((lw : Nat) : Int)) ⟨fun _ => rfl, fun _ _ => rfl, fun x y hx => absurd hx (Nat.not_lt_zero _)⟩ fun i a _ ih => ?_
    show (∀ x, (bndX lw i a).2 x x = 0) ∧ (∀ x y, (bndX lw i a).2 x y = (bndX lw i a).2 y x) ∧ ∀ x y, x < i + 1 → y < x → ((lw : Nat) : Int) ≤ (bndX lw i a).2 x y ∧ (bndX lw i a).2 x y ≤ 2 * ((lw : Nat) : Int)
    have k2 : (∀ x, (bndX lw i a).2 x x = 0) ∧ (∀ x y, (bndX lw i a).2 x y = (bndX lw i a).2 y x) ∧ ∀ x y, x < i ∨ (x = i ∧ y < i) → y < x → ((lw : Nat) : Int) ≤ (bndX lw i a).2 x y ∧ (bndX lw i a).2 x y ≤ 2 * ((lw : Nat) : Int) := by
      unfold bndX
      refine lp_inv (fun j (b : (Int × Int) × (Nat → Nat → Int)) => (∀ x, b.2 x x = 0) ∧ (∀ x y, b.2 x y = b.2 y x) ∧ ∀ x y, x < i ∨ (x = i ∧ y < j) → y < x → ((lw : Nat) : Int) ≤ b.2 x y ∧ b.2 x y ≤ 2 * ((lw : Nat) : Int)) ⟨ih.1, ih.2.1, fun x y h hyx => ih.2.2 x y (by omega) hyx⟩ fun j b hj ih2 => ?_
      obtain ⟨i1, i2, i3⟩ := ih2
      have hv := tkV_lt (s := b.1) (m := lw + 1) (by omega)
      show (∀ x, sy2 b.2 i j _ x x = 0) ∧ (∀ x y, sy2 b.2 i j _ x y = sy2 b.2 i j _ y x) ∧ ∀ x y, x < i ∨ (x = i ∧ y < j + 1) → y < x → ((lw : Nat) : Int) ≤ sy2 b.2 i j ((lw + tkV b.1 (lw + 1) : Nat) : Int) x y ∧ sy2 b.2 i j ((lw + tkV b.1 (lw + 1) : Nat) : Int) x y ≤ 2 * ((lw : Nat) : Int)
      generalize tkV b.1 (lw + 1) = v at *
      unfold sy2
      refine ⟨fun x => ?_, fun x y => ?_, fun x y h hyx => ?_⟩
      · rw [if_neg (by omega), if_neg (by omega)]; exact i1 x
      · rw [i2 x y]
        split <;> split <;> first | rfl | (split <;> first | rfl | omega) | omega
      · by_cases h1 : x = i ∧ y = j
        · rw [if_neg (by omega), if_pos h1]; omega
        · rw [if_neg (by omega), if_neg h1]
          exact i3 x y (by omega) hyx
    exact ⟨k2.1, k2.2.1, fun x y hx hyx => k2.2.2 x y (by omega) hyx⟩
  generalize (bndR n S).2 = d at *
  obtain ⟨k1, k2, k3⟩ := key
  have k4 : ∀ x y, x < n → y < n → x ≠ y → ((lowB S : Nat) : Int) ≤ d x y ∧ d x y ≤ 2 * ((lowB S : Nat) : Int) := fun x y hx hy e => by
    by_cases h : y < x
    · exact k3 x y hx h
    · rw [k2 x y]; exact k3 y x hy (by omega)
  have k5 : ∀ x y, x < n → y < n → 0 ≤ d x y ∧ d x y ≤ 2 * ((lowB S : Nat) : Int) := fun x y hx hy => by
    by_cases e : x = y
    · subst e; rw [k1]; omega
    · have := k4 x y hx hy e; omega
  refine ⟨fun x _ => k1 x, fun x y _ _ => k2 x y, fun x y z hx hy hz => ?_, fun x y hx hy e => by have := k4 x y hx hy e; omega, fun x y hx hy => by have := k5 x y hx hy; omega⟩
  have h1 := k5 x z hx hz
  by_cases e : x = y
  · subst e; rw [k1]; omega
  · by_cases e2 : y = z
    · subst e2; rw [k1]; omega
    · have := k4 x y hx hy e
      have := k4 y z hy hz e2
      omega
/-- levels -/
theorem lev_met {h : Nat → Int} {w : Nat → Nat → Int} (h0 : 1 ≤ h 0) (h1 : h 0 ≤ h 1) (h2 : h 1 ≤ h 2) (h3 : h 2 ≤ 10000) (hw : ∀ x, w x 2 = (x : Int)) (n : Nat) : MetI n (lev h w) := by
  refine ⟨fun x _ => ?_, fun x y _ _ => ?_, fun x y z _ _ _ => ?_, fun x y _ _ e => ?_, fun x y _ _ => ?_⟩
  · unfold lev; simp
  · unfold lev
    have e : ∀ k, (w x k ≠ w y k) = (w y k ≠ w x k) := fun k => propext ⟨Ne.symm, Ne.symm⟩
    simp only [e]
  · unfold lev
    split <;> split <;> split <;> first | omega | (split <;> first | omega | (split <;> first | omega | (split <;> first | omega | (split <;> first | omega | (split <;> omega)))))
  · unfold lev
    rw [hw, hw]
    split
    · omega
    · split
      · omega
      · split <;> omega
  · unfold lev
    split
    · omega
    · split
      · omega
      · split <;> omega
theorem hgt_ok (S : Int × Int) : 1 ≤ (hgtR S).2.2 0 ∧ (hgtR S).2.2 0 ≤ (hgtR S).2.2 1 ∧ (hgtR S).2.2 1 ≤ (hgtR S).2.2 2 ∧ (hgtR S).2.2 2 ≤ 10000 := by
  have a0 := tkV_lt (s := S) (m := 2) (by omega)
  have a1 := tkV_lt (s := tkS S 2) (m := 3) (by omega)
  have a2 := tkV_lt (s := tkS (tkS S 2) 3) (m := 3) (by omega)
  have e0 : (hgtR S).2.2 0 = 1 + (tkV S 2 : Nat) := rfl
  have e1 : (hgtR S).2.2 1 = 1 + (tkV S 2 : Nat) + 1 + (tkV (tkS S 2) 3 : Nat) := rfl
  have e2 : (hgtR S).2.2 2 = 1 + (tkV S 2 : Nat) + 1 + (tkV (tkS S 2) 3 : Nat) + 1 + (tkV (tkS (tkS S 2) 3) 3 : Nat) := rfl
  rw [e0, e1, e2]
  omega
/-- all families -/
theorem fam_met (pick n : Nat) (hn : n ≤ 8) (s : Int × Int) : MetI n (famR pick n s).2 := by
  unfold famR
  split
  · exact fw_met ((web_ini n 2 s).fw n)
  split
  · exact fw_met ((web_ini n 5 s).fw n)
  split
  · exact tre_met s
  split
  · exact grd_met (by omega) s
  split
  · exact bnd_met n s
  · obtain ⟨a, b, c, d⟩ := hgt_ok s
    exact lev_met a b c d (fun x => rfl) n
end K48

namespace K48
open PySem PySem.Spec PyProof.Rows L2
/-! ### the told metric -/
theorem tol_met : MetI 5 tolD := by
  have h1 : ∀ x, x < 5 → tolD x x = 0 := by decide +kernel
  have h2 : ∀ x, x < 5 → ∀ y, y < 5 → tolD x y = tolD y x := by decide +kernel
  have h3 : ∀ x, x < 5 → ∀ y, y < 5 → ∀ z, z < 5 → tolD x z ≤ tolD x y + tolD y z := by decide +kernel
  have h4 : ∀ x, x < 5 → ∀ y, y < 5 → x ≠ y → 0 < tolD x y := by decide +kernel
  have h5 : ∀ x, x < 5 → ∀ y, y < 5 → tolD x y ≤ 10000 := by decide +kernel
  exact ⟨h1, fun x y hx hy => h2 x hx y hy, fun x y z hx hy hz => h3 x hx y hy z hz, fun x y hx hy e => h4 x hx y hy e, fun x y hx hy => h5 x hx y hy⟩
theorem tel_met (S : Int × Int) : MetI 5 (telD S) := by
  have h := ord_ok 5 S
  have hl : (telO S).length = 5 := h.len
  exact tol_met.pull (f := fun x => (telO S).getD x 0) (fun x hx => h.lt _ (getD_mem (by rw [h.len]; exact hx))) fun x y hx hy e => nd_inj h.nd (by rw [h.len]; exact hx) (by rw [h.len]; exact hy) e
/-- the functional against it: three points against two -/
def sgT (x : Nat) : Int := if x < 3 then 1 else -1
def vT (o : List Nat) (k : Nat) : Int := sgT (o.getD (pr 5 k).1 0) * sgT (o.getD (pr 5 k).2 0)
def chkT (o : List Nat) : Bool := ((splS 5).all fun s => decide (sg (npr 5) (fun k => if part s (pr 5 k).1 (pr 5 k).2 = true then vT o k else 0) ≤ 0)) && decide (0 < sg (npr 5) fun k => vT o k * tolD (o.getD (pr 5 k).1 0) (o.getD (pr 5 k).2 0))
def allT : Bool := (List.range 5).all fun a => (List.range 5).all fun b => (List.range 5).all fun c => (List.range 5).all fun d => (List.range 5).all fun e => !decide ([a, b, c, d, e].Nodup) || chkT [a, b, c, d, e]
theorem allT_ok : allT = true := by decide +kernel
theorem chk_ord {o : List Nat} (h : OrdOK 5 o) : chkT o = true := by
  obtain ⟨hl, hlt, hnd⟩ := h
  match o, hl with
  | [a, b, c, d, e], _ =>
    have r : ∀ v, v ∈ [a, b, c, d, e] → v ∈ List.range 5 := fun v hv => List.mem_range.mpr (hlt v hv)
    have h1 := List.all_eq_true.mp (List.all_eq_true.mp (List.all_eq_true.mp (List.all_eq_true.mp (List.all_eq_true.mp allT_ok a (r a (by simp))) b (r b (by simp))) c (r c (by simp))) d (r d (by simp))) e (r e (by simp))
    rw [decide_eq_true hnd] at h1
    exact h1
theorem tel_no (S : Int × Int) : ¬ Cone 5 (cI (telD S)) := by
  have h := chk_ord (ord_ok 5 S)
  unfold chkT at h
  rw [Bool.and_eq_true] at h
  intro hc
  have h1 := hc (fun k => ((vT (telO S) k : Int) : Rat)) fun s hs => by
    have h2 := of_decide_eq_true (List.all_eq_true.mp h.1 s ((mem_splS (by decide) s).mpr hs))
    have e : FV 5 (fun k => ((vT (telO S) k : Int) : Rat)) s = ((sg (npr 5) (fun k => if part s (pr 5 k).1 (pr 5 k).2 = true then vT (telO S) k else 0) : Int) : Rat) := by
      rw [rs_cast]
      exact rs_congr fun k _ => by split <;> rfl
    rw [e]
    exact Rat.intCast_nonpos.mpr h2
  have h2 := of_decide_eq_true h.2
  have e : GV 5 (fun k => ((vT (telO S) k : Int) : Rat)) (cI (telD S)) = ((sg (npr 5) (fun k => vT (telO S) k * tolD ((telO S).getD (pr 5 k).1 0) ((telO S).getD (pr 5 k).2 0)) : Int) : Rat) := by
    rw [rs_cast]
    exact rs_congr fun k _ => by rw [Rat.intCast_mul]; rfl
  rw [e] at h1
  have := Rat.intCast_nonpos.mp h1
  have h2' : 0 < sg (npr 5) fun k => vT (telO S) k * tolD ((telO S).getD (pr 5 k).1 0) ((telO S).getD (pr 5 k).2 0) := h2
  omega
/-! ### sums of drawn cuts -/
theorem sum_map_filter {t : Nat → Bool} {f : Nat → Int} : ∀ N, (((List.range N).filter t).map f).sum = sg N fun i => if t i = true then f i else 0
  | 0 => rfl
  | N + 1 => by
    rw [List.range_succ, List.filter_append, List.map_append, List.sum_append, sum_map_filter N]
    show _ = sg N _ + (if t N = true then f N else 0)
    congr 1
    cases h : t N with
    | true => rw [List.filter_cons, if_pos h, if_pos rfl]; simp
    | false => rw [List.filter_cons, if_neg (by rw [h]; decide), if_neg (by decide)]; rfl
theorem csW_sg (n : Nat) (S : Int × Int) (x y : Nat) : csW n S x y = sg (LN n) fun i => if part (lawX n i) x y = true then csC S i else 0 := sum_map_filter _
theorem csC_ok (S : Int × Int) (i : Nat) : 0 ≤ csC S i ∧ csC S i ≤ 2 := by
  have := tkV_lt (s := csS S i) (m := 3) (by omega)
  unfold csC; omega
theorem part_self (s : List Int) (x : Int) : part s x x = false := by unfold part; simp
theorem part_comm (s : List Int) (x y : Int) : part s x y = part s y x := by
  unfold part
  cases decide (x ∈ s) <;> cases decide (y ∈ s) <;> rfl
theorem part_tri (s : List Int) (x y z : Int) : part s x z = true → part s x y = true ∨ part s y z = true := by
  unfold part
  cases decide (x ∈ s) <;> cases decide (y ∈ s) <;> cases decide (z ∈ s) <;> decide
theorem ne2 (x y : Nat) : (if (!decide ((x : Int) = (y : Int))) = true then (1 : Int) else 0) = if x = y then 0 else 1 := by
  by_cases e : x = y
  · subst e; simp
  · rw [if_neg e, if_pos]
    simp only [Bool.not_eq_true', decide_eq_false_iff_not]
    omega
theorem cs_met {n : Nat} (hn : n ≤ 6) (S : Int × Int) : MetI n (csD n S) := by
  have hL : LN n ≤ 32 := lawS_len hn
  have hz : ∀ x, csW n S x x = 0 := fun x => by
    rw [csW_sg]; exact sg_zero fun i _ => by rw [part_self]; rfl
  have hs : ∀ x y, csW n S x y = csW n S y x := fun x y => by
    rw [csW_sg, csW_sg]; exact sg_congr fun i _ => by rw [part_comm]
  have hnn : ∀ x y, 0 ≤ csW n S x y := fun x y => by
    rw [csW_sg]
    refine sg_nn fun i _ => ?_
    have := csC_ok S i
    split <;> omega
  have ht : ∀ x y z, csW n S x z ≤ csW n S x y + csW n S y z := fun x y z => by
    rw [csW_sg, csW_sg, csW_sg, ← sg_add]
    refine sg_le fun i _ => ?_
    have := csC_ok S i
    have h3 := part_tri (lawX n i) x y z
    by_cases h : part (lawX n i) x z = true
    · rw [if_pos h]
      rcases h3 h with h4 | h4
      · rw [if_pos h4]; split <;> omega
      · rw [if_pos h4]; split <;> omega
    · rw [if_neg h]; split <;> split <;> omega
  have hb : ∀ x y, csW n S x y ≤ 1000 := fun x y => by
    have h1 := sg_abs (n := LN n) (f := fun i => if part (lawX n i) x y = true then csC S i else 0) (B := 2) fun i _ => by
      have := csC_ok S i
      show (if part (lawX n i) x y = true then csC S i else 0).natAbs ≤ 2
      split <;> omega
    rw [← csW_sg] at h1
    have := hnn x y
    omega
  unfold csD
  refine ⟨fun x _ => ?_, fun x y _ _ => ?_, fun x y z _ _ _ => ?_, fun x y _ _ e => ?_, fun x y _ _ => ?_⟩
  · rw [ne2, hz, if_pos rfl]; rfl
  · rw [ne2, ne2, hs x y]
    by_cases e : x = y
    · rw [if_pos e, if_pos e.symm]
    · rw [if_neg e, if_neg (Ne.symm e)]
  · rw [ne2, ne2, ne2]
    have := ht x y z
    split <;> split <;> split <;> omega
  · rw [ne2, if_neg e]
    have := hnn x y
    omega
  · rw [ne2]
    have := hb x y
    split <;> omega
theorem cone_rs {n N : Nat} {f : Nat → Nat → Nat → Rat} (h : ∀ i, i < N → Cone n (f i)) : Cone n fun x y => rs N fun i => f i x y := by
  induction N with
  | zero => exact Cone.zero
  | succ N ih => exact (ih fun i hi => h i (by omega)).add (h N (by omega))
theorem cs_cone {n : Nat} (hn : 1 ≤ n) (S : Int × Int) : Cone n (cI (csD n S)) := by
  have h1 : Cone n fun x y => rs (LN n) fun i => ((csC S i : Int) : Rat) * bq (part (lawX n i) x y) := cone_rs (f := fun i x y => ((csC S i : Int) : Rat) * bq (part (lawX n i) x y)) fun i hi => (Cone.spl ((mem_lawS hn _).mp (getD_mem hi))).smul (Rat.intCast_nonneg.mpr (csC_ok S i).1)
  have h2 : Cone n fun x y => rs n fun z => bq ((x == z) != (y == z)) := cone_rs (f := fun z x y => bq ((x == z) != (y == z))) fun z _ => Cone.cut fun x => x == z
  refine (h1.add h2).congr fun x y hxy hy => ?_
  have e1 : ((csW n S x y : Int) : Rat) = rs (LN n) fun i => ((csC S i : Int) : Rat) * bq (part (lawX n i) x y) := by
    rw [csW_sg, rs_cast]
    refine rs_congr fun i _ => ?_
    unfold bq
    split <;> grind
  have e2 : (rs n fun z => bq ((x == z) != (y == z))) = 2 := by
    have e : (rs n fun z => bq ((x == z) != (y == z))) = rs n fun z => (if z = x then 1 else 0) + (if z = y then 1 else 0) := by
      refine rs_congr fun z _ => ?_
      unfold bq
      by_cases h1 : z = x
      · have h2 : ¬ z = y := by omega
        rw [if_pos (show ((x == z) != (y == z)) = true by simp [h1]; omega), if_pos h1, if_neg h2]
        exact (Rat.add_zero 1).symm
      · by_cases h2 : z = y
        · rw [if_pos (show ((x == z) != (y == z)) = true by simp [h2]; omega), if_neg h1, if_pos h2]
          exact (Rat.zero_add 1).symm
        · have a1 : (x == z) = false := by simp; omega
          have a2 : (y == z) = false := by simp; omega
          rw [if_neg h1, if_neg h2, if_neg (by rw [a1, a2]; decide)]
          exact (Rat.add_zero 0).symm
    rw [e, rs_add, rs_one (c := x) (by omega) fun i _ h => if_neg h, rs_one (c := y) hy fun i _ h => if_neg h, if_pos rfl, if_pos rfl]
    grind
  rw [e2, ← e1]
  show _ = ((csW n S x y + 2 * (if (!decide ((x : Int) = (y : Int))) = true then 1 else 0) : Int) : Rat)
  rw [ne2, if_neg (by omega), Rat.intCast_add]
  rfl
/-! ### trees -/
structure TreI (i : Nat) (w : Nat → Nat → Int) (D : Nat → Nat → Int) : Prop where
  z : ∀ a, a ≤ i → D a a = 0
  t : ∀ a b c, a ≤ i → b ≤ i → c ≤ i → D a c ≤ D a b + D b c
  le : ∀ a b, a ≤ i → b ≤ i → D a b ≤ w a b
  b : ∀ a b, a ≤ i → b ≤ i → D a b ≤ 4 * (i : Int)
  cs : CS (cI D)
  up : ∀ m, i < m → ∀ f : Nat → Nat → Int, (∀ a b c, a < m → b < m → c < m → f a c ≤ f a b + f b c) → (∀ a b, a < m → b < m → f a b ≤ w a b) → ∀ a b, a ≤ i → b ≤ i → f a b ≤ D a b
  far : ∀ a b, i < a ∨ i < b → w a b = far a b
theorem TreI.step {i : Nat} {w D : Nat → Nat → Int} (h : TreI i w D) {z : Nat} {l : Int} (hz : z ≤ i) (hl : 0 < l ∧ l ≤ 4) (hi : i ≤ 100) : ∃ D', TreI (i + 1) (sy2 w (i + 1) z l) D' := by
  have hw : ∀ a b, sy2 w (i + 1) z l a b = if a = z ∧ b = i + 1 then l else if a = i + 1 ∧ b = z then l else w a b := fun _ _ => rfl
  refine ⟨fun a b => D (if a = i + 1 then z else a) (if b = i + 1 then z else b) + (if ((a == i + 1) != (b == i + 1)) = true then l else 0), ?_⟩
  have hr : ∀ a, a ≤ i + 1 → (if a = i + 1 then z else a) ≤ i := fun a ha => by split <;> omega
  have hx : ∀ a b : Nat, (((a == i + 1) != (b == i + 1)) = true) ↔ ¬ (a = i + 1 ↔ b = i + 1) := fun a b => by
    show (decide (a = i + 1) != decide (b = i + 1)) = true ↔ _
    by_cases e1 : a = i + 1 <;> by_cases e2 : b = i + 1 <;> simp [e1, e2]
  have e0 : h.z z hz = h.z z hz := rfl
  have hzz := h.z z hz
  refine ⟨fun a ha => ?_, fun a b c ha hb hc => ?_, fun a b ha hb => ?_, fun a b ha hb => ?_, ?_, fun m hm f hf hfw a b ha hb => ?_, fun a b hab => ?_⟩
  · show D _ _ + (if ((a == i + 1) != (a == i + 1)) = true then l else 0) = 0
    rw [h.z _ (hr a ha), if_neg (by simp)]; rfl
  · have h1 := h.t _ _ _ (hr a ha) (hr b hb) (hr c hc)
    show D _ _ + (if ((a == i + 1) != (c == i + 1)) = true then l else 0) ≤ (D _ _ + (if ((a == i + 1) != (b == i + 1)) = true then l else 0)) + (D _ _ + (if ((b == i + 1) != (c == i + 1)) = true then l else 0))
    generalize D (if a = i + 1 then z else a) (if c = i + 1 then z else c) = u1 at *
    generalize D (if a = i + 1 then z else a) (if b = i + 1 then z else b) = u2 at *
    generalize D (if b = i + 1 then z else b) (if c = i + 1 then z else c) = u3 at *
    cases (a == i + 1) <;> cases (b == i + 1) <;> cases (c == i + 1) <;> simp <;> omega
  · rw [hw]
    show D _ _ + (if ((a == i + 1) != (b == i + 1)) = true then l else 0) ≤ _
    by_cases ea : a = i + 1
    · by_cases eb : b = i + 1
      · subst ea; subst eb
        rw [if_pos rfl, hzz, if_neg (by simp), if_neg (by omega), if_neg (by omega), h.far _ _ (Or.inl (by omega))]
        show _ ≤ K48.far (i + 1) (i + 1)
        unfold K48.far; rw [if_pos rfl]; decide
      · rw [if_pos ea, if_neg eb, if_pos ((hx a b).mpr (by omega)), if_neg (by omega)]
        by_cases e2 : b = z
        · subst e2; rw [hzz, if_pos ⟨ea, rfl⟩]; omega
        · rw [if_neg (by omega), h.far _ _ (Or.inl (by omega))]
          have := h.b z b hz (by omega)
          unfold K48.far; rw [if_neg (by omega)]; omega
    · by_cases eb : b = i + 1
      · rw [if_neg ea, if_pos eb, if_pos ((hx a b).mpr (by omega))]
        by_cases e2 : a = z
        · subst e2; rw [hzz, if_pos ⟨rfl, eb⟩]; omega
        · rw [if_neg (by omega), if_neg (by omega), h.far _ _ (Or.inr (by omega))]
          have := h.b a z (by omega) hz
          unfold K48.far; rw [if_neg (by omega)]; omega
      · rw [if_neg ea, if_neg eb, if_neg (fun z => (hx a b).mp z (by omega)), if_neg (by omega), if_neg (by omega)]
        have := h.le a b (by omega) (by omega)
        omega
  · have h1 := h.b _ _ (hr a ha) (hr b hb)
    show D _ _ + (if ((a == i + 1) != (b == i + 1)) = true then l else 0) ≤ _
    generalize D (if a = i + 1 then z else a) (if b = i + 1 then z else b) = u at *
    split <;> omega
  · have h1 : CS fun a b => cI D (if a = i + 1 then z else a) (if b = i + 1 then z else b) + (l : Rat) * bq ((a == i + 1) != (b == i + 1)) := CS.add (h.cs.pull fun a => if a = i + 1 then z else a) (Rat.intCast_nonneg.mpr (by omega)) fun a => a == i + 1
    have e : (cI fun a b => D (if a = i + 1 then z else a) (if b = i + 1 then z else b) + (if ((a == i + 1) != (b == i + 1)) = true then l else 0)) = fun a b => cI D (if a = i + 1 then z else a) (if b = i + 1 then z else b) + (l : Rat) * bq ((a == i + 1) != (b == i + 1)) := by
      funext a b
      show ((D _ _ + (if ((a == i + 1) != (b == i + 1)) = true then l else 0) : Int) : Rat) = _
      rw [Rat.intCast_add]
      unfold bq
      generalize ((a == i + 1) != (b == i + 1)) = t
      cases t
      · show _ + ((0 : Int) : Rat) = _ + (l : Rat) * 0
        rw [Rat.mul_zero]; rfl
      · show _ + (l : Rat) = _ + (l : Rat) * 1
        rw [Rat.mul_one]
    rw [e]; exact h1
  · have hlw : ∀ a b, sy2 w (i + 1) z l a b ≤ w a b := fun a b => by
      rw [hw]
      by_cases h1 : a = z ∧ b = i + 1
      · rw [if_pos h1, h.far _ _ (Or.inr (by omega))]; unfold K48.far; rw [if_neg (by omega)]; omega
      · rw [if_neg h1]
        by_cases h2 : a = i + 1 ∧ b = z
        · rw [if_pos h2, h.far _ _ (Or.inl (by omega))]; unfold K48.far; rw [if_neg (by omega)]; omega
        · rw [if_neg h2]; exact Int.le_refl _
    have ih := h.up m (by omega) f hf fun a b ha hb => Int.le_trans (hfw a b ha hb) (hlw a b)
    have f1 : f (i + 1) z ≤ l := by
      have := hfw (i + 1) z (by omega) (by omega)
      rw [hw, if_neg (by omega), if_pos ⟨rfl, rfl⟩] at this
      exact this
    have f2 : f z (i + 1) ≤ l := by
      have := hfw z (i + 1) (by omega) (by omega)
      rw [hw, if_pos ⟨rfl, rfl⟩] at this
      exact this
    have f3 : f (i + 1) (i + 1) ≤ 0 := by
      have := hfw (i + 1) (i + 1) (by omega) (by omega)
      rw [hw, if_neg (by omega), if_neg (by omega), h.far _ _ (Or.inl (by omega))] at this
      unfold K48.far at this
      rw [if_pos rfl] at this
      exact this
    show f a b ≤ D _ _ + (if ((a == i + 1) != (b == i + 1)) = true then l else 0)
    by_cases ea : a = i + 1
    · by_cases eb : b = i + 1
      · subst ea; subst eb
        rw [if_pos rfl, hzz, if_neg (by simp)]
        exact f3
      · rw [if_pos ea, if_neg eb, if_pos ((hx a b).mpr (by omega))]
        subst ea
        have := hf (i + 1) z b (by omega) (by omega) (by omega)
        have := ih z b hz (by omega)
        omega
    · by_cases eb : b = i + 1
      · rw [if_neg ea, if_pos eb, if_pos ((hx a b).mpr (by omega))]
        subst eb
        have := hf a z (i + 1) (by omega) (by omega) (by omega)
        have := ih a z (by omega) hz
        omega
      · rw [if_neg ea, if_neg eb, if_neg (fun z => (hx a b).mp z (by omega))]
        have := ih a b (by omega) (by omega)
        omega
  · rw [hw, if_neg (by omega), if_neg (by omega)]
    exact h.far a b (by omega)
theorem tre_inv (m : Nat) (s : Int × Int) (hm : m ≤ 100) : ∃ D, TreI (m - 1) (treR m s).2 D := by
  unfold treR
  refine lp_inv (fun i (a : (Int × Int) × (Nat → Nat → Int)) => i ≤ 100 → ∃ D, TreI i a.2 D) (fun _ => ⟨fun _ _ => 0, ?_⟩) (fun i a hi ih h => ?_) (by omega)
  · refine ⟨fun a _ => rfl, fun a b c _ _ _ => by decide, fun a b ha hb => ?_, fun a b _ _ => by show (0 : Int) ≤ _; omega, ?_, fun m hm f hf hfw a b ha hb => ?_, fun a b _ => rfl⟩
    · have : a = b := by omega
      subst this
      show 0 ≤ far a a
      unfold far; rw [if_pos rfl]; decide
    · exact CS.zero
    · have : a = 0 := by omega
      have : b = 0 := by omega
      subst a; subst b
      exact hfw 0 0 (by omega) (by omega)
  · obtain ⟨D, hD⟩ := ih (by omega)
    have hz := tkV_lt (s := a.1) (m := 1 + i) (by omega)
    have hl := len_ok (tkS a.1 (1 + i))
    have := hD.step (z := tkV a.1 (1 + i)) (l := 1 + (tkV (tkS a.1 (1 + i)) 4 : Nat)) (by omega) hl (by omega)
    show ∃ D', TreI (i + 1) (sy2 a.2 (1 + i) (tkV a.1 (1 + i)) (1 + (tkV (tkS a.1 (1 + i)) 4 : Nat))) D'
    have e : 1 + i = i + 1 := by omega
    rw [e] at this ⊢
    exact this
theorem tre_cone {n : Nat} (hn : 1 ≤ n ∧ n ≤ 8) (S : Int × Int) : Cone n (cI (treD n S)) := by
  have h3 := tkV_lt (s := S) (m := 3) (by omega)
  have hm : 1 ≤ mT n S ∧ mT n S ≤ 100 := by unfold mT; omega
  have ho := ord_ok (mT n S) (treR (mT n S) (tkS S 3)).1
  have hl : (treO n S).length = n := by
    unfold treO
    rw [List.length_take, ho.len]
    unfold mT; omega
  have hlt : ∀ v ∈ treO n S, v < mT n S := fun v hv => ho.lt v (List.mem_of_mem_take hv)
  have hini := tre_ini (mT n S) (tkS S 3)
  obtain ⟨D, hD⟩ := tre_inv (mT n S) (tkS S 3) hm.2
  have hmet := fw_met (hini.fw (mT n S))
  have e : ∀ a b, a < mT n S → b < mT n S → D a b = fwK (mT n S) (treR (mT n S) (tkS S 3)).2 a b := fun a b ha hb => by
    have h1 := hD.up (mT n S) (by omega) (fwK (mT n S) (treR (mT n S) (tkS S 3)).2) (fun a b c ha hb hc => hmet.t a b c ha hb hc) (fun a b _ _ => fw_le a b) a b (by omega) (by omega)
    have h2 := fw_ge (n := mT n S) (d := (treR (mT n S) (tkS S 3)).2) (t := D) (fun a b c ha hb hc => hD.t a b c (by omega) (by omega) (by omega)) (fun a b ha hb => hD.le a b (by omega) (by omega)) a b ha hb
    omega
  refine ((hD.cs.pull fun x => (treO n S).getD x 0).cone n).congr fun x y hxy hy => ?_
  show ((D _ _ : Int) : Rat) = ((fwK _ _ _ _ : Int) : Rat)
  rw [e _ _ (hlt _ (getD_mem (by omega))) (hlt _ (getD_mem (by omega)))]
end K48

namespace K48
open PySem PySem.Spec PyProof.Rows L2
/-- what the mathematics gives of the rows that are drawn -/
structure FamOK (kd : Nat) (a : Fam) : Prop where
  n5 : 1 ≤ a.1 ∧ a.1 ≤ 5
  met : MetI a.1 a.2.1
  no : kd = 0 → ¬ Cone a.1 (cI a.2.1)
  yes : (a.1 < 5 ∨ kd = 1 ∨ kd = 2) → Cone a.1 (cI a.2.1)
theorem famL_ok (kd : Nat) (S : Int × Int) : FamOK kd (famL kd S) := by
  unfold famL
  have h0 : (1 ≤ (fam0 kd S).1 ∧ (fam0 kd S).1 ≤ 5) ∧ MetI (fam0 kd S).1 (fam0 kd S).2.1 := by
    have hn : 1 ≤ (fam0 kd S).1 ∧ (fam0 kd S).1 ≤ 5 := by
      show 1 ≤ rowN (if 2 < kd then 5 else 4) S ∧ rowN (if 2 < kd then 5 else 4) S ≤ 5
      unfold rowN
      split
      · have := tkV_lt (s := S) (m := 5) (by omega)
        omega
      · have := tkV_lt (s := S) (m := 4) (by omega)
        omega
    refine ⟨hn, ?_⟩
    have h2 : rowN (if 2 < kd then 5 else 4) S ≤ 8 := by
      have h3 : rowN (if 2 < kd then 5 else 4) S ≤ 5 := hn.2
      omega
    exact fam_met _ (rowN (if 2 < kd then 5 else 4) S) h2 _
  generalize fam0 kd S = a at *
  by_cases e0 : kd = 0
  · subst e0
    have e1 : fam1 0 a = (5, telD a.2.2, (ordL 5 a.2.2).1) := if_pos rfl
    have e2 : ∀ a, fam2 0 a = a := fun a => if_neg (by decide)
    have e3 : ∀ a, fam3 0 a = a := fun a => if_neg (by decide)
    rw [e3, e2, e1]
    exact ⟨⟨show 1 ≤ 5 by decide, Nat.le_refl 5⟩, tel_met _, fun _ => tel_no _, fun h => by rcases h with h | h | h <;> omega⟩
  · have e1 : fam1 kd a = a := if_neg e0
    rw [e1]
    by_cases e4 : kd = 1
    · subst e4
      have e2 : fam2 1 a = (csN a.2.2, csD (csN a.2.2) (tkS a.2.2 4), csS (tkS a.2.2 4) (LN (csN a.2.2))) := if_pos rfl
      have e3 : ∀ a, fam3 1 a = a := fun a => if_neg (by decide)
      rw [e3, e2]
      have hn : 2 ≤ csN a.2.2 ∧ csN a.2.2 ≤ 5 := by
        have := tkV_lt (s := a.2.2) (m := 4) (by omega)
        unfold csN; omega
      exact ⟨⟨by show 1 ≤ csN a.2.2; omega, hn.2⟩, cs_met (by omega) _, fun h => by omega, fun _ => cs_cone (by omega) _⟩
    · have e2 : fam2 kd a = a := if_neg e4
      rw [e2]
      by_cases e5 : kd = 2
      · subst e5
        have e3 : fam3 2 a = (5, treD 5 a.2.2, treE 5 a.2.2) := if_pos rfl
        rw [e3]
        exact ⟨⟨show 1 ≤ 5 by decide, Nat.le_refl 5⟩, tre_met _, fun h => by omega, fun _ => tre_cone (n := 5) (by decide) _⟩
      · have e3 : fam3 kd a = a := if_neg e5
        rw [e3]
        exact ⟨h0.1, h0.2, fun h => absurd h e0, fun h => four ⟨h0.1.1, by rcases h with h | h | h <;> omega⟩ h0.2⟩
theorem lawOK_all (S0 : Int × Int) : LawOK S0 := by
  unfold LawOK
  have h := famL_ok (tkV S0 5) (tkS S0 5)
  generalize famL (tkV S0 5) (tkS S0 5) = a at *
  have h4 := tkV_lt (s := a.2.2) (m := 4) (by omega)
  have h3 := tkV_lt (s := tkS a.2.2 4) (m := 3) (by omega)
  exact case_ok h.n5 (by unfold facN; omega) (by unfold facD; omega) h.met h.no h.yes
end K48

namespace K48
open PySem PySem.Spec PyProof.Rows L2

/-- the promise of the law: at every script whose mathematics holds the answer is True -/
def spLaw (K : PySem.W.Frag) : Sp := fun vs H Q _ => ∃ (a : Addr) (ns : List Int), vs = [.ref a] ∧ SqL K H a (ns.map V.int) ∧ ns.length ≤ 63 ∧ LawOK (lsF ns) ∧ ∀ H', Q (.bl true) H'
section
variable {W : Wd} (T : Fx W.K W.mg W.c) (Y : Fy W.K W.c)
include T Y

theorem fn_law {k} (GN : FnN W (k + 1) "_law_state" lsF) (G : CalL W k) {f : Addr} {fd : FuncData} (F : FunD W.K "law" "law" (defArgs (top 85)) (defBody (top 85)) (defScope (top 85)) [] [] f fd) : FnOk W.P W.w W.K W.mg W.base CX0 (k + 2) f fd ["_law_script"] (spLaw W.K) := by
  have hN := lawN_nd
  have S : FnScope lawN ["_law_script"] (defScope (top 85)) := ⟨rfl, rfl, rfl, hN, rfl, by decide +kernel, by decide +kernel⟩
  refine F.ok S (fun vs H Q E ⟨a, ns, e, _⟩ => by rw [e]; rfl) fun cdv A outer s H vs Q E hr ⟨a, ns, ev, hS, hl, hO, q⟩ => ?_
  subst ev
  obtain ⟨f1, fd1, ps1, hm1, hk1, hb1, F1⟩ := GN
  have key : WB (BX W lawN "law" (top 85) f cdv A outer s H E) (defBody (top 85)) { nx := fun _ H' => Q .non H', rt := Q } (L2.start lawN [.ref a]) H := by
    refine ⟨_, pss_cons (ps_set (i := 1) hN rfl (Or.inl rfl) (pe_call F1 hr (by rfl) hm1 hk1 hb1 .nil pass0 (pa_cons (pe_var (i := 0) rfl (Or.inl rfl)) pa_nil))) (pWB _), ?_⟩
    refine ⟨.ref a, rfl, ?_⟩
    refine ⟨a, ns, rfl, hS, hl, fun p H' hp hp' ho => ?_⟩
    have ok : OK W.c p ⟨some (lsF ns), [none, some .stt, none, none, none, none, none, none, none, none, none, none, none, none, none, none, none, none, none, none, none, none, none]⟩ (fun _ => none) H' [p] ((L2.start lawN [.ref a]).set 1 (some (.ref p))) :=
      ⟨fun b u e => (by cases e), by simp, fun b h => rfl, ⟨[], rfl, ⟨[], [], rfl, ⟨rfl, rfl⟩, OwnE.nones 21⟩⟩, fun s t h => by have e : lsF ns = (s, t) := Option.some.inj h; rw [hp', e]⟩
    obtain ⟨z, hx⟩ := law_ex T Y (E := E) (f := f) (cdv := cdv) (Ar := A) (outer := outer) (sh := s) (hp0 := H) (st := p) hr G (lsF ns) hO
    refine hx _ _ _ _ ok _ fun v B1 H1 Fm k1 t1 n1 o1 x1 => ?_
    rw [show v = V.bl true from t1.1]
    exact q H1
  obtain ⟨t, h1, h2⟩ := key
  exact ⟨t, h1.nox, h2⟩
end
end K48

namespace K48
open PySem PySem.Spec PyProof.Rows L2
section
variable {P : Program} {w : World} {K : PySem.W.Frag} {mg : Str → Option Value} {base h : Heap} {c : Cl} {k k' : Nat} {x m : Str} {C : Addr} {R : List D → D → Prop}
theorem FnS.mono {R : Int × Int → List D → D → Int × Int → Prop} (h : FnS P w K mg base c k x R) (l : k ≤ k') : FnS P w K mg base c k' x R := let ⟨f, fd, ps, h1, h2, h3, h4⟩ := h; ⟨f, fd, ps, h1, h2, h3, h4.mono l⟩
theorem FnM.mono (h : FnM P w K mg base c k C m R) (l : k ≤ k') : FnM P w K mg base c k' C m R := let ⟨f, fd, ps, h1, h2, h3⟩ := h; ⟨f, fd, ps, h1, h2, h3.mono l⟩
theorem FnK.mono {dv : List Int} (h : FnK P w K mg base c k x C dv R) (l : k ≤ k') : FnK P w K mg base c k' x C dv R := let ⟨f, fd, ps, us, h1, h2, h3, h4, h5⟩ := h; ⟨f, fd, ps, us, h1, h2, h3, h4, h5.mono l⟩
theorem FnN.mono {W : Wd} {f : List Int → Int × Int} (h : FnN W k x f) (l : k ≤ k') : FnN W k' x f := let ⟨g, fd, ps, h1, h2, h3, h4⟩ := h; ⟨g, fd, ps, h1, h2, h3, h4.mono l⟩
end
abbrev WX (P : Program) (w : World) (K : PySem.W.Frag) (mg : Str → Option Value) (base : Heap) : Wd := ⟨P, w, K, mg, base, ⟨He.ga K "Ratio", He.ga K "Metric"⟩⟩
section
variable {P : Program} {w : World} {K : PySem.W.Frag} {mg : Str → Option Value} {base h : Heap}
theorem defG (c : He.SaysD faH fnH K) (X : K.In h) (G : h.Ns mainGlobals mg) (i j : Nat) {x nm : Str} {st : Stmt} (hi : fnH[i]? = some (dG x nm st)) (hj : faH[j]? = some (.glo x)) : DefW2 (WX P w K mg base) x nm st := by
  obtain ⟨fd, F⟩ := c.def_ i hi
  exact ⟨_, ⟨fd, F⟩, He.glo_ok X G (c.fact j hj)⟩
theorem defMt (c : He.SaysD faH fnH K) (i j : Nat) {C m q : Str} {st : Stmt} (hi : fnH[i]? = some (dMt C m q st)) (hj : faH[j]? = some (.meth C m)) : DefM (WX P w K mg base) (He.ga K C) m q st := by
  obtain ⟨fd, F⟩ := c.def_ i hi
  exact ⟨_, ⟨fd, F⟩, He.meth_ok (c.fact j hj)⟩
theorem fxH (c : He.SaysD faH fnH K) (e : exB K = true) (X : K.In h) (G : h.Ns mainGlobals mg) : Fx K mg ⟨He.ga K "Ratio", He.ga K "Metric"⟩ ∧ Fy K ⟨He.ga K "Ratio", He.ga K "Metric"⟩ := by
  unfold exB at e
  simp only [Bool.and_eq_true, List.all_cons, List.all_nil, decide_eq_true_eq, Bool.and_true] at e
  obtain ⟨e1, e2, e3, e4, e5, e6, e7, e8, e9, ⟨⟨a1, b1⟩, ⟨a2, b2⟩, ⟨a3, b3⟩, ⟨a4, b4⟩, ⟨a5, b5⟩, ⟨a6, b6⟩⟩, e10, e11⟩ := e
  have g1 := PySem.W.mg_of X G (He.eqO_ok e10)
  have g2 := PySem.W.mg_of X G (He.eqO_ok e11)
  refine ⟨{ gR := He.glo_ok X G (c.fact 66 (f := .glo "Ratio") rfl), gM := He.glo_ok X G (c.fact 69 (f := .glo "Metric") rfl), cR := He.cls_ok (c.fact 67 (f := .cls "Ratio") rfl), cM := He.cls_ok (c.fact 70 (f := .cls "Metric") rfl), nRn := He.noat_ok (c.fact 72 (f := .noat "Ratio" "n") rfl), nRd := He.noat_ok (c.fact 73 (f := .noat "Ratio" "d") rfl), nMn := He.noat_ok (c.fact 74 (f := .noat "Metric" "n") rfl), nMr := He.noat_ok (c.fact 75 (f := .noat "Metric" "rows") rfl), sf := e3, nf := e4, nfs := e5, isi := ⟨He.eqO_ok e6, He.eqO_ok e7, e8, e2⟩, kRR := e9, kR := ?_, kt := ?_, len := He.free_ok X G (c.fact 77 (f := .free "len") rfl), range := He.free_ok X G (c.fact 78 (f := .free "range") rfl), isinstance := He.free_ok X G (c.fact 79 (f := .free "isinstance") rfl), tuple := He.free_ok X G (c.fact 80 (f := .free "tuple") rfl), list := He.free_ok X G (c.fact 81 (f := .free "list") rfl), int := He.free_ok X G (c.fact 82 (f := .free "int") rfl), bool := He.free_ok X G (c.fact 83 (f := .free "bool") rfl), str := He.free_ok X G (c.fact 84 (f := .free "str") rfl), abs := He.free_ok X G (c.fact 85 (f := .free "abs") rfl), min := He.free_ok X G (c.fact 86 (f := .free "min") rfl), sum := He.free_ok X G (c.fact 87 (f := .free "sum") rfl), zip := He.free_ok X G (c.fact 88 (f := .free "zip") rfl), sorted := He.free_ok X G (c.fact 89 (f := .free "sorted") rfl), gcd := g1, lcm := g2 }, ⟨He.eqO_ok e1, e2⟩⟩
  · intro n hn
    cases n <;> first | exact absurd rfl hn | exact a1 | exact a2 | exact a3 | exact a4 | exact a5 | exact a6
  · intro t ht
    simp only [List.mem_cons, List.mem_nil_iff, or_false] at ht
    rcases ht with rfl | rfl | rfl | rfl | rfl | rfl
    · exact b1
    · exact b2
    · exact b3
    · exact b4
    · exact b5
    · exact b6
theorem fkRat (c : He.SaysD faH fnH K) (X : K.In h) (G : h.Ns mainGlobals mg) (T : Fx K mg ⟨He.ga K "Ratio", He.ga K "Metric"⟩) : Wd.fk (WX P w K mg base) 1 "Ratio" (He.ga K "Ratio") [1] RInit ∧ Wd.fk (WX P w K mg base) 1 "Ratio" (He.ga K "Ratio") [] RInit := by
  obtain ⟨fd, F⟩ := c.def_ 75 (d := dIR) rfl
  have hN : (["self", "n", "d", "shared"] : List Str).Nodup := by decide +kernel
  have S : FnScope ["self", "n", "d", "shared"] ["self", "n", "d"] (defScope (meth 9 0)) := ⟨rfl, rfl, rfl, hN, rfl, by decide +kernel, by decide +kernel⟩
  have hl : ∀ ds d, RInit ds d → ds.length + 1 = 3 := fun ds d h => by obtain ⟨_, _, rfl, _⟩ := h; rfl
  have M := He.mkr_ok (c.fact 68 (f := .mkr "Ratio") rfl)
  constructor
  · exact fnK_dfl (W := WX P w K mg base) (dv := [1]) (stm := meth 9 0) (qual := "Ratio.__init__") 2 0 (by decide) F M T.gR S hl (body_init (W := WX P w K mg base) T) rfl (fun T kV doc pm an cdv ct us its h1 h2 => match us, its, h1, h2 with | [_, _], [_], _, _ => ⟨_, rfl, rfl⟩)
  · exact fnK_dfl (W := WX P w K mg base) (dv := [1]) (stm := meth 9 0) (qual := "Ratio.__init__") 3 1 (by decide) F M T.gR S hl (body_init (W := WX P w K mg base) T) rfl (fun T kV doc pm an cdv ct us its h1 h2 => match us, its, h1, h2 with | [_, _, _], [_], _, _ => ⟨_, rfl, rfl⟩)
theorem fkMet {k : Nat} (c : He.SaysD faH fnH K) (X : K.In h) (G : h.Ns mainGlobals mg) (hb : ∀ ds r, RMet ds r → BodyK (WX P w K mg base) (k + 1) (He.ga K "Metric") ["self", "rows", "own"] "Metric.__init__" (meth 30 0) ds r) : Wd.fk (WX P w K mg base) (k + 2) "Metric" (He.ga K "Metric") [] RMet := by
  obtain ⟨fd, F⟩ := c.def_ 76 (d := dIM) rfl
  have hN : (["self", "rows", "own"] : List Str).Nodup := by decide +kernel
  exact fnK_all (W := WX P w K mg base) (dvs := []) (stm := meth 30 0) (qual := "Metric.__init__") rfl F (He.mkr_ok (c.fact 71 (f := .mkr "Metric") rfl)) (He.glo_ok X G (c.fact 69 (f := .glo "Metric") rfl)) (ps := ["self", "rows"]) ⟨rfl, rfl, rfl, hN, rfl, by decide +kernel, by decide +kernel⟩ (fun ds d h => by obtain ⟨_, _, rfl, _⟩ := h; rfl) hb (fun _ _ _ _ _ _ us hl => match us, hl with | [_, _], _ => rfl)
theorem asm (sx : SaysX K) (X : K.In h) (G : h.Ns mainGlobals mg) {f : Addr} {fd : FuncData} (F : FunD K "law" "law" (defArgs (top 85)) (defBody (top 85)) (defScope (top 85)) [] [] f fd) : FnOk P w K mg base CX0 12 f fd ["_law_script"] (spLaw K) := by
  have c := sx.d
  obtain ⟨T, Y⟩ := fxH c sx.ex X G
  obtain ⟨pK1, pK2⟩ := fkRat (P := P) (w := w) (base := base) c X G T
  have hMOST := He.int_ok X G (c.fact 76 (f := .int "MOST" 8) rfl)
  have p_fm_eq := fm_eq (W := WX P w K mg base) T (k := 0) (defMt c 69 93 (C := "Ratio") (m := "__eq__") (q := "Ratio.__eq__") (st := meth 9 1) rfl rfl)
  have p_fm_add := fm_add (W := WX P w K mg base) T (k := 1) (pK2.mono (by decide)) (defMt c 68 92 (C := "Ratio") (m := "__add__") (q := "Ratio.__add__") (st := meth 9 2) rfl rfl)
  have p_fm_sub := fm_sub (W := WX P w K mg base) T (k := 1) (pK2.mono (by decide)) (defMt c 72 96 (C := "Ratio") (m := "__sub__") (q := "Ratio.__sub__") (st := meth 9 3) rfl rfl)
  have p_fm_mul := fm_mul (W := WX P w K mg base) T (k := 1) (pK2.mono (by decide)) (defMt c 70 94 (C := "Ratio") (m := "__mul__") (q := "Ratio.__mul__") (st := meth 9 4) rfl rfl)
  have p_fm_neg := fm_neg (W := WX P w K mg base) T (k := 1) (pK2.mono (by decide)) (defMt c 71 95 (C := "Ratio") (m := "__neg__") (q := "Ratio.__neg__") (st := meth 9 5) rfl rfl)
  have p_fm_isz := fm_isz (W := WX P w K mg base) T (k := 0) (defMt c 73 97 (C := "Ratio") (m := "is_zero") (q := "Ratio.is_zero") (st := meth 9 7) rfl rfl)
  have p_fm_sign := fm_sign (W := WX P w K mg base) T (k := 0) (defMt c 74 98 (C := "Ratio") (m := "sign") (q := "Ratio.sign") (st := meth 9 8) rfl rfl)
  have p_fp_costs := fp_costs (W := WX P w K mg base) T (k := 0) (defG c X G 24 24 (x := "costs") (nm := "costs") (st := top 41) rfl rfl)
  have p_fp_leaving := fp_leaving (W := WX P w K mg base) T (k := 0) (defG c X G 25 25 (x := "leaving") (nm := "leaving") (st := top 42) rfl rfl)
  have p_fs_law_take := fs_law_take (W := WX P w K mg base) T (k := 0) (defG c X G 35 35 (x := "_law_take") (nm := "_law_take") (st := top 55) rfl rfl)
  have p_fs_law_order_of := fs_law_order_of (W := WX P w K mg base) T (k := 1) (p_fs_law_take.mono (by decide)) (defG c X G 36 36 (x := "_law_order_of") (nm := "_law_order_of") (st := top 56) rfl rfl)
  have p_fp_law_shortest := fp_law_shortest (W := WX P w K mg base) T (k := 0) (defG c X G 37 37 (x := "_law_shortest") (nm := "_law_shortest") (st := top 57) rfl rfl)
  have p_fp_law_renamed := fp_law_renamed (W := WX P w K mg base) T (k := 0) (defG c X G 39 39 (x := "_law_renamed") (nm := "_law_renamed") (st := top 59) rfl rfl)
  have p_fs_law_web := fs_law_web (W := WX P w K mg base) T (k := 1) (p_fs_law_take.mono (by decide)) (p_fp_law_shortest.mono (by decide)) (defG c X G 38 38 (x := "_law_web") (nm := "_law_web") (st := top 58) rfl rfl)
  have p_fs_law_of_tree := fs_law_of_tree (W := WX P w K mg base) T (k := 2) (p_fs_law_take.mono (by decide)) (p_fp_law_shortest.mono (by decide)) (p_fs_law_order_of.mono (by decide)) (p_fp_law_renamed.mono (by decide)) (defG c X G 40 40 (x := "_law_of_tree") (nm := "_law_of_tree") (st := top 60) rfl rfl)
  have p_fs_law_grid := fs_law_grid (W := WX P w K mg base) T (k := 1) (p_fs_law_take.mono (by decide)) (defG c X G 41 41 (x := "_law_grid") (nm := "_law_grid") (st := top 61) rfl rfl)
  have p_fs_law_band := fs_law_band (W := WX P w K mg base) T (k := 1) (p_fs_law_take.mono (by decide)) (defG c X G 42 42 (x := "_law_band") (nm := "_law_band") (st := top 62) rfl rfl)
  have p_fs_law_levels := fs_law_levels (W := WX P w K mg base) T (k := 1) (p_fs_law_take.mono (by decide)) (defG c X G 43 43 (x := "_law_levels") (nm := "_law_levels") (st := top 63) rfl rfl)
  have p_fs_law_rows := fs_law_rows (W := WX P w K mg base) T (k := 3) (p_fs_law_take.mono (by decide)) (p_fs_law_web.mono (by decide)) (p_fs_law_of_tree.mono (by decide)) (p_fs_law_grid.mono (by decide)) (p_fs_law_band.mono (by decide)) (p_fs_law_levels.mono (by decide)) (defG c X G 44 44 (x := "_law_rows") (nm := "_law_rows") (st := top 64) rfl rfl)
  have p_fs_law_factor := fs_law_factor (W := WX P w K mg base) T (k := 1) (p_fs_law_take.mono (by decide)) (defG c X G 45 45 (x := "_law_factor") (nm := "_law_factor") (st := top 65) rfl rfl)
  have p_fp_law_ratios := fp_law_ratios (W := WX P w K mg base) T (k := 1) (pK2.mono (by decide)) (defG c X G 46 46 (x := "_law_ratios") (nm := "_law_ratios") (st := top 66) rfl rfl)
  have p_fp_law_low := fp_law_low (W := WX P w K mg base) T (k := 0) (defG c X G 47 47 (x := "_law_low") (nm := "_law_low") (st := top 67) rfl rfl)
  have p_fp_law_plus := fp_law_plus (W := WX P w K mg base) T (k := 1) (p_fp_law_low.mono (by decide)) (defG c X G 48 48 (x := "_law_plus") (nm := "_law_plus") (st := top 68) rfl rfl)
  have p_fp_law_mul := fp_law_mul (W := WX P w K mg base) T (k := 1) (p_fp_law_low.mono (by decide)) (defG c X G 49 49 (x := "_law_mul") (nm := "_law_mul") (st := top 69) rfl rfl)
  have p_fp_law_seen := fp_law_seen (W := WX P w K mg base) T (k := 0) (defG c X G 50 50 (x := "_law_seen") (nm := "_law_seen") (st := top 70) rfl rfl)
  have p_fp_law_numbers_of := fp_law_numbers_of (W := WX P w K mg base) T (k := 1) (p_fp_law_seen.mono (by decide)) (defG c X G 51 51 (x := "_law_numbers_of") (nm := "_law_numbers_of") (st := top 71) rfl rfl)
  have p_fp_law_are_points := fp_law_are_points (W := WX P w K mg base) T (k := 0) (defG c X G 52 52 (x := "_law_are_points") (nm := "_law_are_points") (st := top 72) rfl rfl)
  have p_fp_law_table := fp_law_table (W := WX P w K mg base) T (k := 1) (p_fp_law_low.mono (by decide)) (defG c X G 53 53 (x := "_law_table") (nm := "_law_table") (st := top 73) rfl rfl)
  have p_fp_zero := fp_zero (W := WX P w K mg base) T (k := 1) (pK1.mono (by decide)) (defG c X G 1 1 (x := "zero") (nm := "zero") (st := top 10) rfl rfl)
  have p_fp_is_integer := fp_is_integer (W := WX P w K mg base) T (k := 0) (defG c X G 0 0 (x := "is_integer") (nm := "is_integer") (st := top 8) rfl rfl)
  have p_fp_is_rational := fp_is_rational (W := WX P w K mg base) T (k := 0) (defG c X G 2 2 (x := "is_rational") (nm := "is_rational") (st := top 11) rfl rfl)
  have p_fp_as_ratio := fp_as_ratio (W := WX P w K mg base) T (k := 0) (defG c X G 3 3 (x := "as_ratio") (nm := "as_ratio") (st := top 12) rfl rfl)
  have p_fp_is_point := fp_is_point (W := WX P w K mg base) T (k := 0) (defG c X G 4 4 (x := "is_point") (nm := "is_point") (st := top 14) rfl rfl)
  have p_fp_are_points := fp_are_points (W := WX P w K mg base) T (k := 1) (p_fp_is_point.mono (by decide)) (defG c X G 5 5 (x := "are_points") (nm := "are_points") (st := top 15) rfl rfl)
  have p_fp_are_numbers := fp_are_numbers (W := WX P w K mg base) T (k := 0) (defG c X G 6 6 (x := "are_numbers") (nm := "are_numbers") (st := top 16) rfl rfl)
  have p_fp_parted := fp_parted (W := WX P w K mg base) T (k := 0) (defG c X G 9 9 (x := "parted") (nm := "parted") (st := top 20) rfl rfl)
  have p_fp_law_splits := fp_law_splits (W := WX P w K mg base) T (k := 0) (defG c X G 56 56 (x := "_law_splits") (nm := "_law_splits") (st := top 76) rfl rfl)
  have p_fp_law_summed := fp_law_summed (W := WX P w K mg base) T (k := 2) (p_fp_law_plus.mono (by decide)) (defG c X G 58 58 (x := "_law_summed") (nm := "_law_summed") (st := top 78) rfl rfl)
  have p_fp_law_two := fp_law_two (W := WX P w K mg base) T (k := 0) (defG c X G 59 59 (x := "_law_two") (nm := "_law_two") (st := top 79) rfl rfl)
  have p_fp_law_parts_of := fp_law_parts_of (W := WX P w K mg base) T (k := 1) (p_fp_law_are_points.mono (by decide)) (p_fp_law_splits.mono (by decide)) (p_fp_law_seen.mono (by decide)) (defG c X G 57 57 (x := "_law_parts_of") (nm := "_law_parts_of") (st := top 77) rfl rfl)
  have p_fp_law_cuts_hold := fp_law_cuts_hold (W := WX P w K mg base) T Y (k := 3) (p_fm_eq.mono (by decide)) (p_fp_law_two.mono (by decide)) (p_fp_law_parts_of.mono (by decide)) (p_fp_law_summed.mono (by decide)) (p_fp_law_numbers_of.mono (by decide)) (p_fp_law_splits.mono (by decide)) (p_fp_law_plus.mono (by decide)) (p_fp_law_mul.mono (by decide)) (defG c X G 60 60 (x := "_law_cuts_hold") (nm := "_law_cuts_hold") (st := top 80) rfl rfl)
  have p_fs_law_told := fs_law_told (W := WX P w K mg base) T (k := 2) (p_fs_law_order_of.mono (by decide)) (p_fp_law_renamed.mono (by decide)) (defG c X G 61 61 (x := "_law_told") (nm := "_law_told") (st := top 81) rfl rfl)
  have p_fs_law_cut_rows := fs_law_cut_rows (W := WX P w K mg base) T Y (k := 1) (p_fs_law_take.mono (by decide)) (p_fp_law_splits.mono (by decide)) (defG c X G 62 62 (x := "_law_cut_rows") (nm := "_law_cut_rows") (st := top 82) rfl rfl)
  have p_fs_law_other := fs_law_other (W := WX P w K mg base) T Y (k := 2) (p_fs_law_take.mono (by decide)) (pK2.mono (by decide)) (p_fm_add.mono (by decide)) (p_fm_neg.mono (by decide)) (defG c X G 54 54 (x := "_law_other") (nm := "_law_other") (st := top 74) rfl rfl)
  have p_fs_law_drawn_papers := fs_law_drawn_papers (W := WX P w K mg base) T Y (k := 1) (p_fs_law_take.mono (by decide)) (pK1.mono (by decide)) (p_fp_law_two.mono (by decide)) (p_fp_law_splits.mono (by decide)) (defG c X G 63 63 (x := "_law_drawn_papers") (nm := "_law_drawn_papers") (st := top 83) rfl rfl)
  have p_fp_law_moved_weights := fp_law_moved_weights (W := WX P w K mg base) T Y (k := 2) (pK1.mono (by decide)) (pK2.mono (by decide)) (p_fm_add.mono (by decide)) (p_fm_neg.mono (by decide)) (p_fp_law_splits.mono (by decide)) (defG c X G 64 64 (x := "_law_moved_weights") (nm := "_law_moved_weights") (st := top 84) rfl rfl)
  have p_fn_law_state := fn_law_state (W := WX P w K mg base) T (k := 0) (defG c X G 34 34 (x := "_law_state") (nm := "_law_state") (st := top 54) rfl rfl)
  have p_fp_summed := fp_summed (W := WX P w K mg base) T (k := 2) (pK1.mono (by decide)) (p_fp_parted.mono (by decide)) (p_fm_add.mono (by decide)) (defG c X G 10 10 (x := "summed") (nm := "summed") (st := top 21) rfl rfl)
  have p_fp_all_splits := fp_all_splits (W := WX P w K mg base) T (k := 0) (defG c X G 8 8 (x := "all_splits") (nm := "all_splits") (st := top 19) rfl rfl)
  have p_fp_check_count := fp_check_count (W := WX P w K mg base) T (k := 1) (p_fp_is_integer.mono (by decide)) (defG c X G 17 17 (x := "check_count") (nm := "check_count") (st := top 32) rfl rfl)
  have p_fp_check_points := fp_check_points (W := WX P w K mg base) T (k := 2) hMOST (p_fp_check_count.mono (by decide)) (defG c X G 18 18 (x := "check_points") (nm := "check_points") (st := top 33) rfl rfl)
  have p_fp_splits := fp_splits (W := WX P w K mg base) T (k := 3) (p_fp_check_points.mono (by decide)) (defG c X G 19 19 (x := "splits") (nm := "splits") (st := top 34) rfl rfl)
  have p_fp_is_split_build := fp_is_split_build (W := WX P w K mg base) T (k := 4) (p_fp_is_integer.mono (by decide)) (p_fp_splits.mono (by decide)) (defG c X G 20 20 (x := "is_split_build") (nm := "is_split") (st := top 35) rfl rfl)
  have p_fp_cut_rows := fp_cut_rows (W := WX P w K mg base) T (k := 5) (p_fp_check_points.mono (by decide)) (p_fp_is_split_build.mono (by decide)) (pK1.mono (by decide)) (defG c X G 21 21 (x := "cut_rows") (nm := "cut_rows") (st := top 37) rfl rfl)
  have p_fp_pair_row := fp_pair_row (W := WX P w K mg base) T (k := 0) (defG c X G 28 28 (x := "pair_row") (nm := "pair_row") (st := top 46) rfl rfl)
  have p_fp_cut_columns := fp_cut_columns (W := WX P w K mg base) T (k := 6) (p_fp_splits.mono (by decide)) (p_fp_cut_rows.mono (by decide)) (p_fp_pair_row.mono (by decide)) (defG c X G 29 29 (x := "cut_columns") (nm := "cut_columns") (st := top 47) rfl rfl)
  have p_mm_distance := mm_distance (W := WX P w K mg base) T (k := 0) (defMt c 66 90 (C := "Metric") (m := "distance") (q := "Metric.distance") (st := meth 30 3) rfl rfl)
  have p_mm_pairs := mm_pairs (W := WX P w K mg base) T (k := 0) (defMt c 67 91 (C := "Metric") (m := "pairs") (q := "Metric.pairs") (st := meth 30 4) rfl rfl)
  have p_fp_is_split_checker := fp_is_split_checker (W := WX P w K mg base) T (k := 2) (p_fp_are_points.mono (by decide)) (defG c X G 7 7 (x := "is_split_checker") (nm := "is_split") (st := top 17) rfl rfl)
  have p_fp_are_parts := fp_are_parts (W := WX P w K mg base) T (k := 3) (p_fp_is_split_checker.mono (by decide)) (defG c X G 11 11 (x := "are_parts") (nm := "are_parts") (st := top 22) rfl rfl)
  have p_fp_pairs_of := fp_pairs_of (W := WX P w K mg base) T (k := 0) (defG c X G 12 12 (x := "pairs_of") (nm := "pairs_of") (st := top 23) rfl rfl)
  have p_fp_takes_cuts := fp_takes_cuts (W := WX P w K mg base) T Y (k := 4) (pK1.mono (by decide)) (p_fm_eq.mono (by decide)) (p_fm_add.mono (by decide)) (p_fm_mul.mono (by decide)) (p_mm_distance.mono (by decide)) (p_fp_are_parts.mono (by decide)) (p_fp_pairs_of.mono (by decide)) (p_fp_summed.mono (by decide)) (p_fp_are_numbers.mono (by decide)) (p_fp_all_splits.mono (by decide)) (p_fp_parted.mono (by decide)) (defG c X G 13 13 (x := "takes_cuts") (nm := "takes_cuts") (st := top 24) rfl rfl)
  have p_fp_taken_rows := fp_taken_rows (W := WX P w K mg base) T Y (k := 1) (p_fp_is_rational.mono (by decide)) (p_fp_as_ratio.mono (by decide)) (defG c X G 14 14 (x := "taken_rows") (nm := "taken_rows") (st := top 27) rfl rfl)
  have p_fp_keeps_triangles := fp_keeps_triangles (W := WX P w K mg base) T Y (k := 2) (p_fm_eq.mono (by decide)) (p_fm_add.mono (by decide)) (p_fm_sub.mono (by decide)) (p_fm_isz.mono (by decide)) (p_fm_sign.mono (by decide)) (defG c X G 15 15 (x := "keeps_triangles") (nm := "keeps_triangles") (st := top 28) rfl rfl)
  have p_fp_is_apart := fp_is_apart (W := WX P w K mg base) T Y (k := 0) (p_fm_sign.mono (by decide)) (defG c X G 16 16 (x := "is_apart") (nm := "is_apart") (st := top 29) rfl rfl)
  have pKM : Wd.fk (WX P w K mg base) 5 "Metric" (WX P w K mg base).c.M [] RMet := fkMet c X G (body_met (W := WX P w K mg base) T Y (k := 3) hMOST (p_fp_taken_rows.mono (by decide)) (p_fp_keeps_triangles.mono (by decide)) (p_fp_is_apart.mono (by decide)))
  have p_fp_row_factor := fp_row_factor (W := WX P w K mg base) T (k := 0) (p_fm_sign.mono (by decide)) (defG c X G 22 22 (x := "row_factor") (nm := "row_factor") (st := top 39) rfl rfl)
  have p_fp_subtracted := fp_subtracted (W := WX P w K mg base) T (k := 0) (defG c X G 26 26 (x := "subtracted") (nm := "subtracted") (st := top 43) rfl rfl)
  have p_fp_starting := fp_starting (W := WX P w K mg base) T (k := 1) (p_fp_row_factor.mono (by decide)) (defG c X G 23 23 (x := "starting") (nm := "starting") (st := top 40) rfl rfl)
  have p_fp_feasible := fp_feasible (W := WX P w K mg base) T (k := 2) (pK2.mono (by decide)) (p_fp_zero.mono (by decide)) (p_fp_starting.mono (by decide)) (p_fp_costs.mono (by decide)) (p_fp_leaving.mono (by decide)) (p_fp_subtracted.mono (by decide)) (defG c X G 27 27 (x := "feasible") (nm := "feasible") (st := top 44) rfl rfl)
  have p_fp_decided := fp_decided (W := WX P w K mg base) T (k := 7) (p_fp_feasible.mono (by decide)) (p_fp_cut_columns.mono (by decide)) (p_mm_pairs.mono (by decide)) (defG c X G 30 30 (x := "decided") (nm := "decided") (st := top 48) rfl rfl)
  have p_fp_cut_weights := fp_cut_weights (W := WX P w K mg base) T (k := 8) (p_fp_decided.mono (by decide)) (p_fp_splits.mono (by decide)) (p_fm_sign.mono (by decide)) (defG c X G 31 31 (x := "cut_weights") (nm := "cut_weights") (st := top 49) rfl rfl)
  have p_fp_cut_functional := fp_cut_functional (W := WX P w K mg base) T (k := 8) (p_fp_decided.mono (by decide)) (defG c X G 32 32 (x := "cut_functional") (nm := "cut_functional") (st := top 50) rfl rfl)
  have p_fp_cut_paper := fp_cut_paper (W := WX P w K mg base) T (k := 9) (p_fp_cut_weights.mono (by decide)) (p_fp_cut_functional.mono (by decide)) (defG c X G 33 33 (x := "cut_paper") (nm := "cut_paper") (st := top 52) rfl rfl)
  have p_bend0 := fs_law_bend (W := WX P w K mg base) T Y (k := 3) 0 (p_fs_law_take.mono (by decide)) (p_fs_law_other.mono (by decide)) (fun h => absurd rfl h) (defG c X G 55 55 (x := "_law_bend") (nm := "_law_bend") (st := top 75) rfl rfl)
  have p_bend1 := fs_law_bend (W := WX P w K mg base) T Y (k := 4) 1 (p_fs_law_take.mono (by decide)) (p_fs_law_other.mono (by decide)) (fun _ => p_bend0.mono (by decide)) (defG c X G 55 55 (x := "_law_bend") (nm := "_law_bend") (st := top 75) rfl rfl)
  have p_bend2 := fs_law_bend (W := WX P w K mg base) T Y (k := 5) 2 (p_fs_law_take.mono (by decide)) (p_fs_law_other.mono (by decide)) (fun _ => p_bend1.mono (by decide)) (defG c X G 55 55 (x := "_law_bend") (nm := "_law_bend") (st := top 75) rfl rfl)
  have p_bend3 := fs_law_bend (W := WX P w K mg base) T Y (k := 6) 3 (p_fs_law_take.mono (by decide)) (p_fs_law_other.mono (by decide)) (fun _ => p_bend2.mono (by decide)) (defG c X G 55 55 (x := "_law_bend") (nm := "_law_bend") (st := top 75) rfl rfl)
  have p_bend4 := fs_law_bend (W := WX P w K mg base) T Y (k := 7) 4 (p_fs_law_take.mono (by decide)) (p_fs_law_other.mono (by decide)) (fun _ => p_bend3.mono (by decide)) (defG c X G 55 55 (x := "_law_bend") (nm := "_law_bend") (st := top 75) rfl rfl)
  have hC : CalL (WX P w K mg base) 10 := ⟨p_fs_law_take.mono (by decide), p_bend4.mono (by decide), p_fp_takes_cuts.mono (by decide), p_fp_law_cuts_hold.mono (by decide), pK1.mono (by decide), pK2.mono (by decide), pKM.mono (by decide), p_fp_law_two.mono (by decide), p_fp_law_splits.mono (by decide), p_fs_law_drawn_papers.mono (by decide), p_fp_law_moved_weights.mono (by decide), p_fs_law_rows.mono (by decide), p_fs_law_told.mono (by decide), p_fs_law_cut_rows.mono (by decide), p_fs_law_of_tree.mono (by decide), p_fs_law_factor.mono (by decide), p_fp_law_table.mono (by decide), p_fp_law_ratios.mono (by decide), p_fp_cut_paper.mono (by decide)⟩
  exact fn_law (W := WX P w K mg base) T Y (k := 10) (p_fn_law_state.mono (by decide)) hC F
end
end K48

namespace K48
open PySem PySem.Spec PyProof.Rows L2
theorem factsX {P : Program} {w : World} {K : PySem.W.Frag} {h : Heap} {mg : Str → Option Value} {f : Addr} (X : K.In h) (G : h.Ns mainGlobals mg) (hfa : mg ("law" : Str) = some (.ref f)) (c : SaysX K) :
    ∃ fd : FuncData, (∀ (s : Shared) (v : Value), BindsTo s fd ⟨[v], []⟩ [("_law_script", v)]) ∧ ∀ base : Heap, K.In base → base.Ns mainGlobals mg → FnOk P w K mg base CX0 12 f fd ["_law_script"] (spLaw K) := by
  obtain ⟨fd, F⟩ := c.d.def_ 65 (d := dG "law" "law" (top 85)) rfl
  have e := hfa.symm.trans (He.glo_ok X G (c.d.fact 65 (f := .glo "law") rfl))
  cases e
  have b := FunD.bindsA (ps := ["_law_script"]) F fun _ _ _ _ _ _ us hl => match us, hl with | [_], _ => rfl
  exact ⟨fd, fun s v => b s [v] rfl, fun base _ _ => asm c X G F⟩
end K48
open PySem PySem.W PySem.Calls PyProof.Rows
theorem K48.holds_of (hM : ∀ S0, K48.LawOK S0) : PySem.Challenge.rw_metricparts_k48_whole_papers_of_cuts.Holds := by
  w_on; o_law
  refine HandSHeadRun.head_imp (r := OpenLaw.row PySem.Challenge.rw_metricparts_k48_whole_papers_of_cuts) (q := view (OpenLaw.row PySem.Challenge.rw_metricparts_k48_whole_papers_of_cuts).prog [0, 85]) (H := K48.hkX) (ob := K48.obX) (M := 6000) (loose := K48.looseAll) (d := HandSHeadRun.topDef (OpenLaw.row PySem.Challenge.rw_metricparts_k48_whole_papers_of_cuts).prog 85) (kwd := []) K48.obX_eq
    K48.runHead K48.e_def K48.e_p K48.e_k K48.e_wr (by assumption) K48.e_ok K48.e_bare K48.e_prom ?hc
  case hc =>
    refine L2.walk_ofE (l := PySem.Challenge.rw_metricparts_k48_whole_papers_of_cuts) (n := 63) (k := 12) (x := "_law_script") (CX := L2.CX0) rfl (by decide) K48.e_df ⟨rfl, by decide, by decide⟩ ?F (fun _ _ _ _ z => z)
    intro w mg fa h Y G hmg0
    obtain ⟨K, KX, c⟩ := Y
    have hmg : mg ("law" : PySem.Str) = some (.ref fa) := by
      rw [← K48.e_nm]
      exact hmg0
    obtain ⟨fd, hb, hF⟩ := K48.factsX (P := (PySem.Challenge.rw_metricparts_k48_whole_papers_of_cuts).prog) (w := w) KX G hmg c
    exact ⟨K, fd, K48.spLaw K, KX, hb, fun H a ns hl _ hS => ⟨a, ns, rfl, hS, hl, hM _, fun _ => rfl⟩, hF⟩

set_option maxRecDepth 100000 in
set_option maxHeartbeats 0 in
theorem PySem.Challenge.cw_metricparts_k48_whole_papers_of_cuts_holds : PySem.Challenge.rw_metricparts_k48_whole_papers_of_cuts.Holds := by
  exact K48.holds_of K48.lawOK_all
