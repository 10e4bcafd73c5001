import PyProof.Rows.All
import Wide.All
import OpenK.AllK
import Wide.FinOn
import KE.KStateDown
import HandS.ForMost
import HandS.More
import HandS.Exc
import HandS.Defaults
import HandS.MakeKw
import HandS.Codes
import HandS.IsInst
import HandS.Head0
import HandS.Head1
import HandS.Head2
import HandS.HeadEnd
import HandS.HeadHook1
import HandS.HeadHook2
import HandS.HeadHook3
import HandS.HeadHook4
import HandS.HeadWalk
import PySem.Challenge.RW_resampler_k95_whole_fewer_names_larger_v
import HandS.Evl
import HandS.Wide
import HandS.Deep
import HandS.OwnEq
import HandS.Style
import HandS.TupAny
import HandS.NoneIn
import HandS.DictComp
import HandS.DictTup
import HandS.ListItems
import HandS.Sort
import HandS.Walk
import KE.Datum
import OpenK.KOps
import KE.KDictDisplayH
import KE.KDictItemsList
set_option Elab.async false
set_option linter.all false
set_option maxRecDepth 100000
set_option maxHeartbeats 0
set_option exponentiation.threshold 256
/-! The text by places, the defs as data, the head's facts. Printed by genhead.py. -/
namespace Rs
open PySem L2
def top (i : Nat) : Stmt := PySem.Challenge.pw_resampler_k95_whole_fewer_names_larger_v.main.body.getD i (.Pass ⟨0, 0, 0, 0⟩)
abbrev s_need_integer : Stmt := top 15
abbrev s_greatest_divisor : Stmt := top 16
abbrev s_Ratio_init : Stmt := inClass (top 17) 0
abbrev s_Ratio_num : Stmt := inClass (top 17) 1
abbrev s_Ratio_den : Stmt := inClass (top 17) 2
abbrev s_Ratio_sign : Stmt := inClass (top 17) 3
abbrev s_Ratio_add : Stmt := inClass (top 17) 4
abbrev s_Ratio_subtract : Stmt := inClass (top 17) 5
abbrev s_Ratio_multiply : Stmt := inClass (top 17) 6
abbrev s_Ratio_less_than : Stmt := inClass (top 17) 8
abbrev s_Ratio_eq : Stmt := inClass (top 17) 9
abbrev s_need_ratio : Stmt := top 18
abbrev s_need_ratios : Stmt := top 19
abbrev s_ratio_sum : Stmt := top 20
abbrev s_ratio_product : Stmt := top 21
abbrev s_is_name : Stmt := top 25
abbrev s_independent_tuples : Stmt := top 27
abbrev s_event_sign : Stmt := top 28
abbrev s_is_list : Stmt := top 33
abbrev s_is_known : Stmt := top 34
abbrev s_checked_names : Stmt := top 35
abbrev s_checked_edges : Stmt := top 36
abbrev s_Graph_init : Stmt := inClass (top 37) 0
abbrev s_Graph_names : Stmt := inClass (top 37) 1
abbrev s_Graph_edges : Stmt := inClass (top 37) 2
abbrev s_Graph_need_name : Stmt := inClass (top 37) 3
abbrev s_Graph_are_adjacent : Stmt := inClass (top 37) 4
abbrev s_Graph_neighbors : Stmt := inClass (top 37) 5
abbrev s_Graph_len : Stmt := inClass (top 37) 6
abbrev s_need_graph : Stmt := top 38
abbrev s_are_probabilities : Stmt := top 39
abbrev s_need_probabilities : Stmt := top 40
abbrev s_need_names : Stmt := top 41
abbrev s_independent_name_sets : Stmt := top 42
abbrev s_independence_value : Stmt := top 43
abbrev s_is_order : Stmt := top 44
abbrev s_required_sets : Stmt := top 45
abbrev s_CertificateRows_init : Stmt := inClass (top 46) 0
abbrev s_CertificateRows_value_of : Stmt := inClass (top 46) 1
abbrev s_CertificateRows_prefix : Stmt := inClass (top 46) 2
abbrev s_CertificateRows_rows : Stmt := inClass (top 46) 3
abbrev s_find_certificate : Stmt := top 47
abbrev s_is_row : Stmt := top 48
abbrev s_row_holds : Stmt := top 49
abbrev s_check_certificate : Stmt := top 50
abbrev s_lower_bound : Stmt := top 51
abbrev s__law_cell : Stmt := top 53
abbrev s__law_box : Stmt := top 54
abbrev s__law_take : Stmt := top 55
abbrev s__law_names : Stmt := top 56
abbrev s__law_graph : Stmt := top 57
abbrev s__law_handed : Stmt := top 58
abbrev s__law_divisor : Stmt := top 59
abbrev s__law_reduced : Stmt := top 60
abbrev s__law_shares : Stmt := top 61
abbrev s__law_chain_right : Stmt := top 62
abbrev s__law_smaller_right : Stmt := top 63
abbrev s__law_subset_right : Stmt := top 64
abbrev s_law : Stmt := top 65
abbrev dd (at_ : Str × Option Str) (name qual : Str) (st : Stmt) (dfl : List He.Dv := []) (kwd : List (Str × He.Dv) := []) : He.DefD := ⟨at_, name, qual, defArgs st, defBody st, defScope st, dfl, kwd⟩
def d_need_integer : He.DefD := dd ("need_integer", none) "need_integer" "need_integer" s_need_integer
def d_greatest_divisor : He.DefD := dd ("greatest_divisor", none) "greatest_divisor" "greatest_divisor" s_greatest_divisor
def d_Ratio_init : He.DefD := dd ("Ratio", some "__init__") "__init__" "Ratio.__init__" s_Ratio_init [.int 1] []
def d_Ratio_num : He.DefD := dd ("Ratio", some "num") "num" "Ratio.num" s_Ratio_num
def d_Ratio_den : He.DefD := dd ("Ratio", some "den") "den" "Ratio.den" s_Ratio_den
def d_Ratio_sign : He.DefD := dd ("Ratio", some "sign") "sign" "Ratio.sign" s_Ratio_sign
def d_Ratio_add : He.DefD := dd ("Ratio", some "add") "add" "Ratio.add" s_Ratio_add
def d_Ratio_subtract : He.DefD := dd ("Ratio", some "subtract") "subtract" "Ratio.subtract" s_Ratio_subtract
def d_Ratio_multiply : He.DefD := dd ("Ratio", some "multiply") "multiply" "Ratio.multiply" s_Ratio_multiply
def d_Ratio_less_than : He.DefD := dd ("Ratio", some "less_than") "less_than" "Ratio.less_than" s_Ratio_less_than
def d_Ratio_eq : He.DefD := dd ("Ratio", some "__eq__") "__eq__" "Ratio.__eq__" s_Ratio_eq
def d_need_ratio : He.DefD := dd ("need_ratio", none) "need_ratio" "need_ratio" s_need_ratio
def d_need_ratios : He.DefD := dd ("need_ratios", none) "need_ratios" "need_ratios" s_need_ratios
def d_ratio_sum : He.DefD := dd ("ratio_sum", none) "ratio_sum" "ratio_sum" s_ratio_sum [] [("start", .non)]
def d_ratio_product : He.DefD := dd ("ratio_product", none) "ratio_product" "ratio_product" s_ratio_product
def d_is_name : He.DefD := dd ("is_name", none) "is_name" "is_name" s_is_name
def d_independent_tuples : He.DefD := dd ("independent_tuples", none) "independent_tuples" "independent_tuples" s_independent_tuples
def d_event_sign : He.DefD := dd ("event_sign", none) "event_sign" "event_sign" s_event_sign
def d_is_list : He.DefD := dd ("is_list", none) "is_list" "is_list" s_is_list
def d_is_known : He.DefD := dd ("is_known", none) "is_known" "is_known" s_is_known
def d_checked_names : He.DefD := dd ("checked_names", none) "checked_names" "checked_names" s_checked_names
def d_checked_edges : He.DefD := dd ("checked_edges", none) "checked_edges" "checked_edges" s_checked_edges
def d_Graph_init : He.DefD := dd ("Graph", some "__init__") "__init__" "Graph.__init__" s_Graph_init [.adr (He.dflAt ("Graph", some "__init__") 0)] []
def d_Graph_names : He.DefD := dd ("Graph", some "names") "names" "Graph.names" s_Graph_names
def d_Graph_edges : He.DefD := dd ("Graph", some "edges") "edges" "Graph.edges" s_Graph_edges
def d_Graph_need_name : He.DefD := dd ("Graph", some "need_name") "need_name" "Graph.need_name" s_Graph_need_name
def d_Graph_are_adjacent : He.DefD := dd ("Graph", some "are_adjacent") "are_adjacent" "Graph.are_adjacent" s_Graph_are_adjacent
def d_Graph_neighbors : He.DefD := dd ("Graph", some "neighbors") "neighbors" "Graph.neighbors" s_Graph_neighbors
def d_Graph_len : He.DefD := dd ("Graph", some "__len__") "__len__" "Graph.__len__" s_Graph_len
def d_need_graph : He.DefD := dd ("need_graph", none) "need_graph" "need_graph" s_need_graph
def d_are_probabilities : He.DefD := dd ("are_probabilities", none) "are_probabilities" "are_probabilities" s_are_probabilities
def d_need_probabilities : He.DefD := dd ("need_probabilities", none) "need_probabilities" "need_probabilities" s_need_probabilities
def d_need_names : He.DefD := dd ("need_names", none) "need_names" "need_names" s_need_names
def d_independent_name_sets : He.DefD := dd ("independent_name_sets", none) "independent_name_sets" "independent_name_sets" s_independent_name_sets
def d_independence_value : He.DefD := dd ("independence_value", none) "independence_value" "independence_value" s_independence_value [] [("subset", .non)]
def d_is_order : He.DefD := dd ("is_order", none) "is_order" "is_order" s_is_order
def d_required_sets : He.DefD := dd ("required_sets", none) "required_sets" "required_sets" s_required_sets
def d_CertificateRows_init : He.DefD := dd ("CertificateRows", some "__init__") "__init__" "CertificateRows.__init__" s_CertificateRows_init
def d_CertificateRows_value_of : He.DefD := dd ("CertificateRows", some "value_of") "value_of" "CertificateRows.value_of" s_CertificateRows_value_of
def d_CertificateRows_prefix : He.DefD := dd ("CertificateRows", some "prefix") "prefix" "CertificateRows.prefix" s_CertificateRows_prefix
def d_CertificateRows_rows : He.DefD := dd ("CertificateRows", some "rows") "rows" "CertificateRows.rows" s_CertificateRows_rows
def d_find_certificate : He.DefD := dd ("find_certificate", none) "find_certificate" "find_certificate" s_find_certificate [] [("order", .non)]
def d_is_row : He.DefD := dd ("is_row", none) "is_row" "is_row" s_is_row
def d_row_holds : He.DefD := dd ("row_holds", none) "row_holds" "row_holds" s_row_holds
def d_check_certificate : He.DefD := dd ("check_certificate", none) "check_certificate" "check_certificate" s_check_certificate
def d_lower_bound : He.DefD := dd ("lower_bound", none) "lower_bound" "lower_bound" s_lower_bound
def d__law_cell : He.DefD := dd ("_law_cell", none) "_law_cell" "_law_cell" s__law_cell
def d__law_box : He.DefD := dd ("_law_box", none) "_law_box" "_law_box" s__law_box
def d__law_take : He.DefD := dd ("_law_take", none) "_law_take" "_law_take" s__law_take
def d__law_names : He.DefD := dd ("_law_names", none) "_law_names" "_law_names" s__law_names
def d__law_graph : He.DefD := dd ("_law_graph", none) "_law_graph" "_law_graph" s__law_graph
def d__law_handed : He.DefD := dd ("_law_handed", none) "_law_handed" "_law_handed" s__law_handed
def d__law_divisor : He.DefD := dd ("_law_divisor", none) "_law_divisor" "_law_divisor" s__law_divisor
def d__law_reduced : He.DefD := dd ("_law_reduced", none) "_law_reduced" "_law_reduced" s__law_reduced
def d__law_shares : He.DefD := dd ("_law_shares", none) "_law_shares" "_law_shares" s__law_shares
def d__law_chain_right : He.DefD := dd ("_law_chain_right", none) "_law_chain_right" "_law_chain_right" s__law_chain_right
def d__law_smaller_right : He.DefD := dd ("_law_smaller_right", none) "_law_smaller_right" "_law_smaller_right" s__law_smaller_right
def d__law_subset_right : He.DefD := dd ("_law_subset_right", none) "_law_subset_right" "_law_subset_right" s__law_subset_right
def d_law : He.DefD := dd ("law", none) "law" "law" s_law
def fn0 : List He.DefD := [d_need_integer, d_greatest_divisor, d_Ratio_init, d_Ratio_num, d_Ratio_den, d_Ratio_sign, d_Ratio_add, d_Ratio_subtract, d_Ratio_multiply, d_Ratio_less_than, d_Ratio_eq, d_need_ratio, d_need_ratios, d_ratio_sum, d_ratio_product, d_is_name, d_independent_tuples, d_event_sign, d_is_list, d_is_known]
def fn1 : List He.DefD := [d_checked_names, d_checked_edges, d_Graph_init, d_Graph_names, d_Graph_edges, d_Graph_need_name, d_Graph_are_adjacent, d_Graph_neighbors, d_Graph_len, d_need_graph, d_are_probabilities, d_need_probabilities, d_need_names, d_independent_name_sets, d_independence_value, d_is_order, d_required_sets, d_CertificateRows_init, d_CertificateRows_value_of, d_CertificateRows_prefix]
def fn2 : List He.DefD := [d_CertificateRows_rows, d_find_certificate, d_is_row, d_row_holds, d_check_certificate, d_lower_bound, d__law_cell, d__law_box, d__law_take, d__law_names, d__law_graph, d__law_handed, d__law_divisor, d__law_reduced, d__law_shares, d__law_chain_right, d__law_smaller_right, d__law_subset_right, d_law]
def fn : List He.DefD := fn0 ++ (fn1 ++ (fn2))
def fa0 : List He.Fa := [.glo "need_integer", .glo "greatest_divisor", .glo "need_ratio", .glo "need_ratios", .glo "ratio_sum", .glo "ratio_product", .glo "is_name", .glo "independent_tuples", .glo "event_sign", .glo "is_list", .glo "is_known", .glo "checked_names", .glo "checked_edges", .glo "need_graph", .glo "are_probabilities", .glo "need_probabilities", .glo "need_names", .glo "independent_name_sets", .glo "independence_value", .glo "is_order"]
def fa1 : List He.Fa := [.glo "required_sets", .glo "find_certificate", .glo "is_row", .glo "row_holds", .glo "check_certificate", .glo "lower_bound", .glo "_law_cell", .glo "_law_box", .glo "_law_take", .glo "_law_names", .glo "_law_graph", .glo "_law_handed", .glo "_law_divisor", .glo "_law_reduced", .glo "_law_shares", .glo "_law_chain_right", .glo "_law_smaller_right", .glo "_law_subset_right", .glo "law", .glo "Ratio"]
def fa2 : List He.Fa := [.glo "Graph", .glo "CertificateRows", .free "isinstance", .free "bool", .free "int", .free "abs", .free "str", .free "len", .free "list", .free "tuple", .free "dict", .free "all", .free "any", .free "sorted", .free "enumerate", .free "range", .free "zip", .free "max", .free "min", .int "LONGEST_NAME" 8]
def fa3 : List He.Fa := [.int "MAX_NAMES" 8, .str "LETTERS" "abcdefghijklmnopqrstuvwxyz", .str "POSITIVE" "positive", .str "NOT_POSITIVE" "not_positive", .cls "Ratio", .mkr "Ratio", .noat "Ratio" "ratio_num", .noat "Ratio" "ratio_den", .cls "Graph", .mkr "Graph", .noat "Graph" "graph_names", .noat "Graph" "graph_edges", .cls "CertificateRows", .mkr "CertificateRows", .noat "CertificateRows" "of_graph", .noat "CertificateRows" "of_probabilities", .noat "CertificateRows" "of_order", .noat "CertificateRows" "known_values", .meth "Ratio" "num", .meth "Ratio" "den"]
def fa4 : List He.Fa := [.meth "Ratio" "sign", .meth "Ratio" "add", .meth "Ratio" "subtract", .meth "Ratio" "multiply", .meth "Ratio" "less_than", .meth "Ratio" "__eq__", .meth "Graph" "names", .meth "Graph" "edges", .meth "Graph" "need_name", .meth "Graph" "are_adjacent", .meth "Graph" "neighbors", .meth "Graph" "__len__", .meth "CertificateRows" "value_of", .meth "CertificateRows" "prefix", .meth "CertificateRows" "rows"]
def fa : List He.Fa := fa0 ++ (fa1 ++ (fa2 ++ (fa3 ++ (fa4))))
/-- what isinstance asks of an own class -/
def insB (K : PySem.W.Frag) (x : Str) : Bool := He.eqO (PySem.W.findIn K (.ref (He.ga K x)) "__class__") (some (some (.builtin "object.__class__"))) && (He.eqO (PySem.W.specialIn K (.builtin "object.__class__") "__get__") (some (some (.builtin "getset_descriptor.__get__"))) &&
  (decide (PySem.W.takesIn K (.builtin "object.__class__") = some true) && (decide (PySem.W.mroIn K (He.ga K x) (.type "object") = some true) && decide (PySem.W.kitOne K (.ref (He.ga K x)) (.ref (He.ga K x)) = some true))))
def exB (K : PySem.W.Frag) : Bool := insB K "Ratio" && insB K "Graph"
abbrev R : PySem.W.OpenRow := PySem.W.OpenLaw.row PySem.Challenge.rw_resampler_k95_whole_fewer_names_larger_v
abbrev hk : PySem.W.Hook := He.hookX 4 fa fn [] [] exB
def ob (s : PySem.W.SharedT) : He.AlX := He.obsX 4 fa fn [] [] exB (HandSHeadRun.getT s)
theorem ob_eq (s : PySem.W.SharedT) : ob s = hk.obs s.abs := He.obsX_eq (HandSHeadRun.getT_eq s)
def loose0 : List Str := ["_wall", "__name__", "ResampleError", "MissingError", "InvalidName", "InvalidInteger", "InvalidRatio", "InvalidGraph", "InvalidProbabilities", "InvalidNames", "InvalidOrder", "InvalidCertificate", "DuplicateName", "UnknownName", "need_integer", "greatest_divisor", "Ratio", "need_ratio", "need_ratios", "ratio_sum", "ratio_product", "LETTERS", "LONGEST_NAME", "is_name", "independent_tuples", "event_sign", "MAX_NAMES", "POSITIVE", "NOT_POSITIVE", "is_list"]
def loose1 : List Str := ["is_known", "checked_names", "checked_edges", "Graph", "need_graph", "are_probabilities", "need_probabilities", "need_names", "independent_name_sets", "independence_value", "is_order", "required_sets", "CertificateRows", "find_certificate", "is_row", "row_holds", "check_certificate", "lower_bound", "_law_cell", "_law_box", "_law_take", "_law_names", "_law_graph", "_law_handed", "_law_divisor", "_law_reduced", "_law_shares", "_law_chain_right", "_law_smaller_right", "_law_subset_right"]
def loose : List Str := loose0 ++ loose1
end Rs
/-! The independence polynomial: plain mathematics, no program in sight. -/
namespace Rs
section
variable {α : Type} (adj : α → α → Bool) (p : α → Rat)
/-- the names that are not adjacent to a -/
abbrev far (a : α) (L : List α) : List α := L.filter fun b => !adj b a
/-- the independence value of a list of names -/
def q : List α → Rat
  | [] => 1
  | a :: L => q L - p a * q (far adj a L)
termination_by L => L.length
decreasing_by
  · simp
  · simp only [List.length_cons]; exact Nat.lt_succ_of_le (by simpa using List.length_filter_le (fun x : {x // x ∈ L} => !adj x.val a) L.attach)
theorem q_nil : q adj p [] = 1 := by rw [q]
theorem q_cons (a : α) (L : List α) : q adj p (a :: L) = q adj p L - p a * q adj p (far adj a L) := by rw [q]
end

section
variable {α : Type} {adj : α → α → Bool} {p : α → Rat}
theorem q_perm_aux (sym : ∀ a b, adj a b = adj b a) : ∀ (n : Nat) (L M : List α), L.length ≤ n → L.Perm M → q adj p L = q adj p M := by
  intro n
  induction n with
  | zero =>
    intro L M hl hp
    have h0 : L = [] := List.length_eq_zero_iff.mp (Nat.le_zero.mp hl)
    subst h0
    have h1 : M = [] := hp.nil_eq.symm
    rw [h1]
  | succ n ih =>
    intro L M hl hp
    induction hp with
    | nil => rfl
    | cons a hp _ =>
      rename_i L1 L2 _
      have h1 : L1.length ≤ n := by simpa using hl
      rw [q_cons, q_cons, ih L1 L2 h1 hp, ih _ _ (Nat.le_trans (List.length_filter_le _ _) h1) (hp.filter _)]
    | swap a b L =>
      have h1 : L.length + 1 ≤ n := by simpa using hl
      rw [q_cons, q_cons, q_cons, q_cons]
      by_cases hab : adj a b = true
      · have hba : adj b a = true := by rw [sym]; exact hab
        have e1 : far adj b (a :: L) = far adj b L := by simp [far, hab]
        have e2 : far adj a (b :: L) = far adj a L := by simp [far, hba]
        rw [e1, e2]
        grind
      · have hab' : adj a b = false := by simpa using hab
        have hba : adj b a = false := by rw [sym]; exact hab'
        have e1 : far adj b (a :: L) = a :: far adj b L := by simp [far, hab']
        have e2 : far adj a (b :: L) = b :: far adj a L := by simp [far, hba]
        have e3 : far adj b (far adj a L) = far adj a (far adj b L) := by
          simp only [far, List.filter_filter]
          congr 1
          funext c
          rw [Bool.and_comm]
        rw [e1, e2, q_cons, q_cons, e3]
        grind
    | trans h1 h2 i1 i2 =>
      rw [i1 hl, i2 (by rw [← h1.length_eq]; exact hl)]
theorem q_perm (sym : ∀ a b, adj a b = adj b a) {L M : List α} (h : L.Perm M) : q adj p L = q adj p M := q_perm_aux sym L.length L M (Nat.le_refl _) h

/-- all sublists have a positive value -/
def Pos (adj : α → α → Bool) (p : α → Rat) (S : List α) : Prop := ∀ T, List.Sublist T S → 0 < q adj p T
theorem Pos.sub {S T : List α} (h : Pos adj p S) (s : List.Sublist T S) : Pos adj p T := fun U u => h U (u.trans s)
theorem Pos.perm (sym : ∀ a b, adj a b = adj b a) {S T : List α} (h : Pos adj p S) (s : S.Perm T) : Pos adj p T := fun U u => by
  obtain ⟨U', e, u'⟩ := List.exists_perm_sublist u s.symm
  rw [← q_perm sym e]
  exact h U' u'
theorem Pos.pos {S : List α} (h : Pos adj p S) : 0 < q adj p S := h S (List.Sublist.refl S)

theorem mul_cancel {x y : Rat} (k : Rat) (hk : 0 < k) (h : k * x ≤ k * y) : x ≤ y := Rat.le_of_mul_le_mul_left h hk
theorem q_le_tail {a : α} {L : List α} (h : Pos adj p (a :: L)) (hp : 0 ≤ p a) : q adj p (a :: L) ≤ q adj p L := by
  rw [q_cons]
  have h1 : 0 < q adj p (far adj a L) := h _ ((List.filter_sublist (p := fun b => !adj b a)).trans (List.sublist_cons_self a L))
  have h2 := Rat.mul_nonneg hp (Rat.le_of_lt h1)
  grind

/-- the key: removing the names outside f costs the larger set more -/
theorem key (sym : ∀ a b, adj a b = adj b a) : ∀ (n : Nat) (Y : List α), Y.length = n → Pos adj p Y → (∀ a ∈ Y, 0 ≤ p a) → ∀ (X : List α), List.Sublist X Y → ∀ f : α → Bool,
    q adj p Y * q adj p (X.filter f) ≤ q adj p (Y.filter f) * q adj p X := by
  intro n
  induction n with
  | zero =>
    intro Y hn _ _ X hX f
    have h0 : Y = [] := List.length_eq_zero_iff.mp hn
    subst h0
    have h1 : X = [] := List.sublist_nil.mp hX
    subst h1
    exact Rat.le_refl
  | succ n ih =>
    intro Y hn pos hp X hX f
    by_cases hall : ∀ a ∈ Y, f a = true
    · rw [List.filter_eq_self.mpr hall, List.filter_eq_self.mpr fun a ha => hall a (hX.subset ha)]
      exact Rat.le_refl
    · obtain ⟨c, hc⟩ := Classical.not_forall.mp hall
      obtain ⟨hcY, hfc⟩ := Classical.not_imp.mp hc
      have hfc' : f c = false := by simpa using hfc
      obtain ⟨Y1, Y2, rfl⟩ := List.append_of_mem hcY
      have pY : (Y1 ++ c :: Y2).Perm (c :: (Y1 ++ Y2)) := List.perm_middle
      generalize hY' : Y1 ++ Y2 = Y' at pY
      have lY' : Y'.length = n := by
        have := pY.length_eq
        simp only [List.length_cons] at this
        omega
      have posc : Pos adj p (c :: Y') := pos.perm sym pY
      have posY' : Pos adj p Y' := posc.sub (List.sublist_cons_self c Y')
      have hpc : 0 ≤ p c := hp c hcY
      have hp' : ∀ a ∈ Y', 0 ≤ p a := fun a ha => hp a (pY.symm.subset (List.mem_cons_of_mem c ha))
      obtain ⟨X1, eX1, sX1⟩ := List.exists_perm_sublist hX pY
      rw [← q_perm sym eX1, q_perm sym pY, ← q_perm sym (eX1.filter f), q_perm sym (pY.filter f)]
      have fY : (c :: Y').filter f = Y'.filter f := by simp [hfc']
      rw [fY]
      cases sX1 with
      | cons _ s =>
        have k1 := ih Y' lY' posY' hp' X1 s f
        have k2 := q_le_tail posc hpc
        have k3 : 0 < q adj p (X1.filter f) := posY' _ (List.filter_sublist.trans s)
        have k4 := Rat.mul_le_mul_of_nonneg_right k2 (Rat.le_of_lt k3)
        exact Rat.le_trans k4 k1
      | cons_cons _ s =>
        rename_i X'
        have fX : (c :: X').filter f = X'.filter f := by simp [hfc']
        rw [fX]
        have k1 := ih Y' lY' posY' hp' X' s f
        have k2 := ih Y' lY' posY' hp' X' s (fun b => !adj b c)
        have pX' : 0 < q adj p X' := posY' _ s
        have pYp : 0 < q adj p Y' := posY'.pos
        have pXf : 0 < q adj p (X'.filter f) := posY' _ (List.filter_sublist.trans s)
        have pcX : 0 < q adj p (c :: X') := posc _ (s.cons_cons c)
        -- q (c::Y') * q X' ≤ q (c::X') * q Y'
        have k3 : q adj p (c :: Y') * q adj p X' ≤ q adj p (c :: X') * q adj p Y' := by
          rw [q_cons, q_cons]
          have := Rat.mul_le_mul_of_nonneg_left k2 hpc
          grind
        have m1 := Rat.mul_le_mul_of_nonneg_right k3 (Rat.le_of_lt pXf)
        have m2 := Rat.mul_le_mul_of_nonneg_left k1 (Rat.le_of_lt pcX)
        refine mul_cancel (q adj p X') pX' ?_
        grind

/-- one more name keeps all sublists positive -/
theorem Pos.cons (sym : ∀ a b, adj a b = adj b a) {a : α} {S : List α} (h : Pos adj p S) (hp : ∀ b ∈ a :: S, 0 ≤ p b) (ha : 0 < q adj p (a :: S)) : Pos adj p (a :: S) := by
  intro T s
  cases s with
  | cons _ s => exact h T s
  | cons_cons _ s =>
    rename_i T'
    have k := key sym S.length S rfl h (fun b hb => hp b (List.mem_cons_of_mem a hb)) T' s (fun b => !adj b a)
    have hpa : 0 ≤ p a := hp a (List.mem_cons_self)
    rw [q_cons] at ha ⊢
    have pS : 0 < q adj p S := h.pos
    have pT : 0 < q adj p T' := h T' s
    have k1 := Rat.mul_le_mul_of_nonneg_left k hpa
    have k2 := Rat.mul_lt_mul_of_pos_right ha pT
    have k3 : 0 < q adj p S * (q adj p T' - p a * q adj p (far adj a T')) := by
      have e : far adj a T' = T'.filter (fun b => !adj b a) := rfl
      rw [e]
      have e2 : far adj a S = S.filter (fun b => !adj b a) := rfl
      rw [e2] at k2
      grind
    exact (Rat.mul_pos_iff_of_pos_left pS).mp k3

theorem Pos.nil : Pos adj p [] := fun T s => by
  rw [List.sublist_nil.mp s, q_nil]
  decide
/-- all prefixes positive: all sublists positive -/
theorem pos_prefixes (sym : ∀ a b, adj a b = adj b a) (L : List α) (hp : ∀ b ∈ L, 0 ≤ p b) (h : ∀ k, k < L.length → 0 < q adj p (L.take (k + 1))) : Pos adj p L := by
  have main : ∀ k, k ≤ L.length → Pos adj p (L.take k) := by
    intro k
    induction k with
    | zero => intro _; rw [List.take_zero]; exact Pos.nil
    | succ k ih =>
      intro hk
      have h1 := ih (by omega)
      have h2 := h k (by omega)
      have e : L.take (k + 1) = L.take k ++ [L[k]] := by rw [List.take_succ_eq_append_getElem (by omega)]
      have pm : (L.take (k + 1)).Perm (L[k] :: L.take k) := by
        rw [e]
        exact List.perm_append_comm
      rw [q_perm sym pm] at h2
      refine (Pos.cons sym h1 (fun b hb => hp b ?_) h2).perm sym pm.symm
      exact List.mem_of_mem_take (pm.symm.subset hb)
  have := main L.length (Nat.le_refl _)
  rwa [List.take_length] at this

theorem perm_erase {S : List α} {i : Nat} (hi : i < S.length) : S.Perm (S[i] :: S.eraseIdx i) := by
  induction S generalizing i with
  | nil => simp at hi
  | cons a S ih =>
    cases i with
    | zero => exact List.Perm.refl _
    | succ i =>
      have hi' : i < S.length := by simpa using hi
      exact ((ih hi').cons a).trans (List.Perm.swap _ _ _)
/-- leaving out a name does not decrease the value -/
theorem q_drop_le (sym : ∀ a b, adj a b = adj b a) {S : List α} (h : Pos adj p S) (hp : ∀ b ∈ S, 0 ≤ p b) (i : Nat) (hi : i < S.length) : q adj p S ≤ q adj p (S.eraseIdx i) := by
  have pm : S.Perm (S[i] :: S.eraseIdx i) := (perm_erase hi)
  rw [q_perm sym pm]
  exact q_le_tail (h.perm sym pm) (hp _ (List.getElem_mem hi))

/-- the value depends on what stands at the names alone -/
theorem q_congr {adj' : α → α → Bool} {p' : α → Rat} : ∀ (n : Nat) (L : List α), L.length ≤ n → (∀ a ∈ L, ∀ b ∈ L, adj a b = adj' a b) → (∀ a ∈ L, p a = p' a) → q adj p L = q adj' p' L := by
  intro n
  induction n with
  | zero =>
    intro L hl _ _
    rw [List.length_eq_zero_iff.mp (Nat.le_zero.mp hl), q_nil, q_nil]
  | succ n ih =>
    intro L hl ha hp
    cases L with
    | nil => rw [q_nil, q_nil]
    | cons a L =>
      have h1 : L.length ≤ n := by simpa using hl
      have e : far adj a L = far adj' a L := List.filter_congr fun b hb => by rw [ha b (List.mem_cons_of_mem a hb) a List.mem_cons_self]
      rw [q_cons, q_cons, hp a List.mem_cons_self, e, ih L h1 (fun b hb c hc => ha b (List.mem_cons_of_mem a hb) c (List.mem_cons_of_mem a hc)) (fun b hb => hp b (List.mem_cons_of_mem a hb))]
      rw [ih (far adj' a L) (Nat.le_trans (List.length_filter_le _ _) h1) (fun b hb c hc => ha b (List.mem_cons_of_mem a (List.mem_filter.mp hb).1) c (List.mem_cons_of_mem a (List.mem_filter.mp hc).1)) (fun b hb => hp b (List.mem_cons_of_mem a (List.mem_filter.mp hb).1))]

/-- one probability made smaller: every value of a list without doubles that has the name grows or stays -/
theorem smaller (sym : ∀ a b, adj a b = adj b a) {p' : α → Rat} {c : α} (hc : p' c ≤ p c) (ho : ∀ b, b ≠ c → p' b = p b) {S : List α} (nd : S.Nodup) (h : Pos adj p S) : q adj p S ≤ q adj p' S := by
  by_cases hm : c ∈ S
  · obtain ⟨S1, S2, rfl⟩ := List.append_of_mem hm
    have pm : (S1 ++ c :: S2).Perm (c :: (S1 ++ S2)) := List.perm_middle
    have nd2 : (c :: (S1 ++ S2)).Nodup := pm.nodup_iff.mp nd
    have hn : c ∉ S1 ++ S2 := (List.nodup_cons.mp nd2).1
    have h2 := h.perm sym pm
    rw [q_perm sym pm, q_perm sym pm, q_cons, q_cons]
    generalize S1 ++ S2 = L at *
    have e1 : q adj p' L = q adj p L := q_congr L.length L (Nat.le_refl _) (fun _ _ _ _ => rfl) fun a ha => ho a fun e => hn (e ▸ ha)
    have e2 : q adj p' (far adj c L) = q adj p (far adj c L) := q_congr _ _ (Nat.le_refl _) (fun _ _ _ _ => rfl) fun a ha => ho a fun e => hn (e ▸ (List.mem_filter.mp ha).1)
    rw [e1, e2]
    have h3 : 0 < q adj p (far adj c L) := h2 _ (List.filter_sublist.trans (List.sublist_cons_self c L))
    have := Rat.mul_le_mul_of_nonneg_right hc (Rat.le_of_lt h3)
    grind
  · rw [q_congr S.length S (Nat.le_refl _) (fun _ _ _ _ => rfl) fun a ha => (ho a fun e => hm (e ▸ ha)).symm]
    exact Rat.le_refl
theorem smaller_pos (sym : ∀ a b, adj a b = adj b a) {p' : α → Rat} {c : α} (hc : p' c ≤ p c) (ho : ∀ b, b ≠ c → p' b = p b) {S : List α} (nd : S.Nodup) (h : Pos adj p S) : Pos adj p' S := fun T s => by
  have := smaller sym hc ho (nd.sublist s) (h.sub s)
  have h2 := h T s
  grind
end
end Rs
/-! What evaluates to what, told by properties that stay. -/
namespace Rs
open PySem PySem.Spec PyProof.Rows L2 Evl
/-- what is true of a value in a heap, and stays -/
structure Pr where
  p : V → Hp → Prop
  up : ∀ {v : V} {H H' : Hp}, Ex H H' → p v H → p v H'
def Is (x : V) : Pr := ⟨fun v _ => v = x, fun _ h => h⟩
def Any : Pr := ⟨fun _ _ => True, fun _ h => h⟩
def AllP : List Pr → List V → Hp → Prop
  | [], [], _ => True
  | P :: Ps, v :: vs, H => P.p v H ∧ AllP Ps vs H
  | _, _, _ => False
theorem AllP.up : ∀ {Ps : List Pr} {vs : List V} {H H' : Hp}, Ex H H' → AllP Ps vs H → AllP Ps vs H'
  | [], [], _, _, _, _ => trivial
  | P :: _, _ :: _, _, _, e, h => ⟨P.up e h.1, AllP.up e h.2⟩
  | [], _ :: _, _, _, _, h => h.elim
  | _ :: _, [], _, _, _, h => h.elim
theorem AllP.len : ∀ {Ps : List Pr} {vs : List V} {H : Hp}, AllP Ps vs H → vs.length = Ps.length
  | [], [], _, _ => rfl
  | _ :: _, _ :: _, _, h => congrArg Nat.succ (AllP.len h.2)
  | [], _ :: _, _, h => h.elim
  | _ :: _, [], _, h => h.elim
theorem AllP.get : ∀ {Ps : List Pr} {vs : List V} {H : Hp} {i : Nat} {v : V}, AllP Ps vs H → vs[i]? = some v → ∃ P, Ps[i]? = some P ∧ P.p v H
  | [], [], _, _, _, _, e => by simp at e
  | P :: _, _ :: _, _, 0, _, h, e => ⟨P, rfl, by simp at e; rw [← e]; exact h.1⟩
  | _ :: Ps, _ :: vs, _, i + 1, v, h, e => by
    obtain ⟨P, h1, h2⟩ := AllP.get (i := i) (v := v) h.2 (by simpa using e)
    exact ⟨P, by simpa using h1, h2⟩
  | [], _ :: _, _, _, _, h, _ => h.elim
  | _ :: _, [], _, _, _, h, _ => h.elim
theorem AllP.append : ∀ {Ps Qs : List Pr} {vs us : List V} {H : Hp}, AllP Ps vs H → AllP Qs us H → AllP (Ps ++ Qs) (vs ++ us) H
  | [], _, [], _, _, _, k => k
  | _ :: _, _, _ :: _, _, _, h, k => ⟨h.1, AllP.append h.2 k⟩
  | [], _, _ :: _, _, _, h, _ => h.elim
  | _ :: _, _, [], _, _, h, _ => h.elim
theorem all1 {P1 : Pr} {vs : List V} {H : Hp} (h : AllP [P1] vs H) : ∃ x, vs = [x] ∧ P1.p x H := match vs, h with
  | [x], h => ⟨x, rfl, h.1⟩
theorem all2 {P1 P2 : Pr} {vs : List V} {H : Hp} (h : AllP [P1, P2] vs H) : ∃ x y, vs = [x, y] ∧ P1.p x H ∧ P2.p y H := match vs, h with
  | [x, y], h => ⟨x, y, rfl, h.1, h.2.1⟩
theorem all3 {P1 P2 P3 : Pr} {vs : List V} {H : Hp} (h : AllP [P1, P2, P3] vs H) : ∃ x y z, vs = [x, y, z] ∧ P1.p x H ∧ P2.p y H ∧ P3.p z H := match vs, h with
  | [x, y, z], h => ⟨x, y, z, rfl, h.1, h.2.1, h.2.2.1⟩
theorem all4 {P1 P2 P3 P4 : Pr} {vs : List V} {H : Hp} (h : AllP [P1, P2, P3, P4] vs H) : ∃ x y z u, vs = [x, y, z, u] ∧ P1.p x H ∧ P2.p y H ∧ P3.p z H ∧ P4.p u H := match vs, h with
  | [x, y, z, u], h => ⟨x, y, z, u, rfl, h.1, h.2.1, h.2.2.1, h.2.2.2.1⟩
theorem all5 {P1 P2 P3 P4 P5 : Pr} {vs : List V} {H : Hp} (h : AllP [P1, P2, P3, P4, P5] vs H) : ∃ x y z u v, vs = [x, y, z, u, v] ∧ P1.p x H ∧ P2.p y H ∧ P3.p z H ∧ P4.p u H ∧ P5.p v H := match vs, h with
  | [x, y, z, u, v], h => ⟨x, y, z, u, v, rfl, h.1, h.2.1, h.2.2.1, h.2.2.2.1, h.2.2.2.2.1⟩
theorem AllP.one {P : Pr} {v : V} {H : Hp} (h : P.p v H) : AllP [P] [v] H := ⟨h, trivial⟩

def EvP (te : TE) (σ : L2.St) (H : Hp) (P : Pr) : Prop := ∀ H1, Ex H H1 → ∀ Q : VK, (∀ v H2, Ex H1 H2 → P.p v H2 → Q v H2) → te σ H1 Q
def EvAP (ta : TA) (σ : L2.St) (H : Hp) (Ps : List Pr) : Prop := ∀ H1, Ex H H1 → ∀ Q : List V → Hp → Prop, (∀ vs H2, Ex H1 H2 → AllP Ps vs H2 → Q vs H2) → ta σ H1 Q
section
variable {K : PySem.W.Frag} {σ : L2.St} {H H' : Hp} {ta tb te tx : TE} {t u : TT} {x y z v : V} {r : R2} {P P' : Pr} {Ps : List Pr}
theorem EvP.up (e : Ex H H') (h : EvP te σ H P) : EvP te σ H' P := fun H1 a Q q => h H1 (e.trans a) Q q
theorem Ev.up (e : Ex H H') (h : Ev te σ H v) : Ev te σ H' v := fun H1 a Q q => h H1 (e.trans a) Q q
theorem ep (h : Ev te σ H v) : EvP te σ H (Is v) := fun H1 e Q q => h H1 e Q fun H2 e2 => q v H2 e2 rfl
theorem ev (h : EvP te σ H (Is v)) : Ev te σ H v := fun H1 e Q q => h H1 e Q fun w H2 e2 hw => by
  have hw : w = v := hw
  rw [hw]
  exact q H2 e2
theorem ep_to (h : EvP te σ H P) (k : ∀ w H1, Ex H H1 → P.p w H1 → P'.p w H1) : EvP te σ H P' := fun H1 e Q q => h H1 e Q fun w H2 e2 hw => q w H2 e2 (k w H2 (e.trans e2) hw)
theorem ep_var {i : Nat} (h : σ[i]? = some (some v)) (hp : P.p v H) : EvP (tVar i) σ H P := fun H1 e _ q => ⟨v, h, q v H1 (Ex.refl H1) (P.up e hp)⟩
theorem ep_v (h : Ev te σ H v) (hp : P.p v H) : EvP te σ H P := fun H1 e Q q => h H1 e Q fun H2 e2 => q v H2 e2 (P.up (e.trans e2) hp)
theorem eap_nil : EvAP tNil σ H [] := fun H1 _ _ q => q [] H1 (Ex.refl H1) trivial
theorem eap_cons {tr : TA} (h : EvP te σ H P) (hr : EvAP tr σ H Ps) : EvAP (tCons te tr) σ H (P :: Ps) := fun H1 e _ q =>
  h H1 e _ fun w H2 e2 hw => hr H2 (e.trans e2) _ fun ws H3 e3 hs => q (w :: ws) H3 (e2.trans e3) ⟨P.up e3 hw, hs⟩
/-- a def that changes nothing that stands: what it asks of its arguments, what it gives -/
def Fn (R : List Pr → Pr → Prop) : Sp := fun vs H Q _ => ∃ Ps P, R Ps P ∧ AllP Ps vs H ∧ ∀ v H', Ex H H' → P.p v H' → Q v H'
theorem ep_call {R : List Pr → Pr → Prop} {E : XK} {ta : TA} (h : EvAP ta σ H Ps) (hr : R Ps P) : EvP (tCall (Fn R) [] E ta) σ H P := fun H1 e Q q =>
  h H1 e _ fun vs H2 e2 hs => ⟨Ps, P, hr, by rw [List.append_nil]; exact hs, fun w H3 e3 hw => q w H3 (e2.trans e3) hw⟩
/-- with defaults -/
theorem ep_callD {R : List Pr → Pr → Prop} {Ds : List Pr} {dvs : List V} {E : XK} {ta : TA} (h : EvAP ta σ H Ps) (hd : ∀ H, AllP Ds dvs H) (hr : R (Ps ++ Ds) P) : EvP (tCall (Fn R) dvs E ta) σ H P := fun H1 e Q q =>
  h H1 e _ fun vs H2 e2 hs => ⟨Ps ++ Ds, P, hr, hs.append (hd H2), fun w H3 e3 hw => q w H3 (e2.trans e3) hw⟩
/-- an instance of the class at C with these attributes -/
def InsP (C : Addr) (fs : List (Str × V)) : Pr := ⟨fun v H => ∃ a dx, v = .ref a ∧ H a = some (.ins C dx fs), fun e h => by
  obtain ⟨a, dx, h1, h2⟩ := h
  exact ⟨a, dx, h1, e _ _ h2⟩⟩
theorem ep_meth {R : List Pr → Pr → Prop} {C : Addr} {m : Str} {P0 : Pr} {E : XK} {tl : TA} (ho : EvP ta σ H P0) (hi : ∀ w H1, P0.p w H1 → ∃ a dx fs, w = .ref a ∧ H1 a = some (.ins C dx fs) ∧ fs.lookup m = none) (h : EvAP tl σ H Ps) (hr : R (P0 :: Ps) P) :
    EvP (tMeth C m (Fn R) [] E ta tl) σ H P := fun H1 e Q q =>
  ho H1 e _ fun w H2 e2 hw => by
    obtain ⟨a, dx, fs, rfl, h1, h2⟩ := hi w H2 hw
    exact ⟨a, dx, fs, rfl, h1, h2, h H2 (e.trans e2) _ fun vs H3 e3 hs => ⟨P0 :: Ps, P, hr, ⟨P0.up e3 hw, by rw [List.append_nil]; exact hs⟩, fun w2 H4 e4 hw2 => q w2 H4 ((e2.trans e3).trans e4) hw2⟩⟩
theorem ep_if {b : Bool} (h : EvT t σ H b) (h1 : b = true → EvP ta σ H P) (h2 : b = false → EvP tb σ H P) : EvP (tIf t ta tb) σ H P := fun H1 e Q q => h H1 e _ fun H2 e2 => by
  cases b with
  | true =>
    show ta σ H2 Q
    exact h1 rfl H2 (e.trans e2) Q fun w H3 e3 => q w H3 (e2.trans e3)
  | false =>
    show tb σ H2 Q
    exact h2 rfl H2 (e.trans e2) Q fun w H3 e3 => q w H3 (e2.trans e3)
/-- a test that is a value -/
theorem et_p {b : Bool} (h : EvP te σ H (Is (.bl b))) : EvT (tTest te) σ H b := et_test (ev h)
theorem ev_fld {a C dx : Addr} {fs : List (Str × V)} {f : Str} (h : Ev ta σ H (.ref a)) (ho : H a = some (.ins C dx fs)) (hc : Cls K C) (hn : NoAttr K C f) (hl : fs.lookup f = some v) : Ev (tFld K ta f) σ H v := fun H1 e Q q =>
  h H1 e _ fun H2 e2 => ⟨a, C, dx, fs, v, rfl, e2 _ _ (e _ _ ho), hc, hn, hl, q H2 e2⟩
/-! statements -/
variable {D : Ends} {tu tw tz : TS}
theorem s_asgP {i : Nat} (h : EvP te σ H P) (k : ∀ v H1, Ex H H1 → P.p v H1 → D.nx (σ.set i (some v)) H1) : tAsg te (gName i) D σ H := h H (Ex.refl H) _ k
theorem q_asgP {i : Nat} (h : EvP te σ H P) (k : ∀ v H1, Ex H H1 → P.p v H1 → tz D (σ.set i (some v)) H1) : tSeq (tAsg te (gName i)) tz D σ H := h H (Ex.refl H) _ k
theorem s_retP (h : EvP te σ H P) (k : ∀ v H1, Ex H H1 → P.p v H1 → D.rt v H1) : tRet te D σ H := h H (Ex.refl H) _ k
theorem s_dropP (h : EvP te σ H P) (k : ∀ v H1, Ex H H1 → P.p v H1 → D.nx σ H1) : tDrop te D σ H := h H (Ex.refl H) _ k
theorem q_dropP (h : EvP te σ H P) (k : ∀ v H1, Ex H H1 → P.p v H1 → tz D σ H1) : tSeq (tDrop te) tz D σ H := h H (Ex.refl H) _ k
/-- an if whose body is never reached -/
theorem q_not (h : EvT t σ H false) (k : ∀ H1, Ex H H1 → tz D σ H1) : tSeq (tIfS t tu tNext) tz D σ H := q_when h (fun z => nomatch z) fun _ => k
theorem s_not (h : EvT t σ H false) (k : ∀ H1, Ex H H1 → D.nx σ H1) : tIfS t tu tNext D σ H := s_when h (fun z => nomatch z) fun _ => k
end
/-! what the top has left -/
structure Tx (K : PySem.W.Frag) (mg : Str → Option Value) : Prop where
  at_ : ∃ h : Heap, K.In h ∧ h.Ns mainGlobals mg
  c : He.SaysD fa fn K
  ex : exB K = true
section
variable {K : PySem.W.Frag} {mg : Str → Option Value}
theorem Tx.glo (T : Tx K mg) {x : Str} (c : (He.Fa.glo x).ok K = true) : mg x = some (.ref (He.ga K x)) := by
  obtain ⟨h, X, G⟩ := T.at_
  exact He.glo_ok X G c
theorem Tx.free (T : Tx K mg) {x : Str} (c : (He.Fa.free x).ok K = true) : mg x = none := by
  obtain ⟨h, X, G⟩ := T.at_
  exact He.free_ok X G c
theorem Tx.int (T : Tx K mg) {x : Str} {i : Int} (c : (He.Fa.int x i).ok K = true) : ∃ u, mg x = some u ∧ RelV (.int i) u := by
  obtain ⟨h, X, G⟩ := T.at_
  obtain ⟨t, e⟩ := He.int_ok X G c
  exact ⟨_, e, t, rfl⟩
theorem Tx.str (T : Tx K mg) {x z : Str} (c : (He.Fa.str x z).ok K = true) : ∃ u, mg x = some u ∧ RelV (.str z) u := by
  obtain ⟨h, X, G⟩ := T.at_
  obtain ⟨t, e⟩ := He.str_ok X G c
  exact ⟨_, e, t, rfl⟩
theorem ins_of (x : Str) (cl : Cls K (He.ga K x)) (h : insB K x = true) : C8.InsC K (He.ga K x) := by
  obtain ⟨h1, h⟩ := He.ba h
  obtain ⟨h2, h⟩ := He.ba h
  obtain ⟨h3, h⟩ := He.ba h
  obtain ⟨h4, h5⟩ := He.ba h
  exact ⟨cl, He.eqO_ok h1, He.eqO_ok h2, of_decide_eq_true h3, of_decide_eq_true h4, of_decide_eq_true h5⟩
end
/-! the defs' promises, by their bodies -/
section
variable {P : Program} {w : World} {K : PySem.W.Frag} {mg : Str → Option Value} {base : Heap}
abbrev FnP (K : PySem.W.Frag) (x qual : Str) (st : Stmt) (dvs : List V) (kws : List (Str × V)) (f : Addr) (fd : FuncData) : Prop := FunD K x qual (defArgs st) (defBody st) (defScope st) dvs kws f fd
/-- a body keeps a promise -/
abbrev Bod (P : Program) (w : World) (K : PySem.W.Frag) (mg : Str → Option Value) (base : Heap) (N : List Str) (qual : Str) (st : Stmt) (k : Nat) (sp : Sp) : Prop :=
  ∀ (f : Addr) (cdv : Value) (A : Around) (outer : List Env) (s : Shared) (H : Hp) (vs : List V) (Q : VK) (E : XK), Room k (A.deeper (envOfC qual (defScope st) s.heap.objs.size f cdv)) → sp vs H Q E →
    ∃ t, PSs (cxOf CX0 P w K mg base N qual (defScope st) f cdv A outer s H E).nox (defBody st) t ∧ t { nx := fun _ H' => Q .non H', rt := Q } (start N vs) H
abbrev Bnd (x qual : Str) (st : Stmt) (ps : List Str) : Prop := ∀ (kV doc pm : Value) (an : Option Addr) (cdv ct : Value) (us : List Value), us.length = ps.length → bindArgs (PySem.W.fnOf x qual (defArgs st) (defBody st) (defScope st) .none kV doc pm an cdv ct) ⟨us, []⟩ = pure (ps.zip us)
theorem cal_of {x : Str} {st : Stmt} {N ps : List Str} {k : Nat} {sp : Sp} {f : Addr} (S : FnScope N ps (defScope st)) (hb : Bnd x x st ps) (len : ∀ vs H Q E, sp vs H Q E → vs.length = ps.length) (B : Bod P w K mg base N x st k sp)
    (hg : mg x = some (.ref f)) (F : ∃ fd, FnP K x x st [] [] f fd) : C8.Cal P w K mg base (k + 1) x sp [] := by
  obtain ⟨fd, F⟩ := F
  refine ⟨f, fd, ps, [], F.ok S len (fun cdv A outer s H vs Q E hr h => ?_), hg, F.kp, F.bindsN hb, .nil⟩
  obtain ⟨t, h1, h2⟩ := B f cdv A outer s H vs Q E hr h
  exact ⟨t, h1.nox, h2⟩
theorem met_of {x qual : Str} {C : Addr} {st : Stmt} {N ps : List Str} {k : Nat} {sp : Sp} {f : Addr} (S : FnScope N ps (defScope st)) (hb : Bnd x qual st ps) (len : ∀ vs H Q E, sp vs H Q E → vs.length = ps.length) (B : Bod P w K mg base N qual st k sp)
    (c : Cls K C) (hm : Meth K C x f) (F : ∃ fd, FnP K x qual st [] [] f fd) : C8.Met P w K mg base (k + 1) C x sp [] := by
  obtain ⟨fd, F⟩ := F
  refine ⟨f, fd, ps, [], c, hm, F.ok S len (fun cdv A outer s H vs Q E hr h => ?_), F.bindsN hb, .nil⟩
  obtain ⟨t, h1, h2⟩ := B f cdv A outer s H vs Q E hr h
  exact ⟨t, h1.nox, h2⟩
theorem fn_len {R : List Pr → Pr → Prop} {n : Nat} (h : ∀ Ps P, R Ps P → Ps.length = n) : ∀ vs H Q E, (Fn R) vs H Q E → vs.length = n := fun vs H Q E ⟨Ps, P, hr, ha, _⟩ => by
  rw [ha.len, h Ps P hr]
end
end Rs
/-! The head's facts by names. Printed by genfacts.py. -/
namespace Rs
open PySem PySem.Spec PyProof.Rows L2 Evl
abbrev CR (K : PySem.W.Frag) : Addr := He.ga K "Ratio"
abbrev CG (K : PySem.W.Frag) : Addr := He.ga K "Graph"
abbrev CC (K : PySem.W.Frag) : Addr := He.ga K "CertificateRows"
section
variable {K : PySem.W.Frag} {mg : Str → Option Value}
theorem Tx.g_need_integer (T : Tx K mg) : mg "need_integer" = some (.ref (He.ga K "need_integer")) := T.glo (T.c.fact 0 (f := .glo "need_integer"))
theorem Tx.g_greatest_divisor (T : Tx K mg) : mg "greatest_divisor" = some (.ref (He.ga K "greatest_divisor")) := T.glo (T.c.fact 1 (f := .glo "greatest_divisor"))
theorem Tx.g_need_ratio (T : Tx K mg) : mg "need_ratio" = some (.ref (He.ga K "need_ratio")) := T.glo (T.c.fact 2 (f := .glo "need_ratio"))
theorem Tx.g_need_ratios (T : Tx K mg) : mg "need_ratios" = some (.ref (He.ga K "need_ratios")) := T.glo (T.c.fact 3 (f := .glo "need_ratios"))
theorem Tx.g_ratio_sum (T : Tx K mg) : mg "ratio_sum" = some (.ref (He.ga K "ratio_sum")) := T.glo (T.c.fact 4 (f := .glo "ratio_sum"))
theorem Tx.g_ratio_product (T : Tx K mg) : mg "ratio_product" = some (.ref (He.ga K "ratio_product")) := T.glo (T.c.fact 5 (f := .glo "ratio_product"))
theorem Tx.g_is_name (T : Tx K mg) : mg "is_name" = some (.ref (He.ga K "is_name")) := T.glo (T.c.fact 6 (f := .glo "is_name"))
theorem Tx.g_independent_tuples (T : Tx K mg) : mg "independent_tuples" = some (.ref (He.ga K "independent_tuples")) := T.glo (T.c.fact 7 (f := .glo "independent_tuples"))
theorem Tx.g_event_sign (T : Tx K mg) : mg "event_sign" = some (.ref (He.ga K "event_sign")) := T.glo (T.c.fact 8 (f := .glo "event_sign"))
theorem Tx.g_is_list (T : Tx K mg) : mg "is_list" = some (.ref (He.ga K "is_list")) := T.glo (T.c.fact 9 (f := .glo "is_list"))
theorem Tx.g_is_known (T : Tx K mg) : mg "is_known" = some (.ref (He.ga K "is_known")) := T.glo (T.c.fact 10 (f := .glo "is_known"))
theorem Tx.g_checked_names (T : Tx K mg) : mg "checked_names" = some (.ref (He.ga K "checked_names")) := T.glo (T.c.fact 11 (f := .glo "checked_names"))
theorem Tx.g_checked_edges (T : Tx K mg) : mg "checked_edges" = some (.ref (He.ga K "checked_edges")) := T.glo (T.c.fact 12 (f := .glo "checked_edges"))
theorem Tx.g_need_graph (T : Tx K mg) : mg "need_graph" = some (.ref (He.ga K "need_graph")) := T.glo (T.c.fact 13 (f := .glo "need_graph"))
theorem Tx.g_are_probabilities (T : Tx K mg) : mg "are_probabilities" = some (.ref (He.ga K "are_probabilities")) := T.glo (T.c.fact 14 (f := .glo "are_probabilities"))
theorem Tx.g_need_probabilities (T : Tx K mg) : mg "need_probabilities" = some (.ref (He.ga K "need_probabilities")) := T.glo (T.c.fact 15 (f := .glo "need_probabilities"))
theorem Tx.g_need_names (T : Tx K mg) : mg "need_names" = some (.ref (He.ga K "need_names")) := T.glo (T.c.fact 16 (f := .glo "need_names"))
theorem Tx.g_independent_name_sets (T : Tx K mg) : mg "independent_name_sets" = some (.ref (He.ga K "independent_name_sets")) := T.glo (T.c.fact 17 (f := .glo "independent_name_sets"))
theorem Tx.g_independence_value (T : Tx K mg) : mg "independence_value" = some (.ref (He.ga K "independence_value")) := T.glo (T.c.fact 18 (f := .glo "independence_value"))
theorem Tx.g_is_order (T : Tx K mg) : mg "is_order" = some (.ref (He.ga K "is_order")) := T.glo (T.c.fact 19 (f := .glo "is_order"))
theorem Tx.g_required_sets (T : Tx K mg) : mg "required_sets" = some (.ref (He.ga K "required_sets")) := T.glo (T.c.fact 20 (f := .glo "required_sets"))
theorem Tx.g_find_certificate (T : Tx K mg) : mg "find_certificate" = some (.ref (He.ga K "find_certificate")) := T.glo (T.c.fact 21 (f := .glo "find_certificate"))
theorem Tx.g_is_row (T : Tx K mg) : mg "is_row" = some (.ref (He.ga K "is_row")) := T.glo (T.c.fact 22 (f := .glo "is_row"))
theorem Tx.g_row_holds (T : Tx K mg) : mg "row_holds" = some (.ref (He.ga K "row_holds")) := T.glo (T.c.fact 23 (f := .glo "row_holds"))
theorem Tx.g_check_certificate (T : Tx K mg) : mg "check_certificate" = some (.ref (He.ga K "check_certificate")) := T.glo (T.c.fact 24 (f := .glo "check_certificate"))
theorem Tx.g_lower_bound (T : Tx K mg) : mg "lower_bound" = some (.ref (He.ga K "lower_bound")) := T.glo (T.c.fact 25 (f := .glo "lower_bound"))
theorem Tx.g__law_cell (T : Tx K mg) : mg "_law_cell" = some (.ref (He.ga K "_law_cell")) := T.glo (T.c.fact 26 (f := .glo "_law_cell"))
theorem Tx.g__law_box (T : Tx K mg) : mg "_law_box" = some (.ref (He.ga K "_law_box")) := T.glo (T.c.fact 27 (f := .glo "_law_box"))
theorem Tx.g__law_take (T : Tx K mg) : mg "_law_take" = some (.ref (He.ga K "_law_take")) := T.glo (T.c.fact 28 (f := .glo "_law_take"))
theorem Tx.g__law_names (T : Tx K mg) : mg "_law_names" = some (.ref (He.ga K "_law_names")) := T.glo (T.c.fact 29 (f := .glo "_law_names"))
theorem Tx.g__law_graph (T : Tx K mg) : mg "_law_graph" = some (.ref (He.ga K "_law_graph")) := T.glo (T.c.fact 30 (f := .glo "_law_graph"))
theorem Tx.g__law_handed (T : Tx K mg) : mg "_law_handed" = some (.ref (He.ga K "_law_handed")) := T.glo (T.c.fact 31 (f := .glo "_law_handed"))
theorem Tx.g__law_divisor (T : Tx K mg) : mg "_law_divisor" = some (.ref (He.ga K "_law_divisor")) := T.glo (T.c.fact 32 (f := .glo "_law_divisor"))
theorem Tx.g__law_reduced (T : Tx K mg) : mg "_law_reduced" = some (.ref (He.ga K "_law_reduced")) := T.glo (T.c.fact 33 (f := .glo "_law_reduced"))
theorem Tx.g__law_shares (T : Tx K mg) : mg "_law_shares" = some (.ref (He.ga K "_law_shares")) := T.glo (T.c.fact 34 (f := .glo "_law_shares"))
theorem Tx.g__law_chain_right (T : Tx K mg) : mg "_law_chain_right" = some (.ref (He.ga K "_law_chain_right")) := T.glo (T.c.fact 35 (f := .glo "_law_chain_right"))
theorem Tx.g__law_smaller_right (T : Tx K mg) : mg "_law_smaller_right" = some (.ref (He.ga K "_law_smaller_right")) := T.glo (T.c.fact 36 (f := .glo "_law_smaller_right"))
theorem Tx.g__law_subset_right (T : Tx K mg) : mg "_law_subset_right" = some (.ref (He.ga K "_law_subset_right")) := T.glo (T.c.fact 37 (f := .glo "_law_subset_right"))
theorem Tx.g_law (T : Tx K mg) : mg "law" = some (.ref (He.ga K "law")) := T.glo (T.c.fact 38 (f := .glo "law"))
theorem Tx.g_Ratio (T : Tx K mg) : mg "Ratio" = some (.ref (He.ga K "Ratio")) := T.glo (T.c.fact 39 (f := .glo "Ratio"))
theorem Tx.g_Graph (T : Tx K mg) : mg "Graph" = some (.ref (He.ga K "Graph")) := T.glo (T.c.fact 40 (f := .glo "Graph"))
theorem Tx.g_CertificateRows (T : Tx K mg) : mg "CertificateRows" = some (.ref (He.ga K "CertificateRows")) := T.glo (T.c.fact 41 (f := .glo "CertificateRows"))
theorem Tx.b_isinstance (T : Tx K mg) : mg "isinstance" = none := T.free (T.c.fact 42 (f := .free "isinstance"))
theorem Tx.b_bool (T : Tx K mg) : mg "bool" = none := T.free (T.c.fact 43 (f := .free "bool"))
theorem Tx.b_int (T : Tx K mg) : mg "int" = none := T.free (T.c.fact 44 (f := .free "int"))
theorem Tx.b_abs (T : Tx K mg) : mg "abs" = none := T.free (T.c.fact 45 (f := .free "abs"))
theorem Tx.b_str (T : Tx K mg) : mg "str" = none := T.free (T.c.fact 46 (f := .free "str"))
theorem Tx.b_len (T : Tx K mg) : mg "len" = none := T.free (T.c.fact 47 (f := .free "len"))
theorem Tx.b_list (T : Tx K mg) : mg "list" = none := T.free (T.c.fact 48 (f := .free "list"))
theorem Tx.b_tuple (T : Tx K mg) : mg "tuple" = none := T.free (T.c.fact 49 (f := .free "tuple"))
theorem Tx.b_dict (T : Tx K mg) : mg "dict" = none := T.free (T.c.fact 50 (f := .free "dict"))
theorem Tx.b_all (T : Tx K mg) : mg "all" = none := T.free (T.c.fact 51 (f := .free "all"))
theorem Tx.b_any (T : Tx K mg) : mg "any" = none := T.free (T.c.fact 52 (f := .free "any"))
theorem Tx.b_sorted (T : Tx K mg) : mg "sorted" = none := T.free (T.c.fact 53 (f := .free "sorted"))
theorem Tx.b_enumerate (T : Tx K mg) : mg "enumerate" = none := T.free (T.c.fact 54 (f := .free "enumerate"))
theorem Tx.b_range (T : Tx K mg) : mg "range" = none := T.free (T.c.fact 55 (f := .free "range"))
theorem Tx.b_zip (T : Tx K mg) : mg "zip" = none := T.free (T.c.fact 56 (f := .free "zip"))
theorem Tx.b_max (T : Tx K mg) : mg "max" = none := T.free (T.c.fact 57 (f := .free "max"))
theorem Tx.b_min (T : Tx K mg) : mg "min" = none := T.free (T.c.fact 58 (f := .free "min"))
theorem Tx.k_LONGEST_NAME (T : Tx K mg) : ∃ u, mg "LONGEST_NAME" = some u ∧ RelV (.int 8) u := T.int (T.c.fact 59 (f := .int "LONGEST_NAME" 8))
theorem Tx.k_MAX_NAMES (T : Tx K mg) : ∃ u, mg "MAX_NAMES" = some u ∧ RelV (.int 8) u := T.int (T.c.fact 60 (f := .int "MAX_NAMES" 8))
theorem Tx.k_LETTERS (T : Tx K mg) : ∃ u, mg "LETTERS" = some u ∧ RelV (.str "abcdefghijklmnopqrstuvwxyz") u := T.str (T.c.fact 61 (f := .str "LETTERS" "abcdefghijklmnopqrstuvwxyz"))
theorem Tx.k_POSITIVE (T : Tx K mg) : ∃ u, mg "POSITIVE" = some u ∧ RelV (.str "positive") u := T.str (T.c.fact 62 (f := .str "POSITIVE" "positive"))
theorem Tx.k_NOT_POSITIVE (T : Tx K mg) : ∃ u, mg "NOT_POSITIVE" = some u ∧ RelV (.str "not_positive") u := T.str (T.c.fact 63 (f := .str "NOT_POSITIVE" "not_positive"))
theorem Tx.c_Ratio (T : Tx K mg) : Cls K (He.ga K "Ratio") := He.cls_ok (T.c.fact 64 (f := .cls "Ratio"))
theorem Tx.mk_Ratio (T : Tx K mg) : Mk K (He.ga K "Ratio") (He.ma K (He.ga K "Ratio") "__init__") := He.mkr_ok (T.c.fact 65 (f := .mkr "Ratio"))
theorem Tx.n_ratio_num (T : Tx K mg) : NoAttr K (He.ga K "Ratio") "ratio_num" := He.noat_ok (T.c.fact 66 (f := .noat "Ratio" "ratio_num"))
theorem Tx.n_ratio_den (T : Tx K mg) : NoAttr K (He.ga K "Ratio") "ratio_den" := He.noat_ok (T.c.fact 67 (f := .noat "Ratio" "ratio_den"))
theorem Tx.c_Graph (T : Tx K mg) : Cls K (He.ga K "Graph") := He.cls_ok (T.c.fact 68 (f := .cls "Graph"))
theorem Tx.mk_Graph (T : Tx K mg) : Mk K (He.ga K "Graph") (He.ma K (He.ga K "Graph") "__init__") := He.mkr_ok (T.c.fact 69 (f := .mkr "Graph"))
theorem Tx.n_graph_names (T : Tx K mg) : NoAttr K (He.ga K "Graph") "graph_names" := He.noat_ok (T.c.fact 70 (f := .noat "Graph" "graph_names"))
theorem Tx.n_graph_edges (T : Tx K mg) : NoAttr K (He.ga K "Graph") "graph_edges" := He.noat_ok (T.c.fact 71 (f := .noat "Graph" "graph_edges"))
theorem Tx.c_CertificateRows (T : Tx K mg) : Cls K (He.ga K "CertificateRows") := He.cls_ok (T.c.fact 72 (f := .cls "CertificateRows"))
theorem Tx.mk_CertificateRows (T : Tx K mg) : Mk K (He.ga K "CertificateRows") (He.ma K (He.ga K "CertificateRows") "__init__") := He.mkr_ok (T.c.fact 73 (f := .mkr "CertificateRows"))
theorem Tx.n_of_graph (T : Tx K mg) : NoAttr K (He.ga K "CertificateRows") "of_graph" := He.noat_ok (T.c.fact 74 (f := .noat "CertificateRows" "of_graph"))
theorem Tx.n_of_probabilities (T : Tx K mg) : NoAttr K (He.ga K "CertificateRows") "of_probabilities" := He.noat_ok (T.c.fact 75 (f := .noat "CertificateRows" "of_probabilities"))
theorem Tx.n_of_order (T : Tx K mg) : NoAttr K (He.ga K "CertificateRows") "of_order" := He.noat_ok (T.c.fact 76 (f := .noat "CertificateRows" "of_order"))
theorem Tx.n_known_values (T : Tx K mg) : NoAttr K (He.ga K "CertificateRows") "known_values" := He.noat_ok (T.c.fact 77 (f := .noat "CertificateRows" "known_values"))
theorem Tx.m_Ratio_num (T : Tx K mg) : Meth K (He.ga K "Ratio") "num" (He.ma K (He.ga K "Ratio") "num") := He.meth_ok (T.c.fact 78 (f := .meth "Ratio" "num"))
theorem Tx.m_Ratio_den (T : Tx K mg) : Meth K (He.ga K "Ratio") "den" (He.ma K (He.ga K "Ratio") "den") := He.meth_ok (T.c.fact 79 (f := .meth "Ratio" "den"))
theorem Tx.m_Ratio_sign (T : Tx K mg) : Meth K (He.ga K "Ratio") "sign" (He.ma K (He.ga K "Ratio") "sign") := He.meth_ok (T.c.fact 80 (f := .meth "Ratio" "sign"))
theorem Tx.m_Ratio_add (T : Tx K mg) : Meth K (He.ga K "Ratio") "add" (He.ma K (He.ga K "Ratio") "add") := He.meth_ok (T.c.fact 81 (f := .meth "Ratio" "add"))
theorem Tx.m_Ratio_subtract (T : Tx K mg) : Meth K (He.ga K "Ratio") "subtract" (He.ma K (He.ga K "Ratio") "subtract") := He.meth_ok (T.c.fact 82 (f := .meth "Ratio" "subtract"))
theorem Tx.m_Ratio_multiply (T : Tx K mg) : Meth K (He.ga K "Ratio") "multiply" (He.ma K (He.ga K "Ratio") "multiply") := He.meth_ok (T.c.fact 83 (f := .meth "Ratio" "multiply"))
theorem Tx.m_Ratio_less_than (T : Tx K mg) : Meth K (He.ga K "Ratio") "less_than" (He.ma K (He.ga K "Ratio") "less_than") := He.meth_ok (T.c.fact 84 (f := .meth "Ratio" "less_than"))
theorem Tx.m_Ratio_eq (T : Tx K mg) : Meth K (He.ga K "Ratio") "__eq__" (He.ma K (He.ga K "Ratio") "__eq__") := He.meth_ok (T.c.fact 85 (f := .meth "Ratio" "__eq__"))
theorem Tx.m_Graph_names (T : Tx K mg) : Meth K (He.ga K "Graph") "names" (He.ma K (He.ga K "Graph") "names") := He.meth_ok (T.c.fact 86 (f := .meth "Graph" "names"))
theorem Tx.m_Graph_edges (T : Tx K mg) : Meth K (He.ga K "Graph") "edges" (He.ma K (He.ga K "Graph") "edges") := He.meth_ok (T.c.fact 87 (f := .meth "Graph" "edges"))
theorem Tx.m_Graph_need_name (T : Tx K mg) : Meth K (He.ga K "Graph") "need_name" (He.ma K (He.ga K "Graph") "need_name") := He.meth_ok (T.c.fact 88 (f := .meth "Graph" "need_name"))
theorem Tx.m_Graph_are_adjacent (T : Tx K mg) : Meth K (He.ga K "Graph") "are_adjacent" (He.ma K (He.ga K "Graph") "are_adjacent") := He.meth_ok (T.c.fact 89 (f := .meth "Graph" "are_adjacent"))
theorem Tx.m_Graph_neighbors (T : Tx K mg) : Meth K (He.ga K "Graph") "neighbors" (He.ma K (He.ga K "Graph") "neighbors") := He.meth_ok (T.c.fact 90 (f := .meth "Graph" "neighbors"))
theorem Tx.m_Graph_len (T : Tx K mg) : Meth K (He.ga K "Graph") "__len__" (He.ma K (He.ga K "Graph") "__len__") := He.meth_ok (T.c.fact 91 (f := .meth "Graph" "__len__"))
theorem Tx.m_CertificateRows_value_of (T : Tx K mg) : Meth K (He.ga K "CertificateRows") "value_of" (He.ma K (He.ga K "CertificateRows") "value_of") := He.meth_ok (T.c.fact 92 (f := .meth "CertificateRows" "value_of"))
theorem Tx.m_CertificateRows_prefix (T : Tx K mg) : Meth K (He.ga K "CertificateRows") "prefix" (He.ma K (He.ga K "CertificateRows") "prefix") := He.meth_ok (T.c.fact 93 (f := .meth "CertificateRows" "prefix"))
theorem Tx.m_CertificateRows_rows (T : Tx K mg) : Meth K (He.ga K "CertificateRows") "rows" (He.ma K (He.ga K "CertificateRows") "rows") := He.meth_ok (T.c.fact 94 (f := .meth "CertificateRows" "rows"))
theorem Tx.f_need_integer (T : Tx K mg) : ∃ fd, FnP K "need_integer" "need_integer" s_need_integer [] [] (He.ga K "need_integer") fd := T.c.def_ 0 (d := d_need_integer)
theorem Tx.f_greatest_divisor (T : Tx K mg) : ∃ fd, FnP K "greatest_divisor" "greatest_divisor" s_greatest_divisor [] [] (He.ga K "greatest_divisor") fd := T.c.def_ 1 (d := d_greatest_divisor)
theorem Tx.f_Ratio_init (T : Tx K mg) : ∃ fd, FnP K "__init__" "Ratio.__init__" s_Ratio_init [.int 1] [] (He.ma K (He.ga K "Ratio") "__init__") fd := T.c.def_ 2 (d := d_Ratio_init)
theorem Tx.f_Ratio_num (T : Tx K mg) : ∃ fd, FnP K "num" "Ratio.num" s_Ratio_num [] [] (He.ma K (He.ga K "Ratio") "num") fd := T.c.def_ 3 (d := d_Ratio_num)
theorem Tx.f_Ratio_den (T : Tx K mg) : ∃ fd, FnP K "den" "Ratio.den" s_Ratio_den [] [] (He.ma K (He.ga K "Ratio") "den") fd := T.c.def_ 4 (d := d_Ratio_den)
theorem Tx.f_Ratio_sign (T : Tx K mg) : ∃ fd, FnP K "sign" "Ratio.sign" s_Ratio_sign [] [] (He.ma K (He.ga K "Ratio") "sign") fd := T.c.def_ 5 (d := d_Ratio_sign)
theorem Tx.f_Ratio_add (T : Tx K mg) : ∃ fd, FnP K "add" "Ratio.add" s_Ratio_add [] [] (He.ma K (He.ga K "Ratio") "add") fd := T.c.def_ 6 (d := d_Ratio_add)
theorem Tx.f_Ratio_subtract (T : Tx K mg) : ∃ fd, FnP K "subtract" "Ratio.subtract" s_Ratio_subtract [] [] (He.ma K (He.ga K "Ratio") "subtract") fd := T.c.def_ 7 (d := d_Ratio_subtract)
theorem Tx.f_Ratio_multiply (T : Tx K mg) : ∃ fd, FnP K "multiply" "Ratio.multiply" s_Ratio_multiply [] [] (He.ma K (He.ga K "Ratio") "multiply") fd := T.c.def_ 8 (d := d_Ratio_multiply)
theorem Tx.f_Ratio_less_than (T : Tx K mg) : ∃ fd, FnP K "less_than" "Ratio.less_than" s_Ratio_less_than [] [] (He.ma K (He.ga K "Ratio") "less_than") fd := T.c.def_ 9 (d := d_Ratio_less_than)
theorem Tx.f_Ratio_eq (T : Tx K mg) : ∃ fd, FnP K "__eq__" "Ratio.__eq__" s_Ratio_eq [] [] (He.ma K (He.ga K "Ratio") "__eq__") fd := T.c.def_ 10 (d := d_Ratio_eq)
theorem Tx.f_need_ratio (T : Tx K mg) : ∃ fd, FnP K "need_ratio" "need_ratio" s_need_ratio [] [] (He.ga K "need_ratio") fd := T.c.def_ 11 (d := d_need_ratio)
theorem Tx.f_need_ratios (T : Tx K mg) : ∃ fd, FnP K "need_ratios" "need_ratios" s_need_ratios [] [] (He.ga K "need_ratios") fd := T.c.def_ 12 (d := d_need_ratios)
theorem Tx.f_ratio_sum (T : Tx K mg) : ∃ fd, FnP K "ratio_sum" "ratio_sum" s_ratio_sum [] [("start", .non)] (He.ga K "ratio_sum") fd := T.c.def_ 13 (d := d_ratio_sum)
theorem Tx.f_ratio_product (T : Tx K mg) : ∃ fd, FnP K "ratio_product" "ratio_product" s_ratio_product [] [] (He.ga K "ratio_product") fd := T.c.def_ 14 (d := d_ratio_product)
theorem Tx.f_is_name (T : Tx K mg) : ∃ fd, FnP K "is_name" "is_name" s_is_name [] [] (He.ga K "is_name") fd := T.c.def_ 15 (d := d_is_name)
theorem Tx.f_independent_tuples (T : Tx K mg) : ∃ fd, FnP K "independent_tuples" "independent_tuples" s_independent_tuples [] [] (He.ga K "independent_tuples") fd := T.c.def_ 16 (d := d_independent_tuples)
theorem Tx.f_event_sign (T : Tx K mg) : ∃ fd, FnP K "event_sign" "event_sign" s_event_sign [] [] (He.ga K "event_sign") fd := T.c.def_ 17 (d := d_event_sign)
theorem Tx.f_is_list (T : Tx K mg) : ∃ fd, FnP K "is_list" "is_list" s_is_list [] [] (He.ga K "is_list") fd := T.c.def_ 18 (d := d_is_list)
theorem Tx.f_is_known (T : Tx K mg) : ∃ fd, FnP K "is_known" "is_known" s_is_known [] [] (He.ga K "is_known") fd := T.c.def_ 19 (d := d_is_known)
theorem Tx.f_checked_names (T : Tx K mg) : ∃ fd, FnP K "checked_names" "checked_names" s_checked_names [] [] (He.ga K "checked_names") fd := T.c.def_ 20 (d := d_checked_names)
theorem Tx.f_checked_edges (T : Tx K mg) : ∃ fd, FnP K "checked_edges" "checked_edges" s_checked_edges [] [] (He.ga K "checked_edges") fd := T.c.def_ 21 (d := d_checked_edges)
theorem Tx.f_Graph_init (T : Tx K mg) : ∃ fd, FnP K "__init__" "Graph.__init__" s_Graph_init [.ref ((He.dflAt ("Graph", some "__init__") 0) K)] [] (He.ma K (He.ga K "Graph") "__init__") fd := T.c.def_ 22 (d := d_Graph_init)
theorem Tx.f_Graph_names (T : Tx K mg) : ∃ fd, FnP K "names" "Graph.names" s_Graph_names [] [] (He.ma K (He.ga K "Graph") "names") fd := T.c.def_ 23 (d := d_Graph_names)
theorem Tx.f_Graph_edges (T : Tx K mg) : ∃ fd, FnP K "edges" "Graph.edges" s_Graph_edges [] [] (He.ma K (He.ga K "Graph") "edges") fd := T.c.def_ 24 (d := d_Graph_edges)
theorem Tx.f_Graph_need_name (T : Tx K mg) : ∃ fd, FnP K "need_name" "Graph.need_name" s_Graph_need_name [] [] (He.ma K (He.ga K "Graph") "need_name") fd := T.c.def_ 25 (d := d_Graph_need_name)
theorem Tx.f_Graph_are_adjacent (T : Tx K mg) : ∃ fd, FnP K "are_adjacent" "Graph.are_adjacent" s_Graph_are_adjacent [] [] (He.ma K (He.ga K "Graph") "are_adjacent") fd := T.c.def_ 26 (d := d_Graph_are_adjacent)
theorem Tx.f_Graph_neighbors (T : Tx K mg) : ∃ fd, FnP K "neighbors" "Graph.neighbors" s_Graph_neighbors [] [] (He.ma K (He.ga K "Graph") "neighbors") fd := T.c.def_ 27 (d := d_Graph_neighbors)
theorem Tx.f_Graph_len (T : Tx K mg) : ∃ fd, FnP K "__len__" "Graph.__len__" s_Graph_len [] [] (He.ma K (He.ga K "Graph") "__len__") fd := T.c.def_ 28 (d := d_Graph_len)
theorem Tx.f_need_graph (T : Tx K mg) : ∃ fd, FnP K "need_graph" "need_graph" s_need_graph [] [] (He.ga K "need_graph") fd := T.c.def_ 29 (d := d_need_graph)
theorem Tx.f_are_probabilities (T : Tx K mg) : ∃ fd, FnP K "are_probabilities" "are_probabilities" s_are_probabilities [] [] (He.ga K "are_probabilities") fd := T.c.def_ 30 (d := d_are_probabilities)
theorem Tx.f_need_probabilities (T : Tx K mg) : ∃ fd, FnP K "need_probabilities" "need_probabilities" s_need_probabilities [] [] (He.ga K "need_probabilities") fd := T.c.def_ 31 (d := d_need_probabilities)
theorem Tx.f_need_names (T : Tx K mg) : ∃ fd, FnP K "need_names" "need_names" s_need_names [] [] (He.ga K "need_names") fd := T.c.def_ 32 (d := d_need_names)
theorem Tx.f_independent_name_sets (T : Tx K mg) : ∃ fd, FnP K "independent_name_sets" "independent_name_sets" s_independent_name_sets [] [] (He.ga K "independent_name_sets") fd := T.c.def_ 33 (d := d_independent_name_sets)
theorem Tx.f_independence_value (T : Tx K mg) : ∃ fd, FnP K "independence_value" "independence_value" s_independence_value [] [("subset", .non)] (He.ga K "independence_value") fd := T.c.def_ 34 (d := d_independence_value)
theorem Tx.f_is_order (T : Tx K mg) : ∃ fd, FnP K "is_order" "is_order" s_is_order [] [] (He.ga K "is_order") fd := T.c.def_ 35 (d := d_is_order)
theorem Tx.f_required_sets (T : Tx K mg) : ∃ fd, FnP K "required_sets" "required_sets" s_required_sets [] [] (He.ga K "required_sets") fd := T.c.def_ 36 (d := d_required_sets)
theorem Tx.f_CertificateRows_init (T : Tx K mg) : ∃ fd, FnP K "__init__" "CertificateRows.__init__" s_CertificateRows_init [] [] (He.ma K (He.ga K "CertificateRows") "__init__") fd := T.c.def_ 37 (d := d_CertificateRows_init)
theorem Tx.f_CertificateRows_value_of (T : Tx K mg) : ∃ fd, FnP K "value_of" "CertificateRows.value_of" s_CertificateRows_value_of [] [] (He.ma K (He.ga K "CertificateRows") "value_of") fd := T.c.def_ 38 (d := d_CertificateRows_value_of)
theorem Tx.f_CertificateRows_prefix (T : Tx K mg) : ∃ fd, FnP K "prefix" "CertificateRows.prefix" s_CertificateRows_prefix [] [] (He.ma K (He.ga K "CertificateRows") "prefix") fd := T.c.def_ 39 (d := d_CertificateRows_prefix)
theorem Tx.f_CertificateRows_rows (T : Tx K mg) : ∃ fd, FnP K "rows" "CertificateRows.rows" s_CertificateRows_rows [] [] (He.ma K (He.ga K "CertificateRows") "rows") fd := T.c.def_ 40 (d := d_CertificateRows_rows)
theorem Tx.f_find_certificate (T : Tx K mg) : ∃ fd, FnP K "find_certificate" "find_certificate" s_find_certificate [] [("order", .non)] (He.ga K "find_certificate") fd := T.c.def_ 41 (d := d_find_certificate)
theorem Tx.f_is_row (T : Tx K mg) : ∃ fd, FnP K "is_row" "is_row" s_is_row [] [] (He.ga K "is_row") fd := T.c.def_ 42 (d := d_is_row)
theorem Tx.f_row_holds (T : Tx K mg) : ∃ fd, FnP K "row_holds" "row_holds" s_row_holds [] [] (He.ga K "row_holds") fd := T.c.def_ 43 (d := d_row_holds)
theorem Tx.f_check_certificate (T : Tx K mg) : ∃ fd, FnP K "check_certificate" "check_certificate" s_check_certificate [] [] (He.ga K "check_certificate") fd := T.c.def_ 44 (d := d_check_certificate)
theorem Tx.f_lower_bound (T : Tx K mg) : ∃ fd, FnP K "lower_bound" "lower_bound" s_lower_bound [] [] (He.ga K "lower_bound") fd := T.c.def_ 45 (d := d_lower_bound)
theorem Tx.f__law_cell (T : Tx K mg) : ∃ fd, FnP K "_law_cell" "_law_cell" s__law_cell [] [] (He.ga K "_law_cell") fd := T.c.def_ 46 (d := d__law_cell)
theorem Tx.f__law_box (T : Tx K mg) : ∃ fd, FnP K "_law_box" "_law_box" s__law_box [] [] (He.ga K "_law_box") fd := T.c.def_ 47 (d := d__law_box)
theorem Tx.f__law_take (T : Tx K mg) : ∃ fd, FnP K "_law_take" "_law_take" s__law_take [] [] (He.ga K "_law_take") fd := T.c.def_ 48 (d := d__law_take)
theorem Tx.f__law_names (T : Tx K mg) : ∃ fd, FnP K "_law_names" "_law_names" s__law_names [] [] (He.ga K "_law_names") fd := T.c.def_ 49 (d := d__law_names)
theorem Tx.f__law_graph (T : Tx K mg) : ∃ fd, FnP K "_law_graph" "_law_graph" s__law_graph [] [] (He.ga K "_law_graph") fd := T.c.def_ 50 (d := d__law_graph)
theorem Tx.f__law_handed (T : Tx K mg) : ∃ fd, FnP K "_law_handed" "_law_handed" s__law_handed [] [] (He.ga K "_law_handed") fd := T.c.def_ 51 (d := d__law_handed)
theorem Tx.f__law_divisor (T : Tx K mg) : ∃ fd, FnP K "_law_divisor" "_law_divisor" s__law_divisor [] [] (He.ga K "_law_divisor") fd := T.c.def_ 52 (d := d__law_divisor)
theorem Tx.f__law_reduced (T : Tx K mg) : ∃ fd, FnP K "_law_reduced" "_law_reduced" s__law_reduced [] [] (He.ga K "_law_reduced") fd := T.c.def_ 53 (d := d__law_reduced)
theorem Tx.f__law_shares (T : Tx K mg) : ∃ fd, FnP K "_law_shares" "_law_shares" s__law_shares [] [] (He.ga K "_law_shares") fd := T.c.def_ 54 (d := d__law_shares)
theorem Tx.f__law_chain_right (T : Tx K mg) : ∃ fd, FnP K "_law_chain_right" "_law_chain_right" s__law_chain_right [] [] (He.ga K "_law_chain_right") fd := T.c.def_ 55 (d := d__law_chain_right)
theorem Tx.f__law_smaller_right (T : Tx K mg) : ∃ fd, FnP K "_law_smaller_right" "_law_smaller_right" s__law_smaller_right [] [] (He.ga K "_law_smaller_right") fd := T.c.def_ 56 (d := d__law_smaller_right)
theorem Tx.f__law_subset_right (T : Tx K mg) : ∃ fd, FnP K "_law_subset_right" "_law_subset_right" s__law_subset_right [] [] (He.ga K "_law_subset_right") fd := T.c.def_ 57 (d := d__law_subset_right)
theorem Tx.f_law (T : Tx K mg) : ∃ fd, FnP K "law" "law" s_law [] [] (He.ga K "law") fd := T.c.def_ 58 (d := d_law)
theorem Tx.i_Ratio (T : Tx K mg) : C8.InsC K (CR K) := ins_of "Ratio" T.c_Ratio (He.ba T.ex).1
theorem Tx.i_Graph (T : Tx K mg) : C8.InsC K (CG K) := ins_of "Graph" T.c_Graph (He.ba T.ex).2
end
end Rs
/-! Ratios, 1: the divisor, the making. -/
namespace Rs
open PySem PySem.Spec PyProof.Rows L2 Evl
section
variable {P : Program} {w : World} {K : PySem.W.Frag} {mg : Str → Option Value} {base : Heap}
section
variable {σ : L2.St} {H H' : Hp} {ta tb te tx : TE} {v : V}
theorem ep_is {i : Nat} (h : σ[i]? = some (some v)) : EvP (tVar i) σ H (Is v) := ep_var h rfl
theorem ep_c : EvP (tC v) σ H (Is v) := ep ev_c
/-- isinstance(x, c): a built-in type -/
theorem ev_isi {x c : V} {t u : Value} {b : Bool} (h : Ev ta σ H x) (ty : ∀ H1, Ex H H1 → TyX K H1 x t) (hc : ClsV c u) (hk : PySem.W.kitOne K t u = some b) : Ev (tCB (rIsi K) (tCons ta (tCons (tC c) tNil))) σ H (.bl b) := fun H1 e Q q =>
  h H1 e _ fun H2 e2 => ⟨x, c, t, u, b, rfl, hc, ty H2 (e.trans e2), hk, q H2 e2⟩
theorem ev_isiInt {i : Int} {n : String} {b : Bool} (h : Ev ta σ H (.int i)) (hk : kitB "int" n = some b) : Ev (tCB (rIsi K) (tCons ta (tCons (tC (.ty n)) tNil))) σ H (.bl b) := ev_isi h (fun _ _ => .base (.int i)) (.ty n) (kit_ty hk)
theorem ev_op2 {r : R2} {x y z : V} (ha : Ev ta σ H x) (hb : Ev tb σ H y) (hr : ∀ H1, Ex H H1 → ∀ Q : VK, Q z H1 → r x y H1 Q) : Ev (tOp r ta tb) σ H z := ev_op ha hb (rv_val hr)
theorem ev_un1 {g : Int → V} {i : Int} (ha : Ev ta σ H (.int i)) : Ev (tUn (rU g) ta) σ H (g i) := ev_un ha fun H1 _ _ q => ⟨i, rfl, q H1 (Ex.refl H1)⟩
theorem ev_i0 {g : Int → Int → V} {i j : Int} (ha : Ev ta σ H (.int i)) (hb : Ev tb σ H (.int j)) : Ev (tOp (rI0 g) ta tb) σ H (g i j) := ev_op ha hb rv_I0
theorem ev_i {C : Int → Int → Prop} {g : Int → Int → V} {i j : Int} (ha : Ev ta σ H (.int i)) (hb : Ev tb σ H (.int j)) (hc : C i j) : Ev (tOp (rI C g) ta tb) σ H (g i j) := ev_op ha hb (rv_I hc)
theorem ev_eq {x y : V} (ha : Ev ta σ H x) (hb : Ev tb σ H y) (h : scal x y = true) : Ev (tOp rEq ta tb) σ H (.bl (decide (x = y))) := ev_op ha hb (rv_eq h)
theorem ev_ne {x y : V} (ha : Ev ta σ H x) (hb : Ev tb σ H y) (h : scal x y = true) : Ev (tOp rNe ta tb) σ H (.bl (!decide (x = y))) := ev_op ha hb (rv_ne h)
theorem ev_cb1 {r : List V → Hp → VK → Prop} {x z : V} (ha : Ev ta σ H x) (hr : ∀ H1, Ex H H1 → ∀ Q : VK, Q z H1 → r [x] H1 Q) : Ev (tCB r (tCons ta tNil)) σ H z := fun H1 e Q q => ha H1 e _ fun H2 e2 => hr H2 (e.trans e2) Q (q H2 e2)
theorem ev_cb2 {r : List V → Hp → VK → Prop} {x y z : V} (ha : Ev ta σ H x) (hb : Ev tb σ H y) (hr : ∀ H1, Ex H H1 → ∀ Q : VK, Q z H1 → r [x, y] H1 Q) : Ev (tCB r (tCons ta (tCons tb tNil))) σ H z := fun H1 e Q q =>
  ha H1 e _ fun H2 e2 => hb H2 (e.trans e2) _ fun H3 e3 => hr H3 ((e.trans e2).trans e3) Q (q H3 (e2.trans e3))
end
/-! need_integer -/
abbrev sc_need_integerN : List Str := ["value"]
theorem sc_need_integer : FnScope sc_need_integerN ["value"] (defScope s_need_integer) := ⟨rfl, rfl, rfl, by decide +kernel, rfl, by decide +kernel, by decide +kernel⟩
theorem bd_need_integer : Bnd "need_integer" "need_integer" s_need_integer ["value"] := fun _ _ _ _ _ _ us hl => match us, hl with | [_], _ => rfl
def R_need_integer (Ps : List Pr) (P : Pr) : Prop := ∃ i : Int, Ps = [Is (.int i)] ∧ P = Is .non
theorem ok_need_integer (T : Tx K mg) : C8.Cal P w K mg base 1 "need_integer" (Fn R_need_integer) [] := by
  refine cal_of sc_need_integer bd_need_integer (fn_len (n := 1) fun Ps P h => by obtain ⟨i, rfl, _⟩ := h; rfl) (fun f cdv A outer s H vs Q E hr h => ?_) T.g_need_integer T.f_need_integer
  obtain ⟨_, _, ⟨i, rfl, rfl⟩, ha, k⟩ := h
  obtain ⟨_, rfl, rfl⟩ := all1 ha
  refine ⟨_, (pss_one (ps_if (PW.pt (pw_or (pt_val (pe_callB call_isi (by rfl) T.b_isinstance (by decide +kernel) (pa_cons (pv 0) (pa_cons (pe_bltn (v := .ty "bool") (by rfl) T.b_bool (by decide +kernel) rfl) pa_nil)))) (pw_or1 (pt_not (pt_val (pe_callB call_isi (by rfl) T.b_isinstance (by decide +kernel) (pa_cons (pv 0) (pa_cons (pe_bltn (v := .ty "int") (by rfl) T.b_int (by decide +kernel) rfl) pa_nil))))))))
        pss_never pss_nil)), ?_⟩
  refine s_not (et_or (a := false) (b := false) (et_B (ev_isiInt (ev_var rfl) (by decide +kernel))) fun _ => et_not (a := true) (et_B (ev_isiInt (ev_var rfl) (by decide +kernel)))) fun H1 e1 => k _ H1 e1 rfl
/-! greatest_divisor -/
abbrev sc_greatest_divisorN : List Str := ["one", "other"]
theorem sc_greatest_divisor : FnScope sc_greatest_divisorN ["one", "other"] (defScope s_greatest_divisor) := ⟨rfl, rfl, rfl, by decide +kernel, rfl, by decide +kernel, by decide +kernel⟩
theorem bd_greatest_divisor : Bnd "greatest_divisor" "greatest_divisor" s_greatest_divisor ["one", "other"] := fun _ _ _ _ _ _ us hl => match us, hl with | [_, _], _ => rfl
def R_greatest_divisor (Ps : List Pr) (P : Pr) : Prop := ∃ a b : Nat, Ps = [Is (.int a), Is (.int b)] ∧ P = Is (.int (Nat.gcd a b))
theorem ok_greatest_divisor (T : Tx K mg) : C8.Cal P w K mg base 1 "greatest_divisor" (Fn R_greatest_divisor) [] := by
  refine cal_of sc_greatest_divisor bd_greatest_divisor (fn_len (n := 2) fun Ps P h => by obtain ⟨a, b, rfl, _⟩ := h; rfl) (fun f cdv A outer s H vs Q E hr h => ?_) T.g_greatest_divisor T.f_greatest_divisor
  obtain ⟨_, _, ⟨a, b, rfl, rfl⟩, ha, k⟩ := h
  obtain ⟨_, _, rfl, rfl, rfl⟩ := all2 ha
  refine ⟨_, (pss_cons (ps_while PassesOwn.never (pt_cmpR op_gt (pv 1) pe_int (nomark _))
        (pss_one (ps_par (i := 0) (j := 1) (by rfl) sc_greatest_divisor.nd rfl rfl (by decide) rfl rfl (pa_cons (pv 1) (pa_cons (pe_op op_mod (pv 0) (pv 1)) pa_nil)) (by rfl))))
      (pss_one (ps_ret (pv 0)))), ?_⟩
  refine q_while (fun m σ' H' => ∃ x y : Nat, σ' = [some (.int x), some (.int y)] ∧ Nat.gcd x y = Nat.gcd a b ∧ m = y ∧ Ex H H') b ⟨a, b, rfl, rfl, rfl, Ex.refl H⟩ ?_
  rintro m σ' H' ⟨x, y, rfl, hg, hm, e⟩
  refine ⟨decide ((0 : Int) < (y : Int)), et_test (ev_i0 (ev_var rfl) ev_c), fun hb H1 e1 => ?_, fun hb H1 e1 => ?_⟩
  · have hy : 0 < y := by have := of_decide_eq_true hb; omega
    refine ⟨fun σ2 H2 => σ2 = [some (.int y), some (.int (x % y : Nat))] ∧ Ex H H2, fun σ2 H2 h2 => ⟨x % y, by rw [hm]; exact Nat.mod_lt _ hy, y, x % y, h2.1, ?_, rfl, h2.2⟩, ?_⟩
    · rw [← hg, Nat.gcd_comm x y, Nat.gcd_rec y x, Nat.gcd_comm]
    · refine ⟨.int y, rfl, ?_⟩
      refine ⟨.int x, rfl, .int y, rfl, x, y, rfl, rfl, by omega, .int y, .int ((x : Int) % (y : Int)), rfl, ?_, e.trans e1⟩
      rfl
  · have hy : y = 0 := by
      have h0 : ¬ (0 : Int) < (y : Int) := of_decide_eq_false hb
      omega
    subst hy
    refine s_ret (ev_var rfl) fun H2 e2 => k _ H2 ((e.trans e1).trans e2) ?_
    show V.int _ = V.int _
    rw [← hg, Nat.gcd_zero_right]
/-! Ratio -/
theorem nkd : ¬ (("ratio_num" : Str) = "ratio_den") := by decide +kernel
def ratF (n d : Int) : List (Str × V) := [("ratio_num", .int n), ("ratio_den", .int d)]
theorem ratF_eq (n d : Int) : putF "ratio_den" (.int d) (putF "ratio_num" (.int n) []) = ratF n d := by
  show (if ("ratio_num" : Str) = "ratio_den" then [(("ratio_num" : Str), V.int d)] else (("ratio_num" : Str), V.int n) :: putF "ratio_den" (V.int d) []) = ratF n d
  rw [if_neg nkd]
  rfl
theorem ratF_num (n d : Int) : (ratF n d).lookup ("ratio_num" : Str) = some (.int n) := by rw [← ratF_eq, lookup_putF, if_neg nkd, lookup_putF, if_pos rfl]
theorem ratF_den (n d : Int) : (ratF n d).lookup ("ratio_den" : Str) = some (.int d) := by rw [← ratF_eq, lookup_putF, if_pos rfl]
theorem ratF_no (n d : Int) {m : Str} (h1 : ¬ m = "ratio_num") (h2 : ¬ m = "ratio_den") : (ratF n d).lookup m = none := by
  rw [← ratF_eq, lookup_putF, if_neg h2, lookup_putF, if_neg h1]
  rfl
/-- a Ratio of this value -/
def RatP (K : PySem.W.Frag) (r : Rat) : Pr := InsP (CR K) (ratF r.num r.den)
abbrev sc_Ratio_initN : List Str := ["self", "numerator", "denominator", "shared"]
theorem sc_Ratio_init : FnScope sc_Ratio_initN ["self", "numerator", "denominator"] (defScope s_Ratio_init) := ⟨rfl, rfl, rfl, by decide +kernel, rfl, by decide +kernel, by decide +kernel⟩
def spRatio (K : PySem.W.Frag) : Sp := fun vs H Q _ => ∃ (p dx : Addr) (n : Int) (d : Nat), vs = [.ref p, .int n, .int d] ∧ 0 < d ∧ d < 2 ^ 8500 ∧ H p = some (.ins (CR K) dx []) ∧
  ∀ H', (∀ a o, a ≠ p → H a = some o → H' a = some o) → H' p = some (.ins (CR K) dx (ratF (mkRat n d).num (mkRat n d).den)) → Q .non H'
theorem fn_Ratio_init (T : Tx K mg) {fd : FuncData} (F : FnP K "__init__" "Ratio.__init__" s_Ratio_init [.int 1] [] (He.ma K (He.ga K "Ratio") "__init__") fd) : FnOk P w K mg base CX0 2 (He.ma K (He.ga K "Ratio") "__init__") fd ["self", "numerator", "denominator"] (spRatio K) := by
  refine F.ok sc_Ratio_init (fun vs H Q E h => by obtain ⟨p, dx, n, d, rfl, _⟩ := h; rfl) (fun cdv A outer s H vs Q E hr h => ?_)
  obtain ⟨p, dx, n, d, rfl, d0, dz, hp, k⟩ := h
  refine ⟨_, PSs.nox (pss_cons (ps_expr (C8.pe_c (ok_need_integer T) hr (by decide) rfl (pa_cons (pv 1) pa_nil)))
      (pss_cons (ps_expr (C8.pe_c (ok_need_integer T) hr (by decide) rfl (pa_cons (pv 2) pa_nil)))
      (pss_cons (ps_if (pt_cmpR op_eq (pv 2) pe_int (nomark _))
        pss_never pss_nil)
      (pss_cons (ps_set (i := 3) sc_Ratio_init.nd rfl (Or.inl rfl) (C8.pe_c (ok_greatest_divisor T) hr (by decide) rfl (pa_cons (pe_callB call_abs (by rfl) T.b_abs (by decide +kernel) (pa_cons (pv 1) pa_nil)) (pa_cons (pe_callB call_abs (by rfl) T.b_abs (by decide +kernel) (pa_cons (pv 2) pa_nil)) pa_nil))))
      (pss_cons (ps_if (pt_cmpR op_lt (pv 2) pe_int (nomark _))
        (pss_one (ps_set (i := 3) sc_Ratio_init.nd rfl (Or.inl rfl) (pe_un un_neg (pv 3)))) pss_nil)
      (pss_cons (ps_fld (pv 0) (pe_op op_fdivW (pv 1) (pv 3)) rfl)
      (pss_one (ps_fld (pv 0) (pe_op op_fdivW (pv 2) (pv 3)) rfl)))))))), ?_⟩
  refine q_dropP (ep_call (eap_cons (ep_is rfl) eap_nil) ⟨_, rfl, rfl⟩) fun _ H1 e1 _ => ?_
  refine q_dropP (ep_call (eap_cons (ep_is rfl) eap_nil) ⟨_, rfl, rfl⟩) fun _ H2 e2 _ => ?_
  refine q_not (et_is (et_test (ev_eq (ev_var rfl) ev_c rfl)) (decide_eq_false fun z => by injection z with z; omega)) fun H3 e3 => ?_
  have ea : ∀ i : Int, (if i < 0 then -i else i) = (i.natAbs : Int) := fun i => by split <;> omega
  refine q_asg (v := .int (Nat.gcd n.natAbs d)) (ev (ep_call (eap_cons (P := Is (.int (n.natAbs : Nat))) (ep (ev_cb1 (ev_var rfl) fun H1 _ Q q => ⟨n, rfl, by rw [ea]; exact q⟩)) (eap_cons (P := Is (.int (d : Nat))) (ep (ev_cb1 (ev_var rfl) fun H1 _ Q q => ⟨d, rfl, by rw [ea]; exact q⟩)) eap_nil)) ⟨_, _, rfl, rfl⟩)) fun H4 e4 => ?_
  refine q_not (et_is (et_test (ev_i0 (ev_var rfl) ev_c)) (decide_eq_false (by show ¬ (d : Int) < 0; omega))) fun H5 e5 => ?_
  have g0 : 0 < Nat.gcd n.natAbs d := Nat.gcd_pos_of_pos_right _ d0
  have gz : Nat.gcd n.natAbs d < 2 ^ 8500 := Nat.lt_of_le_of_lt (Nat.gcd_le_right _ d0) dz
  have hc : ∀ i : Int, CDivW i (Nat.gcd n.natAbs d : Nat) := fun i => wide_div (b := 8500) (by omega) gz (by decide) (by decide)
  have hp5 : H5 p = some (.ins (CR K) dx []) := e5 _ _ (e4 _ _ (e3 _ _ (e2 _ _ (e1 _ _ hp))))
  have e05 : Ex H H5 := (((e1.trans e2).trans e3).trans e4).trans e5
  refine ⟨_, rfl, _, rfl, n, _, rfl, rfl, hc n, .ref p, rfl, p, CR K, dx, [], rfl, hp5, T.c_Ratio, T.n_ratio_num, by show 0 < 1000; decide, ?_⟩
  refine ⟨_, rfl, _, rfl, (d : Int), _, rfl, rfl, hc d, .ref p, rfl, p, CR K, dx, _, rfl, upd_same, T.c_Ratio, T.n_ratio_den, by show 1 < 1000; decide, ?_⟩
  refine k _ (fun a o na ha => ?_) ?_
  · rw [upd_ne na, upd_ne na]
    exact e05 _ _ ha
  · rw [upd_same, ratF_eq, Rat.num_mkRat, Rat.den_mkRat, if_neg (by omega), if_neg (by omega), Nat.gcd_comm d]
    rfl
theorem ok_Ratio2 (T : Tx K mg) : C8.Mak P w K mg base 2 "Ratio" (CR K) (spRatio K) [] := by
  obtain ⟨fd, F⟩ := T.f_Ratio_init
  obtain ⟨ds, h1, h2⟩ := FunD.binds1 (ps := ["self", "numerator", "denominator"]) F 3 1 (by simp) rfl fun T kV doc pm an cdv ct us its l1 l2 => match us, its, l1, l2 with
    | [_, _, _], [_], _, _ => ⟨_, rfl, rfl⟩
  exact ⟨_, fd, _, ds, T.mk_Ratio, fn_Ratio_init T F, T.g_Ratio, h2, h1⟩
theorem ok_Ratio1 (T : Tx K mg) : C8.Mak P w K mg base 2 "Ratio" (CR K) (spRatio K) [.int 1] := by
  obtain ⟨fd, F⟩ := T.f_Ratio_init
  obtain ⟨ds, h1, h2⟩ := FunD.binds1 (ps := ["self", "numerator", "denominator"]) F 2 0 (by simp) rfl fun T kV doc pm an cdv ct us its l1 l2 => match us, its, l1, l2 with
    | [_, _], [_], _, _ => ⟨_, rfl, rfl⟩
  exact ⟨_, fd, _, ds, T.mk_Ratio, fn_Ratio_init T F, T.g_Ratio, h2, h1⟩
theorem one85 : 1 < 2 ^ 8500 := Nat.one_lt_two_pow (by omega)
section
variable {σ : L2.St} {H H' : Hp} {ta tb te tx : TE} {E : XK}
theorem ep_Ratio {n : Int} {d : Nat} {dvs : List V} {tl : TA} (h : EvA tl σ H [.int n, .int d]) (hd : dvs = []) (d0 : 0 < d) (dz : d < 2 ^ 8500) : EvP (tMake (CR K) (spRatio K) dvs E tl) σ H (RatP K (mkRat n d)) := fun H1 e Q q =>
  h H1 e _ fun H2 e2 => fun x dx nx ndx ne => by
    subst hd
    refine ⟨x, dx, n, d, rfl, d0, dz, upd_same, fun H3 k1 k2 => ⟨rfl, q (.ref x) H3 ?_ ⟨x, dx, rfl, k2⟩⟩⟩
    intro a o ha
    have ha2 := e2 a o ha
    have nax : a ≠ x := ne_of_none ha2 nx
    have nad : a ≠ dx := ne_of_none ha2 ndx
    exact k1 a o nax (by rw [upd_ne nax, upd_ne nad]; exact ha2)
theorem ep_Ratio2 {n : Int} {d : Nat} (ha : Ev ta σ H (.int n)) (hb : Ev tb σ H (.int d)) (d0 : 0 < d) (dz : d < 2 ^ 8500) : EvP (tMake (CR K) (spRatio K) [] E (tCons ta (tCons tb tNil))) σ H (RatP K (mkRat n d)) :=
  ep_Ratio (ea_cons ha (ea_cons hb ea_nil)) rfl d0 dz
theorem ep_Ratio1 {n : Int} (ha : Ev ta σ H (.int n)) : EvP (tMake (CR K) (spRatio K) [.int 1] E (tCons ta tNil)) σ H (RatP K (n : Rat)) := fun H1 e Q q =>
  ha H1 e _ fun H2 e2 => fun x dx nx ndx ne => by
    refine ⟨x, dx, n, 1, rfl, by decide, one85, upd_same, fun H3 k1 k2 => ⟨rfl, q (.ref x) H3 ?_ ⟨x, dx, rfl, ?_⟩⟩⟩
    · intro a o ha
      have ha2 := e2 a o ha
      have nax : a ≠ x := ne_of_none ha2 nx
      have nad : a ≠ dx := ne_of_none ha2 ndx
      exact k1 a o nax (by rw [upd_ne nax, upd_ne nad]; exact ha2)
    · have e1 : mkRat n 1 = (n : Rat) := by
        exact Rat.mkRat_self (n : Rat)
      rw [← e1]
      exact k2
end
end
end Rs
/-! Ratios, 2: the methods, sums, products. -/
namespace Rs
open PySem PySem.Spec PyProof.Rows L2 Evl
/-- a list | a tuple of things with these properties -/
def LstP (Ps : List Pr) : Pr := ⟨fun v H => ∃ a vs, v = .ref a ∧ H a = some (.lst vs) ∧ AllP Ps vs H, fun e h => by
  obtain ⟨a, vs, h1, h2, h3⟩ := h
  exact ⟨a, vs, h1, e _ _ h2, h3.up e⟩⟩
def TupP (Ps : List Pr) : Pr := ⟨fun v H => ∃ a vs, v = .ref a ∧ H a = some (.tup vs) ∧ AllP Ps vs H, fun e h => by
  obtain ⟨a, vs, h1, h2, h3⟩ := h
  exact ⟨a, vs, h1, e _ _ h2, h3.up e⟩⟩
/-- small enough to be multiplied -/
def Sm (r : Rat) : Prop := r.num.natAbs < 2 ^ 4200 ∧ r.den < 2 ^ 4200
theorem pow_pos2 (n : Nat) : 0 < 2 ^ n := Nat.two_pow_pos n
theorem sm_mul {a b : Int} (ha : a.natAbs < 2 ^ 4200) (hb : b.natAbs < 2 ^ 4200) : CMulW a b := wide_mul ha hb (by omega) (by omega) (by omega)
theorem sm_den {a b : Nat} (ha : a < 2 ^ 4200) (hb : b < 2 ^ 4200) : a * b < 2 ^ 8500 := by
  have h1 : a * b < 2 ^ (4200 + 4200) := by
    rw [Nat.pow_add]
    exact Nat.mul_lt_mul'' ha hb
  exact Nat.lt_of_lt_of_le h1 (Nat.pow_le_pow_right (by omega) (by omega))
section
variable {P : Program} {w : World} {K : PySem.W.Frag} {mg : Str → Option Value} {base : Heap}
section
variable {σ : L2.St} {H H' : Hp} {ta tb te tx : TE} {v : V} {r s : Rat} {E : XK}
/-- o.f of an instance -/
theorem ep_fld {C : Addr} {fs : List (Str × V)} {f : Str} (h : EvP ta σ H (InsP C fs)) (hc : Cls K C) (hn : NoAttr K C f) (hl : fs.lookup f = some v) : Ev (tFld K ta f) σ H v := fun H1 e Q q =>
  h H1 e _ fun x H2 e2 hx => by
    obtain ⟨a, dx, rfl, ha⟩ := hx
    exact ⟨a, C, dx, fs, v, rfl, ha, hc, hn, hl, q H2 e2⟩
theorem ev_isIns {C : Addr} {fs : List (Str × V)} (h : EvP ta σ H (InsP C fs)) (i : C8.InsC K C) : Ev (tCB (rIsi K) (tCons ta (tCons (tC (.ref C)) tNil))) σ H (.bl true) := fun H1 e Q q =>
  h H1 e _ fun x H2 e2 hx => by
    obtain ⟨a, dx, rfl, ha⟩ := hx
    exact ⟨_, _, _, _, true, rfl, .own C, .base (.ins ha i.cl i.ha i.hn i.htk i.hm), i.me, q H2 e2⟩
theorem ev_isLT {Ps : List Pr} (h : EvP ta σ H (LstP Ps)) : Ev (tCB (rIsiT K) (tCons ta (tCons (tTup (tCons (tC (.ty "list")) (tCons (tC (.ty "tuple")) tNil))) tNil))) σ H (.bl true) := fun H1 e Q q =>
  h H1 e _ fun x H2 e2 hx => by
    obtain ⟨a, vs, rfl, ha, _⟩ := hx
    refine ⟨by show 2 ≤ sizeLine; decide, fun p hp => ⟨_, p, _, _, [.type "list", .type "tuple"], true, rfl, upd_same, .cons (.ty _) (.cons (.ty _) .nil), .base (.lst (Ex.new hp _ _ ha)), ?_, q _ (e2.trans (Ex.new hp))⟩⟩
    exact kitAny_cons (b := true) (kit_ty (by decide +kernel)) (fun z => nomatch z) fun _ => rfl
theorem rat_no {v : V} {H : Hp} {m : Str} (h1 : ¬ m = "ratio_num") (h2 : ¬ m = "ratio_den") (h : (RatP K r).p v H) : ∃ a dx fs, v = .ref a ∧ H a = some (.ins (CR K) dx fs) ∧ fs.lookup m = none := by
  obtain ⟨a, dx, rfl, ha⟩ := h
  exact ⟨a, dx, _, rfl, ha, ratF_no _ _ h1 h2⟩
end
/-! need_ratio -/
abbrev sc_need_ratioN : List Str := ["value"]
theorem sc_need_ratio : FnScope sc_need_ratioN ["value"] (defScope s_need_ratio) := ⟨rfl, rfl, rfl, by decide +kernel, rfl, by decide +kernel, by decide +kernel⟩
theorem bd_need_ratio : Bnd "need_ratio" "need_ratio" s_need_ratio ["value"] := fun _ _ _ _ _ _ us hl => match us, hl with | [_], _ => rfl
def R_need_ratio (K : PySem.W.Frag) (Ps : List Pr) (P : Pr) : Prop := ∃ r : Rat, Ps = [RatP K r] ∧ P = Is .non
theorem ok_need_ratio (T : Tx K mg) : C8.Cal P w K mg base 1 "need_ratio" (Fn (R_need_ratio K)) [] := by
  refine cal_of sc_need_ratio bd_need_ratio (fn_len (n := 1) fun Ps P h => by obtain ⟨i, rfl, _⟩ := h; rfl) (fun f cdv A outer s H vs Q E hr h => ?_) T.g_need_ratio T.f_need_ratio
  obtain ⟨_, _, ⟨r, rfl, rfl⟩, ha, k⟩ := h
  obtain ⟨x, rfl, hx⟩ := all1 ha
  refine ⟨_, (pss_one (ps_if (pt_not (pt_val (pe_callB call_isi (by rfl) T.b_isinstance (by decide +kernel) (pa_cons (pv 0) (pa_cons (pe_glob (v := .ref (He.ga _ "Ratio")) rfl T.g_Ratio rfl) pa_nil)))))
        pss_never pss_nil)), ?_⟩
  refine s_not (et_not (a := true) (et_B (ev_isIns (ep_var rfl hx) T.i_Ratio))) fun H1 e1 => k _ H1 e1 rfl
/-! num, den, sign -/
abbrev sc_Ratio_numN : List Str := ["self"]
theorem sc_Ratio_num : FnScope sc_Ratio_numN ["self"] (defScope s_Ratio_num) := ⟨rfl, rfl, rfl, by decide +kernel, rfl, by decide +kernel, by decide +kernel⟩
theorem bd_Ratio_num : Bnd "num" "Ratio.num" s_Ratio_num ["self"] := fun _ _ _ _ _ _ us hl => match us, hl with | [_], _ => rfl
def R_num (K : PySem.W.Frag) (Ps : List Pr) (P : Pr) : Prop := ∃ r : Rat, Ps = [RatP K r] ∧ P = Is (.int r.num)
theorem ok_Ratio_num (T : Tx K mg) : C8.Met P w K mg base 1 (CR K) "num" (Fn (R_num K)) [] := by
  refine met_of sc_Ratio_num bd_Ratio_num (fn_len (n := 1) fun Ps P h => by obtain ⟨i, rfl, _⟩ := h; rfl) (fun f cdv A outer s H vs Q E hr h => ?_) T.c_Ratio T.m_Ratio_num T.f_Ratio_num
  obtain ⟨_, _, ⟨r, rfl, rfl⟩, ha, k⟩ := h
  obtain ⟨x, rfl, hx⟩ := all1 ha
  refine ⟨_, (pss_one (ps_ret (pe_fld (pv 0) rfl))), ?_⟩
  refine s_ret (ep_fld (ep_var rfl hx) T.c_Ratio T.n_ratio_num (ratF_num _ _)) fun H1 e1 => k _ H1 e1 rfl
abbrev sc_Ratio_denN : List Str := ["self"]
theorem sc_Ratio_den : FnScope sc_Ratio_denN ["self"] (defScope s_Ratio_den) := ⟨rfl, rfl, rfl, by decide +kernel, rfl, by decide +kernel, by decide +kernel⟩
theorem bd_Ratio_den : Bnd "den" "Ratio.den" s_Ratio_den ["self"] := fun _ _ _ _ _ _ us hl => match us, hl with | [_], _ => rfl
def R_den (K : PySem.W.Frag) (Ps : List Pr) (P : Pr) : Prop := ∃ r : Rat, Ps = [RatP K r] ∧ P = Is (.int r.den)
theorem ok_Ratio_den (T : Tx K mg) : C8.Met P w K mg base 1 (CR K) "den" (Fn (R_den K)) [] := by
  refine met_of sc_Ratio_den bd_Ratio_den (fn_len (n := 1) fun Ps P h => by obtain ⟨i, rfl, _⟩ := h; rfl) (fun f cdv A outer s H vs Q E hr h => ?_) T.c_Ratio T.m_Ratio_den T.f_Ratio_den
  obtain ⟨_, _, ⟨r, rfl, rfl⟩, ha, k⟩ := h
  obtain ⟨x, rfl, hx⟩ := all1 ha
  refine ⟨_, (pss_one (ps_ret (pe_fld (pv 0) rfl))), ?_⟩
  refine s_ret (ep_fld (ep_var rfl hx) T.c_Ratio T.n_ratio_den (ratF_den _ _)) fun H1 e1 => k _ H1 e1 rfl
abbrev sc_Ratio_signN : List Str := ["self"]
theorem sc_Ratio_sign : FnScope sc_Ratio_signN ["self"] (defScope s_Ratio_sign) := ⟨rfl, rfl, rfl, by decide +kernel, rfl, by decide +kernel, by decide +kernel⟩
theorem bd_Ratio_sign : Bnd "sign" "Ratio.sign" s_Ratio_sign ["self"] := fun _ _ _ _ _ _ us hl => match us, hl with | [_], _ => rfl
def sgn (r : Rat) : Int := if r.num = 0 then 0 else if 0 < r.num then 1 else -1
def R_sign (K : PySem.W.Frag) (Ps : List Pr) (P : Pr) : Prop := ∃ r : Rat, Ps = [RatP K r] ∧ P = Is (.int (sgn r))
theorem ok_Ratio_sign (T : Tx K mg) : C8.Met P w K mg base 1 (CR K) "sign" (Fn (R_sign K)) [] := by
  refine met_of sc_Ratio_sign bd_Ratio_sign (fn_len (n := 1) fun Ps P h => by obtain ⟨i, rfl, _⟩ := h; rfl) (fun f cdv A outer s H vs Q E hr h => ?_) T.c_Ratio T.m_Ratio_sign T.f_Ratio_sign
  obtain ⟨_, _, ⟨r, rfl, rfl⟩, ha, k⟩ := h
  obtain ⟨x, rfl, hx⟩ := all1 ha
  refine ⟨_, (pss_cons (ps_if (pt_cmpR op_eq (pe_fld (pv 0) rfl) pe_int (nomark _))
        (pss_one (ps_ret pe_int)) pss_nil)
      (pss_one (ps_ret (pe_ifExp (pt_cmpR op_gt (pe_fld (pv 0) rfl) pe_int (nomark _)) pe_int (pe_un un_neg pe_int))))), ?_⟩
  have hn : ∀ H1, Ex H H1 → Ev (tFld K (tVar 0) "ratio_num") (start sc_Ratio_signN [x]) H1 (.int r.num) := fun H1 e => (ep_fld (ep_var rfl hx) T.c_Ratio T.n_ratio_num (ratF_num _ _)).mono e
  refine q_when (et_test (ev_eq (hn H (Ex.refl H)) ev_c rfl)) (fun hb H1 e1 => ?_) (fun hb H1 e1 => ?_)
  · have hz : r.num = 0 := by
      have := of_decide_eq_true hb
      injection this
    refine s_ret ev_c fun H2 e2 => k _ H2 (e1.trans e2) ?_
    show V.int 0 = V.int (sgn r)
    rw [sgn, if_pos hz]
  · have hz : ¬ r.num = 0 := fun z => by
      have := of_decide_eq_false hb
      exact this (by rw [z])
    refine s_ret (ev_if (v := .int (sgn r)) (et_test (ev_i0 (hn H1 e1) ev_c)) (fun hc => ?_) (fun hc => ?_)) fun H2 e2 => k _ H2 (e1.trans e2) rfl
    · have e : sgn r = 1 := by rw [sgn, if_neg hz, if_pos (of_decide_eq_true hc)]
      rw [e]
      exact ev_c
    · have e : sgn r = -1 := by rw [sgn, if_neg hz, if_neg (of_decide_eq_false hc)]
      rw [e]
      exact ev_un1 (g := fun i => .int (-i)) ev_c
section
variable {σ : L2.St} {H H' : Hp} {ta tb te tx : TE} {v : V} {r s : Rat} {E : XK}
theorem ev_num (h : EvP ta σ H (RatP K r)) : Ev (tMeth (CR K) "num" (Fn (R_num K)) [] E ta tNil) σ H (.int r.num) := ev (ep_meth h (fun _ _ => rat_no (by decide +kernel) (by decide +kernel)) eap_nil ⟨r, rfl, rfl⟩)
theorem ev_den (h : EvP ta σ H (RatP K r)) : Ev (tMeth (CR K) "den" (Fn (R_den K)) [] E ta tNil) σ H (.int r.den) := ev (ep_meth h (fun _ _ => rat_no (by decide +kernel) (by decide +kernel)) eap_nil ⟨r, rfl, rfl⟩)
theorem ev_sign (h : EvP ta σ H (RatP K r)) : Ev (tMeth (CR K) "sign" (Fn (R_sign K)) [] E ta tNil) σ H (.int (sgn r)) := ev (ep_meth h (fun _ _ => rat_no (by decide +kernel) (by decide +kernel)) eap_nil ⟨r, rfl, rfl⟩)
theorem ev_need_ratio (h : EvP ta σ H (RatP K r)) : Ev (tCall (Fn (R_need_ratio K)) [] E (tCons ta tNil)) σ H .non := ev (ep_call (eap_cons h eap_nil) ⟨r, rfl, rfl⟩)
end
/-! add, subtract, multiply -/
def R_two (K : PySem.W.Frag) (f : Rat → Rat → Rat) (Ps : List Pr) (P : Pr) : Prop := ∃ r s : Rat, Sm r ∧ Sm s ∧ Ps = [RatP K r, RatP K s] ∧ P = RatP K (f r s)
abbrev sc_Ratio_addN : List Str := ["self", "other"]
theorem sc_Ratio_add : FnScope sc_Ratio_addN ["self", "other"] (defScope s_Ratio_add) := ⟨rfl, rfl, rfl, by decide +kernel, rfl, by decide +kernel, by decide +kernel⟩
theorem bd_Ratio_add : Bnd "add" "Ratio.add" s_Ratio_add ["self", "other"] := fun _ _ _ _ _ _ us hl => match us, hl with | [_, _], _ => rfl
theorem ok_Ratio_add (T : Tx K mg) : C8.Met P w K mg base 4 (CR K) "add" (Fn (R_two K (· + ·))) [] := by
  refine met_of sc_Ratio_add bd_Ratio_add (fn_len (n := 2) fun Ps P h => by obtain ⟨r, s, _, _, rfl, _⟩ := h; rfl) (fun f cdv A outer st H vs Q E hr h => ?_) T.c_Ratio T.m_Ratio_add T.f_Ratio_add
  obtain ⟨_, _, ⟨r, s, hr1, hs1, rfl, rfl⟩, ha, k⟩ := h
  obtain ⟨x, y, rfl, hx, hy⟩ := all2 ha
  refine ⟨_, (pss_cons (ps_expr (C8.pe_c (ok_need_ratio T) hr (by decide) rfl (pa_cons (pv 1) pa_nil)))
      (pss_one (ps_ret (C8.pe_mk (ok_Ratio2 T) hr (by decide) rfl (pa_cons (pe_op op_add (pe_op op_mulW (C8.pe_mt0 (ok_Ratio_num T) hr (by decide) (pv 0)) (C8.pe_mt0 (ok_Ratio_den T) hr (by decide) (pv 1))) (pe_op op_mulW (C8.pe_mt0 (ok_Ratio_num T) hr (by decide) (pv 1)) (C8.pe_mt0 (ok_Ratio_den T) hr (by decide) (pv 0)))) (pa_cons (pe_op op_mulW (C8.pe_mt0 (ok_Ratio_den T) hr (by decide) (pv 0)) (C8.pe_mt0 (ok_Ratio_den T) hr (by decide) (pv 1))) pa_nil)))))), ?_⟩
  refine q_drop (ev_need_ratio (ep_var rfl hy)) fun H1 e1 => ?_
  have hx := (RatP K r).up e1 hx
  have hy := (RatP K s).up e1 hy
  refine s_retP (ep_Ratio2 (n := r.num * (s.den : Int) + s.num * (r.den : Int)) (d := r.den * s.den) (ev_i0 (ev_i (ev_num (ep_var rfl hx)) (ev_den (ep_var rfl hy)) (sm_mul hr1.1 hs1.2)) (ev_i (ev_num (ep_var rfl hy)) (ev_den (ep_var rfl hx)) (sm_mul hs1.1 hr1.2)))
    (ev_is (ev_i (ev_den (ep_var rfl hx)) (ev_den (ep_var rfl hy)) (sm_mul hr1.2 hs1.2)) (by rw [Int.natCast_mul])) (Nat.mul_pos r.den_pos s.den_pos) (sm_den hr1.2 hs1.2)) fun v H2 e2 hv => ?_
  refine k v H2 (e1.trans e2) ?_
  show (RatP K (r + s)).p v H2
  rw [Rat.add_def']
  exact hv
abbrev sc_Ratio_subtractN : List Str := ["self", "other"]
theorem sc_Ratio_subtract : FnScope sc_Ratio_subtractN ["self", "other"] (defScope s_Ratio_subtract) := ⟨rfl, rfl, rfl, by decide +kernel, rfl, by decide +kernel, by decide +kernel⟩
theorem bd_Ratio_subtract : Bnd "subtract" "Ratio.subtract" s_Ratio_subtract ["self", "other"] := fun _ _ _ _ _ _ us hl => match us, hl with | [_, _], _ => rfl
theorem ok_Ratio_subtract (T : Tx K mg) : C8.Met P w K mg base 4 (CR K) "subtract" (Fn (R_two K (· - ·))) [] := by
  refine met_of sc_Ratio_subtract bd_Ratio_subtract (fn_len (n := 2) fun Ps P h => by obtain ⟨r, s, _, _, rfl, _⟩ := h; rfl) (fun f cdv A outer st H vs Q E hr h => ?_) T.c_Ratio T.m_Ratio_subtract T.f_Ratio_subtract
  obtain ⟨_, _, ⟨r, s, hr1, hs1, rfl, rfl⟩, ha, k⟩ := h
  obtain ⟨x, y, rfl, hx, hy⟩ := all2 ha
  refine ⟨_, (pss_cons (ps_expr (C8.pe_c (ok_need_ratio T) hr (by decide) rfl (pa_cons (pv 1) pa_nil)))
      (pss_one (ps_ret (C8.pe_mk (ok_Ratio2 T) hr (by decide) rfl (pa_cons (pe_op op_sub (pe_op op_mulW (C8.pe_mt0 (ok_Ratio_num T) hr (by decide) (pv 0)) (C8.pe_mt0 (ok_Ratio_den T) hr (by decide) (pv 1))) (pe_op op_mulW (C8.pe_mt0 (ok_Ratio_num T) hr (by decide) (pv 1)) (C8.pe_mt0 (ok_Ratio_den T) hr (by decide) (pv 0)))) (pa_cons (pe_op op_mulW (C8.pe_mt0 (ok_Ratio_den T) hr (by decide) (pv 0)) (C8.pe_mt0 (ok_Ratio_den T) hr (by decide) (pv 1))) pa_nil)))))), ?_⟩
  refine q_drop (ev_need_ratio (ep_var rfl hy)) fun H1 e1 => ?_
  have hx := (RatP K r).up e1 hx
  have hy := (RatP K s).up e1 hy
  refine s_retP (ep_Ratio2 (n := r.num * (s.den : Int) - s.num * (r.den : Int)) (d := r.den * s.den) (ev_i0 (ev_i (ev_num (ep_var rfl hx)) (ev_den (ep_var rfl hy)) (sm_mul hr1.1 hs1.2)) (ev_i (ev_num (ep_var rfl hy)) (ev_den (ep_var rfl hx)) (sm_mul hs1.1 hr1.2)))
    (ev_is (ev_i (ev_den (ep_var rfl hx)) (ev_den (ep_var rfl hy)) (sm_mul hr1.2 hs1.2)) (by rw [Int.natCast_mul])) (Nat.mul_pos r.den_pos s.den_pos) (sm_den hr1.2 hs1.2)) fun v H2 e2 hv => ?_
  refine k v H2 (e1.trans e2) ?_
  show (RatP K (r - s)).p v H2
  rw [Rat.sub_def']
  exact hv
abbrev sc_Ratio_multiplyN : List Str := ["self", "other"]
theorem sc_Ratio_multiply : FnScope sc_Ratio_multiplyN ["self", "other"] (defScope s_Ratio_multiply) := ⟨rfl, rfl, rfl, by decide +kernel, rfl, by decide +kernel, by decide +kernel⟩
theorem bd_Ratio_multiply : Bnd "multiply" "Ratio.multiply" s_Ratio_multiply ["self", "other"] := fun _ _ _ _ _ _ us hl => match us, hl with | [_, _], _ => rfl
theorem ok_Ratio_multiply (T : Tx K mg) : C8.Met P w K mg base 4 (CR K) "multiply" (Fn (R_two K (· * ·))) [] := by
  refine met_of sc_Ratio_multiply bd_Ratio_multiply (fn_len (n := 2) fun Ps P h => by obtain ⟨r, s, _, _, rfl, _⟩ := h; rfl) (fun f cdv A outer st H vs Q E hr h => ?_) T.c_Ratio T.m_Ratio_multiply T.f_Ratio_multiply
  obtain ⟨_, _, ⟨r, s, hr1, hs1, rfl, rfl⟩, ha, k⟩ := h
  obtain ⟨x, y, rfl, hx, hy⟩ := all2 ha
  refine ⟨_, (pss_cons (ps_expr (C8.pe_c (ok_need_ratio T) hr (by decide) rfl (pa_cons (pv 1) pa_nil)))
      (pss_one (ps_ret (C8.pe_mk (ok_Ratio2 T) hr (by decide) rfl (pa_cons (pe_op op_mulW (C8.pe_mt0 (ok_Ratio_num T) hr (by decide) (pv 0)) (C8.pe_mt0 (ok_Ratio_num T) hr (by decide) (pv 1))) (pa_cons (pe_op op_mulW (C8.pe_mt0 (ok_Ratio_den T) hr (by decide) (pv 0)) (C8.pe_mt0 (ok_Ratio_den T) hr (by decide) (pv 1))) pa_nil)))))), ?_⟩
  refine q_drop (ev_need_ratio (ep_var rfl hy)) fun H1 e1 => ?_
  have hx := (RatP K r).up e1 hx
  have hy := (RatP K s).up e1 hy
  refine s_retP (ep_Ratio2 (n := r.num * s.num) (d := r.den * s.den) (ev_i (ev_num (ep_var rfl hx)) (ev_num (ep_var rfl hy)) (sm_mul hr1.1 hs1.1))
    (ev_is (ev_i (ev_den (ep_var rfl hx)) (ev_den (ep_var rfl hy)) (sm_mul hr1.2 hs1.2)) (by rw [Int.natCast_mul])) (Nat.mul_pos r.den_pos s.den_pos) (sm_den hr1.2 hs1.2)) fun v H2 e2 hv => ?_
  refine k v H2 (e1.trans e2) ?_
  show (RatP K (r * s)).p v H2
  rw [Rat.mul_def']
  exact hv
section
variable {σ : L2.St} {H H' : Hp} {ta tb te tx : TE} {v : V} {r s : Rat} {E : XK}
theorem ep_add (ha : EvP ta σ H (RatP K r)) (hb : EvP tb σ H (RatP K s)) (h1 : Sm r) (h2 : Sm s) : EvP (tMeth (CR K) "add" (Fn (R_two K (· + ·))) [] E ta (tCons tb tNil)) σ H (RatP K (r + s)) := ep_meth ha (fun _ _ => rat_no (by decide +kernel) (by decide +kernel)) (eap_cons hb eap_nil) ⟨r, s, h1, h2, rfl, rfl⟩
theorem ep_sub (ha : EvP ta σ H (RatP K r)) (hb : EvP tb σ H (RatP K s)) (h1 : Sm r) (h2 : Sm s) : EvP (tMeth (CR K) "subtract" (Fn (R_two K (· - ·))) [] E ta (tCons tb tNil)) σ H (RatP K (r - s)) := ep_meth ha (fun _ _ => rat_no (by decide +kernel) (by decide +kernel)) (eap_cons hb eap_nil) ⟨r, s, h1, h2, rfl, rfl⟩
theorem ep_mul (ha : EvP ta σ H (RatP K r)) (hb : EvP tb σ H (RatP K s)) (h1 : Sm r) (h2 : Sm s) : EvP (tMeth (CR K) "multiply" (Fn (R_two K (· * ·))) [] E ta (tCons tb tNil)) σ H (RatP K (r * s)) := ep_meth ha (fun _ _ => rat_no (by decide +kernel) (by decide +kernel)) (eap_cons hb eap_nil) ⟨r, s, h1, h2, rfl, rfl⟩
end
/-! less_than, == -/
theorem sgn_neg (r : Rat) : (sgn r < 0) ↔ r < 0 := by
  have h := Rat.lt_iff r 0
  have e : r.num * ((0 : Rat).den : Int) = r.num := by
    show r.num * 1 = r.num
    omega
  rw [e] at h
  have e0 : (0 : Rat).num * (r.den : Int) = 0 := Int.zero_mul _
  rw [e0] at h
  rw [h]
  unfold sgn
  split
  · omega
  · split <;> omega
theorem sgn_pos (r : Rat) : (sgn r = 1) ↔ 0 < r := by
  have h := Rat.lt_iff 0 r
  have e : r.num * ((0 : Rat).den : Int) = r.num := by
    show r.num * 1 = r.num
    omega
  rw [e] at h
  have e0 : (0 : Rat).num * (r.den : Int) = 0 := Int.zero_mul _
  rw [e0] at h
  rw [h]
  unfold sgn
  split
  · omega
  · split <;> omega
abbrev sc_Ratio_less_thanN : List Str := ["self", "other"]
theorem sc_Ratio_less_than : FnScope sc_Ratio_less_thanN ["self", "other"] (defScope s_Ratio_less_than) := ⟨rfl, rfl, rfl, by decide +kernel, rfl, by decide +kernel, by decide +kernel⟩
theorem bd_Ratio_less_than : Bnd "less_than" "Ratio.less_than" s_Ratio_less_than ["self", "other"] := fun _ _ _ _ _ _ us hl => match us, hl with | [_, _], _ => rfl
def R_less (K : PySem.W.Frag) (Ps : List Pr) (P : Pr) : Prop := ∃ r s : Rat, Sm r ∧ Sm s ∧ Ps = [RatP K r, RatP K s] ∧ P = Is (.bl (decide (r < s)))
theorem ok_Ratio_less_than (T : Tx K mg) : C8.Met P w K mg base 5 (CR K) "less_than" (Fn (R_less K)) [] := by
  refine met_of sc_Ratio_less_than bd_Ratio_less_than (fn_len (n := 2) fun Ps P h => by obtain ⟨r, s, _, _, rfl, _⟩ := h; rfl) (fun f cdv A outer st H vs Q E hr h => ?_) T.c_Ratio T.m_Ratio_less_than T.f_Ratio_less_than
  obtain ⟨_, _, ⟨r, s, hr1, hs1, rfl, rfl⟩, ha, k⟩ := h
  obtain ⟨x, y, rfl, hx, hy⟩ := all2 ha
  refine ⟨_, (pss_one (ps_ret (pe_cmpR op_lt (C8.pe_mt0 (ok_Ratio_sign T) hr (by decide) (C8.pe_mt (ok_Ratio_subtract T) hr (by decide) (pv 0) (pa_cons (pv 1) pa_nil))) pe_int (nomark _)))), ?_⟩
  refine s_ret (ev_i0 (ev_sign (ep_sub (ep_var rfl hx) (ep_var rfl hy) hr1 hs1)) ev_c) fun H1 e1 => k _ H1 e1 ?_
  show V.bl _ = V.bl _
  congr 1
  have h1 := sgn_neg (r - s)
  have h2 : r - s < 0 ↔ r < s := by
    constructor <;> intro h <;> grind
  exact decide_eq_decide.mpr (h1.trans h2)
abbrev sc_Ratio_eqN : List Str := ["self", "other"]
theorem sc_Ratio_eq : FnScope sc_Ratio_eqN ["self", "other"] (defScope s_Ratio_eq) := ⟨rfl, rfl, rfl, by decide +kernel, rfl, by decide +kernel, by decide +kernel⟩
theorem bd_Ratio_eq : Bnd "__eq__" "Ratio.__eq__" s_Ratio_eq ["self", "other"] := fun _ _ _ _ _ _ us hl => match us, hl with | [_, _], _ => rfl
def eqRat (K : PySem.W.Frag) (a b : Addr) (H : Hp) : Prop := ∃ (r : Rat), (RatP K r).p (.ref a) H ∧ (RatP K r).p (.ref b) H
theorem rcG_ratio {X : Cx} (T : Tx X.K X.mg) : RcG X 2 (DIns (CR X.K) (eqRat X.K)) := by
  obtain ⟨fd, F⟩ := T.f_Ratio_eq
  refine rcG_ins (CX := CX0) (fd := fd) (ps := ["self", "other"]) (E := E0) ?_ T.m_Ratio_eq.at_ T.m_Ratio_eq.fn (F.bindsN bd_Ratio_eq) pass0
  refine F.ok sc_Ratio_eq (fun vs H Q E h => by obtain ⟨a, b, rfl, _⟩ := h; rfl) (fun cdv A outer s H vs Q E hr h => ?_)
  obtain ⟨a, b, rfl, ⟨r, hx, hy⟩, k⟩ := h
  refine ⟨_, PSs.nox (pss_one (ps_ret (pe_and (pe_callB call_isi (by rfl) T.b_isinstance (by decide +kernel) (pa_cons (pv 1) (pa_cons (pe_glob (v := .ref (He.ga _ "Ratio")) rfl T.g_Ratio rfl) pa_nil))) (pe_and (pe_cmpR op_eq (C8.pe_mt0 (ok_Ratio_num T) hr (by decide) (pv 0)) (C8.pe_mt0 (ok_Ratio_num T) hr (by decide) (pv 1)) (nomark _)) (pe_one (pe_cmpR op_eq (C8.pe_mt0 (ok_Ratio_den T) hr (by decide) (pv 0)) (C8.pe_mt0 (ok_Ratio_den T) hr (by decide) (pv 1)) (nomark _))))))), ?_⟩
  refine s_ret (ev_is (v := .bl (true && (true && true))) (ev_andV (ev_isIns (ep_var rfl hy) T.i_Ratio) fun _ => ev_andV (ev_is (ev_eq (ev_num (ep_var rfl hx)) (ev_num (ep_var rfl hy)) rfl) (by rw [decide_eq_true rfl])) fun _ => ev_is (ev_eq (ev_den (ep_var rfl hx)) (ev_den (ep_var rfl hy)) rfl) (by rw [decide_eq_true rfl])) rfl) fun H1 e1 => k H1 e1
section
variable {σ : L2.St} {H H' : Hp} {ta tb te tx : TE} {v : V} {r s : Rat} {E : XK}
theorem ep_less (ha : EvP ta σ H (RatP K r)) (hb : EvP tb σ H (RatP K s)) (h1 : Sm r) (h2 : Sm s) : Ev (tMeth (CR K) "less_than" (Fn (R_less K)) [] E ta (tCons tb tNil)) σ H (.bl (decide (r < s))) := ev (ep_meth ha (fun _ _ => rat_no (by decide +kernel) (by decide +kernel)) (eap_cons hb eap_nil) ⟨r, s, h1, h2, rfl, rfl⟩)
theorem ev_ratEq (ha : EvP ta σ H (RatP K r)) (hb : EvP tb σ H (RatP K r)) : Ev (tOp (rEqG (DIns (CR K) (eqRat K))) ta tb) σ H (.bl true) := fun H1 e Q q =>
  ha H1 e _ fun x H2 e2 hx => hb H2 (e.trans e2) _ fun y H3 e3 hy => by
    have hx := (RatP K r).up e3 hx
    obtain ⟨a, dx, rfl, ha⟩ := id hx
    obtain ⟨b, dy, rfl, hb⟩ := id hy
    exact ⟨⟨a, b, dx, dy, _, _, rfl, rfl, ha, hb, r, hx, hy⟩, fun H4 e4 => q H4 ((e2.trans e3).trans e4)⟩
end
/-! need_ratios, ratio_sum, ratio_product -/
abbrev sc_need_ratiosN : List Str := ["values", "value"]
theorem sc_need_ratios : FnScope sc_need_ratiosN ["values"] (defScope s_need_ratios) := ⟨rfl, rfl, rfl, by decide +kernel, rfl, by decide +kernel, by decide +kernel⟩
theorem bd_need_ratios : Bnd "need_ratios" "need_ratios" s_need_ratios ["values"] := fun _ _ _ _ _ _ us hl => match us, hl with | [_], _ => rfl
def R_need_ratios (K : PySem.W.Frag) (Ps : List Pr) (P : Pr) : Prop := ∃ rs : List Rat, Ps = [LstP (rs.map (RatP K))] ∧ P = Is .non
theorem ok_need_ratios (T : Tx K mg) : C8.Cal P w K mg base 2 "need_ratios" (Fn (R_need_ratios K)) [] := by
  refine cal_of sc_need_ratios bd_need_ratios (fn_len (n := 1) fun Ps P h => by obtain ⟨i, rfl, _⟩ := h; rfl) (fun f cdv A outer s H vs Q E hr h => ?_) T.g_need_ratios T.f_need_ratios
  obtain ⟨_, _, ⟨rs, rfl, rfl⟩, ha, k⟩ := h
  obtain ⟨x, rfl, hx⟩ := all1 ha
  refine ⟨_, (pss_cons (ps_if (pt_not (pt_val (pe_callB call_isiT (by rfl) T.b_isinstance (by decide +kernel) (pa_cons (pv 0) (pa_cons (pe_tup (pa_cons (pe_bltn (v := .ty "list") (by rfl) T.b_list (by decide +kernel) rfl) (pa_cons (pe_bltn (v := .ty "tuple") (by rfl) T.b_tuple (by decide +kernel) rfl) pa_nil))) pa_nil)))))
        pss_never pss_nil)
      (pss_one (ps_for PassesOwn.never rfl (pi_list (pv 0)) (pg_name (i := 1) sc_need_ratios.nd rfl (Or.inl rfl))
        (pss_one (ps_expr (C8.pe_c (ok_need_ratio T) hr (by decide) rfl (pa_cons (pv 1) pa_nil))))))), ?_⟩
  refine q_not (et_not (a := true) (et_B (ev_isLT (ep_var rfl hx)))) fun H1 e1 => ?_
  obtain ⟨a, xs, rfl, hl, hp⟩ := (LstP _).up e1 hx
  refine s_forLn (ev_var rfl) (sq_of hl) (fun i σ' H' => ∃ y, σ' = [some (.ref a), y] ∧ Ex H1 H') (fun H2 e2 => ⟨_, rfl, e2⟩) (fun i σ' H' _ h => by obtain ⟨y, _, e⟩ := h; exact sq_of (e _ _ hl)) ?_ ?_
  · rintro i y σ' H' hi ⟨z, rfl, e⟩
    obtain ⟨P, hP, hy⟩ := hp.get hi
    rw [List.getElem?_map] at hP
    obtain ⟨r, _, rfl⟩ := Option.map_eq_some_iff.mp hP
    exact s_drop (ev_need_ratio (ep_var rfl ((RatP K r).up e hy))) fun H2 e2 => ⟨_, rfl, e.trans e2⟩
  · rintro σ' H' ⟨z, rfl, e⟩
    exact k _ H' (e1.trans e) rfl

def sumR (rs : List Rat) : Rat := rs.foldl (· + ·) 0
def prodR (rs : List Rat) : Rat := rs.foldl (· * ·) 1
theorem foldl_take {f : Rat → Rat → Rat} {z : Rat} {rs : List Rat} {i : Nat} {r : Rat} (h : rs[i]? = some r) : (rs.take (i + 1)).foldl f z = f ((rs.take i).foldl f z) r := by
  obtain ⟨h1, h2⟩ := List.getElem?_eq_some_iff.mp h
  rw [List.take_succ_eq_append_getElem h1, List.foldl_append, h2]
  rfl
theorem rats_get {rs : List Rat} {xs : List V} {H : Hp} {i : Nat} {y : V} (hp : AllP (rs.map (RatP K)) xs H) (hi : xs[i]? = some y) : ∃ r, rs[i]? = some r ∧ (RatP K r).p y H := by
  obtain ⟨P, hP, hy⟩ := hp.get hi
  rw [List.getElem?_map] at hP
  obtain ⟨r, h1, rfl⟩ := Option.map_eq_some_iff.mp hP
  exact ⟨r, h1, hy⟩
abbrev sc_ratio_sumN : List Str := ["values", "start", "total", "value"]
theorem sc_ratio_sum : FnScope sc_ratio_sumN ["values", "start"] (defScope s_ratio_sum) := ⟨rfl, rfl, rfl, by decide +kernel, rfl, by decide +kernel, by decide +kernel⟩
def R_ratio_sum (K : PySem.W.Frag) (Ps : List Pr) (P : Pr) : Prop := ∃ rs : List Rat, (∀ r ∈ rs, Sm r) ∧ (∀ k, k ≤ rs.length → Sm (sumR (rs.take k))) ∧ Ps = [LstP (rs.map (RatP K)), Is .non] ∧ P = RatP K (sumR rs)
theorem ok_ratio_sum (T : Tx K mg) : C8.Cal P w K mg base 5 "ratio_sum" (Fn (R_ratio_sum K)) [.non] := by
  obtain ⟨fd, F⟩ := T.f_ratio_sum
  obtain ⟨ds, h1, h2⟩ := FunD.binds0 (ps := ["values", "start"]) F 1 (by simp) rfl fun D doc pm an cdv ct us ks l1 l2 => match us, ks, l1, l2 with
    | [_], [_], _, _ => ⟨_, _, _, _, _, _, rfl, rfl, rfl⟩
  refine ⟨_, fd, _, ds, ?_, T.g_ratio_sum, F.kp, h2, h1⟩
  refine F.ok sc_ratio_sum (fn_len (n := 2) fun Ps P h => by obtain ⟨i, _, _, rfl, _⟩ := h; rfl) (fun cdv A outer s H vs Q E hr h => ?_)
  obtain ⟨_, _, ⟨rs, hs, ht, rfl, rfl⟩, ha, k⟩ := h
  obtain ⟨x, _, rfl, hx, rfl⟩ := all2 ha
  refine ⟨_, PSs.nox (pss_cons (ps_expr (C8.pe_c (ok_need_ratios T) hr (by decide) rfl (pa_cons (pv 0) pa_nil)))
      (pss_cons (ps_if (pt_cmpR op_notN (pv 1) pe_non (nomark _))
        (pss_one (ps_expr (C8.pe_c (ok_need_ratio T) hr (by decide) rfl (pa_cons (pv 1) pa_nil)))) pss_nil)
      (pss_cons (ps_set (i := 2) sc_ratio_sum.nd rfl (Or.inl rfl) (pe_ifExp (pt_cmpR op_isN (pv 1) pe_non (nomark _)) (C8.pe_mk (ok_Ratio1 T) hr (by decide) rfl (pa_cons pe_int pa_nil)) (pv 1)))
      (pss_cons (ps_for PassesOwn.never rfl (pi_list (pv 0)) (pg_name (i := 3) sc_ratio_sum.nd rfl (Or.inl rfl))
        (pss_one (ps_set (i := 2) sc_ratio_sum.nd rfl (Or.inl rfl) (C8.pe_mt (ok_Ratio_add T) hr (by decide) (pv 2) (pa_cons (pv 3) pa_nil)))))
      (pss_one (ps_ret (pv 2))))))), ?_⟩
  refine q_drop (ev (ep_call (eap_cons (ep_var rfl hx) eap_nil) ⟨rs, rfl, rfl⟩)) fun H1 e1 => ?_
  refine q_not (et_is (et_test (ev_op2 (z := .bl false) (ev_var rfl) ev_c fun _ _ Q q => ⟨rfl, q⟩)) rfl) fun H2 e2 => ?_
  have e02 := e1.trans e2
  refine q_asgP (ep_if (b := true) (P := RatP K 0) (et_is (et_test (ev_op2 (z := .bl true) (ev_var rfl) ev_c fun _ _ Q q => ⟨rfl, q⟩)) rfl) (fun _ => ep_Ratio1 ev_c) (fun z => nomatch z)) fun t0 H3 e3 ht0 => ?_
  obtain ⟨a, xs, rfl, hl, hp⟩ := (LstP _).up (e02.trans e3) hx
  have hlen : xs.length = rs.length := by rw [hp.len, List.length_map]
  refine q_forLn (ev_var rfl) (sq_of hl) (fun i σ' H' => ∃ t y, σ' = [some (.ref a), some .non, some t, y] ∧ (RatP K (sumR (rs.take i))).p t H' ∧ Ex H3 H') (fun H4 e4 => ⟨_, _, rfl, (RatP K _).up e4 ht0, e4⟩) (fun i σ' H' _ h => by obtain ⟨t, y, _, _, e⟩ := h; exact sq_of (e _ _ hl)) ?_ ?_
  · rintro i y σ' H' hi ⟨t, z, rfl, ht', e⟩
    obtain ⟨r, hri, hy⟩ := rats_get hp hi
    have hil : i < rs.length := (List.getElem?_eq_some_iff.mp hri).1
    refine s_asgP (ep_add (ep_var rfl ht') (ep_var rfl ((RatP K r).up e hy)) (ht i (by omega)) (hs r (List.mem_of_getElem? hri))) fun v H4 e4 hv => ⟨v, _, rfl, ?_, e.trans e4⟩
    rw [sumR, foldl_take hri]
    exact hv
  · rintro σ' H' ⟨t, z, rfl, ht', e⟩
    rw [hlen, List.take_length] at ht'
    exact s_retP (ep_var rfl ht') fun v H4 e4 hv => k v H4 (((e02.trans e3).trans e).trans e4) hv
abbrev sc_ratio_productN : List Str := ["values", "product", "value"]
theorem sc_ratio_product : FnScope sc_ratio_productN ["values"] (defScope s_ratio_product) := ⟨rfl, rfl, rfl, by decide +kernel, rfl, by decide +kernel, by decide +kernel⟩
theorem bd_ratio_product : Bnd "ratio_product" "ratio_product" s_ratio_product ["values"] := fun _ _ _ _ _ _ us hl => match us, hl with | [_], _ => rfl
def R_ratio_product (K : PySem.W.Frag) (Ps : List Pr) (P : Pr) : Prop := ∃ rs : List Rat, (∀ r ∈ rs, Sm r) ∧ (∀ k, k ≤ rs.length → Sm (prodR (rs.take k))) ∧ Ps = [LstP (rs.map (RatP K))] ∧ P = RatP K (prodR rs)
theorem ok_ratio_product (T : Tx K mg) : C8.Cal P w K mg base 5 "ratio_product" (Fn (R_ratio_product K)) [] := by
  refine cal_of sc_ratio_product bd_ratio_product (fn_len (n := 1) fun Ps P h => by obtain ⟨i, _, _, rfl, _⟩ := h; rfl) (fun f cdv A outer s H vs Q E hr h => ?_) T.g_ratio_product T.f_ratio_product
  obtain ⟨_, _, ⟨rs, hs, ht, rfl, rfl⟩, ha, k⟩ := h
  obtain ⟨x, rfl, hx⟩ := all1 ha
  refine ⟨_, (pss_cons (ps_expr (C8.pe_c (ok_need_ratios T) hr (by decide) rfl (pa_cons (pv 0) pa_nil)))
      (pss_cons (ps_set (i := 1) sc_ratio_product.nd rfl (Or.inl rfl) (C8.pe_mk (ok_Ratio1 T) hr (by decide) rfl (pa_cons pe_int pa_nil)))
      (pss_cons (ps_for PassesOwn.never rfl (pi_list (pv 0)) (pg_name (i := 2) sc_ratio_product.nd rfl (Or.inl rfl))
        (pss_one (ps_set (i := 1) sc_ratio_product.nd rfl (Or.inl rfl) (C8.pe_mt (ok_Ratio_multiply T) hr (by decide) (pv 1) (pa_cons (pv 2) pa_nil)))))
      (pss_one (ps_ret (pv 1)))))), ?_⟩
  refine q_drop (ev (ep_call (eap_cons (ep_var rfl hx) eap_nil) ⟨rs, rfl, rfl⟩)) fun H1 e1 => ?_
  refine q_asgP (P := RatP K 1) (ep_Ratio1 ev_c) fun t0 H3 e3 ht0 => ?_
  obtain ⟨a, xs, rfl, hl, hp⟩ := (LstP _).up (e1.trans e3) hx
  have hlen : xs.length = rs.length := by rw [hp.len, List.length_map]
  refine q_forLn (ev_var rfl) (sq_of hl) (fun i σ' H' => ∃ t y, σ' = [some (.ref a), some t, y] ∧ (RatP K (prodR (rs.take i))).p t H' ∧ Ex H3 H') (fun H4 e4 => ⟨_, _, rfl, (RatP K _).up e4 ht0, e4⟩) (fun i σ' H' _ h => by obtain ⟨t, y, _, _, e⟩ := h; exact sq_of (e _ _ hl)) ?_ ?_
  · rintro i y σ' H' hi ⟨t, z, rfl, ht', e⟩
    obtain ⟨r, hri, hy⟩ := rats_get hp hi
    have hil : i < rs.length := (List.getElem?_eq_some_iff.mp hri).1
    refine s_asgP (ep_mul (ep_var rfl ht') (ep_var rfl ((RatP K r).up e hy)) (ht i (by omega)) (hs r (List.mem_of_getElem? hri))) fun v H4 e4 hv => ⟨v, _, rfl, ?_, e.trans e4⟩
    rw [prodR, foldl_take hri]
    exact hv
  · rintro σ' H' ⟨t, z, rfl, ht', e⟩
    rw [hlen, List.take_length] at ht'
    exact s_retP (ep_var rfl ht') fun v H4 e4 hv => k v H4 (((e1.trans e3).trans e).trans e4) hv
section
variable {σ : L2.St} {H H' : Hp} {ta tb te tx : TE} {v : V} {E : XK} {rs : List Rat}
theorem ep_ratio_sum (h : EvP ta σ H (LstP (rs.map (RatP K)))) (h1 : ∀ r ∈ rs, Sm r) (h2 : ∀ k, k ≤ rs.length → Sm (sumR (rs.take k))) : EvP (tCall (Fn (R_ratio_sum K)) [.non] E (tCons ta tNil)) σ H (RatP K (sumR rs)) :=
  ep_callD (Ds := [Is .non]) (eap_cons h eap_nil) (fun H => ⟨rfl, trivial⟩) ⟨rs, h1, h2, rfl, rfl⟩
theorem ep_ratio_product (h : EvP ta σ H (LstP (rs.map (RatP K)))) (h1 : ∀ r ∈ rs, Sm r) (h2 : ∀ k, k ≤ rs.length → Sm (prodR (rs.take k))) : EvP (tCall (Fn (R_ratio_product K)) [] E (tCons ta tNil)) σ H (RatP K (prodR rs)) :=
  ep_call (eap_cons h eap_nil) ⟨rs, h1, h2, rfl, rfl⟩
end
end
end Rs
/-! Lists, tuples, comprehensions, tests. -/
namespace Rs
open PySem PySem.Spec PyProof.Rows L2 Evl
/-! ### values -/
def LstV (xs : List V) : Pr := ⟨fun v H => ∃ a, v = .ref a ∧ H a = some (.lst xs), fun e h => by
  obtain ⟨a, h1, h2⟩ := h
  exact ⟨a, h1, e _ _ h2⟩⟩
def TupV (xs : List V) : Pr := ⟨fun v H => ∃ a, v = .ref a ∧ H a = some (.tup xs), fun e h => by
  obtain ⟨a, h1, h2⟩ := h
  exact ⟨a, h1, e _ _ h2⟩⟩
theorem allIs {α : Type} {f : α → V} : ∀ {xs : List α} {vs : List V} {H : Hp}, AllP (xs.map fun x => Is (f x)) vs H → vs = xs.map f
  | [], [], _, _ => rfl
  | x :: xs, v :: vs, H, h => by
    have h1 : v = f x := h.1
    rw [List.map_cons, h1, allIs (xs := xs) h.2]
  | [], _ :: _, _, h => h.elim
  | _ :: _, [], _, h => h.elim
theorem isAll {α : Type} {f : α → V} : ∀ {xs : List α} {H : Hp}, AllP (xs.map fun x => Is (f x)) (xs.map f) H
  | [], _ => trivial
  | _ :: xs, _ => ⟨rfl, isAll (xs := xs)⟩
theorem allGet {α : Type} {f : α → Pr} {xs : List α} {vs : List V} {H : Hp} {i : Nat} {v : V} (h : AllP (xs.map f) vs H) (hi : vs[i]? = some v) : ∃ x, xs[i]? = some x ∧ (f x).p v H := by
  obtain ⟨P, hP, hv⟩ := h.get hi
  rw [List.getElem?_map] at hP
  obtain ⟨x, h1, rfl⟩ := Option.map_eq_some_iff.mp hP
  exact ⟨x, h1, hv⟩
theorem allGet2 {α : Type} {f : α → Pr} {xs : List α} {vs : List V} {H : Hp} {i : Nat} {x : α} (h : AllP (xs.map f) vs H) (hi : xs[i]? = some x) : ∃ v, vs[i]? = some v ∧ (f x).p v H := by
  have hl : vs.length = xs.length := by rw [h.len, List.length_map]
  have h1 : i < vs.length := by rw [hl]; exact (List.getElem?_eq_some_iff.mp hi).1
  obtain ⟨y, h2, h3⟩ := allGet h (List.getElem?_eq_getElem h1)
  rw [hi] at h2
  cases h2
  exact ⟨_, List.getElem?_eq_getElem h1, h3⟩
theorem allMem {α : Type} {f : α → Pr} : ∀ {xs : List α} {vs : List V} {H : Hp} {v : V}, AllP (xs.map f) vs H → v ∈ vs → ∃ x ∈ xs, (f x).p v H
  | x :: xs, w :: vs, H, v, h, hv => by
    rcases List.mem_cons.mp hv with rfl | hv
    · exact ⟨x, List.mem_cons_self, h.1⟩
    · obtain ⟨y, h1, h2⟩ := allMem (xs := xs) h.2 hv
      exact ⟨y, List.mem_cons_of_mem _ h1, h2⟩
  | [], [], _, _, _, hv => by cases hv
  | [], _ :: _, _, _, h, _ => h.elim
  | _ :: _, [], _, _, h, _ => h.elim
/-- data of a Lean type -/
def DatP (K : PySem.W.Frag) (d : PyData) : Pr := ⟨fun v H => Dp K H v d, fun {v H H'} e h => dpUp d v e h⟩
where
  dpUp {K : PySem.W.Frag} {H H' : Hp} : ∀ (d : PyData) (v : V), Ex H H' → Dp K H v d → Dp K H' v d
    | _, _, e, .non => .non
    | _, _, e, .bl b => .bl b
    | _, _, e, .int i => .int i
    | _, _, e, .str x => .str x
    | _, _, e, .lst h1 h2 => .lst (ex_l e h1) (dpAllUp _ _ e h2)
    | _, _, e, .tup h1 h2 => .tup (ex_t e h1) (dpAllUp _ _ e h2)
  dpAllUp {K : PySem.W.Frag} {H H' : Hp} : ∀ (ds : List PyData) (vs : List V), Ex H H' → DpAll K H vs ds → DpAll K H' vs ds
    | _, _, e, .nil => .nil
    | _, _, e, .cons h1 h2 => .cons (dpUp _ _ e h1) (dpAllUp _ _ e h2)
section
variable {K : PySem.W.Frag}
theorem dp_strs {H : Hp} : ∀ ss : List Str, DpAll K H (ss.map V.str) (ss.map PyData.str)
  | [] => .nil
  | s :: ss => .cons (.str s) (dp_strs ss)
theorem dp_ints {H : Hp} : ∀ ss : List Int, DpAll K H (ss.map V.int) (ss.map PyData.int)
  | [] => .nil
  | s :: ss => .cons (.int s) (dp_ints ss)
theorem dp_all {α : Type} {f : α → Pr} {g : α → PyData} (k : ∀ x v H, (f x).p v H → Dp K H v (g x)) : ∀ {xs : List α} {vs : List V} {H : Hp}, AllP (xs.map f) vs H → DpAll K H vs (xs.map g)
  | [], [], _, _ => .nil
  | x :: xs, v :: vs, H, h => .cons (k x v H h.1) (dp_all k (xs := xs) h.2)
  | [], _ :: _, _, h => h.elim
  | _ :: _, [], _, h => h.elim
theorem shaped_list {α : Type} {g : α → PyData} {m : Nat} (xs : List α) (h : ∀ x ∈ xs, (g x).canLay0 = true ∧ (g x).depth ≤ m) (hm : m < 64) : SeqAt.shaped (.list (xs.map g)) = true ∧ SeqAt.shaped (.tuple (xs.map g)) = true := by
  have h1 : PyData.canLayAll0 (xs.map g) = true := by
    induction xs with
    | nil => rfl
    | cons x xs ih => rw [List.map_cons, PyData.canLayAll0, (h x List.mem_cons_self).1, ih fun y hy => h y (List.mem_cons_of_mem _ hy)]; rfl
  have h2 : PyData.depthAll (xs.map g) ≤ m := by
    clear h1
    induction xs with
    | nil => exact Nat.zero_le _
    | cons x xs ih => rw [List.map_cons, PyData.depthAll]; exact Nat.max_le.mpr ⟨(h x List.mem_cons_self).2, ih fun y hy => h y (List.mem_cons_of_mem _ hy)⟩
  constructor
  · unfold SeqAt.shaped
    rw [Bool.and_eq_true]
    refine ⟨by rw [PyData.canLay0]; exact h1, decide_eq_true ?_⟩
    rw [PyData.depth]
    omega
  · unfold SeqAt.shaped
    rw [Bool.and_eq_true]
    refine ⟨by rw [PyData.canLay0]; exact h1, decide_eq_true ?_⟩
    rw [PyData.depth]
    omega
theorem lay_str {s : Str} (h : PyData.strOk s = true) : (PyData.str s).canLay0 = true ∧ (PyData.str s).depth ≤ 0 := ⟨by rw [PyData.canLay0]; exact h, Nat.le_refl _⟩
theorem shaped_strs (ss : List Str) (h : ∀ s ∈ ss, PyData.strOk s = true) : SeqAt.shaped (.list (ss.map PyData.str)) = true := (shaped_list (m := 0) ss (fun s hs => lay_str (h s hs)) (by decide)).1
theorem shaped_tstrs (ss : List Str) (h : ∀ s ∈ ss, PyData.strOk s = true) : SeqAt.shaped (.tuple (ss.map PyData.str)) = true := (shaped_list (m := 0) ss (fun s hs => lay_str (h s hs)) (by decide)).2
theorem lay_of_shaped {d : PyData} {m : Nat} (h : SeqAt.shaped d = true) (hm : d.depth ≤ m) : d.canLay0 = true ∧ d.depth ≤ m := ⟨SeqAt.canLay_of_shaped h, hm⟩
theorem eqv_str (a b : Str) : PyData.eqv (.str a) (.str b) = decide (a = b) := PySem.W.Datum.eqv a b
theorem eqv_strs (a b : List Str) : PyData.eqv (.list (a.map PyData.str)) (.list (b.map PyData.str)) = decide (a = b) := PySem.W.Datum.eqv (α := List Str) a b
theorem eqv_tstrs (a b : List Str) : PyData.eqv (.tuple (a.map PyData.str)) (.tuple (b.map PyData.str)) = decide (a = b) := by
  have h := PySem.W.Datum.eqv (α := PySem.W.Tup Str) ⟨a⟩ ⟨b⟩
  have e : (⟨a⟩ : PySem.W.Tup Str) = ⟨b⟩ ↔ a = b := ⟨fun z => congrArg PySem.W.Tup.items z, fun z => by rw [z]⟩
  exact h.trans (decide_eq_decide.mpr e)
theorem eqvAll_nil (ds : List PyData) : PyData.eqvAll ds [] = ds.isEmpty := by cases ds <;> rfl
theorem eqvList_nil (ds : List PyData) : PyData.eqv (.list ds) (.list []) = ds.isEmpty := by rw [PyData.eqv]; exact eqvAll_nil ds
theorem eqvTup_nil (ds : List PyData) : PyData.eqv (.tuple ds) (.tuple []) = ds.isEmpty := by rw [PyData.eqv]; exact eqvAll_nil ds
end
/-! ### what stays when a list changes -/
def Exs (H H' : Hp) : Prop := ∀ a o, H a = some o → (∀ xs, o ≠ .lst xs) → H' a = some o
theorem Exs.of {H H' : Hp} (e : Ex H H') : Exs H H' := fun a o h _ => e a o h
theorem Exs.upd {H : Hp} {a : Addr} {xs ys : List V} (h : H a = some (.lst xs)) : Exs H (upd H a (.lst ys)) := fun b o hb hn => by
  rw [upd_ne]
  · exact hb
  · rintro rfl
    rw [h] at hb
    exact hn xs (Option.some.inj hb).symm
theorem Exs.trans {H H1 H2 : Hp} (a : Exs H H1) (b : Exs H1 H2) : Exs H H2 := fun c o h n => b c o (a c o h n) n
class Stab (P : Pr) : Prop where
  ups : ∀ {v : V} {H H' : Hp}, Exs H H' → P.p v H → P.p v H'
class Stabs (Ps : List Pr) : Prop where
  ups : ∀ {vs : List V} {H H' : Hp}, Exs H H' → AllP Ps vs H → AllP Ps vs H'
instance {x : V} : Stab (Is x) := ⟨fun _ h => h⟩
instance {C : Addr} {fs : List (Str × V)} : Stab (InsP C fs) := ⟨fun e h => by
  obtain ⟨a, dx, h1, h2⟩ := h
  exact ⟨a, dx, h1, e _ _ h2 fun xs z => nomatch z⟩⟩
instance {K : PySem.W.Frag} {r : Rat} : Stab (RatP K r) := ⟨fun e h => by
  obtain ⟨a, dx, h1, h2⟩ := h
  exact ⟨a, dx, h1, e _ _ h2 fun xs z => nomatch z⟩⟩
instance {xs : List V} : Stab (TupV xs) := ⟨fun e h => by
  obtain ⟨a, h1, h2⟩ := h
  exact ⟨a, h1, e _ _ h2 fun xs z => nomatch z⟩⟩
instance : Stabs [] := ⟨fun {vs _ _} _ h => by cases vs with | nil => trivial | cons _ _ => exact h.elim⟩
instance {P : Pr} {Ps : List Pr} [s : Stab P] [t : Stabs Ps] : Stabs (P :: Ps) := ⟨fun {vs _ _} e h => by
  cases vs with
  | nil => exact h.elim
  | cons v vs => exact ⟨s.ups e h.1, t.ups e h.2⟩⟩
theorem stabs_map {α : Type} {f : α → Pr} (h : ∀ a, Stab (f a)) : ∀ xs : List α, Stabs (xs.map f)
  | [] => inferInstanceAs (Stabs [])
  | x :: xs => by
    have := h x
    have := stabs_map h xs
    exact inferInstanceAs (Stabs (f x :: xs.map f))
instance {α : Type} {f : α → Pr} {xs : List α} [h : ∀ a, Stab (f a)] : Stabs (xs.map f) := stabs_map h xs
instance {Ps : List Pr} [t : Stabs Ps] : Stab (TupP Ps) := ⟨fun e h => by
  obtain ⟨a, vs, h1, h2, h3⟩ := h
  exact ⟨a, vs, h1, e _ _ h2 (fun xs z => nomatch z), t.ups e h3⟩⟩
/-! ### new lists -/
/-- a list that was just made, of things with these properties -/
def EvLP (te : TE) (σ : L2.St) (H : Hp) (Ps : List Pr) : Prop := ∀ H1, Ex H H1 → ∀ Q : VK, (∀ p vs H2, H1 p = none → Ex H1 H2 → H2 p = some (.lst vs) → AllP Ps vs H2 → Q (.ref p) H2) → te σ H1 Q
section
variable {P : Program} {w : World} {K : PySem.W.Frag} {mg : Str → Option Value} {base : Heap}
variable {σ : L2.St} {H H' : Hp} {ta tb te tx : TE} {t u tt : TT} {x y z v : V} {E : XK} {Ps : List Pr}
theorem EvLP.lst (h : EvLP te σ H Ps) : EvP te σ H (LstP Ps) := fun H1 e Q q => h H1 e Q fun p vs H2 _ e2 h2 ha => q _ H2 e2 ⟨p, vs, rfl, h2, ha⟩
theorem EvLP.el {α : Type} {f : α → V} {xs : List α} (h : EvLP te σ H (xs.map fun x => Is (f x))) : EvL te σ H (xs.map f) := fun H1 e Q q => h H1 e Q fun p vs H2 hp e2 h2 ha => q p H2 hp e2 (by rw [← allIs ha]; exact h2)
theorem EvLP.up (e : Ex H H') (h : EvLP te σ H Ps) : EvLP te σ H' Ps := fun H1 a Q q => h H1 (e.trans a) Q q
theorem el_lp {xs : List V} (h : EvL te σ H xs) : EvP te σ H (LstV xs) := fun H1 e Q q => h H1 e Q fun p H2 _ e2 h2 => q _ H2 e2 ⟨p, rfl, h2⟩
theorem elp_lst {tl : TA} (h : EvAP tl σ H Ps) (hl : Ps.length ≤ 100000) : EvLP (tLst tl) σ H Ps := fun H1 e Q q => h H1 e _ fun vs H2 e2 hs =>
  ⟨sz_of (by rw [hs.len]; exact hl), fun p hp => q p vs _ (fresh_back e2 hp) (e2.trans (Ex.new hp)) upd_same (hs.up (Ex.new hp))⟩
theorem ep_tup {tl : TA} (h : EvAP tl σ H Ps) (hl : Ps.length ≤ 100000) : EvP (tTup tl) σ H (TupP Ps) := fun H1 e Q q => h H1 e _ fun vs H2 e2 hs =>
  ⟨sz_of (by rw [hs.len]; exact hl), fun p hp => q _ _ (e2.trans (Ex.new hp)) ⟨p, vs, rfl, upd_same, hs.up (Ex.new hp)⟩⟩
theorem ep_tupV {tl : TA} {xs : List V} (h : EvA tl σ H xs) (hl : xs.length ≤ 100000) : EvP (tTup tl) σ H (TupV xs) := fun H1 e Q q => h H1 e _ fun H2 e2 =>
  ⟨sz_of hl, fun p hp => q _ _ (e2.trans (Ex.new hp)) ⟨p, rfl, upd_same⟩⟩
theorem et_yes : EvT tYes σ H true := fun H1 _ Q q => q H1 (Ex.refl H1)
/-- the comprehension over any walk: L what is walked, B what the target's names then hold -/
theorem elp_walk {α : Type} {J : It} {g : TG} {vs : List Nat} {G : Hp → Prop} {Y : Nat → Hp → V → Hp → Prop} {L : List α} {f : α → Pr} [st : ∀ a, Stab (f a)] (W : Walk J L.length G Y) (p : α → Bool) (B : α → L2.St → Hp → Prop) (hz : L.length ≤ 40000) (H0 : Hp) (hG : ∀ H, Ex H0 H → G H)
    (hb : ∀ i a x H H', L[i]? = some a → Ex H0 H → Y i H x H' → ∃ τ, Ex H H' ∧ wipe τ vs = wipe σ vs ∧ B a τ H' ∧ ∀ Q : L2.St → Hp → Prop, Q τ H' → g x (wipe σ vs) H' Q)
    (ht : ∀ a τ H, a ∈ L → Ex H0 H → B a τ H → EvT tt τ H (p a)) (he : ∀ a τ H, a ∈ L → Ex H0 H → B a τ H → p a = true → EvP te τ H (f a))
    {H1 : Hp} (e01 : Ex H0 H1) {Q : VK} (q : ∀ p' vs' H2, H1 p' = none → Ex H1 H2 → H2 p' = some (.lst vs') → AllP ((L.filter p).map f) vs' H2 → Q (.ref p') H2) : tLc (fun _ H R => R J H) g tt te vs σ H1 Q := by
  unfold tLc
  intro D hD
  refine lc_it W (fun i H => Ex H1 H ∧ ∃ acc, H D = some (.lst acc) ∧ acc.length ≤ i ∧ AllP (((L.take i).filter p).map f) acc H) ⟨Ex.new hD, [], upd_same, Nat.le_refl _, trivial⟩ (fun i H _ h => hG H (e01.trans h.1)) ?_ ?_
  · rintro i x H H' hi ⟨e1, acc, h1, h2, h3⟩ hY
    have ha : L[i]? = some L[i] := List.getElem?_eq_getElem hi
    have hm : L[i] ∈ L := List.getElem_mem hi
    obtain ⟨τ, e2, hw, hB, hg⟩ := hb i _ x H H' ha (e01.trans e1) hY
    refine hg _ ⟨hw, ht _ τ H' hm ((e01.trans e1).trans e2) hB H' (Ex.refl H') _ fun H3 e3 => ?_⟩
    have et : L.take (i + 1) = L.take i ++ [L[i]] := List.take_succ_eq_append_getElem hi
    cases hp : p L[i] with
    | true =>
      rw [if_pos rfl]
      refine he _ τ H' hm ((e01.trans e1).trans e2) hB hp H3 e3 _ fun y H4 e4 hy => ⟨acc, e4 _ _ (e3 _ _ (e2 _ _ h1)), sz_lt (by omega), ?_, acc ++ [y], upd_same, by rw [List.length_append]; exact Nat.succ_le_succ h2, ?_⟩
      · exact Ex.mut (((e1.trans e2).trans e3).trans e4) hD
      · rw [et, List.filter_append, List.map_append]
        have e5 : [L[i]].filter p = [L[i]] := by simp [hp]
        rw [e5]
        refine AllP.append ?_ ?_
        · exact (stabs_map st _).ups (((Exs.of ((e2.trans e3).trans e4)).trans (Exs.upd (e4 _ _ (e3 _ _ (e2 _ _ h1)))))) h3
        · exact ⟨(st _).ups (Exs.upd (e4 _ _ (e3 _ _ (e2 _ _ h1)))) hy, trivial⟩
    | false =>
      rw [if_neg Bool.false_ne_true]
      refine ⟨(e1.trans e2).trans e3, acc, e3 _ _ (e2 _ _ h1), by omega, ?_⟩
      have e5 : [L[i]].filter p = [] := by simp [hp]
      rw [et, List.filter_append, e5, List.append_nil]
      exact h3.up (e2.trans e3)
  · rintro H ⟨e1, acc, h1, h2, h3⟩
    rw [List.take_length] at h3
    exact q D acc H hD e1 h1 h3

/-! the target a name, what is walked a list, a tuple, a text, a range -/
section
variable {α : Type} {L : List α} {f : α → Pr} [st : ∀ a, Stab (f a)] {j : Nat} {vs : List Nat}
theorem elp_lcL (p : α → Bool) (g : α → Pr) {tl : TE} (h : EvP tl σ H (LstP (L.map g))) (hz : L.length ≤ 40000) (hw : ∀ x, wipe ((wipe σ vs).set j (some x)) vs = wipe σ vs)
    (ht : ∀ a x H1, a ∈ L → Ex H H1 → (g a).p x H1 → EvT tt ((wipe σ vs).set j (some x)) H1 (p a)) (he : ∀ a x H1, a ∈ L → Ex H H1 → (g a).p x H1 → p a = true → EvP te ((wipe σ vs).set j (some x)) H1 (f a)) :
    EvLP (tLc (iList K tl) (gName j) tt te vs) σ H ((L.filter p).map f) := fun H0 e Q q => h H0 e _ fun v H1 e1 hv => by
  obtain ⟨a, xs, rfl, hx, ha⟩ := hv
  have hl : xs.length = L.length := by rw [ha.len, List.length_map]
  refine ⟨a, rfl, ⟨xs, sq_of hx⟩, ?_⟩
  refine elp_walk (J := Itl K a) (L := L) (f := f) (G := fun H => SqL K H a xs) (Y := YAt xs) (by rw [← hl]; exact walk_list) p (fun b τ H => ∃ x, τ = (wipe σ vs).set j (some x) ∧ (g b).p x H) hz H1 (fun H e => sq_of (e _ _ hx)) ?_ ?_ ?_ (Ex.refl H1) (fun p' vs' H2 hp e2 h2 h3 => q p' vs' H2 (fresh_back e1 hp) (e1.trans e2) h2 h3)
  · rintro i b x H H' hb e' ⟨rfl, hi⟩
    obtain ⟨c, hc, hg⟩ := allGet ha hi
    rw [hb] at hc
    cases hc
    exact ⟨_, Ex.refl _, hw x, ⟨x, rfl, (g b).up e' hg⟩, fun Q q => q⟩
  · rintro b τ H' hb e' ⟨x, rfl, hg⟩
    exact ht b x H' hb ((e.trans e1).trans e') hg
  · rintro b τ H' hb e' ⟨x, rfl, hg⟩ hp
    exact he b x H' hb ((e.trans e1).trans e') hg hp
theorem elp_lcT (p : α → Bool) (g : α → Pr) {tl : TE} (h : EvP tl σ H (TupP (L.map g))) (hz : L.length ≤ 40000) (hw : ∀ x, wipe ((wipe σ vs).set j (some x)) vs = wipe σ vs)
    (ht : ∀ a x H1, a ∈ L → Ex H H1 → (g a).p x H1 → EvT tt ((wipe σ vs).set j (some x)) H1 (p a)) (he : ∀ a x H1, a ∈ L → Ex H H1 → (g a).p x H1 → p a = true → EvP te ((wipe σ vs).set j (some x)) H1 (f a)) :
    EvLP (tLc (iTup K tl) (gName j) tt te vs) σ H ((L.filter p).map f) := fun H0 e Q q => h H0 e _ fun v H1 e1 hv => by
  obtain ⟨a, xs, rfl, hx, ha⟩ := hv
  have hl : xs.length = L.length := by rw [ha.len, List.length_map]
  refine ⟨a, rfl, ⟨xs, st_of hx⟩, ?_⟩
  refine elp_walk (J := Itt K a) (L := L) (f := f) (G := fun H => SqT K H a xs) (Y := YAt xs) (by rw [← hl]; exact walk_tup) p (fun b τ H => ∃ x, τ = (wipe σ vs).set j (some x) ∧ (g b).p x H) hz H1 (fun H e => st_of (e _ _ hx)) ?_ ?_ ?_ (Ex.refl H1) (fun p' vs' H2 hp e2 h2 h3 => q p' vs' H2 (fresh_back e1 hp) (e1.trans e2) h2 h3)
  · rintro i b x H H' hb e' ⟨rfl, hi⟩
    obtain ⟨c, hc, hg⟩ := allGet ha hi
    rw [hb] at hc
    cases hc
    exact ⟨_, Ex.refl _, hw x, ⟨x, rfl, (g b).up e' hg⟩, fun Q q => q⟩
  · rintro b τ H' hb e' ⟨x, rfl, hg⟩
    exact ht b x H' hb ((e.trans e1).trans e') hg
  · rintro b τ H' hb e' ⟨x, rfl, hg⟩ hp
    exact he b x H' hb ((e.trans e1).trans e') hg hp
/-- over a text: the signs' codes -/
theorem elp_lcS {f : Nat → Pr} [∀ a, Stab (f a)] (p : Nat → Bool) {z : Str} {tl : TE} (h : Ev tl σ H (.str z)) (hz : z.cps.size ≤ 40000) (hw : ∀ x, wipe ((wipe σ vs).set j (some x)) vs = wipe σ vs)
    (ht : ∀ c H1, c ∈ z.cps.toList → Ex H H1 → EvT tt ((wipe σ vs).set j (some (.str ⟨#[c]⟩))) H1 (p c)) (he : ∀ c H1, c ∈ z.cps.toList → Ex H H1 → p c = true → EvP te ((wipe σ vs).set j (some (.str ⟨#[c]⟩))) H1 (f c)) :
    EvLP (tLc (iStr tl) (gName j) tt te vs) σ H ((z.cps.toList.filter p).map f) := fun H0 e Q q => h H0 e _ fun H1 e1 => by
  refine ⟨z, rfl, ?_⟩
  refine elp_walk (J := Its z) (L := z.cps.toList) (f := f) (G := fun _ => True) (Y := fun i H v H' => H' = H ∧ ∃ c, z.cps[i]? = some c ∧ v = .str ⟨#[c]⟩) (by rw [Array.length_toList]; exact walk_str) p (fun c τ H => τ = (wipe σ vs).set j (some (.str ⟨#[c]⟩))) (by rw [Array.length_toList]; exact hz) H1 (fun H e => trivial) ?_ ?_ ?_ (Ex.refl H1) (fun p' vs' H2 hp e2 h2 h3 => q p' vs' H2 (fresh_back e1 hp) (e1.trans e2) h2 h3)
  · rintro i c x H H' hb e' ⟨rfl, d, hd, rfl⟩
    rw [Array.getElem?_toList] at hb
    rw [hb] at hd
    cases hd
    exact ⟨_, Ex.refl _, hw _, rfl, fun Q q => q⟩
  · rintro b τ H' hb e' rfl
    exact ht b H' hb ((e.trans e1).trans e')
  · rintro b τ H' hb e' rfl hp
    exact he b H' hb ((e.trans e1).trans e') hp
/-- over range(lo, hi) -/
theorem elp_lcR2 {f : Nat → Pr} [∀ a, Stab (f a)] (p : Nat → Bool) {lo hi : Int} {n : Nat} {tl : TA} (h : EvA tl σ H [.int lo, .int hi]) (hn : (hi - lo).toNat = n) (hb : -1000000 ≤ lo ∧ lo ≤ 1000000 ∧ -1000000 ≤ hi ∧ hi ≤ 1000000) (hz : n ≤ 40000) (hw : ∀ x, wipe ((wipe σ vs).set j (some x)) vs = wipe σ vs)
    (ht : ∀ i H1, i < n → Ex H H1 → EvT tt ((wipe σ vs).set j (some (.int (lo + (i : Int))))) H1 (p i)) (he : ∀ i H1, i < n → Ex H H1 → p i = true → EvP te ((wipe σ vs).set j (some (.int (lo + (i : Int))))) H1 (f i)) :
    EvLP (tLc (iRng2 tl) (gName j) tt te vs) σ H (((List.range n).filter p).map f) := fun H0 e Q q => h H0 e _ fun H1 e1 => by
  refine ⟨lo, hi, rfl, ⟨by omega, by omega, by omega, by omega⟩, ?_⟩
  rw [hn]
  refine elp_walk (J := Itr lo n) (L := List.range n) (f := f) (G := fun _ => True) (Y := YFn fun i => .int (lo + (i : Int))) (by rw [List.length_range]; exact walk_range) p (fun i τ H => τ = (wipe σ vs).set j (some (.int (lo + (i : Int))))) (by rw [List.length_range]; exact hz) H1 (fun H e => trivial) ?_ ?_ ?_ (Ex.refl H1) (fun p' vs' H2 hp e2 h2 h3 => q p' vs' H2 (fresh_back e1 hp) (e1.trans e2) h2 h3)
  · rintro i c x H H' hb e' ⟨rfl, rfl⟩
    have : i = c := by
      obtain ⟨h1, h2⟩ := List.getElem?_eq_some_iff.mp hb
      rw [List.getElem_range] at h2
      exact h2
    subst this
    exact ⟨_, Ex.refl _, hw _, rfl, fun Q q => q⟩
  · rintro b τ H' hb e' rfl
    exact ht b H' (List.mem_range.mp hb) ((e.trans e1).trans e')
  · rintro b τ H' hb e' rfl hp
    exact he b H' (List.mem_range.mp hb) ((e.trans e1).trans e') hp
end
theorem filter_yes {α : Type} (L : List α) : L.filter (fun _ => true) = L := List.filter_eq_self.mpr fun _ _ => rfl
/-! ### what is made of new lists -/
theorem ev_all {α : Type} {L : List α} {p : α → Bool} (h : EvLP te σ H (L.map fun a => Is (.bl (p a)))) : Ev (tCB (rAll K) (tCons te tNil)) σ H (.bl (L.all p)) := fun H1 e Q q => h H1 e _ fun l vs H2 _ e2 h2 ha => by
  refine ⟨l, L.map p, rfl, sq_of ?_, ?_⟩
  · rw [h2, allIs ha, List.map_map]
    rfl
  · have e3 : (L.map p).all id = L.all p := by rw [List.all_map]; rfl
    rw [e3]
    exact q H2 e2
theorem ev_any {α : Type} {L : List α} {p : α → Bool} (h : EvLP te σ H (L.map fun a => Is (.bl (p a)))) : Ev (tCB (rAny K) (tCons te tNil)) σ H (.bl (L.any p)) := fun H1 e Q q => h H1 e _ fun l vs H2 _ e2 h2 ha => by
  refine ⟨l, L.map p, rfl, sq_of ?_, ?_⟩
  · rw [h2, allIs ha, List.map_map]
    rfl
  · have e3 : (L.map p).any id = L.any p := by rw [List.any_map]; rfl
    rw [e3]
    exact q H2 e2
def rTupOf (K : PySem.W.Frag) : List V → Hp → VK → Prop := fun xs H Q => ∃ p ys, xs = [.ref p] ∧ ((SqL K H p ys ∧ ∀ l, H l = none → Q (.ref l) (upd H l (.tup ys))) ∨ (SqT K H p ys ∧ Q (.ref p) H))
theorem ep_tupOf (h : EvLP te σ H Ps) : EvP (tCB (rTupOf K) (tCons te tNil)) σ H (TupP Ps) := fun H1 e Q q => h H1 e _ fun l vs H2 _ e2 h2 ha =>
  ⟨l, vs, rfl, .inl ⟨sq_of h2, fun p hp => q _ _ (e2.trans (Ex.new hp)) ⟨p, vs, rfl, upd_same, ha.up (Ex.new hp)⟩⟩⟩
theorem elp_listOf (h : EvP te σ H (LstP Ps)) : EvLP (tCB (rListS K) (tCons te tNil)) σ H Ps := fun H1 e Q q => h H1 e _ fun v H2 e2 hv => by
  obtain ⟨a, vs, rfl, h2, ha⟩ := hv
  exact ⟨a, vs, rfl, .inl (sq_of h2), fun l hl => q l vs _ (fresh_back e2 hl) (e2.trans (Ex.new hl)) upd_same (ha.up (Ex.new hl))⟩
/-! ### lists and tuples by value -/
theorem lst_strs {ss : List Str} : ∀ {v : V} {H : Hp}, (LstP (ss.map fun s => Is (.str s))).p v H → (LstV (ss.map V.str)).p v H := fun ⟨a, vs, h1, h2, h3⟩ => ⟨a, h1, by rw [h2, allIs h3]⟩
theorem strs_lst {ss : List Str} : ∀ {v : V} {H : Hp}, (LstV (ss.map V.str)).p v H → (LstP (ss.map fun s => Is (.str s))).p v H := fun ⟨a, h1, h2⟩ => ⟨a, _, h1, h2, isAll⟩
theorem tup_strs {ss : List Str} : ∀ {v : V} {H : Hp}, (TupP (ss.map fun s => Is (.str s))).p v H → (TupV (ss.map V.str)).p v H := fun ⟨a, vs, h1, h2, h3⟩ => ⟨a, h1, by rw [h2, allIs h3]⟩
theorem strs_tup {ss : List Str} : ∀ {v : V} {H : Hp}, (TupV (ss.map V.str)).p v H → (TupP (ss.map fun s => Is (.str s))).p v H := fun ⟨a, h1, h2⟩ => ⟨a, _, h1, h2, isAll⟩
theorem epL {ss : List Str} (h : EvP te σ H (LstV (ss.map V.str))) : EvP te σ H (LstP (ss.map fun s => Is (.str s))) := ep_to h fun _ _ _ => strs_lst
theorem epT {ss : List Str} (h : EvP te σ H (TupV (ss.map V.str))) : EvP te σ H (TupP (ss.map fun s => Is (.str s))) := ep_to h fun _ _ _ => strs_tup
theorem lpV {ss : List Str} (h : EvLP te σ H (ss.map fun s => Is (.str s))) : EvP te σ H (LstV (ss.map V.str)) := ep_to h.lst fun _ _ _ => lst_strs
theorem tpV {ss : List Str} (h : EvP te σ H (TupP (ss.map fun s => Is (.str s)))) : EvP te σ H (TupV (ss.map V.str)) := ep_to h fun _ _ _ => tup_strs
theorem flat_strs (ss : List Str) : (ss.map V.str).all flatV = true := by
  rw [List.all_map]
  exact List.all_eq_true.mpr fun _ _ => rfl
theorem eqV_str (a b : Str) : eqV (.str a) (.str b) = decide (a = b) := by
  show (a == b) = decide (a = b)
  rw [Bool.eq_iff_iff, beq_iff_eq, decide_eq_true_eq]
theorem inV_strs (s : Str) (ss : List Str) : inV (.str s) (ss.map V.str) = decide (s ∈ ss) := by
  unfold inV
  rw [List.any_map, Bool.eq_iff_iff, List.any_eq_true, decide_eq_true_eq]
  constructor
  · rintro ⟨b, hb, e⟩
    have e : eqV (.str b) (.str s) = true := e
    rw [eqV_str] at e
    rw [← of_decide_eq_true e]
    exact hb
  · intro h
    refine ⟨s, h, ?_⟩
    show eqV (.str s) (.str s) = true
    rw [eqV_str]
    exact decide_eq_true rfl
theorem ev_inL {s : Str} {ss : List Str} (ha : Ev ta σ H (.str s)) (hb : EvP tb σ H (LstV (ss.map V.str))) : Ev (tOp (rIn K false) ta tb) σ H (.bl (decide (s ∈ ss))) := fun H1 e Q q =>
  ha H1 e _ fun H2 e2 => hb H2 (e.trans e2) _ fun v H3 e3 hv => by
    obtain ⟨a, rfl, h⟩ := hv
    refine ⟨a, _, rfl, .inl (sq_of h), rfl, flat_strs ss, ?_⟩
    rw [inV_strs]
    exact q H3 (e2.trans e3)
theorem ev_inT {s : Str} {ss : List Str} (ha : Ev ta σ H (.str s)) (hb : EvP tb σ H (TupV (ss.map V.str))) : Ev (tOp (rIn K false) ta tb) σ H (.bl (decide (s ∈ ss))) := fun H1 e Q q =>
  ha H1 e _ fun H2 e2 => hb H2 (e.trans e2) _ fun v H3 e3 hv => by
    obtain ⟨a, rfl, h⟩ := hv
    refine ⟨a, _, rfl, .inr (st_of h), rfl, flat_strs ss, ?_⟩
    rw [inV_strs]
    exact q H3 (e2.trans e3)
theorem ev_niL {s : Str} {ss : List Str} (ha : Ev ta σ H (.str s)) (hb : EvP tb σ H (LstV (ss.map V.str))) : Ev (tOp (rIn K true) ta tb) σ H (.bl (!decide (s ∈ ss))) := fun H1 e Q q =>
  ha H1 e _ fun H2 e2 => hb H2 (e.trans e2) _ fun v H3 e3 hv => by
    obtain ⟨a, rfl, h⟩ := hv
    refine ⟨a, _, rfl, .inl (sq_of h), rfl, flat_strs ss, ?_⟩
    rw [inV_strs]
    exact q H3 (e2.trans e3)
theorem ev_niT {s : Str} {ss : List Str} (ha : Ev ta σ H (.str s)) (hb : EvP tb σ H (TupV (ss.map V.str))) : Ev (tOp (rIn K true) ta tb) σ H (.bl (!decide (s ∈ ss))) := fun H1 e Q q =>
  ha H1 e _ fun H2 e2 => hb H2 (e.trans e2) _ fun v H3 e3 hv => by
    obtain ⟨a, rfl, h⟩ := hv
    refine ⟨a, _, rfl, .inr (st_of h), rfl, flat_strs ss, ?_⟩
    rw [inV_strs]
    exact q H3 (e2.trans e3)
theorem ev_lenL (h : EvP te σ H (LstP Ps)) : Ev (tCB (rLenS K) (tCons te tNil)) σ H (.int (Ps.length : Int)) := fun H1 e Q q => h H1 e _ fun v H2 e2 hv => by
  obtain ⟨a, vs, rfl, h2, ha⟩ := hv
  refine ⟨a, vs, rfl, .inl (sq_of h2), ?_⟩
  rw [ha.len]
  exact q H2 e2
theorem ev_lenT (h : EvP te σ H (TupP Ps)) : Ev (tCB (rLenS K) (tCons te tNil)) σ H (.int (Ps.length : Int)) := fun H1 e Q q => h H1 e _ fun v H2 e2 hv => by
  obtain ⟨a, vs, rfl, h2, ha⟩ := hv
  refine ⟨a, vs, rfl, .inr (st_of h2), ?_⟩
  rw [ha.len]
  exact q H2 e2
theorem ev_lenLV {xs : List V} (h : EvP te σ H (LstV xs)) : Ev (tCB (rLenS K) (tCons te tNil)) σ H (.int (xs.length : Int)) := fun H1 e Q q => h H1 e _ fun v H2 e2 hv => by
  obtain ⟨a, rfl, h2⟩ := hv
  exact ⟨a, xs, rfl, .inl (sq_of h2), q H2 e2⟩
theorem ev_lenTV {xs : List V} (h : EvP te σ H (TupV xs)) : Ev (tCB (rLenS K) (tCons te tNil)) σ H (.int (xs.length : Int)) := fun H1 e Q q => h H1 e _ fun v H2 e2 hv => by
  obtain ⟨a, rfl, h2⟩ := hv
  exact ⟨a, xs, rfl, .inr (st_of h2), q H2 e2⟩
/-- a <= b <= c, of ints -/
theorem ev_chain {p p' : Int → Int → Bool} {i j l : Int} (ha : Ev ta σ H (.int i)) (hb : Ev tb σ H (.int j)) (hc : Ev tx σ H (.int l)) : Ev (tChain (rI0 fun i j => .bl (p i j)) (rI0 fun i j => .bl (p' i j)) ta tb tx) σ H (.bl (p i j && p' j l)) := fun H1 e Q q =>
  ha H1 e _ fun H2 e2 => hb H2 (e.trans e2) _ fun H3 e3 => ⟨i, j, rfl, rfl, p i j, rfl, by
    cases h : p i j with
    | true =>
      rw [if_pos rfl]
      refine hc H3 ((e.trans e2).trans e3) _ fun H4 e4 => ⟨j, l, rfl, rfl, ?_⟩
      have q4 := q H4 ((e2.trans e3).trans e4)
      rw [h] at q4
      exact q4
    | false =>
      rw [if_neg Bool.false_ne_true]
      have q4 := q H3 (e2.trans e3)
      rw [h] at q4
      exact q4⟩
/-- == over data -/
theorem ev_eqD {d d' : PyData} (ha : EvP ta σ H (DatP K d)) (hb : EvP tb σ H (DatP K d')) (h1 : SeqAt.shaped d = true) (h2 : SeqAt.shaped d' = true) : Ev (tOp (rEqD K) ta tb) σ H (.bl (PyData.eqv d d')) := fun H1 e Q q =>
  ha H1 e _ fun x H2 e2 hx => hb H2 (e.trans e2) _ fun y H3 e3 hy => ⟨d, d', (DatP K d).up e3 hx, hy, h1, h2, q H3 (e2.trans e3)⟩
theorem ev_neD {d d' : PyData} (ha : EvP ta σ H (DatP K d)) (hb : EvP tb σ H (DatP K d')) (h1 : SeqAt.shaped d = true) (h2 : SeqAt.shaped d' = true) : Ev (tOp (rNeD K) ta tb) σ H (.bl (!PyData.eqv d d')) := fun H1 e Q q =>
  ha H1 e _ fun x H2 e2 hx => hb H2 (e.trans e2) _ fun y H3 e3 hy => ⟨d, d', (DatP K d).up e3 hx, hy, h1, h2, q H3 (e2.trans e3)⟩
theorem ev_inD {d : PyData} {ds : List PyData} (ha : EvP ta σ H (DatP K d)) (hb : EvP tb σ H (DatP K (.list ds))) (h1 : SeqAt.shaped d = true) (h2 : SeqAt.shaped (.list ds) = true) : Ev (tOp (rInD K) ta tb) σ H (.bl (ds.any fun z => PyData.eqv z d)) := fun H1 e Q q =>
  ha H1 e _ fun x H2 e2 hx => hb H2 (e.trans e2) _ fun y H3 e3 hy => ⟨d, ds, (DatP K d).up e3 hx, hy, h1, h2, q H3 (e2.trans e3)⟩
theorem dat_strs {ss : List Str} {v : V} {H : Hp} (h : (LstV (ss.map V.str)).p v H) : (DatP K (.list (ss.map PyData.str))).p v H := by
  obtain ⟨a, rfl, h⟩ := h
  exact .lst (sq_of h) (dp_strs ss)
theorem dat_tstrs {ss : List Str} {v : V} {H : Hp} (h : (TupV (ss.map V.str)).p v H) : (DatP K (.tuple (ss.map PyData.str))).p v H := by
  obtain ⟨a, rfl, h⟩ := h
  exact .tup (st_of h) (dp_strs ss)
theorem dat_lst {α : Type} {f : α → Pr} {g : α → PyData} (k : ∀ x v H, (f x).p v H → Dp K H v (g x)) {xs : List α} {v : V} {H : Hp} (h : (LstP (xs.map f)).p v H) : (DatP K (.list (xs.map g))).p v H := by
  obtain ⟨a, vs, rfl, h1, h2⟩ := h
  exact .lst (sq_of h1) (dp_all k h2)
/-- an item -/
theorem ep_ixL {i : Int} (ha : EvP ta σ H (LstP Ps)) (hb : Ev tb σ H (.int i)) {k : Nat} {P : Pr} (hk : Ps[k]? = some P) (hi : ∀ n : Nat, n = Ps.length → ∀ (xs : List V) (v : V), xs.length = n → xs[k]? = some v → atI xs i = some v) : EvP (tOp (rIxL K) ta tb) σ H P := fun H1 e Q q =>
  ha H1 e _ fun x H2 e2 hx => hb H2 (e.trans e2) _ fun H3 e3 => by
    obtain ⟨a, vs, rfl, h1, h2⟩ := hx
    have hl : k < vs.length := by rw [h2.len]; exact (List.getElem?_eq_some_iff.mp hk).1
    have hv : vs[k]? = some vs[k] := List.getElem?_eq_getElem hl
    obtain ⟨P', hP, hp⟩ := h2.get hv
    rw [hk] at hP
    cases hP
    exact ⟨a, vs, i, _, rfl, rfl, sq_of (e3 _ _ h1), hi _ rfl vs _ h2.len hv, q _ H3 (e2.trans e3) (P.up e3 hp)⟩
theorem ep_ixT {i : Int} (ha : EvP ta σ H (TupP Ps)) (hb : Ev tb σ H (.int i)) {k : Nat} {P : Pr} (hk : Ps[k]? = some P) (hi : ∀ n : Nat, n = Ps.length → ∀ (xs : List V) (v : V), xs.length = n → xs[k]? = some v → atI xs i = some v) : EvP (tOp (rIxT K) ta tb) σ H P := fun H1 e Q q =>
  ha H1 e _ fun x H2 e2 hx => hb H2 (e.trans e2) _ fun H3 e3 => by
    obtain ⟨a, vs, rfl, h1, h2⟩ := hx
    have hl : k < vs.length := by rw [h2.len]; exact (List.getElem?_eq_some_iff.mp hk).1
    have hv : vs[k]? = some vs[k] := List.getElem?_eq_getElem hl
    obtain ⟨P', hP, hp⟩ := h2.get hv
    rw [hk] at hP
    cases hP
    exact ⟨a, vs, i, _, rfl, rfl, st_of (e3 _ _ h1), hi _ rfl vs _ h2.len hv, q _ H3 (e2.trans e3) (P.up e3 hp)⟩
theorem at_k (k : Nat) : ∀ n : Nat, n = Ps.length → ∀ (xs : List V) (v : V), xs.length = n → xs[k]? = some v → atI xs (k : Int) = some v := fun _ _ _ _ _ h => atI_nat h
end
end Rs
/-! Names and edges. -/
namespace Rs
open PySem PySem.Spec PyProof.Rows L2 Evl
/-- a name: one to eight letters -/
def NameOk (z : Str) : Prop := 1 ≤ z.length ∧ z.length ≤ 8 ∧ ∀ c ∈ z.cps.toList, 97 ≤ c ∧ c ≤ 122
theorem NameOk.ok {z : Str} (h : NameOk z) : PyData.strOk z = true := by
  unfold PyData.strOk
  rw [← Array.all_toList, List.all_eq_true]
  intro c hc
  have := h.2.2 c hc
  exact decide_eq_true (by omega)
theorem letters_eq : ("abcdefghijklmnopqrstuvwxyz" : Str).cps.toList = List.range' 97 26 := by decide +kernel
theorem letter_in {c : Nat} (h : 97 ≤ c ∧ c ≤ 122) : c ∈ ("abcdefghijklmnopqrstuvwxyz" : Str).cps.toList := by
  rw [letters_eq, List.mem_range'_1]
  omega
/-- names of a graph -/
structure NamesOk (ns : List Str) : Prop where
  lo : 1 ≤ ns.length
  hi : ns.length ≤ 8
  nm : ∀ z ∈ ns, NameOk z
  nd : ns.Nodup
/-- two edges of the same two names -/
def samePair (e f : Str × Str) : Prop := (e.1 = f.1 ∧ e.2 = f.2) ∨ (e.1 = f.2 ∧ e.2 = f.1)
structure EdgesOk (ns : List Str) (es : List (Str × Str)) : Prop where
  mem : ∀ e ∈ es, e.1 ∈ ns ∧ e.2 ∈ ns ∧ e.1 ≠ e.2
  pw : es.Pairwise fun e f => ¬ samePair e f
/-- the same adjacency -/
def sameAdj (es es' : List (Str × Str)) : Prop := ∀ a b, ((a, b) ∈ es ∨ (b, a) ∈ es) ↔ ((a, b) ∈ es' ∨ (b, a) ∈ es')
def prS (e : Str × Str) : Pr := TupV [.str e.1, .str e.2]
def prI (e : Nat × Nat) : Pr := TupV [.int (e.1 : Int), .int (e.2 : Int)]
instance {e : Str × Str} : Stab (prS e) := inferInstanceAs (Stab (TupV _))
instance {e : Nat × Nat} : Stab (prI e) := inferInstanceAs (Stab (TupV _))
/-- some edges that the names allow, with the adjacency of es -/
def EdgesP (ns : List Str) (es : List (Str × Str)) : Pr := ⟨fun v H => ∃ es', EdgesOk ns es' ∧ sameAdj es es' ∧ (LstP (es'.map prS)).p v H, fun e h => by
  obtain ⟨es', h1, h2, h3⟩ := h
  exact ⟨es', h1, h2, (LstP _).up e h3⟩⟩
theorem perm_all {α : Type} {f : α → Pr} {vs us : List V} (hp : us.Perm vs) : ∀ {xs : List α} {H : Hp}, AllP (xs.map f) vs H → ∃ ys : List α, ys.Perm xs ∧ AllP (ys.map f) us H := by
  induction hp with
  | nil => intro xs H h; exact ⟨xs, List.Perm.refl _, h⟩
  | cons x _ ih =>
    intro xs H h
    cases xs with
    | nil => exact h.elim
    | cons y xs =>
      obtain ⟨ys, h1, h2⟩ := ih h.2
      exact ⟨y :: ys, h1.cons y, h.1, h2⟩
  | swap x y l =>
    intro xs H h
    match xs, h with
    | [], h => exact h.elim
    | [_], h => exact h.2.elim
    | a :: b :: xs, h => exact ⟨b :: a :: xs, List.Perm.swap _ _ _, h.2.1, h.1, h.2.2⟩
  | trans _ _ i1 i2 =>
    intro xs H h
    obtain ⟨ys, h1, h2⟩ := i2 h
    obtain ⟨zs, h3, h4⟩ := i1 h2
    exact ⟨zs, h3.trans h1, h4⟩
section
variable {P : Program} {w : World} {K : PySem.W.Frag} {mg : Str → Option Value} {base : Heap}
section
variable {σ : L2.St} {H H' : Hp} {ta tb te tx : TE} {v : V} {E : XK}
theorem ev_isStr {z : Str} (h : Ev ta σ H (.str z)) : Ev (tCB (rIsi K) (tCons ta (tCons (tC (.ty "str")) tNil))) σ H (.bl true) := ev_isi h (fun _ _ => .base (.str z)) (.ty _) (kit_ty (by decide +kernel))
def rLenStr : List V → Hp → VK → Prop := fun xs H Q => ∃ z, xs = [.str z] ∧ z.length ≤ sizeLine ∧ Q (.int z.length) H
def rInSg : R2 := fun x y H Q => ∃ (c : Nat) (z : Str), x = .str ⟨#[c]⟩ ∧ y = .str z ∧ Q (.bl (decide (c ∈ z.cps.toList))) H
end
/-! is_name -/
abbrev sc_is_nameN : List Str := ["value", "letter"]
theorem sc_is_name : FnScope sc_is_nameN ["value"] (defScope s_is_name) := ⟨rfl, rfl, rfl, by decide +kernel, rfl, by decide +kernel, by decide +kernel⟩
theorem bd_is_name : Bnd "is_name" "is_name" s_is_name ["value"] := fun _ _ _ _ _ _ us hl => match us, hl with | [_], _ => rfl
def R_is_name (Ps : List Pr) (P : Pr) : Prop := ∃ z, NameOk z ∧ Ps = [Is (.str z)] ∧ P = Is (.bl true)
theorem ok_is_name (T : Tx K mg) : C8.Cal P w K mg base 1 "is_name" (Fn R_is_name) [] := by
  refine cal_of sc_is_name bd_is_name (fn_len (n := 1) fun Ps P h => by obtain ⟨i, _, rfl, _⟩ := h; rfl) (fun f cdv A outer s H vs Q E hr h => ?_) T.g_is_name T.f_is_name
  obtain ⟨_, _, ⟨z, hz, rfl, rfl⟩, ha, k⟩ := h
  obtain ⟨_, rfl, rfl⟩ := all1 ha
  refine ⟨_, (pss_cons (ps_if (PW.pt (pw_or (pt_not (pt_val (pe_callB call_isi (by rfl) T.b_isinstance (by decide +kernel) (pa_cons (pv 0) (pa_cons (pe_bltn (v := .ty "str") (by rfl) T.b_str (by decide +kernel) rfl) pa_nil))))) (pw_or1 (pt_not (pt_chain op_le op_le pe_int (pe_callB call_len_str (by rfl) T.b_len (by decide +kernel) (pa_cons (pv 0) pa_nil)) (C8.pe_gc rfl T.k_LONGEST_NAME))))))
        (pss_one (ps_ret pe_bl)) pss_nil)
      (pss_one (ps_ret (pe_callB (cr_all rfl) (by rfl) T.b_all (by decide +kernel) (pa_cons (pe_lc (own := [("letter", 1)]) (g := gName 1) (tt := tYes) (te := (tOp _ _ _)) rfl sc_is_name.nd (pi_str (pv 0)) (blkOk_by (N := sc_is_nameN) (sc := defScope s_is_name) (by decide +kernel)) (fun _ _ _ _ _ => (pg_name (i := 1) sc_is_name.nd rfl (Or.inl rfl))) (fun _ _ _ _ _ => pts_nil) (fun _ _ _ _ _ => (pe_cmpR op_in_sign (pv 1) (C8.pe_gc rfl T.k_LETTERS) (by rfl)))) pa_nil))))), ?_⟩
  refine q_not (et_or (a := false) (b := false) (et_not (a := true) (et_B (ev_isStr (ev_var rfl)))) fun _ => et_not (a := true) (et_is (et_test (ev_chain (p := fun i j => decide (i ≤ j)) (p' := fun i j => decide (i ≤ j)) ev_c (ev_cb1 (ev_var rfl) fun H1 _ Q q => ⟨z, rfl, sz_of (by have := hz.2.1; omega), q⟩) ev_c)) ?_)) fun H1 e1 => ?_
  · have h1 := hz.1
    have h2 := hz.2.1
    rw [Bool.and_eq_true]
    exact ⟨decide_eq_true (by omega), decide_eq_true (by omega)⟩
  · have hlen : z.cps.size ≤ 40000 := by have : z.cps.size ≤ 8 := hz.2.1; omega
    have hc := elp_lcS (σ := start sc_is_nameN [.str z]) (H := H1) (te := tOp rInSg (tVar 1) (tC (.str "abcdefghijklmnopqrstuvwxyz"))) (j := 1) (vs := [1]) (f := fun _ => Is (.bl true)) (fun _ => true) (tt := tYes) (tl := tVar 0) (ev_var rfl) hlen (fun _ => rfl) (fun c H2 _ _ => et_yes)
      (fun c H2 hc _ _ => ep (ev_op2 (z := .bl true) (ev_var rfl) ev_c fun H3 _ Q q => ⟨c, _, rfl, rfl, by rw [decide_eq_true (letter_in (hz.2.2 c hc))]; exact q⟩))
    refine s_ret (ev_is (ev_all (p := fun _ => true) hc) ?_) fun H2 e2 => k _ H2 (e1.trans e2) rfl
    rw [List.all_eq_true.mpr fun _ _ => rfl]
/-! is_list, is_known -/
abbrev sc_is_listN : List Str := ["value"]
theorem sc_is_list : FnScope sc_is_listN ["value"] (defScope s_is_list) := ⟨rfl, rfl, rfl, by decide +kernel, rfl, by decide +kernel, by decide +kernel⟩
theorem bd_is_list : Bnd "is_list" "is_list" s_is_list ["value"] := fun _ _ _ _ _ _ us hl => match us, hl with | [_], _ => rfl
def R_is_list (Ps : List Pr) (P : Pr) : Prop := ∃ Qs, Ps = [LstP Qs] ∧ P = Is (.bl true)
theorem ok_is_list (T : Tx K mg) : C8.Cal P w K mg base 1 "is_list" (Fn R_is_list) [] := by
  refine cal_of sc_is_list bd_is_list (fn_len (n := 1) fun Ps P h => by obtain ⟨i, rfl, _⟩ := h; rfl) (fun f cdv A outer s H vs Q E hr h => ?_) T.g_is_list T.f_is_list
  obtain ⟨_, _, ⟨Qs, rfl, rfl⟩, ha, k⟩ := h
  obtain ⟨x, rfl, hx⟩ := all1 ha
  refine ⟨_, (pss_one (ps_ret (pe_callB call_isiT (by rfl) T.b_isinstance (by decide +kernel) (pa_cons (pv 0) (pa_cons (pe_tup (pa_cons (pe_bltn (v := .ty "list") (by rfl) T.b_list (by decide +kernel) rfl) (pa_cons (pe_bltn (v := .ty "tuple") (by rfl) T.b_tuple (by decide +kernel) rfl) pa_nil))) pa_nil))))), ?_⟩
  exact s_ret (ev_isLT (ep_var rfl hx)) fun H1 e1 => k _ H1 e1 rfl
abbrev sc_is_knownN : List Str := ["names", "value"]
theorem sc_is_known : FnScope sc_is_knownN ["names", "value"] (defScope s_is_known) := ⟨rfl, rfl, rfl, by decide +kernel, rfl, by decide +kernel, by decide +kernel⟩
theorem bd_is_known : Bnd "is_known" "is_known" s_is_known ["names", "value"] := fun _ _ _ _ _ _ us hl => match us, hl with | [_, _], _ => rfl
def R_is_known (Ps : List Pr) (P : Pr) : Prop := ∃ (ns : List Str) (z : Str), Ps = [LstV (ns.map V.str), Is (.str z)] ∧ P = Is (.bl (decide (z ∈ ns)))
theorem ok_is_known (T : Tx K mg) : C8.Cal P w K mg base 1 "is_known" (Fn R_is_known) [] := by
  refine cal_of sc_is_known bd_is_known (fn_len (n := 2) fun Ps P h => by obtain ⟨i, z, rfl, _⟩ := h; rfl) (fun f cdv A outer s H vs Q E hr h => ?_) T.g_is_known T.f_is_known
  obtain ⟨_, _, ⟨ns, z, rfl, rfl⟩, ha, k⟩ := h
  obtain ⟨x, _, rfl, hx, rfl⟩ := all2 ha
  refine ⟨_, (pss_one (ps_ret (pe_and (pe_callB call_isi (by rfl) T.b_isinstance (by decide +kernel) (pa_cons (pv 1) (pa_cons (pe_bltn (v := .ty "str") (by rfl) T.b_str (by decide +kernel) rfl) pa_nil))) (pe_one (pe_cmpR op_in_seq (pv 1) (pv 0) (by rfl)))))), ?_⟩
  exact s_ret (ev_andV (a := true) (ev_isStr (ev_var rfl)) fun _ => ev_inL (ev_var rfl) (ep_var rfl hx)) fun H1 e1 => k _ H1 e1 rfl
section
variable {σ : L2.St} {H H' : Hp} {ta tb te tx : TE} {v : V} {E : XK}
theorem ev_is_name {z : Str} (h : Ev ta σ H (.str z)) (hz : NameOk z) : Ev (tCall (Fn R_is_name) [] E (tCons ta tNil)) σ H (.bl true) := ev (ep_call (eap_cons (ep h) eap_nil) ⟨z, hz, rfl, rfl⟩)
theorem ev_is_list {Ps : List Pr} (h : EvP ta σ H (LstP Ps)) : Ev (tCall (Fn R_is_list) [] E (tCons ta tNil)) σ H (.bl true) := ev (ep_call (eap_cons h eap_nil) ⟨Ps, rfl, rfl⟩)
theorem ev_is_known {ns : List Str} {z : Str} (h : EvP ta σ H (LstV (ns.map V.str))) (hb : Ev tb σ H (.str z)) : Ev (tCall (Fn R_is_known) [] E (tCons ta (tCons tb tNil))) σ H (.bl (decide (z ∈ ns))) := ev (ep_call (eap_cons h (eap_cons (ep hb) eap_nil)) ⟨ns, z, rfl, rfl⟩)
theorem lv_is {xs : List V} {v : V} {H : Hp} (h : (LstV xs).p v H) : (LstP (xs.map Is)).p v H := by
  obtain ⟨a, h1, h2⟩ := h
  have e := isAll (f := fun x : V => x) (xs := xs) (H := H)
  rw [List.map_id'] at e
  exact ⟨a, xs, h1, h2, e⟩
theorem ev_is_listV {xs : List V} (h : EvP ta σ H (LstV xs)) : Ev (tCall (Fn R_is_list) [] E (tCons ta tNil)) σ H (.bl true) := ev_is_list (ep_to h fun _ _ _ => lv_is)
end
/-! checked_names -/
abbrev sc_checked_namesN : List Str := ["names", "found", "name"]
theorem sc_checked_names : FnScope sc_checked_namesN ["names"] (defScope s_checked_names) := ⟨rfl, rfl, rfl, by decide +kernel, rfl, by decide +kernel, by decide +kernel⟩
theorem bd_checked_names : Bnd "checked_names" "checked_names" s_checked_names ["names"] := fun _ _ _ _ _ _ us hl => match us, hl with | [_], _ => rfl
def R_checked_names (Ps : List Pr) (P : Pr) : Prop := ∃ ns : List Str, NamesOk ns ∧ Ps = [LstV (ns.map V.str)] ∧ P = LstV (ns.map V.str)
theorem ok_checked_names (T : Tx K mg) : C8.Cal P w K mg base 2 "checked_names" (Fn R_checked_names) [] := by
  refine cal_of sc_checked_names bd_checked_names (fn_len (n := 1) fun Ps P h => by obtain ⟨i, _, rfl, _⟩ := h; rfl) (fun f cdv A outer s H vs Q E hr h => ?_) T.g_checked_names T.f_checked_names
  obtain ⟨_, _, ⟨ns, hn, rfl, rfl⟩, ha, k⟩ := h
  obtain ⟨x, rfl, hx⟩ := all1 ha
  refine ⟨_, (pss_cons (ps_if (PW.pt (pw_or (pt_not (pt_val (C8.pe_c (ok_is_list T) hr (by decide) rfl (pa_cons (pv 0) pa_nil)))) (pw_or1 (pt_not (pt_chain op_le op_le pe_int (pe_callB call_len_seq (by rfl) T.b_len (by decide +kernel) (pa_cons (pv 0) pa_nil)) (C8.pe_gc rfl T.k_MAX_NAMES))))))
        pss_never pss_nil)
      (pss_cons (ps_set (i := 1) sc_checked_names.nd rfl (Or.inl rfl) (pe_lst pa_nil))
      (pss_cons (ps_for PassesOwn.never rfl (pi_list (pv 0)) (pg_name (i := 2) sc_checked_names.nd rfl (Or.inl rfl))
        (pss_cons (ps_if (pt_not (pt_val (C8.pe_c (ok_is_name T) hr (by decide) rfl (pa_cons (pv 2) pa_nil))))
        pss_never pss_nil)
      (pss_cons (ps_if (pt_cmpR op_in_seq (pv 2) (pv 1) (by rfl))
        pss_never pss_nil)
      (pss_one (ps_expr (pe_bm PySem.F.plainAttrs_list PySem.F.slot_list_append PySem.F.type_list_append mt_append (pv 1) (pa_cons (pv 2) pa_nil)))))))
      (pss_one (ps_ret (pv 1)))))), ?_⟩
  refine q_not (et_or (a := false) (b := false) (et_not (a := true) (et_B (ev_is_listV (ep_var rfl hx)))) fun _ => et_not (a := true) (et_is (et_test (ev_chain (p := fun i j => decide (i ≤ j)) (p' := fun i j => decide (i ≤ j)) ev_c (ev_lenLV (ep_var rfl hx)) ev_c)) ?_)) fun H1 e1 => ?_
  · have h1 := hn.lo
    have h2 := hn.hi
    rw [Bool.and_eq_true, List.length_map]
    exact ⟨decide_eq_true (by omega), decide_eq_true (by omega)⟩
  refine q_asgL (el_lst ea_nil (by decide)) fun l H2 hl e2 hl2 => ?_
  obtain ⟨a, rfl, hx2⟩ := (LstV _).up (e1.trans e2) hx
  have hl0 : H l = none := fresh_back e1 hl
  have hx0 : H a = some (.lst (ns.map V.str)) := by
    obtain ⟨a', h1, h2⟩ := hx
    cases h1
    exact h2
  refine q_forLn (ev_var rfl) (sq_of hx2) (fun i σ' H' => ∃ y, σ' = [some (.ref a), some (.ref l), y] ∧ Ex H H' ∧ H' l = some (.lst ((ns.take i).map V.str))) (fun H3 e3 => ⟨_, rfl, (e1.trans e2).trans e3, e3 _ _ hl2⟩) (fun i σ' H' _ h => by obtain ⟨y, _, e, _⟩ := h; exact sq_of (e _ _ hx0)) ?_ ?_
  · rintro i y σ' H' hi ⟨z, rfl, e, hlv⟩
    rw [List.getElem?_map] at hi
    obtain ⟨nm, hnm, rfl⟩ := Option.map_eq_some_iff.mp hi
    have hok := hn.nm nm (List.mem_of_getElem? hnm)
    have hil : i < ns.length := (List.getElem?_eq_some_iff.mp hnm).1
    have hnot : nm ∉ ns.take i := fun hm => by
      obtain ⟨j, hj, hj2⟩ := List.mem_iff_getElem.mp hm
      rw [List.length_take] at hj
      rw [List.getElem_take] at hj2
      have h1 : ns[j]? = some nm := by rw [← hj2]; exact List.getElem?_eq_getElem (by omega)
      have := (List.getElem?_inj (i := j) (j := i) (by omega) hn.nd).mp (h1.trans hnm.symm)
      omega
    refine q_not (et_not (a := true) (et_B (ev_is_name (ev_var rfl) hok))) fun H3 e3 => ?_
    refine q_not (et_is (et_test (ev_inL (ss := ns.take i) (ev_var rfl) (ep_var rfl ⟨l, rfl, e3 _ _ hlv⟩))) (decide_eq_false hnot)) fun H4 e4 => ?_
    refine s_app (e4 _ _ (e3 _ _ hlv)) (ev_var rfl) (ev_var rfl) (by rw [List.length_map, List.length_take]; have := hn.hi; omega) fun H5 e5 => ⟨_, rfl, Ex.mut (((e.trans e3).trans e4).trans e5) hl0, ?_⟩
    obtain ⟨h1, h2⟩ := List.getElem?_eq_some_iff.mp hnm
    rw [upd_same, List.take_succ_eq_append_getElem h1, List.map_append, h2]
    rfl
  · rintro σ' H' ⟨z, rfl, e, hlv⟩
    rw [List.length_map, List.take_length] at hlv
    exact s_retP (P := LstV (ns.map V.str)) (ep_var rfl ⟨l, rfl, hlv⟩) fun v H3 e3 hv => k v H3 (e.trans e3) hv
end
end Rs
/-! Edges checked. -/
namespace Rs
open PySem PySem.Spec PyProof.Rows L2 Evl
theorem hu65 {k : Nat} {A : Around} (r : Room k A) : A.units + 65 < cLine := by have := r.un; omega
/-! ### the plain part -/
def ekey (ns : List Str) (e : Str × Str) : Nat × Nat := (min (ns.idxOf e.1) (ns.idxOf e.2), max (ns.idxOf e.1) (ns.idxOf e.2))
def back (ns : List Str) (k : Nat × Nat) : Str × Str := (ns.getD k.1 Str.empty, ns.getD k.2 Str.empty)
theorem idx_inj {ns : List Str} {a b : Str} (ha : a ∈ ns) (h : ns.idxOf a = ns.idxOf b) : a = b := by
  have h1 := List.idxOf_lt_length_of_mem ha
  have h2 : ns[ns.idxOf a] = a := List.getElem_idxOf h1
  have h3 : ns.idxOf b < ns.length := by rw [← h]; exact h1
  have h4 : ns[ns.idxOf b] = b := List.getElem_idxOf h3
  rw [← h2, ← h4]
  congr 1
theorem getD_idx {ns : List Str} {a : Str} (ha : a ∈ ns) : ns.getD (ns.idxOf a) Str.empty = a := by
  have h1 := List.idxOf_lt_length_of_mem ha
  rw [List.getD_eq_getElem?_getD, List.getElem?_eq_getElem h1]
  exact List.getElem_idxOf h1
theorem back_key {ns : List Str} {e : Str × Str} (h1 : e.1 ∈ ns) (h2 : e.2 ∈ ns) : back ns (ekey ns e) = e ∨ back ns (ekey ns e) = (e.2, e.1) := by
  unfold back ekey
  rcases Nat.le_total (ns.idxOf e.1) (ns.idxOf e.2) with h | h
  · left
    rw [Nat.min_eq_left h, Nat.max_eq_right h, getD_idx h1, getD_idx h2]
  · right
    rw [Nat.min_eq_right h, Nat.max_eq_left h, getD_idx h1, getD_idx h2]
theorem samePair_symm {e f : Str × Str} (h : samePair e f) : samePair f e := by
  rcases h with ⟨a, b⟩ | ⟨a, b⟩
  · exact .inl ⟨a.symm, b.symm⟩
  · exact .inr ⟨b.symm, a.symm⟩
theorem samePair_of {e e' f f' : Str × Str} (he : e' = e ∨ e' = (e.2, e.1)) (hf : f' = f ∨ f' = (f.2, f.1)) (h : samePair e' f') : samePair e f := by
  unfold samePair at *
  rcases he with rfl | rfl <;> rcases hf with rfl | rfl <;> grind
theorem key_same {ns : List Str} {e f : Str × Str} (h1 : e.1 ∈ ns) (h2 : e.2 ∈ ns) (h : ekey ns e = ekey ns f) : samePair e f := by
  unfold ekey at h
  have h3 := (Prod.mk.inj h).1
  have h4 := (Prod.mk.inj h).2
  have h5 : (ns.idxOf e.1 = ns.idxOf f.1 ∧ ns.idxOf e.2 = ns.idxOf f.2) ∨ (ns.idxOf e.1 = ns.idxOf f.2 ∧ ns.idxOf e.2 = ns.idxOf f.1) := by omega
  rcases h5 with ⟨a, b⟩ | ⟨a, b⟩
  · exact .inl ⟨idx_inj h1 a, idx_inj h2 b⟩
  · exact .inr ⟨idx_inj h1 a, idx_inj h2 b⟩
theorem edges_final {ns : List Str} {es : List (Str × Str)} (h : EdgesOk ns es) {fs : List (Nat × Nat)} (hp : fs.Perm (es.map (ekey ns))) : EdgesOk ns (fs.map (back ns)) ∧ sameAdj es (fs.map (back ns)) := by
  have hp2 : (fs.map (back ns)).Perm (es.map fun e => back ns (ekey ns e)) := by
    have := hp.map (back ns)
    rwa [List.map_map] at this
  have bk : ∀ e ∈ es, back ns (ekey ns e) = e ∨ back ns (ekey ns e) = (e.2, e.1) := fun e he => back_key (h.mem e he).1 (h.mem e he).2.1
  refine ⟨⟨fun e he => ?_, ?_⟩, fun a b => ?_⟩
  · obtain ⟨f, hf, rfl⟩ := List.mem_map.mp (hp2.mem_iff.mp he)
    obtain ⟨m1, m2, m3⟩ := h.mem f hf
    rcases bk f hf with q | q <;> rw [q]
    · exact ⟨m1, m2, m3⟩
    · exact ⟨m2, m1, fun z => m3 z.symm⟩
  · refine (hp2.pairwise_iff (R := fun e f => ¬ samePair e f) fun {x y} hxy z => hxy (samePair_symm z)).mpr ?_
    refine List.pairwise_map.mpr (h.pw.imp_of_mem fun {e f} he hf hef z => hef (samePair_of (bk e he) (bk f hf) z))
  · have m : ∀ c : Str × Str, c ∈ fs.map (back ns) ↔ ∃ e ∈ es, back ns (ekey ns e) = c := fun c => by rw [hp2.mem_iff, List.mem_map]
    rw [m, m]
    constructor
    · rintro (q | q)
      · rcases bk _ q with z | z
        · exact .inl ⟨_, q, z⟩
        · exact .inr ⟨_, q, z⟩
      · rcases bk _ q with z | z
        · exact .inr ⟨_, q, z⟩
        · exact .inl ⟨_, q, z⟩
    · rintro (⟨e, he, z⟩ | ⟨e, he, z⟩)
      · rcases bk e he with y | y
        · rw [y] at z; rw [z] at he; exact .inl he
        · rw [y] at z
          obtain ⟨z1, z2⟩ := Prod.mk.inj z
          have : e = (b, a) := Prod.ext z2 z1
          rw [this] at he
          exact .inr he
      · rcases bk e he with y | y
        · rw [y] at z; rw [z] at he; exact .inr he
        · rw [y] at z
          obtain ⟨z1, z2⟩ := Prod.mk.inj z
          have : e = (a, b) := Prod.ext z2 z1
          rw [this] at he
          exact .inl he
theorem sort2 {i j : Int} {ms : List Int} (hp : ms.Perm [i, j]) (hs : ms.Pairwise (· ≤ ·)) : ms = [min i j, max i j] := by
  have hl := hp.length_eq
  match ms, hl with
  | [a, b], _ =>
    have hab : a ≤ b := by
      have := List.pairwise_cons.mp hs
      exact this.1 b (by simp)
    have h1 : a ∈ [i, j] := hp.mem_iff.mp (by simp)
    have h2 : b ∈ [i, j] := hp.mem_iff.mp (by simp)
    have h3 : i ∈ [a, b] := hp.mem_iff.mpr (by simp)
    have h4 : j ∈ [a, b] := hp.mem_iff.mpr (by simp)
    simp at h1 h2 h3 h4
    have e1 : a = min i j := by omega
    have e2 : b = max i j := by omega
    rw [e1, e2]
section
variable {P : Program} {w : World} {K : PySem.W.Frag} {mg : Str → Option Value} {base : Heap}
section
variable {σ : L2.St} {H H' : Hp} {ta tb te tx : TE} {tt : TT} {v : V} {E : XK} {ns : List Str} {z : Str}
theorem ev_index (ha : EvP ta σ H (LstV (ns.map V.str))) (hb : Ev tb σ H (.str z)) (hz : z ∈ ns) : Ev (tBM K "list" (rIndex K) ta (tCons tb tNil)) σ H (.int (ns.idxOf z : Nat)) := fun H1 e Q q =>
  ha H1 e _ fun v H2 e2 hv => by
    obtain ⟨a, rfl, h⟩ := hv
    refine ⟨.inl ⟨rfl, _, sq_of h⟩, hb H2 (e.trans e2) _ fun H3 e3 => ?_⟩
    have h1 := List.idxOf_lt_length_of_mem hz
    refine ⟨a, _, .str z, ns.idxOf z, .str z, rfl, rfl, sq_of (e3 _ _ h), rfl, flat_strs ns, ?_, ?_, fun m z' hm hz' => ?_, q H3 (e2.trans e3)⟩
    · rw [List.getElem?_map, List.getElem?_eq_getElem h1, List.getElem_idxOf h1]
      rfl
    · rw [eqV_str]
      exact decide_eq_true rfl
    · rw [List.getElem?_map] at hz'
      obtain ⟨y, hy, rfl⟩ := Option.map_eq_some_iff.mp hz'
      rw [eqV_str]
      refine decide_eq_false fun e => ?_
      obtain ⟨h2, h3⟩ := List.getElem?_eq_some_iff.mp hy
      have := List.not_of_lt_findIdx (p := fun b => b == z) (xs := ns) (i := m) hm
      simp [h3, e] at this
theorem ev_ixStr {k : Nat} (ha : EvP ta σ H (LstV (ns.map V.str))) (hb : Ev tb σ H (.int (k : Int))) (hk : k < ns.length) : Ev (tOp (rIxL K) ta tb) σ H (.str (ns.getD k Str.empty)) := fun H1 e Q q =>
  ha H1 e _ fun v H2 e2 hv => hb H2 (e.trans e2) _ fun H3 e3 => by
    obtain ⟨a, rfl, h⟩ := hv
    refine ⟨a, _, _, .str (ns.getD k Str.empty), rfl, rfl, sq_of (e3 _ _ h), atI_nat ?_, q H3 (e2.trans e3)⟩
    rw [List.getElem?_map, List.getD_eq_getElem?_getD, List.getElem?_eq_getElem hk]
    rfl
/-- the target two names, the items tuples of two -/
theorem elp_lcL2 {α : Type} {L : List α} {f : α → Pr} [st : ∀ a, Stab (f a)] {j1 j2 : Nat} {vs : List Nat} (p : α → Bool) (g1 g2 : α → Pr) {tl : TE} (h : EvP tl σ H (LstP (L.map fun a => TupP [g1 a, g2 a]))) (hz : L.length ≤ 40000) (hw : ∀ x y, wipe (((wipe σ vs).set j1 (some x)).set j2 (some y)) vs = wipe σ vs)
    (ht : ∀ a x y H1, a ∈ L → Ex H H1 → (g1 a).p x H1 → (g2 a).p y H1 → EvT tt (((wipe σ vs).set j1 (some x)).set j2 (some y)) H1 (p a)) (he : ∀ a x y H1, a ∈ L → Ex H H1 → (g1 a).p x H1 → (g2 a).p y H1 → p a = true → EvP te (((wipe σ vs).set j1 (some x)).set j2 (some y)) H1 (f a)) :
    EvLP (tLc (iList K tl) (gTup K 2 (gCons (gName j1) (gCons (gName j2) gNil))) tt te vs) σ H ((L.filter p).map f) := fun H0 e Q q => h H0 e _ fun v H1 e1 hv => by
  obtain ⟨a, xs, rfl, hx, ha⟩ := hv
  have hl : xs.length = L.length := by rw [ha.len, List.length_map]
  refine ⟨a, rfl, ⟨xs, sq_of hx⟩, ?_⟩
  refine elp_walk (J := Itl K a) (L := L) (f := f) (G := fun H => SqL K H a xs) (Y := YAt xs) (by rw [← hl]; exact walk_list) p (fun b τ H => ∃ x y, τ = ((wipe σ vs).set j1 (some x)).set j2 (some y) ∧ (g1 b).p x H ∧ (g2 b).p y H) hz H1 (fun H e => sq_of (e _ _ hx)) ?_ ?_ ?_ (Ex.refl H1) (fun p' vs' H2 hp e2 h2 h3 => q p' vs' H2 (fresh_back e1 hp) (e1.trans e2) h2 h3)
  · rintro i b x H H' hb e' ⟨rfl, hi⟩
    obtain ⟨c, hc, hg⟩ := allGet ha hi
    rw [hb] at hc
    cases hc
    obtain ⟨t, us, rfl, h1, h2⟩ := (TupP _).up e' hg
    match us, h2 with
    | [x, y], ⟨hx1, hy1, _⟩ =>
      refine ⟨_, Ex.refl _, hw x y, ⟨x, y, rfl, hx1, hy1⟩, fun Q q => ⟨t, _, rfl, st_of h1, rfl, x, _, rfl, y, _, rfl, rfl, q⟩⟩
  · rintro b τ H' hb e' ⟨x, y, rfl, hg1, hg2⟩
    exact ht b x y H' hb ((e.trans e1).trans e') hg1 hg2
  · rintro b τ H' hb e' ⟨x, y, rfl, hg1, hg2⟩ hp
    exact he b x y H' hb ((e.trans e1).trans e') hg1 hg2 hp
theorem pr2 {x y : V} {v : V} {H : Hp} (h : (TupV [x, y]).p v H) : (TupP [Is x, Is y]).p v H := by
  obtain ⟨a, h1, h2⟩ := h
  exact ⟨a, [x, y], h1, h2, rfl, rfl, trivial⟩
theorem all_to {α : Type} {f g : α → Pr} {H : Hp} (k : ∀ x v, (f x).p v H → (g x).p v H) : ∀ {xs : List α} {vs : List V}, AllP (xs.map f) vs H → AllP (xs.map g) vs H
  | [], [], _ => trivial
  | x :: xs, v :: vs, h => ⟨k x v h.1, all_to k (xs := xs) h.2⟩
  | [], _ :: _, h => h.elim
  | _ :: _, [], h => h.elim
end
theorem k_asg {te : TE} {g : TG} {D : Ends} {σ : L2.St} {H : Hp} {tz : TS} (h : te σ H fun x H1 => g x σ H1 fun σ2 H2 => tz D σ2 H2) : tSeq (tAsg te g) tz D σ H := h
theorem k_cb1 {r : List V → Hp → VK → Prop} {ta : TE} {σ : L2.St} {H : Hp} {Q : VK} (h : ta σ H fun x H1 => r [x] H1 Q) : tCB r (tCons ta tNil) σ H Q := h
def prID (e : Nat × Nat) : PyData := .tuple [.int (e.1 : Int), .int (e.2 : Int)]
theorem prID_lay (e : Nat × Nat) : (prID e).canLay0 = true ∧ (prID e).depth ≤ 1 := by
  constructor
  · simp [prID, PyData.canLay0, PyData.canLayAll0]
  · simp [prID, PyData.depth, PyData.depthAll]
theorem prID_eqv (e f : Nat × Nat) : PyData.eqv (prID e) (prID f) = decide (e = f) := by
  have h := PySem.W.Datum.eqv (α := Int × Int) ((e.1 : Int), (e.2 : Int)) ((f.1 : Int), (f.2 : Int))
  refine h.trans (decide_eq_decide.mpr ⟨fun z => ?_, fun z => by rw [z]⟩)
  obtain ⟨h1, h2⟩ := Prod.mk.inj z
  exact Prod.ext (Int.ofNat.inj h1) (Int.ofNat.inj h2)
theorem prI_dp {e : Nat × Nat} {v : V} {H : Hp} (h : (prI e).p v H) : Dp K H v (prID e) := by
  obtain ⟨a, rfl, h⟩ := h
  exact .tup (st_of h) (.cons (.int _) (.cons (.int _) .nil))
abbrev sc_checked_edgesN : List Str := ["names", "edges", "found", "edge", "name", "one", "other"]
theorem sc_checked_edges : FnScope sc_checked_edgesN ["names", "edges"] (defScope s_checked_edges) := ⟨rfl, rfl, rfl, by decide +kernel, rfl, by decide +kernel, by decide +kernel⟩
theorem bd_checked_edges : Bnd "checked_edges" "checked_edges" s_checked_edges ["names", "edges"] := fun _ _ _ _ _ _ us hl => match us, hl with | [_, _], _ => rfl
def R_checked_edges (Ps : List Pr) (P : Pr) : Prop := ∃ (ns : List Str) (es : List (Str × Str)), NamesOk ns ∧ EdgesOk ns es ∧ es.length ≤ 1000 ∧ Ps = [LstV (ns.map V.str), LstP (es.map prS)] ∧ P = EdgesP ns es
theorem ok_checked_edges (T : Tx K mg) : C8.Cal P w K mg base 2 "checked_edges" (Fn R_checked_edges) [] := by
  refine cal_of sc_checked_edges bd_checked_edges (fn_len (n := 2) fun Ps P h => by obtain ⟨_, _, _, _, _, rfl, _⟩ := h; rfl) (fun f cdv A outer s H vs Q E hr h => ?_) T.g_checked_edges T.f_checked_edges
  obtain ⟨_, _, ⟨ns, es, hn, he, hz, rfl, rfl⟩, ha, k⟩ := h
  obtain ⟨x, y, rfl, hx, hy⟩ := all2 ha
  refine ⟨_, (pss_cons (ps_if (pt_not (pt_val (C8.pe_c (ok_is_list T) hr (by decide) rfl (pa_cons (pv 1) pa_nil))))
        pss_never pss_nil)
      (pss_cons (ps_set (i := 2) sc_checked_edges.nd rfl (Or.inl rfl) (pe_lst pa_nil))
      (pss_cons (ps_for PassesOwn.never rfl (pi_list (pv 1)) (pg_name (i := 3) sc_checked_edges.nd rfl (Or.inl rfl))
        (pss_cons (ps_if (PW.pt (pw_or (pt_not (pt_val (pe_callB call_isi (by rfl) T.b_isinstance (by decide +kernel) (pa_cons (pv 3) (pa_cons (pe_bltn (v := .ty "tuple") (by rfl) T.b_tuple (by decide +kernel) rfl) pa_nil))))) (pw_or1 (pt_cmpR op_ne (pe_callB call_len_seq (by rfl) T.b_len (by decide +kernel) (pa_cons (pv 3) pa_nil)) pe_int (nomark _)))))
        pss_never pss_nil)
      (pss_cons (ps_for PassesOwn.never rfl (pi_tup (pv 3)) (pg_name (i := 4) sc_checked_edges.nd rfl (Or.inl rfl))
        (pss_one (ps_if (pt_not (pt_val (C8.pe_c (ok_is_known T) hr (by decide) rfl (pa_cons (pv 0) (pa_cons (pv 4) pa_nil)))))
        pss_never pss_nil)))
      (pss_cons (ps_asg (pe_callB cr_sorted (by rfl) T.b_sorted (by decide +kernel) (pa_cons (pe_lc (own := [("name", 4)]) (g := gName 4) (tt := tYes) (te := (tBM K _ (rIndex K) _ (tCons _ tNil))) rfl sc_checked_edges.nd (pi_tup (pv 3)) (blkOk_by (N := sc_checked_edgesN) (sc := defScope s_checked_edges) (by decide +kernel)) (fun _ _ _ _ _ => (pg_name (i := 4) sc_checked_edges.nd rfl (Or.inl rfl))) (fun _ _ _ _ _ => pts_nil) (fun _ _ _ _ _ => (pe_bm PySem.F.plainAttrs_list PySem.F.slot_list_index PySem.F.type_list_index mt_index (pv 0) (pa_cons (pv 4) pa_nil)))) pa_nil)) (pg_unl rfl (pgs_cons (pg_name (i := 5) sc_checked_edges.nd rfl (Or.inl rfl)) (pgs_cons (pg_name (i := 6) sc_checked_edges.nd rfl (Or.inl rfl)) pgs_nil))))
      (pss_cons (ps_if (PW.pt (pw_or (pt_cmpR op_eq (pv 5) (pv 6) (nomark _)) (pw_or1 (pt_cmpR (op_inD (hu65 hr)) (pe_tup (pa_cons (pv 5) (pa_cons (pv 6) pa_nil))) (pv 2) (by rfl)))))
        pss_never pss_nil)
      (pss_one (ps_expr (pe_bm PySem.F.plainAttrs_list PySem.F.slot_list_append PySem.F.type_list_append mt_append (pv 2) (pa_cons (pe_tup (pa_cons (pv 5) (pa_cons (pv 6) pa_nil))) pa_nil)))))))))
      (pss_one (ps_ret (pe_lc (own := [("one", 5), ("other", 6)]) (g := gTup K 2 (gCons (gName 5) (gCons (gName 6) gNil))) (tt := tYes) (te := (tTup (tCons (tOp (rIxL K) _ _) (tCons (tOp (rIxL K) _ _) tNil)))) rfl sc_checked_edges.nd (pi_list (pe_callB cr_sortedP (by rfl) T.b_sorted (by decide +kernel) (pa_cons (pv 2) pa_nil))) (blkOk_by (N := sc_checked_edgesN) (sc := defScope s_checked_edges) (by decide +kernel)) (fun _ _ _ _ _ => (pg_tup rfl (pgs_cons (pg_name (i := 5) sc_checked_edges.nd rfl (Or.inl rfl)) (pgs_cons (pg_name (i := 6) sc_checked_edges.nd rfl (Or.inl rfl)) pgs_nil)))) (fun _ _ _ _ _ => pts_nil) (fun _ _ _ _ _ => (pe_tup (pa_cons (pe_ix ix_list (pv 0) (pv 5) (fun _ _ => rfl)) (pa_cons (pe_ix ix_list (pv 0) (pv 6) (fun _ _ => rfl)) pa_nil)))))))))), ?_⟩
  refine q_not (et_not (a := true) (et_B (ev_is_list (ep_var rfl hy)))) fun H1 e1 => ?_
  refine q_asgL (el_lst ea_nil (by decide)) fun l H2 hl e2 hl2 => ?_
  have hl0 : H l = none := fresh_back e1 hl
  obtain ⟨b, ys, rfl, hy0, hya⟩ := hy
  have hlen : ys.length = es.length := by rw [hya.len, List.length_map]
  refine q_forLn (ev_var rfl) (sq_of (e2 _ _ (e1 _ _ hy0))) (fun i σ' H' => ∃ u0 u1 u2 u3 vs, σ' = [some x, some (.ref b), some (.ref l), u0, u1, u2, u3] ∧ Ex H H' ∧ H' l = some (.lst vs) ∧ AllP ((es.take i).map fun e => prI (ekey ns e)) vs H')
    (fun H3 e3 => ⟨_, _, _, _, [], rfl, (e1.trans e2).trans e3, e3 _ _ hl2, trivial⟩) (fun i σ' H' _ h => by obtain ⟨_, _, _, _, _, _, e, _⟩ := h; exact sq_of (e _ _ hy0)) ?_ ?_
  · rintro i yv σ' H' hi ⟨u0, u1, u2, u3, vs, rfl, e, hlv, hall⟩
    obtain ⟨ed, hed, hpr⟩ := allGet hya hi
    have hmem := List.mem_of_getElem? hed
    have hil : i < es.length := (List.getElem?_eq_some_iff.mp hed).1
    obtain ⟨m1, m2, m3⟩ := he.mem ed hmem
    -- the tuple at each heap
    have hp0 : ∀ H1, Ex H' H1 → (prS ed).p yv H1 := fun H1 e' => (prS ed).up (e.trans e') hpr
    have hx0 : ∀ H1, Ex H' H1 → (LstV (ns.map V.str)).p x H1 := fun H1 e' => (LstV _).up (e.trans e') hx
    refine q_not (et_or (a := false) (b := false) (et_not (a := true) (et_B (ev_isi (t := .type "tuple") (ev_var rfl) (fun H1 e' => by obtain ⟨a, rfl, h⟩ := hp0 H1 e'; exact .base (.tup h)) (.ty _) (kit_ty (by decide +kernel))))) fun _ => et_is (et_test (ev_ne (ev_lenTV (ep_var rfl (hp0 H' (Ex.refl H')))) ev_c rfl)) rfl) fun H3 e3 => ?_
    obtain ⟨t, rfl, ht⟩ := hp0 H3 e3
    refine q_forT (g := gName 4) (ev_var rfl) (st_of ht) (fun j σ' H4 => ∃ u, σ' = [some x, some (.ref b), some (.ref l), some (.ref t), u, u2, u3] ∧ Ex H3 H4) (fun H4 e4 => ⟨_, rfl, e4⟩) (fun j σ' H4 _ h => by obtain ⟨_, _, e4⟩ := h; exact st_of (e4 _ _ ht)) ?_ ?_
    · rintro j v σ' H4 hj ⟨u, rfl, e4⟩
      have hvm : ∃ z, v = .str z ∧ z ∈ ns := by
        have := List.mem_of_getElem? hj
        simp at this
        rcases this with rfl | rfl
        · exact ⟨_, rfl, m1⟩
        · exact ⟨_, rfl, m2⟩
      obtain ⟨z, rfl, hzm⟩ := hvm
      exact s_not (et_not (a := true) (et_is (et_B (ev_is_known (ep_var rfl (hx0 _ (e3.trans e4))) (ev_var rfl))) (decide_eq_true hzm))) fun H5 e5 => ⟨_, rfl, e4.trans e5⟩
    rintro σ' H4 ⟨u, rfl, e4⟩
    have e04 : Ex H' H4 := e3.trans e4
    -- one, other = sorted([..])
    have hlc : EvLP (tLc (iTup K (tVar 3)) (gName 4) tYes (tBM K "list" (rIndex K) (tVar 0) (tCons (tVar 4) tNil)) [4]) [some x, some (.ref b), some (.ref l), some (.ref t), u, u2, u3] H4 ([ns.idxOf ed.1, ns.idxOf ed.2].map fun i : Nat => Is (.int (i : Int))) := by
      have := elp_lcT (K := K) (σ := [some x, some (.ref b), some (.ref l), some (.ref t), u, u2, u3]) (H := H4) (L := [ed.1, ed.2]) (f := fun z => Is (.int (ns.idxOf z : Nat))) (tt := tYes) (te := tBM K "list" (rIndex K) (tVar 0) (tCons (tVar 4) tNil)) (j := 4) (vs := [4]) (fun _ => true) (fun z => Is (.str z)) (tl := tVar 3) (ep_var rfl (pr2 ⟨t, rfl, e4 _ _ ht⟩)) (by simp) (fun _ => rfl) (fun _ _ _ _ _ _ => et_yes)
        (fun z v H5 hzm e5 hv _ => by
          have hv : v = .str z := hv
          subst hv
          refine ep (ev_index (ep_var rfl (hx0 _ (e04.trans e5))) (ev_var rfl) ?_)
          simp at hzm
          rcases hzm with rfl | rfl
          · exact m1
          · exact m2)
      rw [filter_yes] at this
      exact this
    refine k_asg (k_cb1 (hlc H4 (Ex.refl H4) _ fun p vs2 H5 hp e5 h5 ha5 => ?_))
    have hvs2 := allIs (f := fun i : Nat => V.int (i : Int)) ha5
    refine ⟨p, [(ns.idxOf ed.1 : Int), (ns.idxOf ed.2 : Int)], rfl, sq_of (by rw [h5, hvs2]; rfl), by simp, fun ms q hperm hsort hq => ?_⟩
    have hms := sort2 hperm hsort
    subst hms
    have e05 : Ex H' H5 := e04.trans e5
    have eq6 : Ex H5 (upd H5 q (.lst ([min (ns.idxOf ed.1 : Int) (ns.idxOf ed.2 : Int), max (ns.idxOf ed.1 : Int) (ns.idxOf ed.2 : Int)].map V.int))) := Ex.new hq
    refine ⟨q, _, rfl, sq_of upd_same, rfl, _, _, rfl, _, _, rfl, rfl, ?_⟩
    generalize hH6 : upd H5 q _ = H6 at eq6
    have e06 : Ex H' H6 := e05.trans eq6
    have hne : ns.idxOf ed.1 ≠ ns.idxOf ed.2 := fun z => m3 (idx_inj m1 z)
    have kd : (min (ns.idxOf ed.1 : Int) (ns.idxOf ed.2 : Int)) = ((ekey ns ed).1 : Int) ∧ (max (ns.idxOf ed.1 : Int) (ns.idxOf ed.2 : Int)) = ((ekey ns ed).2 : Int) := by
      unfold ekey
      constructor
      · show min (ns.idxOf ed.1 : Int) (ns.idxOf ed.2 : Int) = ((min (ns.idxOf ed.1) (ns.idxOf ed.2) : Nat) : Int)
        omega
      · show max (ns.idxOf ed.1 : Int) (ns.idxOf ed.2 : Int) = ((max (ns.idxOf ed.1) (ns.idxOf ed.2) : Nat) : Int)
        omega
    rw [kd.1, kd.2]
    have hkne : (ekey ns ed).1 ≠ (ekey ns ed).2 := by
      unfold ekey
      show min _ _ ≠ max _ _
      omega
    have hfresh : ∀ f ∈ es.take i, ekey ns f ≠ ekey ns ed := fun f hf hk => by
      obtain ⟨j, hj, hj2⟩ := List.mem_iff_getElem.mp hf
      rw [List.length_take] at hj
      rw [List.getElem_take] at hj2
      have hpw := List.pairwise_iff_getElem.mp he.pw j i (by omega) hil (by omega)
      have h2 : es[i] = ed := (List.getElem?_eq_some_iff.mp hed).2
      rw [hj2, h2] at hpw
      have hfm := List.mem_of_mem_take hf
      exact hpw (key_same (he.mem f hfm).1 (he.mem f hfm).2.1 hk)
    have hall6 := hall.up e06
    refine q_not (et_or (a := false) (b := false) (et_is (et_test (ev_eq (ev_var rfl) (ev_var rfl) rfl)) (decide_eq_false fun z => by injection z with z; exact hkne (Int.ofNat.inj z))) fun _ => et_is (et_test (ev_inD (d := prID (ekey ns ed)) (ds := ((es.take i).map fun e => prID (ekey ns e))) (ep_to (ep_tupV (ea_cons (ev_var rfl) (ea_cons (ev_var rfl) ea_nil)) (by simp)) fun _ _ _ => prI_dp) (ep_var rfl (.lst (sq_of (e06 _ _ hlv)) (dp_all (fun _ _ _ => prI_dp) hall6))) ?_ ?_)) ?_) fun H7 e7 => ?_
    · have := prID_lay (ekey ns ed)
      unfold SeqAt.shaped
      rw [Bool.and_eq_true]
      exact ⟨this.1, decide_eq_true (by have := this.2; omega)⟩
    · exact (shaped_list (m := 1) (es.take i) (fun e _ => prID_lay _) (by decide)).1
    · rw [List.any_map]
      refine List.any_eq_false.mpr fun f hf => ?_
      show ¬ PyData.eqv (prID (ekey ns f)) (prID (ekey ns ed)) = true
      rw [prID_eqv]
      exact fun z => hfresh f hf (of_decide_eq_true z)
    have e07 : Ex H' H7 := e06.trans e7
    refine s_appU (xs := vs) (ys := [.int ((ekey ns ed).1 : Int), .int ((ekey ns ed).2 : Int)]) (e07 _ _ hlv) (ev_var rfl) (eu_tup (ea_cons (ev_var rfl) (ea_cons (ev_var rfl) ea_nil)) (by simp)) (by rw [hall.len, List.length_map, List.length_take]; omega) fun t2 H8 ht2 e8 h8 => ?_
    have e08 : Ex H' H8 := e07.trans e8
    refine ⟨_, _, _, _, _, rfl, Ex.mut (e.trans e08) hl0, upd_same, ?_⟩
    obtain ⟨h1, h2⟩ := List.getElem?_eq_some_iff.mp hed
    rw [List.take_succ_eq_append_getElem h1, List.map_append, h2]
    have ex : Exs H8 (upd H8 l (.lst (vs ++ [.ref t2]))) := Exs.upd (e08 _ _ hlv)
    exact ((stabs_map (fun a => inferInstance) (es.take i)).ups ex (hall.up e08)).append (AllP.one ((inferInstance : Stab (prI (ekey ns ed))).ups ex ⟨t2, rfl, h8⟩))
  · rintro σ' H' ⟨u0, u1, u2, u3, vs, rfl, e, hlv, hall⟩
    rw [hlen, List.take_length] at hall
    refine ⟨_, rfl, l, vs, rfl, sq_of hlv, fun x hxm => ?_, fun us q hperm hq => ?_⟩
    · obtain ⟨ed, _, t, h1, h2⟩ := allMem hall hxm
      exact ⟨t, _, _, h1, h2⟩
    obtain ⟨es2, hp2, hall2⟩ := perm_all hperm hall
    have eq1 : Ex H' (upd H' q (.lst us)) := Ex.new hq
    have hbk := edges_final he (fs := es2.map (ekey ns)) (hp2.map _)
    generalize hH6 : upd H' q _ = H6 at eq1
    have h6 : H6 q = some (.lst us) := by rw [← hH6]; exact upd_same
    have hlc := elp_lcL2 (K := K) (σ := [some x, some (.ref b), some (.ref l), u0, u1, u2, u3]) (H := H6) (L := es2) (f := fun e => prS (back ns (ekey ns e))) (tt := tYes) (te := tTup (tCons (tOp (rIxL K) (tVar 0) (tVar 5)) (tCons (tOp (rIxL K) (tVar 0) (tVar 6)) tNil))) (j1 := 5) (j2 := 6) (vs := [5, 6]) (fun _ => true) (fun e => Is (.int ((ekey ns e).1 : Int))) (fun e => Is (.int ((ekey ns e).2 : Int)))
      (tl := tC (.ref q)) (ep_v ev_c ⟨q, us, rfl, h6, all_to (fun _ _ => pr2) (hall2.up eq1)⟩) (by have := hp2.length_eq; omega) (fun _ _ => rfl) (fun _ _ _ _ _ _ _ _ => et_yes)
      (fun ed v1 v2 H7 hm e7 hv1 hv2 _ => by
        have hv1 : v1 = .int ((ekey ns ed).1 : Int) := hv1
        have hv2 : v2 = .int ((ekey ns ed).2 : Int) := hv2
        subst hv1 hv2
        have hm2 := he.mem ed (hp2.mem_iff.mp hm)
        have i1 := List.idxOf_lt_length_of_mem hm2.1
        have i2 := List.idxOf_lt_length_of_mem hm2.2.1
        have hx7 : (LstV (ns.map V.str)).p x H7 := (LstV _).up ((e.trans eq1).trans e7) hx
        exact ep_tupV (ea_cons (ev_ixStr (ep_var rfl hx7) (ev_var rfl) (by unfold ekey; show min _ _ < _; omega)) (ea_cons (ev_ixStr (ep_var rfl hx7) (ev_var rfl) (by unfold ekey; show max _ _ < _; omega)) ea_nil)) (by simp))
    rw [filter_yes] at hlc
    have fin := hlc.lst _ (Ex.refl _) Q fun v H7 e7 hv => k v H7 (e.trans (eq1.trans e7)) ⟨_, hbk.1, hbk.2, by rw [List.map_map, List.map_map]; exact hv⟩
    exact fin
end
end Rs
/-! Graphs. -/
namespace Rs
open PySem PySem.Spec PyProof.Rows L2 Evl
/-! ### what stays when an instance changes -/
def Exi (H H' : Hp) : Prop := ∀ a o, H a = some o → (∀ C dx fs, o ≠ .ins C dx fs) → H' a = some o
theorem Exi.upd {H : Hp} {a C dx : Addr} {fs : List (Str × V)} {o' : HO} (h : H a = some (.ins C dx fs)) : Exi H (upd H a o') := fun b o hb hn => by
  rw [upd_ne]
  · exact hb
  · rintro rfl
    rw [h] at hb
    exact hn C dx fs (Option.some.inj hb).symm
theorem lv_upi {xs : List V} {v : V} {H H' : Hp} (e : Exi H H') (h : (LstV xs).p v H) : (LstV xs).p v H' := by
  obtain ⟨a, h1, h2⟩ := h
  exact ⟨a, h1, e _ _ h2 fun C dx fs z => nomatch z⟩
theorem tv_upi {xs : List V} {v : V} {H H' : Hp} (e : Exi H H') (h : (TupV xs).p v H) : (TupV xs).p v H' := by
  obtain ⟨a, h1, h2⟩ := h
  exact ⟨a, h1, e _ _ h2 fun C dx fs z => nomatch z⟩
theorem prs_upi : ∀ {es : List (Str × Str)} {vs : List V} {H H' : Hp}, Exi H H' → AllP (es.map prS) vs H → AllP (es.map prS) vs H'
  | [], [], _, _, _, _ => trivial
  | _ :: es, _ :: vs, _, _, e, h => ⟨tv_upi e h.1, prs_upi (es := es) e h.2⟩
  | [], _ :: _, _, _, _, h => h.elim
  | _ :: _, [], _, _, _, h => h.elim
theorem lprs_upi {es : List (Str × Str)} {v : V} {H H' : Hp} (e : Exi H H') (h : (LstP (es.map prS)).p v H) : (LstP (es.map prS)).p v H' := by
  obtain ⟨a, vs, h1, h2, h3⟩ := h
  exact ⟨a, vs, h1, e _ _ h2 (fun C dx fs z => nomatch z), prs_upi e h3⟩
/-! ### the object -/
theorem nge : ¬ (("graph_names" : Str) = "graph_edges") := by decide +kernel
def grF (n d : V) : List (Str × V) := [("graph_names", n), ("graph_edges", d)]
theorem grF_eq (n d : V) : putF "graph_edges" d (putF "graph_names" n []) = grF n d := by
  show (if ("graph_names" : Str) = "graph_edges" then [(("graph_names" : Str), d)] else (("graph_names" : Str), n) :: putF "graph_edges" d []) = grF n d
  rw [if_neg nge]
  rfl
theorem grF_names (n d : V) : (grF n d).lookup ("graph_names" : Str) = some n := by rw [← grF_eq, lookup_putF, if_neg nge, lookup_putF, if_pos rfl]
theorem grF_edges (n d : V) : (grF n d).lookup ("graph_edges" : Str) = some d := by rw [← grF_eq, lookup_putF, if_pos rfl]
theorem grF_no (n d : V) {m : Str} (h1 : ¬ m = "graph_names") (h2 : ¬ m = "graph_edges") : (grF n d).lookup m = none := by
  rw [← grF_eq, lookup_putF, if_neg h2, lookup_putF, if_neg h1]
  rfl
def adjB (es : List (Str × Str)) (a b : Str) : Bool := decide (a = b) || (decide ((a, b) ∈ es) || decide ((b, a) ∈ es))
/-- a Graph with these names and edges -/
def GrP (K : PySem.W.Frag) (ns : List Str) (es : List (Str × Str)) : Pr := ⟨fun v H => NamesOk ns ∧ EdgesOk ns es ∧ ∃ a dx u1 u2, v = .ref a ∧ H a = some (.ins (CG K) dx (grF u1 u2)) ∧ (LstV (ns.map V.str)).p u1 H ∧ (LstP (es.map prS)).p u2 H, fun e h => by
  obtain ⟨hn, he, a, dx, u1, u2, h1, h2, h3, h4⟩ := h
  exact ⟨hn, he, a, dx, u1, u2, h1, e _ _ h2, (LstV _).up e h3, (LstP _).up e h4⟩⟩
def prSD (e : Str × Str) : PyData := .tuple [.str e.1, .str e.2]
theorem prSD_lay {e : Str × Str} (h1 : PyData.strOk e.1 = true) (h2 : PyData.strOk e.2 = true) : (prSD e).canLay0 = true ∧ (prSD e).depth ≤ 1 := by
  constructor
  · simp [prSD, PyData.canLay0, PyData.canLayAll0, h1, h2]
  · simp [prSD, PyData.depth, PyData.depthAll]
theorem prSD_eqv (e f : Str × Str) : PyData.eqv (prSD e) (prSD f) = decide (e = f) := PySem.W.Datum.eqv (α := Str × Str) e f
section
variable {P : Program} {w : World} {K : PySem.W.Frag} {mg : Str → Option Value} {base : Heap}
theorem prS_dp {e : Str × Str} {v : V} {H : Hp} (h : (prS e).p v H) : Dp K H v (prSD e) := by
  obtain ⟨a, rfl, h⟩ := h
  exact .tup (st_of h) (.cons (.str _) (.cons (.str _) .nil))
/-- len of an instance with its own __len__ -/
def rLenOwn (C : Addr) (sp : Sp) : List V → Hp → VK → Prop := fun xs H Q => ∃ a dx fs, xs = [.ref a] ∧ H a = some (.ins C dx fs) ∧ sp [.ref a] H (fun v H' => ∃ n : Nat, v = .int n ∧ n < 2 ^ 62 ∧ Q (.int n) H') E0
theorem call_len_own {X : Cx} {C f : Addr} {fd : FuncData} {ps : List Str} {sp : Sp} {k : Nat} (F : FnOk X.prog X.w X.K X.mg X.base CX0 k f fd ps sp) (hr : Room (k + 1) X.A) (hb : Binds X.K fd ps []) (hm : Meth X.K C "__len__" f) : CallR X (.builtin "len") (rLenOwn C sp) := by
  intro pins s σ H xs us Q I r h
  obtain ⟨a, dx, fs, rfl, ha, hsp⟩ := h
  obtain ⟨u, rfl, ru⟩ := vals1 r
  cases (show u = Value.ref a from ru)
  obtain ⟨mA, J, _⟩ := ins_get I.hok ha
  obtain ⟨od, J, _⟩ := J.look
  obtain ⟨m, hF⟩ := I.fr
  refine PySem.W.len_K hF I.ok.mod.kin J hm.at_ hm.fn ?_
  have hl := F.len _ _ _ _ hsp
  refine wpAny_call (codeAny_mono (F.run X.A.in1 X.stack s H ⟨[.ref a], []⟩ [.ref a] [.ref a] _ E0 hr.in1 I.env0.in1 (by
    have := hb s [.ref a] I.kIn (by simpa using hl)
    simpa using this) (.cons rfl .nil) hsp) fun r s' hq => ?_)
  cases r with
  | error e => exact hq.elim
  | ok fl =>
    cases fl with
    | ret w =>
      obtain ⟨z, H', I', rz, n, ez, hn, q⟩ := I.after hq
      subst ez
      obtain ⟨t, rfl⟩ := rz
      exact ⟨⟨by omega, by omega⟩, ⟨.int n, H', I'.tok _, ⟨_, rfl⟩, q⟩⟩
    | next => exact False.elim hq
    | brk => exact False.elim hq
    | cont => exact False.elim hq
section
variable {σ : L2.St} {H H' : Hp} {ta tb te tx : TE} {tt : TT} {v : V} {E : XK} {ns : List Str} {es : List (Str × Str)}
theorem gr_no {m : Str} (h1 : ¬ m = "graph_names") (h2 : ¬ m = "graph_edges") {v : V} {H : Hp} (h : (GrP K ns es).p v H) : ∃ a dx fs, v = .ref a ∧ H a = some (.ins (CG K) dx fs) ∧ fs.lookup m = none := by
  obtain ⟨_, _, a, dx, u1, u2, rfl, ha, _⟩ := h
  exact ⟨a, dx, _, rfl, ha, grF_no _ _ h1 h2⟩
theorem ep_gnames (T : Tx K mg) (h : EvP ta σ H (GrP K ns es)) : EvP (tFld K ta "graph_names") σ H (LstV (ns.map V.str)) := fun H1 e Q q => h H1 e _ fun v H2 e2 hv => by
  obtain ⟨_, _, a, dx, u1, u2, rfl, ha, h1, h2⟩ := hv
  exact ⟨a, _, dx, _, u1, rfl, ha, T.c_Graph, T.n_graph_names, grF_names _ _, q u1 H2 e2 h1⟩
theorem ep_gedges (T : Tx K mg) (h : EvP ta σ H (GrP K ns es)) : EvP (tFld K ta "graph_edges") σ H (LstP (es.map prS)) := fun H1 e Q q => h H1 e _ fun v H2 e2 hv => by
  obtain ⟨_, _, a, dx, u1, u2, rfl, ha, h1, h2⟩ := hv
  exact ⟨a, _, dx, _, u2, rfl, ha, T.c_Graph, T.n_graph_edges, grF_edges _ _, q u2 H2 e2 h2⟩
theorem elp_listV {xs : List V} (h : EvP te σ H (LstV xs)) : EvL (tCB (rListS K) (tCons te tNil)) σ H xs := fun H1 e Q q => h H1 e _ fun v H2 e2 hv => by
  obtain ⟨a, rfl, h2⟩ := hv
  exact ⟨a, xs, rfl, .inl (sq_of h2), fun l hl => q l _ (fresh_back e2 hl) (e2.trans (Ex.new hl)) upd_same⟩
theorem ev_isGraph (T : Tx K mg) (h : EvP ta σ H (GrP K ns es)) : Ev (tCB (rIsi K) (tCons ta (tCons (tC (.ref (CG K))) tNil))) σ H (.bl true) := fun H1 e Q q =>
  h H1 e _ fun x H2 e2 hx => by
    obtain ⟨_, _, a, dx, u1, u2, rfl, ha, _⟩ := hx
    have i := T.i_Graph
    exact ⟨_, _, _, _, true, rfl, .own (CG K), .base (.ins ha i.cl i.ha i.hn i.htk i.hm), i.me, q H2 e2⟩
end
/-! __init__ -/
abbrev sc_Graph_initN : List Str := ["self", "names", "edges"]
theorem sc_Graph_init : FnScope sc_Graph_initN ["self", "names", "edges"] (defScope s_Graph_init) := ⟨rfl, rfl, rfl, by decide +kernel, rfl, by decide +kernel, by decide +kernel⟩
def spGraph (K : PySem.W.Frag) : Sp := fun vs H Q _ => ∃ (p dx : Addr) (x y : V) (ns : List Str) (es : List (Str × Str)), vs = [.ref p, x, y] ∧ NamesOk ns ∧ EdgesOk ns es ∧ es.length ≤ 1000 ∧ (LstV (ns.map V.str)).p x H ∧ (LstP (es.map prS)).p y H ∧ H p = some (.ins (CG K) dx []) ∧
  ∀ H' es', (∀ a o, a ≠ p → H a = some o → H' a = some o) → sameAdj es es' → (GrP K ns es').p (.ref p) H' → Q .non H'
theorem ok_Graph (T : Tx K mg) : C8.Mak P w K mg base 3 "Graph" (CG K) (spGraph K) [] := by
  obtain ⟨fd, F⟩ := T.f_Graph_init
  obtain ⟨ds, h1, h2⟩ := FunD.binds1 (ps := ["self", "names", "edges"]) F 3 1 (by simp) rfl fun T kV doc pm an cdv ct us its l1 l2 => match us, its, l1, l2 with
    | [_, _, _], [_], _, _ => ⟨_, rfl, rfl⟩
  refine ⟨_, fd, _, ds, T.mk_Graph, ?_, T.g_Graph, h2, h1⟩
  refine F.ok sc_Graph_init (fun vs H Q E h => by obtain ⟨p, dx, x, y, ns, es, rfl, _⟩ := h; rfl) (fun cdv A outer s H vs Q E hr h => ?_)
  obtain ⟨p, dx, x, y, ns, es, rfl, hn, he, hz, hx, hy, hp, k⟩ := h
  refine ⟨_, PSs.nox (pss_cons (ps_fld (pv 0) (C8.pe_c (ok_checked_names T) hr (by decide) rfl (pa_cons (pv 1) pa_nil)) rfl)
      (pss_one (ps_fld (pv 0) (C8.pe_c (ok_checked_edges T) hr (by decide) rfl (pa_cons (pe_fld (pv 0) rfl) (pa_cons (pv 2) pa_nil))) rfl))), ?_⟩
  refine ep_call (P := LstV (ns.map V.str)) (eap_cons (ep_var rfl hx) eap_nil) ⟨ns, hn, rfl, rfl⟩ H (Ex.refl H) _ fun u1 H1 e1 hu1 => ?_
  refine ⟨.ref p, rfl, p, _, dx, [], rfl, e1 _ _ hp, T.c_Graph, T.n_graph_names, by show 0 < 1000; decide, ?_⟩
  have x1 : Exi H1 (upd H1 p (.ins (CG K) dx (putF "graph_names" u1 []))) := Exi.upd (e1 _ _ hp)
  have hu1' := lv_upi x1 hu1
  have hy1 := lprs_upi x1 ((LstP _).up e1 hy)
  have hp1 : (upd H1 p (.ins (CG K) dx (putF "graph_names" u1 []))) p = some (.ins (CG K) dx (putF "graph_names" u1 [])) := upd_same
  have hfr : ∀ a o, a ≠ p → H a = some o → (upd H1 p (.ins (CG K) dx (putF "graph_names" u1 []))) a = some o := fun a o na ha => by rw [upd_ne na]; exact e1 _ _ ha
  generalize upd H1 p (.ins (CG K) dx (putF "graph_names" u1 [])) = H2 at *
  have hl : (putF "graph_names" u1 [] : List (Str × V)).lookup ("graph_names" : Str) = some u1 := by rw [lookup_putF, if_pos rfl]
  refine ep_call (P := EdgesP ns es) (eap_cons (P := LstV (ns.map V.str)) (ep_v (ev_fld (ev_var rfl) hp1 T.c_Graph T.n_graph_names hl) hu1') (eap_cons (ep_var rfl hy1) eap_nil)) ⟨ns, es, hn, he, hz, rfl, rfl⟩ H2 (Ex.refl H2) _ fun u2 H3 e3 hu2 => ?_
  refine ⟨.ref p, rfl, p, _, dx, _, rfl, e3 _ _ hp1, T.c_Graph, T.n_graph_edges, by show 1 < 1000; decide, ?_⟩
  have x3 : Exi H3 (upd H3 p (.ins (CG K) dx (putF "graph_edges" u2 (putF "graph_names" u1 [])))) := Exi.upd (e3 _ _ hp1)
  obtain ⟨es', he', hsa, hu2'⟩ := hu2
  refine k _ es' (fun a o na ha => ?_) hsa ⟨hn, he', p, dx, u1, u2, rfl, ?_, lv_upi x3 ((LstV _).up e3 hu1'), lprs_upi x3 hu2'⟩
  · rw [upd_ne na]
    exact e3 _ _ (hfr a o na ha)
  · rw [upd_same, grF_eq]
/-- a Graph made, with the adjacency of es -/
def GrE (K : PySem.W.Frag) (ns : List Str) (es : List (Str × Str)) : Pr := ⟨fun v H => ∃ es', sameAdj es es' ∧ (GrP K ns es').p v H, fun e h => by
  obtain ⟨es', h1, h2⟩ := h
  exact ⟨es', h1, (GrP K _ _).up e h2⟩⟩
theorem ep_Graph {σ : L2.St} {H : Hp} {ta tb : TE} {E : XK} {ns : List Str} {es : List (Str × Str)} (hn : NamesOk ns) (he : EdgesOk ns es) (hz : es.length ≤ 1000) (h1 : EvP ta σ H (LstV (ns.map V.str))) (h2 : EvP tb σ H (LstP (es.map prS))) :
    EvP (tMake (CG K) (spGraph K) [] E (tCons ta (tCons tb tNil))) σ H (GrE K ns es) := fun H1 e Q q =>
  eap_cons h1 (eap_cons h2 eap_nil) H1 e _ fun vs H2 e2 ha x dx nx ndx ne => by
    match vs, ha with
    | [y1, y2], ⟨hy1, hy2, _⟩ =>
      have ex : Ex H2 (upd (upd H2 dx (.own x)) x (.ins (CG K) dx [])) := fun a o h => by
        rw [upd_ne (ne_of_none h nx), upd_ne (ne_of_none h ndx)]
        exact h
      refine ⟨x, dx, y1, y2, ns, es, rfl, hn, he, hz, (LstV _).up ex hy1, (LstP _).up ex hy2, upd_same, fun H3 es' k1 hs hg => ⟨rfl, q (.ref x) H3 (fun a o ha => ?_) ⟨es', hs, hg⟩⟩⟩
      have ha2 := e2 a o ha
      exact k1 a o (ne_of_none ha2 nx) (ex _ _ ha2)
/-! names, edges -/
abbrev sc_Graph_namesN : List Str := ["self"]
theorem sc_Graph_names : FnScope sc_Graph_namesN ["self"] (defScope s_Graph_names) := ⟨rfl, rfl, rfl, by decide +kernel, rfl, by decide +kernel, by decide +kernel⟩
theorem bd_Graph_names : Bnd "names" "Graph.names" s_Graph_names ["self"] := fun _ _ _ _ _ _ us hl => match us, hl with | [_], _ => rfl
def R_Graph_names (K : PySem.W.Frag) (Ps : List Pr) (P : Pr) : Prop := ∃ ns es, Ps = [GrP K ns es] ∧ P = LstV (ns.map V.str)
theorem ok_Graph_names (T : Tx K mg) : C8.Met P w K mg base 1 (CG K) "names" (Fn (R_Graph_names K)) [] := by
  refine met_of sc_Graph_names bd_Graph_names (fn_len (n := 1) fun Ps P h => by obtain ⟨_, _, rfl, _⟩ := h; rfl) (fun f cdv A outer s H vs Q E hr h => ?_) T.c_Graph T.m_Graph_names T.f_Graph_names
  obtain ⟨_, _, ⟨ns, es, rfl, rfl⟩, ha, k⟩ := h
  obtain ⟨x, rfl, hx⟩ := all1 ha
  refine ⟨_, (pss_one (ps_ret (pe_callTy call_list_of (by rfl) T.b_list (by decide +kernel) (pa_cons (pe_fld (pv 0) rfl) pa_nil)))), ?_⟩
  exact s_retP (el_lp (elp_listV (ep_gnames T (ep_var rfl hx)))) fun v H1 e1 hv => k v H1 e1 hv
abbrev sc_Graph_edgesN : List Str := ["self"]
theorem sc_Graph_edges : FnScope sc_Graph_edgesN ["self"] (defScope s_Graph_edges) := ⟨rfl, rfl, rfl, by decide +kernel, rfl, by decide +kernel, by decide +kernel⟩
theorem bd_Graph_edges : Bnd "edges" "Graph.edges" s_Graph_edges ["self"] := fun _ _ _ _ _ _ us hl => match us, hl with | [_], _ => rfl
def R_Graph_edges (K : PySem.W.Frag) (Ps : List Pr) (P : Pr) : Prop := ∃ ns es, Ps = [GrP K ns es] ∧ P = LstP (es.map prS)
theorem ok_Graph_edges (T : Tx K mg) : C8.Met P w K mg base 1 (CG K) "edges" (Fn (R_Graph_edges K)) [] := by
  refine met_of sc_Graph_edges bd_Graph_edges (fn_len (n := 1) fun Ps P h => by obtain ⟨_, _, rfl, _⟩ := h; rfl) (fun f cdv A outer s H vs Q E hr h => ?_) T.c_Graph T.m_Graph_edges T.f_Graph_edges
  obtain ⟨_, _, ⟨ns, es, rfl, rfl⟩, ha, k⟩ := h
  obtain ⟨x, rfl, hx⟩ := all1 ha
  refine ⟨_, (pss_one (ps_ret (pe_callTy call_list_of (by rfl) T.b_list (by decide +kernel) (pa_cons (pe_fld (pv 0) rfl) pa_nil)))), ?_⟩
  exact s_retP (elp_listOf (ep_gedges T (ep_var rfl hx))).lst fun v H1 e1 hv => k v H1 e1 hv
abbrev sc_Graph_lenN : List Str := ["self"]
theorem sc_Graph_len : FnScope sc_Graph_lenN ["self"] (defScope s_Graph_len) := ⟨rfl, rfl, rfl, by decide +kernel, rfl, by decide +kernel, by decide +kernel⟩
theorem bd_Graph_len : Bnd "__len__" "Graph.__len__" s_Graph_len ["self"] := fun _ _ _ _ _ _ us hl => match us, hl with | [_], _ => rfl
def R_Graph_len (K : PySem.W.Frag) (Ps : List Pr) (P : Pr) : Prop := ∃ (ns : List Str) (es : List (Str × Str)), Ps = [GrP K ns es] ∧ P = Is (.int (ns.length : Int))
theorem call_len_graph {X : Cx} (T : Tx X.K X.mg) (hr : Room 2 X.A) : CallR X (.builtin "len") (rLenOwn (CG X.K) (Fn (R_Graph_len X.K))) := by
  obtain ⟨fd, F⟩ := T.f_Graph_len
  refine call_len_own (fd := fd) (ps := ["self"]) (k := 1) ?_ hr (F.bindsN bd_Graph_len) T.m_Graph_len
  refine F.ok sc_Graph_len (fn_len (n := 1) fun Ps P h => by obtain ⟨_, _, rfl, _⟩ := h; rfl) (fun cdv A outer s H vs Q E hr h => ?_)
  obtain ⟨_, _, ⟨ns, es, rfl, rfl⟩, ha, k⟩ := h
  obtain ⟨x, rfl, hx⟩ := all1 ha
  refine ⟨_, PSs.nox (pss_one (ps_ret (pe_callB call_len_seq (by rfl) T.b_len (by decide +kernel) (pa_cons (pe_fld (pv 0) rfl) pa_nil)))), ?_⟩
  exact s_ret (ev_is (ev_lenLV (ep_gnames T (ep_var rfl hx))) (by rw [List.length_map])) fun H1 e1 => k _ H1 e1 rfl
theorem ev_lenGraph {σ : L2.St} {H : Hp} {ta : TE} {ns : List Str} {es : List (Str × Str)} (h : EvP ta σ H (GrP K ns es)) : Ev (tCB (rLenOwn (CG K) (Fn (R_Graph_len K))) (tCons ta tNil)) σ H (.int (ns.length : Int)) := fun H1 e Q q =>
  h H1 e _ fun v H2 e2 hv => by
    obtain ⟨hn, he, a, dx, u1, u2, rfl, ha, h1⟩ := id hv
    refine ⟨a, dx, _, rfl, ha, _, _, ⟨ns, es, rfl, rfl⟩, ⟨hv, trivial⟩, fun w H3 e3 hw => ⟨ns.length, hw, ?_, q H3 (e2.trans e3)⟩⟩
    have := hn.hi
    omega
abbrev sc_Graph_need_nameN : List Str := ["self", "value"]
theorem sc_Graph_need_name : FnScope sc_Graph_need_nameN ["self", "value"] (defScope s_Graph_need_name) := ⟨rfl, rfl, rfl, by decide +kernel, rfl, by decide +kernel, by decide +kernel⟩
theorem bd_Graph_need_name : Bnd "need_name" "Graph.need_name" s_Graph_need_name ["self", "value"] := fun _ _ _ _ _ _ us hl => match us, hl with | [_, _], _ => rfl
def R_Graph_need_name (K : PySem.W.Frag) (Ps : List Pr) (P : Pr) : Prop := ∃ (ns : List Str) (es : List (Str × Str)) (z : Str), z ∈ ns ∧ Ps = [GrP K ns es, Is (.str z)] ∧ P = Is .non
theorem ok_Graph_need_name (T : Tx K mg) : C8.Met P w K mg base 2 (CG K) "need_name" (Fn (R_Graph_need_name K)) [] := by
  refine met_of sc_Graph_need_name bd_Graph_need_name (fn_len (n := 2) fun Ps P h => by obtain ⟨_, _, _, _, rfl, _⟩ := h; rfl) (fun f cdv A outer s H vs Q E hr h => ?_) T.c_Graph T.m_Graph_need_name T.f_Graph_need_name
  obtain ⟨_, _, ⟨ns, es, z, hz, rfl, rfl⟩, ha, k⟩ := h
  obtain ⟨x, _, rfl, hx, rfl⟩ := all2 ha
  refine ⟨_, (pss_one (ps_if (pt_not (pt_val (C8.pe_c (ok_is_known T) hr (by decide) rfl (pa_cons (pe_fld (pv 0) rfl) (pa_cons (pv 1) pa_nil)))))
        pss_never pss_nil)), ?_⟩
  exact s_not (et_not (a := true) (et_is (et_B (ev_is_known (ep_gnames T (ep_var rfl hx)) (ev_var rfl))) (decide_eq_true hz))) fun H1 e1 => k _ H1 e1 rfl
theorem ev_need_name {σ : L2.St} {H : Hp} {ta tb : TE} {E : XK} {ns : List Str} {es : List (Str × Str)} {z : Str} (h : EvP ta σ H (GrP K ns es)) (hb : Ev tb σ H (.str z)) (hz : z ∈ ns) : Ev (tMeth (CG K) "need_name" (Fn (R_Graph_need_name K)) [] E ta (tCons tb tNil)) σ H .non :=
  ev (ep_meth h (fun _ _ => gr_no (by decide +kernel) (by decide +kernel)) (eap_cons (ep hb) eap_nil) ⟨ns, es, z, hz, rfl, rfl⟩)
abbrev sc_Graph_are_adjacentN : List Str := ["self", "one", "other"]
theorem sc_Graph_are_adjacent : FnScope sc_Graph_are_adjacentN ["self", "one", "other"] (defScope s_Graph_are_adjacent) := ⟨rfl, rfl, rfl, by decide +kernel, rfl, by decide +kernel, by decide +kernel⟩
theorem bd_Graph_are_adjacent : Bnd "are_adjacent" "Graph.are_adjacent" s_Graph_are_adjacent ["self", "one", "other"] := fun _ _ _ _ _ _ us hl => match us, hl with | [_, _, _], _ => rfl
def R_Graph_adj (K : PySem.W.Frag) (Ps : List Pr) (P : Pr) : Prop := ∃ (ns : List Str) (es : List (Str × Str)) (a b : Str), a ∈ ns ∧ b ∈ ns ∧ Ps = [GrP K ns es, Is (.str a), Is (.str b)] ∧ P = Is (.bl (adjB es a b))
theorem ok_Graph_are_adjacent (T : Tx K mg) : C8.Met P w K mg base 3 (CG K) "are_adjacent" (Fn (R_Graph_adj K)) [] := by
  refine met_of sc_Graph_are_adjacent bd_Graph_are_adjacent (fn_len (n := 3) fun Ps P h => by obtain ⟨_, _, _, _, _, _, rfl, _⟩ := h; rfl) (fun f cdv A outer s H vs Q E hr h => ?_) T.c_Graph T.m_Graph_are_adjacent T.f_Graph_are_adjacent
  obtain ⟨_, _, ⟨ns, es, a, b, hma, hmb, rfl, rfl⟩, ha, k⟩ := h
  obtain ⟨x, _, _, rfl, hx, rfl, rfl⟩ := all3 ha
  refine ⟨_, (pss_cons (ps_expr (C8.pe_mt (ok_Graph_need_name T) hr (by decide) (pv 0) (pa_cons (pv 1) pa_nil)))
      (pss_cons (ps_expr (C8.pe_mt (ok_Graph_need_name T) hr (by decide) (pv 0) (pa_cons (pv 2) pa_nil)))
      (pss_one (ps_ret (pe_or (pe_cmpR op_eq (pv 1) (pv 2) (nomark _)) (pe_or (pe_cmpR (op_inD (hu65 hr)) (pe_tup (pa_cons (pv 1) (pa_cons (pv 2) pa_nil))) (pe_fld (pv 0) rfl) (by rfl)) (pe_one (pe_cmpR (op_inD (hu65 hr)) (pe_tup (pa_cons (pv 2) (pa_cons (pv 1) pa_nil))) (pe_fld (pv 0) rfl) (by rfl))))))))), ?_⟩
  have hn := hx.1
  have he := hx.2.1
  refine q_drop (ev_need_name (ep_var rfl hx) (ev_var rfl) hma) fun H1 e1 => ?_
  refine q_drop (ev_need_name (ep_var rfl ((GrP K ns es).up e1 hx)) (ev_var rfl) hmb) fun H2 e2 => ?_
  have hx2 := (GrP K ns es).up (e1.trans e2) hx
  have oka := (hn.nm a hma).ok
  have okb := (hn.nm b hmb).ok
  have hes : SeqAt.shaped (.list (es.map prSD)) = true := (shaped_list (m := 1) es (fun e hm => prSD_lay (hn.nm _ (he.mem e hm).1).ok (hn.nm _ (he.mem e hm).2.1).ok) (by decide)).1
  have sh : ∀ {e : Str × Str}, PyData.strOk e.1 = true → PyData.strOk e.2 = true → SeqAt.shaped (prSD e) = true := fun h1 h2 => by
    have := prSD_lay h1 h2
    unfold SeqAt.shaped
    rw [Bool.and_eq_true]
    exact ⟨this.1, decide_eq_true (by have := this.2; omega)⟩
  have inq : ∀ (c d : Str), (es.map prSD).any (fun z => PyData.eqv z (prSD (c, d))) = decide ((c, d) ∈ es) := fun c d => by
    rw [List.any_map, Bool.eq_iff_iff, List.any_eq_true, decide_eq_true_eq]
    constructor
    · rintro ⟨e, he, q⟩
      have q : PyData.eqv (prSD e) (prSD (c, d)) = true := q
      rw [prSD_eqv] at q
      rw [← of_decide_eq_true q]
      exact he
    · intro q
      refine ⟨(c, d), q, ?_⟩
      show PyData.eqv (prSD (c, d)) (prSD (c, d)) = true
      rw [prSD_eqv]
      exact decide_eq_true rfl
  have hl : EvP (tFld K (tVar 0) "graph_edges") [some x, some (.str a), some (.str b)] H2 (DatP K (.list (es.map prSD))) := ep_to (ep_gedges T (ep_var rfl hx2)) fun v H3 _ hv => dat_lst (fun _ _ _ => prS_dp) hv
  refine s_ret (ev_is (v := .bl (decide (a = b) || (decide ((a, b) ∈ es) || decide ((b, a) ∈ es)))) (ev_orV (ev_is (ev_eq (ev_var rfl) (ev_var rfl) rfl) (by congr 1; exact decide_eq_decide.mpr ⟨fun z => by injection z, fun z => by rw [z]⟩)) fun _ => ev_orV (ev_is (ev_inD (d := prSD (a, b)) (ep_to (ep_tupV (ea_cons (ev_var rfl) (ea_cons (ev_var rfl) ea_nil)) (by simp)) fun _ _ _ h => prS_dp (e := (a, b)) h) hl (sh oka okb) hes) (by rw [inq])) fun _ => ev_is (ev_inD (d := prSD (b, a)) (ep_to (ep_tupV (ea_cons (ev_var rfl) (ea_cons (ev_var rfl) ea_nil)) (by simp)) fun _ _ _ h => prS_dp (e := (b, a)) h) hl (sh okb oka) hes) (by rw [inq])) rfl) fun H3 e3 => k _ H3 ((e1.trans e2).trans e3) rfl
theorem ev_adj {σ : L2.St} {H : Hp} {ta tb tc : TE} {E : XK} {ns : List Str} {es : List (Str × Str)} {a b : Str} (h : EvP ta σ H (GrP K ns es)) (hb : Ev tb σ H (.str a)) (hc : Ev tc σ H (.str b)) (ha : a ∈ ns) (hb' : b ∈ ns) : Ev (tMeth (CG K) "are_adjacent" (Fn (R_Graph_adj K)) [] E ta (tCons tb (tCons tc tNil))) σ H (.bl (adjB es a b)) :=
  ev (ep_meth h (fun _ _ => gr_no (by decide +kernel) (by decide +kernel)) (eap_cons (ep hb) (eap_cons (ep hc) eap_nil)) ⟨ns, es, a, b, ha, hb', rfl, rfl⟩)
abbrev sc_Graph_neighborsN : List Str := ["self", "name", "other"]
theorem sc_Graph_neighbors : FnScope sc_Graph_neighborsN ["self", "name"] (defScope s_Graph_neighbors) := ⟨rfl, rfl, rfl, by decide +kernel, rfl, by decide +kernel, by decide +kernel⟩
theorem bd_Graph_neighbors : Bnd "neighbors" "Graph.neighbors" s_Graph_neighbors ["self", "name"] := fun _ _ _ _ _ _ us hl => match us, hl with | [_, _], _ => rfl
def nbrs (ns : List Str) (es : List (Str × Str)) (a : Str) : List Str := ns.filter fun b => !decide (b = a) && adjB es a b
def R_Graph_nb (K : PySem.W.Frag) (Ps : List Pr) (P : Pr) : Prop := ∃ (ns : List Str) (es : List (Str × Str)) (a : Str), a ∈ ns ∧ Ps = [GrP K ns es, Is (.str a)] ∧ P = LstV ((nbrs ns es a).map V.str)
theorem ok_Graph_neighbors (T : Tx K mg) : C8.Met P w K mg base 4 (CG K) "neighbors" (Fn (R_Graph_nb K)) [] := by
  refine met_of sc_Graph_neighbors bd_Graph_neighbors (fn_len (n := 2) fun Ps P h => by obtain ⟨_, _, _, _, rfl, _⟩ := h; rfl) (fun f cdv A outer s H vs Q E hr h => ?_) T.c_Graph T.m_Graph_neighbors T.f_Graph_neighbors
  obtain ⟨_, _, ⟨ns, es, a, hma, rfl, rfl⟩, ha, k⟩ := h
  obtain ⟨x, _, rfl, hx, rfl⟩ := all2 ha
  refine ⟨_, (pss_cons (ps_expr (C8.pe_mt (ok_Graph_need_name T) hr (by decide) (pv 0) (pa_cons (pv 1) pa_nil)))
      (pss_one (ps_ret (pe_lc (own := [("other", 2)]) (g := gName 2) (tt := (tAnd (tTest (tOp _ _ _)) (tB (tMeth _ _ _ _ _ _ (tCons _ (tCons _ tNil)))))) (te := _) rfl sc_Graph_neighbors.nd (pi_list (pe_fld (pv 0) rfl)) (blkOk_by (N := sc_Graph_neighborsN) (sc := defScope s_Graph_neighbors) (by decide +kernel)) (fun _ _ _ _ _ => (pg_name (i := 2) sc_Graph_neighbors.nd rfl (Or.inl rfl))) (fun _ _ _ _ _ => (pts_one (PW.pt (pw_and (pt_cmpR op_ne (pv 2) (pv 1) (nomark _)) (pw_and1 (pt_val (C8.pe_mt (ok_Graph_are_adjacent T) hr (by decide) (pv 0) (pa_cons (pv 1) (pa_cons (pv 2) pa_nil))))))))) (fun _ _ _ _ _ => (pv 2)))))), ?_⟩
  have hn := hx.1
  refine q_drop (ev_need_name (ep_var rfl hx) (ev_var rfl) hma) fun H1 e1 => ?_
  have hx1 := (GrP K ns es).up e1 hx
  refine s_retP (P := LstV ((nbrs ns es a).map V.str)) (lpV (elp_lcL (f := fun s => Is (.str s)) (fun b => !decide (b = a) && adjB es a b) (fun s => Is (.str s)) (epL (ep_gnames T (ep_var rfl hx1))) (by have := hn.hi; omega) (fun _ => rfl) (fun b v H2 hb e2 hv => ?_) (fun b v H2 hb e2 hv _ => ?_))) fun v H2 e2 hv => k v H2 (e1.trans e2) hv
  · have hv : v = .str b := hv
    subst hv
    refine et_and (et_is (et_test (ev_ne (ev_var rfl) (ev_var rfl) rfl)) ?_) fun _ => et_B (ev_adj (ep_var rfl ((GrP K ns es).up e2 hx1)) (ev_var rfl) (ev_var rfl) hma hb)
    congr 1
    exact decide_eq_decide.mpr ⟨fun z => by injection z, fun z => by rw [z]⟩
  · have hv : v = .str b := hv
    subst hv
    exact ep (ev_var rfl)
section
variable {σ : L2.St} {H H' : Hp} {ta tb te tx : TE} {E : XK} {ns : List Str} {es : List (Str × Str)} {a : Str}
theorem ep_names (h : EvP ta σ H (GrP K ns es)) : EvP (tMeth (CG K) "names" (Fn (R_Graph_names K)) [] E ta tNil) σ H (LstV (ns.map V.str)) := ep_meth h (fun _ _ => gr_no (by decide +kernel) (by decide +kernel)) eap_nil ⟨ns, es, rfl, rfl⟩
theorem ep_edges (h : EvP ta σ H (GrP K ns es)) : EvP (tMeth (CG K) "edges" (Fn (R_Graph_edges K)) [] E ta tNil) σ H (LstP (es.map prS)) := ep_meth h (fun _ _ => gr_no (by decide +kernel) (by decide +kernel)) eap_nil ⟨ns, es, rfl, rfl⟩
theorem ep_nb (h : EvP ta σ H (GrP K ns es)) (hb : Ev tb σ H (.str a)) (ha : a ∈ ns) : EvP (tMeth (CG K) "neighbors" (Fn (R_Graph_nb K)) [] E ta (tCons tb tNil)) σ H (LstV ((nbrs ns es a).map V.str)) := ep_meth h (fun _ _ => gr_no (by decide +kernel) (by decide +kernel)) (eap_cons (ep hb) eap_nil) ⟨ns, es, a, ha, rfl, rfl⟩
end
/-! need_graph -/
abbrev sc_need_graphN : List Str := ["value"]
theorem sc_need_graph : FnScope sc_need_graphN ["value"] (defScope s_need_graph) := ⟨rfl, rfl, rfl, by decide +kernel, rfl, by decide +kernel, by decide +kernel⟩
theorem bd_need_graph : Bnd "need_graph" "need_graph" s_need_graph ["value"] := fun _ _ _ _ _ _ us hl => match us, hl with | [_], _ => rfl
def R_need_graph (K : PySem.W.Frag) (Ps : List Pr) (P : Pr) : Prop := ∃ ns es, Ps = [GrP K ns es] ∧ P = Is .non
theorem ok_need_graph (T : Tx K mg) : C8.Cal P w K mg base 1 "need_graph" (Fn (R_need_graph K)) [] := by
  refine cal_of sc_need_graph bd_need_graph (fn_len (n := 1) fun Ps P h => by obtain ⟨_, _, rfl, _⟩ := h; rfl) (fun f cdv A outer s H vs Q E hr h => ?_) T.g_need_graph T.f_need_graph
  obtain ⟨_, _, ⟨ns, es, rfl, rfl⟩, ha, k⟩ := h
  obtain ⟨x, rfl, hx⟩ := all1 ha
  refine ⟨_, (pss_one (ps_if (pt_not (pt_val (pe_callB call_isi (by rfl) T.b_isinstance (by decide +kernel) (pa_cons (pv 0) (pa_cons (pe_glob (v := .ref (He.ga _ "Graph")) rfl T.g_Graph rfl) pa_nil)))))
        pss_never pss_nil)), ?_⟩
  exact s_not (et_not (a := true) (et_B (ev_isGraph T (ep_var rfl hx)))) fun H1 e1 => k _ H1 e1 rfl
theorem ev_need_graph {σ : L2.St} {H : Hp} {ta : TE} {E : XK} {ns : List Str} {es : List (Str × Str)} (h : EvP ta σ H (GrP K ns es)) : Ev (tCall (Fn (R_need_graph K)) [] E (tCons ta tNil)) σ H .non := ev (ep_call (eap_cons h eap_nil) ⟨ns, es, rfl, rfl⟩)
end
end Rs
/-! The groups that grow level by level, and their signed sum. -/
namespace Rs
open PySem
section
variable (ns : List Str) (nb : Str → List Str)
def okG (g : List Str) (b : Str) : Bool := !(g.any fun m => decide (b ∈ nb m))
def startG (g : List Str) : Nat := match g.getLast? with
  | none => 0
  | some a => ns.idxOf a + 1
def growG (g : List Str) : List (List Str) := ((ns.drop (startG ns g)).filter (okG nb g)).map fun b => g ++ [b]
def lev : Nat → List (List Str)
  | 0 => [[]]
  | k + 1 => (lev k).flatMap (growG ns nb)
def upto : Nat → List (List Str)
  | 0 => [[]]
  | k + 1 => upto k ++ lev ns nb (k + 1)
end
theorem start_nil (ns : List Str) : startG ns [] = 0 := rfl
theorem start_snoc (ns : List Str) (g : List Str) (b : Str) : startG ns (g ++ [b]) = ns.idxOf b + 1 := by
  unfold startG
  rw [List.getLast?_concat]
theorem mem_grow {ns : List Str} {nb : Str → List Str} {g c : List Str} (h : c ∈ growG ns nb g) : ∃ b, c = g ++ [b] ∧ b ∈ ns.drop (startG ns g) ∧ okG nb g b = true := by
  obtain ⟨b, hb, rfl⟩ := List.mem_map.mp h
  obtain ⟨h1, h2⟩ := List.mem_filter.mp hb
  exact ⟨b, rfl, h1, h2⟩
theorem idx_drop {ns : List Str} (nd : ns.Nodup) {s : Nat} {X Y : List Str} {b : Str} (h : ns.drop s = X ++ b :: Y) : ns.idxOf b = s + X.length ∧ ns.drop (ns.idxOf b + 1) = Y := by
  have hl : s + X.length < ns.length := by
    have := congrArg List.length h
    simp at this
    omega
  have e1 : ns[s + X.length] = b := by
    have h1 : (ns.drop s)[X.length]? = some b := by rw [h]; simp
    rw [List.getElem?_drop, List.getElem?_eq_getElem hl] at h1
    exact Option.some.inj h1
  have e2 : ns.idxOf b = s + X.length := by
    have hm : b ∈ ns := by rw [← e1]; exact List.getElem_mem hl
    have h2 := List.idxOf_lt_length_of_mem hm
    have h3 : ns[ns.idxOf b] = b := List.getElem_idxOf h2
    exact (List.getElem_inj nd).mp (h3.trans e1.symm)
  refine ⟨e2, ?_⟩
  rw [e2]
  have : ns.drop (s + X.length + 1) = (ns.drop s).drop (X.length + 1) := by rw [List.drop_drop]; congr 1
  rw [this, h]
  simp
theorem lev_len {ns : List Str} {nb : Str → List Str} (nd : ns.Nodup) : ∀ k g, g ∈ lev ns nb k → g.length = k ∧ k ≤ startG ns g ∧ startG ns g ≤ ns.length ∧ ∀ b ∈ g, b ∈ ns
  | 0, g, h => by
    have : g = [] := List.mem_singleton.mp h
    subst this
    exact ⟨rfl, Nat.le_refl _, Nat.zero_le _, fun b hb => by cases hb⟩
  | k + 1, c, h => by
    obtain ⟨g, hg, hc⟩ := List.mem_flatMap.mp h
    obtain ⟨h1, h2, h3, h4⟩ := lev_len nd k g hg
    obtain ⟨b, rfl, hb, _⟩ := mem_grow hc
    obtain ⟨X, Y, e⟩ := List.append_of_mem hb
    obtain ⟨e1, _⟩ := idx_drop nd e
    have hbm : b ∈ ns := List.mem_of_mem_drop hb
    have hlt := List.idxOf_lt_length_of_mem hbm
    rw [start_snoc]
    refine ⟨by rw [List.length_append, h1]; rfl, by omega, by omega, fun x hx => ?_⟩
    rcases List.mem_append.mp hx with hx | hx
    · exact h4 x hx
    · rw [List.mem_singleton.mp hx]; exact hbm
theorem lev_sub {ns : List Str} {nb : Str → List Str} (nd : ns.Nodup) : ∀ k g, g ∈ lev ns nb k → List.Sublist g (ns.take (startG ns g))
  | 0, g, h => by
    have : g = [] := List.mem_singleton.mp h
    subst this
    exact List.nil_sublist _
  | k + 1, c, h => by
    obtain ⟨g, hg, hc⟩ := List.mem_flatMap.mp h
    have ih := lev_sub nd k g hg
    obtain ⟨b, rfl, hb, _⟩ := mem_grow hc
    obtain ⟨X, Y, e⟩ := List.append_of_mem hb
    obtain ⟨e1, _⟩ := idx_drop nd e
    have hbm : b ∈ ns := List.mem_of_mem_drop hb
    have hlt := List.idxOf_lt_length_of_mem hbm
    rw [start_snoc, List.take_succ_eq_append_getElem hlt, List.getElem_idxOf hlt]
    refine (ih.trans ?_).append (List.Sublist.refl _)
    have : ns.take (startG ns g) = (ns.take (ns.idxOf b)).take (startG ns g) := by rw [List.take_take, Nat.min_eq_left (by omega)]
    rw [this]
    exact List.take_sublist _ _
theorem lev_end {ns : List Str} {nb : Str → List Str} (nd : ns.Nodup) {k : Nat} (hk : ns.length < k) : lev ns nb k = [] := by
  cases e : lev ns nb k with
  | nil => rfl
  | cons g r =>
    have := lev_len (nb := nb) nd k g (by rw [e]; exact List.mem_cons_self)
    omega
/-! ### weights -/
def evs (g : List Str) : Int := 1 - 2 * ((g.length : Int) % 2)
def wt (p : Str → Rat) (g : List Str) : Rat := prodR ((evs g : Rat) :: g.map p)
theorem foldl_mul (z : Rat) : ∀ l : List Rat, l.foldl (· * ·) z = z * l.foldl (· * ·) 1
  | [] => by simp [Rat.mul_one]
  | x :: l => by
    rw [List.foldl_cons, List.foldl_cons, foldl_mul (z * x) l, foldl_mul (1 * x) l]
    grind
theorem wt_eq (p : Str → Rat) (g : List Str) : wt p g = (evs g : Rat) * (g.map p).foldl (· * ·) 1 := by
  unfold wt prodR
  rw [List.foldl_cons, foldl_mul]
  grind
theorem evs_snoc (g : List Str) (b : Str) : (evs (g ++ [b]) : Rat) = -(evs g : Rat) := by
  have : evs (g ++ [b]) = -evs g := by
    unfold evs
    rw [List.length_append]
    simp
    omega
  rw [this]
  exact Rat.intCast_neg _
theorem wt_snoc (p : Str → Rat) (g : List Str) (b : Str) : wt p (g ++ [b]) = wt p g * (-(p b)) := by
  rw [wt_eq, wt_eq, evs_snoc, List.map_append, List.foldl_append]
  show -_ * ((g.map p).foldl (· * ·) 1 * p b) = _
  grind
theorem wt_nil (p : Str → Rat) : wt p [] = 1 := by
  rw [wt_eq]
  show ((1 : Int) : Rat) * 1 = 1
  rw [Rat.mul_one]
  rfl
/-! ### the sum -/
section
variable {ns : List Str} {nb : Str → List Str} {adj : Str → Str → Bool} {p : Str → Rat} {A : Str → Bool}
def inA (A : Str → Bool) (g : List Str) : Bool := g.all A
def valG (p : Str → Rat) (A : Str → Bool) (g : List Str) : Rat := if inA A g then wt p g else 0
def sG (nb : Str → List Str) (adj : Str → Str → Bool) (p : Str → Rat) (A : Str → Bool) (g R : List Str) : Rat := valG p A g * q adj p ((R.filter (okG nb g)).filter A)
def sumL {β : Type} (f : β → Rat) (l : List β) : Rat := sumR (l.map f)
theorem sumR_cons (x : Rat) (l : List Rat) : sumR (x :: l) = x + sumR l := by
  have h : ∀ (z : Rat) (l : List Rat), l.foldl (· + ·) z = z + l.foldl (· + ·) 0 := by
    intro z l
    induction l generalizing z with
    | nil => simp [Rat.add_zero]
    | cons y l ih => rw [List.foldl_cons, List.foldl_cons, ih (z + y), ih (0 + y)]; grind
  unfold sumR
  rw [List.foldl_cons, h]
  grind
theorem sumR_append (a b : List Rat) : sumR (a ++ b) = sumR a + sumR b := by
  induction a with
  | nil => show sumR b = 0 + sumR b; grind
  | cons x a ih => rw [List.cons_append, sumR_cons, sumR_cons, ih]; grind
theorem inA_snoc (g : List Str) (b : Str) : inA A (g ++ [b]) = (inA A g && A b) := by
  unfold inA
  rw [List.all_append]
  simp
theorem okG_snoc (g : List Str) (b x : Str) : okG nb (g ++ [b]) x = (okG nb g x && !decide (x ∈ nb b)) := by
  unfold okG
  rw [List.any_append, Bool.not_or]
  simp
/-- over the ways to split R at an item that may come next -/
def splS (nb : Str → List Str) (adj : Str → Str → Bool) (p : Str → Rat) (A : Str → Bool) (g : List Str) : List Str → Rat
  | [] => 0
  | b :: Y => (if okG nb g b then sG nb adj p A (g ++ [b]) Y else 0) + splS nb adj p A g Y
theorem kids (hnb : ∀ m x, m ∈ ns → x ∈ ns → x ≠ m → (x ∈ nb m ↔ adj x m = true)) (g : List Str) : ∀ (R : List Str), R.Nodup → (∀ x ∈ R, x ∈ ns) →
    splS nb adj p A g R = sG nb adj p A g R - valG p A g
  | [], _, _ => by
    unfold sG
    rw [List.filter_nil, List.filter_nil, q_nil]
    show (0 : Rat) = valG p A g * 1 - valG p A g
    grind
  | b :: R, nd, hm => by
    have nd2 := List.nodup_cons.mp nd
    have ih := kids hnb g R nd2.2 fun x hx => hm x (List.mem_cons_of_mem _ hx)
    unfold splS
    rw [ih]
    show (if okG nb g b then sG nb adj p A (g ++ [b]) R else 0) + (sG nb adj p A g R - valG p A g) = _
    have hb : b ∈ ns := hm b List.mem_cons_self
    have key : sG nb adj p A g (b :: R) = sG nb adj p A g R + (if okG nb g b then sG nb adj p A (g ++ [b]) R else 0) := by
      unfold sG
      cases ho : okG nb g b with
      | false =>
        rw [List.filter_cons_of_neg (by rw [ho]; decide)]
        simp
        grind
      | true =>
        rw [List.filter_cons_of_pos ho, if_pos rfl]
        cases hA : A b with
        | false =>
          rw [List.filter_cons_of_neg (by rw [hA]; decide)]
          have : valG p A (g ++ [b]) = 0 := by
            unfold valG
            rw [inA_snoc, hA, Bool.and_false]
            rfl
          rw [this]
          grind
        | true =>
          rw [List.filter_cons_of_pos hA, q_cons]
          have hv : valG p A (g ++ [b]) = valG p A g * (-(p b)) := by
            unfold valG
            rw [inA_snoc, hA, Bool.and_true]
            split
            · exact wt_snoc p g b
            · grind
          have hf : far adj b ((R.filter (okG nb g)).filter A) = (R.filter (okG nb (g ++ [b]))).filter A := by
            unfold far
            rw [List.filter_filter, List.filter_filter, List.filter_filter]
            refine List.filter_congr fun x hx => ?_
            rw [okG_snoc]
            have hxb : x ≠ b := fun e => nd2.1 (e ▸ hx)
            have hi := hnb b x hb (hm x (List.mem_cons_of_mem _ hx)) hxb
            have : decide (x ∈ nb b) = adj x b := by
              rw [Bool.eq_iff_iff, decide_eq_true_eq]
              exact hi
            rw [this]
            cases okG nb g x <;> cases A x <;> cases adj x b <;> rfl
          rw [hf, hv]
          grind
    rw [key]
    grind
/-- all below g, with what may still come -/
def tG (ns : List Str) (nb : Str → List Str) (adj : Str → Str → Bool) (p : Str → Rat) (A : Str → Bool) (g : List Str) : Rat := sG nb adj p A g (ns.drop (startG ns g))
theorem grow_sum_aux (nd : ns.Nodup) (g : List Str) : ∀ (R : List Str) (X : List Str), ns.drop (startG ns g) = X ++ R →
    sumR (((R.filter (okG nb g)).map fun b => g ++ [b]).map (tG ns nb adj p A)) = splS nb adj p A g R
  | [], X, h => rfl
  | b :: R, X, h => by
    have ih := grow_sum_aux nd g R (X ++ [b]) (by rw [h]; simp)
    unfold splS
    rw [← ih]
    show _ = (if okG nb g b then sG nb adj p A (g ++ [b]) R else 0) + _
    have e2 : tG ns nb adj p A (g ++ [b]) = sG nb adj p A (g ++ [b]) R := by
      unfold tG
      rw [start_snoc, (idx_drop nd h).2]
    cases ho : okG nb g b with
    | false =>
      rw [List.filter_cons_of_neg (by rw [ho]; decide)]
      simp
      grind
    | true =>
      rw [List.filter_cons_of_pos ho, List.map_cons, List.map_cons, sumR_cons, e2, if_pos rfl]
theorem grow_sum (nd : ns.Nodup) (hnb : ∀ m x, m ∈ ns → x ∈ ns → x ≠ m → (x ∈ nb m ↔ adj x m = true)) (g : List Str) : sumL (tG ns nb adj p A) (growG ns nb g) = tG ns nb adj p A g - valG p A g := by
  unfold sumL growG
  rw [grow_sum_aux nd g (ns.drop (startG ns g)) [] rfl]
  exact kids hnb g _ (nd.sublist (List.drop_sublist _ _)) fun x hx => List.mem_of_mem_drop hx
theorem sumL_cons {β : Type} (f : β → Rat) (x : β) (l : List β) : sumL f (x :: l) = f x + sumL f l := by unfold sumL; rw [List.map_cons, sumR_cons]
theorem sumL_append {β : Type} (f : β → Rat) (a b : List β) : sumL f (a ++ b) = sumL f a + sumL f b := by unfold sumL; rw [List.map_append, sumR_append]
theorem sumL_nil {β : Type} (f : β → Rat) : sumL f [] = 0 := rfl
theorem level_sum (nd : ns.Nodup) (hnb : ∀ m x, m ∈ ns → x ∈ ns → x ≠ m → (x ∈ nb m ↔ adj x m = true)) (l : List (List Str)) : sumL (tG ns nb adj p A) (l.flatMap (growG ns nb)) = sumL (tG ns nb adj p A) l - sumL (valG p A) l := by
  induction l with
  | nil => rw [List.flatMap_nil, sumL_nil, sumL_nil]; grind
  | cons g l ih => rw [List.flatMap_cons, sumL_append, sumL_cons, sumL_cons, ih, grow_sum nd hnb]; grind
theorem upto_sum (nd : ns.Nodup) (hnb : ∀ m x, m ∈ ns → x ∈ ns → x ≠ m → (x ∈ nb m ↔ adj x m = true)) : ∀ k, sumL (valG p A) (upto ns nb k) + sumL (tG ns nb adj p A) (lev ns nb (k + 1)) = q adj p (ns.filter A)
  | 0 => by
    have h := level_sum (p := p) (A := A) nd hnb (lev ns nb 0)
    show sumL (valG p A) [[]] + sumL (tG ns nb adj p A) ((lev ns nb 0).flatMap (growG ns nb)) = _
    rw [h]
    show sumL (valG p A) [[]] + (sumL (tG ns nb adj p A) [[]] - sumL (valG p A) [[]]) = _
    have e : sumL (tG ns nb adj p A) [[]] = q adj p (ns.filter A) := by
      rw [sumL_cons, sumL_nil]
      unfold tG sG valG
      have h1 : okG nb [] = fun _ => true := rfl
      rw [start_nil, List.drop_zero, h1, filter_yes]
      show (if true = true then wt p [] else 0) * _ + 0 = _
      rw [if_pos rfl, wt_nil]
      grind
    rw [e]
    grind
  | k + 1 => by
    have ih := upto_sum nd hnb k
    have h := level_sum (p := p) (A := A) nd hnb (lev ns nb (k + 1))
    show sumL (valG p A) (upto ns nb k ++ lev ns nb (k + 1)) + sumL (tG ns nb adj p A) ((lev ns nb (k + 1)).flatMap (growG ns nb)) = _
    rw [sumL_append, h]
    grind
/-- how many -/
theorem q_neg1 (adj : Str → Str → Bool) : ∀ (n : Nat) (L : List Str), L.length ≤ n → 1 ≤ q adj (fun _ => -1) L ∧ q adj (fun _ => -1) L ≤ ((2 ^ L.length : Nat) : Rat)
  | 0, L, hl => by
    have h0 : L = [] := List.length_eq_zero_iff.mp (Nat.le_zero.mp hl)
    subst h0
    rw [q_nil]
    exact ⟨Rat.le_refl, by decide⟩
  | n + 1, [], _ => by
    rw [q_nil]
    exact ⟨Rat.le_refl, by decide⟩
  | n + 1, a :: L, hl => by
    have hl' : L.length ≤ n := by simpa using hl
    obtain ⟨h1, h2⟩ := q_neg1 adj n L hl'
    have hf : (far adj a L).length ≤ L.length := List.length_filter_le _ _
    obtain ⟨h3, h4⟩ := q_neg1 adj n (far adj a L) (Nat.le_trans hf hl')
    rw [q_cons]
    have h5 : ((2 ^ (far adj a L).length : Nat) : Rat) ≤ ((2 ^ L.length : Nat) : Rat) := Rat.natCast_le_natCast.mpr (Nat.pow_le_pow_right (by omega) hf)
    have h6 : ((2 ^ (a :: L).length : Nat) : Rat) = ((2 ^ L.length : Nat) : Rat) + ((2 ^ L.length : Nat) : Rat) := by
      rw [List.length_cons, Nat.pow_succ, ← Rat.natCast_add]
      congr 1
      omega
    rw [h6]
    constructor <;> grind
theorem wt_neg1 (g : List Str) : ∀ n, g.length = n → wt (fun _ => -1) g = 1 := by
  intro n
  induction n generalizing g with
  | zero =>
    intro h
    have h0 : g = [] := List.length_eq_zero_iff.mp h
    rw [h0]
    exact wt_nil _
  | succ n ih =>
    intro h
    have hne : g ≠ [] := fun e => by rw [e] at h; cases h
    rw [← List.dropLast_concat_getLast hne, wt_snoc, ih _ (by rw [List.length_dropLast]; omega)]
    grind
theorem upto_len (nd : ns.Nodup) (hnb : ∀ m x, m ∈ ns → x ∈ ns → x ≠ m → (x ∈ nb m ↔ adj x m = true)) (k : Nat) : (upto ns nb k).length + (lev ns nb (k + 1)).length ≤ 2 ^ ns.length := by
  have h := upto_sum (p := fun _ => -1) (A := fun _ => true) nd hnb k
  have hv : ∀ g, valG (fun _ => -1) (fun _ => true) g = 1 := fun g => by
    unfold valG inA
    rw [List.all_eq_true.mpr fun _ _ => rfl, if_pos rfl]
    exact wt_neg1 g _ rfl
  have h1 : ∀ l : List (List Str), sumL (valG (fun _ => -1) (fun _ => true)) l = (l.length : Rat) := fun l => by
    induction l with
    | nil => rfl
    | cons g l ih => rw [sumL_cons, ih, hv, List.length_cons, Rat.natCast_add]; grind
  have h2 : ∀ l : List (List Str), (l.length : Rat) ≤ sumL (tG ns nb adj (fun _ => -1) (fun _ => true)) l := fun l => by
    induction l with
    | nil => exact Rat.le_refl
    | cons g l ih =>
      rw [sumL_cons, List.length_cons, Rat.natCast_add]
      have h3 : 1 ≤ tG ns nb adj (fun _ => -1) (fun _ => true) g := by
        unfold tG sG
        rw [hv]
        have := (q_neg1 adj _ (((ns.drop (startG ns g)).filter (okG nb g)).filter fun _ => true) (Nat.le_refl _)).1
        grind
      have e1 : ((1 : Nat) : Rat) = 1 := rfl
      rw [e1]
      grind
  rw [h1] at h
  have h4 := h2 (lev ns nb (k + 1))
  have h5 := (q_neg1 adj _ (ns.filter fun _ => true) (Nat.le_refl _)).2
  rw [filter_yes] at h h5
  have h6 : (((upto ns nb k).length + (lev ns nb (k + 1)).length : Nat) : Rat) ≤ ((2 ^ ns.length : Nat) : Rat) := by
    rw [Rat.natCast_add]
    grind
  exact Rat.natCast_le_natCast.mp h6
theorem sum_filter_val (l : List (List Str)) : sumR ((l.filter (inA A)).map (wt p)) = sumL (valG p A) l := by
  induction l with
  | nil => rfl
  | cons g l ih =>
    rw [sumL_cons]
    cases h : inA A g with
    | true =>
      rw [List.filter_cons_of_pos h, List.map_cons, sumR_cons, ih]
      unfold valG
      rw [if_pos h]
    | false =>
      rw [List.filter_cons_of_neg (by rw [h]; decide), ih]
      unfold valG
      rw [h]
      show _ = 0 + _
      grind
end
/-- what the list of the independent sets is good for -/
structure IndOk (ns : List Str) (adj : Str → Str → Bool) (L : List (List Str)) : Prop where
  len : L.length ≤ 256
  mem : ∀ g ∈ L, g.length ≤ 8 ∧ ∀ b ∈ g, b ∈ ns
  sub : ∀ g ∈ L, List.Sublist g ns
  sum : ∀ (p : Str → Rat) (A : Str → Bool), sumR ((L.filter (inA A)).map (wt p)) = q adj p (ns.filter A)
theorem ind_ok {ns : List Str} {nb : Str → List Str} {adj : Str → Str → Bool} (nd : ns.Nodup) (h8 : ns.length ≤ 8) (hnb : ∀ m x, m ∈ ns → x ∈ ns → x ≠ m → (x ∈ nb m ↔ adj x m = true)) {k : Nat} (hk : lev ns nb (k + 1) = []) : IndOk ns adj (upto ns nb k) where
  len := by
    have h := upto_len nd hnb k
    have : 2 ^ ns.length ≤ 2 ^ 8 := Nat.pow_le_pow_right (by omega) h8
    omega
  mem := by
    have : ∀ k, ∀ g ∈ upto ns nb k, g.length ≤ 8 ∧ ∀ b ∈ g, b ∈ ns := by
      have h0 : ∀ k, ∀ g ∈ lev ns nb k, g.length ≤ 8 ∧ ∀ b ∈ g, b ∈ ns := fun k g hg => by
        obtain ⟨h1, h2, h3, h4⟩ := lev_len nd k g hg
        exact ⟨by omega, h4⟩
      intro k
      induction k with
      | zero => exact h0 0
      | succ k ih =>
        intro g hg
        rcases List.mem_append.mp hg with hg | hg
        · exact ih g hg
        · exact h0 _ g hg
    exact this k
  sub := by
    intro g hg
    have : ∀ k, ∀ g ∈ upto ns nb k, List.Sublist g ns := by
      have h0 : ∀ k, ∀ g ∈ lev ns nb k, List.Sublist g ns := fun k g hg => (lev_sub nd k g hg).trans (List.take_sublist _ _)
      intro k
      induction k with
      | zero => exact h0 0
      | succ k ih =>
        intro g hg
        rcases List.mem_append.mp hg with hg | hg
        · exact ih g hg
        · exact h0 _ g hg
    exact this k g hg
  sum := fun p A => by
    have h := upto_sum (p := p) (A := A) nd hnb k
    rw [hk, sumL_nil] at h
    rw [sum_filter_val, ← h]
    grind
end Rs
/-! Dicts with names as keys; loops over enumerate. -/
namespace Rs
open PySem PySem.Spec PyProof.Rows L2 Evl
/-! ### the pairs -/
def zipK (L : List Str) (us : List V) : List (Key × V) := (L.map Sum.inr).zip us
theorem zipK_cons (s : Str) (L : List Str) (u : V) (us : List V) : zipK (s :: L) (u :: us) = (Sum.inr s, u) :: zipK L us := rfl
theorem zipK_len {L : List Str} {us : List V} (h : us.length = L.length) : (zipK L us).length = L.length := by
  unfold zipK
  rw [List.length_zip, List.length_map, h, Nat.min_self]
theorem inr_ne {s t : Str} (h : s ≠ t) : ¬ (Sum.inr s : Key) = Sum.inr t := fun e => h (by injection e)
theorem valV_zip : ∀ {L : List Str} {us : List V} {i : Nat} {s : Str} {u : V}, L.Nodup → L[i]? = some s → us[i]? = some u → valV (zipK L us) (Sum.inr s) = some u
  | [], _, _, _, _, _, h, _ => by simp at h
  | _ :: _, [], _, _, _, _, _, h => by simp at h
  | t :: L, w :: us, 0, s, u, nd, h1, h2 => by
    have e1 : t = s := by simpa using h1
    have e2 : w = u := by simpa using h2
    rw [zipK_cons, valV_pos (by rw [e1])]
    rw [e2]
  | t :: L, w :: us, i + 1, s, u, nd, h1, h2 => by
    have h1' : L[i]? = some s := by simpa using h1
    have h2' : us[i]? = some u := by simpa using h2
    have nd2 := List.nodup_cons.mp nd
    have hne : t ≠ s := fun e => nd2.1 (e ▸ List.mem_of_getElem? h1')
    rw [zipK_cons, valV_neg (inr_ne hne)]
    exact valV_zip nd2.2 h1' h2'
theorem valV_zip_none : ∀ {L : List Str} {us : List V} {s : Str}, s ∉ L → valV (zipK L us) (Sum.inr s) = none
  | [], us, _, _ => by
    have : zipK [] us = [] := rfl
    rw [this]
    rfl
  | t :: L, [], s, _ => by
    have : zipK (t :: L) [] = [] := by unfold zipK; rw [List.zip_nil_right]
    rw [this]
    rfl
  | t :: L, u :: us, s, h => by
    have h2 : ¬ (s = t ∨ s ∈ L) := fun z => h (List.mem_cons.mpr z)
    rw [zipK_cons, valV_neg (inr_ne fun e => h2 (.inl e.symm))]
    exact valV_zip_none fun z => h2 (.inr z)
theorem zipK_snoc {L : List Str} {us : List V} (h : us.length = L.length) (s : Str) (u : V) : zipK (L ++ [s]) (us ++ [u]) = zipK L us ++ [(Sum.inr s, u)] := by
  unfold zipK
  rw [List.map_append, List.zip_append (by rw [List.length_map, h])]
  rfl
theorem any_inr_self (s : Str) (r : List (Key × V)) (u : V) : ((((Sum.inr s : Key), u) :: r).any fun kv => decide (kv.1 = (Sum.inr s : Key))) = true := by
  rw [List.any_cons, decide_eq_true rfl]
  rfl
theorem map_id_of {s : Str} {v : V} : ∀ (L : List Str) (us : List V), s ∉ L → (zipK L us).map (fun kv => if kv.1 = (Sum.inr s : Key) then (kv.1, v) else kv) = zipK L us
  | [], _, _ => rfl
  | _ :: _, [], _ => by
    unfold zipK
    rw [List.zip_nil_right]
    rfl
  | t :: L, u :: us, h => by
    have h2 : ¬ (s = t ∨ s ∈ L) := fun z => h (List.mem_cons.mpr z)
    rw [zipK_cons, List.map_cons, map_id_of L us fun z => h2 (.inr z)]
    show (if (Sum.inr t : Key) = Sum.inr s then _ else _) :: _ = _
    rw [if_neg (inr_ne fun e => h2 (.inl e.symm))]
theorem putK_zip {v : V} : ∀ {L : List Str} {us : List V} {i : Nat} {s : Str}, L.Nodup → us.length = L.length → L[i]? = some s → putK (zipK L us) (Sum.inr s) v = zipK L (us.set i v)
  | [], _, _, _, _, _, h => by simp at h
  | _ :: _, [], _, _, _, h, _ => by cases h
  | t :: L, w :: us, 0, s, nd, hl, h1 => by
    have e1 : t = s := by simpa using h1
    subst e1
    rw [zipK_cons]
    unfold putK
    rw [if_pos (any_inr_self t _ w), List.map_cons, if_pos rfl, map_id_of L us (List.nodup_cons.mp nd).1]
    rfl
  | t :: L, w :: us, i + 1, s, nd, hl, h1 => by
    have h1' : L[i]? = some s := by simpa using h1
    have nd2 := List.nodup_cons.mp nd
    have hl' : us.length = L.length := by simpa using hl
    have hne : t ≠ s := fun e => nd2.1 (e ▸ List.mem_of_getElem? h1')
    have ih := putK_zip (v := v) nd2.2 hl' h1'
    have hus : i < us.length := by rw [hl']; exact (List.getElem?_eq_some_iff.mp h1').1
    have hany : ((zipK L us).any fun kv => decide (kv.1 = (Sum.inr s : Key))) = true := by
      rw [valV_any, valV_zip nd2.2 h1' (List.getElem?_eq_getElem hus)]
      rfl
    unfold putK at ih ⊢
    rw [if_pos hany] at ih
    rw [zipK_cons, List.any_cons, hany, Bool.or_true, if_pos rfl, List.map_cons, ih, if_neg (inr_ne hne)]
    rfl
theorem mergeK_zip : ∀ (L : List Str) (us : List V) (L0 : List Str) (us0 : List V), (L0 ++ L).Nodup → us0.length = L0.length → us.length = L.length → mergeK (zipK L0 us0) (zipK L us) = zipK (L0 ++ L) (us0 ++ us)
  | [], [], L0, us0, _, _, _ => by
    rw [List.append_nil, List.append_nil]
    rfl
  | s :: L, u :: us, L0, us0, nd, h0, h => by
    have h' : us.length = L.length := by simpa using h
    have hn : s ∉ L0 := fun hm => by
      have := (List.nodup_append.mp nd).2.2 s hm s List.mem_cons_self
      exact this rfl
    have ih := mergeK_zip L us (L0 ++ [s]) (us0 ++ [u]) (by simpa using nd) (by simp [h0]) h'
    rw [zipK_cons]
    show mergeK (putK (zipK L0 us0) (Sum.inr s) u) (zipK L us) = _
    rw [putK_new u (valV_zip_none hn), ← zipK_snoc h0, ih]
    simp
  | [], _ :: _, _, _, _, _, h => by cases h
  | _ :: _, [], _, _, _, _, h => by cases h
/-- a dict with these names as keys, in this order -/
def DicP (L : List Str) (f : Str → Pr) : Pr := ⟨fun v H => L.Nodup ∧ ∃ a us, v = .ref a ∧ H a = some (.dK (zipK L us)) ∧ AllP (L.map f) us H, fun e h => by
  obtain ⟨nd, a, us, h1, h2, h3⟩ := h
  exact ⟨nd, a, us, h1, e _ _ h2, h3.up e⟩⟩
/-- probabilities -/
structure PrOk (ns : List Str) (p : Str → Rat) : Prop where
  lo : ∀ s ∈ ns, 0 ≤ p s
  hi : ∀ s ∈ ns, p s ≤ 1
  den : ∀ s ∈ ns, (p s).den < 2 ^ 120
def PbP (K : PySem.W.Frag) (ns : List Str) (p : Str → Rat) : Pr := ⟨fun v H => PrOk ns p ∧ ∃ L, L.Perm ns ∧ (DicP L fun s => RatP K (p s)).p v H, fun e h => by
  obtain ⟨ok, L, h1, h2⟩ := h
  exact ⟨ok, L, h1, (DicP _ _).up e h2⟩⟩
section
variable {P : Program} {w : World} {K : PySem.W.Frag} {mg : Str → Option Value} {base : Heap}
variable {σ : L2.St} {H H' : Hp} {ta tb td ty te tx : TE} {tt : TT} {v : V} {E : XK} {L : List Str} {f : Str → Pr} {s : Str}
theorem ep_dget (hd : EvP td σ H (DicP L f)) (hy : Ev ty σ H (.str s)) (hs : s ∈ L) : EvP (tDGet td ty) σ H (f s) := fun H1 e Q q =>
  hd H1 e _ fun x H2 e2 hx => hy H2 (e.trans e2) _ fun H3 e3 => by
    obtain ⟨nd, a, us, rfl, h1, h2⟩ := (DicP L f).up e3 hx
    obtain ⟨i, hi, hi2⟩ := List.mem_iff_getElem.mp hs
    have hLi : L[i]? = some s := by rw [List.getElem?_eq_getElem hi, hi2]
    obtain ⟨u, hu, hp⟩ := allGet2 h2 hLi
    refine ⟨a, u, rfl, ?_, q u H3 (e2.trans e3) hp⟩
    have := DGet.k (k := Sum.inr s) h1
    rw [valV_zip nd hLi hu] at this
    exact this
theorem ev_din (hd : EvP td σ H (DicP L f)) (hy : Ev ty σ H (.str s)) (hs : s ∈ L) : Ev (tDIn ty td) σ H (.bl true) := fun H1 e Q q =>
  hy H1 e _ fun H2 e2 => hd H2 (e.trans e2) _ fun x H3 e3 hx => by
    obtain ⟨nd, a, us, rfl, h1, h2⟩ := hx
    obtain ⟨i, hi, hi2⟩ := List.mem_iff_getElem.mp hs
    have hLi : L[i]? = some s := by rw [List.getElem?_eq_getElem hi, hi2]
    obtain ⟨u, hu, hp⟩ := allGet2 h2 hLi
    have := DGet.k (k := Sum.inr s) h1
    rw [valV_zip nd hLi hu] at this
    exact ⟨a, _, rfl, this, q H3 (e2.trans e3)⟩
def rLenDK : List V → Hp → VK → Prop := fun xs H Q => ∃ (a : Addr) (kvs : List (Key × V)), xs = [.ref a] ∧ H a = some (.dK kvs) ∧ Q (.int kvs.length) H
theorem ev_lenD (hd : EvP td σ H (DicP L f)) : Ev (tCB rLenDK (tCons td tNil)) σ H (.int (L.length : Int)) := fun H1 e Q q =>
  hd H1 e _ fun x H2 e2 hx => by
    obtain ⟨nd, a, us, rfl, h1, h2⟩ := hx
    refine ⟨a, _, rfl, h1, ?_⟩
    rw [zipK_len (by rw [h2.len, List.length_map])]
    exact q H2 e2
theorem ev_isDict (hd : EvP td σ H (DicP L f)) : Ev (tCB (rIsi K) (tCons td (tCons (tC (.ty "dict")) tNil))) σ H (.bl true) := fun H1 e Q q =>
  hd H1 e _ fun x H2 e2 hx => by
    obtain ⟨nd, a, us, rfl, h1, h2⟩ := hx
    exact ⟨_, _, _, _, true, rfl, .ty _, .base (.dK h1), kit_ty (by decide +kernel), q H2 e2⟩
theorem yes_go {Q : Bool → Hp → Prop} (h : Q true H) : tYes σ H Q := h
/-! of probabilities -/
variable {ns : List Str} {p : Str → Rat}
theorem pb_dic {x : V} {H : Hp} (h : (PbP K ns p).p x H) : ∃ L, L.Perm ns ∧ (DicP L fun s => RatP K (p s)).p x H := h.2
theorem ep_pget (hd : EvP td σ H (PbP K ns p)) (hy : Ev ty σ H (.str s)) (hs : s ∈ ns) : EvP (tDGet td ty) σ H (RatP K (p s)) := fun H1 e Q q =>
  hd H1 e _ fun x H2 e2 hx => by
    obtain ⟨ok, L, hL, hx⟩ := hx
    have h := ep_dget (td := tC x) (σ := σ) (f := fun s => RatP K (p s)) (ep_v ev_c hx) (Ev.up (e.trans e2) hy) (hL.mem_iff.mpr hs)
    exact h H2 (Ex.refl H2) Q fun w H3 e3 hw => q w H3 (e2.trans e3) hw
theorem ev_pin (hd : ∀ H1, Ex H H1 → EvP td σ H1 (PbP K ns p)) {x : V} (hx : Ev td σ H x) (hp : (PbP K ns p).p x H) (hy : Ev ty σ H (.str s)) (hs : s ∈ ns) : Ev (tDIn ty td) σ H (.bl true) := by
  obtain ⟨ok, L, hL, h⟩ := hp
  exact ev_din (ep_v hx h) hy (hL.mem_iff.mpr hs)
/-! dicts that a comprehension makes; a target name -/
def Exd (H H' : Hp) : Prop := ∀ a o, H a = some o → (∀ kvs, o ≠ .dK kvs) → H' a = some o
theorem Exd.upd {H : Hp} {a : Addr} {kvs : List (Key × V)} {o' : HO} (h : H a = some (.dK kvs)) : Exd H (upd H a o') := fun b o hb hn => by
  rw [upd_ne]
  · exact hb
  · rintro rfl
    rw [h] at hb
    exact hn kvs (Option.some.inj hb).symm
class StabD (P : Pr) : Prop where
  ups : ∀ {v : V} {H H' : Hp}, Exd H H' → P.p v H → P.p v H'
instance {xs : List V} : StabD (LstV xs) := ⟨fun e h => by
  obtain ⟨a, h1, h2⟩ := h
  exact ⟨a, h1, e _ _ h2 fun kvs z => nomatch z⟩⟩
theorem stabd_map {f : Str → Pr} [st : ∀ a, StabD (f a)] : ∀ {xs : List Str} {us : List V} {H H' : Hp}, Exd H H' → AllP (xs.map f) us H → AllP (xs.map f) us H'
  | [], [], _, _, _, _ => trivial
  | _ :: xs, _ :: us, _, _, e, h => ⟨(st _).ups e h.1, stabd_map (xs := xs) e h.2⟩
  | [], _ :: _, _, _, _, h => h.elim
  | _ :: _, [], _, _, _, h => h.elim
theorem ep_dc {j : Nat} {vs : List Nat} [st : ∀ a, StabD (f a)] {tl : TE} (nd : L.Nodup) (hz : L.length ≤ 40000) (h : EvP tl σ H (LstV (L.map V.str))) (hw : ∀ x, wipe ((wipe σ vs).set j (some x)) vs = wipe σ vs)
    (hj : ∀ x, ((wipe σ vs).set j (some x))[j]? = some (some x)) (he : ∀ s H1, s ∈ L → Ex H H1 → EvP te ((wipe σ vs).set j (some (.str s))) H1 (f s)) :
    EvP (tDc (iList K tl) (gName j) tYes (tVar j) te vs) σ H (DicP L f) := fun H0 e Q q => h H0 e _ fun v H1 e1 hv => by
  obtain ⟨a, rfl, hx⟩ := hv
  refine ⟨a, rfl, ⟨_, sq_of hx⟩, fun D hD => ?_⟩
  have W := walk_list (K := K) (a := a) (xs := L.map V.str)
  refine ⟨fun i m H => m = L.length - i ∧ i ≤ L.length ∧ Ex H1 H ∧ ∃ us, H D = some (.dK (zipK (L.take i) us)) ∧ AllP ((L.take i).map f) us H, ⟨L.length, by simp, Nat.zero_le _, Ex.new hD, [], upd_same, trivial⟩, ?_⟩
  rintro i m H3 ⟨rfl, hi, e3, us, h3, hall⟩
  have hs3 : SqL K H3 a (L.map V.str) := sq_of (e3 _ _ hx)
  by_cases hlt : i < L.length
  · refine .inr ⟨W.goes i H3 (by rw [List.length_map]; exact hlt) hs3, fun H => i + 1 ≤ L.length ∧ Ex H1 H ∧ ∃ us, H D = some (.dK (zipK (L.take (i + 1)) us)) ∧ AllP ((L.take (i + 1)).map f) us H, fun H' p' => ⟨L.length - (i + 1), by omega, rfl, p'⟩, fun x H4 hy => ?_⟩
    obtain ⟨rfl, hx4⟩ := W.yields i H3 x H4 (by rw [List.length_map]; exact hlt) hs3 hy
    rw [List.getElem?_map, List.getElem?_eq_getElem hlt] at hx4
    cases hx4
    refine ⟨hw _, yes_go ?_⟩
    rw [if_pos rfl]
    refine ⟨_, hj _, ?_⟩
    refine he L[i] H4 (List.getElem_mem hlt) ((e.trans e1).trans e3) H4 (Ex.refl H4) _ fun z H5 e5 hz5 => ?_
    have hul : us.length = (L.take i).length := by rw [hall.len, List.length_map]
    have htk : L.take (i + 1) = L.take i ++ [L[i]] := List.take_succ_eq_append_getElem hlt
    have hnot : L[i] ∉ L.take i := fun hm => by
      obtain ⟨k, hk, hk2⟩ := List.mem_iff_getElem.mp hm
      rw [List.length_take] at hk
      rw [List.getElem_take] at hk2
      have := (List.getElem_inj nd).mp hk2
      omega
    refine ⟨_, Sum.inr L[i], rfl, e5 _ _ h3, ?_, hlt, Ex.mut (e3.trans e5) hD, us ++ [z], ?_, ?_⟩
    · rw [zipK_len hul, List.length_take]
      exact sz_lt (by omega)
    · rw [upd_same, putK_new z (valV_zip_none hnot), htk, zipK_snoc hul]
    · rw [htk, List.map_append]
      have ex : Exd H5 (upd H5 D (.dK (putK (zipK (L.take i) us) (Sum.inr L[i]) z))) := Exd.upd (e5 _ _ h3)
      exact (stabd_map ex (hall.up e5)).append (AllP.one ((st _).ups ex hz5))
  · have hiL : i = L.length := by omega
    subst hiL
    refine .inl ⟨?_, ?_⟩
    · have := W.stops H3 hs3
      rw [List.length_map] at this
      exact this
    · rw [List.take_length] at h3 hall
      exact q (.ref D) H3 (e1.trans e3) ⟨nd, D, us, rfl, h3, hall⟩
/-! for i, x in enumerate(list) -/
theorem s_forEnum {a : Addr} {xs : List V} {ta : TE} {D : Ends} {tu : TS} {j1 j2 : Nat} (h : Ev ta σ H (.ref a)) (hx : SqL K H a xs) (Pv : Nat → L2.St → Hp → Prop) (h0 : ∀ H1, Ex H H1 → Pv 0 σ H1) (hG : ∀ i σ' H', i ≤ xs.length → Pv i σ' H' → SqL K H' a xs)
    (hs : ∀ i x σ' H', xs[i]? = some x → Pv i σ' H' → ∀ H2, Ex H' H2 → tu { D with nx := Pv (i + 1), ct := Pv (i + 1), bk := D.nx } ((σ'.set j1 (some (.int (i : Int)))).set j2 (some x)) H2) (hd : ∀ σ' H', Pv xs.length σ' H' → D.nx σ' H') :
    tFor (iEnum K (tCons ta tNil)) (gTup K 2 (gCons (gName j1) (gCons (gName j2) gNil))) tu D σ H :=
  h H (Ex.refl H) _ fun H1 e => ⟨a, xs, rfl, ex_l e hx, for_it walk_enum Pv (h0 H1 e) hG (fun i x σ' H' H2 hi p hY => by
    obtain ⟨t, u, y, rfl, ht, rfl, hu, hy⟩ := hY
    cases hu
    exact ⟨t, _, rfl, st_of upd_same, rfl, _, _, rfl, _, _, rfl, rfl, hs i y σ' H' hy p _ (Ex.new ht)⟩) hd⟩
end
end Rs
/-! Probabilities, names, signs. -/
namespace Rs
open PySem PySem.Spec PyProof.Rows L2 Evl
theorem sm_one : Sm 1 := by
  have h : 1 < 2 ^ 4200 := Nat.one_lt_two_pow (by omega)
  exact ⟨h, h⟩
theorem sgn_nn (r : Rat) : (0 ≤ sgn r) ↔ 0 ≤ r := by
  have h := sgn_neg r
  constructor
  · intro h1
    exact Rat.not_lt.mp fun z => by have := h.mpr z; omega
  · intro h1
    have h2 : ¬ sgn r < 0 := fun z => Rat.not_lt.mpr h1 (h.mp z)
    omega
theorem num_le {r : Rat} (h0 : 0 ≤ r) (h1 : r ≤ 1) : r.num.natAbs ≤ r.den := by
  have h2 := (Rat.le_iff 0 r).mp h0
  have h3 := (Rat.le_iff r 1).mp h1
  have e1 : ((0 : Rat).num : Int) = 0 := rfl
  have e2 : ((0 : Rat).den : Int) = 1 := rfl
  have e3 : ((1 : Rat).num : Int) = 1 := rfl
  have e4 : ((1 : Rat).den : Int) = 1 := rfl
  rw [e1, e2] at h2
  rw [e3, e4] at h3
  omega
theorem PrOk.sm {ns : List Str} {p : Str → Rat} (h : PrOk ns p) {s : Str} (hs : s ∈ ns) : Sm (p s) := by
  have h1 := num_le (h.lo s hs) (h.hi s hs)
  have h2 := h.den s hs
  have h3 : 2 ^ 120 ≤ 2 ^ 4200 := Nat.pow_le_pow_right (by omega) (by omega)
  exact ⟨by omega, by omega⟩
section
variable {P : Program} {w : World} {K : PySem.W.Frag} {mg : Str → Option Value} {base : Heap}
abbrev sc_are_probabilitiesN : List Str := ["graph", "value", "names", "name"]
theorem sc_are_probabilities : FnScope sc_are_probabilitiesN ["graph", "value"] (defScope s_are_probabilities) := ⟨rfl, rfl, rfl, by decide +kernel, rfl, by decide +kernel, by decide +kernel⟩
theorem bd_are_probabilities : Bnd "are_probabilities" "are_probabilities" s_are_probabilities ["graph", "value"] := fun _ _ _ _ _ _ us hl => match us, hl with | [_, _], _ => rfl
def R_are_probabilities (K : PySem.W.Frag) (Ps : List Pr) (P : Pr) : Prop := ∃ ns es p, Ps = [GrP K ns es, PbP K ns p] ∧ P = Is (.bl true)
theorem ok_are_probabilities (T : Tx K mg) : C8.Cal P w K mg base 6 "are_probabilities" (Fn (R_are_probabilities K)) [] := by
  refine cal_of sc_are_probabilities bd_are_probabilities (fn_len (n := 2) fun Ps P h => by obtain ⟨_, _, _, rfl, _⟩ := h; rfl) (fun f cdv A outer s H vs Q E hr h => ?_) T.g_are_probabilities T.f_are_probabilities
  obtain ⟨_, _, ⟨ns, es, p, rfl, rfl⟩, ha, k⟩ := h
  obtain ⟨x, y, rfl, hx, hy⟩ := all2 ha
  refine ⟨_, (pss_cons (ps_set (i := 2) sc_are_probabilities.nd rfl (Or.inl rfl) (C8.pe_mt0 (ok_Graph_names T) hr (by decide) (pv 0)))
      (pss_cons (ps_if (PW.pt (pw_or (pt_not (pt_val (pe_callB call_isi (by rfl) T.b_isinstance (by decide +kernel) (pa_cons (pv 1) (pa_cons (pe_bltn (v := .ty "dict") (by rfl) T.b_dict (by decide +kernel) rfl) pa_nil))))) (pw_or (pt_cmpR op_ne (pe_callB call_lenD (by rfl) T.b_len (by decide +kernel) (pa_cons (pv 1) pa_nil)) (pe_callB call_len_seq (by rfl) T.b_len (by decide +kernel) (pa_cons (pv 2) pa_nil)) (nomark _)) (pw_or1 (pt_not (pt_val (pe_callB (cr_all rfl) (by rfl) T.b_all (by decide +kernel) (pa_cons (pe_lc (own := [("name", 3)]) (g := gName 3) (tt := tYes) (te := (tDIn _ _)) rfl sc_are_probabilities.nd (pi_list (pv 2)) (blkOk_by (N := sc_are_probabilitiesN) (sc := defScope s_are_probabilities) (by decide +kernel)) (fun _ _ _ _ _ => (pg_name (i := 3) sc_are_probabilities.nd rfl (Or.inl rfl))) (fun _ _ _ _ _ => pts_nil) (fun _ _ _ _ _ => (pe_cmp (pc_din (hu_of hr) (pv 3) (pv 1)) rfl))) pa_nil))))))))
        (pss_one (ps_ret pe_bl)) pss_nil)
      (pss_cons (ps_if (pt_not (pt_val (pe_callB (cr_all rfl) (by rfl) T.b_all (by decide +kernel) (pa_cons (pe_lc (own := [("name", 3)]) (g := gName 3) (tt := tYes) (te := (tCB (rIsi K) (tCons (tDGet _ _) (tCons _ tNil)))) rfl sc_are_probabilities.nd (pi_list (pv 2)) (blkOk_by (N := sc_are_probabilitiesN) (sc := defScope s_are_probabilities) (by decide +kernel)) (fun _ _ _ _ _ => (pg_name (i := 3) sc_are_probabilities.nd rfl (Or.inl rfl))) (fun _ _ _ _ _ => pts_nil) (fun _ _ _ _ _ => (pe_callB call_isi (by rfl) T.b_isinstance (by decide +kernel) (pa_cons (pe_dget (hu_of hr) (pv 1) (pv 3) (fun _ _ => rfl)) (pa_cons (pe_glob (v := .ref (He.ga _ "Ratio")) rfl T.g_Ratio rfl) pa_nil))))) pa_nil))))
        (pss_one (ps_ret pe_bl)) pss_nil)
      (pss_one (ps_ret (pe_callB (cr_all rfl) (by rfl) T.b_all (by decide +kernel) (pa_cons (pe_lc (own := [("name", 3)]) (g := gName 3) (tt := tYes) (te := (tAndV (tOp _ (tMeth _ _ _ _ _ (tDGet _ _) tNil) _) (tNotV (tMeth _ _ _ _ _ (tMake _ _ _ _ (tCons _ tNil)) (tCons (tDGet _ _) tNil))))) rfl sc_are_probabilities.nd (pi_list (pv 2)) (blkOk_by (N := sc_are_probabilitiesN) (sc := defScope s_are_probabilities) (by decide +kernel)) (fun _ _ _ _ _ => (pg_name (i := 3) sc_are_probabilities.nd rfl (Or.inl rfl))) (fun _ _ _ _ _ => pts_nil) (fun _ _ _ _ _ => (pe_and (pe_cmpR op_ge (C8.pe_mt0 (ok_Ratio_sign T) hr (by decide) (pe_dget (hu_of hr) (pv 1) (pv 3) (fun _ _ => rfl))) pe_int (nomark _)) (pe_one (pe_not (C8.pe_mt (ok_Ratio_less_than T) hr (by decide) (C8.pe_mk (ok_Ratio1 T) hr (by decide) rfl (pa_cons pe_int pa_nil)) (pa_cons (pe_dget (hu_of hr) (pv 1) (pv 3) (fun _ _ => rfl)) pa_nil))))))) pa_nil))))))), ?_⟩
  have hn := hx.1
  have hz : ns.length ≤ 40000 := by have := hn.hi; omega
  have ok := hy.1
  refine q_asgP (ep_names (ep_var rfl hx)) fun u H1 e1 hu => ?_
  have hy1 := (PbP K ns p).up e1 hy
  obtain ⟨L, hL, hd⟩ := pb_dic hy1
  have hmem : ∀ s, s ∈ ns → s ∈ L := fun s hs => hL.mem_iff.mpr hs
  refine q_not (et_or (a := false) (b := false) (et_not (a := true) (et_B (ev_isDict (ep_var rfl hd)))) fun _ => et_or (a := false) (b := false) (et_is (et_test (ev_ne (ev_lenD (ep_var rfl hd)) (ev_lenLV (ep_var rfl hu)) rfl)) (by rw [List.length_map, hL.length_eq]; simp)) fun _ => et_not (a := true) (et_is (et_B (ev_all (p := fun _ => true) (L := ns) ?_)) (List.all_eq_true.mpr fun _ _ => rfl))) fun H2 e2 => ?_
  · have := elp_lcL (K := K) (σ := [some x, some y, some u, none]) (H := H1) (L := ns) (f := fun _ => Is (.bl true)) (tt := tYes) (te := tDIn (tVar 3) (tVar 1)) (j := 3) (vs := [3]) (fun _ => true) (fun s => Is (.str s)) (tl := tVar 2) (epL (ep_var rfl hu)) hz (fun _ => rfl) (fun _ _ _ _ _ _ => et_yes)
      (fun s v H3 hs e3 hv _ => by
        have hv : v = .str s := hv
        subst hv
        exact ep (ev_din (ep_var rfl ((DicP _ _).up e3 hd)) (ev_var rfl) (hmem s hs)))
    rw [filter_yes] at this
    exact this
  have hu2 := (LstV _).up e2 hu
  have hd2 := (DicP _ _).up e2 hd
  refine q_not (et_not (a := true) (et_is (et_B (ev_all (p := fun _ => true) (L := ns) ?_)) (List.all_eq_true.mpr fun _ _ => rfl))) fun H3 e3 => ?_
  · have := elp_lcL (K := K) (σ := [some x, some y, some u, none]) (H := H2) (L := ns) (f := fun _ => Is (.bl true)) (tt := tYes) (te := tCB (rIsi K) (tCons (tDGet (tVar 1) (tVar 3)) (tCons (tC (.ref (CR K))) tNil))) (j := 3) (vs := [3]) (fun _ => true) (fun s => Is (.str s)) (tl := tVar 2) (epL (ep_var rfl hu2)) hz (fun _ => rfl) (fun _ _ _ _ _ _ => et_yes)
      (fun s v H3 hs e3 hv _ => by
        have hv : v = .str s := hv
        subst hv
        exact ep (ev_isIns (ep_dget (f := fun s => RatP K (p s)) (ep_var rfl ((DicP _ _).up e3 hd2)) (ev_var rfl) (hmem s hs)) T.i_Ratio))
    rw [filter_yes] at this
    exact this
  have hu3 := (LstV _).up e3 hu2
  have hd3 := (DicP _ _).up e3 hd2
  refine s_ret (ev_is (ev_all (p := fun _ => true) (L := ns) ?_) (by rw [List.all_eq_true.mpr fun _ _ => rfl])) fun H4 e4 => k _ H4 (((e1.trans e2).trans e3).trans e4) rfl
  have := elp_lcL (K := K) (σ := [some x, some y, some u, none]) (H := H3) (L := ns) (f := fun _ => Is (.bl true)) (tt := tYes) (te := tAndV (tOp (rI0 fun i j => .bl (decide (j ≤ i))) (tMeth (CR K) "sign" (Fn (R_sign K)) [] E0 (tDGet (tVar 1) (tVar 3)) tNil) (tC (.int 0))) (tNotV (tMeth (CR K) "less_than" (Fn (R_less K)) [] E0 (tMake (CR K) (spRatio K) [.int 1] E0 (tCons (tC (.int 1)) tNil)) (tCons (tDGet (tVar 1) (tVar 3)) tNil)))) (j := 3) (vs := [3]) (fun _ => true) (fun s => Is (.str s)) (tl := tVar 2) (epL (ep_var rfl hu3)) hz (fun _ => rfl) (fun _ _ _ _ _ _ => et_yes)
    (fun s v H4 hs e4 hv _ => by
      have hv : v = .str s := hv
      subst hv
      have hg : EvP (tDGet (tVar 1) (tVar 3)) [some x, some y, some u, some (.str s)] H4 (RatP K (p s)) := ep_dget (f := fun s => RatP K (p s)) (ep_var rfl ((DicP _ _).up e4 hd3)) (ev_var rfl) (hmem s hs)
      exact ep (ev_andV (a := true) (b := true) (ev_is (ev_i0 (ev_sign hg) ev_c) (by rw [decide_eq_true ((sgn_nn _).mpr (ok.lo s hs))])) fun _ => ev_notV (a := false) (ev_is (ep_less (r := 1) (ep_Ratio1 ev_c) hg sm_one (ok.sm hs)) (by rw [decide_eq_false (Rat.not_lt.mpr (ok.hi s hs))]))))
  rw [filter_yes] at this
  exact this
abbrev sc_need_probabilitiesN : List Str := ["graph", "value"]
theorem sc_need_probabilities : FnScope sc_need_probabilitiesN ["graph", "value"] (defScope s_need_probabilities) := ⟨rfl, rfl, rfl, by decide +kernel, rfl, by decide +kernel, by decide +kernel⟩
theorem bd_need_probabilities : Bnd "need_probabilities" "need_probabilities" s_need_probabilities ["graph", "value"] := fun _ _ _ _ _ _ us hl => match us, hl with | [_, _], _ => rfl
def R_need_probabilities (K : PySem.W.Frag) (Ps : List Pr) (P : Pr) : Prop := ∃ ns es p, Ps = [GrP K ns es, PbP K ns p] ∧ P = Is .non
theorem ok_need_probabilities (T : Tx K mg) : C8.Cal P w K mg base 7 "need_probabilities" (Fn (R_need_probabilities K)) [] := by
  refine cal_of sc_need_probabilities bd_need_probabilities (fn_len (n := 2) fun Ps P h => by obtain ⟨_, _, _, rfl, _⟩ := h; rfl) (fun f cdv A outer s H vs Q E hr h => ?_) T.g_need_probabilities T.f_need_probabilities
  obtain ⟨_, _, ⟨ns, es, p, rfl, rfl⟩, ha, k⟩ := h
  obtain ⟨x, y, rfl, hx, hy⟩ := all2 ha
  refine ⟨_, (pss_one (ps_if (pt_not (pt_val (C8.pe_c (ok_are_probabilities T) hr (by decide) rfl (pa_cons (pv 0) (pa_cons (pv 1) pa_nil)))))
        pss_never pss_nil)), ?_⟩
  exact s_not (et_not (a := true) (et_B (ev (ep_call (eap_cons (ep_var rfl hx) (eap_cons (ep_var rfl hy) eap_nil)) ⟨ns, es, p, rfl, rfl⟩)))) fun H1 e1 => k _ H1 e1 rfl
section
variable {σ : L2.St} {H H' : Hp} {ta tb te tx : TE} {E : XK} {ns : List Str} {es : List (Str × Str)} {p : Str → Rat}
theorem ev_need_prob (h : EvP ta σ H (GrP K ns es)) (h2 : EvP tb σ H (PbP K ns p)) : Ev (tCall (Fn (R_need_probabilities K)) [] E (tCons ta (tCons tb tNil))) σ H .non := ev (ep_call (eap_cons h (eap_cons h2 eap_nil)) ⟨ns, es, p, rfl, rfl⟩)
end
/-! need_names -/
theorem cut_to {α : Type} (f : α → V) (xs : List α) {i : Nat} (hi : i ≤ xs.length) : cutV (xs.map f) none (some (i : Int)) = (xs.take i).map f := by
  unfold cutV
  rw [HT.sIx_none, HT.sIx_nat, List.drop_zero, Nat.sub_zero, List.length_map, Nat.min_eq_left hi, List.map_take]
theorem cut_from {α : Type} (f : α → V) (xs : List α) {i : Nat} (hi : i ≤ xs.length) : cutV (xs.map f) (some (i : Int)) none = (xs.drop i).map f := by
  unfold cutV
  rw [HT.sIx_none, HT.sIx_nat, List.length_map, Nat.min_eq_left hi, List.take_of_length_le (by rw [List.length_drop, List.length_map]; exact Nat.le_refl _), List.map_drop]
abbrev sc_need_namesN : List Str := ["graph", "value", "at", "name"]
theorem sc_need_names : FnScope sc_need_namesN ["graph", "value"] (defScope s_need_names) := ⟨rfl, rfl, rfl, by decide +kernel, rfl, by decide +kernel, by decide +kernel⟩
theorem bd_need_names : Bnd "need_names" "need_names" s_need_names ["graph", "value"] := fun _ _ _ _ _ _ us hl => match us, hl with | [_, _], _ => rfl
def R_need_names (K : PySem.W.Frag) (Ps : List Pr) (P : Pr) : Prop := ∃ (ns : List Str) (es : List (Str × Str)) (ss : List Str), (∀ s ∈ ss, s ∈ ns) ∧ ss.Nodup ∧ ss.length ≤ 8 ∧ Ps = [GrP K ns es, LstV (ss.map V.str)] ∧ P = Is .non
theorem ok_need_names (T : Tx K mg) : C8.Cal P w K mg base 3 "need_names" (Fn (R_need_names K)) [] := by
  refine cal_of sc_need_names bd_need_names (fn_len (n := 2) fun Ps P h => by obtain ⟨_, _, _, _, _, _, rfl, _⟩ := h; rfl) (fun f cdv A outer s H vs Q E hr h => ?_) T.g_need_names T.f_need_names
  obtain ⟨_, _, ⟨ns, es, ss, hm, nd, h8, rfl, rfl⟩, ha, k⟩ := h
  obtain ⟨x, y, rfl, hx, hy⟩ := all2 ha
  refine ⟨_, (pss_cons (ps_if (PW.pt (pw_or (pt_not (pt_val (C8.pe_c (ok_is_list T) hr (by decide) rfl (pa_cons (pv 1) pa_nil)))) (pw_or1 (pt_cmpR op_gt (pe_callB call_len_seq (by rfl) T.b_len (by decide +kernel) (pa_cons (pv 1) pa_nil)) (C8.pe_gc rfl T.k_MAX_NAMES) (nomark _)))))
        pss_never pss_nil)
      (pss_one (ps_for PassesOwn.never rfl (pi_enum (by rfl) T.b_enumerate (pa_cons (pv 1) pa_nil)) (pg_tup rfl (pgs_cons (pg_name (i := 2) sc_need_names.nd rfl (Or.inl rfl)) (pgs_cons (pg_name (i := 3) sc_need_names.nd rfl (Or.inl rfl)) pgs_nil)))
        (pss_cons (ps_expr (C8.pe_mt (ok_Graph_need_name T) hr (by decide) (pv 0) (pa_cons (pv 3) pa_nil)))
      (pss_one (ps_if (pt_cmpR op_in_seq (pv 3) (pe_slice sl_list (pv 1) po_none (po_some (pv 2))) (by rfl))
        pss_never pss_nil)))))), ?_⟩
  refine q_not (et_or (a := false) (b := false) (et_not (a := true) (et_B (ev_is_listV (ep_var rfl hy)))) fun _ => et_is (et_test (ev_i0 (ev_lenLV (ep_var rfl hy)) ev_c)) (decide_eq_false (by rw [List.length_map]; omega))) fun H1 e1 => ?_
  obtain ⟨a, rfl, hy0⟩ := id hy
  refine s_forEnum (ev_var rfl) (sq_of (e1 _ _ hy0)) (fun i σ' H' => ∃ u v, σ' = [some x, some (.ref a), u, v] ∧ Ex H H') (fun H2 e2 => ⟨_, _, rfl, e1.trans e2⟩) (fun i σ' H' _ h => by obtain ⟨_, _, _, e⟩ := h; exact sq_of (e _ _ hy0)) ?_ ?_
  · rintro i v σ' H' hi ⟨u, v', rfl, e⟩ H2 e2
    rw [List.getElem?_map] at hi
    obtain ⟨s, hs, rfl⟩ := Option.map_eq_some_iff.mp hi
    have hsm := List.mem_of_getElem? hs
    have hil := (List.getElem?_eq_some_iff.mp hs).1
    have eH := e.trans e2
    refine q_drop (ev_need_name (ep_var rfl ((GrP K ns es).up eH hx)) (ev_var rfl) (hm s hsm)) fun H3 e3 => ?_
    have hnot : s ∉ ss.take i := fun hm => by
      obtain ⟨j, hj, hj2⟩ := List.mem_iff_getElem.mp hm
      rw [List.length_take] at hj
      rw [List.getElem_take] at hj2
      have h1 : ss[j]? = some s := by rw [← hj2]; exact List.getElem?_eq_getElem (by omega)
      have := (List.getElem?_inj (i := j) (j := i) (by omega) nd).mp (h1.trans hs.symm)
      omega
    have hsl : EvP (tSl (rSlL K) (tVar 1) tNoPart (tPart (tVar 2))) [some x, some (.ref a), some (.int (i : Int)), some (.str s)] H3 (LstV ((ss.take i).map V.str)) := by
      have := el_lp (el_sl (K := K) (σ := [some x, some (.ref a), some (.int (i : Int)), some (.str s)]) (ev_var (i := 1) rfl) eo_none (eo_some (ev_var (i := 2) rfl)) (sq_of ((eH.trans e3) _ _ hy0)))
      rw [cut_to _ _ (by omega)] at this
      exact this
    exact s_not (et_is (et_test (ev_inL (ev_var rfl) hsl)) (decide_eq_false hnot)) fun H4 e4 => ⟨_, _, rfl, (eH.trans e3).trans e4⟩
  · rintro σ' H' ⟨u, v', rfl, e⟩
    exact k _ H' e rfl
/-! event_sign -/
abbrev sc_event_signN : List Str := ["group"]
theorem sc_event_sign : FnScope sc_event_signN ["group"] (defScope s_event_sign) := ⟨rfl, rfl, rfl, by decide +kernel, rfl, by decide +kernel, by decide +kernel⟩
theorem bd_event_sign : Bnd "event_sign" "event_sign" s_event_sign ["group"] := fun _ _ _ _ _ _ us hl => match us, hl with | [_], _ => rfl
def R_event_sign (Ps : List Pr) (P : Pr) : Prop := ∃ g : List Str, Ps = [TupV (g.map V.str)] ∧ g.length ≤ 1000 ∧ P = Is (.int (evs g))
theorem ok_event_sign (T : Tx K mg) : C8.Cal P w K mg base 1 "event_sign" (Fn R_event_sign) [] := by
  refine cal_of sc_event_sign bd_event_sign (fn_len (n := 1) fun Ps P h => by obtain ⟨_, rfl, _⟩ := h; rfl) (fun f cdv A outer s H vs Q E hr h => ?_) T.g_event_sign T.f_event_sign
  obtain ⟨_, _, ⟨g, rfl, hg, rfl⟩, ha, k⟩ := h
  obtain ⟨x, rfl, hx⟩ := all1 ha
  refine ⟨_, (pss_one (ps_ret (pe_op op_sub pe_int (pe_op op_mulW pe_int (pe_op op_mod (pe_callB call_len_seq (by rfl) T.b_len (by decide +kernel) (pa_cons (pv 0) pa_nil)) pe_int))))), ?_⟩
  refine s_ret (ev_i0 ev_c (ev_i ev_c (ev_i (ev_lenTV (ep_var rfl hx)) ev_c (by decide)) ?_)) fun H1 e1 => k _ H1 e1 ?_
  · exact wide_mul (a := 2) (b := 2) (by decide) (by omega) (by decide) (by decide) (by decide)
  · show V.int _ = V.int _
    rw [List.length_map]
    rfl
theorem ev_event_sign {σ : L2.St} {H : Hp} {ta : TE} {E : XK} {g : List Str} (h : EvP ta σ H (TupV (g.map V.str))) (hg : g.length ≤ 1000) : Ev (tCall (Fn R_event_sign) [] E (tCons ta tNil)) σ H (.int (evs g)) := ev (ep_call (eap_cons h eap_nil) ⟨g, rfl, hg, rfl⟩)
end
end Rs
/-! The independent sets. -/
namespace Rs
open PySem PySem.Spec PyProof.Rows L2 Evl
def tupS (g : List Str) : Pr := TupV (g.map V.str)
instance {g : List Str} : Stab (tupS g) := inferInstanceAs (Stab (TupV _))
theorem adj_sym (es : List (Str × Str)) (a b : Str) : adjB es a b = adjB es b a := by
  unfold adjB
  rw [show decide (a = b) = decide (b = a) from decide_eq_decide.mpr ⟨Eq.symm, Eq.symm⟩, Bool.or_comm (decide ((a, b) ∈ es))]
theorem nb_adj {ns : List Str} {es : List (Str × Str)} : ∀ m x, m ∈ ns → x ∈ ns → x ≠ m → (x ∈ nbrs ns es m ↔ adjB es x m = true) := fun m x _ hx hne => by
  unfold nbrs
  rw [List.mem_filter, decide_eq_false hne, adj_sym es x m]
  simp [hx]
/-- the independent sets, as tuples -/
def IndP (ns : List Str) (es : List (Str × Str)) : Pr := ⟨fun v H => ∃ L, IndOk ns (adjB es) L ∧ (LstP (L.map tupS)).p v H, fun e h => by
  obtain ⟨L, h1, h2⟩ := h
  exact ⟨L, h1, (LstP _).up e h2⟩⟩
/-- a list of groups at an address -/
def LG (H : Hp) (a : Addr) (L : List (List Str)) : Prop := ∃ vs, H a = some (.lst vs) ∧ AllP (L.map tupS) vs H
theorem LG.ex {H H' : Hp} {a : Addr} {L : List (List Str)} (e : Ex H H') (h : LG H a L) : LG H' a L := by
  obtain ⟨vs, h1, h2⟩ := h
  exact ⟨vs, e _ _ h1, h2.up e⟩
theorem LG.other {H : Hp} {a l : Addr} {xs ys : List V} {L : List (List Str)} (hl : H l = some (.lst xs)) (ne : a ≠ l) (h : LG H a L) : LG (upd H l (.lst ys)) a L := by
  obtain ⟨vs, h1, h2⟩ := h
  exact ⟨vs, by rw [upd_ne ne]; exact h1, (stabs_map (fun _ => inferInstance) L).ups (Exs.upd hl) h2⟩
theorem LG.snoc {H : Hp} {a : Addr} {xs : List V} {L : List (List Str)} {g : List Str} {v : V} (h1 : H a = some (.lst xs)) (h2 : AllP (L.map tupS) xs H) (hv : (tupS g).p v H) : LG (upd H a (.lst (xs ++ [v]))) a (L ++ [g]) := by
  refine ⟨_, upd_same, ?_⟩
  rw [List.map_append]
  exact ((stabs_map (fun _ => inferInstance) L).ups (Exs.upd h1) h2).append (AllP.one ((inferInstance : Stab (tupS g)).ups (Exs.upd h1) hv))
theorem flat_take {α β : Type} (f : α → List β) (l : List α) (i : Nat) : ((l.take i).flatMap f).length ≤ (l.flatMap f).length := by
  conv => rhs; rw [← List.take_append_drop i l, List.flatMap_append, List.length_append]
  omega
section
variable {P : Program} {w : World} {K : PySem.W.Frag} {mg : Str → Option Value} {base : Heap}
section
variable {σ : L2.St} {H H' : Hp} {ta tb te tx : TE} {E : XK} {D : Ends} {tz : TS} {P : Pr}
theorem s_appP {l : Addr} {xs : List V} (hl : H l = some (.lst xs)) (ha : Ev ta σ H (.ref l)) (h : EvP te σ H P) (hz : xs.length < 100000) (k : ∀ v H1, Ex H H1 → P.p v H1 → D.nx σ (upd H1 l (.lst (xs ++ [v])))) :
    tDrop (tBM K "list" rAppend ta (tCons te tNil)) D σ H := ha H (Ex.refl H) _ fun Ha ea =>
  ⟨.inl ⟨rfl, xs, sq_of (ea l _ hl)⟩, h Ha ea _ fun v Hb eb hv => ⟨l, xs, v, rfl, rfl, eb l _ (ea l _ hl), sz_lt hz, k v Hb (ea.trans eb) hv⟩⟩
theorem k_par {i j : Nat} (h : ta σ H fun v H1 => tb σ H1 fun w H2 => ∃ v' w', [v, w] = [v', w'] ∧ tz D ((σ.set i (some v')).set j (some w')) H2) : tSeq (tPar i j (tCons ta (tCons tb tNil))) tz D σ H := h
theorem q_ext {l b : Addr} {xs zs : List V} (hl : H l = some (.lst xs)) (hb : H b = some (.lst zs)) (ha : Ev ta σ H (.ref l)) (h : Ev tb σ H (.ref b)) (hz : xs.length + zs.length ≤ 100000) (k : ∀ H1, Ex H H1 → tz D σ (upd H1 l (.lst (xs ++ zs)))) :
    tSeq (tDrop (tBM K "list" rExtend ta (tCons tb tNil))) tz D σ H := ha H (Ex.refl H) _ fun H1 e1 =>
  ⟨.inl ⟨rfl, xs, sq_of (e1 l _ hl)⟩, h H1 e1 _ fun H2 e2 => ⟨l, b, xs, zs, rfl, rfl, e2 _ _ (e1 _ _ hl), e2 _ _ (e1 _ _ hb), sz_of hz, k H2 (e1.trans e2)⟩⟩
theorem ep_cat {xs : List V} {y : V} (ha : EvP ta σ H (TupV xs)) (hb : EvP tb σ H (TupV [y])) (hz : xs.length ≤ 50000) : EvP (tOp (rCatA K) ta tb) σ H (TupV (xs ++ [y])) := fun H1 e Q q =>
  ha H1 e _ fun v1 H2 e2 h1 => hb H2 (e.trans e2) _ fun v2 H3 e3 h2 => by
    obtain ⟨a, rfl, h1⟩ := h1
    obtain ⟨b, rfl, h2⟩ := h2
    refine ⟨a, b, xs, [y], rfl, rfl, st_of (e3 _ _ h1), st_of h2, sz_of (by simp; omega), fun hx => ?_, fun _ hy => (by cases hy), fun _ _ p hp => q _ _ ((e2.trans e3).trans (Ex.new hp)) ⟨p, rfl, upd_same⟩⟩
    subst hx
    exact q _ H3 (e2.trans e3) ⟨b, rfl, h2⟩
end
abbrev sc_independent_tuplesN : List Str := ["names", "neighbors", "found", "longest", "grown", "group", "start", "name", "member"]
theorem sc_independent_tuples : FnScope sc_independent_tuplesN ["names", "neighbors"] (defScope s_independent_tuples) := ⟨rfl, rfl, rfl, by decide +kernel, rfl, by decide +kernel, by decide +kernel⟩
theorem bd_independent_tuples : Bnd "independent_tuples" "independent_tuples" s_independent_tuples ["names", "neighbors"] := fun _ _ _ _ _ _ us hl => match us, hl with | [_, _], _ => rfl
def R_independent_tuples (Ps : List Pr) (P : Pr) : Prop := ∃ ns es, NamesOk ns ∧ Ps = [LstV (ns.map V.str), DicP ns fun s => LstV ((nbrs ns es s).map V.str)] ∧ P = IndP ns es
theorem ok_independent_tuples (T : Tx K mg) : C8.Cal P w K mg base 1 "independent_tuples" (Fn R_independent_tuples) [] := by
  refine cal_of sc_independent_tuples bd_independent_tuples (fn_len (n := 2) fun Ps P h => by obtain ⟨_, _, _, rfl, _⟩ := h; rfl) (fun f cdv A outer s H vs Q E hr h => ?_) T.g_independent_tuples T.f_independent_tuples
  obtain ⟨_, _, ⟨ns, es, hn, rfl, rfl⟩, ha, k⟩ := h
  obtain ⟨x, y, rfl, hx, hy⟩ := all2 ha
  refine ⟨_, (pss_cons (ps_par (i := 2) (j := 3) (by rfl) sc_independent_tuples.nd rfl rfl (by decide) rfl rfl (pa_cons (pe_lst (pa_cons (pe_tup pa_nil) pa_nil)) (pa_cons (pe_lst (pa_cons (pe_tup pa_nil) pa_nil)) pa_nil)) (by rfl))
      (pss_cons (ps_while PassesOwn.never (pt_cmpR (op_neD hr.units) (pv 3) (pe_lst pa_nil) (nomark _))
        (pss_cons (ps_set (i := 4) sc_independent_tuples.nd rfl (Or.inl rfl) (pe_lst pa_nil))
      (pss_cons (ps_for PassesOwn.never rfl (pi_list (pv 3)) (pg_name (i := 5) sc_independent_tuples.nd rfl (Or.inl rfl))
        (pss_cons (ps_set (i := 6) sc_independent_tuples.nd rfl (Or.inl rfl) (pe_ifExp (pt_cmpR (op_neD hr.units) (pv 5) (pe_tup pa_nil) (nomark _)) (pe_op op_add (pe_bm PySem.F.plainAttrs_list PySem.F.slot_list_index PySem.F.type_list_index mt_index (pv 0) (pa_cons (pe_ix ix_tup (pv 5) (pe_un un_neg pe_int) (fun _ _ => rfl)) pa_nil)) pe_int) pe_int))
      (pss_one (ps_for PassesOwn.never rfl (pi_list (pe_slice sl_list (pv 0) (po_some (pv 6)) po_none)) (pg_name (i := 7) sc_independent_tuples.nd rfl (Or.inr rfl))
        (pss_one (ps_if (pt_not (pt_val (pe_callB (cr_any rfl) (by rfl) T.b_any (by decide +kernel) (pa_cons (pe_lc (own := [("member", 8)]) (g := gName 8) (tt := tYes) (te := (tOp (rIn K false) _ (tDGet _ _))) rfl sc_independent_tuples.nd (pi_tup (pv 5)) (blkOk_by (N := sc_independent_tuplesN) (sc := defScope s_independent_tuples) (by decide +kernel)) (fun _ _ _ _ _ => (pg_name (i := 8) sc_independent_tuples.nd rfl (Or.inl rfl))) (fun _ _ _ _ _ => pts_nil) (fun _ _ _ _ _ => (pe_cmpR op_in_seq (pv 7) (pe_dget (hu_of hr) (pv 1) (pv 8) (fun _ _ => rfl)) (by rfl)))) pa_nil))))
        (pss_one (ps_expr (pe_bm PySem.F.plainAttrs_list PySem.F.slot_list_append PySem.F.type_list_append mt_append (pv 4) (pa_cons (pe_op op_catA (pv 5) (pe_tup (pa_cons (pv 7) pa_nil))) pa_nil)))) pss_nil))))))
      (pss_cons (ps_expr (pe_bm PySem.F.plainAttrs_list PySem.F.slot_list_extend PySem.F.type_list_extend mt_extend (pv 2) (pa_cons (pv 4) pa_nil)))
      (pss_one (ps_set (i := 3) sc_independent_tuples.nd rfl (Or.inl rfl) (pv 4)))))))
      (pss_one (ps_ret (pv 2))))), ?_⟩
  have nd := hn.nd
  have h8 := hn.hi
  generalize hnb : nbrs ns es = nb
  have hnb' : ∀ s, nbrs ns es s = nb s := fun s => by rw [hnb]
  have hadj : ∀ m x, m ∈ ns → x ∈ ns → x ≠ m → (x ∈ nb m ↔ adjB es x m = true) := by rw [← hnb]; exact nb_adj
  have hy : (DicP ns fun s => LstV ((nb s).map V.str)).p y H := by rw [← hnb]; exact hy
  have hcount : ∀ k, (upto ns nb k).length + (lev ns nb (k + 1)).length ≤ 256 := fun k => by
    have h1 := upto_len nd hadj k
    have : 2 ^ ns.length ≤ 2 ^ 8 := Nat.pow_le_pow_right (by omega) h8
    omega
  have hlev : ∀ k g, g ∈ lev ns nb k → g.length = k ∧ k ≤ startG ns g ∧ startG ns g ≤ ns.length ∧ ∀ b ∈ g, b ∈ ns := lev_len nd
  have hshp : ∀ k, SeqAt.shaped (.list ((lev ns nb k).map fun g => PyData.tuple (g.map PyData.str))) = true := fun k =>
    (shaped_list (m := 1) (lev ns nb k) (fun g hg => lay_of_shaped (shaped_tstrs g fun s hs => (hn.nm s ((hlev k g hg).2.2.2 s hs)).ok) (by
      rw [PyData.depth]
      have : ∀ g : List Str, PyData.depthAll (g.map PyData.str) ≤ 0 := fun g => by
        induction g with
        | nil => exact Nat.le_refl _
        | cons a g ih => rw [List.map_cons, PyData.depthAll]; exact Nat.max_le.mpr ⟨Nat.le_refl _, ih⟩
      have := this g
      omega)) (by decide)).1
  -- found, longest = [()], [()]
  have hone : EvLP (tLst (tCons (tTup tNil) tNil)) (start sc_independent_tuplesN [x, y]) H [tupS []] := elp_lst (eap_cons (ep_tupV (xs := []) ea_nil (by simp)) eap_nil) (by simp)
  refine k_par (hone H (Ex.refl H) _ fun l xs1 H1 hl e1 h1 ha1 => ?_)
  refine (EvLP.up e1 hone) H1 (Ex.refl H1) _ fun lo xs2 H2 hlo e2 h2 ha2 => ?_
  refine ⟨.ref l, .ref lo, rfl, ?_⟩
  have hll : l ≠ lo := ne_of_none h1 hlo
  refine q_while (fun m σ' H' => ∃ k lo' u4 u5 u6 u7 u8, m = ns.length + 2 - k ∧ k ≤ ns.length + 1 ∧ σ' = [some x, some y, some (.ref l), some (.ref lo'), u4, u5, u6, u7, u8] ∧ Ex H H' ∧ l ≠ lo' ∧ LG H' l (upto ns nb k) ∧ LG H' lo' (lev ns nb k)) (ns.length + 2)
    ⟨0, lo, none, none, none, none, none, rfl, by omega, rfl, e1.trans e2, hll, LG.ex e2 ⟨xs1, h1, ha1⟩, xs2, h2, ha2⟩ ?_
  rintro m σ' H' ⟨k', lo', u4, u5, u6, u7, u8, hm, hk, rfl, e, hne, hf, hlg⟩
  obtain ⟨ws, hw1, hw2⟩ := id hlg
  refine ⟨!(lev ns nb k').isEmpty, et_test (ev_is (ev_neD (d := .list ((lev ns nb k').map fun g => PyData.tuple (g.map PyData.str))) (d' := .list []) (ep_var rfl (dat_lst (f := tupS) (fun g v H h => dat_tstrs h) ⟨lo', ws, rfl, hw1, hw2⟩)) (ep_to (el_lp (el_lst ea_nil (by decide))) fun v H _ h => dat_strs (ss := []) h) (hshp k') (by decide)) (by rw [eqvList_nil, List.isEmpty_map])), fun hb H3 e3 => ?_, fun hb H3 e3 => ?_⟩
  · have hkn : k' ≤ ns.length := by
      rcases Nat.lt_or_ge ns.length k' with hlt | hge
      · rw [lev_end nd hlt] at hb
        cases hb
      · exact hge
    refine ⟨fun σ2 H2 => ∃ lo' u4 u5 u6 u7 u8, σ2 = [some x, some y, some (.ref l), some (.ref lo'), u4, u5, u6, u7, u8] ∧ Ex H H2 ∧ l ≠ lo' ∧ LG H2 l (upto ns nb (k' + 1)) ∧ LG H2 lo' (lev ns nb (k' + 1)), fun σ2 H2 h2 => ?_, ?_⟩
    · obtain ⟨lo', u4, u5, u6, u7, u8, hh⟩ := h2
      exact ⟨ns.length + 2 - (k' + 1), by omega, k' + 1, lo', u4, u5, u6, u7, u8, rfl, by omega, hh⟩
    -- grown = []
    refine q_asgL (el_lst ea_nil (by decide)) fun gr H4 hgr e4 h4 => ?_
    have e04 : Ex H H4 := (e.trans e3).trans e4
    have hgl : gr ≠ l := fun z => by
      obtain ⟨vs, hv, _⟩ := LG.ex e3 hf
      rw [z, hv] at hgr
      cases hgr
    have hglo : gr ≠ lo' := fun z => by
      have := e3 _ _ hw1
      rw [z, this] at hgr
      cases hgr
    have hg0 : H gr = none := fresh_back (e.trans e3) hgr
    have hw4 := (e3.trans e4) _ _ hw1
    have hws : ws.length = (lev ns nb k').length := by rw [hw2.len, List.length_map]
    -- what stands while the groups are walked
    have stay : ∀ {H5 : Hp}, (∀ a o, a ≠ gr → H4 a = some o → H5 a = some o) → H5 lo' = some (.lst ws) := fun hs => hs _ _ (fun z => hglo z.symm) hw4
    refine q_forLn (ev_var rfl) (sq_of hw4) (fun i σ' H' => ∃ u5 u6 u7 u8, σ' = [some x, some y, some (.ref l), some (.ref lo'), some (.ref gr), u5, u6, u7, u8] ∧ Ex H H' ∧ (∀ a o, a ≠ gr → H4 a = some o → H' a = some o) ∧ LG H' gr (((lev ns nb k').take i).flatMap (growG ns nb)))
      (fun H5 e5 => ⟨_, _, _, _, rfl, e04.trans e5, fun a o _ h => e5 _ _ h, [], e5 _ _ h4, trivial⟩) (fun i σ' H' _ h => by obtain ⟨_, _, _, _, _, _, hs, _⟩ := h; exact sq_of (stay hs)) ?_ ?_
    · rintro i gv σ' H' hi ⟨u5, u6, u7, u8, rfl, eH, hs, hgrow⟩
      obtain ⟨g, hg, hgp⟩ := allGet hw2 hi
      have hil : i < (lev ns nb k').length := (List.getElem?_eq_some_iff.mp hg).1
      have hgm := List.mem_of_getElem? hg
      obtain ⟨gl, gs1, gs2, gm⟩ := hlev k' g hgm
      -- the group's tuple
      have hgp' : (tupS g).p gv H' := by
        obtain ⟨t, rfl, ht⟩ := hgp
        have : H4 t = some (.tup (g.map V.str)) := (e3.trans e4) _ _ ht
        refine ⟨t, rfl, hs t _ (fun z => ?_) this⟩
        rw [z, h4] at this
        cases this
      have hxp : ∀ H5, Ex H H5 → (LstV (ns.map V.str)).p x H5 := fun H5 e5 => (LstV _).up e5 hx
      have hyp : ∀ H5, Ex H H5 → (DicP ns fun s => LstV ((nb s).map V.str)).p y H5 := fun H5 e5 => (DicP _ _).up e5 hy
      -- start
      refine q_asg (v := .int (startG ns g : Nat)) (ev_if (b := !g.isEmpty) (et_is (et_test (ev_neD (d := .tuple (g.map PyData.str)) (d' := .tuple []) (ep_var rfl (dat_tstrs hgp')) (ep_to (ep_tupV (xs := []) ea_nil (by simp)) fun v H _ h => dat_tstrs (ss := []) h) (shaped_tstrs g fun s hs => (hn.nm s (gm s hs)).ok) (by decide))) (by rw [eqvTup_nil, List.isEmpty_map])) (fun hb => ?_) (fun hb => ?_)) fun H5 e5 => ?_
      · have hne : g ≠ [] := fun z => by rw [z] at hb; cases hb
        have hlast : g.getLast? = some (g.getLast hne) := List.getLast?_eq_some_getLast hne
        have hmem : g.getLast hne ∈ ns := gm _ (List.getLast_mem hne)
        have hst : startG ns g = ns.idxOf (g.getLast hne) + 1 := by
          unfold startG
          rw [hlast]
        have hix : Ev (tOp (rIxT K) (tVar 5) (tUn (rU fun i => .int (-i)) (tC (.int 1)))) [some x, some y, some (.ref l), some (.ref lo'), some (.ref gr), some gv, u6, u7, u8] H' (.str (g.getLast hne)) := by
          refine ev (ep_ixT (Ps := g.map fun s => Is (.str s)) (k := g.length - 1) (P := Is (.str (g.getLast hne))) (ep_var rfl (strs_tup hgp')) (ev_un1 (g := fun i => .int (-i)) ev_c) ?_ fun n hn xs v hl hv => ?_)
          · rw [List.getElem?_map, List.getLast_eq_getElem, List.getElem?_eq_getElem]
            rfl
          · rw [List.length_map] at hn
            have hx : xs ≠ [] := fun z => by
              rw [z] at hl
              have : 0 < g.length := List.length_pos_iff.mpr hne
              simp at hl
              omega
            have e1 : xs = xs.dropLast ++ [v] := by
              have h1 := List.dropLast_concat_getLast hx
              have h2 : xs.getLast hx = v := by
                rw [List.getLast_eq_getElem]
                have h3 : xs[xs.length - 1]? = some v := by rw [hl, hn]; exact hv
                rw [List.getElem?_eq_getElem (by rw [hl, hn]; have : 0 < g.length := List.length_pos_iff.mpr hne; omega)] at h3
                exact Option.some.inj h3
              rw [h2] at h1
              exact h1.symm
            rw [e1]
            exact atI_last _ _
        refine ev_is (ev_i0 (ev_index (ep_var rfl (hxp _ eH)) hix hmem) ev_c) ?_
        rw [hst]
        rfl
      · have hz : g = [] := by
          cases g with
          | nil => rfl
          | cons a g => cases hb
        rw [hz]
        exact ev_c
      -- for name in names[start:]
      have eH5 : Ex H H5 := eH.trans e5
      obtain ⟨ax, rfl, hax⟩ := hxp H5 eH5
      have hsl := el_sl (K := K) (σ := [some (.ref ax), some y, some (.ref l), some (.ref lo'), some (.ref gr), some gv, some (.int (startG ns g : Nat)), u7, u8]) (H := H5) (ev_var (i := 0) rfl) (eo_some (ev_var (i := 6) rfl)) eo_none (sq_of hax)
      rw [cut_from _ _ gs2] at hsl
      obtain ⟨gvs, hgv1, hgv2⟩ := LG.ex e5 hgrow
      refine s_forNL hsl (fun p j σ' H' => ∃ u7 u8, σ' = [some (.ref ax), some y, some (.ref l), some (.ref lo'), some (.ref gr), some gv, some (.int (startG ns g : Nat)), u7, u8] ∧ Ex H H' ∧ (∀ a o, a ≠ gr → H4 a = some o → H' a = some o) ∧ (tupS g).p gv H' ∧ p ≠ gr ∧ H' p = some (.lst ((ns.drop (startG ns g)).map V.str)) ∧
          LG H' gr (((lev ns nb k').take i).flatMap (growG ns nb) ++ (((ns.drop (startG ns g)).take j).filter (okG nb g)).map fun b => g ++ [b])) ?_ ?_ ?_ ?_
      · intro p H6 hp e6 h6
        refine ⟨_, _, rfl, eH5.trans e6, fun a o na h => (e5.trans e6) _ _ (hs a o na h), (tupS g).up (e5.trans e6) hgp', fun z => ?_, h6, ?_⟩
        · rw [z, hgv1] at hp
          cases hp
        · rw [List.take_zero, List.filter_nil, List.map_nil, List.append_nil]
          exact LG.ex e6 ⟨gvs, hgv1, hgv2⟩
      · rintro p j σ' H' _ ⟨_, _, _, _, _, _, _, h, _⟩
        exact sq_of h
      · rintro p j bv σ' H6 hj ⟨u7, u8, rfl, e6, hs6, hgp6, hpg, hp6, hg6⟩
        rw [List.getElem?_map] at hj
        obtain ⟨b, hb, rfl⟩ := Option.map_eq_some_iff.mp hj
        have hbm : b ∈ ns := List.mem_of_mem_drop (List.mem_of_getElem? hb)
        obtain ⟨hjl, hb2⟩ := List.getElem?_eq_some_iff.mp hb
        have htk : (ns.drop (startG ns g)).take (j + 1) = (ns.drop (startG ns g)).take j ++ [b] := by rw [List.take_succ_eq_append_getElem hjl, hb2]
        have hlc : EvLP (tLc (iTup K (tVar 5)) (gName 8) tYes (tOp (rIn K false) (tVar 7) (tDGet (tVar 1) (tVar 8))) [8]) [some (.ref ax), some y, some (.ref l), some (.ref lo'), some (.ref gr), some gv, some (.int (startG ns g : Nat)), some (.str b), u8] H6 (g.map fun m => Is (.bl (decide (b ∈ nb m)))) := by
          have := elp_lcT (K := K) (σ := [some (.ref ax), some y, some (.ref l), some (.ref lo'), some (.ref gr), some gv, some (.int (startG ns g : Nat)), some (.str b), u8]) (H := H6) (L := g) (f := fun m => Is (.bl (decide (b ∈ nb m)))) (tt := tYes) (te := tOp (rIn K false) (tVar 7) (tDGet (tVar 1) (tVar 8))) (j := 8) (vs := [8]) (fun _ => true) (fun s => Is (.str s)) (tl := tVar 5) (ep_var rfl (strs_tup hgp6)) (by omega) (fun _ => rfl) (fun _ _ _ _ _ _ => et_yes)
            (fun m v H7 hm e7 hv _ => by
              have hv : v = .str m := hv
              subst hv
              exact ep (ev_inL (ev_var rfl) (ep_dget (f := fun s => LstV ((nb s).map V.str)) (ep_var rfl (hyp _ (e6.trans e7))) (ev_var rfl) (gm m hm))))
          rw [filter_yes] at this
          exact this
        refine s_when (b := okG nb g b) (et_not (et_B (ev_any hlc))) (fun ho H7 e7 => ?_) (fun ho H7 e7 => ?_)
        · obtain ⟨qs, hq1, hq2⟩ := LG.ex e7 hg6
          refine s_appP (P := tupS (g ++ [b])) hq1 (ev_var rfl) (ep_to (ep_cat (ep_var rfl ((tupS g).up e7 hgp6)) (ep_tupV (ea_cons (ev_var rfl) ea_nil) (by simp)) (by rw [List.length_map]; omega)) fun v H _ h => by
            have h' : (TupV ((g ++ [b]).map V.str)).p v H := by rw [List.map_append]; exact h
            exact h') ?_ fun tv H8 e8 ht => ?_
          · rw [hq2.len, List.length_map, List.length_append, List.length_map]
            have h1 := flat_take (growG ns nb) (lev ns nb k') i
            have h2 := List.length_filter_le (okG nb g) ((ns.drop (startG ns g)).take j)
            rw [List.length_take, List.length_drop] at h2
            have h3 := hcount k'
            have h4 : (lev ns nb (k' + 1)).length = ((lev ns nb k').flatMap (growG ns nb)).length := rfl
            omega
          · have e68 := e7.trans e8
            have hq8 := e8 _ _ hq1
            refine ⟨_, _, rfl, Ex.mut (e6.trans e68) hg0, fun a o na h => by rw [upd_ne na]; exact e68 _ _ (hs6 a o na h), ?_, hpg, by rw [upd_ne hpg]; exact e68 _ _ hp6, ?_⟩
            · exact (inferInstance : Stab (tupS g)).ups (Exs.upd hq8) ((tupS g).up e68 hgp6)
            · rw [htk, List.filter_append, List.map_append, ← List.append_assoc]
              have e9 : [b].filter (okG nb g) = [b] := by simp [ho]
              rw [e9]
              exact LG.snoc hq8 (hq2.up e8) ht
        · refine ⟨_, _, rfl, e6.trans e7, fun a o na h => e7 _ _ (hs6 a o na h), (tupS g).up e7 hgp6, hpg, e7 _ _ hp6, ?_⟩
          rw [htk, List.filter_append]
          have e9 : [b].filter (okG nb g) = [] := by simp [ho]
          rw [e9, List.append_nil]
          exact LG.ex e7 hg6
      · rintro p σ' H6 ⟨u7, u8, rfl, e6, hs6, hgp6, hpg, hp6, hg6⟩
        refine ⟨_, _, _, _, rfl, e6, hs6, ?_⟩
        rw [List.length_map, List.take_length] at hg6
        obtain ⟨h1, h2⟩ := List.getElem?_eq_some_iff.mp hg
        rw [List.take_succ_eq_append_getElem h1, List.flatMap_append, h2]
        have e9 : [g].flatMap (growG ns nb) = ((ns.drop (startG ns g)).filter (okG nb g)).map fun b => g ++ [b] := by
          rw [List.flatMap_cons, List.flatMap_nil, List.append_nil]
          rfl
        rw [e9]
        exact hg6
    · rintro σ' H5 ⟨u5, u6, u7, u8, rfl, e5, hs5, hg5⟩
      rw [hws, List.take_length] at hg5
      -- found.extend(grown); longest = grown
      obtain ⟨fs, hf1, hf2⟩ := LG.ex (e3.trans e4) hf
      have hf5 : H5 l = some (.lst fs) := hs5 _ _ (fun z => hgl z.symm) hf1
      have hf2' : AllP ((upto ns nb k').map tupS) fs H5 := by
        have ex : ∀ {L : List (List Str)} {vs : List V}, AllP (L.map tupS) vs H4 → AllP (L.map tupS) vs H5 := fun {L vs} h => by
          refine (stabs_map (fun _ => inferInstance) L).ups (fun a o ha hn => ?_) h
          refine hs5 a o (fun z => ?_) ha
          rw [z, h4] at ha
          exact hn [] (Option.some.inj ha).symm
        exact ex hf2
      obtain ⟨gs, hg1, hg2⟩ := hg5
      have hlen1 : fs.length = (upto ns nb k').length := by rw [hf2'.len, List.length_map]
      have hlen2 : gs.length = (lev ns nb (k' + 1)).length := by rw [hg2.len, List.length_map]; rfl
      refine q_ext hf5 hg1 (ev_var rfl) (ev_var rfl) (by have := hcount k'; omega) fun H6 e6 => ?_
      have hf6 := e6 _ _ hf5
      have hl0 : H l = none := hl
      have st6 : Exs H6 (upd H6 l (.lst (fs ++ gs))) := Exs.upd hf6
      refine s_asg (ev_var rfl) fun H7 e7 => ⟨gr, _, _, _, _, _, rfl, (Ex.mut (e5.trans e6) hl0).trans e7, fun z => hgl z.symm, LG.ex e7 ⟨_, upd_same, ?_⟩, LG.ex e7 ⟨gs, by rw [upd_ne hgl]; exact e6 _ _ hg1, (stabs_map (fun _ => inferInstance) _).ups st6 (hg2.up e6)⟩⟩
      show AllP ((upto ns nb k' ++ lev ns nb (k' + 1)).map tupS) _ _
      rw [List.map_append]
      exact ((stabs_map (fun _ => inferInstance) _).ups st6 (hf2'.up e6)).append ((stabs_map (fun _ => inferInstance) _).ups st6 (hg2.up e6))
  · have hempty : lev ns nb k' = [] := by
      cases hh : lev ns nb k' with
      | nil => rfl
      | cons a r => rw [hh] at hb; cases hb
    obtain ⟨fs, hf1, hf2⟩ := LG.ex e3 hf
    refine s_retP (P := IndP ns es) (ep_var rfl ?_) fun v H4 e4 hv => k v H4 ((e.trans e3).trans e4) hv
    have hk0 : ∃ j, k' = j + 1 := by
      cases k' with
      | zero => cases hempty
      | succ j => exact ⟨j, rfl⟩
    obtain ⟨j, rfl⟩ := hk0
    refine ⟨upto ns nb (j + 1), ?_, l, fs, rfl, hf1, hf2⟩
    have : upto ns nb (j + 1) = upto ns nb j := by
      show upto ns nb j ++ lev ns nb (j + 1) = _
      rw [hempty, List.append_nil]
    rw [this]
    exact ind_ok nd h8 hadj hempty
end
end Rs
/-! How large the numbers grow. -/
namespace Rs
open PySem
/-- a multiple of 1 / D, by at most B -/
def InD (D B : Nat) (r : Rat) : Prop := 0 < D ∧ ∃ x : Int, x.natAbs ≤ B ∧ r * (D : Rat) = (x : Rat)
theorem InD.eq {D B : Nat} {r : Rat} (h : InD D B r) : ∃ x : Int, x.natAbs ≤ B ∧ r = mkRat x D := by
  obtain ⟨h0, x, hx, e⟩ := h
  refine ⟨x, hx, ?_⟩
  rw [Rat.mkRat_eq_div, ← e]
  have : (D : Rat) ≠ 0 := fun z => by
    have := Rat.natCast_pos.mpr h0
    rw [z] at this
    exact absurd this (by decide)
  exact (Rat.mul_div_cancel this).symm
theorem InD.sz {D B : Nat} {r : Rat} (h : InD D B r) : r.num.natAbs ≤ B ∧ r.den ≤ D := by
  have h0 := h.1
  obtain ⟨x, hx, rfl⟩ := h.eq
  rw [Rat.num_mkRat, Rat.den_mkRat, if_neg (by omega), if_neg (by omega)]
  constructor
  · rw [Int.natAbs_ediv_of_dvd (Int.ofNat_dvd_left.mpr (Nat.gcd_dvd_right _ _))]
    exact Nat.le_trans (Nat.div_le_self _ _) hx
  · exact Nat.div_le_self _ _
theorem InD.sm {D B : Nat} {r : Rat} (h : InD D B r) (hD : D < 2 ^ 4200) (hB : B < 2 ^ 4200) : Sm r := ⟨Nat.lt_of_le_of_lt h.sz.1 hB, Nat.lt_of_le_of_lt h.sz.2 hD⟩
theorem InD.add {D B C : Nat} {r s : Rat} (h : InD D B r) (k : InD D C s) : InD D (B + C) (r + s) := by
  obtain ⟨h0, x, hx, e⟩ := h
  obtain ⟨_, y, hy, f⟩ := k
  exact ⟨h0, x + y, by omega, by rw [Rat.add_mul, e, f, Rat.intCast_add]⟩
theorem InD.neg {D B : Nat} {r : Rat} (h : InD D B r) : InD D B (-r) := by
  obtain ⟨h0, x, hx, e⟩ := h
  exact ⟨h0, -x, by omega, by rw [Rat.neg_mul, e, Rat.intCast_neg]⟩
theorem InD.sub {D B C : Nat} {r s : Rat} (h : InD D B r) (k : InD D C s) : InD D (B + C) (r - s) := by
  rw [Rat.sub_eq_add_neg]
  exact h.add k.neg
theorem InD.mul {D E B C : Nat} {r s : Rat} (h : InD D B r) (k : InD E C s) : InD (D * E) (B * C) (r * s) := by
  obtain ⟨h0, x, hx, e⟩ := h
  obtain ⟨k0, y, hy, f⟩ := k
  refine ⟨Nat.mul_pos h0 k0, x * y, by rw [Int.natAbs_mul]; exact Nat.mul_le_mul hx hy, ?_⟩
  rw [Rat.natCast_mul, Rat.intCast_mul, ← e, ← f]
  grind
theorem InD.scale {D B : Nat} {r : Rat} (h : InD D B r) (m : Nat) (hm : 0 < m) : InD (D * m) (B * m) r := by
  obtain ⟨h0, x, hx, e⟩ := h
  refine ⟨Nat.mul_pos h0 hm, x * (m : Int), ?_, ?_⟩
  · rw [Int.natAbs_mul]
    exact Nat.mul_le_mul hx (by simp)
  · rw [Rat.natCast_mul, Rat.intCast_mul, ← e]
    show r * ((D : Rat) * (m : Rat)) = r * (D : Rat) * ((m : Int) : Rat)
    have : ((m : Int) : Rat) = (m : Rat) := rfl
    rw [this]
    grind
theorem InD.mono {D B C : Nat} {r : Rat} (h : InD D B r) (hb : B ≤ C) : InD D C r := by
  obtain ⟨h0, x, hx, e⟩ := h
  exact ⟨h0, x, Nat.le_trans hx hb, e⟩
theorem InD.one : InD 1 1 1 := ⟨by decide, 1, by decide, by rw [Rat.one_mul]; rfl⟩
theorem InD.self (r : Rat) : InD r.den r.num.natAbs r := ⟨r.den_pos, r.num, Nat.le_refl _, by
  have h := Rat.mkRat_self r
  have h2 : (r.den : Rat) ≠ 0 := fun z => by
    have := Rat.natCast_pos.mpr r.den_pos
    rw [z] at this
    exact absurd this (by decide)
  rw [Rat.mkRat_eq_div] at h
  have h3 := Rat.div_mul_cancel (a := (r.num : Rat)) h2
  rw [h] at h3
  exact h3⟩
theorem InD.prob {r : Rat} (h0 : 0 ≤ r) (h1 : r ≤ 1) : InD r.den r.den r := (InD.self r).mono (num_le h0 h1)
/-- the product of the denominators -/
def dens (p : Str → Rat) (L : List Str) : Nat := (L.map fun s => (p s).den).foldr (· * ·) 1
theorem dens_cons (p : Str → Rat) (a : Str) (L : List Str) : dens p (a :: L) = (p a).den * dens p L := rfl
theorem dens_pos (p : Str → Rat) : ∀ L, 0 < dens p L
  | [] => Nat.one_pos
  | a :: L => Nat.mul_pos (p a).den_pos (dens_pos p L)
theorem dens_sub {p : Str → Rat} {T L : List Str} (h : List.Sublist T L) : ∃ m, 0 < m ∧ dens p L = dens p T * m := by
  induction h with
  | slnil => exact ⟨1, by decide, rfl⟩
  | cons a _ ih =>
    obtain ⟨m, hm, e⟩ := ih
    refine ⟨m * (p a).den, Nat.mul_pos hm (p a).den_pos, ?_⟩
    rw [dens_cons, e, Nat.mul_comm (p a).den, Nat.mul_assoc]
  | cons_cons a _ ih =>
    obtain ⟨m, hm, e⟩ := ih
    exact ⟨m, hm, by rw [dens_cons, dens_cons, e, Nat.mul_assoc]⟩
theorem dens_lt {p : Str → Rat} : ∀ {L : List Str}, (∀ s ∈ L, (p s).den < 2 ^ 120) → dens p L < 2 ^ (120 * L.length + 1)
  | [], _ => by
    show 1 < 2 ^ (120 * 0 + 1)
    decide
  | a :: L, h => by
    have ih := dens_lt (L := L) fun s hs => h s (List.mem_cons_of_mem _ hs)
    rw [dens_cons]
    have e : 120 * (a :: L).length + 1 = 120 + (120 * L.length + 1) := by simp; omega
    rw [e, Nat.pow_add]
    exact Nat.mul_lt_mul'' (h a List.mem_cons_self) ih
section
variable {ns : List Str} {p : Str → Rat} {adj : Str → Str → Bool}
theorem q_in : ∀ (n : Nat) (L : List Str), L.length ≤ n → (∀ s ∈ L, 0 ≤ p s ∧ p s ≤ 1) → InD (dens p L) (2 ^ L.length * dens p L) (q adj p L)
  | 0, L, hl, _ => by
    have h0 : L = [] := List.length_eq_zero_iff.mp (Nat.le_zero.mp hl)
    subst h0
    rw [q_nil]
    exact InD.one
  | n + 1, [], _, _ => by
    rw [q_nil]
    exact InD.one
  | n + 1, a :: L, hl, h => by
    have hl' : L.length ≤ n := by simpa using hl
    have h1 := q_in n L hl' fun s hs => h s (List.mem_cons_of_mem _ hs)
    have hsub : List.Sublist (far adj a L) L := List.filter_sublist
    have h2 := q_in n (far adj a L) (Nat.le_trans hsub.length_le hl') fun s hs => h s (List.mem_cons_of_mem _ (hsub.subset hs))
    obtain ⟨m, hm, e⟩ := dens_sub (p := p) hsub
    have h3 := (h2.scale m hm)
    have hpa := InD.prob (h a List.mem_cons_self).1 (h a List.mem_cons_self).2
    have h4 := hpa.mul h3
    have h5 := h1.scale (p a).den (p a).den_pos
    rw [q_cons, dens_cons]
    have e1 : (p a).den * (dens p (far adj a L) * m) = (p a).den * dens p L := by rw [e]
    have e2 : dens p L * (p a).den = (p a).den * dens p L := Nat.mul_comm _ _
    rw [e1] at h4
    rw [e2] at h5
    refine (h5.sub h4).mono ?_
    have hle : 2 ^ (far adj a L).length ≤ 2 ^ L.length := Nat.pow_le_pow_right (by omega) hsub.length_le
    have e3 : 2 ^ (far adj a L).length * dens p (far adj a L) * m = 2 ^ (far adj a L).length * dens p L := by rw [e, Nat.mul_assoc]
    rw [e3, List.length_cons, Nat.pow_succ]
    have e4 : 2 ^ L.length * dens p L * (p a).den = 2 ^ L.length * ((p a).den * dens p L) := by rw [Nat.mul_assoc, Nat.mul_comm (dens p L)]
    have e5 : (p a).den * (2 ^ (far adj a L).length * dens p L) = 2 ^ (far adj a L).length * ((p a).den * dens p L) := by rw [Nat.mul_left_comm]
    rw [e4, e5]
    have := Nat.mul_le_mul_right ((p a).den * dens p L) hle
    generalize (p a).den * dens p L = Z at *
    generalize 2 ^ L.length = X at *
    generalize 2 ^ (far adj a L).length = Y at *
    rw [Nat.mul_comm X 2, Nat.mul_assoc, Nat.two_mul]
    omega
theorem q_sm (ok : PrOk ns p) {L : List Str} (hm : ∀ s ∈ L, s ∈ ns) (hl : L.length ≤ 8) : Sm (q adj p L) := by
  have h1 := q_in (adj := adj) L.length L (Nat.le_refl _) fun s hs => ⟨ok.lo s (hm s hs), ok.hi s (hm s hs)⟩
  have h2 := dens_lt (p := p) (L := L) fun s hs => ok.den s (hm s hs)
  have h3 : 2 ^ (120 * L.length + 1) ≤ 2 ^ 1000 := Nat.pow_le_pow_right (by omega) (by omega)
  have h4 : dens p L < 2 ^ 1000 := Nat.lt_of_lt_of_le h2 h3
  have h5 : 2 ^ L.length ≤ 2 ^ 8 := Nat.pow_le_pow_right (by omega) hl
  have h6 : 2 ^ L.length * dens p L < 2 ^ 1008 := by
    have e : 2 ^ 1008 = 2 ^ 8 * 2 ^ 1000 := by rw [← Nat.pow_add]
    rw [e]
    exact Nat.lt_of_le_of_lt (Nat.mul_le_mul_right _ h5) (Nat.mul_lt_mul_of_pos_left h4 (Nat.two_pow_pos 8))
  have h7 : 2 ^ 1000 ≤ 2 ^ 4200 := Nat.pow_le_pow_right (by omega) (by omega)
  have h8 : 2 ^ 1008 ≤ 2 ^ 4200 := Nat.pow_le_pow_right (by omega) (by omega)
  exact h1.sm (Nat.lt_of_lt_of_le h4 h7) (Nat.lt_of_lt_of_le h6 h8)
/-! a product, a sum -/
theorem evs_abs (g : List Str) : (evs g).natAbs = 1 := by unfold evs; omega
theorem InD.int {x : Int} : InD 1 x.natAbs (x : Rat) := ⟨by decide, x, Nat.le_refl _, by
  show (x : Rat) * ((1 : Nat) : Rat) = (x : Rat)
  exact Rat.mul_one _⟩
theorem fold_in : ∀ (g : List Str) (D B : Nat) (z : Rat), InD D B z → (∀ s ∈ g, 0 ≤ p s ∧ p s ≤ 1) → InD (D * dens p g) (B * dens p g) ((g.map p).foldl (· * ·) z)
  | [], D, B, z, h, _ => by
    have e : dens p [] = 1 := rfl
    rw [e, Nat.mul_one, Nat.mul_one]
    exact h
  | a :: g, D, B, z, h, hp => by
    have h1 := h.mul (InD.prob (hp a List.mem_cons_self).1 (hp a List.mem_cons_self).2)
    have ih := fold_in g _ _ _ h1 fun s hs => hp s (List.mem_cons_of_mem _ hs)
    rw [dens_cons, ← Nat.mul_assoc, ← Nat.mul_assoc]
    exact ih
theorem wt_in (g : List Str) (hp : ∀ s ∈ g, 0 ≤ p s ∧ p s ≤ 1) : InD (dens p g) (dens p g) (wt p g) := by
  have h := fold_in g 1 1 ((evs g : Rat)) (by have := InD.int (x := evs g); rw [evs_abs] at this; exact this) hp
  rw [Nat.one_mul] at h
  have e : wt p g = (g.map p).foldl (· * ·) (evs g : Rat) := by
    unfold wt prodR
    rw [List.foldl_cons, Rat.one_mul]
  rw [e]
  exact h
theorem prod_sm (ok : PrOk ns p) (g : List Str) (hm : ∀ s ∈ g, s ∈ ns) (hl : g.length ≤ 8) : (∀ r ∈ (evs g : Rat) :: g.map p, Sm r) ∧ ∀ k, k ≤ ((evs g : Rat) :: g.map p).length → Sm (prodR (((evs g : Rat) :: g.map p).take k)) := by
  have h2p : ∀ n, 0 < 2 ^ n := Nat.two_pow_pos
  constructor
  · intro r hr
    rcases List.mem_cons.mp hr with rfl | hr
    · have h := InD.int (x := evs g)
      rw [evs_abs] at h
      exact h.sm (Nat.one_lt_two_pow (by omega)) (Nat.one_lt_two_pow (by omega))
    · obtain ⟨s, hs, rfl⟩ := List.mem_map.mp hr
      exact ok.sm (hm s hs)
  · intro k hk
    cases k with
    | zero => exact sm_one
    | succ k =>
      rw [List.take_succ_cons]
      unfold prodR
      rw [List.foldl_cons, Rat.one_mul, ← List.map_take]
      have hsub : ∀ s ∈ g.take k, s ∈ g := fun s hs => List.mem_of_mem_take hs
      have h := fold_in (g.take k) 1 1 ((evs g : Rat)) (by have := InD.int (x := evs g); rw [evs_abs] at this; exact this) fun s hs => ⟨ok.lo s (hm s (hsub s hs)), ok.hi s (hm s (hsub s hs))⟩
      rw [Nat.one_mul] at h
      have h2 := dens_lt (p := p) (L := g.take k) fun s hs => ok.den s (hm s (hsub s hs))
      have hl2 : (g.take k).length ≤ 8 := by rw [List.length_take]; omega
      have h3 : 2 ^ (120 * (g.take k).length + 1) ≤ 2 ^ 4200 := Nat.pow_le_pow_right (by omega) (by omega)
      have h4 : dens p (g.take k) < 2 ^ 4200 := Nat.lt_of_lt_of_le h2 h3
      exact h.sm h4 h4
theorem sum_in {D : Nat} (hD : 0 < D) : ∀ (rs : List Rat), (∀ r ∈ rs, InD D D r) → InD D (rs.length * D) (sumR rs)
  | [], _ => ⟨hD, 0, Nat.zero_le _, by
    show (0 : Rat) * _ = 0
    rw [Rat.zero_mul]⟩
  | r :: rs, h => by
    rw [sumR_cons, List.length_cons, Nat.succ_mul, Nat.add_comm]
    exact (h r List.mem_cons_self).add (sum_in hD rs fun s hs => h s (List.mem_cons_of_mem _ hs))
theorem sum_sm (ok : PrOk ns p) (h8 : ns.length ≤ 8) {G : List (List Str)} (hG : ∀ g ∈ G, List.Sublist g ns) (hl : G.length ≤ 256) : (∀ r ∈ G.map (wt p), Sm r) ∧ ∀ k, k ≤ (G.map (wt p)).length → Sm (sumR ((G.map (wt p)).take k)) := by
  have hpr : ∀ s ∈ ns, 0 ≤ p s ∧ p s ≤ 1 := fun s hs => ⟨ok.lo s hs, ok.hi s hs⟩
  have hin : ∀ g ∈ G, InD (dens p ns) (dens p ns) (wt p g) := fun g hg => by
    have h1 := wt_in (p := p) g fun s hs => hpr s ((hG g hg).subset hs)
    obtain ⟨m, hm, e⟩ := dens_sub (p := p) (hG g hg)
    rw [e]
    exact h1.scale m hm
  have h2 := dens_lt (p := p) (L := ns) ok.den
  have h3 : 2 ^ (120 * ns.length + 1) ≤ 2 ^ 1000 := Nat.pow_le_pow_right (by omega) (by omega)
  have h4 : dens p ns < 2 ^ 1000 := Nat.lt_of_lt_of_le h2 h3
  have h7 : 2 ^ 1000 ≤ 2 ^ 4200 := Nat.pow_le_pow_right (by omega) (by omega)
  have h8' : 2 ^ 1008 ≤ 2 ^ 4200 := Nat.pow_le_pow_right (by omega) (by omega)
  have h5 := Nat.lt_of_lt_of_le h4 h7
  constructor
  · intro r hr
    obtain ⟨g, hg, rfl⟩ := List.mem_map.mp hr
    exact (hin g hg).sm h5 h5
  · intro k hk
    have hs := sum_in (dens_pos p ns) ((G.map (wt p)).take k) fun r hr => by
      obtain ⟨g, hg, rfl⟩ := List.mem_map.mp (List.mem_of_mem_take hr)
      exact hin g hg
    refine hs.sm h5 ?_
    have hk2 : ((G.map (wt p)).take k).length ≤ 2 ^ 8 := by rw [List.length_take, List.length_map]; omega
    have e : 2 ^ 1008 = 2 ^ 8 * 2 ^ 1000 := by rw [← Nat.pow_add]
    refine Nat.lt_of_lt_of_le ?_ h8'
    rw [e]
    exact Nat.lt_of_le_of_lt (Nat.mul_le_mul_right _ hk2) (Nat.mul_lt_mul_of_pos_left h4 (Nat.two_pow_pos 8))
end
end Rs
/-! The independence value. -/
namespace Rs
open PySem PySem.Spec PyProof.Rows L2 Evl
/-! ### calls with keywords -/
structure CalK (P : Program) (w : World) (K : PySem.W.Frag) (mg : Str → Option Value) (base : Heap) (k : Nat) (x : Str) (n : Nat) (ks : List Str) (sp : Sp) (gV : List V → List V → List V) : Prop where
  ex : ∃ (f : Addr) (fd : FuncData) (ps : List Str) (g : List Value → List Value → List Value), FnOk P w K mg base CX0 k f fd ps sp ∧ mg x = some (.ref f) ∧ PySem.W.keepIn K (.ref f) = true ∧ KBn K fd ps n ks g gV
section
variable {X : Cx} {k j n : Nat} {x : Str} {ks : List Str} {sp : Sp} {gV : List V → List V → List V} {p pos : PySem.Pos} {e : Expr} {es : List Expr} {kws : List Keyword} {t tk : TA}
theorem pe_ck (c : CalK X.prog X.w X.K X.mg X.base k x n ks sp gV) (hr : Room j X.A) (hk : k ≤ j) (hg : Gl X x) (ha : PA X (e :: es) t) (hkw : PK X kws tk)
    (hall : (backToKw pos (keywordEach kws X.env)).all (·.1.isSome) = true := by rfl) (hks : (backToKw pos (keywordEach kws X.env)).filterMap (·.1) = ks := by rfl)
    (named : (x == ("__debug__" : Str)) = false := by decide)
    (stars : starEach (e :: es) X.env = (false, eval e X.env) :: starEach es X.env := by rfl)
    (noStar : ((backTo pos (starEach (e :: es) X.env)).any (·.1) || (backToKw pos (keywordEach kws X.env)).any (·.1.isNone)) = false := by rfl) : PE X (.Call (.Name x p) (e :: es) kws pos) (tCallN n ks.length sp gV E0 t tk) := by
  obtain ⟨f, fd, ps, g, F, hm, kp, hb⟩ := c.ex
  exact pe_callN F (hr.mono hk) hg hm kp hb pass0 ha hkw hall hks named stars noStar
theorem kb0 {K : PySem.W.Frag} {x qual : Str} {params : Arguments} {body : List Stmt} {scope : Scope} {kws : List (Str × V)} {f : Addr} {fd : FuncData} {ps : List Str} (F : FunD K x qual params body scope [] kws f fd) (n : Nat) (ks : List Str)
    (h : ∀ (kV doc pm : Value) (an : Option Addr) (cdv ct : Value) (us ws : List Value), us.length = n → ws.length = ks.length → bindArgs (PySem.W.fnOf x qual params body scope .none kV doc pm an cdv ct) ⟨us, ks.zip ws⟩ = pure (ps.zip (us ++ ws))) :
    KBn K fd ps n ks (fun us ws => us ++ ws) (fun vs zs => vs ++ zs) := by
  obtain ⟨_, _, dV, kV, doc, pm, an, cdv, ct, _, rfl, _, _, none | ⟨e, _⟩, _⟩ := F.ex
  obtain ⟨_, rfl⟩ := none
  · exact ⟨fun s us ws _ l1 l2 => .of_eq (h kV doc pm an cdv ct us ws l1 l2), fun r1 r2 => r1.append r2⟩
  · exact absurd rfl e
end
section
variable {K : PySem.W.Frag} {σ : L2.St} {H H' : Hp} {ta tb te tx : TE} {E : XK} {D : Ends} {tz tu : TS} {P : Pr} {Ps Qs : List Pr}
theorem ep_callK {R : List Pr → Pr → Prop} {n m : Nat} {tl tk : TA} (h : EvAP tl σ H Ps) (h2 : EvAP tk σ H Qs) (hn : Ps.length = n) (hm : Qs.length = m) (hr : R (Ps ++ Qs) P) : EvP (tCallN n m (Fn R) (fun vs zs => vs ++ zs) E tl tk) σ H P := fun H1 e Q q =>
  h H1 e _ fun vs H2 e2 hs => h2 H2 (e.trans e2) _ fun zs H3 e3 hz => ⟨by rw [hs.len, hn], by rw [hz.len, hm], Ps ++ Qs, P, hr, (hs.up e3).append hz, fun w H4 e4 hw => q w H4 ((e2.trans e3).trans e4) hw⟩
theorem k_seqFor {g : TG} (h : tx σ H fun x H1 => tSeq (tFor (iList K (tC x)) g tu) tz D σ H1) : tSeq (tFor (iList K tx) g tu) tz D σ H := h
theorem ep_catL (ha : EvLP ta σ H Ps) (hb : EvLP tb σ H Qs) (h1 : Ps.length ≤ 50000) (h2 : Qs.length ≤ 50000) : EvLP (tOp rCat ta tb) σ H (Ps ++ Qs) := fun H1 e Q q =>
  ha H1 e _ fun a xs H2 _ e2 h2' ha' => hb H2 (e.trans e2) _ fun b ys H3 _ e3 h3 hb' => ⟨a, b, xs, ys, rfl, rfl, e3 _ _ h2', h3, sz_of (by rw [ha'.len, hb'.len]; omega), fun p hp => q p _ _ (fresh_back (e2.trans e3) hp) ((e2.trans e3).trans (Ex.new hp)) upd_same ((ha'.up (e3.trans (Ex.new hp))).append (hb'.up (Ex.new hp)))⟩
theorem q_when1 {t : TT} {b : Bool} (h : EvT t σ H b) (h1 : b = true → ∀ H1, Ex H H1 → tu { D with nx := tz D } σ H1) (h2 : b = false → ∀ H1, Ex H H1 → tz D σ H1) : tSeq (tIfS t tu tNext) tz D σ H := q_when h h1 h2
end
section
variable {P : Program} {w : World} {K : PySem.W.Frag} {mg : Str → Option Value} {base : Heap}
abbrev sc_independent_name_setsN : List Str := ["graph", "name"]
theorem sc_independent_name_sets : FnScope sc_independent_name_setsN ["graph"] (defScope s_independent_name_sets) := ⟨rfl, rfl, rfl, by decide +kernel, rfl, by decide +kernel, by decide +kernel⟩
theorem bd_independent_name_sets : Bnd "independent_name_sets" "independent_name_sets" s_independent_name_sets ["graph"] := fun _ _ _ _ _ _ us hl => match us, hl with | [_], _ => rfl
def R_ind_sets (K : PySem.W.Frag) (Ps : List Pr) (P : Pr) : Prop := ∃ ns es, Ps = [GrP K ns es] ∧ P = IndP ns es
theorem ok_independent_name_sets (T : Tx K mg) : C8.Cal P w K mg base 5 "independent_name_sets" (Fn (R_ind_sets K)) [] := by
  refine cal_of sc_independent_name_sets bd_independent_name_sets (fn_len (n := 1) fun Ps P h => by obtain ⟨_, _, rfl, _⟩ := h; rfl) (fun f cdv A outer s H vs Q E hr h => ?_) T.g_independent_name_sets T.f_independent_name_sets
  obtain ⟨_, _, ⟨ns, es, rfl, rfl⟩, ha, k⟩ := h
  obtain ⟨x, rfl, hx⟩ := all1 ha
  refine ⟨_, (pss_cons (ps_expr (C8.pe_c (ok_need_graph T) hr (by decide) rfl (pa_cons (pv 0) pa_nil)))
      (pss_one (ps_ret (C8.pe_c (ok_independent_tuples T) hr (by decide) rfl (pa_cons (C8.pe_mt0 (ok_Graph_names T) hr (by decide) (pv 0)) (pa_cons (pe_dc (own := [("name", 1)]) (g := gName 1) (tt := tYes) (tk := _) (tv := (tMeth _ _ _ _ _ _ (tCons _ tNil))) rfl sc_independent_name_sets.nd (pi_list (C8.pe_mt0 (ok_Graph_names T) hr (by decide) (pv 0))) (blkOk_by (N := sc_independent_name_setsN) (sc := defScope s_independent_name_sets) (by decide +kernel)) (fun _ _ _ _ _ => (pg_name (i := 1) sc_independent_name_sets.nd rfl (Or.inl rfl))) (fun _ _ _ _ _ => pts_nil) (fun _ _ _ _ _ => (pv 1)) (fun _ _ _ _ _ => (C8.pe_mt (ok_Graph_neighbors T) hr (by decide) (pv 0) (pa_cons (pv 1) pa_nil)))) pa_nil)))))), ?_⟩
  have hn := hx.1
  refine q_drop (ev_need_graph (ep_var rfl hx)) fun H1 e1 => ?_
  have hx1 := (GrP K ns es).up e1 hx
  refine s_retP (ep_call (P := IndP ns es) (eap_cons (ep_names (ep_var rfl hx1)) (eap_cons (ep_dc (f := fun s => LstV ((nbrs ns es s).map V.str)) hn.nd (by have := hn.hi; omega) (ep_names (ep_var rfl hx1)) (fun _ => rfl) (fun _ => rfl) fun s H2 hs e2 => ep_nb (ep_var rfl ((GrP K ns es).up e2 hx1)) (ev_var rfl) hs) eap_nil)) ⟨ns, es, hn, rfl, rfl⟩) fun v H2 e2 hv => k v H2 (e1.trans e2) hv
abbrev sc_independence_valueN : List Str := ["graph", "probabilities", "subset", "allowed", "terms", "group", "name"]
theorem sc_independence_value : FnScope sc_independence_valueN ["graph", "probabilities", "subset"] (defScope s_independence_value) := ⟨rfl, rfl, rfl, by decide +kernel, rfl, by decide +kernel, by decide +kernel⟩
def R_ind_value (K : PySem.W.Frag) (Ps : List Pr) (P : Pr) : Prop := ∃ (ns : List Str) (es : List (Str × Str)) (p : Str → Rat),
  (Ps = [GrP K ns es, PbP K ns p, Is .non] ∧ P = RatP K (q (adjB es) p ns)) ∨
  ∃ ss : List Str, (∀ s ∈ ss, s ∈ ns) ∧ ss.Nodup ∧ ss.length ≤ 8 ∧ Ps = [GrP K ns es, PbP K ns p, LstV (ss.map V.str)] ∧ P = RatP K (q (adjB es) p ss)
theorem fn_independence_value (T : Tx K mg) {fd : FuncData} (F : FnP K "independence_value" "independence_value" s_independence_value [] [("subset", .non)] (He.ga K "independence_value") fd) :
    FnOk P w K mg base CX0 8 (He.ga K "independence_value") fd ["graph", "probabilities", "subset"] (Fn (R_ind_value K)) := by
  refine F.ok sc_independence_value (fn_len (n := 3) fun Ps P h => by
    obtain ⟨_, _, _, ⟨rfl, _⟩ | ⟨_, _, _, _, rfl, _⟩⟩ := h <;> rfl) (fun cdv A outer s H vs Q E hr h => ?_)
  obtain ⟨Ps, P', ⟨ns, es, p, hR⟩, ha, k⟩ := h
  -- both ways in one: the third argument, the names that are allowed
  obtain ⟨x, y, z, al, b, hx, hy, rfl, hz0, hz, hal, hnd, hal8, hq⟩ : ∃ (x y z : V) (al : List Str) (b : Bool), (GrP K ns es).p x H ∧ (PbP K ns p).p y H ∧ vs = [x, y, z] ∧ decide (z = .non) = b ∧ (b = false → (LstV (al.map V.str)).p z H) ∧ (∀ s ∈ al, s ∈ ns) ∧ al.Nodup ∧ (al.length ≤ 8 ∧ (b = true → al = ns)) ∧ P' = RatP K (q (adjB es) p al) := by
    rcases hR with ⟨rfl, rfl⟩ | ⟨ss, h1, h2, h3, rfl, rfl⟩
    · obtain ⟨x, y, z, rfl, hx, hy, rfl⟩ := all3 ha
      exact ⟨x, y, _, ns, true, hx, hy, rfl, by decide, (fun z => nomatch z), fun _ h => h, hx.1.nd, ⟨hx.1.hi, fun _ => rfl⟩, rfl⟩
    · obtain ⟨x, y, z, rfl, hx, hy, hz⟩ := all3 ha
      refine ⟨x, y, z, ss, false, hx, hy, rfl, ?_, fun _ => hz, h1, h2, ⟨h3, (fun z => nomatch z)⟩, rfl⟩
      obtain ⟨a, rfl, _⟩ := hz
      exact decide_eq_false fun z => nomatch z
  subst hq
  refine ⟨_, PSs.nox (pss_cons (ps_expr (C8.pe_c (ok_need_graph T) hr (by decide) rfl (pa_cons (pv 0) pa_nil)))
      (pss_cons (ps_expr (C8.pe_c (ok_need_probabilities T) hr (by decide) rfl (pa_cons (pv 0) (pa_cons (pv 1) pa_nil))))
      (Evl.pss_cut (ps_if (pt_cmpR op_notN (pv 2) pe_non (nomark _))
        (pss_one (ps_expr (C8.pe_c (ok_need_names T) hr (by decide) rfl (pa_cons (pv 0) (pa_cons (pv 2) pa_nil))))) pss_nil)
      (pss_cons (ps_set (i := 3) sc_independence_value.nd rfl (Or.inr rfl) (pe_ifExp (pt_cmpR op_isN (pv 2) pe_non (nomark _)) (C8.pe_mt0 (ok_Graph_names T) hr (by decide) (pv 0)) (pe_callTy call_list_of (by rfl) T.b_list (by decide +kernel) (pa_cons (pv 2) pa_nil))))
      (pss_cons (ps_set (i := 4) sc_independence_value.nd rfl (Or.inl rfl) (pe_lst pa_nil))
      (pss_cons (ps_for PassesOwn.never rfl (pi_list (C8.pe_c (ok_independent_name_sets T) hr (by decide) rfl (pa_cons (pv 0) pa_nil))) (pg_name (i := 5) sc_independence_value.nd rfl (Or.inl rfl))
        (pss_one (ps_if (pt_val (pe_callB (cr_all rfl) (by rfl) T.b_all (by decide +kernel) (pa_cons (pe_lc (own := [("name", 6)]) (g := gName 6) (tt := tYes) (te := (tOp (rIn K false) _ _)) rfl sc_independence_value.nd (pi_tup (pv 5)) (blkOk_by (N := sc_independence_valueN) (sc := defScope s_independence_value) (by decide +kernel)) (fun _ _ _ _ _ => (pg_name (i := 6) sc_independence_value.nd rfl (Or.inl rfl))) (fun _ _ _ _ _ => pts_nil) (fun _ _ _ _ _ => (pe_cmpR op_in_seq (pv 6) (pv 3) (by rfl)))) pa_nil)))
        (pss_one (ps_expr (pe_bm PySem.F.plainAttrs_list PySem.F.slot_list_append PySem.F.type_list_append mt_append (pv 4) (pa_cons (C8.pe_c (ok_ratio_product T) hr (by decide) rfl (pa_cons (pe_op op_cat (pe_lst (pa_cons (C8.pe_mk (ok_Ratio1 T) hr (by decide) rfl (pa_cons (C8.pe_c (ok_event_sign T) hr (by decide) rfl (pa_cons (pv 5) pa_nil)) pa_nil)) pa_nil)) (pe_lc (own := [("name", 6)]) (g := gName 6) (tt := tYes) (te := (tDGet _ _)) rfl sc_independence_value.nd (pi_tup (pv 5)) (blkOk_by (N := sc_independence_valueN) (sc := defScope s_independence_value) (by decide +kernel)) (fun _ _ _ _ _ => (pg_name (i := 6) sc_independence_value.nd rfl (Or.inl rfl))) (fun _ _ _ _ _ => pts_nil) (fun _ _ _ _ _ => (pe_dget (hu_of hr) (pv 1) (pv 6) (fun _ _ => rfl))))) pa_nil)) pa_nil)))) pss_nil)))
      (pss_one (ps_ret (C8.pe_c (ok_ratio_sum T) hr (by decide) rfl (pa_cons (pv 4) pa_nil)))))))))), ?_⟩
  have hn := hx.1
  have ok := hy.1
  have h8 := hn.hi
  refine q_drop (ev_need_graph (ep_var rfl hx)) fun H1 e1 => ?_
  refine q_drop (ev_need_prob (ep_var rfl ((GrP K ns es).up e1 hx)) (ep_var rfl ((PbP K ns p).up e1 hy))) fun H2 e2 => ?_
  have e02 := e1.trans e2
  refine Evl.q_cut (M := fun σ' H' => σ' = [some x, some y, some z, none, none, none, none] ∧ Ex H H') ?_ ?_
  · refine s_when (b := !b) (et_test (ev_op2 (ev_var rfl) ev_c fun _ _ Q q => ⟨rfl, by rw [hz0]; exact q⟩)) (fun hb H3 e3 => ?_) (fun hb H3 e3 => ⟨rfl, e02.trans e3⟩)
    have hb' : b = false := by cases b with
      | true => cases hb
      | false => rfl
    exact s_drop (ev (ep_call (eap_cons (ep_var rfl ((GrP K ns es).up (e02.trans e3) hx)) (eap_cons (ep_var rfl ((LstV _).up (e02.trans e3) (hz hb'))) eap_nil)) ⟨ns, es, al, hal, hnd, hal8.1, rfl, rfl⟩)) fun H4 e4 => ⟨rfl, (e02.trans e3).trans e4⟩
  rintro σ' H3 ⟨rfl, e3⟩
  refine q_asgP (P := LstV (al.map V.str)) (ep_if (b := b) (et_test (ev_op2 (ev_var rfl) ev_c fun _ _ Q q => ⟨rfl, by rw [hz0]; exact q⟩)) (fun hb => ?_) (fun hb => el_lp (elp_listV (ep_var rfl ((LstV _).up e3 (hz hb)))))) fun av H4 e4 hav => ?_
  · rw [hal8.2 hb]
    exact ep_names (ep_var rfl ((GrP K ns es).up e3 hx))
  refine q_asgL (el_lst ea_nil (by decide)) fun tl H5 htl e5 h5 => ?_
  have e05 := (e3.trans e4).trans e5
  have htl0 : H tl = none := fresh_back (e3.trans e4) htl
  have hav5 := (LstV _).up e5 hav
  have hind : EvP (tCall (Fn (R_ind_sets K)) [] E0 (tCons (tVar 0) tNil)) [some x, some y, some z, some av, some (.ref tl), none, none] H5 (IndP ns es) := ep_call (eap_cons (ep_var rfl ((GrP K ns es).up e05 hx)) eap_nil) ⟨ns, es, rfl, rfl⟩
  refine k_seqFor (hind H5 (Ex.refl H5) _ fun iv H6 e6 hiv => ?_)
  obtain ⟨L, hL, la, gs, rfl, hla, hgs⟩ := hiv
  have hglen : gs.length = L.length := by rw [hgs.len, List.length_map]
  have e06 := e05.trans e6
  have hlt : la ≠ tl := fun zz => by
    have := e6 _ _ h5
    rw [← zz, hla] at this
    have h7 := Option.some.inj this
    injection h7 with h7
    have h9 : L.length = 0 := by rw [← hglen, h7]; rfl
    have h10 := hL.sum p (fun _ => true)
    have hL0 : L = [] := List.length_eq_zero_iff.mp h9
    rw [hL0] at h10
    have h11 := hL.sum (fun _ => -1) (fun _ => true)
    rw [hL0] at h11
    have h12 := (q_neg1 (adjB es) _ (ns.filter fun _ => true) (Nat.le_refl _)).1
    rw [← h11] at h12
    exact absurd h12 (by decide)
  have hterm : ∀ s : Str, s ∈ al ↔ decide (s ∈ al) = true := fun s => by simp
  refine q_forLn (tl := tC (.ref la)) ev_c (sq_of hla) (fun i σ' H' => ∃ u5 u6 vs, σ' = [some x, some y, some z, some av, some (.ref tl), u5, u6] ∧ Ex H H' ∧ (∀ a o, a ≠ tl → H6 a = some o → H' a = some o) ∧ H' tl = some (.lst vs) ∧ AllP ((((L.take i).filter (inA fun s => decide (s ∈ al))).map (wt p)).map (RatP K)) vs H')
    (fun H7 e7 => ⟨_, _, [], rfl, e06.trans e7, fun a o _ h => e7 _ _ h, e7 _ _ (e6 _ _ h5), trivial⟩) (fun i σ' H' _ h => by obtain ⟨_, _, _, _, _, hs, _⟩ := h; exact sq_of (hs _ _ hlt hla)) ?_ ?_
  · rintro i gv σ' H' hi ⟨u5, u6, vs, rfl, eH, hs, hv1, hv2⟩
    obtain ⟨g, hg, t, rfl, ht⟩ := allGet hgs hi
    have hgm := List.mem_of_getElem? hg
    obtain ⟨hg8, hgns⟩ := hL.mem g hgm
    have htne : t ≠ tl := fun zz => by
      have := e6 _ _ h5
      rw [← zz, ht] at this
      cases this
    have hgp : ∀ H7, Ex H' H7 → (tupS g).p (.ref t) H7 := fun H7 e7 => ⟨t, rfl, e7 _ _ (hs _ _ htne ht)⟩
    have hav' : ∀ H7, Ex H' H7 → (LstV (al.map V.str)).p av H7 := fun H7 e7 => by
      obtain ⟨aa, rfl, haa⟩ := (LstV _).up e6 hav5
      refine ⟨aa, rfl, e7 _ _ (hs _ _ (fun zz => ?_) haa)⟩
      obtain ⟨a2, h1, h2⟩ := hav
      cases h1
      rw [zz, htl] at h2
      cases h2
    obtain ⟨hgl, hg2⟩ := List.getElem?_eq_some_iff.mp hg
    have htk : L.take (i + 1) = L.take i ++ [g] := by rw [List.take_succ_eq_append_getElem hgl, hg2]
    have hall : EvLP (tLc (iTup K (tVar 5)) (gName 6) tYes (tOp (rIn K false) (tVar 6) (tVar 3)) [6]) [some x, some y, some z, some av, some (.ref tl), some (.ref t), u6] H' (g.map fun s => Is (.bl (decide (s ∈ al)))) := by
      have := elp_lcT (K := K) (σ := [some x, some y, some z, some av, some (.ref tl), some (.ref t), u6]) (H := H') (L := g) (f := fun s => Is (.bl (decide (s ∈ al)))) (tt := tYes) (te := tOp (rIn K false) (tVar 6) (tVar 3)) (j := 6) (vs := [6]) (fun _ => true) (fun s => Is (.str s)) (tl := tVar 5) (ep_var rfl (strs_tup (hgp H' (Ex.refl H')))) (by omega) (fun _ => rfl) (fun _ _ _ _ _ _ => et_yes)
        (fun s v H7 hm e7 hv _ => by
          have hv : v = .str s := hv
          subst hv
          exact ep (ev_inL (ev_var rfl) (ep_var rfl (hav' H7 e7))))
      rw [filter_yes] at this
      exact this
    refine s_when (b := inA (fun s => decide (s ∈ al)) g) (et_B (ev_all hall)) (fun ho H7 e7 => ?_) (fun ho H7 e7 => ?_)
    · have hmul : EvLP (tLc (iTup K (tVar 5)) (gName 6) tYes (tDGet (tVar 1) (tVar 6)) [6]) [some x, some y, some z, some av, some (.ref tl), some (.ref t), u6] H7 (g.map fun s => RatP K (p s)) := by
        have := elp_lcT (K := K) (σ := [some x, some y, some z, some av, some (.ref tl), some (.ref t), u6]) (H := H7) (L := g) (f := fun s => RatP K (p s)) (tt := tYes) (te := tDGet (tVar 1) (tVar 6)) (j := 6) (vs := [6]) (fun _ => true) (fun s => Is (.str s)) (tl := tVar 5) (ep_var rfl (strs_tup (hgp H7 e7))) (by omega) (fun _ => rfl) (fun _ _ _ _ _ _ => et_yes)
          (fun s v H8 hm e8 hv _ => by
            have hv : v = .str s := hv
            subst hv
            exact ep_pget (ep_var rfl ((PbP K ns p).up ((eH.trans e7).trans e8) hy)) (ev_var rfl) (hgns s hm))
        rw [filter_yes] at this
        exact this
      have hcat := ep_catL (elp_lst (eap_cons (ep_Ratio1 (K := K) (E := E0) (ev_event_sign (E := E0) (ta := tVar 5) (ep_var rfl (hgp H7 e7)) (by omega))) eap_nil) (by simp)) hmul (by simp) (by rw [List.length_map]; omega)
      have hpsm := prod_sm ok g hgns hg8
      have e0 : [RatP K (evs g : Rat)] ++ g.map (fun s => RatP K (p s)) = ((evs g : Rat) :: g.map p).map (RatP K) := by rw [List.map_cons, List.map_map]; rfl
      rw [e0] at hcat
      refine s_appP (P := RatP K (wt p g)) (e7 _ _ hv1) (ev_var rfl) (ep_ratio_product hcat.lst hpsm.1 hpsm.2) ?_ fun rv H8 e8 hrv => ?_
      · rw [hv2.len, List.length_map, List.length_map]
        have := List.length_filter_le (inA fun s => decide (s ∈ al)) (L.take i)
        rw [List.length_take] at this
        have := hL.len
        omega
      · have e78 := e7.trans e8
        have hv8 := e8 _ _ (e7 _ _ hv1)
        refine ⟨_, _, _, rfl, Ex.mut (eH.trans e78) htl0, fun a o na h => by rw [upd_ne na]; exact e78 _ _ (hs a o na h), upd_same, ?_⟩
        have e9 : [g].filter (inA fun s => decide (s ∈ al)) = [g] := by simp [ho]
        rw [htk, List.filter_append, List.map_append, List.map_append, e9]
        have st : Exs H8 (upd H8 tl (.lst (vs ++ [rv]))) := Exs.upd hv8
        exact ((stabs_map (fun _ => inferInstance) _).ups st (hv2.up e78)).append (AllP.one ((inferInstance : Stab (RatP K (wt p g))).ups st hrv))
    · refine ⟨_, _, vs, rfl, eH.trans e7, fun a o na h => e7 _ _ (hs a o na h), e7 _ _ hv1, ?_⟩
      have e9 : [g].filter (inA fun s => decide (s ∈ al)) = [] := by simp [ho]
      rw [htk, List.filter_append, e9, List.append_nil]
      exact hv2.up e7
  · rintro σ' H' ⟨u5, u6, vs, rfl, eH, hs, hv1, hv2⟩
    rw [hglen, List.take_length] at hv2
    have hssm := sum_sm ok h8 (G := L.filter (inA fun s => decide (s ∈ al))) (fun g hg => hL.sub g (List.mem_filter.mp hg).1) (Nat.le_trans (List.length_filter_le _ _) hL.len)
    refine s_retP (ep_ratio_sum (ep_var rfl ⟨tl, vs, rfl, hv1, hv2⟩) hssm.1 hssm.2) fun v H7 e7 hv => k v H7 (eH.trans e7) ?_
    rw [hL.sum p] at hv
    have hperm : (ns.filter fun s => decide (s ∈ al)).Perm al := (List.perm_ext_iff_of_nodup (hn.nd.filter _) hnd).mpr fun s => by
      rw [List.mem_filter, decide_eq_true_eq]
      exact ⟨fun h => h.2, fun h => ⟨hal s h, h⟩⟩
    rw [q_perm (adj_sym es) hperm] at hv
    exact hv
theorem ok_independence_value (T : Tx K mg) : C8.Cal P w K mg base 8 "independence_value" (Fn (R_ind_value K)) [.non] := by
  obtain ⟨fd, F⟩ := T.f_independence_value
  obtain ⟨ds, h1, h2⟩ := FunD.binds0 (ps := ["graph", "probabilities", "subset"]) F 2 (by simp) rfl fun D doc pm an cdv ct us ks l1 l2 => match us, ks, l1, l2 with
    | [_, _], [_], _, _ => ⟨_, _, _, _, _, _, rfl, rfl, rfl⟩
  exact ⟨_, fd, _, ds, fn_independence_value T F, T.g_independence_value, F.kp, h2, h1⟩
theorem okk_independence_value (T : Tx K mg) : CalK P w K mg base 8 "independence_value" 2 ["subset"] (Fn (R_ind_value K)) (fun vs zs => vs ++ zs) := by
  obtain ⟨fd, F⟩ := T.f_independence_value
  exact ⟨_, fd, ["graph", "probabilities", "subset"], _, fn_independence_value T F, T.g_independence_value, F.kp, kb0 F 2 ["subset"] fun kV doc pm an cdv ct us ws l1 l2 => match us, ws, l1, l2 with
    | [_, _], [_], _, _ => rfl⟩
section
variable {σ : L2.St} {H H' : Hp} {ta tb tc : TE} {E : XK} {ns ss : List Str} {es : List (Str × Str)} {p : Str → Rat}
theorem ep_ind (h1 : EvP ta σ H (GrP K ns es)) (h2 : EvP tb σ H (PbP K ns p)) : EvP (tCall (Fn (R_ind_value K)) [.non] E (tCons ta (tCons tb tNil))) σ H (RatP K (q (adjB es) p ns)) :=
  ep_callD (Ds := [Is .non]) (eap_cons h1 (eap_cons h2 eap_nil)) (fun H => ⟨rfl, trivial⟩) ⟨ns, es, p, .inl ⟨rfl, rfl⟩⟩
theorem ep_indS {n m : Nat} (h1 : EvP ta σ H (GrP K ns es)) (h2 : EvP tb σ H (PbP K ns p)) (h3 : EvP tc σ H (LstV (ss.map V.str))) (hm : ∀ s ∈ ss, s ∈ ns) (nd : ss.Nodup) (h8 : ss.length ≤ 8) (hn : n = 2) (hk : m = 1) : EvP (tCallN n m (Fn (R_ind_value K)) (fun vs zs => vs ++ zs) E (tCons ta (tCons tb tNil)) (tCons tc tNil)) σ H (RatP K (q (adjB es) p ss)) :=
  ep_callK (eap_cons h1 (eap_cons h2 eap_nil)) (eap_cons h3 eap_nil) hn.symm hk.symm ⟨ns, es, p, .inr ⟨ss, hm, nd, h8, rfl, rfl⟩⟩
end
end
end Rs
/-! Rules of our own: {k: v} with a tuple as key, list(d.items()) of a dict with tuples as keys, t[::-1] of a pair. -/
namespace Rs
open PySem PySem.Spec PyProof.Rows L2 Evl
/-! ### {(..): v} -/
def tDispT (tk tv : TE) : TE := fun σ H Q => ∀ p, H p = none → tk σ (upd H p (.dT [])) fun x H1 => tv σ H1 fun y H2 => ∃ (b : Addr) (k : List Key), x = .ref b ∧ H2 p = some (.dT []) ∧ H2 b = some (.tup (k.map kV)) ∧ Q (.ref p) (upd H2 p (.dT [(k, y)]))
theorem pe_dispT {X : Cx} {pos : PySem.Pos} {k v : Expr} {tk tv : TE} (room : X.A.units + 1 < cLine) (hk : PE X k tk) (hv : PE X v tv) : PE X (.Dict [some k] [v] pos) (tDispT tk tv) := ⟨fun pins s σ H Q I q => by
  have free := I.hok.fresh (Nat.le_refl s.heap.objs.size)
  have J := I.laid (a := s.heap.objs.size) (o := .dT []) (h' := s.heap.push { cls := .type "dict", data := .dict #[] }) (t' := s.toks) (fun _ _ z => Heap.get?_push_of_some _ z) (Nat.le_refl _) (dt_empty s.heap I.big)
  rw [arm_eval_Dict, zip_pairTrees [some k] [v] X.env pos rfl rfl, dictDisplay_pairs (pairTrees [some k] [v] X.env pos) (fun z => by cases z) (show 1 < 17 by decide)]
  refine wpAny_bind (wpAny_standAt (wpAny_bind (wpAny_subDictH (knd := tupleKind (mixKind X.prog X.w)) (show X.A.units < cLine by omega) (show 1 ≤ 15 by decide) (pairTrees_cons_walk (thn (hk.run pins _ σ _ _ J (q _ free)) fun ku s1 ⟨x, H1, J1, rx, q1⟩ => thn (hv.run pins s1 σ H1 _ J1 q1) fun vu s2 ⟨y, H2, J2, ry, b, ks, ex, hd, hb, q2⟩ => pairTrees_nil_walk ?_)))))
  subst ex
  cases rx
  obtain ⟨small, low, pairs, rel, dd⟩ := dt_of J2.hok hd
  cases rel
  refine ⟨[(ks, b, vu)], ⟨rfl, rfl, key_of J2.hok hb, trivial⟩, dd, fun h2 tk2 ⟨o, es, ep, d1, d2, d3, d4, _, d6⟩ same => wpAny_pure ⟨.ref s.heap.objs.size, upd H2 s.heap.objs.size (.dT [(ks, y)]), ?_, rfl, q2⟩⟩
  refine d_write J2 (by rw [hd]; exact True.intro) same ⟨o, d1⟩ ⟨by rw [sizeLine_eq]; show 1 ≤ 16777216; omega, low, [(ks, b, vu)], KT.keeps (Paired.cons ⟨rfl, hb, ry⟩ .nil : KT H2 [(ks, y)] [(ks, b, vu)]) fun c ys ec => ?_, o, es, ep, d1, d2, d3, d4, d6⟩
  rw [upd_ne (ne_of ec hd (fun z => nomatch z))]
  exact ec⟩
/-! ### list(d.items()), tuples as keys -/
def rItemsLT : V → Hp → VK → Prop := fun x H Q => ∃ (d : Addr) (kvs : List (List Key × V)), x = .ref d ∧ H d = some (.dT kvs) ∧
  ∀ (H' : Hp) (p : Addr) (ts : List Addr), Ex H H' → H p = none → H' p = some (.lst (ts.map V.ref)) → Paired (fun (t : Addr) (q : List Key × V) => ∃ b : Addr, H' t = some (.tup [.ref b, q.2]) ∧ H' b = some (.tup (q.1.map kV))) ts kvs → Q (.ref p) H'
def tListItemsT (te : TE) : TE := fun σ H Q => te σ H fun x H1 => rItemsLT x H1 Q
theorem paired_of {α β : Type} {F : α → β → Prop} : ∀ {xs : List α} {ys : List β}, xs.length = ys.length → (∀ (j : Nat) (x : α) (y : β), xs[j]? = some x → ys[j]? = some y → F x y) → Paired F xs ys
  | [], [], _, _ => .nil
  | x :: xs, y :: ys, h, k => .cons (k 0 x y rfl rfl) (paired_of (by simpa using h) fun j x' y' h1 h2 => k (j + 1) x' y' (by simpa using h1) (by simpa using h2))
  | [], _ :: _, h, _ => by cases h
  | _ :: _, [], h, _ => by cases h
/-- the new list and its tuples are tracked -/
theorem items_in {X : Cx} {pins : List (Addr × Obj)} {σ : L2.St} {H : Hp} {s : Shared} {kvs : List (List Key × V)} {xs : List (List Key × Addr × Value)} {es : Array DictEntry} {h2 : Heap} {tk c : Nat} {acc : Array Value} {as : List Addr} (I : Inv X pins σ H s)
    (small : kvs.length ≤ sizeLine) (rel : KT H kvs xs) (hes : es.toList = xs.map (entryOfKey (tupleKind (mixKind X.prog X.w)))) (stay : ∀ b o, s.heap.get? b = some o → h2.get? b = some o)
    (atL : h2.get? s.heap.objs.size = some { cls := .type "list", dict := none, data := .seq acc c, slots := #[] }) (len : as.length = es.size) (made : PySem.W.DilG es s.heap.objs.size h2 as) (gathered : acc.toList = as.map Value.ref) :
    ∃ H2, Inv X pins σ H2 { s with heap := h2, toks := tk } ∧ Ex H H2 ∧ H s.heap.objs.size = none ∧ H2 s.heap.objs.size = some (.lst (as.map V.ref)) ∧ Paired (fun (t : Addr) (z : List Key × V) => ∃ b : Addr, H2 t = some (.tup [.ref b, z.2]) ∧ H2 b = some (.tup (z.1.map kV))) as kvs := by
  have n1 : kvs.length = xs.length := Paired.length rel
  have n2 : es.size = xs.length := size_of_entries hes
  have different : as.Nodup := made.rise.imp fun lt => Nat.ne_of_lt lt
  have none0 : H s.heap.objs.size = none := I.hok.fresh (Nat.le_refl _)
  have J0 : Inv X pins σ H { s with heap := h2, toks := tk } := I.kept (t' := tk) stay
  have J1 : Inv X pins σ (upd H s.heap.objs.size (.lst (as.map V.ref))) { s with heap := h2, toks := tk } :=
    J0.take (h' := h2) (t' := tk) (fun b ob _ z => z) (I.fpOk (Nat.le_refl _) none0) ⟨by rw [List.length_map]; omega, acc.toList, c, by rw [gathered]; exact LiI.vals_refs as, by rw [Array.toArray_toList]; exact atL⟩
  have one : ∀ (j : Nat) (b : Addr), as[j]? = some b → ∃ (z : List Key × V) (kq : Addr) (u : Value), kvs[j]? = some z ∧ H kq = some (.tup (z.1.map kV)) ∧ RelV z.2 u ∧ h2.get? b = some { cls := .type "tuple", data := .seq #[Value.ref kq, u] } := fun j b hb => by
    obtain ⟨hj, hg⟩ := made.pairs j b hb
    have hx : xs[j]? = some (xs[j]'(by omega)) := List.getElem?_eq_getElem _
    have he : es[j] = entryOfKey (tupleKind (mixKind X.prog X.w)) (xs[j]'(by omega)) := by
      have z := entry_at hes j
      rw [hx, Array.getElem?_eq_getElem hj] at z
      exact Option.some.inj z
    obtain ⟨z, hz, r1, r2, r3⟩ := L2.DX.pget rel hx
    exact ⟨z, _, _, hz, r2, r3, by rw [hg, he]; rfl⟩
  obtain ⟨H2, J2, grow, told⟩ := L2.DX.takeT (P := fun b vs => ∃ (j : Nat) (z : List Key × V) (kq : Addr), as[j]? = some b ∧ kvs[j]? = some z ∧ vs = [.ref kq, z.2] ∧ H kq = some (.tup (z.1.map kV))) I as _ J1 different fun b hb => by
    obtain ⟨j, hj⟩ := List.mem_iff_getElem?.mp hb
    obtain ⟨z, kq, u, hz, hkq, ru, hg⟩ := one j b hj
    have above : s.heap.objs.size < b := made.above b hb
    exact ⟨Nat.le_of_lt above, by rw [upd_ne (Nat.ne_of_gt above)]; exact I.hok.fresh (Nat.le_of_lt above), [.ref kq, z.2], ⟨j, z, kq, hj, hz, rfl, hkq⟩, fun H3 => ⟨by rw [sizeLine_eq]; show 2 ≤ 16777216; omega, [Value.ref kq, u], .cons rfl (.cons ru .nil), ⟨_, hg, rfl, 0, rfl⟩⟩⟩
  have up2 : Ex H H2 := fun b o z => grow b o (by rw [upd_ne (ne_of_none z none0)]; exact z)
  refine ⟨H2, J2, up2, none0, grow _ _ upd_same, paired_of (by omega) fun j t z ht hz => ?_⟩
  obtain ⟨vs, ⟨i, z', kq, i1, i2, ev, hkq⟩, at2⟩ := told t (List.mem_of_getElem? ht)
  have same : i = j := (List.getElem?_inj (List.getElem?_eq_some_iff.mp i1).1 different).mp (i1.trans ht.symm)
  subst same
  have zz : z' = z := Option.some.inj (i2.symm.trans hz)
  subst zz
  exact ⟨kq, by rw [← ev]; exact at2, up2 _ _ hkq⟩
theorem pe_listItemsT {X : Cx} {e : Expr} {te : TE} {p apos cpos pos : PySem.Pos} (calm : X.calm = true) (he : PE X e te) (hg : Gl X "list") (free : X.mg "list" = none) (boot : bootBuiltins "list" = some (.type "list")) (plain : attributeBase e "items" X.env (eval e X.env) = eval e X.env := by rfl) (line : (apos.endLine == cpos.line) = true := by rfl)
    (star : starEach [.Call (.Attribute e "items" apos) [] [] cpos] X.env = (false, eval (.Call (.Attribute e "items" apos) [] [] cpos) X.env) :: starEach [] X.env := by rfl) : PE X (.Call (.Name "list" p) [.Call (.Attribute e "items" apos) [] [] cpos] [] pos) (tListItemsT te) := ⟨fun pins s σ H Q I q0 => by
  refine wpAny_Call_Name_kw (ld_blt I hg free boot (PyProof.Rows.callWith_type1 ?_ star rfl))
  rw [star]
  refine (Calls.spliced_cons ?_ : wpAny _ _ (spliced ((false, _) :: backTo pos (starEach [] X.env))) _ _ s)
  refine wpAny_Call_method (T := "dict") (id := "dict.items") plain rfl line F.plainAttrs_dict F.slot_dict_items F.type_dict_items (thn (he.run pins s σ H _ I q0) fun u s1 ⟨x, H1, J, rx, d, kvs, ex, hd, q1⟩ => ?_)
  subst ex
  cases rx
  obtain ⟨small, low, xs, rel, o, es, ep, ho, exact', hdat, hes, _⟩ := dt_of J.hok hd
  have raw : DT.Raw s1.heap d es ep := ⟨o, ho, exact', hdat⟩
  have raw2 : s1.heap.DictRaw d es ep := raw
  have n : es.size = kvs.length := (size_of_entries hes).trans (Paired.length rel).symm
  refine ⟨raw.typeIs, fun b z => by cases z; exact ⟨o, ho, exact'.2.1⟩, (method_meetsIn F.slot_dict_items F.entry_dict_items rfl (PySem.evalArgs_none ⟨rfl, raw.typeIs, F.args_dict_items_1 _, _, DT.meetsItems (es := es) (ep := ep) low, raw, Calls.spliced_nil ?_⟩) : wpAny _ _ (callWith cpos (.builtin "dict.items") [.ref d] [] []) _ X.xe s1)⟩
  have J2 : Inv X pins σ H1 { s1 with heap := s1.heap.push { cls := .type "dict_items", data := .fields #[.ref d] } } := J.kept (t' := s1.toks) fun b ob z => Heap.get?_push_of_some _ z
  refine PySem.W.dil_call (es := es) (ep := ep) (J.ok.hd calm) ⟨_, Heap.get?_push_size _ rfl, rfl, rfl⟩ (raw2.at fun o z => Heap.get?_push_of_some _ z) (by rw [n]; exact small) fun h2 tk acc c as stay atL len made gathered => ?_
  obtain ⟨H2, J3, up2, none0, list2, told⟩ := items_in (tk := tk) J2 small rel hes stay atL len made gathered
  exact ⟨.ref _, H2, J3, rfl, q1 H2 _ as up2 none0 list2 told⟩⟩
/-! ### t[::-1], a pair -/
section
variable {prog : Program} {w : World} {A : Around} {E : Value → Shared → Prop} {s : Shared} {t sl : Addr} {a b step : Value}
theorem rev_at {Q : Int × Int × Nat → Shared → Prop} (cut : s.heap.IsSliceOf sl .none .none step) (back : IsPart step (some (-1))) (h : Q (1, -1, 2) s) : wpAny (model prog w) A (Builtin.Slice.sliceApplied (.ref sl) (pure (2 : Int))) Q E s := by
  obtain ⟨ob, g1, _, g3⟩ := cut
  unfold Builtin.Slice.sliceApplied
  refine wpAny_bind ?_
  unfold Builtin.Slice.sliceFields
  refine wpAny_bind (wpAny_field g1 g3 (x := .none) rfl (wpAny_bind (wpAny_field g1 g3 (x := .none) rfl (wpAny_bind (wpAny_field g1 g3 (x := step) rfl (wpAny_pure (wpAny_bind (HT.slicePart_ back ?_))))))))
  exact wpAny_bind (slicePart_none (wpAny_bind (slicePart_none (wpAny_bind (wpAny_pure (wpAny_pure h))))))
theorem rev_tup {Q : Value → Shared → Prop} (pair : IsTup s.heap t #[a, b]) (cut : s.heap.IsSliceOf sl .none .none step) (back : IsPart step (some (-1)))
    (h : Q (.ref s.heap.objs.size) { s with heap := s.heap.push { cls := .type "tuple", data := .seq #[b, a] } }) : wpAny (model prog w) A (getItem (.ref t) (.ref sl)) Q E s := by
  have ty : s.TypeIs (.ref sl) "slice" := let ⟨ob, g1, g2, _⟩ := cut; ⟨ob, g1, g2⟩
  have turned : ((List.range 2).filterMap fun (m : Nat) => (#[a, b] : Array Value)[((1 : Int) + (m : Int) * (-1)).toNat]?).toArray = #[b, a] := rfl
  unfold getItem
  try with_reducible apply wpAny_holding
  first | apply wpAny_bind (wpAny_pure _) | skip
  refine wpAny_bind (wpAny_sequenceKey pair.typeIs (by decide) (wpAny_bind (wpAny_callSpecial?_slot (name := Str.ofString "__getitem__") pair.typeIs PyProof.Rows.slot_tuple_getitem (wpAny_call_entry PyProof.Rows.slot_tuple_getitem pair.typeIs entry_tuple_getitem ?_ (args_tuple_getitem _ _)))))
  refine (wpAny_bind (tupleItemsOf_ pair ?_) : wpAny _ _ (Builtin.Tuple.tupleItemsOf (.ref t) >>= _) _ _ s)
  apply wpAny_bind
  refine wpAny_typeOf ty ?_
  rw [if_pos (by decide)]
  refine wpAny_bind (rev_at cut back ?_)
  show wpAny _ _ (if (((1 : Int) == 0 && (-1 : Int) == 1 && (2 : Nat) == 2) = true) then _ else _) _ _ s
  rw [if_neg (by decide), turned]
  first
    | exact wpAny_bind (m := Builtin.Tuple.tupleExact _) (wpAny_newObj_type (wpAny_pure ⟨_, rfl, wpAny_pure h⟩))
    | exact wpAny_bind (m := Builtin.Tuple.tupleExact _) (wpAny_newObj_type (wpAny_bind (wpAny_pure (wpAny_pure ⟨_, rfl, wpAny_pure h⟩))))
    | exact wpAny_bind (wpAny_bind (m := Builtin.Tuple.tupleExact _) (wpAny_newObj_type (wpAny_pure (wpAny_pure ⟨_, rfl, wpAny_pure h⟩))))
    | exact wpAny_bind (wpAny_bind (m := Builtin.Tuple.tupleExact _) (wpAny_newObj_type (wpAny_pure ⟨_, rfl, wpAny_pure h⟩)))
end
def tRevT (te : TE) : TE := fun σ H Q => te σ H fun x H1 => ∃ (a : Addr) (y z : V), x = .ref a ∧ H1 a = some (.tup [y, z]) ∧ ∀ p, H1 p = none → Q (.ref p) (upd H1 p (.tup [z, y]))
theorem pe_revT {X : Cx} {e : Expr} {te : TE} {k : Nat} {p1 p2 p3 pos : PySem.Pos} (he : PE X e te) : PE X (.Subscript e (.Slice none none (some (.UnaryOp .USub (.Constant (.int 1) k p1) p2)) p3) pos) (tRevT te) := ⟨fun pins s σ H Q I q0 => by
  have one : PO X (some (.UnaryOp .USub (.Constant (.int 1) k p1) p2)) (tPart (tUn (rU fun i => .int (-i)) (tC (.int 1)))) := po_some (pe_un un_neg pe_int)
  refine Subscript_ (thn (he.run pins s σ H _ I q0) fun u s1 ⟨x, H1, J1, rx, a, y, z, ex, at1, q1⟩ => wpAny_Slice (thn (po_none.run pins s1 σ H1 (fun o G => o = none ∧ G = H1) J1 ⟨rfl, rfl⟩) fun lo s2 ⟨o2, H2, J2, plo, o2n, g2⟩ => thn (po_none.run pins s2 σ H2 (fun o G => o = none ∧ G = H2) J2 ⟨rfl, rfl⟩) fun hi s3 ⟨o3, H3, J3, phi, o3n, g3⟩ => thn (one.run pins s3 σ H3 (fun o G => o = some (-1) ∧ G = H3) J3 ⟨1, rfl, -1, rfl, rfl, rfl⟩) fun st s4 ⟨o4, H4, J4, pst, o4n, g4⟩ => ?_))
  subst ex o2n g2 o3n g3 o4n g4
  cases rx
  cases plo
  cases phi
  have J5 : Inv X pins σ H4 { s4 with heap := s4.heap.push { cls := .type "slice", data := .fields #[.none, .none, st] } } := J4.kept (t' := s4.toks) fun b ob z => Heap.get?_push_of_some _ z
  obtain ⟨its, rel, tup, _⟩ := J5.tuple (st_of at1)
  obtain ⟨i1, i2, rfl, r1, r2⟩ := vals2 rel
  refine (tail_any (ops := [.ref a, .ref s4.heap.objs.size]) tup.typeIs (PyProof.Rows.slot_tuple_getitem.lookup) (rev_tup tup (Heap.IsSliceOf.new _ .none .none st) pst ?_) (by with_unfolding_all rfl) : wpAny (model X.prog X.w) X.A (subscriptTail e (.Slice none none (some (.UnaryOp .USub (.Constant (.int 1) k p1) p2)) p3) (.ref a) (.ref s4.heap.objs.size)) (EP X pins σ Q) X.xe { s4 with heap := s4.heap.push { cls := .type "slice", data := .fields #[.none, .none, st] } })
  exact ⟨.ref _, _, J5.laid (t' := s4.toks) (o := .tup [z, y]) (fun b ob z => Heap.get?_push_of_some _ z) (Nat.le_refl _) ⟨by rw [sizeLine_eq]; show 2 ≤ 16777216; omega, [i2, i1], .cons r2 (.cons r1 .nil), ⟨_, Heap.get?_push_size _ rfl, rfl, 0, rfl⟩⟩, rfl, q1 _ (J5.hok.fresh (Nat.le_refl _))⟩⟩
end Rs
/-! Certificates: the mathematics. -/
namespace Rs
open PySem PySem.Spec PyProof.Rows L2 Evl
def lastOf (ord g : List Str) : Str := (ord.filter fun s => decide (s ∈ g)).getLastD Str.empty
def lessOf (ord g : List Str) : List Str := g.filter fun s => !decide (s = lastOf ord g)
def farOf (es : List (Str × Str)) (ord g : List Str) : List Str := (lessOf ord g).filter fun s => !adjB es s (lastOf ord g)
theorem last_mem {ord g : List Str} (h0 : g ≠ []) (h : ∀ s ∈ g, s ∈ ord) : (ord.filter fun s => decide (s ∈ g)) ≠ [] ∧ lastOf ord g ∈ g := by
  have hne : (ord.filter fun s => decide (s ∈ g)) ≠ [] := by
    cases g with
    | nil => exact absurd rfl h0
    | cons a g => exact List.ne_nil_of_mem (List.mem_filter.mpr ⟨h a List.mem_cons_self, by simp⟩)
  refine ⟨hne, ?_⟩
  unfold lastOf
  rw [List.getLastD_eq_getLast?, List.getLast?_eq_some_getLast hne]
  exact of_decide_eq_true (List.mem_filter.mp (List.getLast_mem hne)).2
theorem less_perm {g : List Str} (nd : g.Nodup) {a : Str} (ha : a ∈ g) : g.Perm (a :: g.filter fun s => !decide (s = a)) := by
  have h := List.perm_cons_erase ha
  rw [nd.erase_eq_filter] at h
  have e : (fun s => !decide (s = a)) = fun s => s != a := by
    funext s
    by_cases z : s = a <;> simp [z]
  rw [e]
  exact h
theorem q_step {es : List (Str × Str)} {ord g : List Str} {p : Str → Rat} (nd : g.Nodup) (ha : lastOf ord g ∈ g) :
    q (adjB es) p g = q (adjB es) p (lessOf ord g) - p (lastOf ord g) * q (adjB es) p (farOf es ord g) := by
  rw [q_perm (adj_sym es) (less_perm nd ha), q_cons]
  rfl
theorem less_len {ord g : List Str} (nd : g.Nodup) (ha : lastOf ord g ∈ g) : (lessOf ord g).length + 1 = g.length := by
  have := (less_perm nd ha).length_eq
  rw [List.length_cons] at this
  exact this.symm
theorem less_sub (ord g : List Str) : List.Sublist (lessOf ord g) g := List.filter_sublist
theorem far_sub (es : List (Str × Str)) (ord g : List Str) : List.Sublist (farOf es ord g) (lessOf ord g) := List.filter_sublist
/-- what the rows know -/
structure KnOk (ns : List Str) (es : List (Str × Str)) (ord : List Str) (kn : List (List Str)) : Prop where
  nd : kn.Nodup
  nil : [] ∈ kn
  sub : ∀ g ∈ kn, List.Sublist g ns
  clo : ∀ i g, kn[i]? = some g → g ≠ [] → lessOf ord g ∈ kn.take i ∧ farOf es ord g ∈ kn.take i
theorem KnOk.one {ns : List Str} {es : List (Str × Str)} {ord : List Str} : KnOk ns es ord [[]] := by
  refine ⟨by simp, by simp, fun g hg => ?_, fun i g hi hne => ?_⟩
  · rw [List.mem_singleton.mp hg]
    exact List.nil_sublist _
  · cases i with
    | zero => exact absurd (by simpa using hi.symm) hne
    | succ i => simp at hi
theorem KnOk.snoc {ns : List Str} {es : List (Str × Str)} {ord : List Str} {kn : List (List Str)} {g : List Str} (h : KnOk ns es ord kn) (hg : g ∉ kn) (hs : List.Sublist g ns) (h1 : lessOf ord g ∈ kn) (h2 : farOf es ord g ∈ kn) : KnOk ns es ord (kn ++ [g]) := by
  refine ⟨?_, List.mem_append_left _ h.nil, fun k hk => ?_, fun i k hi hne => ?_⟩
  · refine List.nodup_append.mpr ⟨h.nd, by simp, fun a ha b hb => ?_⟩
    rw [List.mem_singleton.mp hb]
    rintro rfl
    exact hg ha
  · rcases List.mem_append.mp hk with hk | hk
    · exact h.sub k hk
    · rw [List.mem_singleton.mp hk]
      exact hs
  · rcases Nat.lt_or_ge i kn.length with hl | hl
    · rw [List.getElem?_append_left hl] at hi
      have := h.clo i k hi hne
      rw [List.take_append_of_le_length (Nat.le_of_lt hl)]
      exact this
    · have hi2 : i = kn.length := by
        have := (List.getElem?_eq_some_iff.mp hi).1
        rw [List.length_append] at this
        simp at this
        omega
      subst hi2
      have hk : g = k := by simpa using hi
      subst hk
      rw [List.take_left' rfl]
      exact ⟨h1, h2⟩
/-- the names of a prefix of the order, in the graph's order -/
def preOf (ns ord : List Str) (k : Nat) : List Str := ns.filter fun s => decide (s ∈ ord.take k)
theorem pre_sub (ns ord : List Str) (k : Nat) : List.Sublist (preOf ns ord k) ns := List.filter_sublist
theorem pre_perm {ns ord : List Str} (nd : ns.Nodup) (hp : ord.Perm ns) (k : Nat) : (preOf ns ord k).Perm (ord.take k) := by
  have nd2 : ord.Nodup := hp.nodup_iff.mpr nd
  refine (List.perm_ext_iff_of_nodup (nd.filter _) (List.Sublist.nodup (List.take_sublist _ _) nd2)).mpr fun s => ?_
  rw [List.mem_filter, decide_eq_true_eq]
  exact ⟨fun h => h.2, fun h => ⟨hp.mem_iff.mp (List.mem_of_mem_take h), h⟩⟩
theorem pos_of_pre {ns ord : List Str} {es : List (Str × Str)} {p : Str → Rat} (nd : ns.Nodup) (hp : ord.Perm ns) (h0 : ∀ s ∈ ns, 0 ≤ p s) (h : ∀ k, k < ord.length → 0 < q (adjB es) p (preOf ns ord (k + 1))) : Pos (adjB es) p ns := by
  refine Pos.perm (adj_sym es) (pos_prefixes (adj_sym es) ord (fun b hb => h0 b (hp.mem_iff.mp hb)) fun k hk => ?_) hp
  rw [← q_perm (adj_sym es) (pre_perm nd hp (k + 1))]
  exact h k hk
theorem pre_of_pos {ns ord : List Str} {es : List (Str × Str)} {p : Str → Rat} (h : Pos (adjB es) p ns) (k : Nat) : 0 < q (adjB es) p (preOf ns ord k) := h _ (pre_sub ns ord k)
/-! tables with groups as keys -/
def zipT (kn : List (List Str)) (us : List V) : List (List Key × V) := (kn.map fun g => g.map Sum.inr).zip us
theorem keyT_inj : ∀ {a b : List Str}, (a.map Sum.inr : List Key) = b.map Sum.inr → a = b
  | [], [], _ => rfl
  | [], _ :: _, e => by simp at e
  | _ :: _, [], e => by simp at e
  | x :: xs, y :: ys, e => by
    rw [List.map_cons, List.map_cons] at e
    injection e with e1 e2
    injection e1 with e1
    rw [e1, keyT_inj e2]
theorem keyT_kV (g : List Str) : (g.map Sum.inr : List Key).map kV = g.map V.str := by rw [List.map_map]; rfl
theorem zipT_cons (g : List Str) (kn : List (List Str)) (u : V) (us : List V) : zipT (g :: kn) (u :: us) = (g.map Sum.inr, u) :: zipT kn us := rfl
theorem zipT_len {kn : List (List Str)} {us : List V} (h : us.length = kn.length) : (zipT kn us).length = kn.length := by
  unfold zipT
  rw [List.length_zip, List.length_map, h, Nat.min_self]
theorem valV_zipT : ∀ {kn : List (List Str)} {us : List V} {i : Nat} {g : List Str} {u : V}, kn.Nodup → kn[i]? = some g → us[i]? = some u → valV (zipT kn us) (g.map Sum.inr) = some u
  | [], _, _, _, _, _, h, _ => by simp at h
  | _ :: _, [], _, _, _, _, _, h => by simp at h
  | t :: L, w :: us, 0, s, u, nd, h1, h2 => by
    have e1 : t = s := by simpa using h1
    have e2 : w = u := by simpa using h2
    rw [zipT_cons, valV_pos (by rw [e1])]
    rw [e2]
  | t :: L, w :: us, i + 1, s, u, nd, h1, h2 => by
    have h1' : L[i]? = some s := by simpa using h1
    have h2' : us[i]? = some u := by simpa using h2
    have nd2 := List.nodup_cons.mp nd
    have hne : t ≠ s := fun e => nd2.1 (e ▸ List.mem_of_getElem? h1')
    rw [zipT_cons, valV_neg (fun e => hne (keyT_inj e))]
    exact valV_zipT nd2.2 h1' h2'
theorem valV_zipT_none : ∀ {kn : List (List Str)} {us : List V} {g : List Str}, g ∉ kn → valV (zipT kn us) (g.map Sum.inr) = none
  | [], us, _, _ => by
    have : zipT [] us = [] := rfl
    rw [this]
    rfl
  | t :: L, [], s, _ => by
    have : zipT (t :: L) [] = [] := by unfold zipT; rw [List.zip_nil_right]
    rw [this]
    rfl
  | t :: L, u :: us, s, h => by
    have h2 : ¬ (s = t ∨ s ∈ L) := fun z => h (List.mem_cons.mpr z)
    rw [zipT_cons, valV_neg (fun e => h2 (.inl (keyT_inj e).symm))]
    exact valV_zipT_none fun z => h2 (.inr z)
theorem zipT_snoc {kn : List (List Str)} {us : List V} (h : us.length = kn.length) (g : List Str) (u : V) : zipT (kn ++ [g]) (us ++ [u]) = zipT kn us ++ [(g.map Sum.inr, u)] := by
  unfold zipT
  rw [List.map_append, List.zip_append (by rw [List.length_map, h])]
  rfl
theorem putK_zipT {kn : List (List Str)} {us : List V} {g : List Str} (h : us.length = kn.length) (hg : g ∉ kn) (u : V) : putK (zipT kn us) (g.map Sum.inr) u = zipT (kn ++ [g]) (us ++ [u]) := by
  rw [putK_new u (valV_zipT_none hg), zipT_snoc h]
end Rs
/-! Certificates: the rows. -/
namespace Rs
open PySem PySem.Spec PyProof.Rows L2 Evl
/-! ### sorted texts -/
theorem cps_ext {a b : Str} (h : a.cps.toList = b.cps.toList) : a = b := by
  obtain ⟨⟨a⟩⟩ := a
  obtain ⟨⟨b⟩⟩ := b
  have h : a = b := h
  rw [h]
def leS (a b : Str) : Prop := ¬ b.cps.toList < a.cps.toList
theorem leS_trans {a b c : Str} (h : leS a b) (k : leS b c) : leS a c := by
  unfold leS at *
  rw [List.not_lt] at *
  exact List.le_trans h k
theorem leS_anti {a b : Str} (h : leS a b) (k : leS b a) : a = b := by
  unfold leS at *
  rw [List.not_lt] at *
  exact cps_ext (List.le_antisymm h k)
theorem rising_pw : ∀ (l : List Str) (p : Str), risingS p l = true → (p :: l).Pairwise leS
  | [], p, _ => List.pairwise_singleton _ _
  | x :: r, p, h => by
    have h : (!ltCps x.cps.toList p.cps.toList && risingS x r) = true := h
    rw [Bool.and_eq_true] at h
    have ih := rising_pw r x h.2
    have h1 : leS p x := by
      have := h.1
      rw [ltCps_eq] at this
      unfold leS
      simpa using this
    refine List.pairwise_cons.mpr ⟨fun y hy => ?_, ih⟩
    rcases List.mem_cons.mp hy with rfl | hy
    · exact h1
    · exact leS_trans h1 ((List.pairwise_cons.mp ih).1 y hy)
theorem sorted_pw : ∀ (l : List Str), sortedS l = true → l.Pairwise leS
  | [], _ => List.Pairwise.nil
  | x :: r, h => rising_pw r x h
theorem sorted_same {a b : List Str} (hp : a.Perm b) (h1 : sortedS a = true) (h2 : sortedS b = true) : a = b :=
  List.Perm.eq_of_pairwise (fun _ _ _ _ => leS_anti) (sorted_pw a h1) (sorted_pw b h2) hp
section
variable {P : Program} {w : World} {K : PySem.W.Frag} {mg : Str → Option Value} {base : Heap}
theorem ep_sortedS {σ : L2.St} {H : Hp} {ta : TE} {ss : List Str} (h : EvP ta σ H (LstV (ss.map V.str))) (hl : ss.length < 64) : EvP (tCB (rSortedS K) (tCons ta tNil)) σ H ⟨fun v H => ∃ ys : List Str, ys.Perm ss ∧ sortedS ys = true ∧ (LstV (ys.map V.str)).p v H, fun e h => by
    obtain ⟨ys, h1, h2, h3⟩ := h
    exact ⟨ys, h1, h2, (LstV _).up e h3⟩⟩ := fun H1 e Q q => h H1 e _ fun v H2 e2 hv => by
  obtain ⟨a, rfl, h2⟩ := hv
  exact ⟨a, ss, rfl, sq_of h2, hl, fun ys p hp hs hn => q _ _ (e2.trans (Ex.new hn)) ⟨ys, hp, hs, p, rfl, upd_same⟩⟩
abbrev sc_is_orderN : List Str := ["graph", "value", "name"]
theorem sc_is_order : FnScope sc_is_orderN ["graph", "value"] (defScope s_is_order) := ⟨rfl, rfl, rfl, by decide +kernel, rfl, by decide +kernel, by decide +kernel⟩
theorem bd_is_order : Bnd "is_order" "is_order" s_is_order ["graph", "value"] := fun _ _ _ _ _ _ us hl => match us, hl with | [_, _], _ => rfl
def R_is_order (K : PySem.W.Frag) (Ps : List Pr) (P : Pr) : Prop := ∃ (ns ord : List Str) (es : List (Str × Str)), ord.Perm ns ∧ Ps = [GrP K ns es, LstV (ord.map V.str)] ∧ P = Is (.bl true)
theorem ok_is_order (T : Tx K mg) : C8.Cal P w K mg base 3 "is_order" (Fn (R_is_order K)) [] := by
  refine cal_of sc_is_order bd_is_order (fn_len (n := 2) fun Ps P h => by obtain ⟨_, _, _, _, rfl, _⟩ := h; rfl) (fun f cdv A outer s H vs Q E hr h => ?_) T.g_is_order T.f_is_order
  obtain ⟨_, _, ⟨ns, ord, es, hp, rfl, rfl⟩, ha, k⟩ := h
  obtain ⟨x, y, rfl, hx, hy⟩ := all2 ha
  refine ⟨_, (pss_cons (ps_if (PW.pt (pw_or (pt_not (pt_val (C8.pe_c (ok_is_list T) hr (by decide) rfl (pa_cons (pv 1) pa_nil)))) (pw_or1 (pt_cmpR op_ne (pe_callB call_len_seq (by rfl) T.b_len (by decide +kernel) (pa_cons (pv 1) pa_nil)) (pe_callB (call_len_graph T (hr.mono (by decide))) (by rfl) T.b_len (by decide +kernel) (pa_cons (pv 0) pa_nil)) (nomark _)))))
        (pss_one (ps_ret pe_bl)) pss_nil)
      (pss_one (ps_ret (pe_and (pe_callB (cr_all rfl) (by rfl) T.b_all (by decide +kernel) (pa_cons (pe_lc (own := [("name", 2)]) (g := gName 2) (tt := tYes) (te := (tCB (rIsi K) (tCons _ (tCons _ tNil)))) rfl sc_is_order.nd (pi_list (pv 1)) (blkOk_by (N := sc_is_orderN) (sc := defScope s_is_order) (by decide +kernel)) (fun _ _ _ _ _ => (pg_name (i := 2) sc_is_order.nd rfl (Or.inl rfl))) (fun _ _ _ _ _ => pts_nil) (fun _ _ _ _ _ => (pe_callB call_isi (by rfl) T.b_isinstance (by decide +kernel) (pa_cons (pv 2) (pa_cons (pe_bltn (v := .ty "str") (by rfl) T.b_str (by decide +kernel) rfl) pa_nil))))) pa_nil)) (pe_one (pe_cmpR (op_eqD hr.units) (pe_callB cr_sortedS (by rfl) T.b_sorted (by decide +kernel) (pa_cons (pv 1) pa_nil)) (pe_callB cr_sortedS (by rfl) T.b_sorted (by decide +kernel) (pa_cons (C8.pe_mt0 (ok_Graph_names T) hr (by decide) (pv 0)) pa_nil)) (nomark _))))))), ?_⟩
  have hn := hx.1
  have h8 := hn.hi
  have hl := hp.length_eq
  refine q_not (et_or (a := false) (b := false) (et_not (a := true) (et_B (ev_is_listV (ep_var rfl hy)))) fun _ => et_is (et_test (ev_ne (ev_lenLV (ep_var rfl hy)) (ev_lenGraph (ep_var rfl hx)) rfl)) ?_) fun H1 e1 => ?_
  · rw [List.length_map, hl]
    simp
  have hall : EvLP (tLc (iList K (tVar 1)) (gName 2) tYes (tCB (rIsi K) (tCons (tVar 2) (tCons (tC (.ty "str")) tNil))) [2]) [some x, some y, none] H1 (ord.map fun s => Is (.bl true)) := by
    have := elp_lcL (K := K) (σ := [some x, some y, none]) (H := H1) (L := ord) (f := fun s => Is (.bl true)) (tt := tYes) (te := tCB (rIsi K) (tCons (tVar 2) (tCons (tC (.ty "str")) tNil))) (j := 2) (vs := [2]) (fun _ => true) (fun s => Is (.str s)) (tl := tVar 1) (epL (ep_var rfl ((LstV _).up e1 hy))) (by omega) (fun _ => rfl) (fun _ _ _ _ _ _ => et_yes)
      (fun s v H7 hm e7 hv _ => by
        have hv : v = .str s := hv
        subst hv
        exact ep (ev_isStr (ev_var rfl)))
    rw [filter_yes] at this
    exact this
  refine s_ret (v := .bl true) (ev_is (ev_andV (ev_all (p := fun _ => true) hall) fun _ => ?_) (v := .bl (ord.all (fun _ => true) && true)) (by simp)) fun H2 e2 => k _ H2 (e1.trans e2) rfl
  intro H2 e2 Q q
  refine ep_sortedS (ss := ord) (ep_var rfl ((LstV _).up e1 hy)) (by omega) H2 e2 _ fun u H3 e3 hu => ?_
  obtain ⟨ys, p1, s1, hu⟩ := hu
  refine ep_sortedS (ep_names (ep_var rfl ((GrP K ns es).up (e1.trans (e2.trans e3)) hx))) (by omega) H3 (Ex.refl H3) _ fun u2 H4 e4 hu2 => ?_
  obtain ⟨zs, p2, s2, hu2⟩ := hu2
  have hyz : ys = zs := sorted_same (p1.trans (hp.trans p2.symm)) s1 s2
  subst hyz
  have sh := shaped_strs ys fun s hs => (hn.nm s (p2.mem_iff.mp hs)).ok
  exact ⟨_, _, dat_strs ((LstV _).up e4 hu), dat_strs hu2, sh, sh, by rw [eqv_strs, decide_eq_true rfl]; exact q H4 (e3.trans e4)⟩
/-! required_sets -/
theorem at_last {n : Nat} (hn : 0 < n) : ∀ m : Nat, m = n → ∀ (xs : List V) (v : V), xs.length = m → xs[n - 1]? = some v → atI xs (-1) = some v := fun m hm xs v hl hv => by
  subst hm
  have hx : xs ≠ [] := fun z => by
    rw [z] at hl
    simp at hl
    omega
  have e1 : xs = xs.dropLast ++ [v] := by
    have h1 := List.dropLast_concat_getLast hx
    have h2 : xs.getLast hx = v := by
      rw [List.getLast_eq_getElem]
      have h3 : xs[xs.length - 1]? = some v := by rw [hl]; exact hv
      rw [List.getElem?_eq_getElem (by omega)] at h3
      exact Option.some.inj h3
    rw [h2] at h1
    exact h1.symm
  rw [e1]
  exact atI_last _ _
theorem decV (a b : Str) : decide ((V.str a) = V.str b) = decide (a = b) := decide_eq_decide.mpr ⟨fun z => by injection z, fun z => by rw [z]⟩
abbrev sc_required_setsN : List Str := ["graph", "order", "group", "last", "less", "name"]
theorem sc_required_sets : FnScope sc_required_setsN ["graph", "order", "group"] (defScope s_required_sets) := ⟨rfl, rfl, rfl, by decide +kernel, rfl, by decide +kernel, by decide +kernel⟩
theorem bd_required_sets : Bnd "required_sets" "required_sets" s_required_sets ["graph", "order", "group"] := fun _ _ _ _ _ _ us hl => match us, hl with | [_, _, _], _ => rfl
def ReqP (es : List (Str × Str)) (ord g : List Str) : Pr := TupP [Is (.str (lastOf ord g)), tupS (lessOf ord g), tupS (farOf es ord g)]
def R_required_sets (K : PySem.W.Frag) (Ps : List Pr) (P : Pr) : Prop := ∃ (ns ord g : List Str) (es : List (Str × Str)), g ≠ [] ∧ ord.Perm ns ∧ List.Sublist g ns ∧ Ps = [GrP K ns es, LstV (ord.map V.str), tupS g] ∧ P = ReqP es ord g
theorem ok_required_sets (T : Tx K mg) : C8.Cal P w K mg base 4 "required_sets" (Fn (R_required_sets K)) [] := by
  refine cal_of sc_required_sets bd_required_sets (fn_len (n := 3) fun Ps P h => by obtain ⟨_, _, _, _, _, _, _, rfl, _⟩ := h; rfl) (fun f cdv A outer s H vs Q E hr h => ?_) T.g_required_sets T.f_required_sets
  obtain ⟨_, _, ⟨ns, ord, g, es, h0, hp, hs, rfl, rfl⟩, ha, k⟩ := h
  obtain ⟨x, y, z, rfl, hx, hy, hz⟩ := all3 ha
  refine ⟨_, (pss_cons (ps_set (i := 3) sc_required_sets.nd rfl (Or.inr rfl) (pe_ix ix_list (pe_lc (own := [("name", 5)]) (g := gName 5) (tt := (tTest (tOp (rIn K false) _ _))) (te := _) rfl sc_required_sets.nd (pi_list (pv 1)) (blkOk_by (N := sc_required_setsN) (sc := defScope s_required_sets) (by decide +kernel)) (fun _ _ _ _ _ => (pg_name (i := 5) sc_required_sets.nd rfl (Or.inl rfl))) (fun _ _ _ _ _ => (pts_one (pt_cmpR op_in_seq (pv 5) (pv 2) (by rfl)))) (fun _ _ _ _ _ => (pv 5))) (pe_un un_neg pe_int) (fun _ _ => rfl)))
      (pss_cons (ps_set (i := 4) sc_required_sets.nd rfl (Or.inl rfl) (pe_callTy call_tuple_of (by rfl) T.b_tuple (by decide +kernel) (pa_cons (pe_lc (own := [("name", 5)]) (g := gName 5) (tt := (tTest (tOp _ _ _))) (te := _) rfl sc_required_sets.nd (pi_tup (pv 2)) (blkOk_by (N := sc_required_setsN) (sc := defScope s_required_sets) (by decide +kernel)) (fun _ _ _ _ _ => (pg_name (i := 5) sc_required_sets.nd rfl (Or.inl rfl))) (fun _ _ _ _ _ => (pts_one (pt_cmpR op_ne (pv 5) (pv 3) (nomark _)))) (fun _ _ _ _ _ => (pv 5))) pa_nil)))
      (pss_one (ps_ret (pe_tup (pa_cons (pv 3) (pa_cons (pv 4) (pa_cons (pe_callTy call_tuple_of (by rfl) T.b_tuple (by decide +kernel) (pa_cons (pe_lc (own := [("name", 5)]) (g := gName 5) (tt := (tNot (tB (tMeth _ _ _ _ _ _ (tCons _ (tCons _ tNil)))))) (te := _) rfl sc_required_sets.nd (pi_tup (pv 4)) (blkOk_by (N := sc_required_setsN) (sc := defScope s_required_sets) (by decide +kernel)) (fun _ _ _ _ _ => (pg_name (i := 5) sc_required_sets.nd rfl (Or.inl rfl))) (fun _ _ _ _ _ => (pts_one (pt_not (pt_val (C8.pe_mt (ok_Graph_are_adjacent T) hr (by decide) (pv 0) (pa_cons (pv 5) (pa_cons (pv 3) pa_nil))))))) (fun _ _ _ _ _ => (pv 5))) pa_nil)) pa_nil)))))))), ?_⟩
  have hn := hx.1
  have h8 := hn.hi
  have hl := hp.length_eq
  have hgl := hs.length_le
  obtain ⟨hne, hmem⟩ := last_mem (ord := ord) h0 fun s hs' => hp.mem_iff.mpr (hs.subset hs')
  have hlast : lastOf ord g ∈ ns := hs.subset hmem
  have hpos : 0 < (ord.filter fun s => decide (s ∈ g)).length := List.length_pos_iff.mpr hne
  -- last
  have hlc : EvLP (tLc (iList K (tVar 1)) (gName 5) (tTest (tOp (rIn K false) (tVar 5) (tVar 2))) (tVar 5) [5]) [some x, some y, some z, none, none, none] H ((ord.filter fun s => decide (s ∈ g)).map fun s => Is (.str s)) :=
    elp_lcL (f := fun s => Is (.str s)) (fun s => decide (s ∈ g)) (fun s => Is (.str s)) (epL (ep_var rfl hy)) (by omega) (fun _ => rfl) (fun s v H2 hb e2 hv => by
      have hv : v = .str s := hv
      subst hv
      exact et_test (ev_inT (ev_var rfl) (ep_var rfl ((tupS g).up e2 hz)))) (fun s v H2 hb e2 hv _ => by
      have hv : v = .str s := hv
      subst hv
      exact ep (ev_var rfl))
  refine q_asg (v := .str (lastOf ord g)) (ev (ep_ixL (i := -1) (k := (ord.filter fun s => decide (s ∈ g)).length - 1) (P := Is (.str (lastOf ord g))) hlc.lst (ev_un1 (g := fun i => .int (-i)) ev_c) ?_ ?_)) fun H1 e1 => ?_
  · rw [List.getElem?_map, ← List.getLast?_eq_getElem?]
    unfold lastOf
    rw [List.getLastD_eq_getLast?, List.getLast?_eq_some_getLast hne]
    rfl
  · rw [List.length_map]
    exact at_last hpos
  -- less
  refine q_asgP (P := tupS (lessOf ord g)) (tpV (ep_tupOf (elp_lcT (f := fun s => Is (.str s)) (fun s => !decide (s = lastOf ord g)) (fun s => Is (.str s)) (epT (ep_var rfl ((tupS g).up e1 hz))) (by omega) (fun _ => rfl) (fun s v H2 hb e2 hv => by
      have hv : v = .str s := hv
      subst hv
      exact et_is (et_test (ev_ne (ev_var rfl) (ev_var rfl) rfl)) (by rw [decV])) (fun s v H2 hb e2 hv _ => by
      have hv : v = .str s := hv
      subst hv
      exact ep (ev_var rfl))))) fun lv H2 e2 hlv => ?_
  have hll := (less_sub ord g).length_le
  refine s_retP (ep_tup (eap_cons (ep (ev_var rfl)) (eap_cons (ep_var rfl hlv) (eap_cons (P := tupS (farOf es ord g)) (tpV (ep_tupOf (elp_lcT (f := fun s => Is (.str s)) (fun s => !adjB es s (lastOf ord g)) (fun s => Is (.str s)) (epT (ep_var rfl hlv)) (by omega) (fun _ => rfl) (fun s v H3 hb e3 hv => by
      have hv : v = .str s := hv
      subst hv
      exact et_not (et_B (ev_adj (ep_var rfl ((GrP K ns es).up ((e1.trans e2).trans e3) hx)) (ev_var rfl) (ev_var rfl) (hs.subset ((less_sub ord g).subset hb)) hlast))) (fun s v H2 hb e2 hv _ => by
      have hv : v = .str s := hv
      subst hv
      exact ep (ev_var rfl))))) eap_nil))) (by simp)) fun v H3 e3 hv => k v H3 ((e1.trans e2).trans e3) hv
end
end Rs
/-! CertificateRows. -/
namespace Rs
open PySem PySem.Spec PyProof.Rows L2 Evl
def ccF (g p o d : V) : List (Str × V) := [("of_graph", g), ("of_probabilities", p), ("of_order", o), ("known_values", d)]
theorem cc1 : ¬ (("of_graph" : Str) = "of_probabilities") := by decide +kernel
theorem cc2 : ¬ (("of_graph" : Str) = "of_order") := by decide +kernel
theorem cc3 : ¬ (("of_graph" : Str) = "known_values") := by decide +kernel
theorem cc4 : ¬ (("of_probabilities" : Str) = "of_order") := by decide +kernel
theorem cc5 : ¬ (("of_probabilities" : Str) = "known_values") := by decide +kernel
theorem cc6 : ¬ (("of_order" : Str) = "known_values") := by decide +kernel
theorem putF_one (a : Str) (v : V) : putF a v [] = [(a, v)] := rfl
theorem putF_ne {a b : Str} {v u : V} {r : List (Str × V)} (h : ¬ b = a) : putF a v ((b, u) :: r) = (b, u) :: putF a v r := by
  show (if b = a then (b, v) :: r else (b, u) :: putF a v r) = _
  rw [if_neg h]
theorem ccF_eq (g p o d : V) : putF "known_values" d (putF "of_order" o (putF "of_probabilities" p (putF "of_graph" g []))) = ccF g p o d := by
  rw [putF_one, putF_ne cc1, putF_one, putF_ne cc2, putF_ne cc4, putF_one, putF_ne cc3, putF_ne cc5, putF_ne cc6, putF_one]
  rfl
theorem ccF_g (g p o d : V) : (ccF g p o d).lookup ("of_graph" : Str) = some g := by rw [← ccF_eq, lookup_putF, if_neg cc3, lookup_putF, if_neg cc2, lookup_putF, if_neg cc1, lookup_putF, if_pos rfl]
theorem ccF_p (g p o d : V) : (ccF g p o d).lookup ("of_probabilities" : Str) = some p := by rw [← ccF_eq, lookup_putF, if_neg cc5, lookup_putF, if_neg cc4, lookup_putF, if_pos rfl]
theorem ccF_o (g p o d : V) : (ccF g p o d).lookup ("of_order" : Str) = some o := by rw [← ccF_eq, lookup_putF, if_neg cc6, lookup_putF, if_pos rfl]
theorem ccF_k (g p o d : V) : (ccF g p o d).lookup ("known_values" : Str) = some d := by rw [← ccF_eq, lookup_putF, if_pos rfl]
theorem ccF_no (g p o d : V) {m : Str} (h1 : ¬ m = "of_graph") (h2 : ¬ m = "of_probabilities") (h3 : ¬ m = "of_order") (h4 : ¬ m = "known_values") : (ccF g p o d).lookup m = none := by
  rw [← ccF_eq, lookup_putF, if_neg h4, lookup_putF, if_neg h3, lookup_putF, if_neg h2, lookup_putF, if_neg h1]
  rfl
/-- all but the object at d stays -/
def ExN (d : Addr) (H H' : Hp) : Prop := ∀ a o, a ≠ d → H a = some o → H' a = some o
theorem ExN.of {d : Addr} {H H' : Hp} (e : Ex H H') : ExN d H H' := fun a o _ h => e a o h
theorem ExN.trans {d : Addr} {H H1 H2 : Hp} (a : ExN d H H1) (b : ExN d H1 H2) : ExN d H H2 := fun x o n h => b x o n (a x o n h)
theorem ExN.upd {d : Addr} {H : Hp} {o : HO} : ExN d H (upd H d o) := fun a u n h => by rw [upd_ne n]; exact h
theorem ExN.tup {d : Addr} {H H' : Hp} {kvs : List (List Key × V)} {xs : List V} {v : V} (e : ExN d H H') (hd : H d = some (.dT kvs)) (h : (TupV xs).p v H) : (TupV xs).p v H' := by
  obtain ⟨a, h1, h2⟩ := h
  exact ⟨a, h1, e _ _ (fun z => by rw [z, hd] at h2; cases h2) h2⟩
theorem ExN.ins {d C : Addr} {H H' : Hp} {kvs : List (List Key × V)} {fs : List (Str × V)} {v : V} (e : ExN d H H') (hd : H d = some (.dT kvs)) (h : (InsP C fs).p v H) : (InsP C fs).p v H' := by
  obtain ⟨a, dx, h1, h2⟩ := h
  exact ⟨a, dx, h1, e _ _ (fun z => by rw [z, hd] at h2; cases h2) h2⟩
theorem ExN.rats {K : PySem.W.Frag} {α : Type} {f : α → Rat} {d : Addr} {H H' : Hp} {kvs : List (List Key × V)} (e : ExN d H H') (hd : H d = some (.dT kvs)) : ∀ {xs : List α} {vs : List V}, AllP (xs.map fun x => RatP K (f x)) vs H → AllP (xs.map fun x => RatP K (f x)) vs H'
  | [], [], _ => trivial
  | _ :: xs, _ :: _, h => ⟨ExN.ins e hd h.1, ExN.rats e hd (xs := xs) h.2⟩
  | [], _ :: _, h => h.elim
  | _ :: _, [], h => h.elim
/-- the rows that are known, in the heap -/
structure CertAt (K : PySem.W.Frag) (H0 : Hp) (ns : List Str) (es : List (Str × Str)) (p : Str → Rat) (ord : List Str) (kn : List (List Str)) (x : V) (d : Addr) (H : Hp) : Prop where
  ex : Ex H0 H
  d0 : H0 d = none
  obj : ∃ (a dx : Addr) (gx px ox : V), x = .ref a ∧ H a = some (.ins (CC K) dx (ccF gx px ox (.ref d))) ∧ (GrP K ns es).p gx H0 ∧ (PbP K ns p).p px H0 ∧ (LstV (ord.map V.str)).p ox H0
  dic : ∃ us, H d = some (.dT (zipT kn us)) ∧ AllP (kn.map fun g => RatP K (q (adjB es) p g)) us H
  ok : KnOk ns es ord kn
  perm : ord.Perm ns
section
variable {K : PySem.W.Frag} {H0 H H' : Hp} {ns ord : List Str} {es : List (Str × Str)} {p : Str → Rat} {kn : List (List Str)} {x : V} {d : Addr}
theorem CertAt.up (c : CertAt K H0 ns es p ord kn x d H) (e : Ex H H') : CertAt K H0 ns es p ord kn x d H' := by
  obtain ⟨h1, h2, ⟨a, dx, gx, px, ox, h3, h4, h5⟩, ⟨us, h6, h7⟩, h8, h9⟩ := c
  exact ⟨h1.trans e, h2, ⟨a, dx, gx, px, ox, h3, e _ _ h4, h5⟩, ⟨us, e _ _ h6, h7.up e⟩, h8, h9⟩
theorem CertAt.gr (c : CertAt K H0 ns es p ord kn x d H) : NamesOk ns ∧ EdgesOk ns es ∧ PrOk ns p := by
  obtain ⟨_, _, _, _, _, _, _, h1, h2, _⟩ := c.obj
  exact ⟨h1.1, h1.2.1, h2.1⟩
end
section
variable {P : Program} {w : World} {K : PySem.W.Frag} {mg : Str → Option Value} {base : Heap}
section
variable {σ : L2.St} {H0 H : Hp} {ns ord g : List Str} {es : List (Str × Str)} {p : Str → Rat} {kn : List (List Str)} {x : V} {d : Addr} {te ty : TE}
theorem ep_ccg (T : Tx K mg) (h : Ev te σ H x) (c : CertAt K H0 ns es p ord kn x d H) : EvP (tFld K te "of_graph") σ H (GrP K ns es) := fun H1 e Q q => h H1 e _ fun H2 e2 => by
  have c2 := c.up (e.trans e2)
  obtain ⟨a, dx, gx, px, ox, rfl, ha, h1, h2, h3⟩ := c2.obj
  exact ⟨a, _, dx, _, gx, rfl, ha, T.c_CertificateRows, T.n_of_graph, ccF_g _ _ _ _, q gx H2 e2 ((GrP K ns es).up c2.ex h1)⟩
theorem ep_ccp (T : Tx K mg) (h : Ev te σ H x) (c : CertAt K H0 ns es p ord kn x d H) : EvP (tFld K te "of_probabilities") σ H (PbP K ns p) := fun H1 e Q q => h H1 e _ fun H2 e2 => by
  have c2 := c.up (e.trans e2)
  obtain ⟨a, dx, gx, px, ox, rfl, ha, h1, h2, h3⟩ := c2.obj
  exact ⟨a, _, dx, _, px, rfl, ha, T.c_CertificateRows, T.n_of_probabilities, ccF_p _ _ _ _, q px H2 e2 ((PbP K ns p).up c2.ex h2)⟩
theorem ep_cco (T : Tx K mg) (h : Ev te σ H x) (c : CertAt K H0 ns es p ord kn x d H) : EvP (tFld K te "of_order") σ H (LstV (ord.map V.str)) := fun H1 e Q q => h H1 e _ fun H2 e2 => by
  have c2 := c.up (e.trans e2)
  obtain ⟨a, dx, gx, px, ox, rfl, ha, h1, h2, h3⟩ := c2.obj
  exact ⟨a, _, dx, _, ox, rfl, ha, T.c_CertificateRows, T.n_of_order, ccF_o _ _ _ _, q ox H2 e2 ((LstV _).up c2.ex h3)⟩
theorem ev_cck (T : Tx K mg) (h : Ev te σ H x) (c : CertAt K H0 ns es p ord kn x d H) : Ev (tFld K te "known_values") σ H (.ref d) := fun H1 e Q q => h H1 e _ fun H2 e2 => by
  have c2 := c.up (e.trans e2)
  obtain ⟨a, dx, gx, px, ox, rfl, ha, h1, h2, h3⟩ := c2.obj
  exact ⟨a, _, dx, _, .ref d, rfl, ha, T.c_CertificateRows, T.n_known_values, ccF_k _ _ _ _, q H2 e2⟩
/-- group in known -/
theorem isSome_zipT {us : List V} (hl : us.length = kn.length) (nd : kn.Nodup) : (valV (zipT kn us) (g.map Sum.inr)).isSome = decide (g ∈ kn) := by
  by_cases h : g ∈ kn
  · obtain ⟨i, hi, hi2⟩ := List.mem_iff_getElem.mp h
    rw [valV_zipT (u := us[i]'(by omega)) nd (by rw [List.getElem?_eq_getElem hi, hi2]) (List.getElem?_eq_getElem (by omega)), decide_eq_true h]
    rfl
  · rw [valV_zipT_none h, decide_eq_false h]
    rfl
/-- a dict of values by groups -/
def KnP (K : PySem.W.Frag) (es : List (Str × Str)) (p : Str → Rat) (kn : List (List Str)) : Pr := ⟨fun v H => kn.Nodup ∧ ∃ a us, v = .ref a ∧ H a = some (.dT (zipT kn us)) ∧ AllP (kn.map fun g => RatP K (q (adjB es) p g)) us H, fun e h => by
  obtain ⟨nd, a, us, h1, h2, h3⟩ := h
  exact ⟨nd, a, us, h1, e _ _ h2, h3.up e⟩⟩
theorem CertAt.knp (c : CertAt K H0 ns es p ord kn x d H) : (KnP K es p kn).p (.ref d) H := by
  obtain ⟨us, h1, h2⟩ := c.dic
  exact ⟨c.ok.nd, d, us, rfl, h1, h2⟩
theorem ev_tnotin (hy : EvP ty σ H (tupS g)) (hd : EvP te σ H (KnP K es p kn)) : Ev (tDNotIn ty te) σ H (.bl (!decide (g ∈ kn))) := fun H1 e Q q =>
  hy H1 e _ fun y H2 e2 hy2 => hd H2 (e.trans e2) _ fun x H3 e3 hx => by
    obtain ⟨b, rfl, hb⟩ := (tupS g).up e3 hy2
    obtain ⟨nd, a, us, rfl, h1, h2⟩ := hx
    refine ⟨a, _, rfl, DGet.t (k := g.map Sum.inr) h1 (by rw [keyT_kV]; exact hb), ?_⟩
    rw [isSome_zipT (by rw [h2.len, List.length_map]) nd]
    exact q H3 (e2.trans e3)
theorem ev_tin (hy : EvP ty σ H (tupS g)) (hd : EvP te σ H (KnP K es p kn)) : Ev (tDIn ty te) σ H (.bl (decide (g ∈ kn))) := fun H1 e Q q =>
  hy H1 e _ fun y H2 e2 hy2 => hd H2 (e.trans e2) _ fun x H3 e3 hx => by
    obtain ⟨b, rfl, hb⟩ := (tupS g).up e3 hy2
    obtain ⟨nd, a, us, rfl, h1, h2⟩ := hx
    refine ⟨a, _, rfl, DGet.t (k := g.map Sum.inr) h1 (by rw [keyT_kV]; exact hb), ?_⟩
    rw [isSome_zipT (by rw [h2.len, List.length_map]) nd]
    exact q H3 (e2.trans e3)
theorem ep_tget (hd : EvP te σ H (KnP K es p kn)) (hy : EvP ty σ H (tupS g)) (hg : g ∈ kn) : EvP (tDGet te ty) σ H (RatP K (q (adjB es) p g)) := fun H1 e Q qq =>
  hd H1 e _ fun x H2 e2 hx => hy H2 (e.trans e2) _ fun y H3 e3 hy3 => by
    obtain ⟨nd, a, us, rfl, h1, h2⟩ := (KnP K es p kn).up e3 hx
    obtain ⟨b, rfl, hb⟩ := hy3
    obtain ⟨i, hi, hi2⟩ := List.mem_iff_getElem.mp hg
    have hi3 : kn[i]? = some g := by rw [List.getElem?_eq_getElem hi, hi2]
    obtain ⟨u, hu, hp⟩ := allGet2 (f := fun g => RatP K (q (adjB es) p g)) h2 hi3
    refine ⟨a, u, rfl, ?_, qq u H3 (e2.trans e3) hp⟩
    have := DGet.t (k := g.map Sum.inr) h1 (by rw [keyT_kV]; exact hb)
    rw [valV_zipT nd hi3 hu] at this
    exact this
end
/-! __init__ -/
abbrev sc_CertificateRows_initN : List Str := ["self", "graph", "probabilities", "order"]
theorem sc_CertificateRows_init : FnScope sc_CertificateRows_initN ["self", "graph", "probabilities", "order"] (defScope s_CertificateRows_init) := ⟨rfl, rfl, rfl, by decide +kernel, rfl, by decide +kernel, by decide +kernel⟩
theorem bd_CertificateRows_init : Bnd "__init__" "CertificateRows.__init__" s_CertificateRows_init ["self", "graph", "probabilities", "order"] := fun _ _ _ _ _ _ us hl => match us, hl with | [_, _, _, _], _ => rfl
def spCert (K : PySem.W.Frag) : Sp := fun vs H Q _ => ∃ (o dx : Addr) (x y z : V) (ns ord : List Str) (es : List (Str × Str)) (p : Str → Rat), vs = [.ref o, x, y, z] ∧ ord.Perm ns ∧ (GrP K ns es).p x H ∧ (PbP K ns p).p y H ∧ (LstV (ord.map V.str)).p z H ∧ H o = some (.ins (CC K) dx []) ∧
  ∀ (H' : Hp) (d : Addr) (us : List V), (∀ a u, a ≠ o → H a = some u → H' a = some u) → H d = none → H' o = some (.ins (CC K) dx (ccF x y z (.ref d))) → H' d = some (.dT (zipT [[]] us)) → AllP [RatP K 1] us H' → Q .non H'
theorem ok_CertificateRows (T : Tx K mg) : C8.Mak P w K mg base 4 "CertificateRows" (CC K) (spCert K) [] := by
  obtain ⟨fd, F⟩ := T.f_CertificateRows_init
  refine ⟨_, fd, ["self", "graph", "probabilities", "order"], [], T.mk_CertificateRows, ?_, T.g_CertificateRows, F.bindsN bd_CertificateRows_init, .nil⟩
  refine F.ok sc_CertificateRows_init (fun vs H Q E h => by obtain ⟨_, _, _, _, _, _, _, _, _, rfl, _⟩ := h; rfl) (fun cdv A outer s H vs Q E hr h => ?_)
  obtain ⟨o, dx, x, y, z, ns, ord, es, p, rfl, hp, hx, hy, hz, ho, k⟩ := h
  refine ⟨_, PSs.nox (pss_cons (ps_fld (pv 0) (pv 1) rfl)
      (pss_cons (ps_fld (pv 0) (pv 2) rfl)
      (pss_cons (ps_fld (pv 0) (pv 3) rfl)
      (pss_one (ps_fld (pv 0) (pe_dispT (hu_of hr) (pe_tup pa_nil) (C8.pe_mk (ok_Ratio1 T) hr (by decide) rfl (pa_cons pe_int pa_nil))) rfl))))), ?_⟩
  refine ⟨x, rfl, .ref o, rfl, o, _, dx, [], rfl, ho, T.c_CertificateRows, T.n_of_graph, by show 0 < 1000; decide, ?_⟩
  refine ⟨y, rfl, .ref o, rfl, o, _, dx, _, rfl, upd_same, T.c_CertificateRows, T.n_of_probabilities, by show 1 < 1000; decide, ?_⟩
  refine ⟨z, rfl, .ref o, rfl, o, _, dx, _, rfl, upd_same, T.c_CertificateRows, T.n_of_order, by rw [putF_one, putF_ne cc1, putF_one]; show 2 < 1000; decide, ?_⟩
  have hfr : ∀ a u, a ≠ o → H a = some u → (upd (upd (upd H o (.ins (CC K) dx (putF "of_graph" x []))) o (.ins (CC K) dx (putF "of_probabilities" y (putF "of_graph" x [])))) o (.ins (CC K) dx (putF "of_order" z (putF "of_probabilities" y (putF "of_graph" x []))))) a = some u := fun a u na ha => by rw [upd_ne na, upd_ne na, upd_ne na]; exact ha
  have hno : ∀ a, (upd (upd (upd H o (.ins (CC K) dx (putF "of_graph" x []))) o (.ins (CC K) dx (putF "of_probabilities" y (putF "of_graph" x [])))) o (.ins (CC K) dx (putF "of_order" z (putF "of_probabilities" y (putF "of_graph" x []))))) a = none → H a = none := fun a ha => by
    by_cases e : a = o
    · rw [e, upd_same] at ha
      cases ha
    · rw [upd_ne e, upd_ne e, upd_ne e] at ha
      exact ha
  have hoo : (upd (upd (upd H o (.ins (CC K) dx (putF "of_graph" x []))) o (.ins (CC K) dx (putF "of_probabilities" y (putF "of_graph" x [])))) o (.ins (CC K) dx (putF "of_order" z (putF "of_probabilities" y (putF "of_graph" x []))))) o = some (.ins (CC K) dx (putF "of_order" z (putF "of_probabilities" y (putF "of_graph" x [])))) := upd_same
  generalize (upd (upd (upd H o (.ins (CC K) dx (putF "of_graph" x []))) o (.ins (CC K) dx (putF "of_probabilities" y (putF "of_graph" x [])))) o (.ins (CC K) dx (putF "of_order" z (putF "of_probabilities" y (putF "of_graph" x []))))) = H1 at hfr hno hoo ⊢
  intro d hd
  refine ep_tup (Ps := []) eap_nil (by decide) (upd H1 d (.dT [])) (Ex.refl _) _ fun b H2 e2 hb => ?_
  obtain ⟨b, _, rfl, hb, hb2⟩ := hb
  refine ep_Ratio1 (n := 1) ev_c H2 (Ex.refl H2) _ fun u H3 e3 hu => ?_
  have hvs : ∀ {vs : List V} {H : Hp}, AllP [] vs H → vs = [] := fun {vs H} h => match vs, h with
    | [], _ => rfl
  rw [hvs hb2] at hb
  have hd3 : H3 d = some (.dT []) := e3 _ _ (e2 _ _ upd_same)
  refine ⟨b, [], rfl, hd3, e3 _ _ hb, ?_⟩
  have hdo : o ≠ d := ne_of_none hoo hd
  have ho3 : (upd H3 d (.dT [([], u)])) o = some (.ins (CC K) dx (putF "of_order" z (putF "of_probabilities" y (putF "of_graph" x [])))) := by
    rw [upd_ne hdo]
    exact e3 _ _ (e2 _ _ (by rw [upd_ne hdo]; exact hoo))
  refine ⟨.ref o, rfl, o, _, dx, _, rfl, ho3, T.c_CertificateRows, T.n_known_values, by rw [putF_one, putF_ne cc1, putF_one, putF_ne cc2, putF_ne cc4, putF_one]; show 3 < 1000; decide, ?_⟩
  refine k _ d [u] (fun a v na ha => ?_) (hno d hd) (by rw [upd_same, ccF_eq]) (by rw [upd_ne (Ne.symm hdo), upd_same]; rfl) ⟨?_, trivial⟩
  · rw [upd_ne na, upd_ne (ne_of_none (hfr a v na ha) hd)]
    exact e3 _ _ (e2 _ _ (by rw [upd_ne (ne_of_none (hfr a v na ha) hd)]; exact hfr a v na ha))
  · obtain ⟨r, rx, rfl, hr3⟩ := hu
    have h1 : r ≠ d := fun zz => by rw [zz, hd3] at hr3; cases hr3
    have h2 : r ≠ o := fun zz => by
      have h5 := e3 _ _ (e2 _ _ (by rw [upd_ne hdo]; exact hoo))
      rw [zz, h5] at hr3
      have h6 := Option.some.inj hr3
      injection h6 with _ _ h7
      rw [putF_one, putF_ne cc1, putF_one] at h7
      have h8 := congrArg List.length h7
      rw [putF_ne cc2, putF_ne cc4, putF_one] at h8
      simp [ratF] at h8
    exact ⟨r, rx, rfl, by rw [upd_ne h2, upd_ne h1]; exact hr3⟩
end
end Rs
/-! CertificateRows: value_of, prefix, rows. -/
namespace Rs
open PySem PySem.Spec PyProof.Rows L2 Evl
theorem far_sm {ns : List Str} {p : Str → Rat} {adj : Str → Str → Bool} (ok : PrOk ns p) {l : Str} (hl : l ∈ ns) {L : List Str} (hm : ∀ s ∈ L, s ∈ ns) (h8 : L.length ≤ 8) : Sm (p l * q adj p L) := by
  have h1 := q_in (adj := adj) L.length L (Nat.le_refl _) fun s hs => ⟨ok.lo s (hm s hs), ok.hi s (hm s hs)⟩
  have h2 := dens_lt (p := p) (L := L) fun s hs => ok.den s (hm s hs)
  have h3 : 2 ^ (120 * L.length + 1) ≤ 2 ^ 1000 := Nat.pow_le_pow_right Nat.two_pos (by omega)
  have h4 : dens p L < 2 ^ 1000 := Nat.lt_of_lt_of_le h2 h3
  have h5 : 2 ^ L.length ≤ 2 ^ 8 := Nat.pow_le_pow_right (by omega) h8
  have h6 : 2 ^ L.length * dens p L < 2 ^ 1008 := by
    have e : 2 ^ 1008 = 2 ^ 8 * 2 ^ 1000 := by rw [← Nat.pow_add]
    rw [e]
    exact Nat.lt_of_le_of_lt (Nat.mul_le_mul_right _ h5) (Nat.mul_lt_mul_of_pos_left h4 (Nat.two_pow_pos 8))
  have h7 := InD.prob (ok.lo l hl) (ok.hi l hl)
  have h8 := ok.den l hl
  have e1 : 2 ^ 1120 = 2 ^ 120 * 2 ^ 1000 := by rw [← Nat.pow_add]
  have e2 : 2 ^ 1128 = 2 ^ 120 * 2 ^ 1008 := by rw [← Nat.pow_add]
  have h9 : (p l).den * dens p L < 2 ^ 1120 := by rw [e1]; exact Nat.mul_lt_mul'' h8 h4
  have h10 : (p l).den * (2 ^ L.length * dens p L) < 2 ^ 1128 := by rw [e2]; exact Nat.mul_lt_mul'' h8 h6
  have h11 : 2 ^ 1120 ≤ 2 ^ 4200 := Nat.pow_le_pow_right (by omega) (by omega)
  have h12 : 2 ^ 1128 ≤ 2 ^ 4200 := Nat.pow_le_pow_right (by omega) (by omega)
  exact (h7.mul h1).sm (Nat.lt_of_lt_of_le h9 h11) (Nat.lt_of_lt_of_le h10 h12)
section
variable {P : Program} {w : World} {K : PySem.W.Frag} {mg : Str → Option Value} {base : Heap}
/-- a new CertificateRows -/
theorem k_cert {σ : L2.St} {H : Hp} {ta tb tc : TE} {E : XK} {ns ord : List Str} {es : List (Str × Str)} {p : Str → Rat} {Q : VK} (h1 : EvP ta σ H (GrP K ns es)) (h2 : EvP tb σ H (PbP K ns p)) (h3 : EvP tc σ H (LstV (ord.map V.str))) (hp : ord.Perm ns)
    (k : ∀ x d H0 H', Ex H H0 → CertAt K H0 ns es p ord [[]] x d H' → Q x H') : tMake (CC K) (spCert K) [] E (tCons ta (tCons tb (tCons tc tNil))) σ H Q :=
  (eap_cons h1 (eap_cons h2 (eap_cons h3 eap_nil))) H (Ex.refl H) _ fun vs H2 e2 hvs => by
    obtain ⟨x, y, z, rfl, hx, hy, hz⟩ := all3 hvs
    intro o dx no ndx ne
    have e3 : Ex H2 (upd (upd H2 dx (.own o)) o (.ins (CC K) dx [])) := fun a u ha => by
      have nao : a ≠ o := ne_of_none ha no
      have nad : a ≠ dx := ne_of_none ha ndx
      rw [upd_ne nao, upd_ne nad]
      exact ha
    refine ⟨o, dx, x, y, z, ns, ord, es, p, rfl, hp, (GrP K ns es).up e3 hx, (PbP K ns p).up e3 hy, (LstV _).up e3 hz, upd_same, fun H' d us hfr hd ho hd2 hu => ⟨rfl, ?_⟩⟩
    have hd0 : H2 d = none := fresh_back e3 hd
    refine k _ d H2 H' e2 ⟨fun a u ha => hfr a u (ne_of_none ha no) (e3 _ _ ha), hd0, ⟨o, dx, x, y, z, rfl, ho, hx, hy, hz⟩, ⟨us, hd2, ?_⟩, KnOk.one, hp⟩
    show AllP [RatP K (q (adjB es) p [])] us H'
    rw [q_nil]
    exact hu
/-! value_of -/
abbrev sc_CertificateRows_value_ofN : List Str := ["self", "group", "last", "less", "far", "value", "share"]
theorem sc_CertificateRows_value_of : FnScope sc_CertificateRows_value_ofN ["self", "group"] (defScope s_CertificateRows_value_of) := ⟨rfl, rfl, rfl, by decide +kernel, rfl, by decide +kernel, by decide +kernel⟩
theorem bd_CertificateRows_value_of : Bnd "value_of" "CertificateRows.value_of" s_CertificateRows_value_of ["self", "group"] := fun _ _ _ _ _ _ us hl => match us, hl with | [_, _], _ => rfl
/-- what value_of promises, of groups shorter than n -/
def spVal (K : PySem.W.Frag) (n : Nat) : Sp := fun vs H Q _ => ∃ (H0 : Hp) (x y : V) (d : Addr) (ns : List Str) (es : List (Str × Str)) (p : Str → Rat) (ord g : List Str) (kn : List (List Str)), vs = [x, y] ∧ g.length < n ∧ CertAt K H0 ns es p ord kn x d H ∧ (tupS g).p y H ∧ List.Sublist g ns ∧ kn.length + 2 ^ g.length ≤ 5000 ∧
  ∀ (v : V) (H' : Hp) (kn' : List (List Str)), ExN d H H' → CertAt K H0 ns es p ord kn' x d H' → kn'.length + 1 ≤ kn.length + 2 ^ g.length → (∀ s ∈ kn, s ∈ kn') → (∀ s ∈ kn', s ∈ kn ∨ s.length ≤ g.length) → g ∈ kn' → (RatP K (q (adjB es) p g)).p v H' → Q v H'
theorem spVal_len (n : Nat) : ∀ vs H Q E, spVal K n vs H Q E → vs.length = ["self", "group"].length := fun vs H Q E h => by
  obtain ⟨_, _, _, _, _, _, _, _, _, _, rfl, _⟩ := h
  rfl
/-- a call of value_of -/
theorem k_val {σ : L2.St} {H0 H : Hp} {x : V} {d : Addr} {ns ord g : List Str} {es : List (Str × Str)} {p : Str → Rat} {kn : List (List Str)} {ta tb : TE} {E : XK} {n : Nat} {Q : VK} (hx : Ev ta σ H x) (c : CertAt K H0 ns es p ord kn x d H) (hy : EvP tb σ H (tupS g)) (hn : g.length < n) (hs : List.Sublist g ns) (hz : kn.length + 2 ^ g.length ≤ 5000)
    (k : ∀ (v : V) (H' : Hp) (kn' : List (List Str)), ExN d H H' → CertAt K H0 ns es p ord kn' x d H' → kn'.length + 1 ≤ kn.length + 2 ^ g.length → (∀ s ∈ kn, s ∈ kn') → (∀ s ∈ kn', s ∈ kn ∨ s.length ≤ g.length) → g ∈ kn' → (RatP K (q (adjB es) p g)).p v H' → Q v H') :
    tMeth (CC K) "value_of" (spVal K n) [] E ta (tCons tb tNil) σ H Q := hx H (Ex.refl H) _ fun H1 e1 => by
  have c1 := c.up e1
  obtain ⟨a, dx, gx, px, ox, rfl, ha, _⟩ := id c1.obj
  refine ⟨a, dx, _, rfl, ha, ccF_no _ _ _ _ (by decide +kernel) (by decide +kernel) (by decide +kernel) (by decide +kernel), ?_⟩
  refine (eap_cons hy eap_nil) H1 e1 _ fun vs H2 e2 hvs => ?_
  obtain ⟨y, rfl, hy2⟩ := all1 hvs
  exact ⟨H0, .ref a, y, d, ns, es, p, ord, g, kn, rfl, hn, c1.up e2, hy2, hs, hz, fun v H' kn' eN c' hl hsub hnew hg hv => k v H' kn' ((ExN.of (e1.trans e2)).trans eN) c' hl hsub hnew hg hv⟩
theorem fn_value_of (T : Tx K mg) {fd : FuncData} (F : FnP K "value_of" "CertificateRows.value_of" s_CertificateRows_value_of [] [] (He.ma K (CC K) "value_of") fd) : ∀ n : Nat, FnOk P w K mg base CX0 (5 + n) (He.ma K (CC K) "value_of") fd ["self", "group"] (spVal K n)
  | 0 => F.ok sc_CertificateRows_value_of (spVal_len 0) (fun cdv A outer s H vs Q E hr h => by
    obtain ⟨_, _, _, _, _, _, _, _, _, _, _, h, _⟩ := h
    exact absurd h (Nat.not_lt_zero _))
  | n + 1 => by
    have M : C8.Met P w K mg base (5 + n) (CC K) "value_of" (spVal K n) [] := ⟨_, fd, _, [], T.c_CertificateRows, T.m_CertificateRows_value_of, fn_value_of T F n, F.bindsN bd_CertificateRows_value_of, .nil⟩
    refine F.ok sc_CertificateRows_value_of (spVal_len (n + 1)) (fun cdv A outer s H vs Q E hr h => ?_)
    have hr : Room (5 + n) _ := hr
    obtain ⟨H0, x, y, d, ns, es, p, ord, g, kn, rfl, hn, c, hy, hs, hz, k⟩ := h
    refine ⟨_, PSs.nox (Evl.pss_cut (ps_if (pt_cmp (pc_dnotin (hu_of hr) (pv 1) (pe_fld (pv 0) rfl)))
        (pss_cons (ps_asg (C8.pe_c (ok_required_sets T) hr (by omega) rfl (pa_cons (pe_fld (pv 0) rfl) (pa_cons (pe_fld (pv 0) rfl) (pa_cons (pv 1) pa_nil)))) (pg_tup rfl (pgs_cons (pg_name (i := 2) sc_CertificateRows_value_of.nd rfl (Or.inl rfl)) (pgs_cons (pg_name (i := 3) sc_CertificateRows_value_of.nd rfl (Or.inl rfl)) (pgs_cons (pg_name (i := 4) sc_CertificateRows_value_of.nd rfl (Or.inl rfl)) pgs_nil)))))
      (pss_cons (ps_set (i := 5) sc_CertificateRows_value_of.nd rfl (Or.inl rfl) (C8.pe_mt M hr (by omega) (pv 0) (pa_cons (pv 3) pa_nil)))
      (pss_cons (ps_set (i := 6) sc_CertificateRows_value_of.nd rfl (Or.inl rfl) (C8.pe_mt (ok_Ratio_multiply T) hr (by omega) (pe_dget (hu_of hr) (pe_fld (pv 0) rfl) (pv 2) (fun _ _ => rfl)) (pa_cons (C8.pe_mt M hr (by omega) (pv 0) (pa_cons (pv 4) pa_nil)) pa_nil)))
      (pss_one (ps_dput (hu_of hr) (pe_fld (pv 0) rfl) (pv 1) (C8.pe_mt (ok_Ratio_subtract T) hr (by omega) (pv 5) (pa_cons (pv 6) pa_nil)) rfl))))) pss_nil)
      (pss_one (ps_ret (pe_dget (hu_of hr) (pe_fld (pv 0) rfl) (pv 1) (fun _ _ => rfl))))), ?_⟩
    obtain ⟨nok, eok, pok⟩ := c.gr
    have nd : g.Nodup := List.Sublist.nodup hs nok.nd
    have h8 := nok.hi
    have hgl := hs.length_le
    refine Evl.q_cut (M := fun σ' H' => ∃ u2 u3 u4 u5 u6 kn', σ' = [some x, some y, u2, u3, u4, u5, u6] ∧ ExN d H H' ∧ CertAt K H0 ns es p ord kn' x d H' ∧ kn'.length + 1 ≤ kn.length + 2 ^ g.length ∧ (∀ s ∈ kn, s ∈ kn') ∧ (∀ s ∈ kn', s ∈ kn ∨ s.length ≤ g.length) ∧ g ∈ kn' ∧ (tupS g).p y H') ?_ ?_
    · refine s_when (b := !decide (g ∈ kn)) (et_test (ev_tnotin (ep_var rfl hy) (ep_v (ev_cck T (ev_var rfl) c) c.knp))) (fun hb H1 e1 => ?_) (fun hb H1 e1 => ?_)
      · have hg : g ∉ kn := by simpa using hb
        have h0 : g ≠ [] := fun z => hg (by rw [z]; exact c.ok.nil)
        have hmem : lastOf ord g ∈ g := (last_mem (ord := ord) h0 fun s hs' => c.perm.mem_iff.mpr (hs.subset hs')).2
        have hlen := less_len nd hmem
        have hfl := (far_sub es ord g).length_le
        have hls : List.Sublist (lessOf ord g) ns := (less_sub ord g).trans hs
        have hfs : List.Sublist (farOf es ord g) ns := (far_sub es ord g).trans hls
        have hpow : 2 ^ g.length = 2 ^ (lessOf ord g).length + 2 ^ (lessOf ord g).length := by rw [← hlen, Nat.pow_succ, Nat.mul_two]
        have hpow2 : 2 ^ (farOf es ord g).length ≤ 2 ^ (lessOf ord g).length := Nat.pow_le_pow_right (by omega) hfl
        have hone : 1 ≤ 2 ^ (lessOf ord g).length := Nat.one_le_two_pow
        have c1 := c.up e1
        refine k_asg ?_
        refine ep_call (P := ReqP es ord g) (eap_cons (ep_ccg T (ev_var rfl) c1) (eap_cons (ep_cco T (ev_var rfl) c1) (eap_cons (ep_var rfl ((tupS g).up e1 hy)) eap_nil))) ⟨ns, ord, g, es, h0, c1.perm, hs, rfl, rfl⟩ H1 (Ex.refl H1) _ fun r H2 e2 hr2 => ?_
        obtain ⟨t, ts, rfl, ht, hts⟩ := hr2
        obtain ⟨_, lv, fv, rfl, rfl, hlv, hfv⟩ := all3 hts
        refine ⟨t, _, rfl, st_of ht, rfl, _, _, rfl, _, _, rfl, _, _, rfl, rfl, ?_⟩
        have c2 := c1.up e2
        refine k_asg (k_val (ev_var rfl) c2 (ep_var rfl hlv) (by omega) hls (by omega) fun v1 H3 kn1 n3 c3 hl3 hs3 hw3 hg3 hv1 => ?_)
        obtain ⟨us2, hd2, _⟩ := c2.dic
        obtain ⟨us3, hd3, _⟩ := c3.dic
        have hfv3 : (tupS (farOf es ord g)).p fv H3 := ExN.tup n3 hd2 hfv
        have hy3 : (tupS g).p y H3 := ExN.tup n3 hd2 ((tupS g).up (e1.trans e2) hy)
        refine k_asg ?_
        refine ep_pget (ep_ccp T (ev_var rfl) c3) (ev_var rfl) (hs.subset hmem) H3 (Ex.refl H3) _ fun sv H4 e4 hsv => ?_
        obtain ⟨sa, sdx, sfs, rfl, hsa, hno⟩ := rat_no (m := "multiply") (by decide +kernel) (by decide +kernel) hsv
        refine ⟨sa, sdx, sfs, rfl, hsa, hno, ?_⟩
        have c4 := c3.up e4
        obtain ⟨us4, hd4, _⟩ := c4.dic
        refine k_val (ev_var rfl) c4 (ep_var rfl ((tupS _).up e4 hfv3)) (by omega) hfs (by omega) fun v2 H5 kn2 n5 c5 hl5 hs5 hw5 hg5 hv2 => ?_
        have hv1' := ExN.ins n5 hd4 ((RatP K _).up e4 hv1)
        have hsv' := ExN.ins n5 hd4 hsv
        have hsmp : Sm (p (lastOf ord g)) := pok.sm (hs.subset hmem)
        have hsml : Sm (q (adjB es) p (lessOf ord g)) := q_sm pok (fun s h => hls.subset h) (by omega)
        have hsmf : Sm (q (adjB es) p (farOf es ord g)) := q_sm pok (fun s h => hfs.subset h) (by omega)
        have hsmm : Sm (p (lastOf ord g) * q (adjB es) p (farOf es ord g)) := far_sm pok (hs.subset hmem) (fun s h => hfs.subset h) (by omega)
        refine ⟨[RatP K (p (lastOf ord g)), RatP K (q (adjB es) p (farOf es ord g))], RatP K (p (lastOf ord g) * q (adjB es) p (farOf es ord g)), ⟨_, _, hsmp, hsmf, rfl, rfl⟩, ⟨hsv', hv2, trivial⟩, fun wv H6 e6 hwv => ?_⟩
        have c6 := c5.up e6
        have hy6 : (tupS g).p y H6 := (tupS g).up e6 (ExN.tup n5 hd4 ((tupS g).up e4 hy3))
        -- the row
        refine ep_sub (r := q (adjB es) p (lessOf ord g)) (s := p (lastOf ord g) * q (adjB es) p (farOf es ord g)) (ep_var rfl ((RatP K _).up e6 hv1')) (ep_var rfl hwv) hsml hsmm H6 (Ex.refl H6) _ fun nv H7 e7 hnv => ?_
        rw [← q_step nd hmem] at hnv
        have c7 := c6.up e7
        refine ev_cck T (ev_var rfl) c7 H7 (Ex.refl H7) _ fun H8 e8 => ?_
        refine ep_var (P := tupS g) rfl ((tupS g).up (e7.trans e8) hy6) H8 (Ex.refl H8) _ fun yv H9 e9 hyv => ?_
        have c9 := c7.up (e8.trans e9)
        have hnv9 := (RatP K _).up (e8.trans e9) hnv
        obtain ⟨us9, hd9, hu9⟩ := id c9.dic
        have hul : us9.length = kn2.length := by rw [hu9.len, List.length_map]
        obtain ⟨yb, eyb, hyb⟩ := hyv
        subst eyb
        have N0 : ExN d H H9 := ((ExN.of (e1.trans e2)).trans ((n3.trans (ExN.of e4)).trans (n5.trans (ExN.of ((e6.trans e7).trans (e8.trans e9))))))
        have hg2 : g ∉ kn2 := fun z => by
          rcases hw5 g z with z | z
          · rcases hw3 g z with z | z
            · exact hg z
            · omega
          · omega
        · refine ⟨d, _, rfl, DPut.t (k := g.map Sum.inr) hd9 (by rw [keyT_kV]; exact hyb) (by rw [zipT_len hul]; exact sz_lt (by omega)), ?_⟩
          rw [putK_zipT hul hg2]
          refine ⟨_, _, _, _, _, kn2 ++ [g], rfl, N0.trans ExN.upd, ?_, ?_, fun s h => List.mem_append_left _ (hs5 _ (hs3 _ h)), fun s h => ?_, by simp, ?_⟩
          · obtain ⟨q1, q2, ⟨a, dx, gx, px, ox, q3, q4, q5⟩, _, q8, q9⟩ := c9
            refine ⟨Ex.mut q1 q2, q2, ⟨a, dx, gx, px, ox, q3, by rw [upd_ne (fun zz => by rw [zz, hd9] at q4; cases q4)]; exact q4, q5⟩, ⟨_, upd_same, ?_⟩, q8.snoc hg2 hs (hs5 _ hg3) hg5, q9⟩
            rw [List.map_append]
            exact (ExN.rats ExN.upd hd9 hu9).append (AllP.one (ExN.ins ExN.upd hd9 hnv9))
          · rw [List.length_append]
            simp
            omega
          · rcases List.mem_append.mp h with h | h
            · rcases hw5 s h with h | h
              · rcases hw3 s h with h | h
                · exact .inl h
                · exact .inr (by omega)
              · exact .inr (by omega)
            · rw [List.mem_singleton.mp h]
              exact .inr (Nat.le_refl _)
          · exact ExN.tup ExN.upd hd9 ((tupS g).up (e7.trans (e8.trans e9)) hy6)
      · have hg : g ∈ kn := by simpa using hb
        exact ⟨_, _, _, _, _, kn, rfl, ExN.of e1, c.up e1, by have : 1 ≤ 2 ^ g.length := Nat.one_le_two_pow; omega, fun _ h => h, fun _ h => .inl h, hg, (tupS g).up e1 hy⟩
    · rintro σ' H' ⟨u2, u3, u4, u5, u6, kn', rfl, n', c', hl', hs', hw', hg', hy'⟩
      exact s_retP (ep_tget (ep_v (ev_cck T (ev_var rfl) c') c'.knp) (ep_var rfl hy') hg') fun v H2 e2 hv => k v H2 kn' (n'.trans (ExN.of e2)) (c'.up e2) hl' hs' hw' hg' hv
/-- value_of, at the level of the graphs here -/
theorem ok_CertificateRows_value_of (T : Tx K mg) : C8.Met P w K mg base 14 (CC K) "value_of" (spVal K 9) [] := by
  obtain ⟨fd, F⟩ := T.f_CertificateRows_value_of
  exact ⟨_, fd, _, [], T.c_CertificateRows, T.m_CertificateRows_value_of, fn_value_of T F 9, F.bindsN bd_CertificateRows_value_of, .nil⟩
/-! prefix -/
abbrev sc_CertificateRows_prefixN : List Str := ["self", "size", "name"]
theorem sc_CertificateRows_prefix : FnScope sc_CertificateRows_prefixN ["self", "size"] (defScope s_CertificateRows_prefix) := ⟨rfl, rfl, rfl, by decide +kernel, rfl, by decide +kernel, by decide +kernel⟩
theorem bd_CertificateRows_prefix : Bnd "prefix" "CertificateRows.prefix" s_CertificateRows_prefix ["self", "size"] := fun _ _ _ _ _ _ us hl => match us, hl with | [_, _], _ => rfl
def CertP (K : PySem.W.Frag) (H0 : Hp) (ns : List Str) (es : List (Str × Str)) (p : Str → Rat) (ord : List Str) (kn : List (List Str)) (d : Addr) : Pr := ⟨fun v H => CertAt K H0 ns es p ord kn v d H, fun e h => h.up e⟩
def R_prefix (K : PySem.W.Frag) (Ps : List Pr) (P : Pr) : Prop := ∃ (H0 : Hp) (ns : List Str) (es : List (Str × Str)) (p : Str → Rat) (ord : List Str) (kn : List (List Str)) (d : Addr) (k : Nat), k ≤ ord.length ∧ Ps = [CertP K H0 ns es p ord kn d, Is (.int (k : Int))] ∧ P = tupS (preOf ns ord k)
theorem ok_CertificateRows_prefix (T : Tx K mg) : C8.Met P w K mg base 2 (CC K) "prefix" (Fn (R_prefix K)) [] := by
  refine met_of sc_CertificateRows_prefix bd_CertificateRows_prefix (fn_len (n := 2) fun Ps P h => by obtain ⟨_, _, _, _, _, _, _, _, _, rfl, _⟩ := h; rfl) (fun f cdv A outer s H vs Q E hr h => ?_) T.c_CertificateRows T.m_CertificateRows_prefix T.f_CertificateRows_prefix
  obtain ⟨_, _, ⟨H0, ns, es, p, ord, kn, d, i, hi, rfl, rfl⟩, ha, k⟩ := h
  obtain ⟨x, _, rfl, hx, rfl⟩ := all2 ha
  have c : CertAt K H0 ns es p ord kn x d H := hx
  refine ⟨_, (pss_one (ps_ret (pe_callTy call_tuple_of (by rfl) T.b_tuple (by decide +kernel) (pa_cons (pe_lc (own := [("name", 2)]) (g := gName 2) (tt := (tTest (tOp (rIn K false) _ (tSl (rSlL K) (tFld K _ _) tNoPart (tPart _))))) (te := _) rfl sc_CertificateRows_prefix.nd (pi_list (C8.pe_mt0 (ok_Graph_names T) hr (by decide) (pe_fld (pv 0) rfl))) (blkOk_by (N := sc_CertificateRows_prefixN) (sc := defScope s_CertificateRows_prefix) (by decide +kernel)) (fun _ _ _ _ _ => (pg_name (i := 2) sc_CertificateRows_prefix.nd rfl (Or.inl rfl))) (fun _ _ _ _ _ => (pts_one (pt_cmpR op_in_seq (pv 2) (pe_slice sl_list (pe_fld (pv 0) rfl) po_none (po_some (pv 1))) (by rfl)))) (fun _ _ _ _ _ => (pv 2))) pa_nil)))), ?_⟩
  have h8 := c.gr.1.hi
  refine s_retP (P := tupS (preOf ns ord i)) (tpV (ep_tupOf (elp_lcL (f := fun s => Is (.str s)) (fun s => decide (s ∈ ord.take i)) (fun s => Is (.str s)) (epL (ep_names (ep_ccg T (ev_var rfl) c))) (by omega) (fun _ => rfl) (fun s v H2 hb e2 hv => by
      have hv : v = .str s := hv
      subst hv
      have c2 := c.up e2
      refine et_test (ev_inL (ev_var rfl) ?_)
      intro H3 e3 Q qq
      refine ep_cco (te := tVar 0) (σ := [some x, some (.int (i : Int)), some (.str s)]) T (ev_var rfl) c2 H3 e3 _ fun o H4 e4 ho => ?_
      obtain ⟨oa, rfl, hoa⟩ := ho
      have hsl := el_lp (el_sl (K := K) (σ := [some x, some (.int (i : Int)), some (.str s)]) (H := H4) (te := tC (.ref oa)) (tl := tNoPart) (th := tPart (tVar 1)) ev_c eo_none (eo_some (ev_var rfl)) (sq_of hoa))
      rw [cut_to _ _ hi] at hsl
      exact hsl H4 (Ex.refl H4) Q fun w H5 e5 hw => qq w H5 (e4.trans e5) hw) (fun s v H2 hb e2 hv _ => by
      have hv : v = .str s := hv
      subst hv
      exact ep (ev_var rfl))))) fun v H2 e2 hv => k v H2 e2 hv
/-! rows -/
abbrev sc_CertificateRows_rowsN : List Str := ["self"]
theorem sc_CertificateRows_rows : FnScope sc_CertificateRows_rowsN ["self"] (defScope s_CertificateRows_rows) := ⟨rfl, rfl, rfl, by decide +kernel, rfl, by decide +kernel, by decide +kernel⟩
theorem bd_CertificateRows_rows : Bnd "rows" "CertificateRows.rows" s_CertificateRows_rows ["self"] := fun _ _ _ _ _ _ us hl => match us, hl with | [_], _ => rfl
def rowP (K : PySem.W.Frag) (es : List (Str × Str)) (p : Str → Rat) (g : List Str) : Pr := TupP [tupS g, RatP K (q (adjB es) p g)]
def R_rows (K : PySem.W.Frag) (Ps : List Pr) (P : Pr) : Prop := ∃ (H0 : Hp) (ns : List Str) (es : List (Str × Str)) (p : Str → Rat) (ord : List Str) (kn : List (List Str)) (d : Addr), Ps = [CertP K H0 ns es p ord kn d] ∧ P = LstP (kn.map (rowP K es p))
theorem rows_of {es : List (Str × Str)} {p : Str → Rat} {H : Hp} : ∀ {kn : List (List Str)} {us : List V} {ts : List Addr}, us.length = kn.length → Paired (fun (t : Addr) (q : List Key × V) => ∃ b : Addr, H t = some (.tup [.ref b, q.2]) ∧ H b = some (.tup (q.1.map kV))) ts (zipT kn us) → AllP (kn.map fun g => RatP K (q (adjB es) p g)) us H → AllP (kn.map (rowP K es p)) (ts.map V.ref) H
  | [], [], _, _, h, _ => by
    have e : zipT [] [] = [] := rfl
    rw [e] at h
    cases h
    trivial
  | g :: kn, u :: us, _, hl, h, ha => by
    rw [zipT_cons] at h
    cases h with
    | @cons t q ts qs h t' =>
      obtain ⟨b, h1, h2⟩ := h
      rw [keyT_kV] at h2
      exact ⟨⟨t, _, rfl, h1, ⟨b, rfl, h2⟩, ha.1, trivial⟩, rows_of (by simpa using hl) t' ha.2⟩
  | [], _ :: _, _, hl, _, _ => by cases hl
  | _ :: _, [], _, hl, _, _ => by cases hl
theorem ep_listItems {σ : L2.St} {H : Hp} {te : TE} {es : List (Str × Str)} {p : Str → Rat} {kn : List (List Str)} (h : EvP te σ H (KnP K es p kn)) : EvP (tListItemsT te) σ H (LstP (kn.map (rowP K es p))) := fun H0 e0 Q q => h H0 e0 _ fun v H1 e1 hv => by
  obtain ⟨nd, d, us, rfl, hd, hu⟩ := hv
  exact ⟨d, _, rfl, hd, fun H2 l ts e2 hl hl2 hp => q _ H2 (e1.trans e2) ⟨l, _, rfl, hl2, rows_of (by rw [hu.len, List.length_map]) hp (hu.up e2)⟩⟩
theorem ok_CertificateRows_rows (T : Tx K mg) : C8.Met P w K mg base 1 (CC K) "rows" (Fn (R_rows K)) [] := by
  refine met_of sc_CertificateRows_rows bd_CertificateRows_rows (fn_len (n := 1) fun Ps P h => by obtain ⟨_, _, _, _, _, _, _, rfl, _⟩ := h; rfl) (fun f cdv A outer s H vs Q E hr h => ?_) T.c_CertificateRows T.m_CertificateRows_rows T.f_CertificateRows_rows
  obtain ⟨_, _, ⟨H0, ns, es, p, ord, kn, d, rfl, rfl⟩, ha, k⟩ := h
  obtain ⟨x, rfl, hx⟩ := all1 ha
  have c : CertAt K H0 ns es p ord kn x d H := hx
  refine ⟨_, (pss_one (ps_ret (pe_listItemsT rfl (pe_fld (pv 0) rfl) (by rfl) T.b_list (by decide +kernel)))), ?_⟩
  exact s_retP (ep_listItems (ep_v (ev_cck T (ev_var rfl) c) c.knp)) k
section
variable {σ : L2.St} {H0 H : Hp} {ns ord : List Str} {es : List (Str × Str)} {p : Str → Rat} {kn : List (List Str)} {x : V} {d : Addr} {ta tb : TE} {E : XK}
theorem cert_no {m : Str} (h1 : ¬ m = "of_graph") (h2 : ¬ m = "of_probabilities") (h3 : ¬ m = "of_order") (h4 : ¬ m = "known_values") {v : V} {H : Hp} (h : (CertP K H0 ns es p ord kn d).p v H) : ∃ a dx fs, v = .ref a ∧ H a = some (.ins (CC K) dx fs) ∧ fs.lookup m = none := by
  have c : CertAt K H0 ns es p ord kn v d H := h
  obtain ⟨a, dx, gx, px, ox, rfl, ha, _⟩ := c.obj
  exact ⟨a, dx, _, rfl, ha, ccF_no _ _ _ _ h1 h2 h3 h4⟩
theorem ep_prefix {k : Nat} (h : EvP ta σ H (CertP K H0 ns es p ord kn d)) (hk : Ev tb σ H (.int (k : Int))) (hl : k ≤ ord.length) : EvP (tMeth (CC K) "prefix" (Fn (R_prefix K)) [] E ta (tCons tb tNil)) σ H (tupS (preOf ns ord k)) :=
  ep_meth h (fun _ _ => cert_no (by decide +kernel) (by decide +kernel) (by decide +kernel) (by decide +kernel)) (eap_cons (ep hk) eap_nil) ⟨H0, ns, es, p, ord, kn, d, k, hl, rfl, rfl⟩
theorem ep_rows (h : EvP ta σ H (CertP K H0 ns es p ord kn d)) : EvP (tMeth (CC K) "rows" (Fn (R_rows K)) [] E ta tNil) σ H (LstP (kn.map (rowP K es p))) :=
  ep_meth h (fun _ _ => cert_no (by decide +kernel) (by decide +kernel) (by decide +kernel) (by decide +kernel)) eap_nil ⟨H0, ns, es, p, ord, kn, d, rfl, rfl⟩
end
end
end Rs
/-! find_certificate. -/
namespace Rs
open PySem PySem.Spec PyProof.Rows L2 Evl
theorem sgn_le (r : Rat) : decide (sgn r ≤ 0) = !decide (0 < r) := by
  have h := sgn_pos r
  by_cases z : 0 < r
  · rw [decide_eq_true z, decide_eq_false]
    · rfl
    · rw [h.mpr z]
      decide
  · rw [decide_eq_false z, decide_eq_true]
    · rfl
    · have : sgn r ≠ 1 := fun e => z (h.mp e)
      unfold sgn at *
      split
      · decide
      · split
        · rename_i h1 h2
          rw [if_neg h1, if_pos h2] at this
          exact absurd rfl this
        · decide
theorem sgn_gt (r : Rat) : decide (sgn r > 0) = decide (0 < r) := by
  have h := sgn_le r
  by_cases z : 0 < r
  · rw [decide_eq_true z] at h ⊢
    have h : decide (sgn r ≤ 0) = false := h
    have := of_decide_eq_false h
    exact decide_eq_true (by omega)
  · rw [decide_eq_false z] at h ⊢
    have h : decide (sgn r ≤ 0) = true := h
    have := of_decide_eq_true h
    exact decide_eq_false (by omega)
/-- a certificate -/
def verd (b : Bool) : Str := if b then "positive" else "not_positive"
structure CertOk (ns : List Str) (es : List (Str × Str)) (p : Str → Rat) (b : Bool) (ord : List Str) (kn : List (List Str)) : Prop where
  perm : ord.Perm ns
  kok : KnOk ns es ord kn
  len : kn.length ≤ 5000
  pos : b = true → ∀ k, k < ord.length → preOf ns ord (k + 1) ∈ kn ∧ 0 < q (adjB es) p (preOf ns ord (k + 1))
def CertV (K : PySem.W.Frag) (ns : List Str) (es : List (Str × Str)) (p : Str → Rat) (b : Bool) : Pr := ⟨fun v H => ∃ ord kn, CertOk ns es p b ord kn ∧ (TupP [Is (.str (verd b)), LstV (ord.map V.str), LstP (kn.map (rowP K es p))]).p v H, fun e h => by
  obtain ⟨ord, kn, h1, h2⟩ := h
  exact ⟨ord, kn, h1, (TupP _).up e h2⟩⟩
def FindV (K : PySem.W.Frag) (ns : List Str) (es : List (Str × Str)) (p : Str → Rat) : Pr := ⟨fun v H => ∃ b, (b = true ↔ Pos (adjB es) p ns) ∧ (CertV K ns es p b).p v H, fun e h => by
  obtain ⟨b, h1, h2⟩ := h
  exact ⟨b, h1, (CertV _ _ _ _ _).up e h2⟩⟩
section
variable {P : Program} {w : World} {K : PySem.W.Frag} {mg : Str → Option Value} {base : Heap}
theorem k_when {t : TT} {tu : TS} {D : Ends} {σ : L2.St} {H : Hp} (h : t σ H fun b H1 => if b = true then tu D σ H1 else D.nx σ H1) : tIfS t tu tNext D σ H := h
theorem k_test {te : TE} {σ : L2.St} {H : Hp} {Q : Bool → Hp → Prop} (h : te σ H fun v H1 => ∃ b, v = .bl b ∧ Q b H1) : tTest te σ H Q := h
theorem k_op {r : R2} {ta tb : TE} {σ : L2.St} {H : Hp} {Q : VK} (h : ta σ H fun x H1 => tb σ H1 fun y H2 => r x y H2 Q) : tOp r ta tb σ H Q := h
theorem k_meth0 {C : Addr} {m : Str} {sp : Sp} {dvs : List V} {E : XK} {ta : TE} {σ : L2.St} {H : Hp} {Q : VK} (h : ta σ H fun x H1 => ∃ a dx fs, x = .ref a ∧ H1 a = some (.ins C dx fs) ∧ fs.lookup m = none ∧ sp (x :: ([] ++ dvs)) H1 Q E) : tMeth C m sp dvs E ta tNil σ H Q := h
theorem sign_at {v : V} {H : Hp} {r : Rat} {E : XK} {Q : VK} (h : (RatP K r).p v H) (k : ∀ H2, Ex H H2 → Q (.int (sgn r)) H2) : ∃ a dx fs, v = .ref a ∧ H a = some (.ins (CR K) dx fs) ∧ fs.lookup ("sign" : Str) = none ∧ Fn (R_sign K) (v :: ([] ++ [])) H Q E := by
  obtain ⟨a, dx, fs, h1, h2, h3⟩ := rat_no (m := "sign") (by decide +kernel) (by decide +kernel) h
  exact ⟨a, dx, fs, h1, h2, h3, [RatP K r], _, ⟨r, rfl, rfl⟩, ⟨h, trivial⟩, fun w H2 e2 hw => by
    have hw : w = .int (sgn r) := hw
    rw [hw]
    exact k H2 e2⟩
abbrev sc_find_certificateN : List Str := ["graph", "probabilities", "order", "names", "collected", "size"]
theorem sc_find_certificate : FnScope sc_find_certificateN ["graph", "probabilities", "order"] (defScope s_find_certificate) := ⟨rfl, rfl, rfl, by decide +kernel, rfl, by decide +kernel, by decide +kernel⟩
def R_find (K : PySem.W.Frag) (Ps : List Pr) (P : Pr) : Prop := ∃ (ns : List Str) (es : List (Str × Str)) (p : Str → Rat),
  (Ps = [GrP K ns es, PbP K ns p, Is .non] ∧ P = FindV K ns es p) ∨
  ∃ ord : List Str, ord.Perm ns ∧ Ps = [GrP K ns es, PbP K ns p, LstV (ord.map V.str)] ∧ P = FindV K ns es p
theorem fn_find (T : Tx K mg) {fd : FuncData} (F : FnP K "find_certificate" "find_certificate" s_find_certificate [] [("order", .non)] (He.ga K "find_certificate") fd) :
    FnOk P w K mg base CX0 15 (He.ga K "find_certificate") fd ["graph", "probabilities", "order"] (Fn (R_find K)) := by
  refine F.ok sc_find_certificate (fn_len (n := 3) fun Ps P h => by
    obtain ⟨_, _, _, ⟨rfl, _⟩ | ⟨_, _, rfl, _⟩⟩ := h <;> rfl) (fun cdv A outer s H vs Q E hr h => ?_)
  obtain ⟨Ps, P', ⟨ns, es, p, hR⟩, ha, k⟩ := h
  obtain ⟨x, y, z, ord, b, hx, hy, rfl, hz0, hz, hperm, hord, rfl⟩ : ∃ (x y z : V) (ord : List Str) (b : Bool), (GrP K ns es).p x H ∧ (PbP K ns p).p y H ∧ vs = [x, y, z] ∧ decide (z = .non) = b ∧ (b = false → (LstV (ord.map V.str)).p z H) ∧ ord.Perm ns ∧ (b = true → ord = ns) ∧ P' = FindV K ns es p := by
    rcases hR with ⟨rfl, rfl⟩ | ⟨ord, h1, rfl, rfl⟩
    · obtain ⟨x, y, z, rfl, hx, hy, rfl⟩ := all3 ha
      exact ⟨x, y, _, ns, true, hx, hy, rfl, by decide, (fun z => nomatch z), .refl _, fun _ => rfl, rfl⟩
    · obtain ⟨x, y, z, rfl, hx, hy, hz⟩ := all3 ha
      refine ⟨x, y, z, ord, false, hx, hy, rfl, ?_, fun _ => hz, h1, (fun z => nomatch z), rfl⟩
      obtain ⟨a, rfl, _⟩ := hz
      exact decide_eq_false fun z => nomatch z
  refine ⟨_, PSs.nox (pss_cons (ps_expr (C8.pe_c (ok_need_graph T) hr (by decide) rfl (pa_cons (pv 0) pa_nil)))
      (pss_cons (ps_expr (C8.pe_c (ok_need_probabilities T) hr (by decide) rfl (pa_cons (pv 0) (pa_cons (pv 1) pa_nil))))
      (pss_cons (ps_if (PW.pt (pw_and (pt_cmpR op_notN (pv 2) pe_non (nomark _)) (pw_and1 (pt_not (pt_val (C8.pe_c (ok_is_order T) hr (by decide) rfl (pa_cons (pv 0) (pa_cons (pv 2) pa_nil))))))))
        pss_never pss_nil)
      (pss_cons (ps_set (i := 3) sc_find_certificate.nd rfl (Or.inl rfl) (pe_ifExp (pt_cmpR op_isN (pv 2) pe_non (nomark _)) (C8.pe_mt0 (ok_Graph_names T) hr (by decide) (pv 0)) (pe_callTy call_list_of (by rfl) T.b_list (by decide +kernel) (pa_cons (pv 2) pa_nil))))
      (pss_cons (ps_set (i := 4) sc_find_certificate.nd rfl (Or.inl rfl) (C8.pe_mk (ok_CertificateRows T) hr (by decide) rfl (pa_cons (pv 0) (pa_cons (pv 1) (pa_cons (pv 3) pa_nil)))))
      (pss_cons (ps_for PassesOwn.never rfl (pi_range2 rfl T.b_range (pa_cons pe_int (pa_cons (pe_op op_add (pe_callB call_len_seq (by rfl) T.b_len (by decide +kernel) (pa_cons (pv 3) pa_nil)) pe_int) pa_nil))) (pg_name (i := 5) sc_find_certificate.nd rfl (Or.inl rfl))
        (pss_one (ps_if (pt_cmpR op_le (C8.pe_mt0 (ok_Ratio_sign T) hr (by decide) (C8.pe_mt (ok_CertificateRows_value_of T) hr (by decide) (pv 4) (pa_cons (C8.pe_mt (ok_CertificateRows_prefix T) hr (by decide) (pv 4) (pa_cons (pv 5) pa_nil)) pa_nil))) pe_int (nomark _))
        (pss_one (ps_ret (pe_tup (pa_cons (C8.pe_gc rfl T.k_NOT_POSITIVE) (pa_cons (pv 3) (pa_cons (C8.pe_mt0 (ok_CertificateRows_rows T) hr (by decide) (pv 4)) pa_nil)))))) pss_nil)))
      (pss_one (ps_ret (pe_tup (pa_cons (C8.pe_gc rfl T.k_POSITIVE) (pa_cons (pv 3) (pa_cons (C8.pe_mt0 (ok_CertificateRows_rows T) hr (by decide) (pv 4)) pa_nil)))))))))))), ?_⟩
  have hn := hx.1
  have ok := hy.1
  have h8 := hn.hi
  have hl := hperm.length_eq
  refine q_drop (ev_need_graph (ep_var rfl hx)) fun H1 e1 => ?_
  refine q_drop (ev_need_prob (ep_var rfl ((GrP K ns es).up e1 hx)) (ep_var rfl ((PbP K ns p).up e1 hy))) fun H2 e2 => ?_
  have e02 := e1.trans e2
  refine q_not (et_is (et_and (a := !b) (b := false) (et_test (ev_op2 (ev_var rfl) ev_c fun _ _ Q q => ⟨rfl, by rw [hz0]; exact q⟩)) fun hb => ?_) (by simp)) fun H3 e3 => ?_
  · have hb' : b = false := by cases b with
      | true => cases hb
      | false => rfl
    exact et_not (a := true) (et_B (ev (ep_call (eap_cons (ep_var rfl ((GrP K ns es).up e02 hx)) (eap_cons (ep_var rfl ((LstV _).up e02 (hz hb'))) eap_nil)) ⟨ns, ord, es, hperm, rfl, rfl⟩)))
  have e03 := e02.trans e3
  refine q_asgP (P := LstV (ord.map V.str)) (ep_if (b := b) (et_test (ev_op2 (ev_var rfl) ev_c fun _ _ Q q => ⟨rfl, by rw [hz0]; exact q⟩)) (fun hb => ?_) (fun hb => el_lp (elp_listV (ep_var rfl ((LstV _).up e03 (hz hb)))))) fun nv H4 e4 hnv => ?_
  · rw [hord hb]
    exact ep_names (ep_var rfl ((GrP K ns es).up e03 hx))
  have e04 := e03.trans e4
  refine k_asg (k_cert (ep_var rfl ((GrP K ns es).up e04 hx)) (ep_var rfl ((PbP K ns p).up e04 hy)) (ep_var rfl hnv) hperm fun cx d H0 H5 e5 c5 => ?_)
  have hnv0 := (LstV _).up e5 hnv
  refine q_forR2 (lo := 1) (n := (ord.length : Int) + 1) (ea_cons ev_c (ea_cons (ev_is (ev_i0 (ev_lenLV (ep_var rfl ((LstV _).up c5.ex hnv0))) ev_c) (by rw [List.length_map])) ea_nil)) (by omega)
    (fun i σ' H' => ∃ u5 kn, σ' = [some x, some y, some z, some nv, some cx, u5] ∧ CertAt K H0 ns es p ord kn cx d H' ∧ kn.length ≤ 1 + i * 256 ∧ ∀ k, k < i → preOf ns ord (k + 1) ∈ kn ∧ 0 < q (adjB es) p (preOf ns ord (k + 1)))
    (fun H6 e6 => ⟨_, _, rfl, c5.up e6, by simp, fun k hk => absurd hk (Nat.not_lt_zero _)⟩) ?_ ?_
  · rintro i σ' H6 hi ⟨u5, kn, rfl, c6, hkl, hk6⟩
    have hil : i < ord.length := by omega
    have ei : (1 : Int) + (i : Int) = ((i + 1 : Nat) : Int) := by omega
    rw [ei]
    have hsub := pre_sub ns ord (i + 1)
    have hpl := hsub.length_le
    have h256 : 2 ^ (preOf ns ord (i + 1)).length ≤ 2 ^ 8 := Nat.pow_le_pow_right (by omega) (by omega)
    refine k_when (k_test (k_op (k_meth0 (k_val (ev_var rfl) c6 (ep_prefix (ep_var (P := CertP K H0 ns es p ord kn d) rfl c6) (ev_var rfl) (by omega)) (by omega) hsub (by omega) fun v H7 kn' n7 c7 hl7 hs7 _ hg7 hv7 => sign_at hv7 fun H8 e8 => ?_))))
    have c8 := c7.up e8
    have hle := sgn_le (q (adjB es) p (preOf ns ord (i + 1)))
    refine ⟨_, _, rfl, rfl, _, rfl, ?_⟩
    by_cases hq : 0 < q (adjB es) p (preOf ns ord (i + 1))
    · rw [decide_eq_true hq] at hle
      have hle : decide (sgn (q (adjB es) p (preOf ns ord (i + 1))) ≤ 0) = false := hle
      rw [if_neg (by rw [hle]; exact Bool.false_ne_true)]
      refine ⟨_, kn', rfl, c8, by omega, fun k hk => ?_⟩
      rcases Nat.lt_or_ge k i with h | h
      · exact ⟨hs7 _ (hk6 k h).1, (hk6 k h).2⟩
      · have : k = i := by omega
        subst this
        exact ⟨hg7, hq⟩
    · rw [decide_eq_false hq] at hle
      have hle : decide (sgn (q (adjB es) p (preOf ns ord (i + 1))) ≤ 0) = true := hle
      rw [if_pos hle]
      exact s_retP (ep_tup (eap_cons (ep ev_c) (eap_cons (ep_var rfl ((LstV _).up c8.ex hnv0)) (eap_cons (ep_rows (ep_var (P := CertP K H0 ns es p ord kn' d) rfl c8)) eap_nil))) (by simp)) fun v H9 e9 hv => k v H9 ((e04.trans e5).trans (c8.ex.trans e9)) ⟨false, ⟨(fun z => nomatch z), fun z => absurd (pre_of_pos z (i + 1)) hq⟩, ord, kn', ⟨hperm, c8.ok, by omega, fun z => nomatch z⟩, hv⟩
  · rintro σ' H6 ⟨u5, kn, rfl, c6, hkl, hk6⟩
    have hlen : ((ord.length : Int) + 1 - 1).toNat = ord.length := by omega
    rw [hlen] at hkl hk6
    refine s_retP (ep_tup (eap_cons (ep ev_c) (eap_cons (ep_var rfl ((LstV _).up c6.ex hnv0)) (eap_cons (ep_rows (ep_var (P := CertP K H0 ns es p ord kn d) rfl c6)) eap_nil))) (by simp)) fun v H7 e7 hv => k v H7 ((e04.trans e5).trans (c6.ex.trans e7)) ⟨true, ⟨fun _ => pos_of_pre hn.nd hperm ok.lo fun k hk => (hk6 k hk).2, fun _ => rfl⟩, ord, kn, ⟨hperm, c6.ok, by omega, fun _ => hk6⟩, hv⟩
theorem ok_find_certificate (T : Tx K mg) : C8.Cal P w K mg base 15 "find_certificate" (Fn (R_find K)) [.non] := by
  obtain ⟨fd, F⟩ := T.f_find_certificate
  obtain ⟨ds, h1, h2⟩ := FunD.binds0 (ps := ["graph", "probabilities", "order"]) F 2 (by simp) rfl fun D doc pm an cdv ct us ks l1 l2 => match us, ks, l1, l2 with
    | [_, _], [_], _, _ => ⟨_, _, _, _, _, _, rfl, rfl, rfl⟩
  exact ⟨_, fd, _, ds, fn_find T F, T.g_find_certificate, F.kp, h2, h1⟩
theorem okk_find_certificate (T : Tx K mg) : CalK P w K mg base 15 "find_certificate" 2 ["order"] (Fn (R_find K)) (fun vs zs => vs ++ zs) := by
  obtain ⟨fd, F⟩ := T.f_find_certificate
  exact ⟨_, fd, ["graph", "probabilities", "order"], _, fn_find T F, T.g_find_certificate, F.kp, kb0 F 2 ["order"] fun kV doc pm an cdv ct us ws l1 l2 => match us, ws, l1, l2 with
    | [_, _], [_], _, _ => rfl⟩
section
variable {σ : L2.St} {H H' : Hp} {ta tb tc : TE} {E : XK} {ns ord : List Str} {es : List (Str × Str)} {p : Str → Rat}
theorem ep_find (h1 : EvP ta σ H (GrP K ns es)) (h2 : EvP tb σ H (PbP K ns p)) : EvP (tCall (Fn (R_find K)) [.non] E (tCons ta (tCons tb tNil))) σ H (FindV K ns es p) :=
  ep_callD (Ds := [Is .non]) (eap_cons h1 (eap_cons h2 eap_nil)) (fun H => ⟨rfl, trivial⟩) ⟨ns, es, p, .inl ⟨rfl, rfl⟩⟩
theorem ep_findO {n m : Nat} (h1 : EvP ta σ H (GrP K ns es)) (h2 : EvP tb σ H (PbP K ns p)) (h3 : EvP tc σ H (LstV (ord.map V.str))) (hp : ord.Perm ns) (hn : n = 2) (hk : m = 1) : EvP (tCallN n m (Fn (R_find K)) (fun vs zs => vs ++ zs) E (tCons ta (tCons tb tNil)) (tCons tc tNil)) σ H (FindV K ns es p) :=
  ep_callK (eap_cons h1 (eap_cons h2 eap_nil)) (eap_cons h3 eap_nil) hn.symm hk.symm ⟨ns, es, p, .inr ⟨ord, hp, rfl, rfl⟩⟩
end
end
end Rs
/-! is_row, row_holds. -/
namespace Rs
open PySem PySem.Spec PyProof.Rows L2 Evl
/-! ### places of a sublist -/
theorem idx_pw {g ns : List Str} (nd : ns.Nodup) (h : List.Sublist g ns) : (g.map ns.idxOf).Pairwise (· < ·) := by
  obtain ⟨is, rfl, hp⟩ := List.sublist_eq_map_getElem h
  rw [List.map_map]
  refine (List.pairwise_map).mpr (hp.imp fun {a b} hab => ?_)
  show ns.idxOf (ns[a.val]'a.isLt) < ns.idxOf (ns[b.val]'b.isLt)
  rw [nd.idxOf_getElem, nd.idxOf_getElem]
  exact hab
theorem zip_pw : ∀ {ms : List Nat}, ms.Pairwise (· < ·) → ((ms.zip (ms.drop 1)).all fun z => decide (z.1 < z.2)) = true
  | [], _ => rfl
  | [_], _ => rfl
  | a :: b :: ms, h => by
    have h2 := (List.pairwise_cons.mp h)
    have ih := zip_pw h2.2
    show ((a, b) :: ((b :: ms).zip ms)).all _ = true
    rw [List.all_cons, decide_eq_true (h2.1 b List.mem_cons_self)]
    exact ih
section
variable {P : Program} {w : World} {K : PySem.W.Frag} {mg : Str → Option Value} {base : Heap}
section
variable {σ : L2.St} {H H' : Hp} {ta tb te tx : TE} {tt : TT} {E : XK}
theorem ev_isTup {Ps : List Pr} (h : EvP ta σ H (TupP Ps)) : Ev (tCB (rIsi K) (tCons ta (tCons (tC (.ty "tuple")) tNil))) σ H (.bl true) := fun H1 e Q q =>
  h H1 e _ fun x H2 e2 hx => by
    obtain ⟨a, us, rfl, h1, h2⟩ := hx
    exact ⟨_, _, _, _, true, rfl, .ty _, .base (.tup h1), kit_ty (by decide +kernel), q H2 e2⟩
/-- over zip of two lists of ints -/
theorem elp_zipI {f : Nat × Nat → Pr} [st : ∀ a, Stab (f a)] {ms ks : List Nat} {j1 j2 : Nat} {vs : List Nat} (ha : EvP ta σ H (LstV (ms.map fun i : Nat => V.int (i : Int)))) (hb : EvP tb σ H (LstV (ks.map fun i : Nat => V.int (i : Int)))) (hz : ms.length ≤ 40000) (hw : ∀ x y, wipe (((wipe σ vs).set j1 (some x)).set j2 (some y)) vs = wipe σ vs)
    (he : ∀ a H1, Ex H H1 → EvP te (((wipe σ vs).set j1 (some (.int (a.1 : Int)))).set j2 (some (.int (a.2 : Int)))) H1 (f a)) :
    EvLP (tLc (iZip K (tCons ta (tCons tb tNil))) (gTup K 2 (gCons (gName j1) (gCons (gName j2) gNil))) tYes te vs) σ H ((ms.zip ks).map f) := fun H0 e Q q => ha H0 e _ fun v1 H1 e1 h1 => hb H1 (e.trans e1) _ fun v2 H2 e2 h2 => by
  obtain ⟨a, rfl, h1⟩ := h1
  obtain ⟨b, rfl, h2⟩ := h2
  have h1' := e2 _ _ h1
  refine ⟨a, b, _, _, rfl, sq_of h1', sq_of h2, ?_⟩
  have hlen : (ms.zip ks).length = min ((ms.map fun i : Nat => V.int (i : Int))).length ((ks.map fun i : Nat => V.int (i : Int))).length := by rw [List.length_zip, List.length_map, List.length_map]
  have := elp_walk (σ := σ) (J := Itz K a b) (g := gTup K 2 (gCons (gName j1) (gCons (gName j2) gNil))) (vs := vs) (tt := tYes) (te := te) (L := ms.zip ks) (f := f) (G := fun H => SqL K H a (ms.map fun i : Nat => V.int (i : Int)) ∧ SqL K H b (ks.map fun i : Nat => V.int (i : Int))) (Y := YPair (fun i => (ms.map fun i : Nat => V.int (i : Int))[i]?) (fun i => (ks.map fun i : Nat => V.int (i : Int))[i]?)) (walk_zip hlen) (fun _ => true) (fun c τ H => τ = ((wipe σ vs).set j1 (some (.int (c.1 : Int)))).set j2 (some (.int (c.2 : Int)))) (by rw [List.length_zip]; omega) H2 (fun H e => ⟨sq_of (e _ _ h1'), sq_of (e _ _ h2)⟩) (?_) (fun _ _ _ _ _ _ => et_yes) (?_) (Ex.refl H2) (Q := Q) (fun p' vs' H3 hp e3 h3 h4 => q p' vs' H3 (fresh_back (e1.trans e2) hp) ((e1.trans e2).trans e3) h3 (by rw [filter_yes] at h4; exact h4))
  · exact this
  · rintro i c x H H' hb' e' ⟨t, y, z, rfl, ht, rfl, hy, hz'⟩
    obtain ⟨c1, c2⟩ := c
    obtain ⟨k1, k2⟩ := List.getElem?_zip_eq_some.mp hb'
    have hy : (ms.map fun i : Nat => V.int (i : Int))[i]? = some y := hy
    have hz' : (ks.map fun i : Nat => V.int (i : Int))[i]? = some z := hz'
    rw [List.getElem?_map, k1] at hy
    rw [List.getElem?_map, k2] at hz'
    cases hy
    cases hz'
    exact ⟨_, Ex.new ht, hw _ _, rfl, fun Q q => ⟨t, _, rfl, st_of upd_same, rfl, _, _, rfl, _, _, rfl, rfl, q⟩⟩
  · rintro c τ H' _ e' rfl _
    exact he c H' ((e.trans (e1.trans e2)).trans e')
end
abbrev sc_is_rowN : List Str := ["graph", "row", "positions", "name", "one", "other"]
theorem sc_is_row : FnScope sc_is_rowN ["graph", "row"] (defScope s_is_row) := ⟨rfl, rfl, rfl, by decide +kernel, rfl, by decide +kernel, by decide +kernel⟩
theorem bd_is_row : Bnd "is_row" "is_row" s_is_row ["graph", "row"] := fun _ _ _ _ _ _ us hl => match us, hl with | [_, _], _ => rfl
def R_is_row (K : PySem.W.Frag) (Ps : List Pr) (P : Pr) : Prop := ∃ (ns : List Str) (es : List (Str × Str)) (p : Str → Rat) (g : List Str), List.Sublist g ns ∧ Ps = [GrP K ns es, rowP K es p g] ∧ P = Is (.bl true)
theorem ok_is_row (T : Tx K mg) : C8.Cal P w K mg base 2 "is_row" (Fn (R_is_row K)) [] := by
  refine cal_of sc_is_row bd_is_row (fn_len (n := 2) fun Ps P h => by obtain ⟨_, _, _, _, _, rfl, _⟩ := h; rfl) (fun f cdv A outer s H vs Q E hr h => ?_) T.g_is_row T.f_is_row
  obtain ⟨_, _, ⟨ns, es, p, g, hs, rfl, rfl⟩, ha, k⟩ := h
  obtain ⟨x, y, rfl, hx, hy⟩ := all2 ha
  refine ⟨_, (pss_cons (ps_if (PW.pt (pw_or (pt_not (pt_val (pe_callB call_isi (by rfl) T.b_isinstance (by decide +kernel) (pa_cons (pv 1) (pa_cons (pe_bltn (v := .ty "tuple") (by rfl) T.b_tuple (by decide +kernel) rfl) pa_nil))))) (pw_or (pt_cmpR op_ne (pe_callB call_len_seq (by rfl) T.b_len (by decide +kernel) (pa_cons (pv 1) pa_nil)) pe_int (nomark _)) (pw_or (pt_not (pt_val (pe_callB call_isi (by rfl) T.b_isinstance (by decide +kernel) (pa_cons (pe_ix ix_tup (pv 1) pe_int (fun _ _ => rfl)) (pa_cons (pe_bltn (v := .ty "tuple") (by rfl) T.b_tuple (by decide +kernel) rfl) pa_nil))))) (pw_or1 (pt_not (pt_val (pe_callB call_isi (by rfl) T.b_isinstance (by decide +kernel) (pa_cons (pe_ix ix_tup (pv 1) pe_int (fun _ _ => rfl)) (pa_cons (pe_glob (v := .ref (He.ga _ "Ratio")) rfl T.g_Ratio rfl) pa_nil))))))))))
        (pss_one (ps_ret pe_bl)) pss_nil)
      (pss_cons (ps_if (pt_not (pt_val (pe_callB (cr_all rfl) (by rfl) T.b_all (by decide +kernel) (pa_cons (pe_lc (own := [("name", 3)]) (g := gName 3) (tt := tYes) (te := (tCall _ _ _ (tCons (tMeth _ _ _ _ _ _ tNil) (tCons _ tNil)))) rfl sc_is_row.nd (pi_tup (pe_ix ix_tup (pv 1) pe_int (fun _ _ => rfl))) (blkOk_by (N := sc_is_rowN) (sc := defScope s_is_row) (by decide +kernel)) (fun _ _ _ _ _ => (pg_name (i := 3) sc_is_row.nd rfl (Or.inl rfl))) (fun _ _ _ _ _ => pts_nil) (fun _ _ _ _ _ => (C8.pe_c (ok_is_known T) hr (by decide) rfl (pa_cons (C8.pe_mt0 (ok_Graph_names T) hr (by decide) (pv 0)) (pa_cons (pv 3) pa_nil))))) pa_nil))))
        (pss_one (ps_ret pe_bl)) pss_nil)
      (pss_cons (ps_setLc (i := 2) (own := [("name", 3)]) (g := gName 3) (tt := tYes) (te := (tBM K _ (rIndex K) (tMeth _ _ _ _ _ _ tNil) (tCons _ tNil))) rfl sc_is_row.nd rfl rfl (sw_true rfl rfl rfl (by decide +kernel)) (pi_tup (pe_ix ix_tup (pv 1) pe_int (fun _ _ => rfl))) (blkOk_by (N := sc_is_rowN) (sc := defScope s_is_row) (by decide +kernel)) (fun _ _ _ _ _ => (pg_name (i := 3) sc_is_row.nd rfl (Or.inl rfl))) (fun _ _ _ _ _ => pts_nil) (fun _ _ _ _ _ => (pe_bm PySem.F.plainAttrs_list PySem.F.slot_list_index PySem.F.type_list_index mt_index (C8.pe_mt0 (ok_Graph_names T) hr (by decide) (pv 0)) (pa_cons (pv 3) pa_nil))))
      (pss_one (ps_ret (pe_callB (cr_all rfl) (by rfl) T.b_all (by decide +kernel) (pa_cons (pe_lc (own := [("one", 4), ("other", 5)]) (g := gTup K 2 (gCons (gName 4) (gCons (gName 5) gNil))) (tt := tYes) (te := (tOp _ _ _)) rfl sc_is_row.nd (pi_zip (by rfl) T.b_zip (pa_cons (pv 2) (pa_cons (pe_slice sl_list (pv 2) (po_some pe_int) po_none) pa_nil))) (blkOk_by (N := sc_is_rowN) (sc := defScope s_is_row) (by decide +kernel)) (fun _ _ _ _ _ => (pg_tup rfl (pgs_cons (pg_name (i := 4) sc_is_row.nd rfl (Or.inl rfl)) (pgs_cons (pg_name (i := 5) sc_is_row.nd rfl (Or.inl rfl)) pgs_nil)))) (fun _ _ _ _ _ => pts_nil) (fun _ _ _ _ _ => (pe_cmpR op_lt (pv 4) (pv 5) (nomark _)))) pa_nil))))))), ?_⟩
  have hn := hx.1
  have h8 := hn.hi
  have hgl := hs.length_le
  have row : ∀ {σ : L2.St} {H1 : Hp} {te : TE}, Ex H H1 → Ev te σ H1 y → EvP te σ H1 (rowP K es p g) := fun e h => ep_v h ((rowP K es p g).up e hy)
  have r0 : ∀ {σ : L2.St} {H1 : Hp} {te : TE}, Ex H H1 → Ev te σ H1 y → EvP (tOp (rIxT K) te (tC (.int 0))) σ H1 (tupS g) := fun e h => ep_ixT (k := 0) (row e h) ev_c rfl (at_k 0)
  have r1 : ∀ {σ : L2.St} {H1 : Hp} {te : TE}, Ex H H1 → Ev te σ H1 y → EvP (tOp (rIxT K) te (tC (.int 1))) σ H1 (RatP K (q (adjB es) p g)) := fun e h => ep_ixT (k := 1) (row e h) ev_c rfl (at_k 1)
  refine q_not (et_or (a := false) (b := false) (et_not (a := true) (et_B (ev_isTup (row (Ex.refl H) (ev_var rfl))))) fun _ => et_or (a := false) (b := false) (et_is (et_test (ev_ne (ev_lenT (row (Ex.refl H) (ev_var rfl))) ev_c rfl)) (by simp)) fun _ => et_or (a := false) (b := false) (et_not (a := true) (et_B (ev_isTup (epT (r0 (Ex.refl H) (ev_var rfl)))))) fun _ => et_not (a := true) (et_B (ev_isIns (r1 (Ex.refl H) (ev_var rfl)) T.i_Ratio))) fun H1 e1 => ?_
  have hall : EvLP (tLc (iTup K (tOp (rIxT K) (tVar 1) (tC (.int 0)))) (gName 3) tYes (tCall (Fn R_is_known) [] E0 (tCons (tMeth (CG K) "names" (Fn (R_Graph_names K)) [] E0 (tVar 0) tNil) (tCons (tVar 3) tNil))) [3]) [some x, some y, none, none, none, none] H1 (g.map fun s => Is (.bl true)) := by
    have := elp_lcT (K := K) (σ := [some x, some y, none, none, none, none]) (H := H1) (L := g) (f := fun s => Is (.bl true)) (tt := tYes) (te := tCall (Fn R_is_known) [] E0 (tCons (tMeth (CG K) "names" (Fn (R_Graph_names K)) [] E0 (tVar 0) tNil) (tCons (tVar 3) tNil))) (j := 3) (vs := [3]) (fun _ => true) (fun s => Is (.str s)) (tl := tOp (rIxT K) (tVar 1) (tC (.int 0))) (epT (r0 e1 (ev_var rfl))) (by omega) (fun _ => rfl) (fun _ _ _ _ _ _ => et_yes)
      (fun s v H7 hm e7 hv _ => by
        have hv : v = .str s := hv
        subst hv
        exact ep (ev_is (ev_is_known (ep_names (ep_var rfl ((GrP K ns es).up (e1.trans e7) hx))) (ev_var rfl)) (by rw [decide_eq_true (hs.subset hm)])))
    rw [filter_yes] at this
    exact this
  refine q_not (et_not (a := true) (et_B (ev_is (ev_all (p := fun _ => true) hall) (by simp)))) fun H2 e2 => ?_
  have e02 := e1.trans e2
  have hpos : EvLP (tLc (iTup K (tOp (rIxT K) (tVar 1) (tC (.int 0)))) (gName 3) tYes (tBM K "list" (rIndex K) (tMeth (CG K) "names" (Fn (R_Graph_names K)) [] E0 (tVar 0) tNil) (tCons (tVar 3) tNil)) [3]) [some x, some y, none, none, none, none] H2 (g.map fun s => Is (.int (ns.idxOf s : Nat))) := by
    have := elp_lcT (K := K) (σ := [some x, some y, none, none, none, none]) (H := H2) (L := g) (f := fun s => Is (.int (ns.idxOf s : Nat))) (tt := tYes) (te := tBM K "list" (rIndex K) (tMeth (CG K) "names" (Fn (R_Graph_names K)) [] E0 (tVar 0) tNil) (tCons (tVar 3) tNil)) (j := 3) (vs := [3]) (fun _ => true) (fun s => Is (.str s)) (tl := tOp (rIxT K) (tVar 1) (tC (.int 0))) (epT (r0 e02 (ev_var rfl))) (by omega) (fun _ => rfl) (fun _ _ _ _ _ _ => et_yes)
      (fun s v H7 hm e7 hv _ => by
        have hv : v = .str s := hv
        subst hv
        exact ep (ev_index (ep_names (ep_var rfl ((GrP K ns es).up (e02.trans e7) hx))) (ev_var rfl) (hs.subset hm)))
    rw [filter_yes] at this
    exact this
  refine q_asgP (P := LstV ((g.map ns.idxOf).map fun i : Nat => V.int (i : Int))) (ep_to hpos.lst fun v H3 _ hv => ?_) fun pv H3 e3 hpv => ?_
  · obtain ⟨a, us, rfl, h1, h2⟩ := hv
    refine ⟨a, rfl, ?_⟩
    rw [h1, allIs (f := fun s : Str => V.int (ns.idxOf s : Nat)) h2, List.map_map]
    rfl
  obtain ⟨pa, rfl, hpa⟩ := id hpv
  have hsl : EvP (tSl (rSlL K) (tVar 2) (tPart (tC (.int 1))) tNoPart) [some x, some y, some (.ref pa), none, none, none] H3 (LstV (((g.map ns.idxOf).drop 1).map fun i : Nat => V.int (i : Int))) := by
    have := el_lp (el_sl (K := K) (σ := [some x, some y, some (.ref pa), none, none, none]) (H := H3) (te := tVar 2) (tl := tPart (tC (.int 1))) (th := tNoPart) (ev_var rfl) (eo_some ev_c) eo_none (sq_of hpa))
    rcases Nat.eq_zero_or_pos (g.map ns.idxOf).length with h0 | h0
    · have hz : g.map ns.idxOf = [] := List.length_eq_zero_iff.mp h0
      rw [hz] at this ⊢
      exact this
    · have hc := cut_from (fun i : Nat => V.int (i : Int)) (g.map ns.idxOf) (i := 1) h0
      have hc' : cutV ((g.map ns.idxOf).map fun i : Nat => V.int (i : Int)) (some 1) none = ((g.map ns.idxOf).drop 1).map fun i : Nat => V.int (i : Int) := hc
      rw [hc'] at this
      exact this
  refine s_ret (v := .bl true) (ev_is (ev_all (p := fun z : Nat × Nat => decide (z.1 < z.2)) (elp_zipI (f := fun z => Is (.bl (decide (z.1 < z.2)))) (ep_var rfl hpv) hsl (by rw [List.length_map]; omega) (fun _ _ => rfl) fun a H4 e4 => ep (ev_is (ev_i0 (ev_var rfl) (ev_var rfl)) (by congr 1; exact decide_eq_decide.mpr (by omega))))) (by rw [zip_pw (idx_pw hn.nd hs)])) fun H4 e4 => k _ H4 ((e02.trans e3).trans e4) rfl
/-! row_holds -/
abbrev sc_row_holdsN : List Str := ["graph", "probabilities", "order", "known", "row", "group", "value", "last", "less", "far"]
theorem sc_row_holds : FnScope sc_row_holdsN ["graph", "probabilities", "order", "known", "row"] (defScope s_row_holds) := ⟨rfl, rfl, rfl, by decide +kernel, rfl, by decide +kernel, by decide +kernel⟩
theorem bd_row_holds : Bnd "row_holds" "row_holds" s_row_holds ["graph", "probabilities", "order", "known", "row"] := fun _ _ _ _ _ _ us hl => match us, hl with | [_, _, _, _, _], _ => rfl
def R_row_holds (K : PySem.W.Frag) (Ps : List Pr) (P : Pr) : Prop := ∃ (ns : List Str) (es : List (Str × Str)) (p : Str → Rat) (ord g : List Str) (kn : List (List Str)), ord.Perm ns ∧ List.Sublist g ns ∧ (∀ s ∈ kn, List.Sublist s ns) ∧ g ∉ kn ∧ (g ≠ [] → lessOf ord g ∈ kn ∧ farOf es ord g ∈ kn) ∧
  Ps = [GrP K ns es, PbP K ns p, LstV (ord.map V.str), KnP K es p kn, rowP K es p g] ∧ P = Is (.bl true)
theorem ok_row_holds (T : Tx K mg) : C8.Cal P w K mg base 5 "row_holds" (Fn (R_row_holds K)) [] := by
  refine cal_of sc_row_holds bd_row_holds (fn_len (n := 5) fun Ps P h => by obtain ⟨_, _, _, _, _, _, _, _, _, _, _, rfl, _⟩ := h; rfl) (fun f cdv A outer s H vs Q E hr h => ?_) T.g_row_holds T.f_row_holds
  obtain ⟨_, _, ⟨ns, es, p, ord, g, kn, hp, hs, hsub, hg, hc, rfl, rfl⟩, ha, k⟩ := h
  obtain ⟨x, y, o, d, r, rfl, hx, hy, ho, hd, hr5⟩ := all5 ha
  refine ⟨_, (pss_cons (ps_asg (pv 4) (pg_tup rfl (pgs_cons (pg_name (i := 5) sc_row_holds.nd rfl (Or.inl rfl)) (pgs_cons (pg_name (i := 6) sc_row_holds.nd rfl (Or.inl rfl)) pgs_nil))))
      (pss_cons (ps_if (pt_cmp (pc_din (hu_of hr) (pv 5) (pv 3)))
        (pss_one (ps_ret pe_bl)) pss_nil)
      (pss_cons (ps_if (pt_cmpR (op_eqD hr.units) (pv 5) (pe_tup pa_nil) (nomark _))
        (pss_one (ps_ret (pe_cmpR (op_eqG (rcG_ratio T) (hr.mono (by decide))) (pv 6) (C8.pe_mk (ok_Ratio1 T) hr (by decide) rfl (pa_cons pe_int pa_nil)) (nomark _)))) pss_nil)
      (pss_cons (ps_asg (C8.pe_c (ok_required_sets T) hr (by decide) rfl (pa_cons (pv 0) (pa_cons (pv 2) (pa_cons (pv 5) pa_nil)))) (pg_tup rfl (pgs_cons (pg_name (i := 7) sc_row_holds.nd rfl (Or.inl rfl)) (pgs_cons (pg_name (i := 8) sc_row_holds.nd rfl (Or.inl rfl)) (pgs_cons (pg_name (i := 9) sc_row_holds.nd rfl (Or.inl rfl)) pgs_nil)))))
      (pss_cons (ps_if (PW.pt (pw_or (pt_cmp (pc_dnotin (hu_of hr) (pv 8) (pv 3))) (pw_or1 (pt_cmp (pc_dnotin (hu_of hr) (pv 9) (pv 3))))))
        (pss_one (ps_ret pe_bl)) pss_nil)
      (pss_one (ps_ret (pe_cmpR (op_eqG (rcG_ratio T) (hr.mono (by decide))) (pv 6) (C8.pe_mt (ok_Ratio_subtract T) hr (by decide) (pe_dget (hu_of hr) (pv 3) (pv 8) (fun _ _ => rfl)) (pa_cons (C8.pe_mt (ok_Ratio_multiply T) hr (by decide) (pe_dget (hu_of hr) (pv 1) (pv 7) (fun _ _ => rfl)) (pa_cons (pe_dget (hu_of hr) (pv 3) (pv 9) (fun _ _ => rfl)) pa_nil)) pa_nil)) (nomark _))))))))), ?_⟩
  have hn := hx.1
  have ok := hy.1
  have h8 := hn.hi
  have hgl := hs.length_le
  refine k_asg ⟨r, rfl, ?_⟩
  obtain ⟨t, ts, rfl, ht, hts⟩ := hr5
  obtain ⟨gv, vv, rfl, hgv, hvv⟩ := all2 hts
  refine ⟨t, _, rfl, st_of ht, rfl, _, _, rfl, _, _, rfl, rfl, ?_⟩
  refine q_not (et_is (et_B (ev_tin (ep_var rfl hgv) (ep_var rfl hd))) (decide_eq_false hg)) fun H1 e1 => ?_
  have sg := shaped_tstrs g fun s h => (hn.nm s (hs.subset h)).ok
  refine q_when (b := g.isEmpty) (et_test (ev_is (ev_eqD (d := .tuple (g.map PyData.str)) (d' := .tuple []) (ep_to (ep_var rfl ((tupS g).up e1 hgv)) fun v H _ h => dat_tstrs h) (ep_to (ep_tupV (xs := []) ea_nil (by simp)) fun v H _ h => dat_tstrs (ss := []) h) sg (by decide)) (by rw [eqvTup_nil, List.isEmpty_map]))) (fun hb H2 e2 => ?_) (fun hb H2 e2 => ?_)
  · have hz : g = [] := by simpa using hb
    subst hz
    rw [q_nil] at hvv
    exact s_ret (ev_ratEq (ep_var rfl ((RatP K _).up (e1.trans e2) hvv)) (ep_Ratio1 (n := 1) ev_c)) fun H3 e3 => k _ H3 ((e1.trans e2).trans e3) rfl
  · have h0 : g ≠ [] := fun z => by rw [z] at hb; cases hb
    obtain ⟨hl1, hf1⟩ := hc h0
    have nd : g.Nodup := List.Sublist.nodup hs hn.nd
    have hmem : lastOf ord g ∈ g := (last_mem (ord := ord) h0 fun s hs' => hp.mem_iff.mpr (hs.subset hs')).2
    have e02 := e1.trans e2
    refine k_asg ?_
    refine ep_call (P := ReqP es ord g) (eap_cons (ep_var rfl ((GrP K ns es).up e02 hx)) (eap_cons (ep_var rfl ((LstV _).up e02 ho)) (eap_cons (ep_var rfl ((tupS g).up e02 hgv)) eap_nil))) ⟨ns, ord, g, es, h0, hp, hs, rfl, rfl⟩ H2 (Ex.refl H2) _ fun r2 H3 e3 hr2 => ?_
    obtain ⟨t2, ts2, rfl, ht2, hts2⟩ := hr2
    obtain ⟨_, lv, fv, rfl, rfl, hlv, hfv⟩ := all3 hts2
    refine ⟨t2, _, rfl, st_of ht2, rfl, _, _, rfl, _, _, rfl, _, _, rfl, rfl, ?_⟩
    have e03 := e02.trans e3
    have hd3 := (KnP K es p kn).up e03 hd
    refine q_not (et_or (a := false) (b := false) (et_is (et_B (ev_tnotin (ep_var rfl hlv) (ep_var rfl hd3))) (by simp [hl1])) fun _ => et_is (et_B (ev_tnotin (ep_var rfl hfv) (ep_var rfl hd3))) (by simp [hf1])) fun H4 e4 => ?_
    have e04 := e03.trans e4
    have hd4 := (KnP K es p kn).up e04 hd
    have hls : List.Sublist (lessOf ord g) ns := (less_sub ord g).trans hs
    have hfs : List.Sublist (farOf es ord g) ns := (far_sub es ord g).trans hls
    have hl1' := hls.length_le
    have hl2' := hfs.length_le
    have hsmp : Sm (p (lastOf ord g)) := ok.sm (hs.subset hmem)
    have hsml : Sm (q (adjB es) p (lessOf ord g)) := q_sm ok (fun s h => hls.subset h) (by omega)
    have hsmf : Sm (q (adjB es) p (farOf es ord g)) := q_sm ok (fun s h => hfs.subset h) (by omega)
    have hsmm : Sm (p (lastOf ord g) * q (adjB es) p (farOf es ord g)) := far_sm ok (hs.subset hmem) (fun s h => hfs.subset h) (by omega)
    have hst := q_step (p := p) (es := es) nd hmem
    refine s_ret (ev_ratEq (r := q (adjB es) p g) (ep_var rfl ((RatP K _).up e04 hvv)) ?_) fun H5 e5 => k _ H5 (e04.trans e5) rfl
    rw [hst]
    exact ep_sub (ep_tget (ep_var rfl hd4) (ep_var rfl ((tupS _).up e4 hlv)) hl1) (ep_mul (ep_pget (ep_var rfl ((PbP K ns p).up e04 hy)) (ev_var rfl) (hs.subset hmem)) (ep_tget (ep_var rfl hd4) (ep_var rfl ((tupS _).up e4 hfv)) hf1) hsmp hsmf) hsml hsmm
end
end Rs
/-! check_certificate, lower_bound. -/
namespace Rs
open PySem PySem.Spec PyProof.Rows L2 Evl
section
variable {P : Program} {w : World} {K : PySem.W.Frag} {mg : Str → Option Value} {base : Heap}
section
variable {σ : L2.St} {H H' : Hp} {ta tb te tx : TE} {tt : TT} {E : XK} {α : Type} {L : List α} {f : α → Pr} [st : ∀ a, Stab (f a)] {j : Nat} {vs : List Nat}
theorem elp_mapL (g : α → Pr) {tl : TE} (h : EvP tl σ H (LstP (L.map g))) (hz : L.length ≤ 40000) (hw : ∀ x, wipe ((wipe σ vs).set j (some x)) vs = wipe σ vs)
    (he : ∀ a x H1, a ∈ L → Ex H H1 → (g a).p x H1 → EvP te ((wipe σ vs).set j (some x)) H1 (f a)) :
    EvLP (tLc (iList K tl) (gName j) tYes te vs) σ H (L.map f) := by
  have := elp_lcL (K := K) (σ := σ) (H := H) (te := te) (L := L) (f := f) (tt := tYes) (j := j) (vs := vs) (fun _ => true) g h hz hw (fun _ _ _ _ _ _ => et_yes) fun a x H1 hm e hx _ => he a x H1 hm e hx
  rw [filter_yes] at this
  exact this
theorem elp_mapT (g : α → Pr) {tl : TE} (h : EvP tl σ H (TupP (L.map g))) (hz : L.length ≤ 40000) (hw : ∀ x, wipe ((wipe σ vs).set j (some x)) vs = wipe σ vs)
    (he : ∀ a x H1, a ∈ L → Ex H H1 → (g a).p x H1 → EvP te ((wipe σ vs).set j (some x)) H1 (f a)) :
    EvLP (tLc (iTup K tl) (gName j) tYes te vs) σ H (L.map f) := by
  have := elp_lcT (K := K) (σ := σ) (H := H) (te := te) (L := L) (f := f) (tt := tYes) (j := j) (vs := vs) (fun _ => true) g h hz hw (fun _ _ _ _ _ _ => et_yes) fun a x H1 hm e hx _ => he a x H1 hm e hx
  rw [filter_yes] at this
  exact this
theorem elp_mapR2 {f : Nat → Pr} [∀ a, Stab (f a)] {lo hi : Int} {n : Nat} {tl : TA} (h : EvA tl σ H [.int lo, .int hi]) (hn : (hi - lo).toNat = n) (hb : -1000000 ≤ lo ∧ lo ≤ 1000000 ∧ -1000000 ≤ hi ∧ hi ≤ 1000000) (hz : n ≤ 40000) (hw : ∀ x, wipe ((wipe σ vs).set j (some x)) vs = wipe σ vs)
    (he : ∀ i H1, i < n → Ex H H1 → EvP te ((wipe σ vs).set j (some (.int (lo + (i : Int))))) H1 (f i)) :
    EvLP (tLc (iRng2 tl) (gName j) tYes te vs) σ H ((List.range n).map f) := by
  have := elp_lcR2 (σ := σ) (H := H) (te := te) (f := f) (tt := tYes) (j := j) (vs := vs) (fun _ => true) h hn hb hz hw (fun _ _ _ _ => et_yes) fun i H1 hi e _ => he i H1 hi e
  rw [filter_yes] at this
  exact this
end
theorem take_snoc {α : Type} {L : List α} {i : Nat} {a : α} (h : L[i]? = some a) : L.take (i + 1) = L.take i ++ [a] := by
  obtain ⟨h1, h2⟩ := List.getElem?_eq_some_iff.mp h
  rw [List.take_succ_eq_append_getElem h1, h2]
theorem not_take {α : Type} {L : List α} (nd : L.Nodup) {i : Nat} {a : α} (h : L[i]? = some a) : a ∉ L.take i := fun hm => by
  obtain ⟨j, hj, hj2⟩ := List.mem_iff_getElem.mp hm
  rw [List.length_take] at hj
  rw [List.getElem_take] at hj2
  have h1 : L[j]? = some a := by rw [← hj2]; exact List.getElem?_eq_getElem (by omega)
  have := (List.getElem?_inj (i := j) (j := i) (by omega) nd).mp (h1.trans h.symm)
  omega
abbrev sc_check_certificateN : List Str := ["graph", "probabilities", "value", "verdict", "order", "rows", "known", "row", "collected", "prefixes", "size", "group"]
theorem sc_check_certificate : FnScope sc_check_certificateN ["graph", "probabilities", "value"] (defScope s_check_certificate) := ⟨rfl, rfl, rfl, by decide +kernel, rfl, by decide +kernel, by decide +kernel⟩
theorem bd_check_certificate : Bnd "check_certificate" "check_certificate" s_check_certificate ["graph", "probabilities", "value"] := fun _ _ _ _ _ _ us hl => match us, hl with | [_, _, _], _ => rfl
def R_check (K : PySem.W.Frag) (Ps : List Pr) (P : Pr) : Prop := ∃ (ns : List Str) (es : List (Str × Str)) (p : Str → Rat), Ps = [GrP K ns es, PbP K ns p, CertV K ns es p true] ∧ P = Is (.bl true)
theorem ok_check_certificate (T : Tx K mg) : C8.Cal P w K mg base 8 "check_certificate" (Fn (R_check K)) [] := by
  refine cal_of sc_check_certificate bd_check_certificate (fn_len (n := 3) fun Ps P h => by obtain ⟨_, _, _, rfl, _⟩ := h; rfl) (fun f cdv A outer s H vs Q E hr h => ?_) T.g_check_certificate T.f_check_certificate
  obtain ⟨_, _, ⟨ns, es, p, rfl, rfl⟩, ha, k⟩ := h
  obtain ⟨x, y, z, rfl, hx, hy, ord, kn, hc, hz⟩ := all3 ha
  refine ⟨_, (pss_cons (ps_expr (C8.pe_c (ok_need_graph T) hr (by decide) rfl (pa_cons (pv 0) pa_nil)))
      (pss_cons (ps_expr (C8.pe_c (ok_need_probabilities T) hr (by decide) rfl (pa_cons (pv 0) (pa_cons (pv 1) pa_nil))))
      (pss_cons (ps_if (PW.pt (pw_or (pt_not (pt_val (pe_callB call_isi (by rfl) T.b_isinstance (by decide +kernel) (pa_cons (pv 2) (pa_cons (pe_bltn (v := .ty "tuple") (by rfl) T.b_tuple (by decide +kernel) rfl) pa_nil))))) (pw_or (pt_cmpR op_ne (pe_callB call_len_seq (by rfl) T.b_len (by decide +kernel) (pa_cons (pv 2) pa_nil)) pe_int (nomark _)) (pw_or1 (pt_cmpR op_notIn_seq (pe_ix ix_tup (pv 2) pe_int (fun _ _ => rfl)) (pe_tup (pa_cons (C8.pe_gc rfl T.k_POSITIVE) (pa_cons (C8.pe_gc rfl T.k_NOT_POSITIVE) pa_nil))) (by rfl))))))
        (pss_one (ps_ret pe_bl)) pss_nil)
      (pss_cons (ps_asg (pv 2) (pg_tup rfl (pgs_cons (pg_name (i := 3) sc_check_certificate.nd rfl (Or.inl rfl)) (pgs_cons (pg_name (i := 4) sc_check_certificate.nd rfl (Or.inl rfl)) (pgs_cons (pg_name (i := 5) sc_check_certificate.nd rfl (Or.inl rfl)) pgs_nil)))))
      (pss_cons (ps_if (PW.pt (pw_or (pt_not (pt_val (C8.pe_c (ok_is_order T) hr (by decide) rfl (pa_cons (pv 0) (pa_cons (pv 4) pa_nil))))) (pw_or1 (pt_not (pt_val (C8.pe_c (ok_is_list T) hr (by decide) rfl (pa_cons (pv 5) pa_nil)))))))
        (pss_one (ps_ret pe_bl)) pss_nil)
      (pss_cons (ps_set (i := 6) sc_check_certificate.nd rfl (Or.inr rfl) pe_dnewT)
      (pss_cons (ps_for PassesOwn.never rfl (pi_list (pv 5)) (pg_name (i := 7) sc_check_certificate.nd rfl (Or.inl rfl))
        (pss_cons (ps_if (PW.pt (pw_or (pt_not (pt_val (C8.pe_c (ok_is_row T) hr (by decide) rfl (pa_cons (pv 0) (pa_cons (pv 7) pa_nil))))) (pw_or1 (pt_not (pt_val (C8.pe_c (ok_row_holds T) hr (by decide) rfl (pa_cons (pv 0) (pa_cons (pv 1) (pa_cons (pv 4) (pa_cons (pv 6) (pa_cons (pv 7) pa_nil)))))))))))
        (pss_one (ps_ret pe_bl)) pss_nil)
      (pss_one (ps_dput (hu_of hr) (pv 6) (pe_ix ix_tup (pv 7) pe_int (fun _ _ => rfl)) (pe_ix ix_tup (pv 7) pe_int (fun _ _ => rfl)) rfl))))
      (pss_cons (ps_set (i := 8) sc_check_certificate.nd rfl (Or.inr rfl) (C8.pe_mk (ok_CertificateRows T) hr (by decide) rfl (pa_cons (pv 0) (pa_cons (pv 1) (pa_cons (pe_callTy call_list_of (by rfl) T.b_list (by decide +kernel) (pa_cons (pv 4) pa_nil)) pa_nil)))))
      (pss_cons (ps_setLc (i := 9) (own := [("size", 10)]) (g := gName 10) (tt := tYes) (te := (tMeth _ _ _ _ _ _ (tCons _ tNil))) rfl sc_check_certificate.nd rfl rfl (sw_true rfl rfl rfl (by decide +kernel)) (pi_range2 rfl T.b_range (pa_cons pe_int (pa_cons (pe_op op_add (pe_callB call_len_seq (by rfl) T.b_len (by decide +kernel) (pa_cons (pv 4) pa_nil)) pe_int) pa_nil))) (blkOk_by (N := sc_check_certificateN) (sc := defScope s_check_certificate) (by decide +kernel)) (fun _ _ _ _ _ => (pg_name (i := 10) sc_check_certificate.nd rfl (Or.inl rfl))) (fun _ _ _ _ _ => pts_nil) (fun _ _ _ _ _ => (C8.pe_mt (ok_CertificateRows_prefix T) hr (by decide) (pv 8) (pa_cons (pv 10) pa_nil))))
      (pss_cons (ps_if (pt_cmpR op_eq (pv 3) (C8.pe_gc rfl T.k_POSITIVE) (nomark _))
        (pss_one (ps_ret (pe_callB (cr_all rfl) (by rfl) T.b_all (by decide +kernel) (pa_cons (pe_lc (own := [("group", 11)]) (g := gName 11) (tt := tYes) (te := (tAndV (tDIn _ _) (tOp _ (tMeth _ _ _ _ _ (tDGet _ _) tNil) _))) rfl sc_check_certificate.nd (pi_list (pv 9)) (blkOk_by (N := sc_check_certificateN) (sc := defScope s_check_certificate) (by decide +kernel)) (fun _ _ _ _ _ => (pg_name (i := 11) sc_check_certificate.nd rfl (Or.inl rfl))) (fun _ _ _ _ _ => pts_nil) (fun _ _ _ _ _ => (pe_and (pe_cmp (pc_din (hu_of hr) (pv 11) (pv 6)) rfl) (pe_one (pe_cmpR op_gt (C8.pe_mt0 (ok_Ratio_sign T) hr (by decide) (pe_dget (hu_of hr) (pv 6) (pv 11) (fun _ _ => rfl))) pe_int (nomark _)))))) pa_nil)))) pss_nil)
      (pss_one (ps_ret (pe_callB (cr_any rfl) (by rfl) T.b_any (by decide +kernel) (pa_cons (pe_lc (own := [("group", 11)]) (g := gName 11) (tt := tYes) (te := (tAndV (tDIn _ _) (tOp _ (tMeth _ _ _ _ _ (tDGet _ _) tNil) _))) rfl sc_check_certificate.nd (pi_list (pv 9)) (blkOk_by (N := sc_check_certificateN) (sc := defScope s_check_certificate) (by decide +kernel)) (fun _ _ _ _ _ => (pg_name (i := 11) sc_check_certificate.nd rfl (Or.inl rfl))) (fun _ _ _ _ _ => pts_nil) (fun _ _ _ _ _ => (pe_and (pe_cmp (pc_din (hu_of hr) (pv 11) (pv 6)) rfl) (pe_one (pe_cmpR op_le (C8.pe_mt0 (ok_Ratio_sign T) hr (by decide) (pe_dget (hu_of hr) (pv 6) (pv 11) (fun _ _ => rfl))) pe_int (nomark _)))))) pa_nil)))))))))))))), ?_⟩
  have hn := hx.1
  have ok := hy.1
  have h8 := hn.hi
  have hl := hc.perm.length_eq
  refine q_drop (ev_need_graph (ep_var rfl hx)) fun H1 e1 => ?_
  refine q_drop (ev_need_prob (ep_var rfl ((GrP K ns es).up e1 hx)) (ep_var rfl ((PbP K ns p).up e1 hy))) fun H2 e2 => ?_
  have e02 := e1.trans e2
  have hz2 := (TupP _).up e02 hz
  refine q_not (et_or (a := false) (b := false) (et_not (a := true) (et_B (ev_isTup (ep_var rfl hz2)))) fun _ => et_or (a := false) (b := false) (et_is (et_test (ev_ne (ev_lenT (ep_var rfl hz2)) ev_c rfl)) (by simp)) fun _ => et_is (et_test (ev_niU (xs := [.str "positive", .str "not_positive"]) (ev (ep_ixT (k := 0) (P := Is (.str (verd true))) (ep_var rfl hz2) ev_c rfl (at_k 0))) (eu_tup (ea_cons ev_c (ea_cons ev_c ea_nil)) (by simp)) rfl rfl)) (by decide +kernel)) fun H3 e3 => ?_
  have e03 := e02.trans e3
  obtain ⟨t, ts, rfl, ht, hts⟩ := (TupP _).up e03 hz
  obtain ⟨_, ov, rv, rfl, rfl, hov, hrv⟩ := all3 hts
  refine k_asg ⟨_, rfl, t, _, rfl, st_of ht, rfl, _, _, rfl, _, _, rfl, _, _, rfl, rfl, ?_⟩
  refine q_not (et_or (a := false) (b := false) (et_not (a := true) (et_B (ev (ep_call (eap_cons (ep_var rfl ((GrP K ns es).up e03 hx)) (eap_cons (ep_var rfl hov) eap_nil)) ⟨ns, ord, es, hc.perm, rfl, rfl⟩)))) fun _ => et_not (a := true) (et_B (ev_is_list (ep_var rfl hrv)))) fun H4 e4 => ?_
  have e04 := e03.trans e4
  -- known = {}
  refine k_asg (fun d hd => ?_)
  have hd0 : ∀ {a o}, H4 a = some o → a ≠ d := fun h => ne_of_none h hd
  have hrv4 := (LstP _).up e4 hrv
  obtain ⟨ra, rs, rfl, hra, hrs⟩ := hrv4
  have hrl : rs.length = kn.length := by rw [hrs.len, List.length_map]
  have e45 : Ex H4 (upd H4 d (.dT [])) := Ex.new hd
  refine q_forLn (ev_var rfl) (sq_of (e45 _ _ hra)) (fun i σ' H' => ∃ u7 us, σ' = [some x, some y, some (.ref t), some (.str (verd true)), some ov, some (.ref ra), some (.ref d), u7, none, none, none, none] ∧ Ex H4 H' ∧ H' d = some (.dT (zipT (kn.take i) us)) ∧ AllP ((kn.take i).map fun g => RatP K (q (adjB es) p g)) us H')
    (fun H5 e5 => ⟨_, [], rfl, e45.trans e5, e5 _ _ upd_same, trivial⟩) (fun i σ' H' _ h => by obtain ⟨_, _, _, e, _⟩ := h; exact sq_of (e _ _ hra)) ?_ ?_
  · rintro i rv σ' H5 hi ⟨u7, us, rfl, e5, hd5, hu5⟩
    obtain ⟨g, hg, hgr⟩ := allGet (f := rowP K es p) hrs hi
    have hgm := List.mem_of_getElem? hg
    have hgs := hc.kok.sub g hgm
    have hrow : ∀ {H6}, Ex H5 H6 → (rowP K es p g).p rv H6 := fun e => (rowP K es p g).up (e5.trans e) hgr
    have hul : us.length = (kn.take i).length := by rw [hu5.len, List.length_map]
    have ndk : (kn.take i).Nodup := List.Sublist.nodup (List.take_sublist _ _) hc.kok.nd
    have hnt := not_take hc.kok.nd hg
    have hkd : (KnP K es p (kn.take i)).p (.ref d) H5 := ⟨ndk, d, us, rfl, hd5, hu5⟩
    have e05 := e04.trans e5
    refine q_not (et_or (a := false) (b := false) (et_not (a := true) (et_B (ev (ep_call (eap_cons (ep_var rfl ((GrP K ns es).up e05 hx)) (eap_cons (ep_var rfl (hrow (Ex.refl H5))) eap_nil)) ⟨ns, es, p, g, hgs, rfl, rfl⟩)))) fun _ => et_not (a := true) (et_B (ev (ep_call (eap_cons (ep_var rfl ((GrP K ns es).up e05 hx)) (eap_cons (ep_var rfl ((PbP K ns p).up e05 hy)) (eap_cons (ep_var rfl ((LstV _).up (e4.trans e5) hov)) (eap_cons (ep_var rfl hkd) (eap_cons (ep_var rfl (hrow (Ex.refl H5))) eap_nil))))) ⟨ns, es, p, ord, g, kn.take i, hc.perm, hgs, fun s h => hc.kok.sub s (List.mem_of_mem_take h), hnt, fun h0 => hc.kok.clo i g hg h0, rfl, rfl⟩)))) fun H6 e6 => ?_
    -- known[row[0]] = row[1]
    refine ep_ixT (k := 1) (P := RatP K (q (adjB es) p g)) (ep_var rfl (hrow e6)) ev_c rfl (at_k 1) H6 (Ex.refl H6) _ fun nv H7 e7 hnv => ?_
    refine ev_var (i := 6) rfl H7 (Ex.refl H7) _ fun H8 e8 => ?_
    refine ep_ixT (k := 0) (P := tupS g) (ep_var rfl (hrow (e6.trans (e7.trans e8)))) ev_c rfl (at_k 0) H8 (Ex.refl H8) _ fun yv H9 e9 hyv => ?_
    obtain ⟨yb, rfl, hyb⟩ := hyv
    have e59 := e6.trans (e7.trans (e8.trans e9))
    have hd9 := e59 _ _ hd5
    refine ⟨d, _, rfl, DPut.t (k := g.map Sum.inr) hd9 (by rw [keyT_kV]; exact hyb) (by rw [zipT_len hul, List.length_take]; exact sz_lt (by have := hc.len; omega)), ?_⟩
    rw [putK_zipT hul hnt, ← take_snoc hg]
    refine ⟨_, us ++ [nv], rfl, Ex.mut (e5.trans e59) hd, upd_same, ?_⟩
    rw [take_snoc hg, List.map_append]
    exact (ExN.rats ExN.upd hd9 (hu5.up e59)).append (AllP.one (ExN.ins ExN.upd hd9 ((RatP K _).up (e8.trans e9) hnv)))
  · rintro σ' H5 ⟨u7, us, rfl, e5, hd5, hu5⟩
    rw [hrl, List.take_length] at hd5 hu5
    have hkd : (KnP K es p kn).p (.ref d) H5 := ⟨hc.kok.nd, d, us, rfl, hd5, hu5⟩
    have e05 := e04.trans e5
    refine k_asg (k_cert (ep_var rfl ((GrP K ns es).up e05 hx)) (ep_var rfl ((PbP K ns p).up e05 hy)) (el_lp (elp_listV (ep_var rfl ((LstV _).up (e4.trans e5) hov)))) hc.perm fun cx d2 H0 H6 e6 c6 => ?_)
    have e56 := e6.trans c6.ex
    refine q_asgP (P := LstP ((List.range ord.length).map fun i => tupS (preOf ns ord (i + 1)))) (elp_mapR2 (f := fun i => tupS (preOf ns ord (i + 1))) (lo := 1) (hi := (ord.length : Int) + 1) (n := ord.length) (ea_cons ev_c (ea_cons (ev_is (ev_i0 (ev_lenLV (ep_var rfl ((LstV _).up (e4.trans (e5.trans e56)) hov))) ev_c) (by rw [List.length_map])) ea_nil)) (by omega) (by omega) (by omega) (fun _ => rfl) fun i H7 hi e7 => ?_).lst fun pv H7 e7 hpv => ?_
    · exact ep_prefix (ep_var (P := CertP K H0 ns es p ord [[]] d2) rfl (c6.up e7)) (ev_is (ev_var rfl) (by congr 1; omega)) (by omega)
    have hk7 : ∀ {H8}, Ex H7 H8 → (KnP K es p kn).p (.ref d) H8 := fun e => (KnP K es p kn).up (e56.trans (e7.trans e)) hkd
    refine q_if (b := true) (et_is (et_test (ev_eq (ev_var rfl) ev_c rfl)) (by decide +kernel)) (fun _ H8 e8 => ?_) (fun z => nomatch z)
    refine s_ret (v := .bl true) (ev_is (ev_all (L := List.range ord.length) (p := fun _ => true) (elp_mapL (f := fun _ => Is (.bl true)) (fun i => tupS (preOf ns ord (i + 1))) (ep_var rfl ((LstP _).up e8 hpv)) (by rw [List.length_range]; omega) (fun _ => rfl) fun i v H9 hi e9 hv => ?_)) (by simp)) fun H9 e9 => k _ H9 (e05.trans (e56.trans (e7.trans (e8.trans e9)))) rfl
    have hil := List.mem_range.mp hi
    obtain ⟨hm, hp⟩ := hc.pos rfl i hil
    have hgt := sgn_gt (q (adjB es) p (preOf ns ord (i + 1)))
    rw [decide_eq_true hp] at hgt
    exact ep (ev_is (ev_andV (ev_tin (ep_var rfl hv) (ep_var rfl (hk7 (e8.trans e9)))) fun _ => ev_is (ev_i0 (ev_sign (ep_tget (ep_var rfl (hk7 (e8.trans e9))) (ep_var rfl hv) hm)) ev_c) (congrArg V.bl hgt)) (by rw [decide_eq_true hm]; rfl))
/-! lower_bound -/
abbrev sc_lower_boundN : List Str := ["graph", "probabilities", "value"]
theorem sc_lower_bound : FnScope sc_lower_boundN ["graph", "probabilities", "value"] (defScope s_lower_bound) := ⟨rfl, rfl, rfl, by decide +kernel, rfl, by decide +kernel, by decide +kernel⟩
theorem bd_lower_bound : Bnd "lower_bound" "lower_bound" s_lower_bound ["graph", "probabilities", "value"] := fun _ _ _ _ _ _ us hl => match us, hl with | [_, _, _], _ => rfl
def R_lower (K : PySem.W.Frag) (Ps : List Pr) (P : Pr) : Prop := ∃ (ns : List Str) (es : List (Str × Str)) (p : Str → Rat), Ps = [GrP K ns es, PbP K ns p, CertV K ns es p true] ∧ P = RatP K (q (adjB es) p ns)
theorem ok_lower_bound (T : Tx K mg) : C8.Cal P w K mg base 9 "lower_bound" (Fn (R_lower K)) [] := by
  refine cal_of sc_lower_bound bd_lower_bound (fn_len (n := 3) fun Ps P h => by obtain ⟨_, _, _, rfl, _⟩ := h; rfl) (fun f cdv A outer s H vs Q E hr h => ?_) T.g_lower_bound T.f_lower_bound
  obtain ⟨_, _, ⟨ns, es, p, rfl, rfl⟩, ha, k⟩ := h
  obtain ⟨x, y, z, rfl, hx, hy, hz⟩ := all3 ha
  refine ⟨_, (pss_cons (ps_expr (C8.pe_c (ok_need_graph T) hr (by decide) rfl (pa_cons (pv 0) pa_nil)))
      (pss_cons (ps_expr (C8.pe_c (ok_need_probabilities T) hr (by decide) rfl (pa_cons (pv 0) (pa_cons (pv 1) pa_nil))))
      (pss_cons (ps_if (PW.pt (pw_or (pt_not (pt_val (C8.pe_c (ok_check_certificate T) hr (by decide) rfl (pa_cons (pv 0) (pa_cons (pv 1) (pa_cons (pv 2) pa_nil)))))) (pw_or1 (pt_cmpR op_ne (pe_ix ix_tup (pv 2) pe_int (fun _ _ => rfl)) (C8.pe_gc rfl T.k_POSITIVE) (nomark _)))))
        pss_never pss_nil)
      (pss_one (ps_ret (C8.pe_c (ok_independence_value T) hr (by decide) rfl (pa_cons (pv 0) (pa_cons (pv 1) pa_nil)))))))), ?_⟩
  refine q_drop (ev_need_graph (ep_var rfl hx)) fun H1 e1 => ?_
  refine q_drop (ev_need_prob (ep_var rfl ((GrP K ns es).up e1 hx)) (ep_var rfl ((PbP K ns p).up e1 hy))) fun H2 e2 => ?_
  have e02 := e1.trans e2
  refine q_not (et_or (a := false) (b := false) (et_not (a := true) (et_B (ev (ep_call (eap_cons (ep_var rfl ((GrP K ns es).up e02 hx)) (eap_cons (ep_var rfl ((PbP K ns p).up e02 hy)) (eap_cons (ep_var rfl ((CertV K ns es p true).up e02 hz)) eap_nil))) ⟨ns, es, p, rfl, rfl⟩)))) fun _ => ?_) fun H3 e3 => ?_
  · obtain ⟨ord, kn, hc, hz⟩ := hz
    exact et_is (et_test (ev_ne (ev (ep_ixT (k := 0) (P := Is (.str (verd true))) (ep_var rfl ((TupP _).up e02 hz)) ev_c rfl (at_k 0))) ev_c rfl)) (by decide +kernel)
  · have e03 := e02.trans e3
    exact s_retP (ep_ind (ep_var rfl ((GrP K ns es).up e03 hx)) (ep_var rfl ((PbP K ns p).up e03 hy))) fun v H4 e4 hv => k v H4 (e03.trans e4) hv
end
end Rs
/-! The box of the law's draws: what changes, what stays. -/
namespace Rs
open PySem PySem.Spec PyProof.Rows L2 Evl
/-- the heap without the box -/
def Hm (b : Addr) (H : Hp) : Hp := fun a => if a = b then none else H a
theorem hm_at {b : Addr} {H : Hp} : Hm b H b = none := if_pos rfl
theorem hm_ne {a b : Addr} {H : Hp} (h : a ≠ b) : Hm b H a = H a := if_neg h
theorem hm_ex (b : Addr) (H : Hp) : Ex (Hm b H) H := fun a o h => by
  by_cases e : a = b
  · rw [e, hm_at] at h
    cases h
  · rw [hm_ne e] at h
    exact h
theorem hm_up {b : Addr} {H H' : Hp} (e : Ex H H') : Ex (Hm b H) (Hm b H') := fun a o h => by
  by_cases z : a = b
  · rw [z, hm_at] at h
    cases h
  · rw [hm_ne z] at h ⊢
    exact e a o h
theorem hm_upd {b : Addr} {H : Hp} {o : HO} : Hm b (upd H b o) = Hm b H := by
  funext a
  by_cases z : a = b
  · rw [z, hm_at, hm_at]
  · rw [hm_ne z, hm_ne z, upd_ne z]
theorem hm_new {b : Addr} {H H' : Hp} (e : Ex H H') (h : H b = none) : Ex H (Hm b H') := fun a o ha => by
  rw [hm_ne (ne_of_none ha h)]
  exact e a o ha
/-- the box at b, at most n draws -/
def Box (b : Addr) (n : Nat) (H : Hp) : Prop := ∃ x y z : Nat, H b = some (.lst [.int (x : Int), .int (y : Int), .int (z : Int)]) ∧ y < 2147483629 ∧ z ≤ n
theorem Box.up {b : Addr} {n : Nat} {H H' : Hp} (e : Ex H H') (h : Box b n H) : Box b n H' := by
  obtain ⟨x, y, z, h1, h2, h3⟩ := h
  exact ⟨x, y, z, e _ _ h1, h2, h3⟩
theorem Box.mono {b : Addr} {n m : Nat} {H : Hp} (h : Box b n H) (hn : n ≤ m) : Box b m H := by
  obtain ⟨x, y, z, h1, h2, h3⟩ := h
  exact ⟨x, y, z, h1, h2, Nat.le_trans h3 hn⟩
/-- what does not rest on a list of three ints -/
class NoB (P : Pr) : Prop where
  nob : ∀ {v : V} {H : Hp} {b : Addr} {x y z : Int}, H b = some (.lst [.int x, .int y, .int z]) → P.p v H → P.p v (Hm b H)
class NoBs (Ps : List Pr) : Prop where
  nob : ∀ {vs : List V} {H : Hp} {b : Addr} {x y z : Int}, H b = some (.lst [.int x, .int y, .int z]) → AllP Ps vs H → AllP Ps vs (Hm b H)
/-- is never an int -/
class Ref (P : Pr) : Prop where
  ref : ∀ {H : Hp} {i : Int}, ¬ P.p (.int i) H
instance {x : V} : NoB (Is x) := ⟨fun _ h => h⟩
instance {C : Addr} {fs : List (Str × V)} : NoB (InsP C fs) := ⟨fun e h => by
  obtain ⟨a, dx, h1, h2⟩ := h
  exact ⟨a, dx, h1, by rw [hm_ne (fun z => by rw [z, e] at h2; cases h2)]; exact h2⟩⟩
instance {K : PySem.W.Frag} {r : Rat} : NoB (RatP K r) := inferInstanceAs (NoB (InsP _ _))
instance {xs : List V} : NoB (TupV xs) := ⟨fun e h => by
  obtain ⟨a, h1, h2⟩ := h
  exact ⟨a, h1, by rw [hm_ne (fun z => by rw [z, e] at h2; cases h2)]; exact h2⟩⟩
instance {ss : List Str} : NoB (LstV (ss.map V.str)) := ⟨fun {v H b x y z} e h => by
  obtain ⟨a, h1, h2⟩ := h
  refine ⟨a, h1, ?_⟩
  rw [hm_ne (fun zz => ?_)]
  · exact h2
  · rw [zz, e] at h2
    have h3 := Option.some.inj h2
    injection h3 with h3
    cases ss with
    | nil => cases h3
    | cons s ss => rw [List.map_cons] at h3; injection h3 with h4; cases h4⟩
instance : NoBs [] := ⟨fun {vs _ _ _ _ _} _ h => by cases vs with | nil => trivial | cons _ _ => exact h.elim⟩
instance {P : Pr} {Ps : List Pr} [s : NoB P] [t : NoBs Ps] : NoBs (P :: Ps) := ⟨fun {vs _ _ _ _ _} e h => by
  cases vs with
  | nil => exact h.elim
  | cons v vs => exact ⟨s.nob e h.1, t.nob e h.2⟩⟩
theorem nobs_map {α : Type} {f : α → Pr} (h : ∀ a, NoB (f a)) : ∀ xs : List α, NoBs (xs.map f)
  | [] => inferInstanceAs (NoBs [])
  | x :: xs => by
    have := h x
    have := nobs_map h xs
    exact inferInstanceAs (NoBs (f x :: xs.map f))
instance {α : Type} {f : α → Pr} {xs : List α} [h : ∀ a, NoB (f a)] : NoBs (xs.map f) := nobs_map h xs
instance {Ps : List Pr} [t : NoBs Ps] : NoB (TupP Ps) := ⟨fun e h => by
  obtain ⟨a, vs, h1, h2, h3⟩ := h
  exact ⟨a, vs, h1, by rw [hm_ne (fun z => by rw [z, e] at h2; cases h2)]; exact h2, t.nob e h3⟩⟩
instance {C : Addr} {fs : List (Str × V)} : Ref (InsP C fs) := ⟨fun h => by obtain ⟨a, dx, h1, h2⟩ := h; cases h1⟩
instance {K : PySem.W.Frag} {r : Rat} : Ref (RatP K r) := inferInstanceAs (Ref (InsP _ _))
instance {xs : List V} : Ref (TupV xs) := ⟨fun h => by obtain ⟨a, h1, h2⟩ := h; cases h1⟩
instance {Ps : List Pr} : Ref (TupP Ps) := ⟨fun h => by obtain ⟨a, vs, h1, h2⟩ := h; cases h1⟩
instance {α : Type} {f : α → Pr} {xs : List α} [h : ∀ a, NoB (f a)] [r : ∀ a, Ref (f a)] : NoB (LstP (xs.map f)) := ⟨fun {v H b x y z} e hv => by
  obtain ⟨a, vs, h1, h2, h3⟩ := hv
  refine ⟨a, vs, h1, ?_, (nobs_map h xs).nob e h3⟩
  rw [hm_ne (fun zz => ?_)]
  · exact h2
  · rw [zz, e] at h2
    have h4 := Option.some.inj h2
    injection h4 with h4
    subst h4
    cases xs with
    | nil => exact h3
    | cons s ss => exact (r s).ref h3.1⟩
theorem nob_box {P : Pr} [s : NoB P] {b : Addr} {n : Nat} {v : V} {H : Hp} (h : Box b n H) (hv : P.p v H) : P.p v (Hm b H) := by
  obtain ⟨x, y, z, h1, _⟩ := h
  exact s.nob h1 hv
theorem nobs_box {Ps : List Pr} [s : NoBs Ps] {b : Addr} {n : Nat} {vs : List V} {H : Hp} (h : Box b n H) (hv : AllP Ps vs H) : AllP Ps vs (Hm b H) := by
  obtain ⟨x, y, z, h1, _⟩ := h
  exact s.nob h1 hv
/-! ### evaluation that may draw; G a heap without the box -/
def EvB (b : Addr) (n m : Nat) (te : TE) (σ : L2.St) (G : Hp) (P : Pr) : Prop := ∀ H1, Ex G (Hm b H1) → Box b n H1 → ∀ Q : VK, (∀ v H2, Ex (Hm b H1) (Hm b H2) → Box b (n + m) H2 → P.p v (Hm b H2) → Q v H2) → te σ H1 Q
def EvAB (b : Addr) (n m : Nat) (ta : TA) (σ : L2.St) (G : Hp) (Ps : List Pr) : Prop := ∀ H1, Ex G (Hm b H1) → Box b n H1 → ∀ Q : List V → Hp → Prop, (∀ vs H2, Ex (Hm b H1) (Hm b H2) → Box b (n + m) H2 → AllP Ps vs (Hm b H2) → Q vs H2) → ta σ H1 Q
section
variable {P : Program} {w : World} {K : PySem.W.Frag} {mg : Str → Option Value} {base : Heap}
variable {σ : L2.St} {G G' H H' : Hp} {ta tb te tx : TE} {tt : TT} {E : XK} {b : Addr} {n m m1 m2 : Nat} {P1 P2 P' : Pr} {Ps Qs : List Pr} {x y v : V} {r : R2}
theorem EvB.up (e : Ex G G') (h : EvB b n m te σ G P') : EvB b n m te σ G' P' := fun H1 a => h H1 (e.trans a)
theorem EvB.mono {m' : Nat} (h : EvB b n m te σ G P') (hm : m ≤ m') : EvB b n m' te σ G P' := fun H1 a hb Q q => h H1 a hb Q fun v H2 e2 h2 => q v H2 e2 (h2.mono (by omega))
theorem eb [s : NoB P'] (h : EvP te σ G P') : EvB b n 0 te σ G P' := fun H1 e hb Q q => h H1 (e.trans (hm_ex b H1)) Q fun v H2 e2 hv => q v H2 (hm_up e2) (hb.up e2) (nob_box (hb.up e2) hv)
theorem eb_v (h : Ev te σ G v) (hv : P'.p v G) : EvB b n 0 te σ G P' := fun H1 e hb Q q => h H1 (e.trans (hm_ex b H1)) Q fun H2 e2 => q v H2 (hm_up e2) (hb.up e2) (P'.up (e.trans (hm_up e2)) hv)
theorem eab_nil : EvAB b n 0 tNil σ G [] := fun H1 _ hb _ q => q [] H1 (Ex.refl _) hb trivial
theorem eab_cons {tr : TA} (h : EvB b n m1 te σ G P') (hr : EvAB b (n + m1) m2 tr σ G Ps) : EvAB b n (m1 + m2) (tCons te tr) σ G (P' :: Ps) := fun H1 e hb _ q =>
  h H1 e hb _ fun w H2 e2 h2 hw => hr H2 (e.trans e2) h2 _ fun ws H3 e3 h3 hs => q (w :: ws) H3 (e2.trans e3) (by rw [← Nat.add_assoc]; exact h3) ⟨P'.up e3 hw, hs⟩
/-- a def that draws: at most c times -/
def FnB (c : Nat) (R : List Pr → Pr → Prop) : Sp := fun vs H Q _ => ∃ (b : Addr) (n : Nat) (us : List V) (Ps : List Pr) (P : Pr), vs = .ref b :: us ∧ R Ps P ∧ Box b n H ∧ n + c ≤ 1000000 ∧ AllP Ps us (Hm b H) ∧ ∀ v H', Ex (Hm b H) (Hm b H') → Box b (n + c) H' → P.p v (Hm b H') → Q v H'
theorem fnb_len {c : Nat} {R : List Pr → Pr → Prop} {k : Nat} (h : ∀ Ps P, R Ps P → Ps.length = k) : ∀ vs H Q E, (FnB c R) vs H Q E → vs.length = k + 1 := fun vs H Q E ⟨b, n, us, Ps, P, e, hr, _, _, ha, _⟩ => by
  rw [e, List.length_cons, ha.len, h Ps P hr]
theorem eb_call {c : Nat} {R : List Pr → Pr → Prop} {tl : TA} (hb : Ev te σ G (.ref b)) (ha : EvAB b n m tl σ G Ps) (hr : R Ps P') (hn : n + m + c ≤ 1000000) : EvB b n (m + c) (tCall (FnB c R) [] E (tCons te tl)) σ G P' := fun H1 e hbx Q q =>
  hb H1 (e.trans (hm_ex b H1)) _ fun H2 e2 => ha H2 (e.trans (hm_up e2)) (hbx.up e2) _ fun vs H3 e3 h3 hs => ⟨b, n + m, vs, Ps, P', by rw [List.append_nil], hr, h3, hn, hs, fun v H4 e4 h4 hv => q v H4 ((hm_up e2).trans (e3.trans e4)) (by rw [← Nat.add_assoc]; exact h4) hv⟩
/-- two values, and what is made of them -/
theorem eb_op (ha : EvB b n m1 ta σ G P1) (hb : EvB b (n + m1) m2 tb σ G P2) (hr : ∀ x y H, Ex G (Hm b H) → P1.p x (Hm b H) → P2.p y (Hm b H) → ∃ z, P'.p z (Hm b H) ∧ ∀ Q : VK, Q z H → r x y H Q) : EvB b n (m1 + m2) (tOp r ta tb) σ G P' := fun H1 e hbx Q q =>
  ha H1 e hbx _ fun x H2 e2 h2 hx => hb H2 (e.trans e2) h2 _ fun y H3 e3 h3 hy => by
    obtain ⟨z, hz, k⟩ := hr x y H3 (e.trans (e2.trans e3)) (P1.up e3 hx) hy
    exact k Q (q z H3 (e2.trans e3) (by rw [← Nat.add_assoc]; exact h3) hz)
/-- an int below m -/
def Nlt (m : Nat) : Pr := ⟨fun v _ => ∃ i : Nat, i < m ∧ v = .int (i : Int), fun _ h => h⟩
instance : NoB (Nlt m) := ⟨fun _ h => h⟩
theorem eb_to (h : EvB b n m te σ G P1) (k : ∀ v H, Ex G (Hm b H) → P1.p v (Hm b H) → P2.p v (Hm b H)) : EvB b n m te σ G P2 := fun H1 e hbx Q q => h H1 e hbx Q fun v H2 e2 h2 hv => q v H2 e2 h2 (k v H2 (e.trans e2) hv)
/-! statements: what follows holds of every heap behind -/
theorem kb_asg {i : Nat} {D : Ends} {tz : TS} (h : EvB b n m te σ G P') (e : Ex G (Hm b H)) (hb : Box b n H) (k : ∀ v H1, Ex G (Hm b H1) → Box b (n + m) H1 → P'.p v (Hm b H1) → tz D (σ.set i (some v)) H1) : tSeq (tAsg te (gName i)) tz D σ H :=
  h H e hb _ fun v H2 e2 h2 hv => k v H2 (e.trans e2) h2 hv
theorem kb_ret {D : Ends} (h : EvB b n m te σ G P') (e : Ex G (Hm b H)) (hb : Box b n H) (k : ∀ v H1, Ex G (Hm b H1) → Box b (n + m) H1 → P'.p v (Hm b H1) → D.rt v H1) : tRet te D σ H :=
  h H e hb _ fun v H2 e2 h2 hv => k v H2 (e.trans e2) h2 hv
end
end Rs
/-! The law's cell, box, draws, divisor, reduced share. -/
namespace Rs
open PySem PySem.Spec PyProof.Rows L2 Evl
section
variable {P : Program} {w : World} {K : PySem.W.Frag} {mg : Str → Option Value} {base : Heap}
/-- a sequence of ints, wherever it stands -/
def ScrP (K : PySem.W.Frag) (ms : List Int) : Pr := ⟨fun v H => ∃ a, v = .ref a ∧ SqL K H a (ms.map V.int), fun e h => by
  obtain ⟨a, h1, h2⟩ := h
  exact ⟨a, h1, ex_l e h2⟩⟩
def AnyI : Pr := ⟨fun v _ => ∃ c : Int, v = .int c, fun _ h => h⟩
theorem ev_lenScr {σ : L2.St} {H : Hp} {te : TE} {ms : List Int} (h : EvP te σ H (ScrP K ms)) : Ev (tCB (rLenS K) (tCons te tNil)) σ H (.int (ms.length : Int)) := fun H1 e Q q => h H1 e _ fun v H2 e2 hv => by
  obtain ⟨a, rfl, h2⟩ := hv
  refine ⟨a, _, rfl, .inl h2, ?_⟩
  rw [List.length_map]
  exact q H2 e2
abbrev sc__law_cellN : List Str := ["_law_script", "_law_k"]
theorem sc__law_cell : FnScope sc__law_cellN ["_law_script", "_law_k"] (defScope s__law_cell) := ⟨rfl, rfl, rfl, by decide +kernel, rfl, by decide +kernel, by decide +kernel⟩
theorem bd__law_cell : Bnd "_law_cell" "_law_cell" s__law_cell ["_law_script", "_law_k"] := fun _ _ _ _ _ _ us hl => match us, hl with | [_, _], _ => rfl
def R_law_cell (K : PySem.W.Frag) (Ps : List Pr) (P : Pr) : Prop := ∃ (ms : List Int) (k : Nat), k < 100 ∧ Ps = [ScrP K ms, Is (.int (k : Int))] ∧ P = AnyI
theorem ok__law_cell (T : Tx K mg) : C8.Cal P w K mg base 1 "_law_cell" (Fn (R_law_cell K)) [] := by
  refine cal_of sc__law_cell bd__law_cell (fn_len (n := 2) fun Ps P h => by obtain ⟨_, _, _, rfl, _⟩ := h; rfl) (fun f cdv A outer s H vs Q E hr h => ?_) T.g__law_cell T.f__law_cell
  obtain ⟨_, _, ⟨ms, i, hi, rfl, rfl⟩, ha, k⟩ := h
  obtain ⟨x, _, rfl, hx, rfl⟩ := all2 ha
  refine ⟨_, (pss_cons (ps_if (pt_cmpR op_lt (pv 1) (pe_callB call_len_seq (by rfl) T.b_len (by decide +kernel) (pa_cons (pv 0) pa_nil)) (nomark _))
        (pss_one (ps_ret (pe_ix ix_list (pv 0) (pv 1) (fun _ _ => rfl)))) pss_nil)
      (pss_one (ps_ret (pe_op op_add (pe_op op_mulW pe_int (pv 1)) pe_int)))), ?_⟩
  refine q_when (b := decide (i < ms.length)) (et_test (ev_is (ev_i0 (ev_var rfl) (ev_lenScr (ep_var rfl hx))) (by congr 1; exact decide_eq_decide.mpr (by omega)))) (fun hb H1 e1 => ?_) (fun hb H1 e1 => ?_)
  · have hlt := of_decide_eq_true hb
    obtain ⟨a, rfl, h2⟩ := hx
    refine s_ret (v := .int ms[i]) (ev_op2 (ev_var rfl) (ev_var rfl) fun H2 e2 Q q => ⟨a, _, (i : Int), .int ms[i], rfl, rfl, ex_l (e1.trans e2) h2, atI_nat ?_, q⟩) fun H2 e2 => k _ H2 (e1.trans e2) ⟨_, rfl⟩
    rw [List.getElem?_map, List.getElem?_eq_getElem hlt]
    rfl
  · exact s_ret (ev_i0 (ev_i ev_c (ev_var rfl) (wide_mul (a := 20) (b := 20) (by decide) (by omega) (by omega) (by omega) (by omega))) ev_c) fun H2 e2 => k _ H2 (e1.trans e2) ⟨_, rfl⟩
theorem ep_cell {σ : L2.St} {H : Hp} {ta tb : TE} {E : XK} {ms : List Int} {k : Nat} (h : EvP ta σ H (ScrP K ms)) (hk : Ev tb σ H (.int (k : Int))) (h1 : k < 100) : EvP (tCall (Fn (R_law_cell K)) [] E (tCons ta (tCons tb tNil))) σ H AnyI := ep_call (eap_cons h (eap_cons (ep hk) eap_nil)) ⟨ms, k, h1, rfl, rfl⟩
/-! _law_box -/
abbrev sc__law_boxN : List Str := ["_law_cell_here"]
theorem sc__law_box : FnScope sc__law_boxN ["_law_cell_here"] (defScope s__law_box) := ⟨rfl, rfl, rfl, by decide +kernel, rfl, by decide +kernel, by decide +kernel⟩
theorem bd__law_box : Bnd "_law_box" "_law_box" s__law_box ["_law_cell_here"] := fun _ _ _ _ _ _ us hl => match us, hl with | [_], _ => rfl
def spBox : Sp := fun vs H Q _ => ∃ c : Int, vs = [.int c] ∧ ∀ b H', H b = none → Ex H H' → Box b 0 H' → Q (.ref b) H'
theorem ok__law_box (T : Tx K mg) : C8.Cal P w K mg base 1 "_law_box" spBox [] := by
  refine cal_of sc__law_box bd__law_box (fun vs H Q E h => by obtain ⟨_, rfl, _⟩ := h; rfl) (fun f cdv A outer s H vs Q E hr h => ?_) T.g__law_box T.f__law_box
  obtain ⟨c, rfl, k⟩ := h
  refine ⟨_, (pss_one (ps_ret (pe_lst (pa_cons (pe_callB (call_max2 rfl) (by rfl) T.b_max (by decide +kernel) (pa_cons pe_int (pa_cons (pe_op op_sub (pv 0) (pe_op op_pow pe_int pe_int)) pa_nil))) (pa_cons (pe_op op_mod (pv 0) pe_int) (pa_cons pe_int pa_nil)))))), ?_⟩
  have hm : (0 : Int) ≤ c % 2147483629 ∧ c % 2147483629 < 2147483629 := ⟨Int.emod_nonneg _ (by decide), Int.emod_lt_of_pos _ (by decide)⟩
  refine s_retL (el_lst (ea_cons (ev_is (ev_max2 ev_c (ev_i0 (ev_var rfl) (ev_i ev_c ev_c ⟨by decide, by decide, by decide⟩))) (v := _) (w := .int ((if c - 10 ^ (18 : Int).toNat > 0 then c - 10 ^ (18 : Int).toNat else 0).toNat : Int)) ?_) (ea_cons (ev_is (ev_i (ev_var rfl) ev_c (by decide)) (w := .int ((c % 2147483629).toNat : Int)) (by congr 1; omega)) (ea_cons (ev_is ev_c (w := .int ((0 : Nat) : Int)) rfl) ea_nil))) (by simp)) fun p H1 hp e1 h1 => k p H1 hp e1 ⟨_, _, 0, h1, by omega, Nat.le_refl _⟩
  congr 1
  split <;> omega
/-! _law_take -/
theorem ev_bx {σ : L2.St} {H : Hp} {b : Addr} {x y z : Nat} {te ti : TE} {i : Nat} {v : V} (h : H b = some (.lst [.int (x : Int), .int (y : Int), .int (z : Int)])) (ht : Ev te σ H (.ref b)) (hi : Ev ti σ H (.int (i : Int))) (hv : ([.int (x : Int), .int (y : Int), .int (z : Int)] : List V)[i]? = some v) : Ev (tOp (rIxL K) te ti) σ H v :=
  ev_op2 ht hi fun H1 e1 Q q => ⟨b, _, (i : Int), v, rfl, rfl, sq_of (e1 _ _ h), atI_nat hv, q⟩
abbrev sc__law_takeN : List Str := ["_law_box_here", "_law_many", "_law_digit", "_law_mixed"]
theorem sc__law_take : FnScope sc__law_takeN ["_law_box_here", "_law_many"] (defScope s__law_take) := ⟨rfl, rfl, rfl, by decide +kernel, rfl, by decide +kernel, by decide +kernel⟩
theorem bd__law_take : Bnd "_law_take" "_law_take" s__law_take ["_law_box_here", "_law_many"] := fun _ _ _ _ _ _ us hl => match us, hl with | [_, _], _ => rfl
def R_take (Ps : List Pr) (P : Pr) : Prop := ∃ m : Nat, 0 < m ∧ m < 2 ^ 64 ∧ Ps = [Is (.int (m : Int))] ∧ P = Nlt m
theorem ok__law_take (T : Tx K mg) : C8.Cal P w K mg base 1 "_law_take" (FnB 1 R_take) [] := by
  refine cal_of sc__law_take bd__law_take (fnb_len (k := 1) fun Ps P h => by obtain ⟨_, _, _, rfl, _⟩ := h; rfl) (fun f cdv A outer s H vs Q E hr h => ?_) T.g__law_take T.f__law_take
  obtain ⟨b, n, us, _, _, rfl, ⟨m, m0, m64, rfl, rfl⟩, ⟨x, y, z, hb, hy, hz⟩, hn, ha, k⟩ := h
  obtain ⟨_, rfl, rfl⟩ := all1 ha
  refine ⟨_, (pss_cons (ps_if (pt_cmpR op_gt (pe_ix ix_list (pv 0) pe_int (fun _ _ => rfl)) pe_int (nomark _))
        (pss_cons (ps_set (i := 2) sc__law_take.nd rfl (Or.inl rfl) (pe_op op_mod (pe_ix ix_list (pv 0) pe_int (fun _ _ => rfl)) (pv 1)))
      (pss_cons (ps_asg (pe_op op_fdivW (pe_ix ix_list (pv 0) pe_int (fun _ _ => rfl)) (pv 1)) (pg_sub (pv 0) pe_int set_list))
      (pss_one (ps_ret (pv 2))))) pss_nil)
      (pss_cons (ps_asg (pe_op op_add (pe_ix ix_list (pv 0) pe_int (fun _ _ => rfl)) pe_int) (pg_sub (pv 0) pe_int set_list))
      (pss_cons (ps_set (i := 3) sc__law_take.nd rfl (Or.inl rfl) (pe_op op_mod (pe_op op_pow (pe_op op_add (pe_op op_add (pe_ix ix_list (pv 0) pe_int (fun _ _ => rfl)) (pe_op op_mulW pe_int (pe_ix ix_list (pv 0) pe_int (fun _ _ => rfl)))) pe_int) pe_int) pe_int))
      (pss_cons (ps_set (i := 3) sc__law_take.nd rfl (Or.inl rfl) (pe_op op_mod (pe_op op_pow (pe_op op_add (pv 3) (pe_op op_mulW pe_int (pe_ix ix_list (pv 0) pe_int (fun _ _ => rfl)))) pe_int) pe_int))
      (pss_one (ps_ret (pe_op op_mod (pe_op op_fdivW (pv 3) pe_int) (pv 1)))))))), ?_⟩
  refine q_when (b := decide ((x : Int) > 0)) (et_test (ev_i0 (ev_bx (i := 0) hb (ev_var rfl) ev_c rfl) ev_c)) (fun _ H1 e1 => ?_) (fun _ H1 e1 => ?_)
  · refine q_asg (v := .int ((x % m : Nat) : Int)) (ev_i (i := (x : Int)) (j := (m : Int)) (ev_bx (i := 0) (e1 _ _ hb) (ev_var rfl) ev_c rfl) (ev_var rfl) (by omega)) fun H2 e2 => ?_
    refine q_setL (l := b) (j := 0) (v := .int ((x / m : Nat) : Int)) ((e1.trans e2) _ _ hb) (ev_i (i := (x : Int)) (j := (m : Int)) (ev_bx (i := 0) ((e1.trans e2) _ _ hb) (ev_var rfl) ev_c rfl) (ev_var rfl) (wide_div (b := 64) (by omega) (by omega) (by decide) (by decide))) (ev_var rfl) ev_c (by simp) fun H3 e3 => ?_
    have e03 := (e1.trans e2).trans e3
    refine s_ret (ev_var rfl) fun H4 e4 => k _ H4 ?_ ?_ ⟨x % m, Nat.mod_lt _ m0, rfl⟩
    · have h1 := hm_up (b := b) e4
      rw [hm_upd] at h1
      exact (hm_up e03).trans h1
    · exact Box.up e4 ⟨x / m, y, z, upd_same, hy, by omega⟩
  · refine q_setL (l := b) (j := 2) (v := .int ((z + 1 : Nat) : Int)) (e1 _ _ hb) (ev_i0 (ev_bx (i := 2) (e1 _ _ hb) (ev_var rfl) ev_c rfl) ev_c) (ev_var rfl) ev_c (by simp) fun H3 e3 => ?_
    have e03 := e1.trans e3
    have h3 : (upd H3 b (.lst [.int (x : Int), .int (y : Int), .int ((z + 1 : Nat) : Int)])) b = some (.lst [.int (x : Int), .int (y : Int), .int ((z + 1 : Nat) : Int)]) := upd_same
    have hh : Ex (Hm b H) (Hm b (upd H3 b (.lst [.int (x : Int), .int (y : Int), .int ((z + 1 : Nat) : Int)]))) := by
      rw [hm_upd]
      exact hm_up e03
    show tSeq _ _ _ _ (upd H3 b (.lst [.int (x : Int), .int (y : Int), .int ((z + 1 : Nat) : Int)]))
    generalize upd H3 b (.lst [.int (x : Int), .int (y : Int), .int ((z + 1 : Nat) : Int)]) = H4 at h3 hh ⊢
    have hb1 : ((y : Int) + 9311 * ((z + 1 : Nat) : Int) + 349).natAbs < 2 ^ 64 := by omega
    refine q_asg (ev_i (ev_i (ev_i0 (ev_i0 (ev_bx (i := 1) h3 (ev_var rfl) ev_c rfl) (ev_i ev_c (ev_bx (i := 2) h3 (ev_var rfl) ev_c rfl) (wide_mul (a := 20) (b := 40) (by decide) (by omega) (by omega) (by omega) (by omega)))) ev_c) ev_c ⟨by decide, by decide, hb1⟩) ev_c (by decide)) fun H5 e5 => ?_
    generalize hM : ((y : Int) + 9311 * ((z + 1 : Nat) : Int) + 349) ^ (5 : Int).toNat = M
    have hm1 : (0 : Int) ≤ M % 2147483647 ∧ M % 2147483647 < 2147483647 := ⟨Int.emod_nonneg _ (by decide), Int.emod_lt_of_pos _ (by decide)⟩
    generalize M % 2147483647 = M1 at hm1
    refine q_asg (ev_i (ev_i (ev_i0 (ev_var rfl) (ev_i ev_c (ev_bx (i := 2) (e5 _ _ h3) (ev_var rfl) ev_c rfl) (wide_mul (a := 20) (b := 40) (by decide) (by omega) (by omega) (by omega) (by omega)))) ev_c ⟨by decide, by decide, by omega⟩) ev_c (by decide)) fun H6 e6 => ?_
    generalize (M1 + 104729 * ((z + 1 : Nat) : Int)) ^ (3 : Int).toNat = M2
    have hm2 : (0 : Int) ≤ M2 % 2147483587 ∧ M2 % 2147483587 < 2147483587 := ⟨Int.emod_nonneg _ (by decide), Int.emod_lt_of_pos _ (by decide)⟩
    generalize M2 % 2147483587 = M3 at hm2
    have hm3 : (0 : Int) ≤ M3 / 16 % (m : Int) ∧ M3 / 16 % (m : Int) < (m : Int) := ⟨Int.emod_nonneg _ (by omega), Int.emod_lt_of_pos _ (by omega)⟩
    refine s_ret (ev_i (ev_i (ev_var rfl) ev_c (wide_div (b := 64) (by decide) (by decide) (by decide) (by decide))) (ev_var rfl) (by omega)) fun H7 e7 => k _ H7 (hh.trans (hm_up ((e5.trans e6).trans e7))) (Box.up ((e5.trans e6).trans e7) ⟨x, y, z + 1, h3, hy, by omega⟩) (show (Nlt m).p (.int (M3 / 16 % (m : Int))) _ from ⟨(M3 / 16 % (m : Int)).toNat, by omega, by congr 1; omega⟩)
section
variable {σ : L2.St} {G : Hp} {ta tb : TE} {E : XK} {b : Addr} {n m : Nat}
/-- a draw -/
theorem eb_take {k : Nat} (hb : Ev ta σ G (.ref b)) (hk : Ev tb σ G (.int (k : Int))) (h0 : 0 < k) (h1 : k < 2 ^ 64) (hn : n + 1 ≤ 1000000) : EvB b n 1 (tCall (FnB 1 R_take) [] E (tCons ta (tCons tb tNil))) σ G (Nlt k) :=
  (eb_call (c := 1) (m := 0) hb (eab_cons (m1 := 0) (m2 := 0) (P' := Is (.int (k : Int))) (eb (ep hk)) eab_nil) (show R_take [Is (.int (k : Int))] (Nlt k) from ⟨k, h0, h1, rfl, rfl⟩) hn).mono (by omega)
end
/-! _law_divisor, _law_reduced -/
abbrev sc__law_divisorN : List Str := ["_law_one", "_law_other", "_law_rest"]
theorem sc__law_divisor : FnScope sc__law_divisorN ["_law_one", "_law_other"] (defScope s__law_divisor) := ⟨rfl, rfl, rfl, by decide +kernel, rfl, by decide +kernel, by decide +kernel⟩
theorem bd__law_divisor : Bnd "_law_divisor" "_law_divisor" s__law_divisor ["_law_one", "_law_other"] := fun _ _ _ _ _ _ us hl => match us, hl with | [_, _], _ => rfl
theorem ok__law_divisor (T : Tx K mg) : C8.Cal P w K mg base 1 "_law_divisor" (Fn R_greatest_divisor) [] := by
  refine cal_of sc__law_divisor bd__law_divisor (fn_len (n := 2) fun Ps P h => by obtain ⟨a, b, rfl, _⟩ := h; rfl) (fun f cdv A outer s H vs Q E hr h => ?_) T.g__law_divisor T.f__law_divisor
  obtain ⟨_, _, ⟨a, b, rfl, rfl⟩, ha, k⟩ := h
  obtain ⟨_, _, rfl, rfl, rfl⟩ := all2 ha
  refine ⟨_, (pss_cons (ps_while PassesOwn.never (pt_cmpR op_gt (pv 1) pe_int (nomark _))
        (pss_cons (ps_set (i := 2) sc__law_divisor.nd rfl (Or.inl rfl) (pe_op op_mod (pv 0) (pv 1)))
      (pss_cons (ps_set (i := 0) sc__law_divisor.nd rfl (Or.inl rfl) (pv 1))
      (pss_one (ps_set (i := 1) sc__law_divisor.nd rfl (Or.inl rfl) (pv 2))))))
      (pss_one (ps_ret (pv 0)))), ?_⟩
  refine q_while (fun m σ' H' => ∃ (x y : Nat) (u : Option V), σ' = [some (.int x), some (.int y), u] ∧ Nat.gcd x y = Nat.gcd a b ∧ m = y ∧ Ex H H') b ⟨a, b, _, rfl, rfl, rfl, Ex.refl H⟩ ?_
  rintro m σ' H' ⟨x, y, u, rfl, hg, hm, e⟩
  refine ⟨decide ((y : Int) > 0), et_test (ev_i0 (ev_var rfl) ev_c), fun hb H1 e1 => ?_, fun hb H1 e1 => ?_⟩
  · have hy : 0 < y := by have := of_decide_eq_true hb; omega
    refine ⟨fun σ2 H2 => ∃ u, σ2 = [some (.int y), some (.int (x % y : Nat)), u] ∧ Ex H H2, fun σ2 H2 h2 => ⟨x % y, by rw [hm]; exact Nat.mod_lt _ hy, y, x % y, h2.choose, h2.choose_spec.1, ?_, rfl, h2.choose_spec.2⟩, ?_⟩
    · rw [← hg, Nat.gcd_comm x y, Nat.gcd_rec y x, Nat.gcd_comm]
    · refine q_asg (v := .int ((x % y : Nat) : Int)) (ev_i (i := (x : Int)) (j := (y : Int)) (ev_var rfl) (ev_var rfl) (by omega)) fun H2 e2 => ?_
      refine q_asg (ev_var rfl) fun H3 e3 => ?_
      exact s_asg (ev_var rfl) fun H4 e4 => ⟨_, rfl, ((e.trans e1).trans e2).trans (e3.trans e4)⟩
  · have hy : y = 0 := by
      have h0 : ¬ (y : Int) > 0 := of_decide_eq_false hb
      omega
    subst hy
    refine s_ret (ev_var rfl) fun H2 e2 => k _ H2 ((e.trans e1).trans e2) ?_
    show V.int _ = V.int _
    rw [← hg, Nat.gcd_zero_right]
abbrev sc__law_reducedN : List Str := ["_law_above", "_law_below", "_law_shared"]
theorem sc__law_reduced : FnScope sc__law_reducedN ["_law_above", "_law_below"] (defScope s__law_reduced) := ⟨rfl, rfl, rfl, by decide +kernel, rfl, by decide +kernel, by decide +kernel⟩
theorem bd__law_reduced : Bnd "_law_reduced" "_law_reduced" s__law_reduced ["_law_above", "_law_below"] := fun _ _ _ _ _ _ us hl => match us, hl with | [_, _], _ => rfl
def prN (a b : Nat) : Pr := TupV [.int (a : Int), .int (b : Int)]
def R_reduced (Ps : List Pr) (P : Pr) : Prop := ∃ a b : Nat, 0 < b ∧ b < 2 ^ 200 ∧ Ps = [Is (.int (a : Int)), Is (.int (b : Int))] ∧ P = prN (a / Nat.gcd a b) (b / Nat.gcd a b)
theorem ok__law_reduced (T : Tx K mg) : C8.Cal P w K mg base 2 "_law_reduced" (Fn R_reduced) [] := by
  refine cal_of sc__law_reduced bd__law_reduced (fn_len (n := 2) fun Ps P h => by obtain ⟨_, _, _, _, rfl, _⟩ := h; rfl) (fun f cdv A outer s H vs Q E hr h => ?_) T.g__law_reduced T.f__law_reduced
  obtain ⟨_, _, ⟨a, b, b0, b2, rfl, rfl⟩, ha, k⟩ := h
  obtain ⟨_, _, rfl, rfl, rfl⟩ := all2 ha
  refine ⟨_, (pss_cons (ps_set (i := 2) sc__law_reduced.nd rfl (Or.inl rfl) (C8.pe_c (ok__law_divisor T) hr (by decide) rfl (pa_cons (pe_callB call_abs (by rfl) T.b_abs (by decide +kernel) (pa_cons (pv 0) pa_nil)) (pa_cons (pv 1) pa_nil))))
      (pss_one (ps_ret (pe_tup (pa_cons (pe_op op_fdivW (pv 0) (pv 2)) (pa_cons (pe_op op_fdivW (pv 1) (pv 2)) pa_nil)))))), ?_⟩
  have g0 : 0 < Nat.gcd a b := Nat.gcd_pos_of_pos_right _ b0
  have gz : Nat.gcd a b < 2 ^ 200 := Nat.lt_of_le_of_lt (Nat.gcd_le_right _ b0) b2
  have hc : ∀ i : Int, CDivW i (Nat.gcd a b : Nat) := fun i => wide_div (b := 200) (by omega) gz (by decide) (by decide)
  refine q_asg (v := .int (Nat.gcd a b : Nat)) (ev (ep_call (eap_cons (P := Is (.int (a : Nat))) (ep (ev_cb1 (ev_var rfl) fun H1 _ Q q => ⟨(a : Int), rfl, by
    have : (if (a : Int) < 0 then -(a : Int) else (a : Int)) = (a : Int) := by split <;> omega
    rw [this]
    exact q⟩)) (eap_cons (P := Is (.int (b : Nat))) (ep (ev_var rfl)) eap_nil)) ⟨_, _, rfl, rfl⟩)) fun H1 e1 => ?_
  exact s_retP (ep_tupV (ea_cons (ev_i (ev_var rfl) (ev_var rfl) (hc _)) (ea_cons (ev_i (ev_var rfl) (ev_var rfl) (hc _)) ea_nil)) (by simp)) fun v H2 e2 hv => k v H2 (e1.trans e2) hv
end
end Rs
/-! The law's names. -/
namespace Rs
open PySem PySem.Spec PyProof.Rows L2 Evl
/-! ### texts -/
def sg (c : Nat) : Str := ⟨#[c]⟩
def cutN (z : Str) (k : Nat) : Str := ⟨(z.cps.toList.take k).toArray⟩
theorem len_cps (z : Str) : z.cps.toList.length = z.length := Array.length_toList
theorem cutS_to (z : Str) (k : Nat) : cutS z none (some (k : Int)) = cutN z k := by
  unfold cutS cutN
  rw [HT.sIx_none, HT.sIx_nat, List.drop_zero, Nat.sub_zero, ← len_cps]
  congr 2
  rcases Nat.le_total k z.cps.toList.length with h | h
  · rw [Nat.min_eq_left h]
  · rw [Nat.min_eq_right h, List.take_length, List.take_of_length_le h]
theorem cut_len (z : Str) (k : Nat) : (cutN z k).length = min k z.length := by
  unfold cutN
  show (z.cps.toList.take k).toArray.size = _
  rw [List.size_toArray, List.length_take, len_cps]
theorem cut_let {z : Str} {k c : Nat} (h : c ∈ (cutN z k).cps.toList) : c ∈ z.cps.toList := by
  unfold cutN at h
  have h : c ∈ (z.cps.toList.take k).toArray.toList := h
  rw [List.toList_toArray] at h
  exact List.mem_of_mem_take h
theorem app_cps (a b : Str) : (a ++ b).cps.toList = a.cps.toList ++ b.cps.toList := by
  rw [Str.cps_append, Array.toList_append]
theorem app_len (a b : Str) : (a ++ b).length = a.length + b.length := Str.length_append a b
theorem sg_len (c : Nat) : (sg c).length = 1 := rfl
theorem sg_cps (c : Nat) : (sg c).cps.toList = [c] := rfl
theorem app_inj {a : Str} {c d : Nat} (h : a ++ sg c = a ++ sg d) : c = d := by
  have h2 := congrArg (fun s : Str => s.cps.toList) h
  simp only [app_cps, sg_cps] at h2
  have := List.append_cancel_left h2
  simpa using this
theorem name_cut {z : Str} (h1 : 1 ≤ z.length) (h2 : ∀ c ∈ z.cps.toList, 97 ≤ c ∧ c ≤ 122) : NameOk (cutN z 8) := by
  refine ⟨by rw [cut_len]; omega, by rw [cut_len]; omega, fun c hc => h2 c (cut_let hc)⟩
theorem name_add {z : Str} {c : Nat} (h : NameOk z) (hc : 97 ≤ c ∧ c ≤ 122) : NameOk (cutN z 7 ++ sg c) := by
  refine ⟨by rw [app_len, sg_len]; omega, by rw [app_len, sg_len, cut_len]; omega, fun d hd => ?_⟩
  rw [app_cps, sg_cps, List.mem_append] at hd
  rcases hd with hd | hd
  · exact h.2.2 d (cut_let hd)
  · rw [List.mem_singleton.mp hd]
    exact hc
theorem join_sg (cs : List Nat) : Txt.join "" (cs.map sg) = ⟨cs.toArray⟩ := by
  rw [TL.join_eq]
  have h := join_nil_signs ⟨cs.toArray⟩
  unfold signs at h
  have e : (⟨cs.toArray⟩ : Str).cps.toList = cs := List.toList_toArray
  rw [e] at h
  exact h
theorem nodup_len : ∀ {L M : List Str}, L.Nodup → (∀ a ∈ L, a ∈ M) → L.length ≤ M.length
  | [], _, _, _ => Nat.zero_le _
  | a :: L, M, nd, h => by
    have h2 := List.nodup_cons.mp nd
    have ih := nodup_len (L := L) (M := M.erase a) h2.2 fun x hx => (List.mem_erase_of_ne (show x ≠ a from fun e => h2.1 (e ▸ hx))).mpr (h x (List.mem_cons_of_mem _ hx))
    rw [List.length_erase_of_mem (h a List.mem_cons_self)] at ih
    have := List.length_pos_of_mem (h a List.mem_cons_self)
    rw [List.length_cons]
    omega
/-- one of the letters is left -/
theorem spare_ne {ns : List Str} {z : Str} (h : ns.length < 26) : ((List.range' 97 26).filter fun c => !decide (cutN z 7 ++ sg c ∈ ns)) ≠ [] := fun e => by
  have h1 : ((List.range' 97 26).map fun c => cutN z 7 ++ sg c).length ≤ ns.length := by
    refine nodup_len ?_ fun a ha => ?_
    · exact List.pairwise_map.mpr (List.Pairwise.imp (fun {c d} (hne : c ≠ d) hcd => hne (app_inj hcd)) (List.nodup_range' (s := 97) (n := 26)))
    · obtain ⟨c, hc, rfl⟩ := List.mem_map.mp ha
      have := List.filter_eq_nil_iff.mp e c hc
      simpa using this
  rw [List.length_map, List.length_range'] at h1
  omega
section
variable {P : Program} {w : World} {K : PySem.W.Frag} {mg : Str → Option Value} {base : Heap}
section
variable {σ : L2.St} {G H : Hp} {ta tb te : TE} {tt : TT}
theorem ev_addS {i j : Str} (ha : Ev ta σ H (.str i)) (hb : Ev tb σ H (.str j)) (h : i.length + j.length ≤ 100000) : Ev (tOp (fun x y H Q => ∃ i j, x = .str i ∧ y = .str j ∧ i.length + j.length ≤ sizeLine ∧ Q (.str (i ++ j)) H) ta tb) σ H (.str (i ++ j)) :=
  ev_op2 ha hb fun _ _ Q q => ⟨i, j, rfl, rfl, sz_of h, q⟩
theorem ev_slS {z : Str} {k : Nat} (ha : Ev ta σ H (.str z)) (hb : Ev tb σ H (.int (k : Int))) (h : z.length ≤ 100000) : Ev (tSl rSlS ta tNoPart (tPart tb)) σ H (.str (cutN z k)) := fun H1 e Q q =>
  ha H1 e _ fun H2 e2 => hb H2 (e.trans e2) _ fun H3 e3 => ⟨(k : Int), rfl, z, rfl, sz_of h, by rw [cutS_to]; exact q H3 (e2.trans e3)⟩
/-- a comprehension that draws; the items texts -/
theorem lcb_core {J : It} {N c n1 : Nat} {Gd : Hp → Prop} {Y : Nat → Hp → V → Hp → Prop} {b : Addr} {j : Nat} {vs : List Nat} {H1 : Hp} {Q : VK} (W : Walk J N Gd Y) (X : Nat → V) (hG : ∀ H, Ex (Hm b H1) (Hm b H) → Gd H) (hY : ∀ i x H H', i < N → Y i H x H' → H' = H ∧ x = X i) (C : Nat → List Str → Prop) (c0 : C 0 []) (hN : N ≤ 40000)
    (hw : ∀ x, wipe ((wipe σ vs).set j (some x)) vs = wipe σ vs)
    (step : ∀ i acc H, i < N → C i acc → Ex (Hm b H1) (Hm b H) → Box b (n1 + i * c) H → ∀ R : Bool → Hp → Prop, (∀ t H3, Ex (Hm b H) (Hm b H3) → (t = false → C (i + 1) acc ∧ Box b (n1 + (i + 1) * c) H3) → (t = true → ∀ R2 : VK, (∀ s H4, C (i + 1) (acc ++ [s]) → Ex (Hm b H) (Hm b H4) → Box b (n1 + (i + 1) * c) H4 → R2 (.str s) H4) → te ((wipe σ vs).set j (some (X i))) H3 R2) → R t H3) → tt ((wipe σ vs).set j (some (X i))) H R)
    (hb : Box b n1 H1) (q : ∀ D H2 acc, C N acc → Ex (Hm b H1) (Hm b H2) → Box b (n1 + N * c) H2 → (LstV (acc.map V.str)).p (.ref D) (Hm b H2) → Q (.ref D) H2) :
    tLc (fun _ H R => R J H) (gName j) tt te vs σ H1 Q := by
  unfold tLc
  intro D hD
  have hDb : D ≠ b := by
    obtain ⟨x, y, z, h1, _⟩ := hb
    rintro rfl
    rw [h1] at hD
    cases hD
  have hmD : Hm b H1 D = none := by rw [hm_ne hDb]; exact hD
  have keep : ∀ {H H' : Hp} {xs : List V}, Ex (Hm b H) (Hm b H') → H D = some (.lst xs) → H' D = some (.lst xs) := fun e h => by
    have := e D _ (by rw [hm_ne hDb]; exact h)
    rw [hm_ne hDb] at this
    exact this
  have updx : ∀ {H : Hp} {o : HO}, Ex (Hm b H1) (Hm b H) → Ex (Hm b H1) (Hm b (upd H D o)) := fun e a u ha => by
    have hab : a ≠ b := fun z => by rw [z, hm_at] at ha; cases ha
    have haD : a ≠ D := ne_of_none ha hmD
    have := e a u ha
    rw [hm_ne hab] at this ⊢
    rw [upd_ne haD]
    exact this
  have updb : ∀ {H : Hp} {o : HO} {k : Nat}, Box b k H → Box b k (upd H D o) := fun h => by
    obtain ⟨x, y, z, h1, h2, h3⟩ := h
    exact ⟨x, y, z, by rw [upd_ne (Ne.symm hDb)]; exact h1, h2, h3⟩
  refine lc_it W (fun i H => ∃ acc, C i acc ∧ acc.length ≤ i ∧ Ex (Hm b H1) (Hm b H) ∧ Box b (n1 + i * c) H ∧ H D = some (.lst (acc.map V.str))) ⟨[], c0, Nat.le_refl _, updx (Ex.refl _), updb (by rw [Nat.zero_mul]; exact hb), upd_same⟩ (fun i H _ h => by obtain ⟨_, _, _, e, _⟩ := h; exact hG H e) ?_ ?_
  · rintro i x H H' hi ⟨acc, hc, hal, e1, hb1, hD1⟩ hy
    obtain ⟨rfl, rfl⟩ := hY i x H H' hi hy
    refine ⟨hw _, step i acc H' hi hc e1 hb1 _ fun t H3 e3 hf ht => ?_⟩
    cases t with
    | true =>
      rw [if_pos rfl]
      refine ht rfl _ fun s H4 hc4 e4 hb4 => ⟨_, keep e4 hD1, by rw [List.length_map]; exact sz_lt (by omega), acc ++ [s], hc4, by rw [List.length_append]; exact Nat.succ_le_succ hal, updx (e1.trans e4), updb hb4, by rw [upd_same, List.map_append]; rfl⟩
    | false =>
      rw [if_neg Bool.false_ne_true]
      obtain ⟨hc3, hb3⟩ := hf rfl
      exact ⟨acc, hc3, by omega, e1.trans e3, hb3, keep e3 hD1⟩
  · rintro H ⟨acc, hc, hal, e1, hb1, hD1⟩
    exact q D H acc hc e1 hb1 ⟨D, rfl, by rw [hm_ne hDb]; exact hD1⟩
end
/-- a letter -/
def LetP : Pr := ⟨fun v _ => ∃ c, 97 ≤ c ∧ c ≤ 122 ∧ v = .str (sg c), fun _ h => h⟩
def WordP : Pr := ⟨fun v _ => ∃ z, NameOk z ∧ v = .str z, fun _ h => h⟩
def abc : Str := "abcdefghijklmnopqrstuvwxyz"
section
variable {σ : L2.St} {G : Hp} {E : XK} {b : Addr} {n : Nat}
theorem eb_letter {ta tl tk : TE} (hb : Ev ta σ G (.ref b)) (hl : Ev tl σ G (.str abc)) (hk : Ev tk σ G (.int 26)) (hn : n + 1 ≤ 1000000) : EvB b n 1 (tOp rIxS tl (tCall (FnB 1 R_take) [] E (tCons ta (tCons tk tNil)))) σ G LetP :=
  (eb_op (m1 := 0) (m2 := 1) (P1 := Is (.str abc)) (P2 := Nlt 26) (eb (ep hl)) (eb_take (k := 26) hb hk (by decide) (by decide) (by omega)) fun x y H _ hx hy => by
    have hx : x = .str abc := hx
    obtain ⟨i, hi, rfl⟩ := hy
    subst hx
    have hl : (List.range' 97 26)[i]? = some (97 + i) := by rw [List.getElem?_range' hi]; congr 1; omega
    refine ⟨.str (sg (97 + i)), ⟨97 + i, by omega, by omega, rfl⟩, fun Q q => ⟨abc, (i : Int), 97 + i, rfl, rfl, by decide +kernel, ?_, q⟩⟩
    have : abc.cps.toList = List.range' 97 26 := letters_eq
    rw [this]
    exact atI_nat hl).mono (by omega)
end
end
end Rs
/-! The law's names: the def. -/
namespace Rs
open PySem PySem.Spec PyProof.Rows L2 Evl
section
variable {P : Program} {w : World} {K : PySem.W.Frag} {mg : Str → Option Value} {base : Heap}
/-- an int in a range -/
def NIn (lo hi : Nat) : Pr := ⟨fun v _ => ∃ i : Nat, lo ≤ i ∧ i < hi ∧ v = .int (i : Int), fun _ h => h⟩
instance {lo hi : Nat} : NoB (NIn lo hi) := ⟨fun _ h => h⟩
def LettersP (lo hi : Nat) : Pr := ⟨fun v _ => ∃ cs : List Nat, lo ≤ cs.length ∧ cs.length < hi ∧ (∀ c ∈ cs, 97 ≤ c ∧ c ≤ 122) ∧ v = .str ⟨cs.toArray⟩, fun _ h => h⟩
section
variable {σ : L2.St} {G H : Hp} {E : XK} {b : Addr} {n m : Nat} {ta tb te tl tk : TE}
theorem eb_addN {lo k : Nat} (ha : Ev ta σ G (.int (lo : Int))) (h : EvB b n m tb σ G (Nlt k)) : EvB b n m (tOp (rI0 fun i j => .int (i + j)) ta tb) σ G (NIn lo (lo + k)) :=
  (eb_op (m1 := 0) (m2 := m) (P1 := Is (.int (lo : Int))) (P2 := Nlt k) (eb (ep ha)) h fun x y H _ hx hy => by
    have hx : x = .int (lo : Int) := hx
    obtain ⟨i, hi, rfl⟩ := hy
    subst hx
    exact ⟨.int ((lo + i : Nat) : Int), ⟨lo + i, by omega, by omega, rfl⟩, fun Q q => ⟨(lo : Int), (i : Int), rfl, rfl, q⟩⟩).mono (by omega)
theorem eb_letters {sep : V} {tn : TE} {j lo k : Nat} {vs : List Nat} (hs : sep = .str "") (hn : n + 1 + (lo + k) ≤ 1000000) (hk : lo + k ≤ 100)
    (h : EvB b n 1 tn σ G (NIn lo (lo + k))) (hw : ∀ x, wipe ((wipe σ vs).set j (some x)) vs = wipe σ vs) (he : ∀ x, ∀ n', n' + 1 ≤ 1000000 → EvB b n' 1 te ((wipe σ vs).set j (some x)) G LetP) :
    EvB b n (1 + (lo + k)) (tM1 (fun x xs H Q => ∃ a p, ∃ ys : List Str, x = .str a ∧ xs = [.ref p] ∧ (SqL K H p (ys.map V.str) ∨ SqT K H p (ys.map V.str)) ∧ (ys.map (·.length)).sum + ys.length * a.length ≤ 16777216 ∧ Q (.str (Txt.join a ys)) H) (tC sep)
      (tLc (iRng1 (tCons tn tNil)) (gName j) tYes te vs)) σ G (LettersP lo (lo + k)) := fun H1 e hb Q q => by
  subst hs
  refine ⟨⟨_, rfl⟩, ?_⟩
  unfold tLc iRng1
  refine (eab_cons h eab_nil) H1 e hb _ fun us H2 e2 h2 hus => ?_
  obtain ⟨_, rfl, i, hi1, hi2, rfl⟩ := all1 hus
  have h2 : Box b (n + 1) H2 := h2.mono (by omega)
  refine ⟨(i : Int), rfl, by omega, by omega, ?_⟩
  have hi3 : (i : Int).toNat = i := Int.toNat_natCast i
  rw [hi3]
  refine lcb_core (tt := tYes) (te := te) (Q := fun y H2 => ∃ a p, ∃ ys : List Str, V.str ("" : Str) = .str a ∧ [y] = [.ref p] ∧ (SqL K H2 p (ys.map V.str) ∨ SqT K H2 p (ys.map V.str)) ∧ (ys.map (·.length)).sum + ys.length * a.length ≤ 16777216 ∧ Q (.str (Txt.join a ys)) H2) (n1 := n + 1) (c := 1) (J := Itr 0 i) walk_range (fun k => .int (0 + (k : Int))) (fun _ _ => trivial) (fun _ _ _ _ _ h => h) (fun k acc => ∃ cs : List Nat, acc = cs.map sg ∧ cs.length = k ∧ ∀ c ∈ cs, 97 ≤ c ∧ c ≤ 122) ⟨[], rfl, rfl, fun _ h => nomatch h⟩ (by omega) hw (fun k acc H hk' hc e3 h3 R hR => ?_) h2 (fun D H3 acc hc e3 h3 hl => ?_)
  · obtain ⟨cs, rfl, hcl, hcs⟩ := hc
    refine hR true H (Ex.refl _) (fun z => nomatch z) fun _ R2 hR2 => ?_
    refine he _ (n + 1 + k * 1) (by omega) H (e.trans (e2.trans e3)) h3 _ fun v H4 e4 h4 hv => ?_
    obtain ⟨c, hc1, hc2, rfl⟩ := hv
    refine hR2 (sg c) H4 ⟨cs ++ [c], by rw [List.map_append]; rfl, by rw [List.length_append, hcl]; rfl, fun d hd => ?_⟩ e4 (h4.mono (by omega))
    rcases List.mem_append.mp hd with hd | hd
    · exact hcs d hd
    · rw [List.mem_singleton.mp hd]
      exact ⟨hc1, hc2⟩
  · obtain ⟨cs, rfl, hcl, hcs⟩ := hc
    obtain ⟨a, ha, hl2⟩ := hl
    cases ha
    refine ⟨"", D, cs.map sg, rfl, rfl, .inl (sq_of (hm_ex b H3 _ _ hl2)), ?_, ?_⟩
    · have : ((cs.map sg).map (·.length)).sum = cs.length := by
        clear hcs hcl hl2
        induction cs with
        | nil => rfl
        | cons c cs ih => rw [List.map_cons, List.map_cons, List.sum_cons, ih, sg_len, List.length_cons, Nat.add_comm]
      rw [this, List.length_map]
      have h0 : ("" : Str).length = 0 := rfl
      rw [h0]
      omega
    · rw [join_sg]
      exact q _ H3 (e2.trans e3) (h3.mono (by omega)) ⟨cs, by omega, by omega, hcs, rfl⟩
end
/-- names that were found -/
structure NmOk (ns : List Str) : Prop where
  nm : ∀ z ∈ ns, NameOk z
  nd : ns.Nodup
abbrev sc__law_namesN : List Str := ["_law_box_here", "_law_many", "_law_letters", "_law_names_here", "_law_k", "_law_stem", "_law_word", "_law_spare", "_law_letter", "_law_j"]
theorem sc__law_names : FnScope sc__law_namesN ["_law_box_here", "_law_many"] (defScope s__law_names) := ⟨rfl, rfl, rfl, by decide +kernel, rfl, by decide +kernel, by decide +kernel⟩
theorem bd__law_names : Bnd "_law_names" "_law_names" s__law_names ["_law_box_here", "_law_many"] := fun _ _ _ _ _ _ us hl => match us, hl with | [_, _], _ => rfl
def NamesP (m : Nat) : Pr := ⟨fun v H => ∃ ns, NamesOk ns ∧ ns.length = m ∧ (LstV (ns.map V.str)).p v H, fun e h => by
  obtain ⟨ns, h1, h2, h3⟩ := h
  exact ⟨ns, h1, h2, (LstV _).up e h3⟩⟩
def R_names (Ps : List Pr) (P : Pr) : Prop := ∃ m : Nat, 1 ≤ m ∧ m ≤ 8 ∧ Ps = [Is (.int (m : Int))] ∧ P = NamesP m
theorem ok__law_names (T : Tx K mg) : C8.Cal P w K mg base 2 "_law_names" (FnB 80 R_names) [] := by
  refine cal_of sc__law_names bd__law_names (fnb_len (k := 1) fun Ps P h => by obtain ⟨_, _, _, rfl, _⟩ := h; rfl) (fun f cdv A outer s H vs Q E hr h => ?_) T.g__law_names T.f__law_names
  obtain ⟨b, n, us, _, _, rfl, ⟨m, m1, m8, rfl, rfl⟩, hb, hn, ha, k⟩ := h
  obtain ⟨_, rfl, rfl⟩ := all1 ha
  refine ⟨_, (pss_cons (ps_set (i := 2) sc__law_names.nd rfl (Or.inr rfl) pe_str)
      (pss_cons (ps_set (i := 3) sc__law_names.nd rfl (Or.inr rfl) (pe_lst pa_nil))
      (pss_cons (ps_for PassesOwn.never rfl (pi_range1 rfl T.b_range (pa_cons (pv 1) pa_nil)) (pg_name (i := 4) sc__law_names.nd rfl (Or.inl rfl))
        (pss_cons (ps_set (i := 5) sc__law_names.nd rfl (Or.inl rfl) pe_str)
      (Evl.pss_cut (ps_if (PW.pt (pw_and (pt_cmpR (op_neD hr.units) (pv 3) (pe_lst pa_nil) (nomark _)) (pw_and1 (pt_cmpR op_eq (C8.pe_c (ok__law_take T) hr (by decide) rfl (pa_cons (pv 0) (pa_cons pe_int pa_nil))) pe_int (nomark _)))))
        (pss_one (ps_set (i := 5) sc__law_names.nd rfl (Or.inl rfl) (pe_ix ix_list (pv 3) (C8.pe_c (ok__law_take T) hr (by decide) rfl (pa_cons (pv 0) (pa_cons (pe_callB call_len_seq (by rfl) T.b_len (by decide +kernel) (pa_cons (pv 3) pa_nil)) pa_nil))) (fun _ _ => rfl)))) pss_nil)
      (pss_cons (ps_set (i := 6) sc__law_names.nd rfl (Or.inr rfl) (pe_slice sl_str (pe_op op_add_str (pv 5) (pe_join pe_str (pe_lc (own := [("_law_j", 9)]) (g := gName 9) (tt := tYes) (te := (tOp _ _ (tCall _ _ _ (tCons _ (tCons _ tNil))))) rfl sc__law_names.nd (pi_range1 rfl T.b_range (pa_cons (pe_op op_add pe_int (C8.pe_c (ok__law_take T) hr (by decide) rfl (pa_cons (pv 0) (pa_cons pe_int pa_nil)))) pa_nil)) (blkOk_by (N := sc__law_namesN) (sc := defScope s__law_names) (by decide +kernel)) (fun _ _ _ _ _ => (pg_name (i := 9) sc__law_names.nd rfl (Or.inl rfl))) (fun _ _ _ _ _ => pts_nil) (fun _ _ _ _ _ => (pe_ix ix_str (pv 2) (C8.pe_c (ok__law_take T) hr (by decide) rfl (pa_cons (pv 0) (pa_cons pe_int pa_nil))) (fun _ _ => rfl)))))) po_none (po_some pe_int)))
      (pss_cons (ps_setLc (i := 7) (own := [("_law_letter", 8)]) (g := gName 8) (tt := (tTest (tOp (rIn K true) (tOp _ (tSl _ _ tNoPart (tPart _)) _) _))) (te := (tOp _ (tSl _ _ tNoPart (tPart _)) _)) rfl sc__law_names.nd rfl rfl (sw_true rfl rfl rfl (by decide +kernel)) (pi_str (pv 2)) (blkOk_by (N := sc__law_namesN) (sc := defScope s__law_names) (by decide +kernel)) (fun _ _ _ _ _ => (pg_name (i := 8) sc__law_names.nd rfl (Or.inl rfl))) (fun _ _ _ _ _ => (pts_one (pt_cmpR op_notIn_seq (pe_op op_add_str (pe_slice sl_str (pv 6) po_none (po_some pe_int)) (pv 8)) (pv 3) (by rfl)))) (fun _ _ _ _ _ => (pe_op op_add_str (pe_slice sl_str (pv 6) po_none (po_some pe_int)) (pv 8))))
      (pss_one (ps_expr (pe_bm PySem.F.plainAttrs_list PySem.F.slot_list_append PySem.F.type_list_append mt_append (pv 3) (pa_cons (pe_ifExp (pt_cmpR op_in_seq (pv 6) (pv 3) (by rfl)) (pe_ix ix_list (pv 7) pe_int (fun _ _ => rfl)) (pv 6)) pa_nil)))))))))
      (pss_one (ps_ret (pv 3)))))), ?_⟩
  refine q_asg (v := .str abc) ev_c fun H1 e1 => ?_
  refine q_asgL (el_lst ea_nil (by decide)) fun l H2 hl e2 h2 => ?_
  have e02 := e1.trans e2
  have hlb : l ≠ b := by
    obtain ⟨x, y, z, h3, _⟩ := hb
    rintro rfl
    rw [e1 _ _ h3] at hl
    cases hl
  have hl0 : Hm b H l = none := by
    rw [hm_ne hlb]
    exact fresh_back e1 hl
  refine q_forR1 (n := (m : Int)) (ea_cons (ev_var rfl) ea_nil) (by omega) (fun i σ' H' => ∃ u4 u5 u6 u7 u8 u9 ns, σ' = [some (.ref b), some (.int (m : Int)), some (.str abc), some (.ref l), u4, u5, u6, u7, u8, u9] ∧ Ex (Hm b H) (Hm b H') ∧ Box b (n + i * 10) H' ∧ NmOk ns ∧ ns.length = i ∧ H' l = some (.lst (ns.map V.str)))
    (fun H3 e3 => ⟨_, _, _, _, _, _, [], rfl, hm_up (e02.trans e3), by rw [Nat.zero_mul]; exact hb.up (e02.trans e3), ⟨(fun _ h => nomatch h), List.nodup_nil⟩, rfl, e3 _ _ h2⟩) ?_ ?_
  · rintro i σ' H3 hi ⟨u4, u5, u6, u7, u8, u9, ns, rfl, e3, b3, hns, hnl, hl3⟩
    have him : i < m := by omega
    have hnames : ∀ {H4}, Ex (Hm b H3) (Hm b H4) → (LstV (ns.map V.str)).p (.ref l) (Hm b H4) := fun e => ⟨l, rfl, e _ _ (by rw [hm_ne hlb]; exact hl3)⟩
    refine q_asg (v := .str "") ev_c fun H4 e4 => ?_
    refine Evl.q_cut (M := fun σ' H' => ∃ st, σ' = [some (.ref b), some (.int (m : Int)), some (.str abc), some (.ref l), some (.int (i : Int)), some (.str st), u6, u7, u8, u9] ∧ Ex (Hm b H3) (Hm b H') ∧ Box b (n + i * 10 + 2) H' ∧ (st = "" ∨ NameOk st)) ?_ ?_
    · have hnm : EvP (tVar 3) [some (.ref b), some (.int (m : Int)), some (.str abc), some (.ref l), some (.int (i : Int)), some (.str ""), u6, u7, u8, u9] H4 (LstV (ns.map V.str)) := ep_var rfl ⟨l, rfl, e4 _ _ hl3⟩
      have hne : EvT (tTest (tOp (rNeD K) (tVar 3) (tLst tNil))) [some (.ref b), some (.int (m : Int)), some (.str abc), some (.ref l), some (.int (i : Int)), some (.str ""), u6, u7, u8, u9] H4 (!ns.isEmpty) :=
        et_test (ev_is (ev_neD (d := .list (ns.map PyData.str)) (d' := .list []) (ep_to hnm fun v H _ h => dat_strs h) (ep_to (el_lp (el_lst ea_nil (by decide))) fun v H _ h => dat_strs (ss := []) h) (shaped_strs ns fun s hs => (hns.nm s hs).ok) (by decide)) (by rw [eqvList_nil, List.isEmpty_map]))
      refine k_when (hne H4 (Ex.refl H4) _ fun H5 e5 => ?_)
      have e35 : Ex (Hm b H3) (Hm b H5) := hm_up (e4.trans e5)
      have b5 := b3.up (e4.trans e5)
      cases hz : ns.isEmpty with
      | true =>
        exact ⟨"", rfl, e35, b5.mono (by omega), .inl rfl⟩
      | false =>
        have hpos : 0 < ns.length := by
          cases ns with
          | nil => cases hz
          | cons a ns => exact Nat.succ_pos _
        have htk : EvB b (n + i * 10) 1 (tCall (FnB 1 R_take) [] E0 (tCons (tVar 0) (tCons (tC (.int 3)) tNil))) [some (.ref b), some (.int (m : Int)), some (.str abc), some (.ref l), some (.int (i : Int)), some (.str ""), u6, u7, u8, u9] (Hm b H5) (Nlt 3) := eb_take (k := 3) (ev_var rfl) ev_c (by decide) (by decide) (by omega)
        refine htk H5 (Ex.refl _) b5 _ fun v H6 e6 b6 hv => ?_
        obtain ⟨d, hd, rfl⟩ := hv
        refine ⟨rfl, _, rfl, ?_⟩
        by_cases hd0 : V.int (d : Int) = .int 0
        · dsimp only
          rw [if_pos (decide_eq_true hd0)]
          have hst : EvB b (n + i * 10 + 1) 1 (tOp (rIxL K) (tVar 3) (tCall (FnB 1 R_take) [] E0 (tCons (tVar 0) (tCons (tCB (rLenS K) (tCons (tVar 3) tNil)) tNil)))) [some (.ref b), some (.int (m : Int)), some (.str abc), some (.ref l), some (.int (i : Int)), some (.str ""), u6, u7, u8, u9] (Hm b H6) ⟨fun v _ => ∃ s ∈ ns, v = .str s, fun _ h => h⟩ :=
            (eb_op (m1 := 0) (m2 := 1) (P1 := LstV (ns.map V.str)) (P2 := Nlt ns.length) (eb (ep_var rfl (hnames (e35.trans e6)))) (eb_take (k := ns.length) (ev_var rfl) (ev_is (ev_lenLV (ep_var rfl (hnames (e35.trans e6)))) (by rw [List.length_map])) hpos (by omega) (by omega)) fun x y H _ hx hy => by
              obtain ⟨a, rfl, hx⟩ := hx
              obtain ⟨d, hd, rfl⟩ := hy
              exact ⟨.str ns[d], ⟨ns[d], List.getElem_mem hd, rfl⟩, fun Q q => ⟨a, _, (d : Int), .str ns[d], rfl, rfl, sq_of (hm_ex b H _ _ hx), atI_nat (by rw [List.getElem?_map, List.getElem?_eq_getElem hd]; rfl), q⟩⟩).mono (by omega)
          refine hst H6 (Ex.refl _) b6 _ fun v H7 e7 b7 hv => ?_
          obtain ⟨st, hst, rfl⟩ := hv
          exact ⟨st, rfl, e35.trans (e6.trans e7), b7.mono (by omega), .inr (hns.nm st hst)⟩
        · dsimp only
          rw [if_neg (by rw [decide_eq_false hd0]; exact Bool.false_ne_true)]
          exact ⟨"", rfl, e35.trans e6, b6.mono (by omega), .inl rfl⟩
    rintro σ' H5 ⟨st, rfl, e5, b5, hst⟩
    have hst8 : st.length ≤ 8 ∧ ∀ c ∈ st.cps.toList, 97 ≤ c ∧ c ≤ 122 := by
      rcases hst with rfl | h
      · exact ⟨by decide, fun c hc => by
          have : ("" : Str).cps.toList = [] := rfl
          rw [this] at hc
          cases hc⟩
      · exact ⟨h.2.1, h.2.2⟩
    -- the word
    have hlet : EvB b (n + i * 10 + 2) (1 + (1 + 4)) (tM1 (fun x xs H Q => ∃ a p, ∃ ys : List Str, x = .str a ∧ xs = [.ref p] ∧ (SqL K H p (ys.map V.str) ∨ SqT K H p (ys.map V.str)) ∧ (ys.map (·.length)).sum + ys.length * a.length ≤ 16777216 ∧ Q (.str (Txt.join a ys)) H) (tC (.str ""))
      (tLc (iRng1 (tCons (tOp (rI0 fun i j => .int (i + j)) (tC (.int 1)) (tCall (FnB 1 R_take) [] E0 (tCons (tVar 0) (tCons (tC (.int 4)) tNil)))) tNil)) (gName 9) tYes (tOp rIxS (tVar 2) (tCall (FnB 1 R_take) [] E0 (tCons (tVar 0) (tCons (tC (.int 26)) tNil)))) [9]))
      [some (.ref b), some (.int (m : Int)), some (.str abc), some (.ref l), some (.int (i : Int)), some (.str st), u6, u7, u8, u9] (Hm b H5) (LettersP 1 (1 + 4)) :=
      eb_letters (lo := 1) (k := 4) rfl (by omega) (by omega) (eb_addN (lo := 1) ev_c (eb_take (k := 4) (ev_var rfl) ev_c (by decide) (by decide) (by omega))) (fun _ => rfl) fun x n' hn' => eb_letter (ev_var rfl) (ev_var rfl) ev_c hn'
    refine k_asg ?_
    refine ⟨.str st, rfl, ?_⟩
    refine hlet H5 (Ex.refl _) b5 _ fun v H6 e6 b6 hv => ?_
    obtain ⟨cs, hc1, hc4, hcs, rfl⟩ := hv
    have hcl : (⟨cs.toArray⟩ : Str).length = cs.length := List.size_toArray
    have hcc : (⟨cs.toArray⟩ : Str).cps.toList = cs := List.toList_toArray
    refine ⟨st, ⟨cs.toArray⟩, rfl, rfl, sz_of (by omega), (8 : Int), rfl, _, rfl, sz_of (by rw [app_len]; omega), ?_⟩
    have hcut := cutS_to (st ++ ⟨cs.toArray⟩) 8
    have hcut : cutS (st ++ ⟨cs.toArray⟩) none (some 8) = cutN (st ++ ⟨cs.toArray⟩) 8 := hcut
    rw [hcut]
    have hword : NameOk (cutN (st ++ ⟨cs.toArray⟩) 8) := name_cut (by rw [app_len]; omega) fun c hc => by
      rw [app_cps, List.mem_append, hcc] at hc
      rcases hc with hc | hc
      · exact hst8.2 c hc
      · exact hcs c hc
    generalize cutN (st ++ ⟨cs.toArray⟩) 8 = z at hword
    have e36 := e5.trans e6
    have hl6 : H6 l = some (.lst (ns.map V.str)) := by
      have := hnames e36
      obtain ⟨a, ha, h⟩ := this
      cases ha
      exact hm_ex b H6 _ _ h
    have b6 : Box b (n + (i + 1) * 10) H6 := b6.mono (by omega)
    -- what is spare
    have hzl := hword.2.1
    have hsp : EvLP (tLc (iStr (tVar 2)) (gName 8) (tTest (tOp (rIn K true) (tOp (fun x y H Q => ∃ i j, x = .str i ∧ y = .str j ∧ i.length + j.length ≤ sizeLine ∧ Q (.str (i ++ j)) H) (tSl rSlS (tVar 6) tNoPart (tPart (tC (.int 7)))) (tVar 8)) (tVar 3))) (tOp (fun x y H Q => ∃ i j, x = .str i ∧ y = .str j ∧ i.length + j.length ≤ sizeLine ∧ Q (.str (i ++ j)) H) (tSl rSlS (tVar 6) tNoPart (tPart (tC (.int 7)))) (tVar 8)) [8])
        [some (.ref b), some (.int (m : Int)), some (.str abc), some (.ref l), some (.int (i : Int)), some (.str st), some (.str z), u7, u8, u9] H6 ((abc.cps.toList.filter fun c => !decide (cutN z 7 ++ sg c ∈ ns)).map fun c => Is (.str (cutN z 7 ++ sg c))) := by
      have hcat : ∀ (c : Nat) (H7 : Hp), Ev (tOp (fun x y H Q => ∃ i j, x = .str i ∧ y = .str j ∧ i.length + j.length ≤ sizeLine ∧ Q (.str (i ++ j)) H) (tSl rSlS (tVar 6) tNoPart (tPart (tC (.int 7)))) (tVar 8)) ((wipe [some (.ref b), some (.int (m : Int)), some (.str abc), some (.ref l), some (.int (i : Int)), some (.str st), some (.str z), u7, u8, u9] [8]).set 8 (some (.str (sg c)))) H7 (.str (cutN z 7 ++ sg c)) := fun c H7 =>
        ev_addS (ev_slS (k := 7) (ev_var rfl) ev_c (by omega)) (ev_var rfl) (by rw [cut_len, sg_len]; omega)
      exact elp_lcS (f := fun c => Is (.str (cutN z 7 ++ sg c))) (fun c => !decide (cutN z 7 ++ sg c ∈ ns)) (ev_var rfl) (by decide +kernel) (fun _ => rfl) (fun c H7 hc e7 => et_test (ev_niL (hcat c H7) (ep_var rfl ⟨l, rfl, e7 _ _ hl6⟩))) (fun c H7 hc e7 _ => ep (hcat c H7))
    refine q_asgP hsp.lst fun sv H7 e7 hsv => ?_
    have hab : abc.cps.toList = List.range' 97 26 := letters_eq
    rw [hab] at hsv
    -- the new name
    have hnew : EvP (tIf (tTest (tOp (rIn K false) (tVar 6) (tVar 3))) (tOp (rIxL K) (tVar 7) (tC (.int 0))) (tVar 6)) [some (.ref b), some (.int (m : Int)), some (.str abc), some (.ref l), some (.int (i : Int)), some (.str st), some (.str z), some sv, u8, u9] H7 ⟨fun v _ => ∃ s, NameOk s ∧ s ∉ ns ∧ v = .str s, fun _ h => h⟩ := by
      refine ep_if (b := decide (z ∈ ns)) (et_test (ev_inL (ev_var rfl) (ep_var rfl ⟨l, rfl, e7 _ _ hl6⟩))) (fun hz => ?_) (fun hz => ?_)
      · have hne := spare_ne (z := z) (ns := ns) (by omega)
        obtain ⟨c, cs', hcs'⟩ := List.exists_cons_of_ne_nil hne
        have hcm : c ∈ (List.range' 97 26).filter fun c => !decide (cutN z 7 ++ sg c ∈ ns) := by rw [hcs']; exact List.mem_cons_self
        obtain ⟨hc1, hc2⟩ := List.mem_filter.mp hcm
        rw [List.mem_range'_1] at hc1
        rw [hcs'] at hsv
        refine ep_to (ep_ixL (k := 0) (P := Is (.str (cutN z 7 ++ sg c))) (ep_var rfl hsv) ev_c rfl (at_k 0)) fun v H8 _ hv => ⟨_, name_add hword ⟨by omega, by omega⟩, by simpa using hc2, hv⟩
      · have hz : z ∉ ns := of_decide_eq_false hz
        exact ep_to (ep (ev_var rfl)) fun v H8 _ hv => ⟨z, hword, hz, hv⟩
    refine s_appP (e7 _ _ hl6) (ev_var rfl) hnew (by rw [List.length_map]; omega) fun v H8 e8 hv => ?_
    obtain ⟨s, hs1, hs2, rfl⟩ := hv
    have e68 := hm_up (b := b) (e7.trans e8)
    have hml : ∀ {o : HO}, Ex (Hm b H) (Hm b (upd H8 l o)) := fun {o} a u hau => by
      have hal : a ≠ l := ne_of_none hau hl0
      have hab : a ≠ b := fun z => by rw [z, hm_at] at hau; cases hau
      have := (e3.trans (e36.trans e68)) a u hau
      rw [hm_ne hab] at this ⊢
      rw [upd_ne hal]
      exact this
    refine ⟨_, _, _, _, _, _, ns ++ [s], rfl, hml, ?_, ⟨fun x hx => ?_, ?_⟩, by rw [List.length_append, hnl]; rfl, by rw [upd_same, List.map_append]; rfl⟩
    · obtain ⟨x1, y1, z1, q1, q2, q3⟩ := b6.up (e7.trans e8)
      exact ⟨x1, y1, z1, by rw [upd_ne (Ne.symm hlb)]; exact q1, q2, q3⟩
    · rcases List.mem_append.mp hx with hx | hx
      · exact hns.nm x hx
      · rw [List.mem_singleton.mp hx]
        exact hs1
    · refine List.nodup_append.mpr ⟨hns.nd, by simp, fun a ha c hc => ?_⟩
      rw [List.mem_singleton.mp hc]
      rintro rfl
      exact hs2 ha
  · rintro σ' H3 ⟨u4, u5, u6, u7, u8, u9, ns, rfl, e3, b3, hns, hnl, hl3⟩
    have hm : (m : Int).toNat = m := Int.toNat_natCast m
    rw [hm] at hnl b3
    exact s_ret (ev_var rfl) fun H4 e4 => k _ H4 (e3.trans (hm_up e4)) ((b3.up e4).mono (by omega)) ⟨ns, ⟨by omega, by omega, hns.nm, hns.nd⟩, hnl, l, rfl, by rw [hm_ne hlb]; exact e4 _ _ hl3⟩
end
end Rs
/-! The law's graph. -/
namespace Rs
open PySem PySem.Spec PyProof.Rows L2 Evl
instance {e : Str × Str} : NoB (prS e) := inferInstanceAs (NoB (TupV _))
instance {e : Str × Str} : Ref (prS e) := inferInstanceAs (Ref (TupV _))
instance {e : Nat × Nat} : NoB (prI e) := inferInstanceAs (NoB (TupV _))
instance {e : Nat × Nat} : Ref (prI e) := inferInstanceAs (Ref (TupV _))
instance {a b : Nat} : NoB (prN a b) := inferInstanceAs (NoB (TupV _))
instance {a b : Nat} : Ref (prN a b) := inferInstanceAs (Ref (TupV _))
instance {a b : Nat} : Stab (prN a b) := inferInstanceAs (Stab (TupV _))
theorem hm_set {l b : Addr} {H : Hp} {o : HO} (h : l ≠ b) : Hm b (upd H l o) = upd (Hm b H) l o := by
  funext a
  by_cases z : a = b
  · rw [z, hm_at, upd_ne (Ne.symm h), hm_at]
  · rw [hm_ne z]
    by_cases y : a = l
    · rw [y, upd_same, upd_same]
    · rw [upd_ne y, upd_ne y, hm_ne z]
theorem Box.set {b l : Addr} {n : Nat} {H : Hp} {o : HO} (h : l ≠ b) (hb : Box b n H) : Box b n (upd H l o) := by
  obtain ⟨x, y, z, h1, h2, h3⟩ := hb
  exact ⟨x, y, z, by rw [upd_ne (Ne.symm h)]; exact h1, h2, h3⟩
theorem Box.ne {b l : Addr} {n : Nat} {H : Hp} (hb : Box b n H) (hl : H l = none) : l ≠ b := by
  obtain ⟨x, y, z, h1, h2, h3⟩ := hb
  rintro rfl
  rw [h1] at hl
  cases hl
theorem sqIx {d n : Nat} (h : d < n) : seqIndex? (d : Int) n = some d := by
  unfold seqIndex?
  have h1 : ¬ ((d : Int) < 0) := by omega
  simp [h1, h]
theorem hm_get {l b : Addr} {H H' : Hp} {o : HO} (h : l ≠ b) (e : Ex (Hm b H) (Hm b H')) (hl : H l = some o) : H' l = some o := by
  have := e l o (by rw [hm_ne h]; exact hl)
  rw [hm_ne h] at this
  exact this
section
variable {P : Program} {w : World} {K : PySem.W.Frag} {mg : Str → Option Value} {base : Heap}
section
variable {σ : L2.St} {G H : Hp} {E : XK} {b l : Addr} {n m : Nat} {ta tb te tl tk : TE} {xs : List V} {P1 : Pr} {D : Ends} {tz : TS}
theorem sb_app {i : Nat} (hi : σ[i]? = some (some (.ref l))) (h : EvB b n m te σ G P1) (e : Ex G (Hm b H)) (hb : Box b n H) (hlb : l ≠ b) (hl : H l = some (.lst xs)) (hz : xs.length < 100000)
    (k : ∀ v H1, Ex (Hm b H) (Hm b H1) → Box b (n + m) H1 → P1.p v (Hm b H1) → D.nx σ (upd H1 l (.lst (xs ++ [v])))) : tDrop (tBM K "list" rAppend (tVar i) (tCons te tNil)) D σ H :=
  ⟨_, hi, .inl ⟨rfl, xs, sq_of hl⟩, h H e hb _ fun v H2 e2 b2 hv => ⟨l, xs, v, rfl, rfl, hm_get hlb e2 hl, sz_lt hz, k v H2 e2 b2 hv⟩⟩
/-- xs.pop(i), i drawn -/
theorem kb_pop {i : Nat} {Q : VK} (hi : σ[i]? = some (some (.ref l))) (h : EvB b n m te σ G (Nlt xs.length)) (e : Ex G (Hm b H)) (hb : Box b n H) (hlb : l ≠ b) (hl : H l = some (.lst xs)) (hz : xs.length < 100000)
    (k : ∀ (d : Nat) (hd : d < xs.length) H1, Ex (Hm b H) (Hm b H1) → Box b (n + m) H1 → Q xs[d] (upd H1 l (.lst (xs.eraseIdx d)))) : tBM K "list" rPopAt (tVar i) (tCons te tNil) σ H Q :=
  ⟨_, hi, .inl ⟨rfl, xs, sq_of hl⟩, h H e hb _ fun v H2 e2 b2 hv => by
    obtain ⟨d, hd, rfl⟩ := hv
    exact ⟨l, xs, (d : Int), d, xs[d], rfl, rfl, hm_get hlb e2 hl, by omega, by omega, sqIx hd, List.getElem?_eq_getElem hd, k d hd H2 e2 b2⟩⟩
end
/-! _law_graph -/
abbrev sc__law_graphN : List Str := ["_law_box_here", "_law_many", "_law_names_here", "_law_share", "_law_edges", "_law_at", "_law_other"]
theorem sc__law_graph : FnScope sc__law_graphN ["_law_box_here", "_law_many"] (defScope s__law_graph) := ⟨rfl, rfl, rfl, by decide +kernel, rfl, by decide +kernel, by decide +kernel⟩
theorem bd__law_graph : Bnd "_law_graph" "_law_graph" s__law_graph ["_law_box_here", "_law_many"] := fun _ _ _ _ _ _ us hl => match us, hl with | [_, _], _ => rfl
structure FsOk (m : Nat) (fs : List (Nat × Nat)) : Prop where
  lt : ∀ e ∈ fs, e.1 < e.2 ∧ e.2 < m
  nd : fs.Nodup
  len : fs.length ≤ 100
def LGraphP (m : Nat) : Pr := ⟨fun v H => ∃ ns fs, NamesOk ns ∧ ns.length = m ∧ FsOk m fs ∧ (TupP [LstV (ns.map V.str), LstP (fs.map prI)]).p v H, fun e h => by
  obtain ⟨ns, fs, h1, h2, h3, h4⟩ := h
  exact ⟨ns, fs, h1, h2, h3, (TupP _).up e h4⟩⟩
def R_lgraph (Ps : List Pr) (P : Pr) : Prop := ∃ m : Nat, 1 ≤ m ∧ m ≤ 8 ∧ Ps = [Is (.int (m : Int))] ∧ P = LGraphP m
theorem ok__law_graph (T : Tx K mg) : C8.Cal P w K mg base 3 "_law_graph" (FnB 300 R_lgraph) [] := by
  refine cal_of sc__law_graph bd__law_graph (fnb_len (k := 1) fun Ps P h => by obtain ⟨_, _, _, rfl, _⟩ := h; rfl) (fun f cdv A outer s H vs Q E hr h => ?_) T.g__law_graph T.f__law_graph
  obtain ⟨b, n, us, _, _, rfl, ⟨m, m1, m8, rfl, rfl⟩, hb, hn, ha, k⟩ := h
  obtain ⟨_, rfl, rfl⟩ := all1 ha
  refine ⟨_, (pss_cons (ps_set (i := 2) sc__law_graph.nd rfl (Or.inl rfl) (C8.pe_c (ok__law_names T) hr (by decide) rfl (pa_cons (pv 0) (pa_cons (pv 1) pa_nil))))
      (pss_cons (ps_set (i := 3) sc__law_graph.nd rfl (Or.inl rfl) (pe_op op_add pe_int (C8.pe_c (ok__law_take T) hr (by decide) rfl (pa_cons (pv 0) (pa_cons pe_int pa_nil)))))
      (pss_cons (ps_set (i := 4) sc__law_graph.nd rfl (Or.inl rfl) (pe_lst pa_nil))
      (pss_cons (ps_for PassesOwn.never rfl (pi_range1 rfl T.b_range (pa_cons (pv 1) pa_nil)) (pg_name (i := 5) sc__law_graph.nd rfl (Or.inl rfl))
        (pss_one (ps_for PassesOwn.never rfl (pi_range2 rfl T.b_range (pa_cons (pe_op op_add (pv 5) pe_int) (pa_cons (pv 1) pa_nil))) (pg_name (i := 6) sc__law_graph.nd rfl (Or.inl rfl))
        (pss_one (ps_if (pt_cmpR op_lt (C8.pe_c (ok__law_take T) hr (by decide) rfl (pa_cons (pv 0) (pa_cons pe_int pa_nil))) (pv 3) (nomark _))
        (pss_one (ps_expr (pe_bm PySem.F.plainAttrs_list PySem.F.slot_list_append PySem.F.type_list_append mt_append (pv 4) (pa_cons (pe_tup (pa_cons (pv 5) (pa_cons (pv 6) pa_nil))) pa_nil)))) pss_nil)))))
      (pss_one (ps_ret (pe_tup (pa_cons (pv 2) (pa_cons (pv 4) pa_nil))))))))), ?_⟩
  refine kb_asg (G := Hm b H) (m := 0 + 80) (eb_call (P' := NamesP m) (ev_var rfl) (eab_cons (m1 := 0) (m2 := 0) (P' := Is (.int (m : Int))) (eb (ep (ev_var rfl))) eab_nil) ⟨m, m1, m8, rfl, rfl⟩ (by omega)) (Ex.refl _) hb fun nv H1 e1 b1 hnv => ?_
  obtain ⟨ns, hns, hnl, hnv⟩ := hnv
  refine kb_asg (G := Hm b H1) (m := 1) (eb_addN (lo := 1) (k := 4) ev_c (eb_take (k := 4) (ev_var rfl) ev_c (by decide) (by decide) (by omega))) (Ex.refl _) b1 fun sv H2 e2 b2 hsv => ?_
  obtain ⟨sh, _, _, rfl⟩ := hsv
  refine q_asgL (el_lst ea_nil (by decide)) fun l H3 hl e3 h3 => ?_
  have hlb := b2.ne hl
  have hl0 : Hm b H2 l = none := by rw [hm_ne hlb]; exact hl
  have b3 := b2.up e3
  have inv : ∀ (σ' : L2.St) (H' : Hp) (c : Nat) (fs : List (Nat × Nat)), Prop := fun σ' H' c fs => Ex (Hm b H2) (Hm b H') ∧ Box b (n + 81 + c) H' ∧ ∃ vs, H' l = some (.lst vs) ∧ AllP (fs.map prI) vs (Hm b H')
  refine q_forR1 (n := (m : Int)) (ea_cons (ev_var rfl) ea_nil) (by omega) (fun i σ' H' => ∃ u5 u6 fs, σ' = [some (.ref b), some (.int (m : Int)), some nv, some (.int (sh : Int)), some (.ref l), u5, u6] ∧ Ex (Hm b H2) (Hm b H') ∧ Box b (n + 81 + i * 8) H' ∧ (∀ e ∈ fs, e.1 < i ∧ e.1 < e.2 ∧ e.2 < m) ∧ fs.Nodup ∧ fs.length ≤ i * 8 ∧ ∃ vs, H' l = some (.lst vs) ∧ AllP (fs.map prI) vs (Hm b H'))
    (fun H4 e4 => ⟨_, _, [], rfl, hm_up (e3.trans e4), (b3.up e4).mono (by omega), (fun _ h => nomatch h), List.nodup_nil, by simp, [], e4 _ _ h3, trivial⟩) ?_ ?_
  · rintro i σ' H4 hi ⟨u5, u6, fs, rfl, e4, b4, hf1, hf2, hf3, vs, hv1, hv2⟩
    have him : i < m := by omega
    refine s_forR2 (lo := ((i + 1 : Nat) : Int)) (n := (m : Int)) (ea_cons (ev_is (ev_i0 (i := (i : Int)) (j := 1) (ev_var rfl) ev_c) (w := .int ((i + 1 : Nat) : Int)) rfl) (ea_cons (ev_var rfl) ea_nil)) (by omega) (fun j σ' H' => ∃ u6 fs, σ' = [some (.ref b), some (.int (m : Int)), some nv, some (.int (sh : Int)), some (.ref l), some (.int (i : Int)), u6] ∧ Ex (Hm b H2) (Hm b H') ∧ Box b (n + 81 + i * 8 + j) H' ∧ (∀ e ∈ fs, (e.1 < i ∨ (e.1 = i ∧ e.2 < i + 1 + j)) ∧ e.1 < e.2 ∧ e.2 < m) ∧ fs.Nodup ∧ fs.length ≤ i * 8 + j ∧ ∃ vs, H' l = some (.lst vs) ∧ AllP (fs.map prI) vs (Hm b H'))
      (fun H5 e5 => ⟨_, fs, rfl, e4.trans (hm_up e5), b4.up e5, fun e he => ⟨.inl (hf1 e he).1, (hf1 e he).2⟩, hf2, hf3, vs, e5 _ _ hv1, hv2.up (hm_up e5)⟩) ?_ ?_
    · rintro j σ' H5 hj ⟨u6, fs, rfl, e5, b5, hf1, hf2, hf3, vs, hv1, hv2⟩
      have hji : i + 1 + j < m := by omega
      have ej : ((i + 1 : Nat) : Int) + (j : Int) = ((i + 1 + j : Nat) : Int) := by omega
      rw [ej]
      have htk : EvB b (n + 81 + i * 8 + j) 1 (tCall (FnB 1 R_take) [] E0 (tCons (tVar 0) (tCons (tC (.int 4)) tNil))) [some (.ref b), some (.int (m : Int)), some nv, some (.int (sh : Int)), some (.ref l), some (.int (i : Int)), some (.int ((i + 1 + j : Nat) : Int))] (Hm b H5) (Nlt 4) := eb_take (k := 4) (ev_var rfl) ev_c (by decide) (by decide) (by omega)
      refine k_when (k_test (k_op (htk H5 (Ex.refl _) b5 _ fun v H6 e6 b6 hv => ?_)))
      obtain ⟨d, hd, rfl⟩ := hv
      refine ⟨_, rfl, (d : Int), (sh : Int), rfl, rfl, _, rfl, ?_⟩
      by_cases hc : (d : Int) < (sh : Int)
      · rw [if_pos (decide_eq_true hc)]
        refine s_appP (P := prI (i, i + 1 + j)) (hm_get hlb e6 hv1) (ev_var rfl) (ep_tupV (ea_cons (ev_var rfl) (ea_cons (ev_var rfl) ea_nil)) (by simp)) (by rw [hv2.len, List.length_map]; omega) fun v H7 e7 hv => ?_
        have e57 := e6.trans (hm_up e7)
        have hv7 : H7 l = some (.lst vs) := e7 _ _ (hm_get hlb e6 hv1)
        have hv7b : Hm b H7 l = some (.lst vs) := by rw [hm_ne hlb]; exact hv7
        refine ⟨_, fs ++ [(i, i + 1 + j)], rfl, ?_, Box.set hlb ((b6.up e7).mono (by omega)), fun e he => ?_, ?_, by rw [List.length_append]; simp; omega, vs ++ [v], upd_same, ?_⟩
        · rw [hm_set hlb]
          exact Ex.mut (e5.trans e57) hl0
        · rcases List.mem_append.mp he with he | he
          · have := hf1 e he
            refine ⟨?_, this.2⟩
            rcases this.1 with h | h
            · exact .inl h
            · exact .inr ⟨h.1, by omega⟩
          · rw [List.mem_singleton.mp he]
            exact ⟨.inr ⟨rfl, by show i + 1 + j < i + 1 + (j + 1); omega⟩, by show i < i + 1 + j; omega, hji⟩
        · refine List.nodup_append.mpr ⟨hf2, by simp, fun a ha c hc => ?_⟩
          rw [List.mem_singleton.mp hc]
          rintro rfl
          rcases (hf1 _ ha).1 with h | h
          · exact Nat.lt_irrefl _ h
          · exact Nat.lt_irrefl _ h.2
        · rw [hm_set hlb, List.map_append]
          have hvn : (prI (i, i + 1 + j)).p v (Hm b H7) := nob_box (b6.up e7) hv
          exact ((stabs_map (fun _ => inferInstance) fs).ups (Exs.upd hv7b) (hv2.up e57)).append (AllP.one ((inferInstance : Stab (prI _)).ups (Exs.upd hv7b) hvn))
      · rw [if_neg (by rw [decide_eq_false hc]; exact Bool.false_ne_true)]
        refine ⟨_, fs, rfl, e5.trans e6, b6.mono (by omega), fun e he => ?_, hf2, by omega, vs, hm_get hlb e6 hv1, hv2.up e6⟩
        have := hf1 e he
        refine ⟨?_, this.2⟩
        rcases this.1 with h | h
        · exact .inl h
        · exact .inr ⟨h.1, by omega⟩
    · rintro σ' H5 ⟨u6, fs, rfl, e5, b5, hf1, hf2, hf3, hv⟩
      refine ⟨_, _, fs, rfl, e5, b5.mono (by omega), fun e he => ⟨?_, (hf1 e he).2⟩, hf2, by omega, hv⟩
      rcases (hf1 e he).1 with h | h
      · omega
      · omega
  · rintro σ' H4 ⟨u5, u6, fs, rfl, e4, b4, hf1, hf2, hf3, vs, hv1, hv2⟩
    have hm : (m : Int).toNat = m := Int.toNat_natCast m
    rw [hm] at hf3 b4
    have e24 := e2.trans e4
    refine kb_ret (G := Hm b H4) (m := 0) (P' := TupP [LstV (ns.map V.str), LstP (fs.map prI)]) (eb (ep_tup (eap_cons (ep_var rfl ((LstV _).up e24 hnv)) (eap_cons (ep_var rfl ⟨l, vs, rfl, by rw [hm_ne hlb]; exact hv1, hv2⟩) eap_nil)) (by simp))) (Ex.refl _) b4 fun v H5 e5 b5 hv => k v H5 (e1.trans (e24.trans e5)) (b5.mono (by omega)) ⟨ns, fs, hns, hnl, ⟨fun e he => (hf1 e he).2, hf2, by omega⟩, hv⟩
end
end Rs
/-! The law's edges as handed. -/
namespace Rs
open PySem PySem.Spec PyProof.Rows L2 Evl
theorem getD_inj {ns : List Str} (nd : ns.Nodup) {i j : Nat} (hi : i < ns.length) (hj : j < ns.length) (h : ns.getD i Str.empty = ns.getD j Str.empty) : i = j := by
  rw [List.getD_eq_getElem?_getD, List.getD_eq_getElem?_getD, List.getElem?_eq_getElem hi, List.getElem?_eq_getElem hj] at h
  exact (List.getElem_inj nd).mp h
theorem getD_mem {ns : List Str} {i : Nat} (hi : i < ns.length) : ns.getD i Str.empty ∈ ns := by
  rw [List.getD_eq_getElem?_getD, List.getElem?_eq_getElem hi]
  exact List.getElem_mem hi
theorem fs_edges {ns : List Str} {fs : List (Nat × Nat)} (hn : NamesOk ns) (h : FsOk ns.length fs) : EdgesOk ns (fs.map (back ns)) := by
  refine ⟨fun e he => ?_, ?_⟩
  · obtain ⟨f, hf, rfl⟩ := List.mem_map.mp he
    have := h.lt f hf
    refine ⟨getD_mem (by omega), getD_mem this.2, fun z => ?_⟩
    have := getD_inj hn.nd (by omega) this.2 z
    omega
  · rw [List.pairwise_map]
    refine List.Pairwise.imp_of_mem (fun {e f} he hf hne hs => hne ?_) h.nd
    have h1 := h.lt e he
    have h2 := h.lt f hf
    rcases hs with ⟨a, b⟩ | ⟨a, b⟩
    · have e1 := getD_inj hn.nd (by omega) (by omega) a
      have e2 := getD_inj hn.nd h1.2 h2.2 b
      exact Prod.ext e1 e2
    · have e1 := getD_inj hn.nd (by omega) (by omega) a
      have e2 := getD_inj hn.nd (by omega) (by omega) b
      omega
theorem EdgesOk.perm {ns : List Str} {es fs : List (Str × Str)} (h : EdgesOk ns es) (p : es.Perm fs) : EdgesOk ns fs :=
  ⟨fun e he => h.mem e (p.mem_iff.mpr he), (p.pairwise_iff fun {_ _} hxy z => hxy (samePair_symm z)).mp h.pw⟩
theorem EdgesOk.flip {ns : List Str} {es : List (Str × Str)} {e e' : Str × Str} (h : EdgesOk ns (es ++ [e])) (he : e' = e ∨ e' = (e.2, e.1)) : EdgesOk ns (es ++ [e']) := by
  rcases he with rfl | rfl
  · exact h
  · refine ⟨fun f hf => ?_, ?_⟩
    · rcases List.mem_append.mp hf with hf | hf
      · exact h.mem f (List.mem_append_left _ hf)
      · rw [List.mem_singleton.mp hf]
        have := h.mem e (by simp)
        exact ⟨this.2.1, this.1, fun z => this.2.2 z.symm⟩
    · have h2 := List.pairwise_append.mp h.pw
      refine List.pairwise_append.mpr ⟨h2.1, List.pairwise_singleton _ _, fun f hf g hg hs => ?_⟩
      rw [List.mem_singleton.mp hg] at hs
      refine h2.2.2 f hf e (by simp) ?_
      rcases hs with ⟨a, b⟩ | ⟨a, b⟩
      · exact .inr ⟨a, b⟩
      · exact .inl ⟨a, b⟩
theorem AllP.erase : ∀ {Ps : List Pr} {vs : List V} {H : Hp} (i : Nat), AllP Ps vs H → AllP (Ps.eraseIdx i) (vs.eraseIdx i) H
  | [], [], _, _, _ => trivial
  | _ :: _, _ :: _, _, 0, h => h.2
  | _ :: _, _ :: _, _, i + 1, h => ⟨h.1, AllP.erase i h.2⟩
  | [], _ :: _, _, _, h => h.elim
  | _ :: _, [], _, _, h => h.elim
section
variable {P : Program} {w : World} {K : PySem.W.Frag} {mg : Str → Option Value} {base : Heap}
theorem ep_revT {σ : L2.St} {H : Hp} {te : TE} {y z : V} (h : EvP te σ H (TupV [y, z])) : EvP (tRevT te) σ H (TupV [z, y]) := fun H1 e Q q => h H1 e _ fun v H2 e2 hv => by
  obtain ⟨a, rfl, h2⟩ := hv
  exact ⟨a, y, z, rfl, h2, fun p hp => q _ _ (e2.trans (Ex.new hp)) ⟨p, rfl, upd_same⟩⟩
abbrev sc__law_handedN : List Str := ["_law_box_here", "_law_names_here", "_law_edges", "_law_left", "_law_found", "_law_edge", "_law_at", "_law_other"]
theorem sc__law_handed : FnScope sc__law_handedN ["_law_box_here", "_law_names_here", "_law_edges"] (defScope s__law_handed) := ⟨rfl, rfl, rfl, by decide +kernel, rfl, by decide +kernel, by decide +kernel⟩
theorem bd__law_handed : Bnd "_law_handed" "_law_handed" s__law_handed ["_law_box_here", "_law_names_here", "_law_edges"] := fun _ _ _ _ _ _ us hl => match us, hl with | [_, _, _], _ => rfl
def HandP (ns : List Str) : Pr := ⟨fun v H => ∃ es, EdgesOk ns es ∧ es.length ≤ 100 ∧ (LstP (es.map prS)).p v H, fun e h => by
  obtain ⟨es, h1, h2, h3⟩ := h
  exact ⟨es, h1, h2, (LstP _).up e h3⟩⟩
def OneP (e : Str × Str) : Pr := ⟨fun v H => ∃ e', (e' = e ∨ e' = (e.2, e.1)) ∧ (prS e').p v H, fun e h => by
  obtain ⟨e', h1, h2⟩ := h
  exact ⟨e', h1, (prS _).up e h2⟩⟩
def R_handed (Ps : List Pr) (P : Pr) : Prop := ∃ (ns : List Str) (fs : List (Nat × Nat)), NamesOk ns ∧ FsOk ns.length fs ∧ Ps = [LstV (ns.map V.str), LstP (fs.map prI)] ∧ P = HandP ns
theorem ok__law_handed (T : Tx K mg) : C8.Cal P w K mg base 2 "_law_handed" (FnB 300 R_handed) [] := by
  refine cal_of sc__law_handed bd__law_handed (fnb_len (k := 2) fun Ps P h => by obtain ⟨_, _, _, _, rfl, _⟩ := h; rfl) (fun f cdv A outer s H vs Q E hr h => ?_) T.g__law_handed T.f__law_handed
  obtain ⟨b, n, us, _, _, rfl, ⟨ns, fs, hns, hfs, rfl, rfl⟩, hb, hn, ha, k⟩ := h
  obtain ⟨x, y, rfl, hx, hy⟩ := all2 ha
  refine ⟨_, (pss_cons (ps_setLc (i := 3) (own := [("_law_at", 6), ("_law_other", 7)]) (g := gTup K 2 (gCons (gName 6) (gCons (gName 7) gNil))) (tt := tYes) (te := (tTup (tCons (tOp (rIxL K) _ _) (tCons (tOp (rIxL K) _ _) tNil)))) rfl sc__law_handed.nd rfl rfl (sw_true rfl rfl rfl (by decide +kernel)) (pi_list (pv 2)) (blkOk_by (N := sc__law_handedN) (sc := defScope s__law_handed) (by decide +kernel)) (fun _ _ _ _ _ => (pg_tup rfl (pgs_cons (pg_name (i := 6) sc__law_handed.nd rfl (Or.inl rfl)) (pgs_cons (pg_name (i := 7) sc__law_handed.nd rfl (Or.inl rfl)) pgs_nil)))) (fun _ _ _ _ _ => pts_nil) (fun _ _ _ _ _ => (pe_tup (pa_cons (pe_ix ix_list (pv 1) (pv 6) (fun _ _ => rfl)) (pa_cons (pe_ix ix_list (pv 1) (pv 7) (fun _ _ => rfl)) pa_nil)))))
      (pss_cons (ps_set (i := 4) sc__law_handed.nd rfl (Or.inl rfl) (pe_lst pa_nil))
      (pss_cons (ps_while PassesOwn.never (pt_cmpR (op_neD hr.units) (pv 3) (pe_lst pa_nil) (nomark _))
        (pss_cons (ps_set (i := 5) sc__law_handed.nd rfl (Or.inl rfl) (pe_bm PySem.F.plainAttrs_list PySem.F.slot_list_pop PySem.F.type_list_pop mt_popAt (pv 3) (pa_cons (C8.pe_c (ok__law_take T) hr (by decide) rfl (pa_cons (pv 0) (pa_cons (pe_callB call_len_seq (by rfl) T.b_len (by decide +kernel) (pa_cons (pv 3) pa_nil)) pa_nil))) pa_nil)))
      (pss_one (ps_expr (pe_bm PySem.F.plainAttrs_list PySem.F.slot_list_append PySem.F.type_list_append mt_append (pv 4) (pa_cons (pe_ix ix_list (pe_lst (pa_cons (pv 5) (pa_cons (pe_revT (pv 5)) pa_nil))) (C8.pe_c (ok__law_take T) hr (by decide) rfl (pa_cons (pv 0) (pa_cons pe_int pa_nil))) (fun _ _ => rfl)) pa_nil))))))
      (pss_one (ps_ret (pv 4)))))), ?_⟩
  have hx' := (LstV _).up (hm_ex b H) hx
  have hy' := (LstP _).up (hm_ex b H) hy
  have hfl := hfs.len
  have hleft : EvLP (tLc (iList K (tVar 2)) (gTup K 2 (gCons (gName 6) (gCons (gName 7) gNil))) tYes (tTup (tCons (tOp (rIxL K) (tVar 1) (tVar 6)) (tCons (tOp (rIxL K) (tVar 1) (tVar 7)) tNil))) [6, 7]) (start sc__law_handedN [.ref b, x, y]) H ((fs.map (back ns)).map prS) := by
    have h := elp_lcL2 (K := K) (σ := start sc__law_handedN [.ref b, x, y]) (H := H) (L := fs) (f := fun e => prS (back ns e)) (tt := tYes) (te := tTup (tCons (tOp (rIxL K) (tVar 1) (tVar 6)) (tCons (tOp (rIxL K) (tVar 1) (tVar 7)) tNil))) (j1 := 6) (j2 := 7) (vs := [6, 7]) (tl := tVar 2) (fun _ => true) (fun e => Is (.int (e.1 : Int))) (fun e => Is (.int (e.2 : Int))) (ep_var rfl (by
        obtain ⟨a, vs, h1, h2, h3⟩ := hy'
        exact ⟨a, vs, h1, h2, all_to (fun x v hv => pr2 hv) h3⟩)) (by omega) (fun _ _ => rfl) (fun _ _ _ _ _ _ _ _ => et_yes) (fun e u v H1 he e1 hu hv _ => by
        have hu : u = .int (e.1 : Int) := hu
        have hv : v = .int (e.2 : Int) := hv
        subst hu hv
        have hlt := hfs.lt e he
        exact ep_tupV (ea_cons (ev_ixStr (ep_var rfl ((LstV _).up e1 hx')) (ev_var rfl) (by omega)) (ea_cons (ev_ixStr (ep_var rfl ((LstV _).up e1 hx')) (ev_var rfl) hlt.2) ea_nil)) (by simp))
    rw [filter_yes] at h
    rw [List.map_map]
    exact h
  refine k_asg (hleft H (Ex.refl H) _ fun l1 vs1 H1 hl1 e1 h1 ha1 => ?_)
  refine q_asgL (el_lst ea_nil (by decide)) fun l2 H2 hl2 e2 h2 => ?_
  have hlb1 := hb.ne hl1
  have hlb2 := (hb.up e1).ne hl2
  have hl12 : l1 ≠ l2 := ne_of_none h1 hl2
  have hm1 : Hm b H l1 = none := by rw [hm_ne hlb1]; exact hl1
  have hm2 : Hm b H l2 = none := by rw [hm_ne hlb2]; exact fresh_back e1 hl2
  have e02 := e1.trans e2
  refine q_while (fun m σ' H' => ∃ cs ds vs us u5, m = cs.length ∧ σ' = [some (.ref b), some x, some y, some (.ref l1), some (.ref l2), u5, none, none] ∧ Ex (Hm b H) (Hm b H') ∧ Box b (n + 2 * ds.length) H' ∧ EdgesOk ns (cs ++ ds) ∧ cs.length + ds.length ≤ 100 ∧ H' l1 = some (.lst vs) ∧ AllP (cs.map prS) vs (Hm b H') ∧ H' l2 = some (.lst us) ∧ AllP (ds.map prS) us (Hm b H')) fs.length
    ⟨fs.map (back ns), [], vs1, [], none, by rw [List.length_map], rfl, hm_up e02, (show Box b (n + 2 * ([] : List (Str × Str)).length) H2 from hb.up e02), by rw [List.append_nil]; exact fs_edges hns hfs, by rw [List.length_map]; exact hfl, e2 _ _ h1, nobs_box (hb.up e02) (ha1.up e2), h2, trivial⟩ ?_
  rintro m σ' H3 ⟨cs, ds, vs, us, u5, hm, rfl, e3, b3, hed, hlen, hv1, hv2, hu1, hu2⟩
  have hvl : vs.length = cs.length := by rw [hv2.len, List.length_map]
  have hul : us.length = ds.length := by rw [hu2.len, List.length_map]
  have hcsm : ∀ e ∈ cs, e.1 ∈ ns ∧ e.2 ∈ ns := fun e he => ⟨(hed.mem e (List.mem_append_left _ he)).1, (hed.mem e (List.mem_append_left _ he)).2.1⟩
  have shp : SeqAt.shaped (.list (cs.map prSD)) = true := (shaped_list (m := 1) cs (fun e hm => prSD_lay (hns.nm _ (hcsm e hm).1).ok (hns.nm _ (hcsm e hm).2).ok) (by decide)).1
  have hv2' : AllP (cs.map prS) vs H3 := hv2.up (hm_ex b H3)
  refine ⟨!cs.isEmpty, et_test (ev_is (ev_neD (d := .list (cs.map prSD)) (d' := .list []) (ep_var rfl (dat_lst (f := prS) (fun _ _ _ => prS_dp) ⟨l1, vs, rfl, hv1, hv2'⟩)) (ep_to (el_lp (el_lst ea_nil (by decide))) fun v H _ h => dat_strs (ss := []) h) shp (by decide)) (by rw [eqvList_nil, List.isEmpty_map])), fun hc H4 e4 => ?_, fun hc H4 e4 => ?_⟩
  · have hpos : 0 < cs.length := by
      cases cs with
      | nil => cases hc
      | cons a cs => exact Nat.succ_pos _
    have b4 := b3.up e4
    have hv4 := e4 _ _ hv1
    have hu4 := e4 _ _ hu1
    refine ⟨fun σ2 H2 => ∃ cs' ds' vs us u5, cs'.length < cs.length ∧ σ2 = [some (.ref b), some x, some y, some (.ref l1), some (.ref l2), u5, none, none] ∧ Ex (Hm b H) (Hm b H2) ∧ Box b (n + 2 * ds'.length) H2 ∧ EdgesOk ns (cs' ++ ds') ∧ cs'.length + ds'.length ≤ 100 ∧ H2 l1 = some (.lst vs) ∧ AllP (cs'.map prS) vs (Hm b H2) ∧ H2 l2 = some (.lst us) ∧ AllP (ds'.map prS) us (Hm b H2), fun σ2 H2 h2 => ?_, ?_⟩
    · obtain ⟨cs', ds', vs', us', u5', hlt, hrest⟩ := h2
      exact ⟨cs'.length, by omega, cs', ds', vs', us', u5', rfl, hrest⟩
    refine k_asg (kb_pop (n := n + 2 * ds.length) (m := 1) (G := Hm b H4) rfl (eb_take (k := vs.length) (ev_var rfl) (ev_lenLV (xs := vs) (ep_var rfl ⟨l1, rfl, by rw [hm_ne hlb1]; exact hv4⟩)) (by omega) (by omega) (by omega)) (Ex.refl _) b4 hlb1 hv4 (by omega) fun d hd H5 e5 b5 => ?_)
    obtain ⟨e, he, hep⟩ := allGet (f := prS) hv2 (List.getElem?_eq_getElem hd)
    obtain ⟨hdl, hde⟩ := List.getElem?_eq_some_iff.mp he
    have e35 : Ex (Hm b H3) (Hm b H5) := (hm_up e4).trans e5
    have hv5 : H5 l1 = some (.lst vs) := hm_get hlb1 e5 hv4
    have hu5 : H5 l2 = some (.lst us) := hm_get hlb2 e5 hu4
    have hv5b : Hm b H5 l1 = some (.lst vs) := by rw [hm_ne hlb1]; exact hv5
    -- the heap behind the pop
    have hx6 : Exs (Hm b H5) (Hm b (upd H5 l1 (.lst (vs.eraseIdx d)))) := by rw [hm_set hlb1]; exact Exs.upd hv5b
    have hep6 := (inferInstance : Stab (prS e)).ups hx6 ((prS e).up e35 hep)
    have hcs6 : AllP ((cs.eraseIdx d).map prS) (vs.eraseIdx d) (Hm b (upd H5 l1 (.lst (vs.eraseIdx d)))) := by
      rw [DT.map_erase]
      exact ((stabs_map (fun _ => inferInstance) cs).ups hx6 (hv2.up e35)).erase d
    have hds6 := (stabs_map (f := prS) (fun _ => inferInstance) ds).ups hx6 (hu2.up e35)
    have b6 : Box b (n + 2 * ds.length + 1) (upd H5 l1 (.lst (vs.eraseIdx d))) := b5.set hlb1
    have hv6 : (upd H5 l1 (.lst (vs.eraseIdx d))) l1 = some (.lst (vs.eraseIdx d)) := upd_same
    have hu6 : (upd H5 l1 (.lst (vs.eraseIdx d))) l2 = some (.lst us) := by rw [upd_ne (Ne.symm hl12)]; exact hu5
    have eG6 : Ex (Hm b H) (Hm b (upd H5 l1 (.lst (vs.eraseIdx d)))) := by rw [hm_set hlb1]; exact Ex.mut (e3.trans e35) hm1
    generalize upd H5 l1 (.lst (vs.eraseIdx d)) = H6 at *
    have hpick : EvB b (n + 2 * ds.length + 1) 1 (tOp (rIxL K) (tLst (tCons (tVar 5) (tCons (tRevT (tVar 5)) tNil))) (tCall (FnB 1 R_take) [] E0 (tCons (tVar 0) (tCons (tC (.int 2)) tNil)))) [some (.ref b), some x, some y, some (.ref l1), some (.ref l2), some vs[d], none, none] (Hm b H6) (OneP e) :=
      (eb_op (m1 := 0) (m2 := 1) (P1 := LstP ([e, (e.2, e.1)].map prS)) (P2 := Nlt 2) (eb (P' := LstP ([e, (e.2, e.1)].map prS)) (elp_lst (eap_cons (ep_var rfl hep6) (eap_cons (ep_revT (ep_var rfl hep6)) eap_nil)) (by simp)).lst) (eb_take (k := 2) (ev_var rfl) ev_c (by decide) (by decide) (by omega)) fun u v H _ hu hv => by
        obtain ⟨a, ws, rfl, hw1, hw2⟩ := hu
        obtain ⟨i, hi, rfl⟩ := hv
        have hw2 : AllP [prS e, prS (e.2, e.1)] ws (Hm b H) := hw2
        obtain ⟨w1, w2, rfl, hw3, hw4⟩ := all2 hw2
        have hw5 := hm_ex b H _ _ hw1
        rcases Nat.lt_or_ge i 1 with h | h
        · have : i = 0 := by omega
          subst this
          exact ⟨w1, ⟨e, .inl rfl, hw3⟩, fun Q q => ⟨a, _, _, w1, rfl, rfl, sq_of hw5, rfl, q⟩⟩
        · have : i = 1 := by omega
          subst this
          exact ⟨w2, ⟨(e.2, e.1), .inr rfl, hw4⟩, fun Q q => ⟨a, _, _, w2, rfl, rfl, sq_of hw5, rfl, q⟩⟩).mono (by omega)
    refine sb_app rfl hpick (Ex.refl _) b6 hlb2 hu6 (by omega) fun v H7 e7 b7 hv => ?_
    obtain ⟨e', he', hv⟩ := hv
    have hu7 : H7 l2 = some (.lst us) := hm_get hlb2 e7 hu6
    have hu7b : Hm b H7 l2 = some (.lst us) := by rw [hm_ne hlb2]; exact hu7
    have hx8 : Exs (Hm b H7) (Hm b (upd H7 l2 (.lst (us ++ [v])))) := by rw [hm_set hlb2]; exact Exs.upd hu7b
    have hlen2 : (cs.eraseIdx d).length + 1 = cs.length := by rw [List.length_eraseIdx_of_lt hdl]; omega
    refine ⟨cs.eraseIdx d, ds ++ [e'], vs.eraseIdx d, us ++ [v], _, by omega, rfl, by rw [hm_set hlb2]; exact Ex.mut (eG6.trans e7) hm2, (b7.set hlb2).mono (by rw [List.length_append]; simp; omega), ?_, by rw [List.length_append]; simp; omega, by rw [upd_ne hl12]; exact hm_get hlb1 e7 hv6, ?_, upd_same, ?_⟩
    · rw [← List.append_assoc]
      refine EdgesOk.flip (e := e) (hed.perm ?_) he'
      have p1 : cs.Perm (e :: cs.eraseIdx d) := by rw [← hde]; exact perm_erase hdl
      have p2 : (cs ++ ds).Perm ((e :: cs.eraseIdx d) ++ ds) := p1.append_right ds
      exact p2.trans (List.perm_append_comm (l₁ := [e]) (l₂ := cs.eraseIdx d ++ ds))
    · exact (stabs_map (f := prS) (fun _ => inferInstance) _).ups hx8 (hcs6.up e7)
    · rw [List.map_append]
      exact ((stabs_map (f := prS) (fun _ => inferInstance) ds).ups hx8 (hds6.up e7)).append (AllP.one ((inferInstance : Stab (prS e')).ups hx8 hv))
  · have hz : cs = [] := by
      cases cs with
      | nil => rfl
      | cons a cs => cases hc
    subst hz
    refine kb_ret (G := Hm b H4) (m := 0) (P' := LstP (ds.map prS)) (eb (ep_var rfl ⟨l2, us, rfl, by rw [hm_ne hlb2]; exact e4 _ _ hu1, hu2.up (hm_up e4)⟩)) (Ex.refl _) (b3.up e4) fun v H5 e5 b5 hv => k v H5 (e3.trans ((hm_up e4).trans e5)) (b5.mono (by simp at hlen; omega)) ⟨ds, hed, by simpa using hlen, hv⟩
end
end Rs
/-! The law's shares. -/
namespace Rs
open PySem PySem.Spec PyProof.Rows L2 Evl
def prN2 (r : Nat × Nat) : Pr := prN r.1 r.2
instance {r : Nat × Nat} : NoB (prN2 r) := inferInstanceAs (NoB (prN _ _))
instance {r : Nat × Nat} : Ref (prN2 r) := inferInstanceAs (Ref (prN _ _))
instance {r : Nat × Nat} : Stab (prN2 r) := inferInstanceAs (Stab (prN _ _))
def big30 : Nat := 1000000000000000000000000000000
/-- a share -/
def ShOk (r : Nat × Nat) : Prop := 0 < r.2 ∧ r.2 ≤ big30 ∧ r.1 ≤ r.2
def ShP : Pr := ⟨fun v H => ∃ r, ShOk r ∧ (prN2 r).p v H, fun e h => by
  obtain ⟨r, h1, h2⟩ := h
  exact ⟨r, h1, (prN2 r).up e h2⟩⟩
instance : NoB ShP := ⟨fun e h => by
  obtain ⟨r, h1, h2⟩ := h
  exact ⟨r, h1, (inferInstance : NoB (prN2 r)).nob e h2⟩⟩
instance : Stab ShP := ⟨fun e h => by
  obtain ⟨r, h1, h2⟩ := h
  exact ⟨r, h1, (inferInstance : Stab (prN2 r)).ups e h2⟩⟩
def NQ (p : Nat → Prop) : Pr := ⟨fun v _ => ∃ i : Nat, p i ∧ v = .int (i : Int), fun _ h => h⟩
instance {p : Nat → Prop} : NoB (NQ p) := ⟨fun _ h => h⟩
section
variable {P : Program} {w : World} {K : PySem.W.Frag} {mg : Str → Option Value} {base : Heap}
section
variable {σ : L2.St} {G H : Hp} {E : XK} {b : Addr} {n m : Nat} {ta tb te tl ti : TE} {tn : TA} {xs : List V} {v : V}
theorem ev_ixLit {i : Nat} (hl : EvL tl σ H xs) (hi : Ev ti σ H (.int (i : Int))) (hv : xs[i]? = some v) : Ev (tOp (rIxL K) tl ti) σ H v := fun H1 e Q q =>
  hl H1 e _ fun p H2 hp e2 h2 => hi H2 (e.trans e2) _ fun H3 e3 => ⟨p, xs, (i : Int), v, rfl, rfl, sq_of (e3 _ _ h2), atI_nat hv, q H3 (e2.trans e3)⟩
theorem eb_tup {Ps : List Pr} (h : EvAB b n m tn σ G Ps) (hl : Ps.length ≤ 100000) : EvB b n m (tTup tn) σ G (TupP Ps) := fun H1 e hb Q q => h H1 e hb _ fun vs H2 e2 b2 hs =>
  ⟨sz_of (by rw [hs.len]; exact hl), fun p hp => by
    have hpb := b2.ne hp
    have e3 : Ex (Hm b H2) (Hm b (upd H2 p (.tup vs))) := hm_up (Ex.new hp)
    exact q _ _ (e2.trans e3) (b2.up (Ex.new hp)) ⟨p, vs, rfl, by rw [hm_ne hpb, upd_same], hs.up e3⟩⟩
/-- a def that draws nothing, of arguments that draw -/
theorem eb_callF {R : List Pr → Pr → Prop} {Ps : List Pr} {P' : Pr} [s : NoB P'] (h : EvAB b n m tn σ G Ps) (hr : ∀ vs H, AllP Ps vs H → ∃ Ps' P'', R Ps' P'' ∧ AllP Ps' vs H ∧ ∀ v H', P''.p v H' → P'.p v H') : EvB b n m (tCall (Fn R) [] E tn) σ G P' := fun H1 e hb Q q => h H1 e hb _ fun vs H2 e2 b2 hs => by
  obtain ⟨Ps', P'', hR, hs', k⟩ := hr vs _ hs
  exact ⟨Ps', P'', hR, by rw [List.append_nil]; exact hs'.up (hm_ex b H2), fun v H3 e3 hv => q v H3 (e2.trans (hm_up e3)) (b2.up e3) (nob_box (b2.up e3) (k v H3 hv))⟩
end
theorem red_ok {a d : Nat} (h0 : 0 < d) (h1 : d ≤ big30) (h2 : a ≤ d) : ShOk (a / Nat.gcd a d, d / Nat.gcd a d) := by
  have g0 : 0 < Nat.gcd a d := Nat.gcd_pos_of_pos_right _ h0
  exact ⟨Nat.div_pos (Nat.gcd_le_right _ h0) g0, Nat.le_trans (Nat.div_le_self _ _) h1, Nat.div_le_div_right h2⟩
theorem big_lt : big30 < 2 ^ 200 := by decide +kernel
abbrev sc__law_sharesN : List Str := ["_law_box_here", "_law_many", "_law_way", "_law_equal", "_law_found", "_law_at", "_law_below", "_law_share", "_law_small", "_law_long"]
theorem sc__law_shares : FnScope sc__law_sharesN ["_law_box_here", "_law_many"] (defScope s__law_shares) := ⟨rfl, rfl, rfl, by decide +kernel, rfl, by decide +kernel, by decide +kernel⟩
theorem bd__law_shares : Bnd "_law_shares" "_law_shares" s__law_shares ["_law_box_here", "_law_many"] := fun _ _ _ _ _ _ us hl => match us, hl with | [_, _], _ => rfl
def SharesP (m : Nat) : Pr := ⟨fun v H => ∃ rs : List (Nat × Nat), rs.length = m ∧ (∀ r ∈ rs, ShOk r) ∧ (LstP (rs.map prN2)).p v H, fun e h => by
  obtain ⟨rs, h1, h2, h3⟩ := h
  exact ⟨rs, h1, h2, (LstP _).up e h3⟩⟩
def R_shares (Ps : List Pr) (P : Pr) : Prop := ∃ m : Nat, 1 ≤ m ∧ m ≤ 8 ∧ Ps = [Is (.int (m : Int))] ∧ P = SharesP m
theorem ok__law_shares (T : Tx K mg) : C8.Cal P w K mg base 3 "_law_shares" (FnB 50 R_shares) [] := by
  refine cal_of sc__law_shares bd__law_shares (fnb_len (k := 1) fun Ps P h => by obtain ⟨_, _, _, rfl, _⟩ := h; rfl) (fun f cdv A outer s H vs Q E hr h => ?_) T.g__law_shares T.f__law_shares
  obtain ⟨b, n, us, _, _, rfl, ⟨m, m1, m8, rfl, rfl⟩, hb, hn, ha, k⟩ := h
  obtain ⟨_, rfl, rfl⟩ := all1 ha
  refine ⟨_, (pss_cons (ps_set (i := 2) sc__law_shares.nd rfl (Or.inl rfl) (C8.pe_c (ok__law_take T) hr (by decide) rfl (pa_cons (pv 0) (pa_cons (pe_ix ix_list (pe_lst (pa_cons pe_int (pa_cons pe_int pa_nil))) (pe_callTy call_int1 (by rfl) T.b_int (by decide +kernel) (pa_cons (pe_cmpR op_gt (pv 1) pe_int (nomark _)) pa_nil)) (fun _ _ => rfl)) pa_nil))))
      (pss_cons (ps_set (i := 3) sc__law_shares.nd rfl (Or.inl rfl) (C8.pe_c (ok__law_reduced T) hr (by decide) rfl (pa_cons (C8.pe_c (ok__law_take T) hr (by decide) rfl (pa_cons (pv 0) (pa_cons pe_int pa_nil))) (pa_cons (pe_op op_add pe_int (C8.pe_c (ok__law_take T) hr (by decide) rfl (pa_cons (pv 0) (pa_cons pe_int pa_nil)))) pa_nil))))
      (pss_cons (ps_set (i := 4) sc__law_shares.nd rfl (Or.inl rfl) (pe_lst pa_nil))
      (pss_cons (ps_for PassesOwn.never rfl (pi_range1 rfl T.b_range (pa_cons (pv 1) pa_nil)) (pg_name (i := 5) sc__law_shares.nd rfl (Or.inl rfl))
        (pss_cons (ps_set (i := 6) sc__law_shares.nd rfl (Or.inl rfl) (pe_op op_add pe_int (C8.pe_c (ok__law_take T) hr (by decide) rfl (pa_cons (pv 0) (pa_cons (pe_ix ix_list (pe_lst (pa_cons pe_int (pa_cons pe_int (pa_cons pe_int (pa_cons (pe_op op_pow pe_int pe_int) (pa_cons (pe_op op_pow pe_int pe_int) pa_nil)))))) (pv 2) (fun _ _ => rfl)) pa_nil)))))
      (pss_cons (ps_set (i := 7) sc__law_shares.nd rfl (Or.inl rfl) (C8.pe_c (ok__law_reduced T) hr (by decide) rfl (pa_cons (C8.pe_c (ok__law_take T) hr (by decide) rfl (pa_cons (pv 0) (pa_cons (pe_op op_add (pv 6) pe_int) pa_nil))) (pa_cons (pv 6) pa_nil))))
      (pss_cons (ps_set (i := 8) sc__law_shares.nd rfl (Or.inl rfl) (pe_tup (pa_cons pe_int (pa_cons (pe_op op_add pe_int (C8.pe_c (ok__law_take T) hr (by decide) rfl (pa_cons (pv 0) (pa_cons pe_int pa_nil)))) pa_nil))))
      (pss_cons (ps_set (i := 9) sc__law_shares.nd rfl (Or.inl rfl) (C8.pe_c (ok__law_reduced T) hr (by decide) rfl (pa_cons (pe_op op_add (pe_op op_mulW (C8.pe_c (ok__law_take T) hr (by decide) rfl (pa_cons (pv 0) (pa_cons (pe_op op_pow pe_int pe_int) pa_nil))) (pe_op op_pow pe_int pe_int)) (pv 6)) (pa_cons (pe_op op_sub (pe_op op_pow pe_int pe_int) (pv 6)) pa_nil))))
      (pss_one (ps_expr (pe_bm PySem.F.plainAttrs_list PySem.F.slot_list_append PySem.F.type_list_append mt_append (pv 4) (pa_cons (pe_ix ix_list (pe_lst (pa_cons (pv 7) (pa_cons (pv 8) (pa_cons (pv 3) (pa_cons (pv 7) (pa_cons (pv 9) pa_nil)))))) (pv 2) (fun _ _ => rfl)) pa_nil)))))))))
      (pss_one (ps_ret (pv 4))))))), ?_⟩
  have hway : ∀ (σ : L2.St) (H1 : Hp), σ[1]? = some (some (.int (m : Int))) → ∃ k : Nat, 0 < k ∧ k ≤ 5 ∧ Ev (tOp (rIxL K) (tLst (tCons (tC (.int 5)) (tCons (tC (.int 4)) tNil))) (tCB (fun xs H Q => (∃ i, xs = [V.int i] ∧ Q (.int i) H) ∨ ∃ k, xs = [V.bl k] ∧ Q (.int (if k then 1 else 0)) H) (tCons (tOp (rI0 fun i j => .bl (decide (i > j))) (tVar 1) (tC (.int 3))) tNil))) σ H1 (.int (k : Int)) := fun σ H1 h1 => by
    have hcmp : Ev (tOp (rI0 fun i j => .bl (decide (i > j))) (tVar 1) (tC (.int 3))) σ H1 (.bl (decide ((m : Int) > 3))) := ev_i0 (ev_var h1) ev_c
    by_cases hm : (m : Int) > 3
    · rw [decide_eq_true hm] at hcmp
      exact ⟨4, by omega, by omega, ev_ixLit (i := 1) (xs := [.int 5, .int 4]) (el_lst (ea_cons ev_c (ea_cons ev_c ea_nil)) (by simp)) (ev_cb1 hcmp fun _ _ Q q => .inr ⟨true, rfl, q⟩) rfl⟩
    · rw [decide_eq_false hm] at hcmp
      exact ⟨5, by omega, by omega, ev_ixLit (i := 0) (xs := [.int 5, .int 4]) (el_lst (ea_cons ev_c (ea_cons ev_c ea_nil)) (by simp)) (ev_cb1 hcmp fun _ _ Q q => .inr ⟨false, rfl, q⟩) rfl⟩
  obtain ⟨wk, wk0, wk5, hwk⟩ := hway (start sc__law_sharesN [.ref b, .int (m : Int)]) (Hm b H) rfl
  refine kb_asg (G := Hm b H) (m := 1) (eb_take (k := wk) (ev_var rfl) hwk wk0 (by omega) (by omega)) (Ex.refl _) hb fun wv H1 e1 b1 hwv => ?_
  obtain ⟨way, hway5, rfl⟩ := hwv
  have hw5 : way < 5 := by omega
  have redc : ∀ {a d : Nat}, 0 < d → d ≤ big30 → a ≤ d → ∀ H, AllP [Is (.int (a : Int)), Is (.int (d : Int))] [.int (a : Int), .int (d : Int)] H → ∃ Ps' P'', R_reduced Ps' P'' ∧ AllP Ps' [.int (a : Int), .int (d : Int)] H ∧ ∀ v H', P''.p v H' → ShP.p v H' := fun {a d} h0 h1 h2 H h =>
    ⟨_, _, ⟨a, d, h0, Nat.lt_of_le_of_lt h1 big_lt, rfl, rfl⟩, h, fun v H' hv => ⟨_, red_ok h0 h1 h2, hv⟩⟩
  refine kb_asg (G := Hm b H1) (m := 1 + (1 + 0)) (eb_callF (P' := ShP) (eab_cons (eb_take (k := 4) (ev_var rfl) ev_c (by decide) (by decide) (by omega)) (eab_cons (eb_addN (lo := 4) (k := 9) ev_c (eb_take (k := 9) (ev_var rfl) ev_c (by decide) (by decide) (by omega))) eab_nil)) fun vs H2 hvs => ?_) (Ex.refl _) b1 fun qv H2 e2 b2 hqv => ?_
  · obtain ⟨u1, u2, rfl, ⟨a, ha, rfl⟩, ⟨d, hd1, hd2, rfl⟩⟩ := all2 hvs
    exact redc (by omega) (by unfold big30; omega) (by omega) H2 ⟨rfl, rfl, trivial⟩
  refine q_asgL (el_lst ea_nil (by decide)) fun l H3 hl e3 h3 => ?_
  have hlb := b2.ne hl
  have hl0 : Hm b H2 l = none := by rw [hm_ne hlb]; exact hl
  refine q_forR1 (n := (m : Int)) (ea_cons (ev_var rfl) ea_nil) (by omega) (fun i σ' H' => ∃ u5 u6 u7 u8 u9 rs vs, σ' = [some (.ref b), some (.int (m : Int)), some (.int (way : Int)), some qv, some (.ref l), u5, u6, u7, u8, u9] ∧ Ex (Hm b H2) (Hm b H') ∧ Box b (n + 3 + i * 4) H' ∧ rs.length = i ∧ (∀ r ∈ rs, ShOk r) ∧ H' l = some (.lst vs) ∧ AllP (rs.map prN2) vs (Hm b H'))
    (fun H4 e4 => ⟨_, _, _, _, _, [], [], rfl, hm_up (e3.trans e4), (b2.up (e3.trans e4)).mono (by omega), rfl, (fun _ h => nomatch h), e4 _ _ h3, trivial⟩) ?_ ?_
  · rintro i σ' H4 hi ⟨u5, u6, u7, u8, u9, rs, vs, rfl, e4, b4, hrl, hrs, hv1, hv2⟩
    have him : i < m := by omega
    have hvl : vs.length = rs.length := by rw [hv2.len, List.length_map]
    -- below
    have hlit : ∃ k : Nat, 0 < k ∧ k ≤ 1000000 ∧ ([.int 12, .int 12, .int 12, .int (10 ^ (6 : Int).toNat), .int (10 ^ (6 : Int).toNat)] : List V)[way]? = some (.int (k : Int)) := by
      have : way = 0 ∨ way = 1 ∨ way = 2 ∨ way = 3 ∨ way = 4 := by omega
      rcases this with rfl | rfl | rfl | rfl | rfl
      · exact ⟨12, by omega, by omega, rfl⟩
      · exact ⟨12, by omega, by omega, rfl⟩
      · exact ⟨12, by omega, by omega, rfl⟩
      · exact ⟨1000000, by omega, by omega, rfl⟩
      · exact ⟨1000000, by omega, by omega, rfl⟩
    obtain ⟨kb, kb0, kb6, hkb⟩ := hlit
    have hpow : ∀ (σ : L2.St) (H : Hp), Ev (tOp (rI CPow fun i j => .int (i ^ j.toNat)) (tC (.int 10)) (tC (.int 6))) σ H (.int (10 ^ (6 : Int).toNat)) := fun σ H => ev_i ev_c ev_c ⟨by decide, by decide, by decide⟩
    refine kb_asg (G := Hm b H4) (m := 1) (eb_addN (lo := 1) (k := kb) ev_c (eb_take (k := kb) (ev_var rfl) (ev_ixLit (i := way) (el_lst (ea_cons ev_c (ea_cons ev_c (ea_cons ev_c (ea_cons (hpow _ _) (ea_cons (hpow _ _) ea_nil))))) (by simp)) (ev_var rfl) hkb) kb0 (by omega) (by omega))) (Ex.refl _) b4 fun cv H5 e5 b5 hcv => ?_
    obtain ⟨c, c1, c2, rfl⟩ := hcv
    -- share
    refine kb_asg (G := Hm b H5) (m := 1 + (0 + 0)) (eb_callF (P' := ShP) (eab_cons (eb_take (k := c + 1) (ev_var rfl) (ev_is (ev_i0 (i := (c : Int)) (j := 1) (ev_var rfl) ev_c) (w := .int ((c + 1 : Nat) : Int)) rfl) (by omega) (by omega) (by omega)) (eab_cons (P' := Is (.int (c : Int))) (eb (ep (ev_var rfl))) eab_nil)) fun vs H6 hvs => ?_) (Ex.refl _) b5 fun sv H6 e6 b6 hsv => ?_
    · obtain ⟨u1, u2, rfl, ⟨a, ha, rfl⟩, rfl⟩ := all2 hvs
      exact redc (by omega) (by unfold big30; omega) (by omega) H6 ⟨rfl, rfl, trivial⟩
    -- small
    refine kb_asg (G := Hm b H6) (m := 0 + (1 + 0)) (P' := ShP) (eb_to (eb_tup (eab_cons (P' := Is (.int 1)) (eb (ep ev_c)) (eab_cons (eb_addN (lo := 2) (k := 30) ev_c (eb_take (k := 30) (ev_var rfl) ev_c (by decide) (by decide) (by omega))) eab_nil)) (by simp)) fun v H7 _ hv => ?_) (Ex.refl _) b6 fun mv H7 e7 b7 hmv => ?_
    · obtain ⟨t, us, rfl, ht, hus⟩ := hv
      obtain ⟨_, _, rfl, rfl, ⟨d, hd1, hd2, rfl⟩⟩ := all2 hus
      exact ⟨(1, d), ⟨by show 0 < d; omega, by show d ≤ big30; unfold big30; omega, by show 1 ≤ d; omega⟩, t, rfl, ht⟩
    -- long
    have h22 : ∀ (σ : L2.St) (H : Hp), Ev (tOp (rI CPow fun i j => .int (i ^ j.toNat)) (tC (.int 10)) (tC (.int 22))) σ H (.int (10 ^ (22 : Int).toNat)) := fun σ H => ev_i ev_c ev_c ⟨by decide, by decide, by decide⟩
    have h8' : ∀ (σ : L2.St) (H : Hp), Ev (tOp (rI CPow fun i j => .int (i ^ j.toNat)) (tC (.int 10)) (tC (.int 8))) σ H (.int ((100000000 : Nat) : Int)) := fun σ H => ev_is (ev_i ev_c ev_c ⟨by decide, by decide, by decide⟩) rfl
    have h30 : ∀ (σ : L2.St) (H : Hp), Ev (tOp (rI CPow fun i j => .int (i ^ j.toNat)) (tC (.int 10)) (tC (.int 30))) σ H (.int (10 ^ (30 : Int).toNat)) := fun σ H => ev_i ev_c ev_c ⟨by decide, by decide, by decide⟩
    refine kb_asg (G := Hm b H7) (m := 1 + 0 + 0 + (0 + 0)) (eb_callF (P' := ShP) (eab_cons (P' := NQ fun j => ∃ i, i < 100000000 ∧ j = i * 10000000000000000000000 + c) (eb_op (m1 := 1 + 0) (m2 := 0) (P1 := NQ fun j => ∃ i, i < 100000000 ∧ j = i * 10000000000000000000000) (P2 := Is (.int (c : Int))) (eb_op (m1 := 1) (m2 := 0) (P1 := Nlt 100000000) (P2 := Is (.int (10 ^ (22 : Int).toNat))) (eb_take (k := 100000000) (ev_var rfl) (h8' _ _) (by decide) (by decide) (by omega)) (eb (ep (h22 _ _))) fun x y H _ hx hy => ?_) (eb (ep (ev_var rfl))) fun x y H _ hx hy => ?_) (eab_cons (P' := Is (.int ((big30 - c : Nat) : Int))) (eb (ep (ev_is (ev_i0 (h30 _ _) (ev_var rfl)) ?_))) eab_nil)) fun vs H8 hvs => ?_) (Ex.refl _) b7 fun lv H8 e8 b8 hlv => ?_
    · obtain ⟨i, hi, rfl⟩ := hx
      have hy : y = .int (10 ^ (22 : Int).toNat) := hy
      subst hy
      have e22 : (10 : Int) ^ (22 : Int).toNat = ((10000000000000000000000 : Nat) : Int) := by decide
      exact ⟨.int ((i * 10000000000000000000000 : Nat) : Int), ⟨_, ⟨i, hi, rfl⟩, rfl⟩, fun Q q => ⟨(i : Int), _, rfl, rfl, wide_mul (a := 40) (b := 80) (by omega) (by rw [e22]; decide) (by omega) (by omega) (by omega), by
        have : (i : Int) * 10 ^ (22 : Int).toNat = ((i * 10000000000000000000000 : Nat) : Int) := by rw [e22, Int.natCast_mul]
        show Q (.int ((i : Int) * 10 ^ (22 : Int).toNat)) H
        rw [this]
        exact q⟩⟩
    · obtain ⟨j, ⟨i, hi, rfl⟩, rfl⟩ := hx
      have hy : y = .int (c : Int) := hy
      subst hy
      exact ⟨.int ((i * 10000000000000000000000 + c : Nat) : Int), ⟨_, ⟨i, hi, rfl⟩, rfl⟩, fun Q q => ⟨_, _, rfl, rfl, q⟩⟩
    · have e30 : (10 : Int) ^ (30 : Int).toNat = ((big30 : Nat) : Int) := by decide
      rw [e30]
      congr 1
      have : c ≤ big30 := by unfold big30; omega
      omega
    · obtain ⟨u1, u2, rfl, ⟨_, ⟨i, hi, rfl⟩, rfl⟩, rfl⟩ := all2 hvs
      exact redc (by unfold big30; omega) (Nat.sub_le _ _) (by unfold big30; omega) H8 ⟨rfl, rfl, trivial⟩
    -- append
    have e28 : Ex (Hm b H2) (Hm b H8) := e4.trans (e5.trans (e6.trans (e7.trans e8)))
    have up : ∀ {v : V} {Ha : Hp}, Ex (Hm b Ha) (Hm b H8) → ShP.p v (Hm b Ha) → ShP.p v H8 := fun e h => ShP.up (e.trans (hm_ex b H8)) h
    have hv8 : H8 l = some (.lst vs) := hm_get hlb (e5.trans (e6.trans (e7.trans e8))) hv1
    refine s_appP (P := ShP) hv8 (ev_var rfl) (ep_ixL (i := (way : Int)) (k := way) (elp_lst (Ps := [ShP, ShP, ShP, ShP, ShP]) (eap_cons (ep_var rfl (up (e7.trans e8) hsv)) (eap_cons (ep_var rfl (up e8 hmv)) (eap_cons (ep_var rfl (up (e4.trans (e5.trans (e6.trans (e7.trans e8)))) hqv)) (eap_cons (ep_var rfl (up (e7.trans e8) hsv)) (eap_cons (ep_var rfl (up (Ex.refl _) hlv)) eap_nil))))) (by simp)).lst (ev_var rfl) ?_ (at_k way)) (by omega) fun v H9 e9 hv => ?_
    · have : way = 0 ∨ way = 1 ∨ way = 2 ∨ way = 3 ∨ way = 4 := by omega
      rcases this with rfl | rfl | rfl | rfl | rfl <;> rfl
    · have b9 := b8.up e9
      obtain ⟨r, hr1, hr2⟩ := nob_box b9 hv
      have hv9b : Hm b H9 l = some (.lst vs) := by rw [hm_ne hlb]; exact e9 _ _ hv8
      have e49 : Ex (Hm b H4) (Hm b H9) := e5.trans (e6.trans (e7.trans (e8.trans (hm_up e9))))
      refine ⟨_, _, _, _, _, rs ++ [r], vs ++ [v], rfl, by rw [hm_set hlb]; exact Ex.mut (e4.trans e49) hl0, (b9.set hlb).mono (by omega), by rw [List.length_append, hrl]; rfl, fun x hx => ?_, upd_same, ?_⟩
      · rcases List.mem_append.mp hx with hx | hx
        · exact hrs x hx
        · rw [List.mem_singleton.mp hx]
          exact hr1
      · rw [hm_set hlb, List.map_append]
        exact ((stabs_map (f := prN2) (fun _ => inferInstance) rs).ups (Exs.upd hv9b) (hv2.up e49)).append (AllP.one ((inferInstance : Stab (prN2 r)).ups (Exs.upd hv9b) hr2))
  · rintro σ' H4 ⟨u5, u6, u7, u8, u9, rs, vs, rfl, e4, b4, hrl, hrs, hv1, hv2⟩
    have hm : (m : Int).toNat = m := Int.toNat_natCast m
    rw [hm] at hrl b4
    refine kb_ret (G := Hm b H4) (m := 0) (P' := LstP (rs.map prN2)) (eb (ep_var rfl ⟨l, vs, rfl, by rw [hm_ne hlb]; exact hv1, hv2⟩)) (Ex.refl _) b4 fun v H5 e5 b5 hv => k v H5 (e1.trans (e2.trans (e4.trans e5))) (b5.mono (by omega)) ⟨rs, hrl, hrs, hv⟩
end
end Rs
/-! The law's chain; the smaller shares. -/
namespace Rs
open PySem PySem.Spec PyProof.Rows L2 Evl
theorem hm_fr {b l : Addr} {H H' : Hp} {xs ys : List V} (hlb : l ≠ b) (e : Ex (Hm b H) (Hm b H')) (hl : Hm b H l = none) : Ex (Hm b H) (Hm b (upd H' l (.lst ys))) := by
  rw [hm_set hlb]
  exact Ex.mut e hl
theorem rat_set {K : PySem.W.Frag} {b l : Addr} {H : Hp} {xs ys : List V} {r : Rat} {v : V} (hlb : l ≠ b) (hl : H l = some (.lst xs)) (h : (RatP K r).p v (Hm b H)) : (RatP K r).p v (Hm b (upd H l (.lst ys))) := by
  rw [hm_set hlb]
  exact (inferInstance : Stab (RatP K r)).ups (Exs.upd (by rw [hm_ne hlb]; exact hl)) h
section
variable {P : Program} {w : World} {K : PySem.W.Frag} {mg : Str → Option Value} {base : Heap}
theorem ev_neStrs {σ : L2.St} {H : Hp} {te : TE} {ss : List Str} (h : EvP te σ H (LstV (ss.map V.str))) (ok : ∀ s ∈ ss, PyData.strOk s = true) : Ev (tOp (rNeD K) te (tLst tNil)) σ H (.bl (!ss.isEmpty)) :=
  ev_is (ev_neD (d := .list (ss.map PyData.str)) (d' := .list []) (ep_to h fun v H _ h => dat_strs h) (ep_to (el_lp (el_lst ea_nil (by decide))) fun v H _ h => dat_strs (ss := []) h) (shaped_strs ss ok) (by decide)) (by rw [eqvList_nil, List.isEmpty_map])
theorem ev_eqStrs {σ : L2.St} {H : Hp} {te : TE} {ss : List Str} (h : EvP te σ H (LstV (ss.map V.str))) (ok : ∀ s ∈ ss, PyData.strOk s = true) : Ev (tOp (rEqD K) te (tLst tNil)) σ H (.bl ss.isEmpty) :=
  ev_is (ev_eqD (d := .list (ss.map PyData.str)) (d' := .list []) (ep_to h fun v H _ h => dat_strs h) (ep_to (el_lp (el_lst ea_nil (by decide))) fun v H _ h => dat_strs (ss := []) h) (shaped_strs ss ok) (by decide)) (by rw [eqvList_nil, List.isEmpty_map])
/-- the verdict -/
theorem ev_cert {σ : L2.St} {H : Hp} {te : TE} {ns : List Str} {es : List (Str × Str)} {p : Str → Rat} {c : Bool} (h : EvP te σ H (CertV K ns es p c)) : Ev (tOp (rIxT K) te (tC (.int 0))) σ H (.str (verd c)) := fun H1 e Q q => h H1 e _ fun v H2 e2 hv => by
  obtain ⟨ord, kn, hc, hv⟩ := hv
  exact ev (ep_ixT (σ := σ) (ta := tC v) (k := 0) (P := Is (.str (verd c))) (ep_v ev_c hv) ev_c rfl (at_k 0)) H2 (Ex.refl H2) Q fun H3 e3 => q H3 (e2.trans e3)
theorem k_drop {te : TE} {tz : TS} {D : Ends} {σ : L2.St} {H : Hp} (h : te σ H fun _ H1 => tz D σ H1) : tSeq (tDrop te) tz D σ H := h
abbrev sc__law_chain_rightN : List Str := ["_law_box_here", "_law_graph_here", "_law_handed_here", "_law_names_here", "_law_some", "_law_value", "_law_more"]
theorem sc__law_chain_right : FnScope sc__law_chain_rightN ["_law_box_here", "_law_graph_here", "_law_handed_here", "_law_names_here"] (defScope s__law_chain_right) := ⟨rfl, rfl, rfl, by decide +kernel, rfl, by decide +kernel, by decide +kernel⟩
theorem bd__law_chain_right : Bnd "_law_chain_right" "_law_chain_right" s__law_chain_right ["_law_box_here", "_law_graph_here", "_law_handed_here", "_law_names_here"] := fun _ _ _ _ _ _ us hl => match us, hl with | [_, _, _, _], _ => rfl
def R_chain (K : PySem.W.Frag) (Ps : List Pr) (P : Pr) : Prop := ∃ (ns : List Str) (es : List (Str × Str)) (p : Str → Rat), Pos (adjB es) p ns ∧ Ps = [GrP K ns es, PbP K ns p, LstV (ns.map V.str)] ∧ P = Is (.bl true)
theorem ok__law_chain_right (T : Tx K mg) : C8.Cal P w K mg base 9 "_law_chain_right" (FnB 10 (R_chain K)) [] := by
  refine cal_of sc__law_chain_right bd__law_chain_right (fnb_len (k := 3) fun Ps P h => by obtain ⟨_, _, _, _, rfl, _⟩ := h; rfl) (fun f cdv A outer s H vs Q E hr h => ?_) T.g__law_chain_right T.f__law_chain_right
  obtain ⟨b, n, us, _, _, rfl, ⟨ns, es, p, hpos, rfl, rfl⟩, hb, hn, ha, k⟩ := h
  obtain ⟨x, y, z, rfl, hx, hy, hz⟩ := all3 ha
  refine ⟨_, (pss_cons (ps_set (i := 4) sc__law_chain_right.nd rfl (Or.inl rfl) (pe_callTy call_list_of (by rfl) T.b_list (by decide +kernel) (pa_cons (pv 3) pa_nil)))
      (pss_cons (ps_set (i := 5) sc__law_chain_right.nd rfl (Or.inl rfl) (C8.pe_c (ok_independence_value T) hr (by decide) rfl (pa_cons (pv 1) (pa_cons (pv 2) pa_nil))))
      (pss_cons (ps_while PassesOwn.never (pt_cmpR (op_neD hr.units) (pv 4) (pe_lst pa_nil) (nomark _))
        (pss_cons (ps_if (pt_cmpR op_ne (C8.pe_mt0 (ok_Ratio_sign T) hr (by decide) (pv 5)) pe_int (nomark _))
        (pss_one (ps_ret pe_bl)) pss_nil)
      (pss_cons (ps_expr (pe_bm PySem.F.plainAttrs_list PySem.F.slot_list_pop PySem.F.type_list_pop mt_popAt (pv 4) (pa_cons (C8.pe_c (ok__law_take T) hr (by decide) rfl (pa_cons (pv 0) (pa_cons (pe_callB call_len_seq (by rfl) T.b_len (by decide +kernel) (pa_cons (pv 4) pa_nil)) pa_nil))) pa_nil)))
      (pss_cons (ps_set (i := 6) sc__law_chain_right.nd rfl (Or.inl rfl) (pe_ck (okk_independence_value T) hr (by decide) rfl (pa_cons (pv 1) (pa_cons (pv 2) pa_nil)) (pk_cons (pv 4) pk_nil)))
      (pss_cons (ps_if (pt_val (C8.pe_mt (ok_Ratio_less_than T) hr (by decide) (pv 6) (pa_cons (pv 5) pa_nil)))
        (pss_one (ps_ret pe_bl)) pss_nil)
      (pss_one (ps_set (i := 5) sc__law_chain_right.nd rfl (Or.inl rfl) (pv 6))))))))
      (pss_one (ps_ret (pe_cmpR (op_eqG (rcG_ratio T) (hr.mono (by decide))) (pv 5) (C8.pe_mk (ok_Ratio1 T) hr (by decide) rfl (pa_cons pe_int pa_nil)) (nomark _))))))), ?_⟩
  have hns := hx.1
  have ok := hy.1
  have h8 := hns.hi
  have hex := hm_ex b H
  refine q_asgL (elp_listV (ep_var rfl ((LstV _).up hex hz))) fun l H1 hl e1 h1 => ?_
  refine q_asgP (ep_ind (ep_var rfl ((GrP K ns es).up (hex.trans e1) hx)) (ep_var rfl ((PbP K ns p).up (hex.trans e1) hy))) fun v0 H2 e2 hv0 => ?_
  have hlb := hb.ne hl
  have hl0 : Hm b H l = none := by rw [hm_ne hlb]; exact hl
  have e02 := e1.trans e2
  refine q_while (fun m σ' H' => ∃ ss v5 u6, m = ss.length ∧ σ' = [some (.ref b), some x, some y, some z, some (.ref l), some v5, u6] ∧ Ex (Hm b H) (Hm b H') ∧ Box b (n + (ns.length - ss.length)) H' ∧ List.Sublist ss ns ∧ H' l = some (.lst (ss.map V.str)) ∧ (RatP K (q (adjB es) p ss)).p v5 (Hm b H')) ns.length
    ⟨ns, v0, none, rfl, rfl, hm_up e02, (hb.up e02).mono (by omega), List.Sublist.refl _, e2 _ _ h1, nob_box (hb.up e02) hv0⟩ ?_
  rintro m σ' H3 ⟨ss, v5, u6, hm, rfl, e3, b3, hs, hl3, hv5⟩
  have hsl := hs.length_le
  have okS : ∀ s ∈ ss, PyData.strOk s = true := fun s h => (hns.nm s (hs.subset h)).ok
  have hlst : ∀ {H4 : Hp}, Ex (Hm b H3) (Hm b H4) → (LstV (ss.map V.str)).p (.ref l) (Hm b H4) := fun e => ⟨l, rfl, by rw [hm_ne hlb]; exact hm_get hlb e hl3⟩
  have hposS : Pos (adjB es) p ss := hpos.sub hs
  refine ⟨!ss.isEmpty, et_test (ev_neStrs (ep_var rfl ⟨l, rfl, hl3⟩) okS), fun hc H4 e4 => ?_, fun hc H4 e4 => ?_⟩
  · have hne : 0 < ss.length := by
      cases ss with
      | nil => cases hc
      | cons a ss => exact Nat.succ_pos _
    have b4 := b3.up e4
    have hl4 := e4 _ _ hl3
    have hv4 : (RatP K (q (adjB es) p ss)).p v5 (Hm b H4) := (RatP K _).up (hm_up e4) hv5
    refine ⟨fun σ2 H2 => ∃ ss' v5 u6, ss'.length < ss.length ∧ σ2 = [some (.ref b), some x, some y, some z, some (.ref l), some v5, u6] ∧ Ex (Hm b H) (Hm b H2) ∧ Box b (n + (ns.length - ss'.length)) H2 ∧ List.Sublist ss' ns ∧ H2 l = some (.lst (ss'.map V.str)) ∧ (RatP K (q (adjB es) p ss')).p v5 (Hm b H2), fun σ2 H2 h2 => ?_, ?_⟩
    · obtain ⟨ss', v', u', hlt, hrest⟩ := h2
      exact ⟨ss'.length, by omega, ss', v', u', rfl, hrest⟩
    have hsg : sgn (q (adjB es) p ss) = 1 := (sgn_pos _).mpr hposS.pos
    refine q_not (et_is (et_test (ev_ne (ev_sign (ep_var rfl ((RatP K _).up (hm_ex b H4) hv4))) ev_c rfl)) (by rw [hsg]; rfl)) fun H5 e5 => ?_
    have b5 := b4.up e5
    have hl5 := e5 _ _ hl4
    refine k_drop (kb_pop (n := n + (ns.length - ss.length)) (m := 1) (G := Hm b H5) (xs := ss.map V.str) rfl (eb_take (k := (ss.map V.str).length) (ev_var rfl) (ev_lenLV (xs := ss.map V.str) (ep_var rfl (hlst (hm_up (e4.trans e5))))) (by rw [List.length_map]; exact hne) (by rw [List.length_map]; omega) (by omega)) (Ex.refl _) b5 hlb hl5 (by rw [List.length_map]; omega) fun d hd H6 e6 b6 => ?_)
    rw [List.length_map] at hd
    have hl6 := hm_get hlb e6 hl5
    have hv6 : (RatP K (q (adjB es) p ss)).p v5 (Hm b H6) := (RatP K _).up ((hm_up e5).trans e6) hv4
    have e36 : Ex (Hm b H3) (Hm b H6) := (hm_up (e4.trans e5)).trans e6
    rw [← DT.map_erase]
    have hv7 := rat_set (ys := (ss.eraseIdx d).map V.str) hlb hl6 hv6
    have b7 : Box b (n + (ns.length - ss.length) + 1) (upd H6 l (.lst ((ss.eraseIdx d).map V.str))) := b6.set hlb
    have hl7 : (upd H6 l (.lst ((ss.eraseIdx d).map V.str))) l = some (.lst ((ss.eraseIdx d).map V.str)) := upd_same
    have e07 : Ex (Hm b H) (Hm b (upd H6 l (.lst ((ss.eraseIdx d).map V.str)))) := hm_fr (xs := []) hlb (e3.trans e36) hl0
    generalize upd H6 l (.lst ((ss.eraseIdx d).map V.str)) = H7 at *
    have hs' : List.Sublist (ss.eraseIdx d) ns := (List.eraseIdx_sublist ss d).trans hs
    have hlen : (ss.eraseIdx d).length + 1 = ss.length := by rw [List.length_eraseIdx_of_lt hd]; omega
    have hex7 := e07.trans (hm_ex b H7)
    refine q_asgP (ep_indS (ss := ss.eraseIdx d) (ep_var rfl ((GrP K ns es).up hex7 hx)) (ep_var rfl ((PbP K ns p).up hex7 hy)) (ep_var rfl ⟨l, rfl, hl7⟩) (fun s h => hs'.subset h) (List.Sublist.nodup hs' hns.nd) (by omega) rfl rfl) fun mv H8 e8 hmv => ?_
    have hle := q_drop_le (adj_sym es) hposS (fun s h => ok.lo s (hs.subset h)) d hd
    refine q_not (et_is (et_B (ep_less (ep_var rfl hmv) (ep_var rfl ((RatP K _).up ((hm_ex b H7).trans e8) hv7)) (q_sm ok (fun s h => hs'.subset h) (by omega)) (q_sm ok (fun s h => hs.subset h) (by omega)))) (decide_eq_false (Rat.not_lt.mpr hle))) fun H9 e9 => ?_
    refine s_asg (ev_var rfl) fun H10 e10 => ⟨ss.eraseIdx d, mv, _, by omega, rfl, e07.trans (hm_up (e8.trans (e9.trans e10))), (b7.up (e8.trans (e9.trans e10))).mono (by omega), hs', (e8.trans (e9.trans e10)) _ _ hl7, (RatP K _).up (hm_up (e9.trans e10)) (nob_box (b7.up e8) hmv)⟩
  · have hz : ss = [] := by
      cases ss with
      | nil => rfl
      | cons a ss => cases hc
    subst hz
    rw [q_nil] at hv5
    exact s_ret (ev_ratEq (ep_var rfl ((RatP K _).up ((hm_ex b H3).trans e4) hv5)) (ep_Ratio1 (n := 1) ev_c)) fun H5 e5 => k _ H5 (e3.trans (hm_up (e4.trans e5))) ((b3.up (e4.trans e5)).mono (by simp; omega)) rfl
end
end Rs
/-! The law's smaller shares. -/
namespace Rs
open PySem PySem.Spec PyProof.Rows L2 Evl
theorem den_mul (r s : Rat) : (r * s).den ≤ r.den * s.den := ((InD.self r).mul (InD.self s)).sz.2
theorem den_mk (a d : Nat) (h : 0 < d) : (mkRat (a : Int) d).den ≤ d := by
  rw [Rat.den_mkRat, if_neg (by omega)]
  exact Nat.div_le_self _ _
theorem mk_nn (a d : Nat) : 0 ≤ mkRat (a : Int) d := by
  rcases Nat.eq_zero_or_pos d with h | h
  · subst h
    rw [Rat.mkRat_zero]
    exact Rat.le_refl
  · rw [Rat.mkRat_eq_div, Rat.div_def]
    exact Rat.mul_nonneg (Rat.intCast_nonneg.mpr (by omega)) (Rat.le_of_lt (Rat.inv_pos.mpr (Rat.natCast_pos.mpr h)))
theorem mk_le (a d : Nat) (hd : 0 < d) (h : a ≤ d) : mkRat (a : Int) d ≤ 1 := by
  have hd' : (0 : Rat) < (d : Rat) := Rat.natCast_pos.mpr hd
  have hne : (d : Rat) ≠ 0 := fun z => by rw [z] at hd'; exact absurd hd' (by decide)
  have h1 : ((a : Int) : Rat) ≤ (d : Rat) := Rat.intCast_le_intCast.mpr (show (a : Int) ≤ (d : Int) by omega)
  have h2 := Rat.mul_le_mul_of_nonneg_right h1 (Rat.le_of_lt (Rat.inv_pos.mpr hd'))
  rw [Rat.mul_inv_cancel _ hne] at h2
  rw [Rat.mkRat_eq_div, Rat.div_def]
  exact h2
theorem five85 : 5 < 2 ^ 8500 := Nat.lt_of_lt_of_le (show 5 < 2 ^ 3 by decide) (Nat.pow_le_pow_right (by omega) (by omega))
theorem mul_le1 {r s : Rat} (h0 : 0 ≤ r) (h1 : s ≤ 1) : r * s ≤ r := by
  have := Rat.mul_le_mul_of_nonneg_left h1 h0
  rwa [Rat.mul_one] at this
instance {ns : List Str} {p : Str → Rat} {K : PySem.W.Frag} : NoB (PbP K ns p) := ⟨fun {v H b x y z} e h => by
  obtain ⟨ok, L, hL, nd, a, us, h1, h2, h3⟩ := h
  exact ⟨ok, L, hL, nd, a, us, h1, by rw [hm_ne (fun zz => by rw [zz, e] at h2; cases h2)]; exact h2, (nobs_map (f := fun s => RatP K (p s)) (fun _ => inferInstance) L).nob e h3⟩⟩
theorem AllP.setAt : ∀ {Ps : List Pr} {vs : List V} {H : Hp} {i : Nat} {P : Pr} {v : V}, AllP Ps vs H → P.p v H → AllP (Ps.set i P) (vs.set i v) H
  | [], [], _, _, _, _, _, _ => trivial
  | _ :: _, _ :: _, _, 0, _, _, h, hv => ⟨hv, h.2⟩
  | _ :: _, _ :: _, _, i + 1, _, _, h, hv => ⟨h.1, AllP.setAt h.2 hv⟩
  | [], _ :: _, _, _, _, _, h, _ => h.elim
  | _ :: _, [], _, _, _, _, h, _ => h.elim
theorem map_set_at {L : List Str} {f f' : Str → Pr} {i : Nat} {s : Str} (nd : L.Nodup) (hi : L[i]? = some s) (hf : ∀ t, t ≠ s → f' t = f t) : (L.map f).set i (f' s) = L.map f' := by
  refine List.ext_getElem? fun j => ?_
  obtain ⟨hil, hi2⟩ := List.getElem?_eq_some_iff.mp hi
  by_cases h : j = i
  · subst h
    rw [List.getElem?_set_self (by rw [List.length_map]; exact hil), List.getElem?_map, hi]
    rfl
  · rw [List.getElem?_set_ne (Ne.symm h), List.getElem?_map, List.getElem?_map]
    cases hj : L[j]? with
    | none => rfl
    | some t =>
      have : t ≠ s := fun z => by
        subst z
        obtain ⟨hjl, hj2⟩ := List.getElem?_eq_some_iff.mp hj
        exact h ((List.getElem_inj nd).mp (hj2.trans hi2.symm))
      show some (f t) = some (f' t)
      rw [hf t this]
section
variable {P : Program} {w : World} {K : PySem.W.Frag} {mg : Str → Option Value} {base : Heap}
/-- a factor drawn -/
def FacP (K : PySem.W.Frag) (r : Rat) : Pr := ⟨fun v H => ∃ j : Nat, j < 5 ∧ (RatP K (r * mkRat (j : Int) 5)).p v H, fun e h => by
  obtain ⟨j, h1, h2⟩ := h
  exact ⟨j, h1, (RatP K _).up e h2⟩⟩
section
variable {σ : L2.St} {G H : Hp} {E E' E'' : XK} {b : Addr} {n m : Nat} {ta tb te tl ti tk : TE} {tn : TA}
theorem eb_fac {r : Rat} (hr : EvP ta σ G (RatP K r)) (hb : Ev tb σ G (.ref b)) (hk : Ev tk σ G (.int 5)) (h5 : Ev ti σ G (.int 5)) (hs : Sm r) (hn : n + 1 ≤ 1000000) :
    EvB b n 1 (tMeth (CR K) "multiply" (Fn (R_two K (· * ·))) [] E ta (tCons (tMake (CR K) (spRatio K) [] E' (tCons (tCall (FnB 1 R_take) [] E'' (tCons tb (tCons tk tNil))) (tCons ti tNil))) tNil)) σ G (FacP K r) := fun H1 e bx Q q =>
  hr H1 (e.trans (hm_ex b H1)) _ fun v H2 e2 hv => by
    obtain ⟨a, dx, fs, rfl, ha, hno⟩ := rat_no (m := "multiply") (by decide +kernel) (by decide +kernel) hv
    refine ⟨a, dx, fs, rfl, ha, hno, ?_⟩
    have hvb := nob_box (bx.up e2) hv
    refine eb_take (k := 5) hb hk (by decide) (by decide) hn H2 (e.trans (hm_up e2)) (bx.up e2) _ fun u H3 e3 b3 hu => ?_
    obtain ⟨j, hj, rfl⟩ := hu
    refine h5 H3 ((e.trans (hm_up e2)).trans (e3.trans (hm_ex b H3))) _ fun H4 e4 => ?_
    refine ep_Ratio2 (K := K) (σ := σ) (E := E') (n := (j : Int)) (d := 5) (ta := tC (.int (j : Int))) (tb := tC (.int ((5 : Nat) : Int))) ev_c ev_c (by decide) five85 H4 (Ex.refl H4) (fun w H5 => Fn (R_two K (· * ·)) [.ref a, w] H5 Q E) fun w H5 e5 hw => ?_
    have hv5 := (RatP K r).up ((e3.trans (hm_ex b H3)).trans (e4.trans e5)) hvb
    have hsj : Sm (mkRat (j : Int) 5) := by
      have h2 : 2 ^ 10 ≤ 2 ^ 4200 := Nat.pow_le_pow_right (by omega) (by omega)
      have hj5 : j ≤ 5 := by omega
      have hd := den_mk j 5 (by decide)
      have hnn := num_le (mk_nn j 5) (mk_le j 5 (by decide) hj5)
      constructor
      · omega
      · omega
    refine ⟨[RatP K r, RatP K (mkRat (j : Int) 5)], RatP K (r * mkRat (j : Int) 5), ⟨r, _, hs, hsj, rfl, rfl⟩, ⟨hv5, hw, trivial⟩, fun w2 H6 e6 hw2 => ?_⟩
    have e46 := e4.trans (e5.trans e6)
    exact q w2 H6 ((hm_up e2).trans (e3.trans (hm_up e46))) (b3.up e46) ⟨j, hj, nob_box (b3.up e46) hw2⟩
theorem eb_pick {ss : List Str} (h : EvP ta σ G (LstV (ss.map V.str))) (hb : Ev tb σ G (.ref b)) (hk : Ev tk σ G (.int (ss.length : Int))) (h0 : 0 < ss.length) (h1 : ss.length < 100) (hn : n + 1 ≤ 1000000) :
    EvB b n 1 (tOp (rIxL K) ta (tCall (FnB 1 R_take) [] E (tCons tb (tCons tk tNil)))) σ G ⟨fun v _ => ∃ s ∈ ss, v = .str s, fun _ h => h⟩ :=
  (eb_op (m1 := 0) (m2 := 1) (P1 := LstV (ss.map V.str)) (P2 := Nlt ss.length) (eb h) (eb_take (k := ss.length) hb hk h0 (by omega) (by omega)) fun x y H _ hx hy => by
    obtain ⟨a, rfl, hx⟩ := hx
    obtain ⟨d, hd, rfl⟩ := hy
    exact ⟨.str ss[d], ⟨ss[d], List.getElem_mem hd, rfl⟩, fun Q q => ⟨a, _, (d : Int), .str ss[d], rfl, rfl, sq_of (hm_ex b H _ _ hx), atI_nat (by rw [List.getElem?_map, List.getElem?_eq_getElem hd]; rfl), q⟩⟩).mono (by omega)
end
abbrev sc__law_smaller_rightN : List Str := ["_law_box_here", "_law_graph_here", "_law_handed_here", "_law_names_here", "_law_name", "_law_less", "_law_value"]
theorem sc__law_smaller_right : FnScope sc__law_smaller_rightN ["_law_box_here", "_law_graph_here", "_law_handed_here", "_law_names_here"] (defScope s__law_smaller_right) := ⟨rfl, rfl, rfl, by decide +kernel, rfl, by decide +kernel, by decide +kernel⟩
theorem bd__law_smaller_right : Bnd "_law_smaller_right" "_law_smaller_right" s__law_smaller_right ["_law_box_here", "_law_graph_here", "_law_handed_here", "_law_names_here"] := fun _ _ _ _ _ _ us hl => match us, hl with | [_, _, _, _], _ => rfl
def R_smaller (K : PySem.W.Frag) (Ps : List Pr) (P : Pr) : Prop := ∃ (ns : List Str) (es : List (Str × Str)) (p : Str → Rat), Pos (adjB es) p ns ∧ (∀ s ∈ ns, (p s).den < 2 ^ 110) ∧ Ps = [GrP K ns es, PbP K ns p, LstV (ns.map V.str)] ∧ P = Is (.bl true)
theorem ok__law_smaller_right (T : Tx K mg) : C8.Cal P w K mg base 16 "_law_smaller_right" (FnB 5 (R_smaller K)) [] := by
  refine cal_of sc__law_smaller_right bd__law_smaller_right (fnb_len (k := 3) fun Ps P h => by obtain ⟨_, _, _, _, _, rfl, _⟩ := h; rfl) (fun f cdv A outer s H vs Q E hr h => ?_) T.g__law_smaller_right T.f__law_smaller_right
  obtain ⟨b, n, us, _, _, rfl, ⟨ns, es, p, hpos, hden, rfl, rfl⟩, hb, hn, ha, k⟩ := h
  obtain ⟨x, y, z, rfl, hx, hy, hz⟩ := all3 ha
  refine ⟨_, (pss_cons (ps_set (i := 4) sc__law_smaller_right.nd rfl (Or.inl rfl) (pe_ix ix_list (pv 3) (C8.pe_c (ok__law_take T) hr (by decide) rfl (pa_cons (pv 0) (pa_cons (pe_callB call_len_seq (by rfl) T.b_len (by decide +kernel) (pa_cons (pv 3) pa_nil)) pa_nil))) (fun _ _ => rfl)))
      (pss_cons (ps_set (i := 5) sc__law_smaller_right.nd rfl (Or.inl rfl) (pe_callTy call_dictD (by rfl) T.b_dict (by decide +kernel) (pa_cons (pv 2) pa_nil)))
      (pss_cons (ps_dput (hu_of hr) (pv 5) (pv 4) (C8.pe_mt (ok_Ratio_multiply T) hr (by decide) (pe_dget (hu_of hr) (pv 2) (pv 4) (fun _ _ => rfl)) (pa_cons (C8.pe_mk (ok_Ratio2 T) hr (by decide) rfl (pa_cons (C8.pe_c (ok__law_take T) hr (by decide) rfl (pa_cons (pv 0) (pa_cons pe_int pa_nil))) (pa_cons pe_int pa_nil))) pa_nil)) rfl)
      (pss_cons (ps_set (i := 6) sc__law_smaller_right.nd rfl (Or.inl rfl) (C8.pe_c (ok_find_certificate T) hr (by decide) rfl (pa_cons (pv 1) (pa_cons (pv 5) pa_nil))))
      (pss_cons (ps_if (pt_cmpR op_ne (pe_ix ix_tup (pv 6) pe_int (fun _ _ => rfl)) pe_str (nomark _))
        (pss_one (ps_ret pe_bl)) pss_nil)
      (pss_one (ps_ret (pe_not (C8.pe_mt (ok_Ratio_less_than T) hr (by decide) (C8.pe_c (ok_lower_bound T) hr (by decide) rfl (pa_cons (pv 1) (pa_cons (pv 5) (pa_cons (pv 6) pa_nil)))) (pa_cons (C8.pe_c (ok_independence_value T) hr (by decide) rfl (pa_cons (pv 1) (pa_cons (pv 2) pa_nil))) pa_nil)))))))))), ?_⟩
  have hns := hx.1
  have ok := hy.1
  have h8 := hns.hi
  have h1 := hns.lo
  refine kb_asg (G := Hm b H) (m := 1) (eb_pick (ss := ns) (ep_var rfl hz) (ev_var rfl) (ev_is (ev_lenLV (ep_var rfl hz)) (by rw [List.length_map])) (by omega) (by omega) (by omega)) (Ex.refl _) hb fun nv H1 e1 b1 hnv => ?_
  obtain ⟨c, hc, rfl⟩ := hnv
  -- the copy
  have hy1 := (PbP K ns p).up (e1.trans (hm_ex b H1)) hy
  obtain ⟨_, L, hL, nd, ya, us, rfl, hyd, hus⟩ := id hy1
  refine k_asg ⟨_, rfl, ya, _, rfl, .inl hyd, fun d hd => ?_⟩
  have hdb := b1.ne hd
  have hcL : c ∈ L := hL.mem_iff.mpr hc
  obtain ⟨i, hi, hi2⟩ := List.mem_iff_getElem.mp hcL
  have hLi : L[i]? = some c := by rw [List.getElem?_eq_getElem hi, hi2]
  have e12 : Ex H1 (upd H1 d (.dK (zipK L us))) := Ex.new hd
  have b2 := b1.up e12
  have hd2 : (upd H1 d (.dK (zipK L us))) d = some (.dK (zipK L us)) := upd_same
  generalize upd H1 d (.dK (zipK L us)) = H2 at *
  have eG2 : Ex (Hm b H) (Hm b H2) := e1.trans (hm_up e12)
  -- less[name] = handed[name] * j / 5
  refine eb_fac (n := n + 1) (G := Hm b H2) (r := p c) (ep_pget (ep_var rfl ((PbP K ns p).up eG2 hy)) (ev_var rfl) hc) (ev_var rfl) ev_c ev_c (ok.sm hc) (by omega) H2 (Ex.refl _) b2 _ fun fv H3 e3 b3 hfv => ?_
  refine ⟨.ref d, rfl, .str c, rfl, ?_⟩
  obtain ⟨j, hj, hfv⟩ := hfv
  have hd3 := hm_get hdb e3 hd2
  have hul : us.length = L.length := by rw [hus.len, List.length_map]
  have hLl := hL.length_eq
  refine ⟨d, _, rfl, DPut.k (k := Sum.inr c) hd3 (by rw [zipK_len hul]; exact sz_lt (by omega)), ?_⟩
  rw [putK_zip nd hul hLi]
  -- what it holds
  have hmd : Hm b H1 d = none := by rw [hm_ne hdb]; exact hd
  have hfr : Ex (Hm b H1) (Hm b (upd H3 d (.dK (zipK L (us.set i fv))))) := by
    rw [hm_set hdb]
    exact Ex.mut ((hm_up e12).trans e3) hmd
  have b4 : Box b (n + 1 + 1) (upd H3 d (.dK (zipK L (us.set i fv)))) := b3.set hdb
  have hd4 : (upd H3 d (.dK (zipK L (us.set i fv)))) d = some (.dK (zipK L (us.set i fv))) := upd_same
  have hfv4 : (RatP K (p c * mkRat (j : Int) 5)).p fv (upd H3 d (.dK (zipK L (us.set i fv)))) := by
    obtain ⟨r, rx, rfl, hr⟩ := hfv
    have hr := hm_ex b H3 _ _ hr
    exact ⟨r, rx, rfl, by rw [upd_ne (fun zz => by rw [zz, hd3] at hr; cases hr)]; exact hr⟩
  generalize upd H3 d (.dK (zipK L (us.set i fv))) = H4 at *
  have eG4 : Ex (Hm b H) (Hm b H4) := e1.trans hfr
  have eh4 : Ex (Hm b H) H4 := eG4.trans (hm_ex b H4)
  have hp0 := ok.lo c hc
  have hj5 : mkRat (j : Int) 5 ≤ 1 := mk_le j 5 (by decide) (by omega)
  have hle : p c * mkRat (j : Int) 5 ≤ p c := mul_le1 hp0 hj5
  obtain ⟨p', hp'c, hp'o⟩ : ∃ p' : Str → Rat, p' c = p c * mkRat (j : Int) 5 ∧ ∀ t, t ≠ c → p' t = p t := ⟨fun t => if t = c then p c * mkRat (j : Int) 5 else p t, if_pos rfl, fun t h => if_neg h⟩
  have hd120 : (p c * mkRat (j : Int) 5).den < 2 ^ 120 := by
    have h2 := den_mul (p c) (mkRat (j : Int) 5)
    have h3 := den_mk j 5 (by decide)
    have h4 := hden c hc
    have h5 := Nat.mul_le_mul_left (p c).den h3
    omega
  have ok' : PrOk ns p' := by
    refine ⟨fun t ht => ?_, fun t ht => ?_, fun t ht => ?_⟩
    · by_cases z : t = c
      · rw [z, hp'c]
        exact Rat.mul_nonneg hp0 (mk_nn j 5)
      · rw [hp'o t z]
        exact ok.lo t ht
    · by_cases z : t = c
      · rw [z, hp'c]
        exact Rat.le_trans hle (ok.hi c hc)
      · rw [hp'o t z]
        exact ok.hi t ht
    · by_cases z : t = c
      · rw [z, hp'c]
        exact hd120
      · rw [hp'o t z]
        exact ok.den t ht
  have hus4 : AllP (L.map fun s => RatP K (p s)) us H4 := by
    have h2 : AllP (L.map fun s => RatP K (p s)) us (Hm b H1) := (nobs_map (f := fun s => RatP K (p s)) (fun _ => inferInstance) L).nob b1.choose_spec.choose_spec.choose_spec.1 hus
    exact h2.up (hfr.trans (hm_ex b H4))
  have hpb : (PbP K ns p').p (.ref d) H4 := by
    refine ⟨ok', L, hL, nd, d, us.set i fv, rfl, hd4, ?_⟩
    have h2 := hus4.setAt (i := i) (P := RatP K (p' c)) (v := fv) (by rw [hp'c]; exact hfv4)
    have h3 := map_set_at (f := fun s => RatP K (p s)) (f' := fun s => RatP K (p' s)) nd hLi fun t ht => by show RatP K (p' t) = RatP K (p t); rw [hp'o t ht]
    have h4 : (L.map fun s => RatP K (p s)).set i (RatP K (p' c)) = L.map fun s => RatP K (p' s) := h3
    rw [h4] at h2
    exact h2
  have hpos' : Pos (adjB es) p' ns := smaller_pos (adj_sym es) (c := c) (by rw [hp'c]; exact hle) hp'o hns.nd hpos
  have hqle : q (adjB es) p ns ≤ q (adjB es) p' ns := smaller (adj_sym es) (c := c) (by rw [hp'c]; exact hle) hp'o hns.nd hpos
  -- the certificate
  refine q_asgP (ep_find (ep_var rfl ((GrP K ns es).up eh4 hx)) (ep_var rfl hpb)) fun cv H5 e5 hcv => ?_
  obtain ⟨bv, hbv, hcv⟩ := hcv
  have hbt : bv = true := hbv.mpr hpos'
  subst hbt
  have hcx : ∀ {H6 : Hp}, Ex H5 H6 → (CertV K ns es p' true).p cv H6 := fun e => (CertV K ns es p' true).up e hcv
  refine q_not (et_is (et_test (ev_ne (x := .str (verd true)) (ev_cert (ep_var rfl hcv)) ev_c rfl)) (by decide +kernel)) fun H6 e6 => ?_
  have eh6 := eh4.trans (e5.trans e6)
  refine s_ret (v := .bl true) (ev_is (ev_notV (a := false) (ev_is (ep_less (ep_call (eap_cons (ep_var rfl ((GrP K ns es).up eh6 hx)) (eap_cons (ep_var rfl ((PbP K ns p').up (e5.trans e6) hpb)) (eap_cons (ep_var rfl (hcx e6)) eap_nil))) ⟨ns, es, p', rfl, rfl⟩) (ep_ind (ep_var rfl ((GrP K ns es).up eh6 hx)) (ep_var rfl ((PbP K ns p).up eh6 hy))) (q_sm ok' (fun _ h => h) h8) (q_sm ok (fun _ h => h) h8)) (by rw [decide_eq_false (Rat.not_lt.mpr hqle)]))) rfl) fun H7 e7 => k _ H7 (eG4.trans (hm_up (e5.trans (e6.trans e7)))) ((b4.up (e5.trans (e6.trans e7))).mono (by omega)) rfl
end
end Rs
/-! The law's subset. -/
namespace Rs
open PySem PySem.Spec PyProof.Rows L2 Evl
theorem nodup_lenA {α : Type} [DecidableEq α] : ∀ {L M : List α}, L.Nodup → (∀ a ∈ L, a ∈ M) → L.length ≤ M.length
  | [], _, _, _ => Nat.zero_le _
  | a :: L, M, nd, h => by
    have h2 := List.nodup_cons.mp nd
    have ih := nodup_lenA (L := L) (M := M.erase a) h2.2 fun x hx => (List.mem_erase_of_ne (show x ≠ a from fun e => h2.1 (e ▸ hx))).mpr (h x (List.mem_cons_of_mem _ hx))
    rw [List.length_erase_of_mem (h a List.mem_cons_self)] at ih
    have := List.length_pos_of_mem (h a List.mem_cons_self)
    rw [List.length_cons]
    omega
theorem EdgesOk.nodup {ns : List Str} {es : List (Str × Str)} (h : EdgesOk ns es) : es.Nodup := List.Pairwise.imp (fun {a b} (hs : ¬ samePair a b) (z : a = b) => hs (by subst z; exact .inl ⟨rfl, rfl⟩)) h.pw
theorem EdgesOk.len {ns : List Str} {es : List (Str × Str)} (h : EdgesOk ns es) (h8 : ns.length ≤ 8) : es.length ≤ 64 := by
  have h1 := nodup_lenA (M := ns.flatMap fun a => ns.map fun b => (a, b)) h.nodup fun e he => by
    obtain ⟨h1, h2, _⟩ := h.mem e he
    exact List.mem_flatMap.mpr ⟨e.1, h1, List.mem_map.mpr ⟨e.2, h2, rfl⟩⟩
  have h2 : ∀ (M : List Str), (M.flatMap fun a => ns.map fun b => (a, b)).length = M.length * ns.length := fun M => by
    induction M with
    | nil => simp
    | cons a M ih => rw [List.flatMap_cons, List.length_append, ih, List.length_map, List.length_cons, Nat.succ_mul, Nat.add_comm]
  rw [h2] at h1
  have := Nat.mul_le_mul h8 h8
  omega
/-- the edges among some names -/
def cutE (ss : List Str) (es : List (Str × Str)) : List (Str × Str) := es.filter fun e => decide (e.1 ∈ ss) && decide (e.2 ∈ ss)
theorem cut_edges {ns ss : List Str} {es : List (Str × Str)} (h : EdgesOk ns es) : EdgesOk ss (cutE ss es) := by
  refine ⟨fun e he => ?_, List.Pairwise.sublist List.filter_sublist h.pw⟩
  obtain ⟨h1, h2⟩ := List.mem_filter.mp he
  rw [Bool.and_eq_true, decide_eq_true_eq, decide_eq_true_eq] at h2
  exact ⟨h2.1, h2.2, (h.mem e h1).2.2⟩
theorem cut_adj {ss : List Str} {es es' : List (Str × Str)} (h : sameAdj (cutE ss es) es') {a b : Str} (ha : a ∈ ss) (hb : b ∈ ss) : adjB es' a b = adjB es a b := by
  have h1 : ∀ c d, c ∈ ss → d ∈ ss → ((c, d) ∈ cutE ss es ↔ (c, d) ∈ es) := fun c d hc hd => by
    unfold cutE
    rw [List.mem_filter]
    simp [hc, hd]
  have h2 := h a b
  rw [h1 a b ha hb, h1 b a hb ha] at h2
  unfold adjB
  congr 1
  rw [Bool.eq_iff_iff, Bool.or_eq_true, Bool.or_eq_true, decide_eq_true_eq, decide_eq_true_eq, decide_eq_true_eq, decide_eq_true_eq]
  exact h2.symm
theorem zipK_of {α : Type} (kf : α → Str) (vf : α → V) : ∀ Z : List α, zipK (Z.map kf) (Z.map vf) = Z.map fun z => (Sum.inr (kf z), vf z)
  | [] => rfl
  | z :: Z => by rw [List.map_cons, List.map_cons, zipK_cons, zipK_of kf vf Z]; rfl
section
variable {P : Program} {w : World} {K : PySem.W.Frag} {mg : Str → Option Value} {base : Heap}
/-- dict of pairs -/
def rDictP (K : PySem.W.Frag) : List V → Hp → VK → Prop := fun xs H Q => ∃ (a : Addr) (ps : List Addr) (kvs : List (Key × V)), xs = [.ref a] ∧ SqL K H a (ps.map V.ref) ∧ Paired (fun p kv => SqT K H p [kV kv.1, kv.2]) ps kvs ∧
  ∀ p, H p = none → Q (.ref p) (upd H p (.dK (mergeK [] kvs)))
theorem pairs_of {α : Type} {kf : α → Str} {pf : α → Pr} {H : Hp} : ∀ {Z : List α} {vs : List V}, AllP (Z.map fun z => TupP [Is (.str (kf z)), pf z]) vs H → ∃ (ps : List Addr) (us : List V), vs = ps.map V.ref ∧ us.length = Z.length ∧ Paired (fun p (kv : Key × V) => SqT K H p [kV kv.1, kv.2]) ps (zipK (Z.map kf) us) ∧ AllP (Z.map pf) us H
  | [], [], _ => ⟨[], [], rfl, rfl, .nil, trivial⟩
  | z :: Z, v :: vs, h => by
    obtain ⟨ps, us, rfl, h1, h2, h3⟩ := pairs_of (Z := Z) h.2
    obtain ⟨t, ws, rfl, ht, hws⟩ := h.1
    obtain ⟨_, u, rfl, rfl, hu⟩ := all2 hws
    exact ⟨t :: ps, u :: us, rfl, by rw [List.length_cons, h1]; rfl, by rw [List.map_cons, zipK_cons]; exact .cons (st_of ht) h2, hu, h3⟩
  | [], _ :: _, h => h.elim
  | _ :: _, [], h => h.elim
theorem ep_dictP {α : Type} {σ : L2.St} {H : Hp} {te : TE} {Z : List α} {kf : α → Str} {f : Str → Pr} (h : EvLP te σ H (Z.map fun z => TupP [Is (.str (kf z)), f (kf z)])) (nd : (Z.map kf).Nodup) : EvP (tCB (rDictP K) (tCons te tNil)) σ H (DicP (Z.map kf) f) := fun H1 e Q q =>
  h H1 e _ fun p vs H2 hp e2 h2 ha => by
    obtain ⟨ps, us, rfl, h1, h3, h4⟩ := pairs_of (K := K) ha
    refine ⟨p, ps, _, rfl, sq_of h2, h3, fun d hd => q _ _ (e2.trans (Ex.new hd)) ⟨nd, d, us, rfl, ?_, ?_⟩⟩
    · rw [upd_same]
      have := mergeK_zip (Z.map kf) us [] [] (by simpa using nd) rfl (by rw [h1, List.length_map])
      rw [show zipK [] [] = [] from rfl] at this
      rw [this]
      rfl
    · rw [List.map_map]
      exact h4.up (Ex.new hd)
theorem ep_revL {σ : L2.St} {H : Hp} {te : TE} {xs : List V} (h : EvP te σ H (LstV xs)) : EvP (tRevL K te) σ H (LstV xs.reverse) := fun H1 e Q q => h H1 e _ fun v H2 e2 hv => by
  obtain ⟨a, rfl, h2⟩ := hv
  exact ⟨a, xs, rfl, sq_of h2, fun p hp => q _ _ (e2.trans (Ex.new hp)) ⟨p, rfl, upd_same⟩⟩
abbrev sc__law_subset_rightN : List Str := ["_law_box_here", "_law_graph_here", "_law_handed_here", "_law_names_here", "_law_some", "_law_pairs", "_law_part", "_law_shares_here", "_law_value", "_law_name", "_law_edge"]
theorem sc__law_subset_right : FnScope sc__law_subset_rightN ["_law_box_here", "_law_graph_here", "_law_handed_here", "_law_names_here"] (defScope s__law_subset_right) := ⟨rfl, rfl, rfl, by decide +kernel, rfl, by decide +kernel, by decide +kernel⟩
theorem bd__law_subset_right : Bnd "_law_subset_right" "_law_subset_right" s__law_subset_right ["_law_box_here", "_law_graph_here", "_law_handed_here", "_law_names_here"] := fun _ _ _ _ _ _ us hl => match us, hl with | [_, _, _, _], _ => rfl
def R_subset (K : PySem.W.Frag) (Ps : List Pr) (P : Pr) : Prop := ∃ (ns : List Str) (es : List (Str × Str)) (p : Str → Rat), Pos (adjB es) p ns ∧ Ps = [GrP K ns es, PbP K ns p, LstV (ns.map V.str)] ∧ P = Is (.bl true)
theorem ok__law_subset_right (T : Tx K mg) : C8.Cal P w K mg base 16 "_law_subset_right" (FnB 10 (R_subset K)) [] := by
  refine cal_of sc__law_subset_right bd__law_subset_right (fnb_len (k := 3) fun Ps P h => by obtain ⟨_, _, _, _, rfl, _⟩ := h; rfl) (fun f cdv A outer s H vs Q E hr h => ?_) T.g__law_subset_right T.f__law_subset_right
  obtain ⟨b, n, us, _, _, rfl, ⟨ns, es, p, hpos, rfl, rfl⟩, hb, hn, ha, k⟩ := h
  obtain ⟨x, y, z, rfl, hx, hy, hz⟩ := all3 ha
  refine ⟨_, (pss_cons (ps_set (i := 4) sc__law_subset_right.nd rfl (Or.inr rfl) (pe_lc (own := [("_law_name", 9)]) (g := gName 9) (tt := (tTest (tOp _ (tCall _ _ _ (tCons _ (tCons _ tNil))) _))) (te := _) rfl sc__law_subset_right.nd (pi_list (pv 3)) (blkOk_by (N := sc__law_subset_rightN) (sc := defScope s__law_subset_right) (by decide +kernel)) (fun _ _ _ _ _ => (pg_name (i := 9) sc__law_subset_right.nd rfl (Or.inl rfl))) (fun _ _ _ _ _ => (pts_one (pt_cmpR op_gt (C8.pe_c (ok__law_take T) hr (by decide) rfl (pa_cons (pv 0) (pa_cons pe_int pa_nil))) pe_int (nomark _)))) (fun _ _ _ _ _ => (pv 9))))
      (pss_cons (ps_if (pt_cmpR (op_eqD hr.units) (pv 4) (pe_lst pa_nil) (nomark _))
        (pss_one (ps_ret pe_bl)) pss_nil)
      (pss_cons (ps_setLc (i := 5) (own := [("_law_edge", 10)]) (g := gName 10) (tt := (tAnd (tTest (tOp (rIn K false) (tOp (rIxT K) _ _) _)) (tTest (tOp (rIn K false) (tOp (rIxT K) _ _) _)))) (te := _) rfl sc__law_subset_right.nd rfl rfl (sw_true rfl rfl rfl (by decide +kernel)) (pi_list (C8.pe_mt0 (ok_Graph_edges T) hr (by decide) (pv 1))) (blkOk_by (N := sc__law_subset_rightN) (sc := defScope s__law_subset_right) (by decide +kernel)) (fun _ _ _ _ _ => (pg_name (i := 10) sc__law_subset_right.nd rfl (Or.inl rfl))) (fun _ _ _ _ _ => (pts_one (PW.pt (pw_and (pt_cmpR op_in_seq (pe_ix ix_tup (pv 10) pe_int (fun _ _ => rfl)) (pv 4) (by rfl)) (pw_and1 (pt_cmpR op_in_seq (pe_ix ix_tup (pv 10) pe_int (fun _ _ => rfl)) (pv 4) (by rfl))))))) (fun _ _ _ _ _ => (pv 10)))
      (pss_cons (ps_set (i := 6) sc__law_subset_right.nd rfl (Or.inl rfl) (C8.pe_mk (ok_Graph T) hr (by decide) rfl (pa_cons (pv 4) (pa_cons (pv 5) pa_nil))))
      (pss_cons (ps_set (i := 7) sc__law_subset_right.nd rfl (Or.inl rfl) (pe_callTy (call_dictP rfl) (by rfl) T.b_dict (by decide +kernel) (pa_cons (pe_lc (own := [("_law_name", 9)]) (g := gName 9) (tt := tYes) (te := (tTup (tCons _ (tCons (tDGet _ _) tNil)))) rfl sc__law_subset_right.nd (pi_list (pe_revL (pv 4))) (blkOk_by (N := sc__law_subset_rightN) (sc := defScope s__law_subset_right) (by decide +kernel)) (fun _ _ _ _ _ => (pg_name (i := 9) sc__law_subset_right.nd rfl (Or.inl rfl))) (fun _ _ _ _ _ => pts_nil) (fun _ _ _ _ _ => (pe_tup (pa_cons (pv 9) (pa_cons (pe_dget (hu_of hr) (pv 2) (pv 9) (fun _ _ => rfl)) pa_nil))))) pa_nil)))
      (pss_cons (ps_set (i := 8) sc__law_subset_right.nd rfl (Or.inl rfl) (pe_ck (okk_find_certificate T) hr (by decide) rfl (pa_cons (pv 6) (pa_cons (pv 7) pa_nil)) (pk_cons (pe_revL (pv 4)) pk_nil)))
      (pss_cons (ps_if (pt_cmpR op_ne (pe_ix ix_tup (pv 8) pe_int (fun _ _ => rfl)) pe_str (nomark _))
        (pss_one (ps_ret pe_bl)) pss_nil)
      (pss_one (ps_ret (pe_cmpR (op_eqG (rcG_ratio T) (hr.mono (by decide))) (C8.pe_c (ok_lower_bound T) hr (by decide) rfl (pa_cons (pv 6) (pa_cons (pv 7) (pa_cons (pv 8) pa_nil)))) (pe_ck (okk_independence_value T) hr (by decide) rfl (pa_cons (pv 1) (pa_cons (pv 2) pa_nil)) (pk_cons (pv 4) pk_nil)) (nomark _))))))))))), ?_⟩
  have hns := hx.1
  have hes := hx.2.1
  have ok := hy.1
  have h8 := hns.hi
  -- some
  have hsome : EvB b n 8 (tLc (iList K (tVar 3)) (gName 9) (tTest (tOp (rI0 fun i j => .bl (decide (i > j))) (tCall (FnB 1 R_take) [] E0 (tCons (tVar 0) (tCons (tC (.int 3)) tNil))) (tC (.int 0)))) (tVar 9) [9]) (start sc__law_subset_rightN [.ref b, x, y, z]) (Hm b H) ⟨fun v H => ∃ ss : List Str, List.Sublist ss ns ∧ (LstV (ss.map V.str)).p v H, fun e h => by
      obtain ⟨ss, h1, h2⟩ := h
      exact ⟨ss, h1, (LstV _).up e h2⟩⟩ := fun H1 e bx Q q => by
    obtain ⟨za, ez, hza⟩ := (LstV (ns.map V.str)).up e hz
    subst ez
    have hzb : ∀ {H2 : Hp}, Ex (Hm b H1) (Hm b H2) → H2 za = some (.lst (ns.map V.str)) := fun e => hm_ex b _ _ _ (e _ _ hza)
    unfold tLc
    refine ⟨_, rfl, za, rfl, ⟨_, sq_of (hzb (Ex.refl _))⟩, ?_⟩
    refine lcb_core (Q := Q) (tt := (tTest (tOp (rI0 fun i j => .bl (decide (i > j))) (tCall (FnB 1 R_take) [] E0 (tCons (tVar 0) (tCons (tC (.int 3)) tNil))) (tC (.int 0))))) (te := tVar 9) (N := ns.length) (n1 := n) (c := 1) (J := Itl K za) (Gd := fun H => SqL K H za (ns.map V.str)) (Y := YAt (ns.map V.str)) (by have := walk_list (K := K) (a := za) (xs := ns.map V.str); rw [List.length_map] at this; exact this) (fun i => .str (ns.getD i Str.empty)) (fun H2 e2 => sq_of (hzb e2)) (fun i x H2 H3 hi h => ?_) (fun i acc => List.Sublist acc (ns.take i)) (List.Sublist.refl _) (by omega) (fun _ => rfl) (fun i acc H2 hi hc e2 b2 R hR => ?_) bx (fun D H2 acc hc e2 b2 hl => ?_)
    · obtain ⟨h1, h2⟩ := h
      rw [List.getElem?_map, List.getElem?_eq_getElem hi] at h2
      refine ⟨h1, ?_⟩
      rw [List.getD_eq_getElem?_getD, List.getElem?_eq_getElem hi]
      exact (Option.some.inj h2).symm
    · have htk : EvB b (n + i * 1) 1 (tCall (FnB 1 R_take) [] E0 (tCons (tVar 0) (tCons (tC (.int 3)) tNil))) ((wipe (start sc__law_subset_rightN [.ref b, x, y, .ref za]) [9]).set 9 (some (.str (ns.getD i Str.empty)))) (Hm b H2) (Nlt 3) := eb_take (k := 3) (ev_var rfl) ev_c (by decide) (by decide) (by omega)
      refine k_test (k_op (htk H2 (Ex.refl _) b2 _ fun v H3 e3 b3 hv => ?_))
      obtain ⟨d, hd, rfl⟩ := hv
      have hts : ns.take (i + 1) = ns.take i ++ [ns.getD i Str.empty] := by
        rw [List.take_succ_eq_append_getElem hi, List.getD_eq_getElem?_getD, List.getElem?_eq_getElem hi]
        rfl
      refine ⟨_, _, rfl, rfl, _, rfl, hR _ H3 e3 (fun _ => ⟨?_, b3.mono (by omega)⟩) (fun _ R2 hR2 => ?_)⟩
      · rw [hts]
        exact hc.trans (List.sublist_append_left _ _)
      · refine ⟨_, rfl, hR2 (ns.getD i Str.empty) H3 ?_ e3 (b3.mono (by omega))⟩
        rw [hts]
        exact hc.append (List.Sublist.refl _)
    · rw [List.take_length] at hc
      exact q _ H2 e2 (b2.mono (by omega)) ⟨acc, hc, hl⟩
  refine kb_asg (G := Hm b H) (m := 8) hsome (Ex.refl _) hb fun sv H1 e1 b1 hsv => ?_
  obtain ⟨ss, hss, hsv⟩ := hsv
  have hsl := hss.length_le
  have okS : ∀ s ∈ ss, PyData.strOk s = true := fun s h => (hns.nm s (hss.subset h)).ok
  have hsx : ∀ {H2 : Hp}, Ex H1 H2 → (LstV (ss.map V.str)).p sv H2 := fun e => (LstV _).up ((hm_ex b H1).trans e) hsv
  have hxx : ∀ {H2 : Hp}, Ex H1 H2 → (GrP K ns es).p x H2 := fun e => (GrP K ns es).up (e1.trans ((hm_ex b H1).trans e)) hx
  have hyx : ∀ {H2 : Hp}, Ex H1 H2 → (PbP K ns p).p y H2 := fun e => (PbP K ns p).up (e1.trans ((hm_ex b H1).trans e)) hy
  have fin : ∀ {H2 : Hp}, Ex H1 H2 → Q (.bl true) H2 := fun e => k _ _ (e1.trans (hm_up e)) ((b1.up e).mono (by omega)) rfl
  refine q_when (b := ss.isEmpty) (et_test (ev_eqStrs (ep_var rfl (hsx (Ex.refl _))) okS)) (fun _ H2 e2 => s_ret ev_c fun H3 e3 => fin (e2.trans e3)) fun hne H2 e2 => ?_
  have hpos1 : 1 ≤ ss.length := by
    cases ss with
    | nil => cases hne
    | cons a ss => exact Nat.succ_pos _
  have nd : ss.Nodup := List.Sublist.nodup hss hns.nd
  have okN : NamesOk ss := ⟨hpos1, by omega, fun s h => hns.nm s (hss.subset h), nd⟩
  have hel := hes.len h8
  -- the pairs
  refine q_asgP (P := LstP ((cutE ss es).map prS)) (elp_lcL (f := prS) (fun e => decide (e.1 ∈ ss) && decide (e.2 ∈ ss)) prS (ep_edges (ep_var rfl (hxx e2))) (by omega) (fun _ => rfl) (fun e v H3 he e3 hv => ?_) (fun e v H3 he e3 hv _ => ep_var rfl hv)).lst fun pv H3 e3 hpv => ?_
  · exact et_and (et_test (ev_inL (ev (ep_ixT (k := 0) (P := Is (.str e.1)) (ep_var rfl (pr2 hv)) ev_c rfl (at_k 0))) (ep_var rfl (hsx (e2.trans e3))))) fun _ => et_test (ev_inL (ev (ep_ixT (k := 1) (P := Is (.str e.2)) (ep_var rfl (pr2 hv)) ev_c rfl (at_k 1))) (ep_var rfl (hsx (e2.trans e3))))
  have e13 := e2.trans e3
  have hcl : (cutE ss es).length ≤ 1000 := Nat.le_trans (List.length_filter_le _ _) (by omega)
  refine q_asgP (ep_Graph okN (cut_edges hes) hcl (ep_var rfl (hsx e13)) (ep_var rfl hpv)) fun gv H4 e4 hgv => ?_
  have e14 := e13.trans e4
  obtain ⟨es', hadj, hgv⟩ := hgv
  have hca : ∀ a ∈ ss, ∀ c ∈ ss, adjB es a c = adjB es' a c := fun a ha c hc => (cut_adj hadj ha hc).symm
  -- the shares
  have okP : PrOk ss p := ⟨fun s h => ok.lo s (hss.subset h), fun s h => ok.hi s (hss.subset h), fun s h => ok.den s (hss.subset h)⟩
  have hrev : ∀ {σ : L2.St} {H5 : Hp}, Ex H1 H5 → σ[4]? = some (some sv) → EvP (tRevL K (tVar 4)) σ H5 (LstV (ss.reverse.map V.str)) := fun e h => by
    rw [List.map_reverse]
    exact ep_revL (ep_var h (hsx e))
  have hdic : EvP (tCB (rDictP K) (tCons (tLc (iList K (tRevL K (tVar 4))) (gName 9) tYes (tTup (tCons (tVar 9) (tCons (tDGet (tVar 2) (tVar 9)) tNil))) [9]) tNil)) [some (.ref b), some x, some y, some z, some sv, some pv, some gv, none, none, none, none] H4 (DicP (ss.reverse.map fun s => s) fun s => RatP K (p s)) := by
    refine ep_dictP (kf := fun s => s) (f := fun s => RatP K (p s)) (elp_mapL (f := fun s => TupP [Is (.str s), RatP K (p s)]) (fun s => Is (.str s)) (epL (hrev e14 rfl)) (by rw [List.length_reverse]; omega) (fun _ => rfl) fun s v H5 hs e5 hv => ?_) (by rw [List.map_id']; exact ((List.reverse_perm ss).nodup_iff).mpr nd)
    have hv : v = .str s := hv
    subst hv
    exact ep_tup (eap_cons (ep (ev_var rfl)) (eap_cons (ep_pget (ep_var rfl (hyx (e14.trans e5))) (ev_var rfl) (hss.subset (List.mem_reverse.mp hs))) eap_nil)) (by simp)
  rw [List.map_id'] at hdic
  refine q_asgP (P := PbP K ss p) (ep_to hdic fun v H5 _ hv => ⟨okP, ss.reverse, List.reverse_perm ss, hv⟩) fun dv H5 e5 hdv => ?_
  have e15 := e14.trans e5
  have hgx : ∀ {H6 : Hp}, Ex H5 H6 → (GrP K ss es').p gv H6 := fun e => (GrP K ss es').up (e5.trans e) hgv
  refine q_asgP (ep_findO (ord := ss.reverse) (ep_var rfl (hgx (Ex.refl _))) (ep_var rfl hdv) (hrev e15 rfl) (List.reverse_perm ss) rfl rfl) fun cv H6 e6 hcv => ?_
  have e16 := e15.trans e6
  have hqc : ∀ T : List Str, List.Sublist T ss → q (adjB es) p T = q (adjB es') p T := fun T hT => q_congr T.length T (Nat.le_refl _) (fun a ha c hc => hca a (hT.subset ha) c (hT.subset hc)) fun _ _ => rfl
  have hposS : Pos (adjB es') p ss := fun T hT => by
    rw [← hqc T hT]
    exact hpos T (hT.trans hss)
  obtain ⟨bv, hbv, hcv⟩ := hcv
  have hbt : bv = true := hbv.mpr hposS
  subst hbt
  refine q_not (et_is (et_test (ev_ne (x := .str (verd true)) (ev_cert (ep_var rfl hcv)) ev_c rfl)) (by decide +kernel)) fun H7 e7 => ?_
  have e17 := e16.trans e7
  refine s_ret (ev_ratEq (r := q (adjB es) p ss) ?_ (ep_indS (ss := ss) (ep_var rfl (hxx e17)) (ep_var rfl (hyx e17)) (ep_var rfl (hsx e17)) (fun s h => hss.subset h) nd (by omega) rfl rfl)) fun H8 e8 => fin (e17.trans e8)
  rw [hqc ss (List.Sublist.refl _)]
  exact ep_call (eap_cons (ep_var rfl (hgx (e6.trans e7))) (eap_cons (ep_var rfl ((PbP K ss p).up (e6.trans e7) hdv)) (eap_cons (ep_var rfl ((CertV K ss es' p true).up e7 hcv)) eap_nil))) ⟨ss, es', p, rfl, rfl⟩
end
end Rs
/-! The law. -/
namespace Rs
open PySem PySem.Spec PyProof.Rows L2 Evl
/-! ### the probabilities of a lap -/
def shR (r : Nat × Nat) : Rat := mkRat (r.1 : Int) r.2
def prL (ns : List Str) (rs : List (Nat × Nat)) (t : Rat) (s : Str) : Rat := shR (rs.getD (ns.idxOf s) (0, 1)) * t
theorem prL_zip {ns : List Str} {rs : List (Nat × Nat)} {t : Rat} (nd : ns.Nodup) {z : Str × (Nat × Nat)} (h : z ∈ ns.zip rs) : prL ns rs t z.1 = shR z.2 * t := by
  obtain ⟨i, hi⟩ := List.mem_iff_getElem?.mp h
  obtain ⟨z1, z2⟩ := z
  obtain ⟨h1, h2⟩ := List.getElem?_zip_eq_some.mp hi
  have h1 : ns[i]? = some z1 := h1
  have h2 : rs[i]? = some z2 := h2
  obtain ⟨hl, he⟩ := List.getElem?_eq_some_iff.mp h1
  have hx : ns.idxOf z1 = i := by rw [← he]; exact nd.idxOf_getElem i hl
  unfold prL
  show shR (rs.getD (ns.idxOf z1) (0, 1)) * t = shR z2 * t
  rw [hx, List.getD_eq_getElem?_getD, h2]
  rfl
structure SmallOk (t : Rat) : Prop where
  lo : 0 ≤ t
  hi : t ≤ 1
  den : t.den ≤ 10
theorem prL_ok {ns : List Str} {rs : List (Nat × Nat)} {t : Rat} (hl : rs.length = ns.length) (hr : ∀ r ∈ rs, ShOk r) (ht : SmallOk t) : PrOk ns (prL ns rs t) ∧ ∀ s ∈ ns, (prL ns rs t s).den < 2 ^ 110 := by
  have key : ∀ s ∈ ns, ∃ r, ShOk r ∧ prL ns rs t s = shR r * t := fun s hs => by
    have hi : ns.idxOf s < rs.length := by rw [hl]; exact List.idxOf_lt_length_of_mem hs
    refine ⟨rs[ns.idxOf s], hr _ (List.getElem_mem hi), ?_⟩
    unfold prL
    rw [List.getD_eq_getElem?_getD, List.getElem?_eq_getElem hi]
    rfl
  have dn : ∀ s ∈ ns, (prL ns rs t s).den < 2 ^ 110 := fun s hs => by
    obtain ⟨r, h1, h2⟩ := key s hs
    rw [h2]
    have h3 := den_mul (shR r) t
    have h4 : (shR r).den ≤ r.2 := den_mk r.1 r.2 h1.1
    have h5 := Nat.mul_le_mul (Nat.le_trans h4 h1.2.1) ht.den
    have h6 : big30 * 10 < 2 ^ 110 := by decide +kernel
    exact Nat.lt_of_le_of_lt (Nat.le_trans h3 h5) h6
  refine ⟨⟨fun s hs => ?_, fun s hs => ?_, fun s hs => Nat.lt_trans (dn s hs) (by decide)⟩, dn⟩
  · obtain ⟨r, h1, h2⟩ := key s hs
    rw [h2]
    exact Rat.mul_nonneg (mk_nn _ _) ht.lo
  · obtain ⟨r, h1, h2⟩ := key s hs
    rw [h2]
    exact Rat.le_trans (mul_le1 (mk_nn _ _) ht.hi) (mk_le r.1 r.2 h1.1 h1.2.2)
theorem allRev : ∀ {Ps : List Pr} {vs : List V} {H : Hp}, AllP Ps vs H → AllP Ps.reverse vs.reverse H
  | [], [], _, _ => trivial
  | P :: Ps, v :: vs, H, h => by
    rw [List.reverse_cons, List.reverse_cons]
    exact (allRev h.2).append ⟨h.1, trivial⟩
  | [], _ :: _, _, h => h.elim
  | _ :: _, [], _, h => h.elim
theorem all_ext {α : Type} {f g : α → Pr} {H : Hp} : ∀ {xs : List α} {vs : List V}, (∀ x ∈ xs, f x = g x) → AllP (xs.map f) vs H → AllP (xs.map g) vs H := fun {xs vs} h ha => by
  rw [← List.map_congr_left h]
  exact ha
instance {K : PySem.W.Frag} {ns : List Str} {es : List (Str × Str)} : NoB (GrP K ns es) := ⟨fun {v H b x y z} e h => by
  obtain ⟨hn, he, a, dx, u1, u2, h1, h2, h3, h4⟩ := h
  exact ⟨hn, he, a, dx, u1, u2, h1, by rw [hm_ne (fun zz => by rw [zz, e] at h2; cases h2)]; exact h2, (inferInstance : NoB (LstV (ns.map V.str))).nob e h3, (inferInstance : NoB (LstP (es.map prS))).nob e h4⟩⟩
section
variable {P : Program} {w : World} {K : PySem.W.Frag} {mg : Str → Option Value} {base : Heap}
def GrQ (K : PySem.W.Frag) (ns : List Str) : Pr := ⟨fun v H => ∃ es, (GrP K ns es).p v H, fun e h => by
  obtain ⟨es, h1⟩ := h
  exact ⟨es, (GrP K ns es).up e h1⟩⟩
def SmallP (K : PySem.W.Frag) : Pr := ⟨fun v H => ∃ t, SmallOk t ∧ (RatP K t).p v H, fun e h => by
  obtain ⟨t, h1, h2⟩ := h
  exact ⟨t, h1, (RatP K t).up e h2⟩⟩
/-- a name and its share -/
def pairP (K : PySem.W.Frag) (f : Str × (Nat × Nat) → Rat) (z : Str × (Nat × Nat)) : Pr := TupP [Is (.str z.1), RatP K (f z)]
instance {f : Str × (Nat × Nat) → Rat} {z : Str × (Nat × Nat)} : Stab (pairP K f z) := inferInstanceAs (Stab (TupP _))
section
variable {σ : L2.St} {G H : Hp} {E : XK} {b : Addr} {n m c : Nat} {ta tb te tl ti tk : TE} {tn : TA}
theorem eb_callB {R : List Pr → Pr → Prop} {Ps : List Pr} {P' : Pr} (hb : Ev te σ G (.ref b)) (h : EvAB b n m tn σ G Ps) (hr : ∀ vs H, AllP Ps vs H → ∃ Ps' P'', R Ps' P'' ∧ AllP Ps' vs H ∧ ∀ v H', P''.p v H' → P'.p v H') (hn : n + m + c ≤ 1000000) : EvB b n (m + c) (tCall (FnB c R) [] E (tCons te tn)) σ G P' := fun H1 e hbx Q q =>
  hb H1 (e.trans (hm_ex b H1)) _ fun H2 e2 => h H2 (e.trans (hm_up e2)) (hbx.up e2) _ fun vs H3 e3 b3 hs => by
    obtain ⟨Ps', P'', hR, hs', k⟩ := hr vs _ hs
    exact ⟨b, n + m, vs, Ps', P'', by rw [List.append_nil], hR, b3, hn, hs', fun v H4 e4 b4 hv => q v H4 ((hm_up e2).trans (e3.trans e4)) (by rw [← Nat.add_assoc]; exact b4) (k v _ hv)⟩
theorem eb_Graph {ns : List Str} (hn : NamesOk ns) (h1 : EvP ta σ G (LstV (ns.map V.str))) (h2 : EvB b n m tb σ G (HandP ns)) : EvB b n m (tMake (CG K) (spGraph K) [] E (tCons ta (tCons tb tNil))) σ G (GrQ K ns) := fun H1 e bx Q q =>
  h1 H1 (e.trans (hm_ex b H1)) _ fun v1 H2 e2 hv1 => h2 H2 (e.trans (hm_up e2)) (bx.up e2) _ fun v2 H3 e3 b3 hv2 => by
    obtain ⟨es, he, hz, hv2⟩ := hv2
    have hv1' := (LstV (ns.map V.str)).up (e3.trans (hm_ex b H3)) (nob_box (bx.up e2) hv1)
    refine ep_Graph (K := K) (σ := σ) (E := E) (ta := tC v1) (tb := tC v2) hn he (by omega) (ep_v ev_c hv1') (ep_v ev_c ((LstP _).up (hm_ex b H3) hv2)) H3 (Ex.refl H3) Q fun v H4 e4 hv => ?_
    obtain ⟨es', _, hv⟩ := hv
    exact q v H4 ((hm_up e2).trans (e3.trans (hm_up e4))) (b3.up e4) ⟨es', nob_box (b3.up e4) hv⟩
/-- over names and shares together -/
theorem elp_zipN {f : Str × (Nat × Nat) → Pr} [st : ∀ a, Stab (f a)] {ns : List Str} {rs : List (Nat × Nat)} {j1 j2 j3 : Nat} {vs : List Nat} (ha : EvP ta σ H (LstV (ns.map V.str))) (hb : EvP tb σ H (LstP (rs.map prN2))) (hl : rs.length = ns.length) (hz : ns.length ≤ 40000) (hw : ∀ x y z, wipe ((((wipe σ vs).set j1 (some x)).set j2 (some y)).set j3 (some z)) vs = wipe σ vs)
    (he : ∀ a H1, a ∈ ns.zip rs → Ex H H1 → EvP te ((((wipe σ vs).set j1 (some (.str a.1))).set j2 (some (.int (a.2.1 : Int)))).set j3 (some (.int (a.2.2 : Int)))) H1 (f a)) :
    EvLP (tLc (iZip K (tCons ta (tCons tb tNil))) (gTup K 2 (gCons (gName j1) (gCons (gTup K 2 (gCons (gName j2) (gCons (gName j3) gNil))) gNil))) tYes te vs) σ H ((ns.zip rs).map f) := fun H0 e Q q => ha H0 e _ fun v1 H1 e1 h1 => hb H1 (e.trans e1) _ fun v2 H2 e2 h2 => by
  obtain ⟨a, rfl, h1⟩ := h1
  obtain ⟨b, us, rfl, h2, hus⟩ := h2
  have h1' := e2 _ _ h1
  have hul : us.length = rs.length := by rw [hus.len, List.length_map]
  refine ⟨a, b, _, _, rfl, sq_of h1', sq_of h2, ?_⟩
  have hlen : (ns.zip rs).length = min (ns.map V.str).length us.length := by rw [List.length_zip, List.length_map, hul]
  have := elp_walk (σ := σ) (J := Itz K a b) (g := gTup K 2 (gCons (gName j1) (gCons (gTup K 2 (gCons (gName j2) (gCons (gName j3) gNil))) gNil))) (vs := vs) (tt := tYes) (te := te) (L := ns.zip rs) (f := f) (G := fun H => SqL K H a (ns.map V.str) ∧ SqL K H b us) (Y := YPair (fun i => (ns.map V.str)[i]?) (fun i => us[i]?)) (walk_zip hlen) (fun _ => true) (fun c τ H => τ = (((wipe σ vs).set j1 (some (.str c.1))).set j2 (some (.int (c.2.1 : Int)))).set j3 (some (.int (c.2.2 : Int)))) (by rw [List.length_zip]; omega) H2 (fun H e => ⟨sq_of (e _ _ h1'), sq_of (e _ _ h2)⟩) (?_) (fun _ _ _ _ _ _ => et_yes) (?_) (Ex.refl H2) (Q := Q) (fun p' vs' H3 hp e3 h3 h4 => q p' vs' H3 (fresh_back (e1.trans e2) hp) ((e1.trans e2).trans e3) h3 (by rw [filter_yes] at h4; exact h4))
  · exact this
  · rintro i c x H H' hb' e' ⟨t, y, z, rfl, ht, rfl, hy, hz'⟩
    obtain ⟨c1, c2⟩ := c
    obtain ⟨k1, k2⟩ := List.getElem?_zip_eq_some.mp hb'
    have k1 : ns[i]? = some c1 := k1
    have k2 : rs[i]? = some c2 := k2
    have hy : (ns.map V.str)[i]? = some y := hy
    have hz' : us[i]? = some z := hz'
    rw [List.getElem?_map, k1] at hy
    cases hy
    obtain ⟨c2', hc2, hzp⟩ := allGet (f := prN2) hus hz'
    rw [k2] at hc2
    cases hc2
    obtain ⟨zt, rfl, hzt⟩ := hzp
    refine ⟨_, Ex.new ht, hw _ _ _, rfl, fun Q q => ⟨t, _, rfl, st_of upd_same, rfl, _, _, rfl, _, _, rfl, ⟨zt, _, rfl, st_of ((Ex.new ht) _ _ (e' _ _ hzt)), rfl, _, _, rfl, _, _, rfl, rfl, ?_⟩⟩⟩
    exact ⟨rfl, q⟩
  · rintro c τ H' hc e' rfl _
    exact he c H' hc ((e.trans (e1.trans e2)).trans e')
theorem ep_revLP {α : Type} {f : α → Pr} {L : List α} (h : EvP te σ H (LstP (L.map f))) : EvP (tRevL K te) σ H (LstP (L.reverse.map f)) := fun H1 e Q q => h H1 e _ fun v H2 e2 hv => by
  obtain ⟨a, vs, rfl, h2, ha⟩ := hv
  exact ⟨a, vs, rfl, sq_of h2, fun p hp => q _ _ (e2.trans (Ex.new hp)) ⟨p, _, rfl, upd_same, by rw [List.map_reverse]; exact (allRev ha).up (Ex.new hp)⟩⟩
/-- if not what draws and is true -/
theorem kb_not {tu : TS} {D : Ends} {tz : TS} (h : EvB b n m te σ G (Is (.bl true))) (e : Ex G (Hm b H)) (hb : Box b n H) (k : ∀ H1, Ex (Hm b H) (Hm b H1) → Box b (n + m) H1 → tz D σ H1) : tSeq (tIfS (tNot (tB te)) tu tNext) tz D σ H :=
  h H e hb _ fun v H1 e1 b1 hv => by
    have hv : v = .bl true := hv
    exact ⟨true, hv, k H1 e1 b1⟩
theorem sb_not {tu : TS} {D : Ends} (h : EvB b n m te σ G (Is (.bl true))) (e : Ex G (Hm b H)) (hb : Box b n H) (k : ∀ H1, Ex (Hm b H) (Hm b H1) → Box b (n + m) H1 → D.nx σ H1) : tIfS (tNot (tB te)) tu tNext D σ H :=
  h H e hb _ fun v H1 e1 b1 hv => by
    have hv : v = .bl true := hv
    exact ⟨true, hv, k H1 e1 b1⟩
end
theorem small_ok (a d : Nat) (hd : 0 < d) (h : a ≤ d) (hz : d ≤ 10) : SmallOk (mkRat (a : Int) d) := ⟨mk_nn a d, mk_le a d hd h, Nat.le_trans (den_mk a d hd) hz⟩
theorem SmallOk.sm {t : Rat} (h : SmallOk t) : Sm t := by
  have h1 := num_le h.lo h.hi
  have h2 := h.den
  have h3 : 2 ^ 10 ≤ 2 ^ 4200 := Nat.pow_le_pow_right Nat.two_pos (by omega)
  constructor
  · omega
  · omega
theorem sh_sm {r : Nat × Nat} (h : ShOk r) : Sm (shR r) := by
  have h1 := num_le (mk_nn r.1 r.2) (mk_le r.1 r.2 h.1 h.2.2)
  have h2 : (shR r).den ≤ big30 := Nat.le_trans (den_mk r.1 r.2 h.1) h.2.1
  have h3 : 2 ^ 200 ≤ 2 ^ 4200 := Nat.pow_le_pow_right Nat.two_pos (by omega)
  have h4 := Nat.lt_of_lt_of_le big_lt h3
  exact ⟨Nat.lt_of_le_of_lt h1 (Nat.lt_of_le_of_lt h2 h4), Nat.lt_of_le_of_lt h2 h4⟩
theorem sh85 {r : Nat × Nat} (h : ShOk r) : r.2 < 2 ^ 8500 := Nat.lt_of_le_of_lt h.2.1 (Nat.lt_of_lt_of_le big_lt (Nat.pow_le_pow_right Nat.two_pos (by omega)))
theorem ten85 : 10 < 2 ^ 8500 := Nat.lt_of_lt_of_le (show 10 < 2 ^ 4 by decide) (Nat.pow_le_pow_right Nat.two_pos (by omega))
theorem four85 : 4 < 2 ^ 8500 := Nat.lt_trans (by decide) ten85
end
end Rs
/-! The law. -/
namespace Rs
open PySem PySem.Spec PyProof.Rows L2 Evl
section
variable {P : Program} {w : World} {K : PySem.W.Frag} {mg : Str → Option Value} {base : Heap}
abbrev sc_lawN : List Str := ["_law_script", "_law_k", "_law_box_here", "_law_names_here", "_law_edges", "_law_graph_here", "_law_lap", "_law_shares_here", "_law_small", "_law_pairs", "_law_handed_here", "_law_turn", "_law_name", "_law_above", "_law_below", "_law_share"]
theorem sc_law : FnScope sc_lawN ["_law_script"] (defScope s_law) := ⟨rfl, rfl, rfl, by decide +kernel, rfl, by decide +kernel, by decide +kernel⟩
theorem bd_law : Bnd "law" "law" s_law ["_law_script"] := fun _ _ _ _ _ _ us hl => match us, hl with | [_], _ => rfl
def spLaw (K : PySem.W.Frag) : Sp := fun vs H Q _ => ∃ (a : Addr) (ms : List Int), vs = [.ref a] ∧ SqL K H a (ms.map V.int) ∧ ∀ H', Q (.bl true) H'
theorem law_lap (T : Tx K mg) : True := trivial
theorem ok_law (T : Tx K mg) {fd : FuncData} (F : FnP K "law" "law" s_law [] [] (He.ga K "law") fd) : FnOk P w K mg base CX0 17 (He.ga K "law") fd ["_law_script"] (spLaw K) := by
  refine F.ok sc_law (fun vs H Q E h => by obtain ⟨a, ms, rfl, _⟩ := h; rfl) (fun cdv A outer s H vs Q E hr h => ?_)
  obtain ⟨a, ms, rfl, ha, hQ⟩ := h
  refine ⟨_, PSs.nox (pss_cons (ps_for PassesOwn.never rfl (pi_range1 rfl T.b_range (pa_cons (pe_callB (call_max2 rfl) (by rfl) T.b_max (by decide +kernel) (pa_cons pe_int (pa_cons (pe_callB (call_min2 rfl) (by rfl) T.b_min (by decide +kernel) (pa_cons (pe_callB call_len_seq (by rfl) T.b_len (by decide +kernel) (pa_cons (pv 0) pa_nil)) (pa_cons pe_int pa_nil))) pa_nil))) pa_nil)) (pg_name (i := 1) sc_law.nd rfl (Or.inl rfl))
        (pss_cons (ps_set (i := 2) sc_law.nd rfl (Or.inl rfl) (C8.pe_c (ok__law_box T) hr (by decide) rfl (pa_cons (C8.pe_c (ok__law_cell T) hr (by decide) rfl (pa_cons (pv 0) (pa_cons (pv 1) pa_nil))) pa_nil)))
      (pss_cons (ps_asg (C8.pe_c (ok__law_graph T) hr (by decide) rfl (pa_cons (pv 2) (pa_cons (pe_op op_add pe_int (C8.pe_c (ok__law_take T) hr (by decide) rfl (pa_cons (pv 2) (pa_cons (pe_ix ix_list (pe_lst (pa_cons pe_int (pa_cons pe_int pa_nil))) (pe_callB (call_min2 rfl) (by rfl) T.b_min (by decide +kernel) (pa_cons (pv 1) (pa_cons pe_int pa_nil))) (fun _ _ => rfl)) pa_nil)))) pa_nil))) (pg_tup rfl (pgs_cons (pg_name (i := 3) sc_law.nd rfl (Or.inl rfl)) (pgs_cons (pg_name (i := 4) sc_law.nd rfl (Or.inl rfl)) pgs_nil))))
      (pss_cons (ps_set (i := 5) sc_law.nd rfl (Or.inl rfl) (C8.pe_mk (ok_Graph T) hr (by decide) rfl (pa_cons (pv 3) (pa_cons (C8.pe_c (ok__law_handed T) hr (by decide) rfl (pa_cons (pv 2) (pa_cons (pv 3) (pa_cons (pv 4) pa_nil)))) pa_nil))))
      (pss_one (ps_for PassesOwn.never rfl (pi_range1 rfl T.b_range (pa_cons pe_int pa_nil)) (pg_name (i := 6) sc_law.nd rfl (Or.inl rfl))
        (pss_cons (ps_set (i := 7) sc_law.nd rfl (Or.inl rfl) (C8.pe_c (ok__law_shares T) hr (by decide) rfl (pa_cons (pv 2) (pa_cons (pe_callB call_len_seq (by rfl) T.b_len (by decide +kernel) (pa_cons (pv 3) pa_nil)) pa_nil))))
      (pss_cons (ps_set (i := 8) sc_law.nd rfl (Or.inr rfl) (pe_ix ix_list (pe_lst (pa_cons (C8.pe_mk (ok_Ratio1 T) hr (by decide) rfl (pa_cons pe_int pa_nil)) (pa_cons (C8.pe_mk (ok_Ratio2 T) hr (by decide) rfl (pa_cons pe_int (pa_cons pe_int pa_nil))) (pa_cons (C8.pe_mk (ok_Ratio2 T) hr (by decide) rfl (pa_cons pe_int (pa_cons pe_int pa_nil))) pa_nil)))) (pv 6) (fun _ _ => rfl)))
      (pss_cons (ps_setLc (i := 9) (own := [("_law_name", 12), ("_law_above", 13), ("_law_below", 14)]) (g := gTup K 2 (gCons (gName 12) (gCons (gTup K 2 (gCons (gName 13) (gCons (gName 14) gNil))) gNil))) (tt := tYes) (te := (tTup (tCons _ (tCons (tMake _ _ _ _ (tCons _ (tCons _ tNil))) tNil)))) rfl sc_law.nd rfl rfl (sw_true rfl rfl rfl (by decide +kernel)) (pi_zip (by rfl) T.b_zip (pa_cons (pv 3) (pa_cons (pv 7) pa_nil))) (blkOk_by (N := sc_lawN) (sc := defScope s_law) (by decide +kernel)) (fun _ _ _ _ _ => (pg_tup rfl (pgs_cons (pg_name (i := 12) sc_law.nd rfl (Or.inl rfl)) (pgs_cons (pg_tup rfl (pgs_cons (pg_name (i := 13) sc_law.nd rfl (Or.inl rfl)) (pgs_cons (pg_name (i := 14) sc_law.nd rfl (Or.inl rfl)) pgs_nil))) pgs_nil)))) (fun _ _ _ _ _ => pts_nil) (fun _ _ _ _ _ => (pe_tup (pa_cons (pv 12) (pa_cons (C8.pe_mk (ok_Ratio2 T) hr (by decide) rfl (pa_cons (pv 13) (pa_cons (pv 14) pa_nil))) pa_nil)))))
      (pss_cons (ps_set (i := 10) sc_law.nd rfl (Or.inl rfl) (pe_callTy (call_dictP rfl) (by rfl) T.b_dict (by decide +kernel) (pa_cons (pe_lc (own := [("_law_name", 12), ("_law_share", 15)]) (g := gTup K 2 (gCons (gName 12) (gCons (gName 15) gNil))) (tt := tYes) (te := (tTup (tCons _ (tCons (tMeth _ _ _ _ _ _ (tCons _ tNil)) tNil)))) rfl sc_law.nd (pi_list (pe_revL (pv 9))) (blkOk_by (N := sc_lawN) (sc := defScope s_law) (by decide +kernel)) (fun _ _ _ _ _ => (pg_tup rfl (pgs_cons (pg_name (i := 12) sc_law.nd rfl (Or.inl rfl)) (pgs_cons (pg_name (i := 15) sc_law.nd rfl (Or.inl rfl)) pgs_nil)))) (fun _ _ _ _ _ => pts_nil) (fun _ _ _ _ _ => (pe_tup (pa_cons (pv 12) (pa_cons (C8.pe_mt (ok_Ratio_multiply T) hr (by decide) (pv 15) (pa_cons (pv 8) pa_nil)) pa_nil))))) pa_nil)))
      (pss_one (ps_if (pt_cmpR op_eq (pe_ix ix_tup (C8.pe_c (ok_find_certificate T) hr (by decide) rfl (pa_cons (pv 5) (pa_cons (pv 10) pa_nil))) pe_int (fun _ _ => rfl)) pe_str (nomark _))
        (pss_one (ps_for PassesOwn.never rfl (pi_range1 rfl T.b_range (pa_cons pe_int pa_nil)) (pg_name (i := 11) sc_law.nd rfl (Or.inl rfl))
        (pss_cons (ps_if (pt_not (pt_val (C8.pe_c (ok__law_chain_right T) hr (by decide) rfl (pa_cons (pv 2) (pa_cons (pv 5) (pa_cons (pv 10) (pa_cons (pv 3) pa_nil)))))))
        (pss_one (ps_ret pe_bl)) pss_nil)
      (pss_cons (ps_if (pt_not (pt_val (C8.pe_c (ok__law_smaller_right T) hr (by decide) rfl (pa_cons (pv 2) (pa_cons (pv 5) (pa_cons (pv 10) (pa_cons (pv 3) pa_nil)))))))
        (pss_one (ps_ret pe_bl)) pss_nil)
      (pss_one (ps_if (pt_not (pt_val (C8.pe_c (ok__law_subset_right T) hr (by decide) rfl (pa_cons (pv 2) (pa_cons (pv 5) (pa_cons (pv 10) (pa_cons (pv 3) pa_nil)))))))
        (pss_one (ps_ret pe_bl)) pss_nil)))))) pss_nil))))))))))))
      (pss_one (ps_ret pe_bl))), ?_⟩
  have hscr : ∀ {H1 : Hp}, Ex H H1 → (ScrP K ms).p (.ref a) H1 := fun e => ⟨a, rfl, ex_l e ha⟩
  obtain ⟨nk, hnk, hnk4⟩ : ∃ nk : Nat, (if (if (4 : Int) < (ms.length : Int) then (4 : Int) else (ms.length : Int)) > 2 then (if (4 : Int) < (ms.length : Int) then (4 : Int) else (ms.length : Int)) else (2 : Int)) = (nk : Int) ∧ nk ≤ 4 := by
    refine ⟨(if (if (4 : Int) < (ms.length : Int) then (4 : Int) else (ms.length : Int)) > 2 then (if (4 : Int) < (ms.length : Int) then (4 : Int) else (ms.length : Int)) else (2 : Int)).toNat, ?_, ?_⟩
    · split <;> split <;> omega
    · split <;> split <;> omega
  refine q_forR1 (n := (nk : Int)) (ea_cons (ev_is (ev_cb2 (x := .int 2) (y := .int (if (4 : Int) < (ms.length : Int) then 4 else (ms.length : Int))) ev_c (ev_cb2 (x := .int (ms.length : Int)) (y := .int 4) (ev_lenScr (ep_var rfl (hscr (Ex.refl H)))) ev_c fun _ _ Q q => ⟨_, _, rfl, q⟩) fun _ _ Q q => ⟨_, _, rfl, q⟩) (congrArg V.int hnk)) ea_nil) (by omega) (fun i σ' H' => ∃ u1 u2 u3 u4 u5 u6 u7 u8 u9 u10 u11 u12 u13 u14 u15, σ' = [some (.ref a), u1, u2, u3, u4, u5, u6, u7, u8, u9, u10, u11, u12, u13, u14, u15] ∧ Ex H H')
    (fun H1 e1 => ⟨_, _, _, _, _, _, _, _, _, _, _, _, _, _, _, rfl, e1⟩) ?_ ?_
  · rintro i σ' H1 hi ⟨u1, u2, u3, u4, u5, u6, u7, u8, u9, u10, u11, u12, u13, u14, u15, rfl, e1⟩
    have hi4 : i < 4 := by omega
    -- the box
    refine k_asg ?_
    refine ep_cell (ep_var rfl (hscr e1)) (ev_var rfl) (by omega) H1 (Ex.refl H1) _ fun cv H2 e2 hcv => ?_
    obtain ⟨c, rfl⟩ := hcv
    refine ⟨c, rfl, fun b H3 hb0 e3 b3 => ?_⟩
    have eG3 : Ex H (Hm b H3) := (e1.trans e2).trans (hm_new e3 hb0)
    -- names and edges
    have hidx : ∃ k : Nat, 0 < k ∧ k ≤ 8 ∧ ∀ (σ : L2.St) (H : Hp), σ[1]? = some (some (.int (i : Int))) → Ev (tOp (rIxL K) (tLst (tCons (tC (.int 8)) (tCons (tC (.int 6)) tNil))) (tCB (fun xs H Q => ∃ i j, xs = [V.int i, V.int j] ∧ Q (.int (if j < i then j else i)) H) (tCons (tVar 1) (tCons (tC (.int 1)) tNil)))) σ H (.int (k : Int)) := by
      rcases Nat.eq_zero_or_pos i with h | h
      · subst h
        exact ⟨8, by omega, by omega, fun σ H h1 => ev_ixLit (i := 0) (xs := [.int 8, .int 6]) (el_lst (ea_cons ev_c (ea_cons ev_c ea_nil)) (by simp)) (ev_cb2 (ev_var h1) ev_c fun _ _ Q q => ⟨_, _, rfl, q⟩) rfl⟩
      · have e : (if (1 : Int) < (i : Int) then (1 : Int) else (i : Int)) = ((1 : Nat) : Int) := by split <;> omega
        exact ⟨6, by omega, by omega, fun σ H h1 => ev_ixLit (i := 1) (xs := [.int 8, .int 6]) (el_lst (ea_cons ev_c (ea_cons ev_c ea_nil)) (by simp)) (ev_is (ev_cb2 (ev_var h1) ev_c fun _ _ Q q => ⟨_, _, rfl, q⟩) (congrArg V.int e)) rfl⟩
    obtain ⟨kk, kk0, kk8, hkk⟩ := hidx
    refine k_asg ?_
    refine eb_callB (c := 300) (m := 1 + 0) (P' := ⟨fun v H => ∃ m : Nat, 1 ≤ m ∧ m ≤ 8 ∧ (LGraphP m).p v H, fun e h => by obtain ⟨m, h1, h2, h3⟩ := h; exact ⟨m, h1, h2, (LGraphP m).up e h3⟩⟩) (ev_var rfl) (eab_cons (eb_addN (lo := 1) (k := kk) ev_c (eb_take (k := kk) (ev_var rfl) (hkk _ _ rfl) kk0 (by omega) (by omega))) eab_nil) (fun vs H hvs => ?_) (by omega) H3 (Ex.refl _) b3 _ fun gv H4 e4 b4 hgv => ?_
    · obtain ⟨_, rfl, m, hm1, hm2, rfl⟩ := all1 hvs
      exact ⟨[Is (.int (m : Int))], LGraphP m, ⟨m, hm1, by omega, rfl, rfl⟩, ⟨rfl, trivial⟩, fun v H' hv => ⟨m, hm1, by omega, hv⟩⟩
    obtain ⟨m, hm1, hm8, ns, fs, hns, hnl, hfs, t, ws, rfl, ht, hws⟩ := hgv
    obtain ⟨nv, ev, rfl, hnv, hev⟩ := all2 hws
    refine ⟨t, _, rfl, st_of (hm_ex b H4 _ _ ht), rfl, _, _, rfl, _, _, rfl, rfl, ?_⟩
    have nd := hns.nd
    have hn8 := hns.hi
    -- the graph
    refine kb_asg (G := Hm b H4) (m := 0 + (0 + 0) + 300) (P' := GrQ K ns) (eb_Graph hns (ep_var rfl hnv) (eb_call (P' := HandP ns) (c := 300) (ev_var rfl) (eab_cons (P' := LstV (ns.map V.str)) (eb (ep_var rfl hnv)) (eab_cons (P' := LstP (fs.map prI)) (eb (ep_var rfl hev)) eab_nil)) ⟨ns, fs, hns, by rw [hnl]; exact hfs, rfl, rfl⟩ (by omega))) (Ex.refl _) b4 fun gv H5 e5 b5 hgv => ?_
    obtain ⟨es, hgv⟩ := hgv
    have eG5 : Ex H (Hm b H5) := eG3.trans (e4.trans e5)
    have hnv5 := (LstV (ns.map V.str)).up e5 hnv
    -- the laps
    refine s_forR1 (n := 3) (ea_cons ev_c ea_nil) (by decide) (fun lap σ' H' => ∃ u6 u7 u8 u9 u10 u11 u12 u13 u14 u15, σ' = [some (.ref a), some (.int (i : Int)), some (.ref b), some nv, some ev, some gv, u6, u7, u8, u9, u10, u11, u12, u13, u14, u15] ∧ Ex (Hm b H5) (Hm b H') ∧ Box b (1000 + lap * 100) H')
      (fun H6 e6 => ⟨_, _, _, _, _, _, _, _, _, _, rfl, hm_up e6, (b5.up e6).mono (by omega)⟩) ?_ ?_
    · rintro lap σ' H6 hlap ⟨u6, u7, u8, u9, u10, u11, u12, u13, u14, u15, rfl, e6, b6⟩
      have hlap3 : lap < 3 := by omega
      have hnx : ∀ {H7 : Hp}, Ex (Hm b H6) (Hm b H7) → (LstV (ns.map V.str)).p nv (Hm b H7) := fun e => (LstV _).up (e6.trans e) hnv5
      have hgx : ∀ {H7 : Hp}, Ex (Hm b H6) (Hm b H7) → (GrP K ns es).p gv (Hm b H7) := fun e => (GrP K ns es).up (e6.trans e) hgv
      -- shares
      refine kb_asg (G := Hm b H6) (m := 0 + 0 + 50) (P' := SharesP ns.length) (eb_call (c := 50) (ev_var rfl) (eab_cons (P' := Is (.int (ns.length : Int))) (eb (ep (ev_is (ev_lenLV (ep_var rfl (hnx (Ex.refl _)))) (by rw [List.length_map])))) eab_nil) ⟨ns.length, hns.lo, hn8, rfl, rfl⟩ (by omega)) (Ex.refl _) b6 fun sv H7 e7 b7 hsv => ?_
      obtain ⟨rs, hrl, hrs, hsv⟩ := hsv
      -- small
      refine q_asgP (P := SmallP K) (ep_ixL (Ps := [SmallP K, SmallP K, SmallP K]) (k := lap) (elp_lst (eap_cons (ep_to (P' := SmallP K) (ep_Ratio1 (n := 1) ev_c) fun v H8 _ hv => ⟨1, by have := small_ok 1 1 (by decide) (by decide) (by decide); exact this, hv⟩) (eap_cons (ep_to (P' := SmallP K) (ep_Ratio2 (n := 1) (d := 4) ev_c ev_c (by decide) four85) fun v H8 _ hv => ⟨_, small_ok 1 4 (by decide) (by decide) (by decide), hv⟩) (eap_cons (ep_to (P' := SmallP K) (ep_Ratio2 (n := 1) (d := 10) ev_c ev_c (by decide) ten85) fun v H8 _ hv => ⟨_, small_ok 1 10 (by decide) (by decide) (by decide), hv⟩) eap_nil))) (by simp)).lst (ev_var rfl) ?_ (at_k lap)) fun mv H8 e8 hmv => ?_
      · have : lap = 0 ∨ lap = 1 ∨ lap = 2 := by omega
        rcases this with rfl | rfl | rfl <;> rfl
      obtain ⟨t, htk, hmv⟩ := hmv
      have b8 := b7.up e8
      have e68 : Ex (Hm b H6) (Hm b H8) := e7.trans (hm_up e8)
      -- pairs
      have hzl : (ns.zip rs).length = ns.length := by rw [List.length_zip, hrl, Nat.min_self]
      refine q_asgP (P := LstP ((ns.zip rs).map (pairP K fun z => shR z.2))) (elp_zipN (f := pairP K fun z => shR z.2) (ep_var rfl ((LstV _).up (hm_ex b H8) (hnx e68))) (ep_var rfl ((LstP _).up ((hm_up e8).trans (hm_ex b H8)) hsv)) hrl (by omega) (fun _ _ _ => rfl) fun z H9 hz e9 => ?_).lst fun pv H9 e9 hpv => ?_
      · have hz2 : ShOk z.2 := hrs z.2 (List.of_mem_zip hz).2
        exact ep_tup (eap_cons (ep (ev_var rfl)) (eap_cons (ep_Ratio2 (n := (z.2.1 : Int)) (d := z.2.2) (ev_var rfl) (ev_var rfl) hz2.1 (sh85 hz2)) eap_nil)) (by simp)
      -- handed
      have hfst : ((ns.zip rs).reverse.map Prod.fst) = ns.reverse := by rw [List.map_reverse, List.map_fst_zip (by omega)]
      obtain ⟨okp, hden⟩ := prL_ok (t := t) hrl hrs htk
      have hdic : EvP (tCB (rDictP K) (tCons (tLc (iList K (tRevL K (tVar 9))) (gTup K 2 (gCons (gName 12) (gCons (gName 15) gNil))) tYes (tTup (tCons (tVar 12) (tCons (tMeth (CR K) "multiply" (Fn (R_two K (· * ·))) [] E0 (tVar 15) (tCons (tVar 8) tNil)) tNil))) [12, 15]) tNil)) [some (.ref a), some (.int (i : Int)), some (.ref b), some nv, some ev, some gv, some (.int (lap : Int)), some sv, some mv, some pv, u10, u11, u12, u13, u14, u15] H9 (DicP ((ns.zip rs).reverse.map Prod.fst) fun s => RatP K (prL ns rs t s)) := by
        refine ep_dictP (Z := (ns.zip rs).reverse) (kf := Prod.fst) (f := fun s => RatP K (prL ns rs t s)) ?_ (by rw [hfst]; exact ((List.reverse_perm ns).nodup_iff).mpr nd)
        have h := elp_lcL2 (K := K) (σ := [some (.ref a), some (.int (i : Int)), some (.ref b), some nv, some ev, some gv, some (.int (lap : Int)), some sv, some mv, some pv, u10, u11, u12, u13, u14, u15]) (H := H9) (L := (ns.zip rs).reverse) (f := fun z => TupP [Is (.str z.1), RatP K (prL ns rs t z.1)]) (tt := tYes) (te := tTup (tCons (tVar 12) (tCons (tMeth (CR K) "multiply" (Fn (R_two K (· * ·))) [] E0 (tVar 15) (tCons (tVar 8) tNil)) tNil))) (j1 := 12) (j2 := 15) (vs := [12, 15]) (tl := tRevL K (tVar 9)) (fun _ => true) (fun z => Is (.str z.1)) (fun z => RatP K (shR z.2)) (ep_revLP (f := pairP K fun z => shR z.2) (ep_var rfl hpv)) (by rw [List.length_reverse, hzl]; omega) (fun _ _ => rfl) (fun _ _ _ _ _ _ _ _ => et_yes) (fun z u v H10 hz e10 hu hv _ => by
          have hu : u = .str z.1 := hu
          subst hu
          have hzm := List.mem_reverse.mp hz
          have hz2 : ShOk z.2 := hrs z.2 (List.of_mem_zip hzm).2
          rw [prL_zip nd hzm]
          exact ep_tup (eap_cons (ep (ev_var rfl)) (eap_cons (ep_mul (ep_var rfl hv) (ep_var rfl ((RatP K t).up (e9.trans e10) hmv)) (sh_sm hz2) htk.sm) eap_nil)) (by simp))
        rw [filter_yes] at h
        exact h
      rw [hfst] at hdic
      refine q_asgP (P := PbP K ns (prL ns rs t)) (ep_to hdic fun v H10 _ hv => ⟨okp, ns.reverse, List.reverse_perm ns, hv⟩) fun dv H10 e10 hdv => ?_
      have b10 := b8.up (e9.trans e10)
      have e6t : Ex (Hm b H6) (Hm b H10) := e68.trans (hm_up (e9.trans e10))
      have hgr : ∀ {H11 : Hp}, Ex H10 H11 → (GrP K ns es).p gv H11 := fun e => (GrP K ns es).up ((hm_ex b H10).trans e) (hgx e6t)
      -- the certificate
      refine k_when (k_test (k_op ?_))
      refine k_op ?_
      refine ep_find (ep_var rfl (hgr (Ex.refl _))) (ep_var rfl hdv) H10 (Ex.refl H10) _ fun cv H11 e11 hcv => ?_
      obtain ⟨bv, hbv, hcv⟩ := hcv
      obtain ⟨ord, kn, hc, ct, cws, rfl, hct, hcws⟩ := hcv
      obtain ⟨_, ov, rv, rfl, rfl, _, _⟩ := all3 hcws
      refine ⟨ct, _, (0 : Int), .str (verd bv), rfl, rfl, st_of hct, rfl, rfl, _, rfl, ?_⟩
      have e1012 := e11
      have b12 := b10.up e1012
      have e612 : Ex (Hm b H6) (Hm b H11) := e6t.trans (hm_up e1012)
      cases bv with
      | false =>
        have hne : decide (V.str (verd false) = V.str "positive") = false := by decide +kernel
        rw [if_neg (by rw [hne]; exact Bool.false_ne_true)]
        exact ⟨_, _, _, _, _, _, _, _, _, _, rfl, e6.trans e612, b12.mono (by omega)⟩
      | true =>
        have hpos : Pos (adjB es) (prL ns rs t) ns := hbv.mp rfl
        have heq : decide (V.str (verd true) = V.str "positive") = true := by decide +kernel
        rw [if_pos heq]
        have hdv12 : (PbP K ns (prL ns rs t)).p dv (Hm b H11) := (PbP K ns _).up (hm_up e1012) (nob_box b10 hdv)
        refine s_forR1 (n := 2) (ea_cons ev_c ea_nil) (by decide) (fun turn σ' H' => ∃ u11, σ' = [some (.ref a), some (.int (i : Int)), some (.ref b), some nv, some ev, some gv, some (.int (lap : Int)), some sv, some mv, some pv, some dv, u11, u12, u13, u14, u15] ∧ Ex (Hm b H11) (Hm b H') ∧ Box b (1000 + lap * 100 + 50 + turn * 25) H')
          (fun H13 e13 => ⟨_, rfl, hm_up e13, (b12.up e13).mono (by omega)⟩) ?_ ?_
        · rintro turn σ' H13 hturn ⟨u11, rfl, e13, b13⟩
          have ht2 : turn < 2 := by omega
          have hargs : ∀ {H14 : Hp}, Ex (Hm b H13) (Hm b H14) → (GrP K ns es).p gv (Hm b H14) ∧ (PbP K ns (prL ns rs t)).p dv (Hm b H14) ∧ (LstV (ns.map V.str)).p nv (Hm b H14) := fun e => ⟨hgx (e612.trans (e13.trans e)), (PbP K ns _).up (e13.trans e) hdv12, hnx (e612.trans (e13.trans e))⟩
          have hcall : ∀ {c : Nat} {R : List Pr → Pr → Prop} {H14 : Hp} {n' : Nat}, R [GrP K ns es, PbP K ns (prL ns rs t), LstV (ns.map V.str)] (Is (.bl true)) → Ex (Hm b H13) (Hm b H14) → n' + c ≤ 1000000 → EvB b n' c (tCall (FnB c R) [] E0 (tCons (tVar 2) (tCons (tVar 5) (tCons (tVar 10) (tCons (tVar 3) tNil))))) [some (.ref a), some (.int (i : Int)), some (.ref b), some nv, some ev, some gv, some (.int (lap : Int)), some sv, some mv, some pv, some dv, some (.int (turn : Int)), u12, u13, u14, u15] (Hm b H14) (Is (.bl true)) := fun {c R H14 n'} hR e hn' =>
            (eb_call (m := 0 + (0 + (0 + 0))) (ev_var rfl) (eab_cons (eb (ep_var rfl (hargs e).1)) (eab_cons (eb (ep_var rfl (hargs e).2.1)) (eab_cons (P' := LstV (ns.map V.str)) (eb (ep_var rfl (hargs e).2.2)) eab_nil))) hR (by omega)).mono (by omega)
          refine kb_not (hcall (c := 10) (R := R_chain K) ⟨ns, es, _, hpos, rfl, rfl⟩ (Ex.refl _) (n' := 1000 + lap * 100 + 50 + turn * 25) (by omega)) (Ex.refl _) b13 fun H14 e14 b14 => ?_
          refine kb_not (hcall (c := 5) (R := R_smaller K) ⟨ns, es, _, hpos, hden, rfl, rfl⟩ e14 (n' := 1000 + lap * 100 + 50 + turn * 25 + 10) (by omega)) (Ex.refl _) b14 fun H15 e15 b15 => ?_
          exact sb_not (hcall (c := 10) (R := R_subset K) ⟨ns, es, _, hpos, rfl, rfl⟩ (e14.trans e15) (n' := 1000 + lap * 100 + 50 + turn * 25 + 10 + 5) (by omega)) (Ex.refl _) b15 fun H16 e16 b16 => ⟨_, rfl, e13.trans (e14.trans (e15.trans e16)), b16.mono (by omega)⟩
        · rintro σ' H13 ⟨u11, rfl, e13, b13⟩
          have h2 : (2 : Int).toNat = 2 := rfl
          rw [h2] at b13
          exact ⟨_, _, _, _, _, _, _, _, _, _, rfl, e6.trans (e612.trans e13), b13.mono (by omega)⟩
    · rintro σ' H6 ⟨u6, u7, u8, u9, u10, u11, u12, u13, u14, u15, rfl, e6, b6⟩
      exact ⟨_, _, _, _, _, _, _, _, _, _, _, _, _, _, _, rfl, eG5.trans (e6.trans (hm_ex b H6))⟩
  · rintro σ' H1 ⟨u1, u2, u3, u4, u5, u6, u7, u8, u9, u10, u11, u12, u13, u14, u15, rfl, e1⟩
    exact s_ret ev_c fun H2 _ => hQ H2
end
end Rs
namespace Rs
open PySem L2
theorem run (w : World) : HandSHeadRun.RunEq R (PySem.W.view R.prog [65]) hk ob 8000 loose w := by
  intro os
  kernel_rfl
end Rs
namespace Rs
open PySem PySem.Spec PyProof.Rows L2
theorem facts {P : Program} {w : World} {K : PySem.W.Frag} {h : Heap} {mg : Str → Option Value} {f : Addr} (X : K.In h) (G : h.Ns mainGlobals mg) (hfa : mg ("law" : Str) = some (.ref f)) (c : He.SaysD fa fn K) (ex : exB K = true) :
    ∃ fd : FuncData, (∀ (s : Shared) (v : Value), BindsTo s fd ⟨[v], []⟩ [("_law_script", v)]) ∧ ∀ base : Heap, K.In base → base.Ns mainGlobals mg → FnOk P w K mg base CX0 17 f fd ["_law_script"] (spLaw K) := by
  have T : Tx K mg := ⟨⟨h, X, G⟩, c, ex⟩
  obtain ⟨fd, F⟩ := T.f_law
  have e := hfa.symm.trans T.g_law
  cases e
  have b := FunD.bindsA (ps := ["_law_script"]) F fun _ _ _ _ _ _ us hl => match us, hl with | [_], _ => rfl
  exact ⟨fd, fun s v => b s [v] rfl, fun base _ _ => ok_law T F⟩
end Rs
open PySem PySem.W PySem.Calls PyProof.Rows
theorem PySem.Challenge.cw_resampler_k95_whole_fewer_names_larger_v_holds : PySem.Challenge.rw_resampler_k95_whole_fewer_names_larger_v.Holds := by
  w_on; o_law
  refine HandSHeadRun.head_any (r := OpenLaw.row PySem.Challenge.rw_resampler_k95_whole_fewer_names_larger_v) (q := view (OpenLaw.row PySem.Challenge.rw_resampler_k95_whole_fewer_names_larger_v).prog [65]) (H := Rs.hk) (ob := Rs.ob) (M := 8000) (loose := Rs.loose) (d := HandSHeadRun.topDef (OpenLaw.row PySem.Challenge.rw_resampler_k95_whole_fewer_names_larger_v).prog 65) (kwd := []) Rs.ob_eq
    (by kernel_rfl) (fun s => by kernel_rfl) Rs.run (by kernel_rfl) (by kernel_rfl) (by kernel_rfl) (by rfl) (by first | assumption | decide +kernel) (by decide +kernel) ⟨rfl, rfl, rfl, rfl, rfl, by decide +kernel⟩ ?hw ?hc
  case hw => w_witness2
  case hc =>
    refine L2.walk_ofE (l := PySem.Challenge.rw_resampler_k95_whole_fewer_names_larger_v) (n := 63) (k := 17) (x := "_law_script") (CX := L2.CX0) rfl (by decide) (by kernel_rfl) ⟨rfl, by decide, by decide⟩ ?F (fun _ _ _ _ z => z)
    intro w mg fa h Y G hmg0
    obtain ⟨K, KX, c⟩ := Y
    have hmg : mg ("law" : PySem.Str) = some (.ref fa) := by
      have e : (HandSHeadRun.topDef (OpenLaw.row PySem.Challenge.rw_resampler_k95_whole_fewer_names_larger_v).prog 65).name = ("law" : PySem.Str) := by kernel_rfl
      rw [← e]
      exact hmg0
    obtain ⟨fd, hb, hF⟩ := Rs.facts (P := (PySem.Challenge.rw_resampler_k95_whole_fewer_names_larger_v).prog) (w := w) KX G hmg (He.SaysT.d c.t) c.more
    exact ⟨K, fd, Rs.spLaw K, KX, hb, fun H a ns hl _ hS => ⟨a, ns, rfl, hS, fun _ => rfl⟩, hF⟩
