import PyProof.Rows.All
import Wide.All
import OpenK.AllK
import Wide.FinOn
import KE.KStateDown
import HandS.Base
import HandS.Call
import HandS.Ends
import HandS.More
import HandS.Words
import HandS.WordsExc
import HandS.Defaults
import HandS.Head0
import HandS.Head1
import HandS.Head2
import HandS.Head3
import HandS.HeadEnd
import HandS.HeadHook1
import HandS.HeadHook2
import PySem.Challenge.RW_gridmetric_k24_whole_maps_by_witness
import HandS.ForMost
import HandS.IsInst
import HandS.TupAny
import HandS.TupMul
import HandS.TupLe
import HandS.Deep
import HandS.Conv
import HandS.Style
import HandS.CallRecv
import HandS.Zip
import KE.SortData
import KE.KDictKeyed
import KE.KMathG
import KE.GoesNew
import PyProof.InstEq
import HandS.OwnEq
import KE.DatumOrd
import HandS.Gcd
import HandS.Iter
import KE.KeyNested
import KE.KDictSum
import HandS.Dict
import Flt.RightSqrt
set_option Elab.async false
set_option linter.all false
set_option maxRecDepth 100000
set_option maxHeartbeats 4000000
namespace K24
open PySem PySem.Spec PyProof.Rows L2
def top (i : Nat) : Stmt := PySem.Challenge.pw_gridmetric_k24_whole_maps_by_witness.main.body.getD i (.Pass ⟨0, 0, 0, 0⟩)
abbrev s_times_row : Stmt := top 3
abbrev s_less : Stmt := top 4
abbrev s_least_place : Stmt := top 6
abbrev s_turned : Stmt := top 7
abbrev s_swap : Stmt := top 8
abbrev s_swap_items : Stmt := top 9
abbrev s_clear_column : Stmt := top 10
abbrev s_is_clear : Stmt := top 11
abbrev s_unfit : Stmt := top 12
abbrev s_smith_rows : Stmt := top 13
abbrev s_is_integer : Stmt := top 19
abbrev s_root_floor : Stmt := top 20
abbrev s_upper : Stmt := top 21
abbrev s_lower : Stmt := top 22
abbrev s_dot : Stmt := top 23
abbrev s_checked : Stmt := top 25
abbrev s_unit_rows : Stmt := top 26
abbrev s_determinant : Stmt := top 27
abbrev s_minor : Stmt := top 28
abbrev s_square_rows : Stmt := top 34
abbrev s_check_symmetric : Stmt := top 35
abbrev s_tail_matrix : Stmt := top 38
abbrev s_is_point : Stmt := top 39
abbrev s_head_determinants : Stmt := top 40
abbrev s_choices : Stmt := top 41
abbrev s_near_vectors : Stmt := top 42
abbrev s_short_vectors : Stmt := top 43
abbrev s_mark_of : Stmt := top 45
abbrev s_is_primitive : Stmt := top 46
abbrev s_least_continued : Stmt := top 47
abbrev s_levels : Stmt := top 48
abbrev s_least_bases : Stmt := top 49
abbrev s_gram_of_marks : Stmt := top 50
abbrev s_form : Stmt := top 51
abbrev s_all_maps : Stmt := top 53
abbrev s_alike : Stmt := top 54
abbrev s_order : Stmt := top 55
abbrev s_law_state : Stmt := top 57
abbrev s_law_take : Stmt := top 58
abbrev s_law_gram : Stmt := top 59
abbrev s_law_unimodular : Stmt := top 60
abbrev s_law_product : Stmt := top 61
abbrev s_law_moved : Stmt := top 62
abbrev s_law_basis : Stmt := top 63
abbrev s_law_unlike_pair : Stmt := top 64
abbrev s_law : Stmt := top 65
abbrev sG_init : Stmt := inClass (top 29) 0
abbrev sG_len : Stmt := inClass (top 29) 1
abbrev sG_eq : Stmt := inClass (top 29) 3
abbrev sG_sub : Stmt := inClass (top 29) 5
abbrev sG_mul : Stmt := inClass (top 29) 6
abbrev sG_scaled : Stmt := inClass (top 29) 8
abbrev sG_transposed : Stmt := inClass (top 29) 9
abbrev sG_times : Stmt := inClass (top 29) 10
abbrev sG_is_square : Stmt := inClass (top 29) 13
abbrev sG_determinant : Stmt := inClass (top 29) 14
abbrev sG_adjugate : Stmt := inClass (top 29) 15
abbrev sG_is_unimodular : Stmt := inClass (top 29) 16
abbrev sG_inverse : Stmt := inClass (top 29) 17
abbrev sG_smith : Stmt := inClass (top 29) 20
abbrev sG_factors : Stmt := inClass (top 29) 21
abbrev sG_is_primitive : Stmt := inClass (top 29) 22
abbrev sL_init : Stmt := inClass (top 36) 0
abbrev sL_eq : Stmt := inClass (top 36) 1
abbrev sL_contains : Stmt := inClass (top 36) 3
abbrev sL_rank : Stmt := inClass (top 36) 5
abbrev sL_product : Stmt := inClass (top 36) 9
abbrev sL_norm : Stmt := inClass (top 36) 10
def mkD (at_ : Str × Option Str) (name qual : Str) (st : Stmt) (dfl : List He.Dv) : He.DefD := ⟨at_, name, qual, defArgs st, defBody st, defScope st, dfl, []⟩
def d_times_row : He.DefD := mkD ("_times_row", none) "_times_row" "_times_row" s_times_row []
def d_less : He.DefD := mkD ("_less", none) "_less" "_less" s_less []
def d_least_place : He.DefD := mkD ("_least_place", none) "_least_place" "_least_place" s_least_place []
def d_turned : He.DefD := mkD ("_turned", none) "_turned" "_turned" s_turned []
def d_swap : He.DefD := mkD ("_swap", none) "_swap" "_swap" s_swap []
def d_swap_items : He.DefD := mkD ("_swap_items", none) "_swap_items" "_swap_items" s_swap_items []
def d_clear_column : He.DefD := mkD ("_clear_column", none) "_clear_column" "_clear_column" s_clear_column []
def d_is_clear : He.DefD := mkD ("_is_clear", none) "_is_clear" "_is_clear" s_is_clear []
def d_unfit : He.DefD := mkD ("_unfit", none) "_unfit" "_unfit" s_unfit []
def d_smith_rows : He.DefD := mkD ("smith_rows", none) "smith_rows" "smith_rows" s_smith_rows []
def d_is_integer : He.DefD := mkD ("is_integer", none) "is_integer" "is_integer" s_is_integer []
def d_root_floor : He.DefD := mkD ("root_floor", none) "root_floor" "root_floor" s_root_floor []
def d_upper : He.DefD := mkD ("upper", none) "upper" "upper" s_upper []
def d_lower : He.DefD := mkD ("lower", none) "lower" "lower" s_lower []
def d_dot : He.DefD := mkD ("dot", none) "dot" "dot" s_dot []
def d_checked : He.DefD := mkD ("_checked", none) "_checked" "_checked" s_checked []
def d_unit_rows : He.DefD := mkD ("_unit_rows", none) "_unit_rows" "_unit_rows" s_unit_rows []
def d_determinant : He.DefD := mkD ("_determinant", none) "_determinant" "_determinant" s_determinant []
def d_minor : He.DefD := mkD ("_minor", none) "_minor" "_minor" s_minor []
def d_square_rows : He.DefD := mkD ("square_rows", none) "square_rows" "square_rows" s_square_rows []
def d_check_symmetric : He.DefD := mkD ("check_symmetric", none) "check_symmetric" "check_symmetric" s_check_symmetric []
def d_tail_matrix : He.DefD := mkD ("tail_matrix", none) "tail_matrix" "tail_matrix" s_tail_matrix []
def d_is_point : He.DefD := mkD ("is_point", none) "is_point" "is_point" s_is_point []
def d_head_determinants : He.DefD := mkD ("head_determinants", none) "head_determinants" "head_determinants" s_head_determinants []
def d_choices : He.DefD := mkD ("choices", none) "choices" "choices" s_choices []
def d_near_vectors : He.DefD := mkD ("near_vectors", none) "near_vectors" "near_vectors" s_near_vectors []
def d_short_vectors : He.DefD := mkD ("short_vectors", none) "short_vectors" "short_vectors" s_short_vectors []
def d_mark_of : He.DefD := mkD ("mark_of", none) "mark_of" "mark_of" s_mark_of []
def d_is_primitive : He.DefD := mkD ("is_primitive", none) "is_primitive" "is_primitive" s_is_primitive []
def d_least_continued : He.DefD := mkD ("least_continued", none) "least_continued" "least_continued" s_least_continued []
def d_levels : He.DefD := mkD ("levels", none) "levels" "levels" s_levels []
def d_least_bases : He.DefD := mkD ("least_bases", none) "least_bases" "least_bases" s_least_bases []
def d_gram_of_marks : He.DefD := mkD ("gram_of_marks", none) "gram_of_marks" "gram_of_marks" s_gram_of_marks []
def d_form : He.DefD := mkD ("form", none) "form" "form" s_form []
def d_all_maps : He.DefD := mkD ("all_maps", none) "all_maps" "all_maps" s_all_maps []
def d_alike : He.DefD := mkD ("alike", none) "alike" "alike" s_alike []
def d_order : He.DefD := mkD ("order", none) "order" "order" s_order []
def d_law_state : He.DefD := mkD ("_law_state", none) "_law_state" "_law_state" s_law_state []
def d_law_take : He.DefD := mkD ("_law_take", none) "_law_take" "_law_take" s_law_take []
def d_law_gram : He.DefD := mkD ("_law_gram", none) "_law_gram" "_law_gram" s_law_gram []
def d_law_unimodular : He.DefD := mkD ("_law_unimodular", none) "_law_unimodular" "_law_unimodular" s_law_unimodular []
def d_law_product : He.DefD := mkD ("_law_product", none) "_law_product" "_law_product" s_law_product []
def d_law_moved : He.DefD := mkD ("_law_moved", none) "_law_moved" "_law_moved" s_law_moved []
def d_law_basis : He.DefD := mkD ("_law_basis", none) "_law_basis" "_law_basis" s_law_basis []
def d_law_unlike_pair : He.DefD := mkD ("_law_unlike_pair", none) "_law_unlike_pair" "_law_unlike_pair" s_law_unlike_pair []
def d_law : He.DefD := mkD ("law", none) "law" "law" s_law []
def dG_init : He.DefD := mkD ("Grid", some "__init__") "__init__" "Grid.__init__" sG_init [.non]
def dG_len : He.DefD := mkD ("Grid", some "__len__") "__len__" "Grid.__len__" sG_len []
def dG_eq : He.DefD := mkD ("Grid", some "__eq__") "__eq__" "Grid.__eq__" sG_eq []
def dG_sub : He.DefD := mkD ("Grid", some "__sub__") "__sub__" "Grid.__sub__" sG_sub []
def dG_mul : He.DefD := mkD ("Grid", some "__mul__") "__mul__" "Grid.__mul__" sG_mul []
def dG_scaled : He.DefD := mkD ("Grid", some "scaled") "scaled" "Grid.scaled" sG_scaled []
def dG_transposed : He.DefD := mkD ("Grid", some "transposed") "transposed" "Grid.transposed" sG_transposed []
def dG_times : He.DefD := mkD ("Grid", some "times") "times" "Grid.times" sG_times []
def dG_is_square : He.DefD := mkD ("Grid", some "is_square") "is_square" "Grid.is_square" sG_is_square []
def dG_determinant : He.DefD := mkD ("Grid", some "determinant") "determinant" "Grid.determinant" sG_determinant []
def dG_adjugate : He.DefD := mkD ("Grid", some "adjugate") "adjugate" "Grid.adjugate" sG_adjugate []
def dG_is_unimodular : He.DefD := mkD ("Grid", some "is_unimodular") "is_unimodular" "Grid.is_unimodular" sG_is_unimodular []
def dG_inverse : He.DefD := mkD ("Grid", some "inverse") "inverse" "Grid.inverse" sG_inverse []
def dG_smith : He.DefD := mkD ("Grid", some "smith") "smith" "Grid.smith" sG_smith []
def dG_factors : He.DefD := mkD ("Grid", some "factors") "factors" "Grid.factors" sG_factors []
def dG_is_primitive : He.DefD := mkD ("Grid", some "is_primitive") "is_primitive" "Grid.is_primitive" sG_is_primitive []
def dL_init : He.DefD := mkD ("Lattice", some "__init__") "__init__" "Lattice.__init__" sL_init []
def dL_eq : He.DefD := mkD ("Lattice", some "__eq__") "__eq__" "Lattice.__eq__" sL_eq []
def dL_contains : He.DefD := mkD ("Lattice", some "__contains__") "__contains__" "Lattice.__contains__" sL_contains []
def dL_rank : He.DefD := mkD ("Lattice", some "rank") "rank" "Lattice.rank" sL_rank []
def dL_product : He.DefD := mkD ("Lattice", some "product") "product" "Lattice.product" sL_product []
def dL_norm : He.DefD := mkD ("Lattice", some "norm") "norm" "Lattice.norm" sL_norm []
def fnA : List He.DefD := [d_times_row, d_less, d_least_place, d_turned, d_swap, d_swap_items, d_clear_column, d_is_clear, d_unfit, d_smith_rows, d_is_integer, d_root_floor, d_upper, d_lower, d_dot, d_checked, d_unit_rows, d_determinant, d_minor, d_square_rows, d_check_symmetric, d_tail_matrix, d_is_point, d_head_determinants, d_choices, d_near_vectors, d_short_vectors, d_mark_of, d_is_primitive, d_least_continued, d_levels, d_least_bases, d_gram_of_marks, d_form, d_all_maps]
def fnB : List He.DefD := [d_alike, d_order, d_law_state, d_law_take, d_law_gram, d_law_unimodular, d_law_product, d_law_moved, d_law_basis, d_law_unlike_pair, d_law, dG_init, dG_len, dG_eq, dG_sub, dG_mul, dG_scaled, dG_transposed, dG_times, dG_is_square, dG_determinant, dG_adjugate, dG_is_unimodular, dG_inverse, dG_smith, dG_factors, dG_is_primitive, dL_init, dL_eq, dL_contains, dL_rank, dL_product, dL_norm]
def fn : List He.DefD := fnA ++ fnB
def faA : List He.Fa := [.glo "_times_row", .glo "_less", .glo "_least_place", .glo "_turned", .glo "_swap", .glo "_swap_items", .glo "_clear_column", .glo "_is_clear", .glo "_unfit", .glo "smith_rows", .glo "is_integer", .glo "root_floor", .glo "upper", .glo "lower", .glo "dot", .glo "_checked", .glo "_unit_rows", .glo "_determinant", .glo "_minor", .glo "square_rows", .glo "check_symmetric", .glo "tail_matrix", .glo "is_point", .glo "head_determinants", .glo "choices", .glo "near_vectors", .glo "short_vectors", .glo "mark_of", .glo "is_primitive", .glo "least_continued"]
def faB : List He.Fa := [.glo "levels", .glo "least_bases", .glo "gram_of_marks", .glo "form", .glo "all_maps", .glo "alike", .glo "order", .glo "_law_state", .glo "_law_take", .glo "_law_gram", .glo "_law_unimodular", .glo "_law_product", .glo "_law_moved", .glo "_law_basis", .glo "_law_unlike_pair", .glo "law", .glo "Grid", .glo "Lattice"]
def faC : List He.Fa := [.free "len", .free "range", .free "zip", .free "list", .free "tuple", .free "sum", .free "abs", .free "min", .free "isinstance", .free "int", .free "bool", .free "sorted", .free "enumerate", .free "all", .cls "Grid", .cls "Lattice", .noat "Grid" "rows", .noat "Grid" "width", .noat "Lattice" "gram", .mkr "Grid", .mkr "Lattice", .int "MOST_RANK" 4, .int "MOST_ITEM" 10000]
def faD : List He.Fa := [.meth "Grid" "__init__", .meth "Grid" "__len__", .meth "Grid" "__eq__", .meth "Grid" "__sub__", .meth "Grid" "__mul__", .meth "Grid" "scaled", .meth "Grid" "transposed", .meth "Grid" "times", .meth "Grid" "is_square", .meth "Grid" "determinant", .meth "Grid" "adjugate", .meth "Grid" "is_unimodular", .meth "Grid" "inverse", .meth "Grid" "smith", .meth "Grid" "factors", .meth "Grid" "is_primitive", .meth "Lattice" "__init__", .meth "Lattice" "__eq__", .meth "Lattice" "__contains__", .meth "Lattice" "rank", .meth "Lattice" "product", .meth "Lattice" "norm"]
def fa : List He.Fa := faA ++ (faB ++ (faC ++ faD))
def looseA : List Str := ["_wall", "_times_row", "_less", "hermite_rows", "_least_place", "_turned", "_swap", "_swap_items", "_clear_column", "_is_clear", "_unfit", "smith_rows", "Fault", "Malformed", "Refused", "is_integer", "root_floor", "upper", "lower", "dot", "_checked", "_unit_rows", "_determinant", "_minor", "Grid", "blocks", "MOST_RANK", "MOST_ITEM"]
def looseB : List Str := ["square_rows", "check_symmetric", "Lattice", "tail_matrix", "is_point", "head_determinants", "choices", "near_vectors", "short_vectors", "mark_of", "is_primitive", "least_continued", "levels", "least_bases", "gram_of_marks", "form", "all_maps", "alike", "order", "_law_state", "_law_take", "_law_gram", "_law_unimodular", "_law_product", "_law_moved", "_law_basis", "_law_unlike_pair"]
def loose : List Str := looseA ++ looseB
def exC (K : PySem.W.Frag) (C : Addr) : Bool := He.eqO (PySem.W.findIn K (.ref C) "__class__") (some (some (.builtin "object.__class__"))) && decide (PySem.W.mroIn K C (.type "object") = some true)
def exF (K : PySem.W.Frag) : Bool := PySem.W.selfFirst K (He.ga K "Grid") && (He.eqO (PySem.W.findIn K (.ref (He.ga K "Lattice")) "__ne__") (some (some (.builtin "object.__ne__"))) && (decide (PySem.W.subIn K (.ref (He.ga K "Lattice")) (.type "object") = some true) &&
  (exC K (He.ga K "Grid") && (exC K (He.ga K "Lattice") && (He.eqO (PySem.W.specialIn K (.builtin "object.__class__") "__get__") (some (some (.builtin "getset_descriptor.__get__"))) && (decide (PySem.W.takesIn K (.builtin "object.__class__") = some true) &&
  decide (PySem.W.kitOne K (.type "list") (.ref (He.ga K "Grid")) = some false)))))))
def exQ (K : PySem.W.Frag) : Bool := He.eqO (PySem.W.nsIn K mainGlobals "isqrt") (some (some (.builtin "math.isqrt"))) && exF K
end K24
set_option Elab.async false
set_option linter.all false
set_option maxRecDepth 100000
set_option maxHeartbeats 0
namespace K24
open PySem PySem.Spec PyProof.Rows L2
abbrev AlE : Type := He.AlD × Bool
def obsE (n : Nat) (g : Addr → Option Obj) : AlE := (He.obsDG n fa fn g, exQ (He.frG g (He.asD g n)))
def hookE (n : Nat) : PySem.W.Hook where
  α := AlE
  obs := fun s => obsE n s.heap.get?
  val := fun _ => (He.valD fn, true)
  says := fun _ h => ∃ K : PySem.W.Frag, K.In h ∧ He.SaysD fa fn K ∧ exQ K = true
  of := fun _ _ e => ⟨_, He.frG_in, congrArg (fun z : AlE => z.1) e, congrArg (fun z : AlE => z.2) e⟩
  keeps := fun _ _ _ ⟨K, hK, c⟩ k => ⟨K, PySem.W.Frag.In.keeps hK k, c⟩
abbrev R : PySem.W.OpenRow := PySem.W.OpenLaw.row PySem.Challenge.rw_gridmetric_k24_whole_maps_by_witness
abbrev hk : PySem.W.Hook := hookE 4
def ob (s : PySem.W.SharedT) : AlE := obsE 4 (HandSHeadRun.getT s)
theorem ob_eq (s : PySem.W.SharedT) : ob s = hk.obs s.abs := by
  have e : HandSHeadRun.getT s = s.abs.heap.get? := funext (HandSHeadRun.getT_eq s)
  unfold ob
  rw [e] <;> rfl
section
open PySem PySem.W PySem.Calls PyProof.Rows HandSHeadRun
noncomputable abbrev WF (w : World) := wholeF (fun p => stepQ (denQ tabQ) p w) fenceQ 4000 R.prog
def kx (x : PySem.W.SharedT) : PySem.W.Frag := He.frG (getT x) (He.asD (getT x) 4)
theorem run1 (w : World) : (WF w).map (fun x => (looksF R.prog x.1.heap x.2.abs, seenQ (view R.prog [0, 65]) loose (importedModules R.prog.main.body) (fun s => xlAt (view R.prog [0, 65]) [] s && recOk R.toRowW.records s) x.2.abs)) = some (true, openGood (view R.prog [0, 65]) loose) := by
  kernel_rfl
theorem run2 (w : World) : (WF w).map (fun x => fa.all fun f => f.ok (kx x.2)) = some true := by
  kernel_rfl
theorem run3 (w : World) : (WF w).map (fun x => fn.all fun d => d.ok (kx x.2)) = some true := by
  kernel_rfl
theorem run4 (w : World) : (WF w).map (fun x => fn.map fun d => He.fnW (kx x.2) d.at_) = some (fn.map He.DefD.val) := by
  kernel_rfl
theorem run5 (w : World) : (WF w).map (fun x => exQ (kx x.2)) = some true := by
  kernel_rfl
theorem map_five {α A B C D E F : Type} {o : Option α} {f1 : α → A × B} {f2 : α → C} {f3 : α → D} {f4 : α → E} {f5 : α → F} {a : A} {b : B} {c : C} {d : D} {e : E} {f : F} (h1 : o.map f1 = some (a, b)) (h2 : o.map f2 = some c) (h3 : o.map f3 = some d) (h4 : o.map f4 = some e) (h5 : o.map f5 = some f) : ∃ x, o = some x ∧ f1 x = (a, b) ∧ f2 x = c ∧ f3 x = d ∧ f4 x = e ∧ f5 x = f := by
  cases o with
  | none => cases h1
  | some x => exact ⟨x, rfl, Option.some.inj h1, Option.some.inj h2, Option.some.inj h3, Option.some.inj h4, Option.some.inj h5⟩
theorem run (w : World) : RunEqI R (view R.prog [0, 65]) hk ob 4000 loose w := by
  obtain ⟨x, e, h1, h2, h3, h4, h5⟩ := map_five (run1 w) (run2 w) (run3 w) (run4 w) (run5 w)
  unfold RunEqI
  show (WF w).map _ = _
  rw [e]
  have k1 : looksF R.prog x.1.heap x.2.abs = true := congrArg (·.1) h1
  have k2 : seenQ (view R.prog [0, 65]) loose (importedModules R.prog.main.body) (fun s => xlAt (view R.prog [0, 65]) [] s && recOk R.toRowW.records s) x.2.abs = openGood (view R.prog [0, 65]) loose := congrArg (·.2) h1
  have k3 : ob x.2 = ((true, fn.map He.DefD.val), true) := by
    show (((fa.all fun f => f.ok (kx x.2)) && (fn.all fun d => d.ok (kx x.2)), fn.map fun d => He.fnW (kx x.2) d.at_), exQ (kx x.2)) = _
    rw [h2, h3, h4, h5]
    rfl
  show some (looksF R.prog x.1.heap x.2.abs, seenQ (view R.prog [0, 65]) loose (importedModules R.prog.main.body) (fun s => xlAt (view R.prog [0, 65]) [] s && recOk R.toRowW.records s) x.2.abs, ob x.2) = _
  rw [k1, k2, k3]
  rfl
end
end K24
set_option Elab.async false
set_option linter.all false
set_option maxRecDepth 100000
set_option maxHeartbeats 4000000
namespace K24
open PySem PySem.Spec PyProof.Rows L2

/-! ### the frozen part F of the heap H, and how both grow -/
structure Gw (F H F' H' : Hp) : Prop where
  f : Same F F'
  h : Same H H'
  s : Same F' H'
  n : ∀ a, H a ≠ none → F' a = F a
section
variable {F H F1 H1 F2 H2 : Hp} {p : Addr} {o u : HO}
theorem Gw.refl (s : Same F H) : Gw F H F H := ⟨Same.refl _, Same.refl _, s, fun _ _ => rfl⟩
theorem Gw.trans (a : Gw F H F1 H1) (b : Gw F1 H1 F2 H2) : Gw F H F2 H2 :=
  ⟨a.f.trans b.f, a.h.trans b.h, b.s, fun x hx => (b.n x fun q => hx (a.h.free q)).trans (a.n x hx)⟩
theorem same_free (s : Same F H) (h : H p = none) : F p = none := s.free h
theorem same_upd2 (s : Same F H) (h : H p = none) : Same (upd F p o) (upd H p o) := fun b u e => by
  by_cases q : b = p
  · subst q
    rw [upd_same] at e ⊢
    exact e
  · rw [upd_ne q] at e ⊢
    exact s b u e
theorem same_new (h : H p = none) : Same H (upd H p o) := fun b u e => by
  rw [upd_ne (ne_of_none e h)]
  exact e
/-- a new object, frozen -/
theorem Gw.pub (s : Same F H) (h : H p = none) : Gw F H (upd F p o) (upd H p o) :=
  ⟨same_new (s.free h), same_new h, same_upd2 s h, fun a ha => upd_ne fun q => ha (by rw [q]; exact h)⟩
/-- a new object, not frozen -/
theorem Gw.prv (s : Same F H) (h : H p = none) : Gw F H F (upd H p o) :=
  ⟨Same.refl _, same_new h, s.trans (same_new h), fun _ _ => rfl⟩
/-- an object that is not the entry's and not frozen is changed -/
theorem Gw.mut (g : Gw F H F1 H1) (h : H p = none) (f : F1 p = none) : Gw F H F1 (upd H1 p o) := by
  refine ⟨g.f, fun b u e => ?_, fun b u e => ?_, g.n⟩
  · rw [upd_ne (ne_of_none e h)]
    exact g.h b u e
  · rw [upd_ne (ne_of_none e f)]
    exact g.s b u e
/-- .. is frozen -/
theorem Gw.frz (g : Gw F H F1 H1) (h : H p = none) (f : F1 p = none) (e : H1 p = some o) : Gw F H (upd F1 p o) H1 := by
  refine ⟨g.f.trans (same_new f), g.h, fun b u q => ?_, fun a ha => ?_⟩
  · by_cases z : b = p
    · subst z
      rw [upd_same] at q
      rw [← q]
      exact e
    · rw [upd_ne z] at q
      exact g.s b u q
  · rw [upd_ne fun q => ha (by rw [q]; exact h)]
    exact g.n a ha
theorem Gw.own (g : Gw F H F1 H1) (e : H p = some o) (f : F p = none) : H1 p = some o ∧ F1 p = none :=
  ⟨g.h _ _ e, (g.n p (by rw [e]; simp)).trans f⟩
theorem Gw.new (g : Gw F H F1 H1) (e : H1 p = none) : H p = none := g.h.free e
end

/-! ### what holds of a value over the frozen part -/
abbrev Pr := V → Hp → Prop
class Mn (P : Pr) : Prop where
  mono : ∀ v F F', Same F F' → P v F → P v F'
theorem Pr.up {P : Pr} [Mn P] {v : V} {F F' : Hp} (h : P v F) (s : Same F F') : P v F' := Mn.mono v F F' s h
def pI (i : Int) : Pr := fun v _ => v = .int i
def pB (b : Bool) : Pr := fun v _ => v = .bl b
def pN : Pr := fun v _ => v = .non
instance {i : Int} : Mn (pI i) := ⟨fun _ _ _ _ h => h⟩
instance {b : Bool} : Mn (pB b) := ⟨fun _ _ _ _ h => h⟩
instance : Mn pN := ⟨fun _ _ _ _ h => h⟩
/-- item by item -/
def AllP {α : Type} (f : α → Pr) (vs : List V) (xs : List α) (F : Hp) : Prop := vs.length = xs.length ∧ ∀ (i : Nat) (v : V) (x : α), vs[i]? = some v → xs[i]? = some x → f x v F
theorem AllP.up {α : Type} {f : α → Pr} [∀ x, Mn (f x)] {vs : List V} {xs : List α} {F F' : Hp} (h : AllP f vs xs F) (s : Same F F') : AllP f vs xs F' :=
  ⟨h.1, fun i v x a b => Mn.mono v F F' s (h.2 i v x a b)⟩
theorem AllP.nil {α : Type} {f : α → Pr} {F : Hp} : AllP f [] [] F := ⟨rfl, fun i v x a _ => by simp at a⟩
theorem AllP.cons {α : Type} {f : α → Pr} {v : V} {x : α} {vs : List V} {xs : List α} {F : Hp} (h : f x v F) (r : AllP f vs xs F) : AllP f (v :: vs) (x :: xs) F := by
  refine ⟨by rw [List.length_cons, List.length_cons, r.1], fun i w y a b => ?_⟩
  cases i with
  | zero =>
    simp at a b
    subst a b
    exact h
  | succ i =>
    simp at a b
    exact r.2 i w y a b
theorem AllP.app {α : Type} {f : α → Pr} {vs ws : List V} {xs ys : List α} {F : Hp} (r : AllP f vs xs F) (h : AllP f ws ys F) : AllP f (vs ++ ws) (xs ++ ys) F := by
  have hl := r.1
  refine ⟨by rw [List.length_append, List.length_append, r.1, h.1], fun i w y a b => ?_⟩
  by_cases hi : i < vs.length
  · rw [List.getElem?_append_left hi] at a
    rw [List.getElem?_append_left (hl ▸ hi)] at b
    exact r.2 i w y a b
  · rw [List.getElem?_append_right (by omega)] at a
    rw [List.getElem?_append_right (by omega), ← hl] at b
    exact h.2 _ w y a b
theorem AllP.snoc {α : Type} {f : α → Pr} {v : V} {x : α} {vs : List V} {xs : List α} {F : Hp} (r : AllP f vs xs F) (h : f x v F) : AllP f (vs ++ [v]) (xs ++ [x]) F := r.app (AllP.nil.cons h)
theorem AllP.get {α : Type} {f : α → Pr} {vs : List V} {xs : List α} {F : Hp} {i : Nat} {x : α} (r : AllP f vs xs F) (h : xs[i]? = some x) : ∃ v, vs[i]? = some v ∧ f x v F := by
  have hi : i < vs.length := by
    rw [r.1]
    exact (List.getElem?_eq_some_iff.mp h).1
  exact ⟨vs[i], List.getElem?_eq_getElem hi, r.2 i _ x (List.getElem?_eq_getElem hi) h⟩
theorem AllP.set {α : Type} {f : α → Pr} {v : V} {x : α} {vs : List V} {xs : List α} {F : Hp} (r : AllP f vs xs F) (i : Nat) (h : f x v F) : AllP f (vs.set i v) (xs.set i x) F := by
  refine ⟨by rw [List.length_set, List.length_set, r.1], fun j w y a b => ?_⟩
  by_cases e : i = j
  · subst e
    have hj : i < vs.length := by
      have := (List.getElem?_eq_some_iff.mp a).1
      simpa using this
    rw [List.getElem?_set_self hj] at a
    rw [List.getElem?_set_self (r.1 ▸ hj)] at b
    cases a
    cases b
    exact h
  · rw [List.getElem?_set_ne e] at a b
    exact r.2 j w y a b
theorem AllP.take {α : Type} {f : α → Pr} {vs : List V} {xs : List α} {F : Hp} (r : AllP f vs xs F) (n : Nat) : AllP f (vs.take n) (xs.take n) F := by
  refine ⟨by rw [List.length_take, List.length_take, r.1], fun j w y a b => ?_⟩
  rw [List.getElem?_take] at a b
  split at a
  · rename_i hj
    rw [if_pos hj] at b
    exact r.2 j w y a b
  · cases a
theorem AllP.drop {α : Type} {f : α → Pr} {vs : List V} {xs : List α} {F : Hp} (r : AllP f vs xs F) (n : Nat) : AllP f (vs.drop n) (xs.drop n) F := by
  refine ⟨by rw [List.length_drop, List.length_drop, r.1], fun j w y a b => ?_⟩
  rw [List.getElem?_drop] at a b
  exact r.2 _ w y a b
theorem AllP.imp {α β : Type} {f : α → Pr} {g : β → Pr} {h : α → β} {vs : List V} {xs : List α} {F : Hp} (r : AllP f vs xs F) (k : ∀ x v, x ∈ xs → f x v F → g (h x) v F) : AllP g vs (xs.map h) F := by
  refine ⟨by rw [List.length_map, r.1], fun j w y a b => ?_⟩
  rw [List.getElem?_map] at b
  cases q : xs[j]? with
  | none => rw [q] at b; cases b
  | some x =>
    rw [q] at b
    cases b
    exact k x w (List.mem_of_getElem? q) (r.2 j w x a q)
theorem AllP.imp' {α : Type} {f g : α → Pr} {vs : List V} {xs : List α} {F : Hp} (r : AllP f vs xs F) (k : ∀ x v, x ∈ xs → f x v F → g x v F) : AllP g vs xs F :=
  ⟨r.1, fun j w y a b => k y w (List.mem_of_getElem? b) (r.2 j w y a b)⟩
/-- the ints themselves -/
theorem AllP.ints {vs : List V} {r : List Int} {F : Hp} (h : AllP pI vs r F) : vs = r.map V.int := by
  apply List.ext_getElem?
  intro i
  rw [List.getElem?_map]
  cases q : r[i]? with
  | none =>
    have : r.length ≤ i := List.getElem?_eq_none_iff.mp q
    rw [List.getElem?_eq_none_iff.mpr (by rw [h.1]; exact this)]
    rfl
  | some x =>
    obtain ⟨v, hv, e⟩ := h.get q
    have e' : v = .int x := e
    rw [hv, e']
    rfl
theorem allP_ints {r : List Int} {F : Hp} : AllP pI (r.map V.int) r F := by
  refine ⟨by simp, fun i v x a b => ?_⟩
  rw [List.getElem?_map, b] at a
  cases a
  rfl
theorem AllP.bools {vs : List V} {r : List Bool} {F : Hp} (h : AllP pB vs r F) : vs = r.map V.bl := by
  apply List.ext_getElem?
  intro i
  rw [List.getElem?_map]
  cases q : r[i]? with
  | none =>
    have : r.length ≤ i := List.getElem?_eq_none_iff.mp q
    rw [List.getElem?_eq_none_iff.mpr (by rw [h.1]; exact this)]
    rfl
  | some x =>
    obtain ⟨v, hv, e⟩ := h.get q
    have e' : v = .bl x := e
    rw [hv, e']
    rfl

/-- a frozen list, a frozen tuple, either -/
def pL {α : Type} (f : α → Pr) (xs : List α) : Pr := fun v F => ∃ a vs, v = .ref a ∧ F a = some (.lst vs) ∧ AllP f vs xs F
def pT {α : Type} (f : α → Pr) (xs : List α) : Pr := fun v F => ∃ a vs, v = .ref a ∧ F a = some (.tup vs) ∧ AllP f vs xs F
def pS {α : Type} (f : α → Pr) (xs : List α) : Pr := fun v F => ∃ a vs, v = .ref a ∧ (F a = some (.lst vs) ∨ F a = some (.tup vs)) ∧ AllP f vs xs F
instance {α : Type} {f : α → Pr} [∀ x, Mn (f x)] {xs : List α} : Mn (pL f xs) := ⟨fun _ _ _ s ⟨a, vs, e, h, r⟩ => ⟨a, vs, e, s _ _ h, r.up s⟩⟩
instance {α : Type} {f : α → Pr} [∀ x, Mn (f x)] {xs : List α} : Mn (pT f xs) := ⟨fun _ _ _ s ⟨a, vs, e, h, r⟩ => ⟨a, vs, e, s _ _ h, r.up s⟩⟩
instance {α : Type} {f : α → Pr} [∀ x, Mn (f x)] {xs : List α} : Mn (pS f xs) := ⟨fun _ _ _ s ⟨a, vs, e, h, r⟩ => ⟨a, vs, e, h.imp (fun h => s _ _ h) (fun h => s _ _ h), r.up s⟩⟩
theorem pL.s {α : Type} {f : α → Pr} {xs : List α} {v : V} {F : Hp} (h : pL f xs v F) : pS f xs v F := let ⟨a, vs, e, h, r⟩ := h; ⟨a, vs, e, .inl h, r⟩
theorem pT.s {α : Type} {f : α → Pr} {xs : List α} {v : V} {F : Hp} (h : pT f xs v F) : pS f xs v F := let ⟨a, vs, e, h, r⟩ := h; ⟨a, vs, e, .inr h, r⟩
/-- a tuple of two -/
def pP (p q : Pr) : Pr := fun v F => ∃ a x y, v = .ref a ∧ F a = some (.tup [x, y]) ∧ p x F ∧ q y F
instance {p q : Pr} [Mn p] [Mn q] : Mn (pP p q) := ⟨fun _ _ _ s ⟨a, x, y, e, h, h1, h2⟩ => ⟨a, x, y, e, s _ _ h, Mn.mono _ _ _ s h1, Mn.mono _ _ _ s h2⟩⟩
/-- a tuple of three -/
def pP3 (p q r : Pr) : Pr := fun v F => ∃ a x y z, v = .ref a ∧ F a = some (.tup [x, y, z]) ∧ p x F ∧ q y F ∧ r z F
instance {p q r : Pr} [Mn p] [Mn q] [Mn r] : Mn (pP3 p q r) := ⟨fun _ _ _ s ⟨a, x, y, z, e, h, h1, h2, h3⟩ => ⟨a, x, y, z, e, s _ _ h, Mn.mono _ _ _ s h1, Mn.mono _ _ _ s h2, Mn.mono _ _ _ s h3⟩⟩
/-- one of two -/
def pOr (p q : Pr) : Pr := fun v F => p v F ∨ q v F
instance {p q : Pr} [Mn p] [Mn q] : Mn (pOr p q) := ⟨fun _ _ _ s h => h.imp (Mn.mono _ _ _ s) (Mn.mono _ _ _ s)⟩
def pAny : Pr := fun _ _ => True
instance : Mn pAny := ⟨fun _ _ _ _ h => h⟩
def pIs (v : V) : Pr := fun x _ => x = v
instance {v : V} : Mn (pIs v) := ⟨fun _ _ _ _ h => h⟩

/-! ### expressions, tests, arguments: what they come to -/
def WE (X : Cx) (e : Expr) : TE := fun σ H Q => ∀ (pins : List (Addr × Obj)) (s : Shared), Inv X pins σ H s → wpAny (model X.prog X.w) X.A (eval e X.env) (EP X pins σ Q) X.xe s
def WT (X : Cx) (e : Expr) : TT := fun σ H Q => ∀ (pins : List (Addr × Obj)) (s : Shared), Inv X pins σ H s → wpAny (model X.prog X.w) X.A (isTrue e X.env (eval e X.env)) (TP X pins σ Q) X.xe s
def WW (X : Cx) (e : Expr) : TT := fun σ H Q => ∀ (whole : Sem Value) (pins : List (Addr × Obj)) (s : Shared), Inv X pins σ H s → wpAny (model X.prog X.w) X.A (isTrue e X.env whole) (TP X pins σ Q) X.xe s
def WA (X : Cx) (es : List Expr) : TA := fun σ H Q => ∀ (pos : Pos) (pins : List (Addr × Obj)) (s : Shared), Inv X pins σ H s → wpAny (model X.prog X.w) X.A (spliced (backTo pos (starEach es X.env))) (AP X pins σ Q) X.xe s
section
variable {X : Cx} {e : Expr} {es : List Expr} {σ : L2.St} {H : Hp}
theorem pe_w : PE X e (WE X e) := ⟨fun pins s _ _ _ I h => h pins s I⟩
theorem pt_w : PT X e (WT X e) := ⟨fun pins s _ _ _ I h => h pins s I⟩
theorem pw_w : PW X e (WW X e) := ⟨fun whole pins s _ _ _ I h => h whole pins s I⟩
theorem pa_w : PA X es (WA X es) := ⟨fun pos pins s _ _ _ I h => h pos pins s I⟩
theorem we {t : TE} {Q : VK} (h : PE X e t) (q : t σ H Q) : WE X e σ H Q := fun pins s I => h.run pins s σ H Q I q
theorem wt {t : TT} {Q : Bool → Hp → Prop} (h : PT X e t) (q : t σ H Q) : WT X e σ H Q := fun pins s I => h.run pins s σ H Q I q
theorem ww {t : TT} {Q : Bool → Hp → Prop} (h : PW X e t) (q : t σ H Q) : WW X e σ H Q := fun whole pins s I => h.run whole pins s σ H Q I q
theorem wa {t : TA} {Q : List V → Hp → Prop} (h : PA X es t) (q : t σ H Q) : WA X es σ H Q := fun pos pins s I => h.run pos pins s σ H Q I q
theorem WE.imp {Q Q' : VK} (h : WE X e σ H Q) (k : ∀ v H', Q v H' → Q' v H') : WE X e σ H Q' := fun pins s I =>
  thn (h pins s I) fun _ _ ⟨v, H', I', r, q⟩ => ⟨v, H', I', r, k v H' q⟩
end

def Ev (X : Cx) (e : Expr) (σ : L2.St) (F H : Hp) (P : Pr) : Prop := ∀ F1 H1, Gw F H F1 H1 → ∀ Q : VK, (∀ v F2 H2, Gw F1 H1 F2 H2 → P v F2 → Q v H2) → WE X e σ H1 Q
def EvT (X : Cx) (e : Expr) (σ : L2.St) (F H : Hp) (b : Bool) : Prop := ∀ F1 H1, Gw F H F1 H1 → ∀ Q : Bool → Hp → Prop, (∀ F2 H2, Gw F1 H1 F2 H2 → Q b H2) → WT X e σ H1 Q
def EvW (X : Cx) (e : Expr) (σ : L2.St) (F H : Hp) (b : Bool) : Prop := ∀ F1 H1, Gw F H F1 H1 → ∀ Q : Bool → Hp → Prop, (∀ F2 H2, Gw F1 H1 F2 H2 → Q b H2) → WW X e σ H1 Q
def EvA (X : Cx) (es : List Expr) (σ : L2.St) (F H : Hp) (P : List V → Hp → Prop) : Prop := ∀ F1 H1, Gw F H F1 H1 → ∀ Q : List V → Hp → Prop, (∀ vs F2 H2, Gw F1 H1 F2 H2 → P vs F2 → Q vs H2) → WA X es σ H1 Q
/-- a new list that is not frozen yet -/
def EvN {α : Type} (X : Cx) (e : Expr) (σ : L2.St) (F H : Hp) (f : α → Pr) (xs : List α) : Prop := ∀ F1 H1, Gw F H F1 H1 → ∀ Q : VK,
  (∀ p vs F2 H2, Gw F1 H1 F2 H2 → H1 p = none → F2 p = none → H2 p = some (.lst vs) → AllP f vs xs F2 → Q (.ref p) H2) → WE X e σ H1 Q
section
variable {X : Cx} {e a b : Expr} {es : List Expr} {σ : L2.St} {F H F' H' : Hp} {P P' R : Pr} {α : Type} {f : α → Pr} {xs : List α}
theorem Ev.up (h : Ev X e σ F H P) (g : Gw F H F' H') : Ev X e σ F' H' P := fun _ _ g1 Q q => h _ _ (g.trans g1) Q q
theorem EvT.up {b : Bool} (h : EvT X e σ F H b) (g : Gw F H F' H') : EvT X e σ F' H' b := fun _ _ g1 Q q => h _ _ (g.trans g1) Q q
theorem EvA.up {P : List V → Hp → Prop} (h : EvA X es σ F H P) (g : Gw F H F' H') : EvA X es σ F' H' P := fun _ _ g1 Q q => h _ _ (g.trans g1) Q q
theorem Ev.imp (h : Ev X e σ F H P) (k : ∀ v F1, Same F F1 → P v F1 → P' v F1) : Ev X e σ F H P' := fun _ _ g1 Q q => h _ _ g1 Q fun v F2 H2 g2 p => q v F2 H2 g2 (k v F2 (g1.f.trans g2.f) p)
theorem EvN.ev [∀ x, Mn (f x)] (h : EvN X e σ F H f xs) : Ev X e σ F H (pL f xs) := fun F1 H1 g1 Q q => h F1 H1 g1 Q fun p vs F2 H2 g2 n1 n2 e2 r =>
  q _ (upd F2 p (.lst vs)) H2 (g2.frz n1 n2 e2) ⟨p, vs, rfl, upd_same, r.up (same_new n2)⟩
/-! names, constants -/
theorem ev_v (i : Nat) {x : Str} {pos : Pos} {v : V} (hs : σ[i]? = some (some v)) (h : P v F) [Mn P] (hN : X.N[i]? = some x := by rfl) (hv : Vis X.env.scope x := by first | exact Or.inl rfl | exact Or.inr (Or.inl rfl) | exact Or.inr (Or.inr rfl)) (hd : (x == ("__debug__" : Str)) = false := by decide)
    (hcd : (x == ("__classdict__" : Str)) = false := by decide) : Ev X (.Name x pos) σ F H P := fun F1 H1 g1 Q q =>
  we (pe_var hN hv hd hcd) ⟨v, hs, q v F1 H1 (Gw.refl g1.s) (Mn.mono _ _ _ g1.f h)⟩
theorem ev_int {i j pos} : Ev X (.Constant (.int i) j pos) σ F H (pI i) := fun _ _ g1 _ q => we pe_int (q _ _ _ (Gw.refl g1.s) rfl)
theorem ev_bl {b j pos} : Ev X (.Constant (.bool b) j pos) σ F H (pB b) := fun _ _ g1 _ q => we pe_bl (q _ _ _ (Gw.refl g1.s) rfl)
theorem ev_non {j pos} : Ev X (.Constant .none j pos) σ F H pN := fun _ _ g1 _ q => we pe_non (q _ _ _ (Gw.refl g1.s) rfl)
theorem ev_gint {x : Str} {i : Int} {pos : Pos} (hm : ∃ t, X.mg x = some (.int i t)) (hg : Gl X x := by rfl) (hd : (x == ("__debug__" : Str)) = false := by decide) : Ev X (.Name x pos) σ F H (pI i) := fun _ _ g1 _ q => by
  obtain ⟨t, hm⟩ := hm
  exact we (pe_glob hg hm (v := .int i) ⟨t, rfl⟩ hd) (q _ _ _ (Gw.refl g1.s) rfl)
theorem ev_gref {x : Str} {a : Addr} {pos : Pos} (hm : X.mg x = some (.ref a)) (hg : Gl X x := by rfl) (hd : (x == ("__debug__" : Str)) = false := by decide) : Ev X (.Name x pos) σ F H (pIs (.ref a)) := fun _ _ g1 _ q =>
  we (pe_glob hg hm (v := .ref a) rfl hd) (q _ _ _ (Gw.refl g1.s) rfl)
theorem ev_ty {x : Str} {n : String} {pos : Pos} (hm : X.mg x = none) (hv : bootBuiltins x = some (.type n)) (hg : Gl X x := by rfl) (hn : x ≠ "__name__" := by decide) (hd : (x == ("__debug__" : Str)) = false := by decide) : Ev X (.Name x pos) σ F H (pIs (.ty n)) := fun _ _ g1 _ q =>
  we (pe_bltn hg hm hv (v := .ty n) rfl hn hd) (q _ _ _ (Gw.refl g1.s) rfl)

/-! two-place operations -/
def RvP (r : R2) (x y : V) (F H : Hp) (P : Pr) : Prop := ∀ Q : VK, (∀ v F2 H2, Gw F H F2 H2 → P v F2 → Q v H2) → r x y H Q
theorem ev_op {op : Operator} {r : R2} {pos : Pos} {Pa Pb : Pr} [Mn Pa] (ho : OpR X (binaryOp op) r) (ha : Ev X a σ F H Pa) (hb : Ev X b σ F H Pb)
    (hr : ∀ x y F1 H1, Gw F H F1 H1 → Pa x F1 → Pb y F1 → RvP r x y F1 H1 P) : Ev X (.BinOp a op b pos) σ F H P := fun F1 H1 g1 Q q =>
  we (pe_op ho pe_w pe_w) (ha F1 H1 g1 _ fun x F2 H2 g2 px => hb F2 H2 (g1.trans g2) _ fun y F3 H3 g3 py =>
    hr x y F3 H3 ((g1.trans g2).trans g3) (Mn.mono _ _ _ g3.f px) py Q fun v F4 H4 g4 pv => q v F4 H4 ((g2.trans g3).trans g4) pv)
theorem ev_cmp {op : CmpOp} {r : R2} {pos : Pos} {Pa Pb : Pr} [Mn Pa] (ho : OpR X (compareOp op) r) (ha : Ev X a σ F H Pa) (hb : Ev X b σ F H Pb)
    (hr : ∀ x y F1 H1, Gw F H F1 H1 → Pa x F1 → Pb y F1 → RvP r x y F1 H1 P) (hm : behindInMarks op b = false) : Ev X (.Compare a [op] [b] pos) σ F H P := fun F1 H1 g1 Q q =>
  we (pe_cmpR ho pe_w pe_w hm) (ha F1 H1 g1 _ fun x F2 H2 g2 px => hb F2 H2 (g1.trans g2) _ fun y F3 H3 g3 py =>
    hr x y F3 H3 ((g1.trans g2).trans g3) (Mn.mono _ _ _ g3.f px) py Q fun v F4 H4 g4 pv => q v F4 H4 ((g2.trans g3).trans g4) pv)
theorem evt_cmp {op : CmpOp} {r : R2} {pos : Pos} {Pa Pb : Pr} {k : Bool} [Mn Pa] (ho : OpR X (compareOp op) r) (ha : Ev X a σ F H Pa) (hb : Ev X b σ F H Pb)
    (hr : ∀ x y F1 H1, Gw F H F1 H1 → Pa x F1 → Pb y F1 → RvP r x y F1 H1 (pB k)) (hm : behindInMarks op b = false) : EvT X (.Compare a [op] [b] pos) σ F H k := fun F1 H1 g1 Q q =>
  wt (pt_cmpR ho pe_w pe_w hm) (ha F1 H1 g1 _ fun x F2 H2 g2 px => hb F2 H2 (g1.trans g2) _ fun y F3 H3 g3 py =>
    hr x y F3 H3 ((g1.trans g2).trans g3) (Mn.mono _ _ _ g3.f px) py _ fun v F4 H4 g4 pv => ⟨k, pv, q F4 H4 ((g2.trans g3).trans g4)⟩)
/-- one-place -/
theorem ev_un {op : UnaryOp} {r : V → Hp → VK → Prop} {pos : Pos} {Pa : Pr} (ho : UnR X (unaryOp op) r) (ha : Ev X a σ F H Pa)
    (hr : ∀ x F1 H1, Gw F H F1 H1 → Pa x F1 → ∀ Q : VK, (∀ v F2 H2, Gw F1 H1 F2 H2 → P v F2 → Q v H2) → r x H1 Q) : Ev X (.UnaryOp op a pos) σ F H P := fun F1 H1 g1 Q q =>
  we (pe_un ho pe_w) (ha F1 H1 g1 _ fun x F2 H2 g2 px => hr x F2 H2 (g1.trans g2) px Q fun v F4 H4 g4 pv => q v F4 H4 (g2.trans g4) pv)

theorem rv_I {C : Int → Int → Prop} {g : Int → Int → V} {i j : Int} {x y : V} (hx : pI i x F) (hy : pI j y F) (hC : C i j) (s : Same F H) (h : P (g i j) F) : RvP (rI C g) x y F H P := fun Q q =>
  ⟨i, j, hx, hy, hC, q _ F H (Gw.refl s) h⟩
theorem rv_I0 {g : Int → Int → V} {i j : Int} {x y : V} (hx : pI i x F) (hy : pI j y F) (s : Same F H) (h : P (g i j) F) : RvP (rI0 g) x y F H P := fun Q q =>
  ⟨i, j, hx, hy, q _ F H (Gw.refl s) h⟩
section
variable {i j : Int} {pos : Pos}
theorem ev_add (ha : Ev X a σ F H (pI i)) (hb : Ev X b σ F H (pI j)) : Ev X (.BinOp a .Add b pos) σ F H (pI (i + j)) := ev_op op_add ha hb fun _ _ _ _ g hx hy => rv_I0 hx hy g.s rfl
theorem ev_sub (ha : Ev X a σ F H (pI i)) (hb : Ev X b σ F H (pI j)) : Ev X (.BinOp a .Sub b pos) σ F H (pI (i - j)) := ev_op op_sub ha hb fun _ _ _ _ g hx hy => rv_I0 hx hy g.s rfl
/-- * : not both above 64 bits with a product above the line -/
def CMul (i j : Int) : Prop := IntMulOk i j
theorem op_mulC : OpR X (binaryOp .Mult) (rI CMul fun i j => .int (i * j)) := opI fun _ _ _ _ _ _ _ hc q => mul_int q hc
theorem CMul.l {i j : Int} (h : i.natAbs < 2 ^ 64) : CMul i j := .of_left (intBits_le_64 (by omega) (by omega))
theorem CMul.r {i j : Int} (h : j.natAbs < 2 ^ 64) : CMul i j := .of_right (intBits_le_64 (by omega) (by omega))
theorem ev_mul (ha : Ev X a σ F H (pI i)) (hb : Ev X b σ F H (pI j)) (hc : CMul i j) : Ev X (.BinOp a .Mult b pos) σ F H (pI (i * j)) := ev_op op_mulC ha hb fun _ _ _ _ g hx hy => rv_I hx hy hc g.s rfl
/-- // by anything but 0 -/
theorem op_fdivC : OpR X (binaryOp .FloorDiv) (rI (fun _ j => j ≠ 0 ∧ j.natAbs < 2 ^ 64) fun i j => .int (i.fdiv j)) := by
  intro pins s σ H x y v u Q I rx ry h
  obtain ⟨i, j, rfl, rfl, hj, q⟩ := h
  obtain ⟨t, rfl⟩ := rx
  obtain ⟨t', rfl⟩ := ry
  exact floordiv_int hj.1 ⟨.int _, H, I.tok _, ⟨_, rfl⟩, q⟩ (.inl (PyProof.noPylong_of_log2 (Nat.lt_trans ((Nat.log2_lt (by have := hj.1; omega)).mpr hj.2) (by decide))))
theorem ev_fdiv (ha : Ev X a σ F H (pI i)) (hb : Ev X b σ F H (pI j)) (hj : j ≠ 0) (hj2 : j.natAbs < 2 ^ 64) : Ev X (.BinOp a .FloorDiv b pos) σ F H (pI (i.fdiv j)) := ev_op op_fdivC ha hb fun _ _ _ _ g hx hy => rv_I hx hy ⟨hj, hj2⟩ g.s rfl
theorem ev_mod (ha : Ev X a σ F H (pI i)) (hb : Ev X b σ F H (pI j)) (hj : j ≠ 0) : Ev X (.BinOp a .Mod b pos) σ F H (pI (i.fmod j)) := ev_op op_modN ha hb fun _ _ _ _ g hx hy => rv_I hx hy hj g.s rfl
theorem ev_neg (ha : Ev X a σ F H (pI i)) : Ev X (.UnaryOp .USub a pos) σ F H (pI (-i)) := ev_un un_neg ha fun x F1 H1 g hx Q q => ⟨i, hx, q _ F1 H1 (Gw.refl g.s) rfl⟩
theorem ev_lt (ha : Ev X a σ F H (pI i)) (hb : Ev X b σ F H (pI j)) : Ev X (.Compare a [.Lt] [b] pos) σ F H (pB (decide (i < j))) := ev_cmp op_lt ha hb (fun _ _ _ _ g hx hy => rv_I0 hx hy g.s rfl) (nomark _)
theorem ev_le (ha : Ev X a σ F H (pI i)) (hb : Ev X b σ F H (pI j)) : Ev X (.Compare a [.LtE] [b] pos) σ F H (pB (decide (i ≤ j))) := ev_cmp op_le ha hb (fun _ _ _ _ g hx hy => rv_I0 hx hy g.s rfl) (nomark _)
theorem ev_gt (ha : Ev X a σ F H (pI i)) (hb : Ev X b σ F H (pI j)) : Ev X (.Compare a [.Gt] [b] pos) σ F H (pB (decide (j < i))) := ev_cmp op_gt ha hb (fun _ _ _ _ g hx hy => rv_I0 hx hy g.s rfl) (nomark _)
theorem ev_ge (ha : Ev X a σ F H (pI i)) (hb : Ev X b σ F H (pI j)) : Ev X (.Compare a [.GtE] [b] pos) σ F H (pB (decide (j ≤ i))) := ev_cmp op_ge ha hb (fun _ _ _ _ g hx hy => rv_I0 hx hy g.s rfl) (nomark _)
theorem evt_lt (ha : Ev X a σ F H (pI i)) (hb : Ev X b σ F H (pI j)) : EvT X (.Compare a [.Lt] [b] pos) σ F H (decide (i < j)) := evt_cmp op_lt ha hb (fun _ _ _ _ g hx hy => rv_I0 hx hy g.s rfl) (nomark _)
theorem evt_le (ha : Ev X a σ F H (pI i)) (hb : Ev X b σ F H (pI j)) : EvT X (.Compare a [.LtE] [b] pos) σ F H (decide (i ≤ j)) := evt_cmp op_le ha hb (fun _ _ _ _ g hx hy => rv_I0 hx hy g.s rfl) (nomark _)
theorem evt_gt (ha : Ev X a σ F H (pI i)) (hb : Ev X b σ F H (pI j)) : EvT X (.Compare a [.Gt] [b] pos) σ F H (decide (j < i)) := evt_cmp op_gt ha hb (fun _ _ _ _ g hx hy => rv_I0 hx hy g.s rfl) (nomark _)
theorem evt_ge (ha : Ev X a σ F H (pI i)) (hb : Ev X b σ F H (pI j)) : EvT X (.Compare a [.GtE] [b] pos) σ F H (decide (j ≤ i)) := evt_cmp op_ge ha hb (fun _ _ _ _ g hx hy => rv_I0 hx hy g.s rfl) (nomark _)
theorem dec_vint {i j : Int} : decide (V.int i = V.int j) = decide (i = j) := by
  by_cases h : i = j
  · subst h; simp
  · rw [decide_eq_false h, decide_eq_false fun q => h (V.int.inj q)]
theorem rv_eq {i j : Int} {x y : V} (hx : pI i x F) (hy : pI j y F) (s : Same F H) : RvP rEq x y F H (pB (decide (i = j))) := fun Q q => by
  cases hx
  cases hy
  exact ⟨rfl, by rw [dec_vint]; exact q _ F H (Gw.refl s) rfl⟩
theorem rv_ne {i j : Int} {x y : V} (hx : pI i x F) (hy : pI j y F) (s : Same F H) : RvP rNe x y F H (pB (!decide (i = j))) := fun Q q => by
  cases hx
  cases hy
  exact ⟨rfl, by rw [dec_vint]; exact q _ F H (Gw.refl s) rfl⟩
theorem ev_eq (ha : Ev X a σ F H (pI i)) (hb : Ev X b σ F H (pI j)) : Ev X (.Compare a [.Eq] [b] pos) σ F H (pB (decide (i = j))) := ev_cmp op_eq ha hb (fun _ _ _ _ g hx hy => rv_eq hx hy g.s) (nomark _)
theorem ev_ne (ha : Ev X a σ F H (pI i)) (hb : Ev X b σ F H (pI j)) : Ev X (.Compare a [.NotEq] [b] pos) σ F H (pB (!decide (i = j))) := ev_cmp op_ne ha hb (fun _ _ _ _ g hx hy => rv_ne hx hy g.s) (nomark _)
theorem evt_eq (ha : Ev X a σ F H (pI i)) (hb : Ev X b σ F H (pI j)) : EvT X (.Compare a [.Eq] [b] pos) σ F H (decide (i = j)) := evt_cmp op_eq ha hb (fun _ _ _ _ g hx hy => rv_eq hx hy g.s) (nomark _)
theorem evt_ne (ha : Ev X a σ F H (pI i)) (hb : Ev X b σ F H (pI j)) : EvT X (.Compare a [.NotEq] [b] pos) σ F H (!decide (i = j)) := evt_cmp op_ne ha hb (fun _ _ _ _ g hx hy => rv_ne hx hy g.s) (nomark _)
end
end
end K24
set_option Elab.async false
set_option linter.all false
set_option maxRecDepth 100000
set_option maxHeartbeats 4000000
namespace K24
open PySem PySem.Spec PyProof.Rows L2
section
variable {X : Cx} {e a b c : Expr} {es rest : List Expr} {σ : L2.St} {F H F' H' : Hp} {P P' R Pa Pb : Pr} {α β : Type} {f : α → Pr} {xs : List α} {pos : Pos}

/-! ### tests -/
theorem evt_val {k : Bool} (h : Ev X e σ F H (pB k)) (he : ∀ whole, isTrue e X.env whole = (do let v ← whole; standAt e.pos; holding [v] (truthy v)) := by intro _; rfl) : EvT X e σ F H k := fun F1 H1 g1 Q q =>
  wt (pt_val pe_w he) (h F1 H1 g1 _ fun v F2 H2 g2 p => ⟨k, p, q F2 H2 g2⟩)
theorem evt_and {k l : Bool} (ha : EvT X a σ F H k) (hb : k = true → EvT X b σ F H l) : EvT X (.BoolOp .And [a, b] pos) σ F H (k && l) := fun F1 H1 g1 Q q =>
  wt (PW.pt (pw_and pt_w (pw_and1 pt_w))) (ha F1 H1 g1 _ fun F2 H2 g2 => by
    cases k with
    | true => exact iteT (hb rfl F2 H2 (g1.trans g2) Q fun F3 H3 g3 => q F3 H3 (g2.trans g3))
    | false => exact iteF (q F2 H2 g2))
theorem evt_or {k l : Bool} (ha : EvT X a σ F H k) (hb : k = false → EvT X b σ F H l) : EvT X (.BoolOp .Or [a, b] pos) σ F H (k || l) := fun F1 H1 g1 Q q =>
  wt (PW.pt (pw_or pt_w (pw_or1 pt_w))) (ha F1 H1 g1 _ fun F2 H2 g2 => by
    cases k with
    | true => exact iteT (q F2 H2 g2)
    | false => exact iteF (hb rfl F2 H2 (g1.trans g2) Q fun F3 H3 g3 => q F3 H3 (g2.trans g3)))
theorem evt_or3 {k l m : Bool} (ha : EvT X a σ F H k) (hb : k = false → EvT X b σ F H l) (hc : k = false → l = false → EvT X c σ F H m) : EvT X (.BoolOp .Or [a, b, c] pos) σ F H (k || (l || m)) := fun F1 H1 g1 Q q =>
  wt (PW.pt (pw_or pt_w (pw_or pt_w (pw_or1 pt_w)))) (ha F1 H1 g1 _ fun F2 H2 g2 => by
    cases k with
    | true => exact iteT (q F2 H2 g2)
    | false => exact iteF (hb rfl F2 H2 (g1.trans g2) _ fun F3 H3 g3 => by
        cases l with
        | true => exact iteT (q F3 H3 (g2.trans g3))
        | false => exact iteF (hc rfl rfl F3 H3 ((g1.trans g2).trans g3) _ fun F4 H4 g4 => q F4 H4 ((g2.trans g3).trans g4))))
theorem evt_not {k : Bool} (ha : EvT X a σ F H k) : EvT X (.UnaryOp .Not a pos) σ F H (!k) := fun F1 H1 g1 Q q => wt (pt_not pt_w) (ha F1 H1 g1 _ fun F2 H2 g2 => q F2 H2 g2)
theorem ev_and {k l : Bool} (ha : Ev X a σ F H (pB k)) (hb : k = true → Ev X b σ F H (pB l)) : Ev X (.BoolOp .And [a, b] pos) σ F H (pB (k && l)) := fun F1 H1 g1 Q q =>
  we (pe_and pe_w (pe_one pe_w)) (ha F1 H1 g1 _ fun v F2 H2 g2 p => ⟨k, p, by
    cases k with
    | true => exact iteT (hb rfl F2 H2 (g1.trans g2) Q fun w F3 H3 g3 p3 => q w F3 H3 (g2.trans g3) p3)
    | false => exact iteF (q _ F2 H2 g2 rfl)⟩)
theorem ev_and3 {k l m : Bool} (ha : Ev X a σ F H (pB k)) (hb : k = true → Ev X b σ F H (pB l)) (hc : k = true → l = true → Ev X c σ F H (pB m)) : Ev X (.BoolOp .And [a, b, c] pos) σ F H (pB (k && (l && m))) := fun F1 H1 g1 Q q =>
  we (pe_and pe_w (pe_and pe_w (pe_one pe_w))) (ha F1 H1 g1 _ fun v F2 H2 g2 p => ⟨k, p, by
    cases k with
    | true => exact iteT (hb rfl F2 H2 (g1.trans g2) _ fun w F3 H3 g3 p3 => ⟨l, p3, by
        cases l with
        | true => exact iteT (hc rfl rfl F3 H3 ((g1.trans g2).trans g3) Q fun u F4 H4 g4 p4 => q u F4 H4 ((g2.trans g3).trans g4) p4)
        | false => exact iteF (q _ F3 H3 (g2.trans g3) rfl)⟩)
    | false => exact iteF (q _ F2 H2 g2 rfl)⟩)
theorem ev_or {k l : Bool} (ha : Ev X a σ F H (pB k)) (hb : k = false → Ev X b σ F H (pB l)) : Ev X (.BoolOp .Or [a, b] pos) σ F H (pB (k || l)) := fun F1 H1 g1 Q q =>
  we (pe_or pe_w (pe_one pe_w)) (ha F1 H1 g1 _ fun v F2 H2 g2 p => ⟨k, p, by
    cases k with
    | true => exact iteT (q _ F2 H2 g2 rfl)
    | false => exact iteF (hb rfl F2 H2 (g1.trans g2) Q fun w F3 H3 g3 p3 => q w F3 H3 (g2.trans g3) p3)⟩)
theorem ev_not {k : Bool} (ha : Ev X a σ F H (pB k)) : Ev X (.UnaryOp .Not a pos) σ F H (pB (!k)) := fun F1 H1 g1 Q q => we (pe_not pe_w) (ha F1 H1 g1 _ fun v F2 H2 g2 p => ⟨k, p, q _ F2 H2 g2 rfl⟩)
theorem ev_if {k : Bool} (hc : EvT X c σ F H k) (ha : k = true → Ev X a σ F H P) (hb : k = false → Ev X b σ F H P) : Ev X (.IfExp c a b pos) σ F H P := fun F1 H1 g1 Q q =>
  we (pe_ifExp pt_w pe_w pe_w) (hc F1 H1 g1 _ fun F2 H2 g2 => by
    cases k with
    | true => exact iteT (ha rfl F2 H2 (g1.trans g2) Q fun w F3 H3 g3 p3 => q w F3 H3 (g2.trans g3) p3)
    | false => exact iteF (hb rfl F2 H2 (g1.trans g2) Q fun w F3 H3 g3 p3 => q w F3 H3 (g2.trans g3) p3))
theorem Ev.is {P' : Pr} (h : Ev X e σ F H P) (k : P = P') : Ev X e σ F H P' := k ▸ h
theorem EvT.is {k l : Bool} (h : EvT X e σ F H k) (e' : k = l) : EvT X e σ F H l := e' ▸ h
/-! is -/
theorem evt_isN {k : Bool} {j} {pos' : Pos} (ha : Ev X a σ F H P) (hk : ∀ v F1, P v F1 → decide (v = V.non) = k) : EvT X (.Compare a [.Is] [.Constant .none j pos] pos') σ F H k := fun F1 H1 g1 Q q =>
  wt (pt_cmp (pc_isN pe_w)) (ha F1 H1 g1 _ fun v F2 H2 g2 p => ⟨_, rfl, by rw [hk v F2 p]; exact q F2 H2 g2⟩)
theorem evt_notN {k : Bool} {j} {pos' : Pos} (ha : Ev X a σ F H P) (hk : ∀ v F1, P v F1 → (!decide (v = V.non)) = k) : EvT X (.Compare a [.IsNot] [.Constant .none j pos] pos') σ F H k := fun F1 H1 g1 Q q =>
  wt (pt_cmp (pc_notN pe_w)) (ha F1 H1 g1 _ fun v F2 H2 g2 p => ⟨_, rfl, by rw [hk v F2 p]; exact q F2 H2 g2⟩)
theorem evt_isB {k l : Bool} (ha : Ev X a σ F H (pB k)) (hb : Ev X b σ F H (pB l)) : EvT X (.Compare a [.Is] [b] pos) σ F H (decide (k = l)) := evt_cmp op_isBl ha hb (fun _ _ _ _ g hx hy Q q => ⟨k, l, hx, hy, q _ _ _ (Gw.refl g.s) rfl⟩) (nomark _)
theorem evt_notB {k l : Bool} (ha : Ev X a σ F H (pB k)) (hb : Ev X b σ F H (pB l)) : EvT X (.Compare a [.IsNot] [b] pos) σ F H (!decide (k = l)) := evt_cmp op_notBl ha hb (fun _ _ _ _ g hx hy Q q => ⟨k, l, hx, hy, q _ _ _ (Gw.refl g.s) rfl⟩) (nomark _)

/-! ### arguments, displays -/
def pNil : List V → Hp → Prop := fun vs _ => vs = []
def pCons (p : Pr) (r : List V → Hp → Prop) : List V → Hp → Prop := fun vs F => ∃ v vr, vs = v :: vr ∧ p v F ∧ r vr F
theorem ea_nil : EvA X [] σ F H pNil := fun F1 H1 g1 Q q => wa pa_nil (q _ F1 H1 (Gw.refl g1.s) rfl)
theorem ea_cons [Mn P] {r : List V → Hp → Prop} (h : Ev X e σ F H P) (hr : EvA X es σ F H r) (hs : starEach (e :: es) X.env = (false, eval e X.env) :: starEach es X.env := by rfl) : EvA X (e :: es) σ F H (pCons P r) := fun F1 H1 g1 Q q =>
  wa (pa_cons pe_w pa_w hs) (h F1 H1 g1 _ fun v F2 H2 g2 p => hr F2 H2 (g1.trans g2) _ fun vs F3 H3 g3 pr => q _ F3 H3 (g2.trans g3) ⟨v, vs, rfl, Mn.mono _ _ _ g3.f p, pr⟩)
theorem ev_pair [Mn P] [Mn R] (h1 : Ev X a σ F H P) (h2 : Ev X b σ F H R) {x1 : Nat} (hs : starEach [a, b] X.env = (false, eval a X.env) :: starEach [b] X.env := by rfl) (hs2 : starEach [b] X.env = (false, eval b X.env) :: starEach [] X.env := by rfl) : Ev X (.Tuple [a, b] x1 pos) σ F H (pP P R) := fun F1 H1 g1 Q q =>
  we (pe_tup pa_w) (ea_cons h1 (ea_cons h2 ea_nil hs2) hs F1 H1 g1 _ fun vs F2 H2 g2 p => by
    obtain ⟨x, vr, rfl, px, y, vr2, rfl, py, rfl⟩ := p
    exact ⟨by show 2 ≤ sizeLine; decide, fun p hp => q _ _ _ (g2.trans (Gw.pub g2.s hp)) ⟨p, x, y, rfl, upd_same, Mn.mono _ _ _ (same_new (g2.s.free hp)) px, Mn.mono _ _ _ (same_new (g2.s.free hp)) py⟩⟩)
theorem ev_triple [Mn P] [Mn R] [Mn Pa] (h1 : Ev X a σ F H P) (h2 : Ev X b σ F H R) (h3 : Ev X c σ F H Pa) {x1 : Nat} (hs : starEach [a, b, c] X.env = (false, eval a X.env) :: starEach [b, c] X.env := by rfl) (hs2 : starEach [b, c] X.env = (false, eval b X.env) :: starEach [c] X.env := by rfl)
    (hs3 : starEach [c] X.env = (false, eval c X.env) :: starEach [] X.env := by rfl) : Ev X (.Tuple [a, b, c] x1 pos) σ F H (pP3 P R Pa) := fun F1 H1 g1 Q q =>
  we (pe_tup pa_w) (ea_cons h1 (ea_cons h2 (ea_cons h3 ea_nil hs3) hs2) hs F1 H1 g1 _ fun vs F2 H2 g2 p => by
    obtain ⟨x, vr, rfl, px, y, vr2, rfl, py, z, vr3, rfl, pz, rfl⟩ := p
    exact ⟨by show 3 ≤ sizeLine; decide, fun p hp => q _ _ _ (g2.trans (Gw.pub g2.s hp)) ⟨p, x, y, z, rfl, upd_same, Mn.mono _ _ _ (same_new (g2.s.free hp)) px, Mn.mono _ _ _ (same_new (g2.s.free hp)) py, Mn.mono _ _ _ (same_new (g2.s.free hp)) pz⟩⟩)
/-- (e,) -/
theorem ev_tup1 [∀ x, Mn (f x)] {x : α} (h1 : Ev X a σ F H (f x)) {x1 : Nat} (hs : starEach [a] X.env = (false, eval a X.env) :: starEach [] X.env := by rfl) : Ev X (.Tuple [a] x1 pos) σ F H (pT f [x]) := fun F1 H1 g1 Q q =>
  we (pe_tup pa_w) (ea_cons h1 ea_nil hs F1 H1 g1 _ fun vs F2 H2 g2 p => by
    obtain ⟨v, vr, rfl, px, rfl⟩ := p
    exact ⟨by show 1 ≤ sizeLine; decide, fun p hp => q _ _ _ (g2.trans (Gw.pub g2.s hp)) ⟨p, [v], rfl, upd_same, AllP.nil.cons (Mn.mono _ _ _ (same_new (g2.s.free hp)) px)⟩⟩)
theorem ev_tup0 {x1 : Nat} : Ev X (.Tuple [] x1 pos) σ F H (pT f []) := fun F1 H1 g1 Q q =>
  we (pe_tup pa_w) (ea_nil F1 H1 g1 _ fun vs F2 H2 g2 p => by
    cases p
    exact ⟨Nat.zero_le _, fun p hp => q _ _ _ (g2.trans (Gw.pub g2.s hp)) ⟨p, [], rfl, upd_same, AllP.nil⟩⟩)
/-- [] -/
theorem en_nil : EvN X (.List [] pos) σ F H f [] := fun F1 H1 g1 Q q =>
  we (pe_lst pa_w) (ea_nil F1 H1 g1 _ fun vs F2 H2 g2 p => by
    cases p
    exact ⟨Nat.zero_le _, fun p hp => q p [] F2 _ (g2.trans (Gw.prv g2.s hp)) (g2.new hp) (g2.s.free hp) upd_same AllP.nil⟩)
theorem en_lst1 [∀ x, Mn (f x)] {x : α} (h1 : Ev X a σ F H (f x)) (hs : starEach [a] X.env = (false, eval a X.env) :: starEach [] X.env := by rfl) : EvN X (.List [a] pos) σ F H f [x] := fun F1 H1 g1 Q q =>
  we (pe_lst pa_w) (ea_cons h1 ea_nil hs F1 H1 g1 _ fun vs F2 H2 g2 p => by
    obtain ⟨v, vr, rfl, px, rfl⟩ := p
    exact ⟨by show 1 ≤ sizeLine; decide, fun p hp => q p [v] F2 _ (g2.trans (Gw.prv g2.s hp)) (g2.new hp) (g2.s.free hp) upd_same (AllP.nil.cons px)⟩)
theorem en_lst2 [∀ x, Mn (f x)] {x y : α} (h1 : Ev X a σ F H (f x)) (h2 : Ev X b σ F H (f y)) (hs : starEach [a, b] X.env = (false, eval a X.env) :: starEach [b] X.env := by rfl) (hs2 : starEach [b] X.env = (false, eval b X.env) :: starEach [] X.env := by rfl) : EvN X (.List [a, b] pos) σ F H f [x, y] := fun F1 H1 g1 Q q =>
  we (pe_lst pa_w) (ea_cons h1 (ea_cons h2 ea_nil hs2) hs F1 H1 g1 _ fun vs F2 H2 g2 p => by
    obtain ⟨v, vr, rfl, px, w, vr2, rfl, py, rfl⟩ := p
    exact ⟨by show 2 ≤ sizeLine; decide, fun p hp => q p [v, w] F2 _ (g2.trans (Gw.prv g2.s hp)) (g2.new hp) (g2.s.free hp) upd_same ((AllP.nil.cons py).cons px)⟩)
theorem en_lst3 [∀ x, Mn (f x)] {x y z : α} (h1 : Ev X a σ F H (f x)) (h2 : Ev X b σ F H (f y)) (h3 : Ev X c σ F H (f z)) (hs : starEach [a, b, c] X.env = (false, eval a X.env) :: starEach [b, c] X.env := by rfl) (hs2 : starEach [b, c] X.env = (false, eval b X.env) :: starEach [c] X.env := by rfl)
    (hs3 : starEach [c] X.env = (false, eval c X.env) :: starEach [] X.env := by rfl) : EvN X (.List [a, b, c] pos) σ F H f [x, y, z] := fun F1 H1 g1 Q q =>
  we (pe_lst pa_w) (ea_cons h1 (ea_cons h2 (ea_cons h3 ea_nil hs3) hs2) hs F1 H1 g1 _ fun vs F2 H2 g2 p => by
    obtain ⟨v, vr, rfl, px, w, vr2, rfl, py, u, vr3, rfl, pz, rfl⟩ := p
    exact ⟨by show 3 ≤ sizeLine; decide, fun p hp => q p [v, w, u] F2 _ (g2.trans (Gw.prv g2.s hp)) (g2.new hp) (g2.s.free hp) upd_same (((AllP.nil.cons pz).cons py).cons px)⟩)

/-! ### subscripts -/
theorem atI_all {vs : List V} {k : Int} {x : α} (r : AllP f vs xs F) (h : atI xs k = some x) : ∃ v, atI vs k = some v ∧ f x v F := by
  unfold atI at h ⊢
  rw [r.1]
  cases q : ixN xs.length k with
  | none => rw [q] at h; cases h
  | some j =>
    rw [q] at h
    exact r.get h
theorem plainIx {b : Expr} (h : ∀ o i, subscripted b false o i = operate [o, i] (getItem o i)) : PlainIx b := h
theorem ev_ixL {k : Int} {x : α} [∀ x, Mn (f x)] (ha : Ev X a σ F H (pL f xs)) (hb : Ev X b σ F H (pI k)) (hx : atI xs k = some x) (hs : PlainIx b := by intro _ _; rfl) : Ev X (.Subscript a b pos) σ F H (f x) := fun F1 H1 g1 Q q =>
  we (pe_ix ix_list pe_w pe_w hs) (ha F1 H1 g1 _ fun v F2 H2 g2 p => hb F2 H2 (g1.trans g2) _ fun w F3 H3 g3 pw => by
    obtain ⟨l, vs, rfl, hl, r⟩ := Mn.mono _ _ _ g3.f p
    obtain ⟨y, hy, py⟩ := atI_all r hx
    exact ⟨l, vs, k, y, rfl, pw, SqL.of (g3.s _ _ hl), hy, q y F3 H3 (g2.trans g3) py⟩)
theorem ev_ixT {k : Int} {x : α} [∀ x, Mn (f x)] (ha : Ev X a σ F H (pT f xs)) (hb : Ev X b σ F H (pI k)) (hx : atI xs k = some x) (hs : PlainIx b := by intro _ _; rfl) : Ev X (.Subscript a b pos) σ F H (f x) := fun F1 H1 g1 Q q =>
  we (pe_ix ix_tup pe_w pe_w hs) (ha F1 H1 g1 _ fun v F2 H2 g2 p => hb F2 H2 (g1.trans g2) _ fun w F3 H3 g3 pw => by
    obtain ⟨l, vs, rfl, hl, r⟩ := Mn.mono _ _ _ g3.f p
    obtain ⟨y, hy, py⟩ := atI_all r hx
    exact ⟨l, vs, k, y, rfl, pw, SqT.of (g3.s _ _ hl), hy, q y F3 H3 (g2.trans g3) py⟩)
theorem ev_ixS {k : Int} {x : α} [∀ x, Mn (f x)] (ha : Ev X a σ F H (pS f xs)) (hb : Ev X b σ F H (pI k)) (hx : atI xs k = some x) (hs : PlainIx b := by intro _ _; rfl) : Ev X (.Subscript a b pos) σ F H (f x) := fun F1 H1 g1 Q q =>
  we (pe_ix (ix_list.or ix_tup) pe_w pe_w hs) (ha F1 H1 g1 _ fun v F2 H2 g2 p => hb F2 H2 (g1.trans g2) _ fun w F3 H3 g3 pw => by
    obtain ⟨l, vs, rfl, hl, r⟩ := Mn.mono _ _ _ g3.f p
    obtain ⟨y, hy, py⟩ := atI_all r hx
    rcases hl with hl | hl
    · exact .inl ⟨l, vs, k, y, rfl, pw, SqL.of (g3.s _ _ hl), hy, q y F3 H3 (g2.trans g3) py⟩
    · exact .inr ⟨l, vs, k, y, rfl, pw, SqT.of (g3.s _ _ hl), hy, q y F3 H3 (g2.trans g3) py⟩)
/-- of a pair -/
theorem ev_fst [Mn P] [Mn R] (ha : Ev X a σ F H (pP P R)) (hb : Ev X b σ F H (pI 0)) (hs : PlainIx b := by intro _ _; rfl) : Ev X (.Subscript a b pos) σ F H P := fun F1 H1 g1 Q q =>
  we (pe_ix ix_tup pe_w pe_w hs) (ha F1 H1 g1 _ fun v F2 H2 g2 p => hb F2 H2 (g1.trans g2) _ fun w F3 H3 g3 pw => by
    obtain ⟨l, x, y, rfl, hl, px, py⟩ := Mn.mono _ _ _ g3.f p
    exact ⟨l, _, 0, x, rfl, pw, SqT.of (g3.s _ _ hl), rfl, q x F3 H3 (g2.trans g3) px⟩)
theorem ev_snd [Mn P] [Mn R] (ha : Ev X a σ F H (pP P R)) (hb : Ev X b σ F H (pI 1)) (hs : PlainIx b := by intro _ _; rfl) : Ev X (.Subscript a b pos) σ F H R := fun F1 H1 g1 Q q =>
  we (pe_ix ix_tup pe_w pe_w hs) (ha F1 H1 g1 _ fun v F2 H2 g2 p => hb F2 H2 (g1.trans g2) _ fun w F3 H3 g3 pw => by
    obtain ⟨l, x, y, rfl, hl, px, py⟩ := Mn.mono _ _ _ g3.f p
    exact ⟨l, _, 1, y, rfl, pw, SqT.of (g3.s _ _ hl), rfl, q y F3 H3 (g2.trans g3) py⟩)
theorem ev_fst3 [Mn P] [Mn R] [Mn Pa] (ha : Ev X a σ F H (pP3 P R Pa)) (hb : Ev X b σ F H (pI 0)) (hs : PlainIx b := by intro _ _; rfl) : Ev X (.Subscript a b pos) σ F H P := fun F1 H1 g1 Q q =>
  we (pe_ix ix_tup pe_w pe_w hs) (ha F1 H1 g1 _ fun v F2 H2 g2 p => hb F2 H2 (g1.trans g2) _ fun w F3 H3 g3 pw => by
    obtain ⟨l, x, y, z, rfl, hl, px, py, pz⟩ := Mn.mono _ _ _ g3.f p
    exact ⟨l, _, 0, x, rfl, pw, SqT.of (g3.s _ _ hl), rfl, q x F3 H3 (g2.trans g3) px⟩)
theorem ev_snd3 [Mn P] [Mn R] [Mn Pa] (ha : Ev X a σ F H (pP3 P R Pa)) (hb : Ev X b σ F H (pI 1)) (hs : PlainIx b := by intro _ _; rfl) : Ev X (.Subscript a b pos) σ F H R := fun F1 H1 g1 Q q =>
  we (pe_ix ix_tup pe_w pe_w hs) (ha F1 H1 g1 _ fun v F2 H2 g2 p => hb F2 H2 (g1.trans g2) _ fun w F3 H3 g3 pw => by
    obtain ⟨l, x, y, z, rfl, hl, px, py, pz⟩ := Mn.mono _ _ _ g3.f p
    exact ⟨l, _, 1, y, rfl, pw, SqT.of (g3.s _ _ hl), rfl, q y F3 H3 (g2.trans g3) py⟩)
theorem ev_thd3 [Mn P] [Mn R] [Mn Pa] (ha : Ev X a σ F H (pP3 P R Pa)) (hb : Ev X b σ F H (pI 2)) (hs : PlainIx b := by intro _ _; rfl) : Ev X (.Subscript a b pos) σ F H Pa := fun F1 H1 g1 Q q =>
  we (pe_ix ix_tup pe_w pe_w hs) (ha F1 H1 g1 _ fun v F2 H2 g2 p => hb F2 H2 (g1.trans g2) _ fun w F3 H3 g3 pw => by
    obtain ⟨l, x, y, z, rfl, hl, px, py, pz⟩ := Mn.mono _ _ _ g3.f p
    exact ⟨l, _, 2, z, rfl, pw, SqT.of (g3.s _ _ hl), rfl, q z F3 H3 (g2.trans g3) pz⟩)
/-- of a list that is not frozen: l, its place and its items known -/
theorem ev_ixO {k : Int} {l : Addr} {vs : List V} {v : V} [Mn P] (ha : Ev X a σ F H (pIs (.ref l))) (hb : Ev X b σ F H (pI k)) (hl : H l = some (.lst vs)) (hx : atI vs k = some v) (hv : P v F) (hs : PlainIx b := by intro _ _; rfl) : Ev X (.Subscript a b pos) σ F H P := fun F1 H1 g1 Q q =>
  we (pe_ix ix_list pe_w pe_w hs) (ha F1 H1 g1 _ fun w F2 H2 g2 p => hb F2 H2 (g1.trans g2) _ fun u F3 H3 g3 pu => by
    cases p
    exact ⟨l, vs, k, v, rfl, pu, SqL.of (g3.h _ _ (g2.h _ _ (g1.h _ _ hl))), hx, q v F3 H3 (g2.trans g3) (Mn.mono _ _ _ (g1.f.trans (g2.f.trans g3.f)) hv)⟩)

/-! ### slices -/
theorem cutV_all {vs : List V} (r : AllP f vs xs F) (lo hi : Option Int) : AllP f (cutV vs lo hi) ((xs.drop (HT.sIx xs.length 0 lo)).take (HT.sIx xs.length xs.length hi - HT.sIx xs.length 0 lo)) F := by
  unfold cutV
  rw [r.1]
  exact (r.drop _).take _
/-- xs[:k] of a list -/
theorem en_upto {k : Nat} [∀ x, Mn (f x)] (ha : Ev X a σ F H (pL f xs)) (hb : Ev X b σ F H (pI (k : Int))) {p2 : Pos} : EvN X (.Subscript a (.Slice none (some b) none p2) pos) σ F H f (xs.take k) := fun F1 H1 g1 Q q =>
  we (pe_slice sl_list pe_w po_none (po_some pe_w)) (ha F1 H1 g1 _ fun v F2 H2 g2 p => hb F2 H2 (g1.trans g2) _ fun w F3 H3 g3 pw => by
    obtain ⟨l, vs, rfl, hl, r⟩ := Mn.mono _ _ _ g3.f p
    refine ⟨(k : Int), pw, l, vs, rfl, SqL.of (g3.s _ _ hl), fun p hp => q p _ F3 _ ((g2.trans g3).trans (Gw.prv g3.s hp)) ((g2.trans g3).new hp) (g3.s.free hp) upd_same ?_⟩
    have := cutV_all r none (some (k : Int))
    rw [HT.sIx_nat, HT.sIx_none, List.drop_zero, Nat.sub_zero] at this
    rwa [← List.take_eq_take_min] at this)
theorem ev_uptoT {k : Nat} [∀ x, Mn (f x)] (ha : Ev X a σ F H (pT f xs)) (hb : Ev X b σ F H (pI (k : Int))) {p2 : Pos} : Ev X (.Subscript a (.Slice none (some b) none p2) pos) σ F H (pT f (xs.take k)) := fun F1 H1 g1 Q q =>
  we (pe_slice sl_tupA pe_w po_none (po_some pe_w)) (ha F1 H1 g1 _ fun v F2 H2 g2 p => hb F2 H2 (g1.trans g2) _ fun w F3 H3 g3 pw => by
    obtain ⟨l, vs, rfl, hl, r⟩ := Mn.mono _ _ _ g3.f p
    have e1 : HT.sIx vs.length vs.length (some (k : Int)) = min k vs.length := HT.sIx_nat _ _ _
    have e0 : HT.sIx vs.length 0 none = 0 := HT.sIx_none _ _
    refine ⟨(k : Int), pw, l, vs, rfl, SqT.of (g3.s _ _ hl), fun hw => ?_, fun _ p hp => ?_⟩
    · have hk : vs.length ≤ k := by
        have := hw.2
        rw [e1] at this
        omega
      refine q _ F3 H3 (g2.trans g3) ⟨l, vs, rfl, hl, ?_⟩
      rw [List.take_of_length_le (by rw [← r.1]; exact hk)]
      exact r
    · refine q _ _ _ ((g2.trans g3).trans (Gw.pub g3.s hp)) ⟨p, _, rfl, upd_same, ?_⟩
      have := cutV_all r none (some (k : Int))
      rw [HT.sIx_nat, HT.sIx_none, List.drop_zero, Nat.sub_zero] at this
      rw [← List.take_eq_take_min] at this
      exact this.up (same_new (g3.s.free hp)))
theorem ev_fromT {k : Nat} [∀ x, Mn (f x)] (ha : Ev X a σ F H (pT f xs)) (hb : Ev X b σ F H (pI (k : Int))) {p2 : Pos} : Ev X (.Subscript a (.Slice (some b) none none p2) pos) σ F H (pT f (xs.drop k)) := fun F1 H1 g1 Q q =>
  we (pe_slice sl_tupA pe_w (po_some pe_w) po_none) (ha F1 H1 g1 _ fun v F2 H2 g2 p => hb F2 H2 (g1.trans g2) _ fun w F3 H3 g3 pw => by
    obtain ⟨l, vs, rfl, hl, r⟩ := Mn.mono _ _ _ g3.f p
    have e1 : HT.sIx vs.length 0 (some (k : Int)) = min k vs.length := HT.sIx_nat _ _ _
    have e0 : HT.sIx vs.length vs.length none = vs.length := HT.sIx_none _ _
    refine ⟨(k : Int), pw, l, vs, rfl, SqT.of (g3.s _ _ hl), fun hw => ?_, fun _ p hp => ?_⟩
    · have hk : min k vs.length = 0 := by
        have := hw.1
        rwa [e1] at this
      refine q _ F3 H3 (g2.trans g3) ⟨l, vs, rfl, hl, ?_⟩
      have e2 : xs.drop k = xs := by
        rcases Nat.eq_zero_or_pos k with z | z
        · rw [z, List.drop_zero]
        · have : vs.length = 0 := by omega
          rw [r.1] at this
          rw [List.length_eq_zero_iff.mp this, List.drop_nil]
      rw [e2]
      exact r
    · refine q _ _ _ ((g2.trans g3).trans (Gw.pub g3.s hp)) ⟨p, _, rfl, upd_same, ?_⟩
      have := cutV_all r (some (k : Int)) none
      rw [HT.sIx_nat, HT.sIx_none] at this
      have e3 : (xs.drop (min k xs.length)).take (xs.length - min k xs.length) = xs.drop k := by
        rw [List.take_of_length_le (by rw [List.length_drop]; exact Nat.le_refl _)]
        rcases Nat.le_total k xs.length with z | z
        · rw [Nat.min_eq_left z]
        · rw [Nat.min_eq_right z, List.drop_length, List.drop_eq_nil_of_le z]
      rw [e3] at this
      exact this.up (same_new (g3.s.free hp)))
/-- t + u -/
theorem ev_catT {ys : List α} [∀ x, Mn (f x)] (ha : Ev X a σ F H (pT f xs)) (hb : Ev X b σ F H (pT f ys)) (hz : xs.length + ys.length ≤ sizeLine) : Ev X (.BinOp a .Add b pos) σ F H (pT f (xs ++ ys)) :=
  ev_op op_catA ha hb fun x y F1 H1 g ⟨l, vs, ex, hl, r⟩ ⟨m, ws, ey, hm, r2⟩ Q q => by
    refine ⟨l, m, vs, ws, ex, ey, SqT.of (g.s _ _ hl), SqT.of (g.s _ _ hm), by rw [r.1, r2.1]; exact hz, fun hv => ?_, fun _ hw => ?_, fun _ _ p hp => ?_⟩
    · have : xs = [] := List.length_eq_zero_iff.mp (by rw [← r.1, hv]; rfl)
      exact q _ F1 H1 (Gw.refl g.s) ⟨m, ws, rfl, hm, by rw [this]; exact r2⟩
    · have : ys = [] := List.length_eq_zero_iff.mp (by rw [← r2.1, hw]; rfl)
      exact q _ F1 H1 (Gw.refl g.s) ⟨l, vs, rfl, hl, by rw [this, List.append_nil]; exact r⟩
    · exact q _ _ _ (Gw.pub g.s hp) ⟨p, _, rfl, upd_same, (r.app r2).up (same_new (g.s.free hp))⟩
end
end K24
set_option Elab.async false
set_option linter.all false
set_option maxRecDepth 100000
set_option maxHeartbeats 4000000
namespace K24
open PySem PySem.Spec PyProof.Rows L2

/-! ### what a def promises -/
abbrev Con := List V → Hp → Pr → Prop
/-- nothing that stood is changed; the answer is P's, frozen -/
def spP (c : Con) : Sp := fun vs H Q _ => ∃ F P, Same F H ∧ c vs F P ∧ ∀ v F' H', Gw F H F' H' → P v F' → Q v H'
/-- .. the answer is a new list that is not frozen -/
abbrev ConN := List V → Hp → (List V → Hp → Prop) → Prop
def spN (c : ConN) : Sp := fun vs H Q _ => ∃ F R, Same F H ∧ c vs F R ∧ ∀ p ws F' H', Gw F H F' H' → H p = none → F' p = none → H' p = some (.lst ws) → R ws F' → Q (.ref p) H'
structure FnD (P : Program) (w : World) (K : PySem.W.Frag) (mg : Str → Option Value) (base : Heap) (k : Nat) (x : Str) (sp : Sp) : Prop where
  ex : ∃ f fd ps, FnOk P w K mg base CX0 k f fd ps sp ∧ mg x = some (.ref f) ∧ PySem.W.keepIn K (.ref f) = true ∧ Binds K fd ps []
theorem FnD.up {P : Program} {w : World} {K : PySem.W.Frag} {mg : Str → Option Value} {base : Heap} {j k : Nat} {x : Str} {sp : Sp} (D : FnD P w K mg base j x sp) (h : j ≤ k) : FnD P w K mg base k x sp := by
  obtain ⟨f, fd, ps, a, b⟩ := D.ex
  exact ⟨f, fd, ps, a.mono h, b⟩
structure MtD (P : Program) (w : World) (K : PySem.W.Frag) (mg : Str → Option Value) (base : Heap) (k : Nat) (C : Addr) (m : Str) (sp : Sp) : Prop where
  ex : ∃ f fd ps, FnOk P w K mg base CX0 k f fd ps sp ∧ Meth K C m f ∧ Binds K fd ps []
theorem MtD.up {P : Program} {w : World} {K : PySem.W.Frag} {mg : Str → Option Value} {base : Heap} {j k : Nat} {C : Addr} {x : Str} {sp : Sp} (D : MtD P w K mg base j C x sp) (h : j ≤ k) : MtD P w K mg base k C x sp := by
  obtain ⟨f, fd, ps, a, b⟩ := D.ex
  exact ⟨f, fd, ps, a.mono h, b⟩
/-- a class that is made: ds fills up what is not written -/
structure MkD (P : Program) (w : World) (K : PySem.W.Frag) (mg : Str → Option Value) (base : Heap) (k : Nat) (C : Addr) (x : Str) (dvs : List V) (sp : Sp) : Prop where
  ex : ∃ f fd ps ds, FnOk P w K mg base CX0 k f fd ps sp ∧ Mk K C f ∧ mg x = some (.ref C) ∧ Vals dvs ds ∧ Binds K fd ps ds
theorem MkD.up {P : Program} {w : World} {K : PySem.W.Frag} {mg : Str → Option Value} {base : Heap} {j k : Nat} {C : Addr} {x : Str} {dvs : List V} {sp : Sp} (D : MkD P w K mg base j C x dvs sp) (h : j ≤ k) : MkD P w K mg base k C x dvs sp := by
  obtain ⟨f, fd, ps, ds, a, b⟩ := D.ex
  exact ⟨f, fd, ps, ds, a.mono h, b⟩

/-- as Gw, but for the objects at M, which may be changed -/
structure Gm (M : List Addr) (F H F' H' : Hp) : Prop where
  f : Same F F'
  h : ∀ a o, a ∉ M → H a = some o → H' a = some o
  s : Same F' H'
  n : ∀ a, H a ≠ none → F' a = F a
theorem Gw.gm {F H F' H' : Hp} {M : List Addr} (g : Gw F H F' H') : Gm M F H F' H' := ⟨g.f, fun a o _ => g.h a o, g.s, g.n⟩
theorem Gw.then {F H F1 H1 F2 H2 : Hp} {M : List Addr} (g : Gw F H F1 H1) (m : Gm M F1 H1 F2 H2) (h : ∀ a ∈ M, H a = none) : Gw F H F2 H2 := by
  refine ⟨g.f.trans m.f, fun a o e => m.h a o (fun z => ?_) (g.h a o e), m.s, fun a e => (m.n a fun q => e (g.h.free q)).trans (g.n a e)⟩
  rw [h a z] at e
  cases e

section
variable {X : Cx} {e a b c o : Expr} {es rest : List Expr} {σ : L2.St} {F H F' H' : Hp} {P P' R Pa Pb : Pr} {α β : Type} {f : α → Pr} {xs : List α} {pos p apos : Pos} {k : Nat} {x m : Str}

theorem ev_call {cn : Con} {Ps : List V → Hp → Prop} (D : FnD X.prog X.w X.K X.mg X.base k x (spP cn)) (hr : Room k X.A) (ha : EvA X (e :: es) σ F H Ps) (hc : ∀ vs F1, Same F F1 → Ps vs F1 → cn vs F1 P)
    (hg : Gl X x := by rfl) (hdb : (x == ("__debug__" : Str)) = false := by decide) (he : starEach (e :: es) X.env = (false, eval e X.env) :: starEach es X.env := by rfl) (hpl : (backTo pos (starEach es X.env)).any (·.1) = false := by rfl) : Ev X (.Call (.Name x p) (e :: es) [] pos) σ F H P := fun F1 H1 g1 Q q => by
  obtain ⟨f, fd, ps, D1, D2, D3, D4⟩ := D.ex
  refine we (pe_call D1 hr hg D2 D3 D4 .nil pass0 pa_w hdb he hpl) (ha F1 H1 g1 _ fun vs F2 H2 g2 pv => ?_)
  rw [List.append_nil]
  exact ⟨F2, P, g2.s, hc vs F2 (g1.f.trans g2.f) pv, fun v F3 H3 g3 p3 => q v F3 H3 (g2.trans g3) p3⟩
theorem en_call {cn : ConN} {Ps : List V → Hp → Prop} (D : FnD X.prog X.w X.K X.mg X.base k x (spN cn)) (hr : Room k X.A) (ha : EvA X (e :: es) σ F H Ps) (hc : ∀ vs F1, Same F F1 → Ps vs F1 → cn vs F1 (fun ws F2 => AllP f ws xs F2))
    (hg : Gl X x := by rfl) (hdb : (x == ("__debug__" : Str)) = false := by decide) (he : starEach (e :: es) X.env = (false, eval e X.env) :: starEach es X.env := by rfl) (hpl : (backTo pos (starEach es X.env)).any (·.1) = false := by rfl) : EvN X (.Call (.Name x p) (e :: es) [] pos) σ F H f xs := fun F1 H1 g1 Q q => by
  obtain ⟨f, fd, ps, D1, D2, D3, D4⟩ := D.ex
  refine we (pe_call D1 hr hg D2 D3 D4 .nil pass0 pa_w hdb he hpl) (ha F1 H1 g1 _ fun vs F2 H2 g2 pv => ?_)
  rw [List.append_nil]
  exact ⟨F2, _, g2.s, hc vs F2 (g1.f.trans g2.f) pv, fun p ws F3 H3 g3 n1 n2 e3 p3 => q p ws F3 H3 (g2.trans g3) (g2.new n1) n2 e3 p3⟩
/-- o.m(e, ..) -/
theorem ev_meth {cn : Con} {C : Addr} {Po : Pr} [Mn Po] {Ps : List V → Hp → Prop} {pl : Sem Bool} (cl : Cls X.K C) (D : MtD X.prog X.w X.K X.mg X.base k C m (spP cn)) (hr : Room k X.A) (ho : Ev X o σ F H Po) (ha : EvA X (e :: es) σ F H Ps)
    (hi : ∀ v F1, Po v F1 → ∃ a dx fs, v = .ref a ∧ F1 a = some (.ins C dx fs) ∧ fs.lookup m = none) (hc : ∀ v vs F1, Same F F1 → Po v F1 → Ps vs F1 → cn (v :: vs) F1 P)
    (hst : starEach (e :: es) X.env = (false, eval e X.env) :: starEach es X.env := by rfl) (hpl : (backTo pos (starEach es X.env)).any (·.1) = false := by rfl)
    (ht : eval (.Call (.Attribute o m apos) (e :: es) [] pos) X.env = (do
      let ov ← eval o X.env
      standAt apos.atName
      let (f, first) ← holding [ov] (getMethod ov m pl)
      callWith pos f first (backTo pos (starEach (e :: es) X.env)) (backToKw pos (keywordEach [] X.env))) := by rfl) : Ev X (.Call (.Attribute o m apos) (e :: es) [] pos) σ F H P := fun F1 H1 g1 Q q => by
  obtain ⟨f, fd, ps, D1, D2, D4⟩ := D.ex
  refine we (pe_meth (pl := pl) pe_w cl D2 D1 hr D4 .nil pass0 pa_w hst hpl ht) (ho F1 H1 g1 _ fun v F2 H2 g2 pv => ?_)
  obtain ⟨a, dx, fs, rfl, hF, hl⟩ := hi v F2 pv
  refine ⟨a, dx, fs, rfl, g2.s _ _ hF, hl, ha F2 H2 (g1.trans g2) _ fun vs F3 H3 g3 pvs => ?_⟩
  rw [List.append_nil]
  exact ⟨F3, P, g3.s, hc _ vs F3 (g1.f.trans (g2.f.trans g3.f)) (Mn.mono _ _ _ g3.f pv) pvs, fun v F4 H4 g4 p4 => q v F4 H4 ((g2.trans g3).trans g4) p4⟩
/-- o.m() -/
theorem ev_meth0 {cn : Con} {C : Addr} {Po : Pr} {pl : Sem Bool} (cl : Cls X.K C) (D : MtD X.prog X.w X.K X.mg X.base k C m (spP cn)) (hr : Room k X.A) (ho : Ev X o σ F H Po)
    (hi : ∀ v F1, Po v F1 → ∃ a dx fs, v = .ref a ∧ F1 a = some (.ins C dx fs) ∧ fs.lookup m = none) (hc : ∀ v F1, Same F F1 → Po v F1 → cn [v] F1 P)
    (ht : eval (.Call (.Attribute o m apos) [] [] pos) X.env = (do
      let ov ← eval o X.env
      standAt apos.atName
      let (f, first) ← holding [ov] (getMethod ov m pl)
      callWith pos f first (backTo pos (starEach [] X.env)) (backToKw pos (keywordEach [] X.env))) := by rfl) : Ev X (.Call (.Attribute o m apos) [] [] pos) σ F H P := fun F1 H1 g1 Q q => by
  obtain ⟨f, fd, ps, D1, D2, D4⟩ := D.ex
  refine we (pe_meth0 (pl := pl) pe_w cl D2 D1 hr D4 .nil pass0 ht) (ho F1 H1 g1 _ fun v F2 H2 g2 pv => ?_)
  obtain ⟨a, dx, fs, rfl, hF, hl⟩ := hi v F2 pv
  exact ⟨a, dx, fs, rfl, g2.s _ _ hF, hl, F2, P, g2.s, hc _ F2 (g1.f.trans g2.f) pv, fun v F4 H4 g4 p4 => q v F4 H4 (g2.trans g4) p4⟩
/-- what an __init__ promises: the instance at p gets its fields, nothing else is changed -/
def spI (C : Addr) (cn : List V → Hp → (List (Str × V) → Hp → Prop) → Prop) : Sp := fun vs H Q _ => ∃ F p dx vr R, vs = .ref p :: vr ∧ Same F H ∧ H p = some (.ins C dx []) ∧ F p = none ∧ cn vr F R ∧
  ∀ fs F' H', Gm [p] F H F' H' → H' p = some (.ins C dx fs) → F' p = none → R fs F' → Q .non H'
def pObj (C : Addr) (R : List (Str × V) → Hp → Prop) : Pr := fun v F => ∃ a dx fs, v = .ref a ∧ F a = some (.ins C dx fs) ∧ R fs F
/-- C(e, ..) -/
theorem ev_make {C : Addr} {dvs : List V} {cn : List V → Hp → (List (Str × V) → Hp → Prop) → Prop} {R : List (Str × V) → Hp → Prop} {Ps : List V → Hp → Prop} (D : MkD X.prog X.w X.K X.mg X.base k C x dvs (spI C cn)) (hr : Room (k + 1) X.A) (ha : EvA X (e :: es) σ F H Ps)
    (hc : ∀ vs F1, Same F F1 → Ps vs F1 → cn (vs ++ dvs) F1 R) (hR : ∀ fs F1 F2, Same F1 F2 → R fs F1 → R fs F2)
    (hg : Gl X x := by rfl) (hdb : (x == ("__debug__" : Str)) = false := by decide) (he : starEach (e :: es) X.env = (false, eval e X.env) :: starEach es X.env := by rfl) (hpl : (backTo pos (starEach es X.env)).any (·.1) = false := by rfl) : Ev X (.Call (.Name x p) (e :: es) [] pos) σ F H (pObj C R) := fun F1 H1 g1 Q q => by
  obtain ⟨f, fd, ps, ds, D1, D2, D3, D4, D5⟩ := D.ex
  refine we (pe_make D2 D1 hr hg D3 D5 D4 pass0 pa_w hdb he hpl) (ha F1 H1 g1 _ fun vs F2 H2 g2 pv => ?_)
  intro y dx ny nd ne
  have fy : F2 y = none := g2.s.free ny
  have fdx : F2 dx = none := g2.s.free nd
  have nyd : y ≠ dx := fun z => ne z.symm
  have e1 : ∀ b u, H2 b = some u → (upd (upd H2 dx (.own y)) y (.ins C dx [])) b = some u := fun b u q => by
    rw [upd_ne (ne_of_none q ny), upd_ne (ne_of_none q nd)]
    exact q
  refine ⟨F2, y, dx, _, R, rfl, fun b u q => e1 b u (g2.s b u q), upd_same, fy, hc vs F2 (g1.f.trans g2.f) pv, fun fs F3 H3 g3 e3 n3 r3 => ⟨rfl, q _ (upd F3 y (.ins C dx fs)) H3 (g2.trans ?_) ⟨y, dx, fs, rfl, upd_same, hR _ _ _ (same_new n3) r3⟩⟩⟩
  refine ⟨g3.f.trans (same_new n3), fun b u q => g3.h b u (fun z => ?_) (e1 b u q), fun b u q => ?_, fun b hb => ?_⟩
  · rw [List.mem_singleton] at z
    rw [z, ny] at q
    cases q
  · by_cases z : b = y
    · rw [z, upd_same] at q
      rw [z, e3, ← q]
    · rw [upd_ne z] at q
      exact g3.s b u q
  · have z : b ≠ y := fun z => hb (by rw [z]; exact ny)
    rw [upd_ne z]
    refine g3.n b fun q => ?_
    cases r : H2 b with
    | none => exact hb r
    | some u =>
      rw [e1 b u r] at q
      cases q
/-- o.f -/
theorem ev_fld {Po : Pr} {fl : Str} (ho : Ev X o σ F H Po) (h : ∀ v F1, Same F F1 → Po v F1 → ∃ a C dx fs u, v = .ref a ∧ F1 a = some (.ins C dx fs) ∧ Cls X.K C ∧ NoAttr X.K C fl ∧ fs.lookup fl = some u ∧ R u F1)
    (hb : attributeBase o fl X.env (eval o X.env) = eval o X.env := by rfl) : Ev X (.Attribute o fl pos) σ F H R := fun F1 H1 g1 Q q =>
  we (pe_fld pe_w hb) (ho F1 H1 g1 _ fun v F2 H2 g2 pv => by
    obtain ⟨a, C, dx, fs, u, rfl, hF, h1, h2, h3, h4⟩ := h v F2 (g1.f.trans g2.f) pv
    exact ⟨a, C, dx, fs, u, rfl, g2.s _ _ hF, h1, h2, h3, q u F2 H2 g2 h4⟩)

/-! ### built-ins -/
theorem ev_B {id : String} {r : List V → Hp → VK → Prop} {Ps : List V → Hp → Prop} (hr : CallR X (.builtin id) r) (hm : X.mg x = none) (hv : bootBuiltins x = some (.builtin id)) (ha : EvA X (e :: es) σ F H Ps)
    (h : ∀ vs F1 H1, Gw F H F1 H1 → Ps vs F1 → ∀ Q : VK, (∀ v F2 H2, Gw F1 H1 F2 H2 → P v F2 → Q v H2) → r vs H1 Q) (hg : Gl X x := by rfl) (hn : x ≠ "__name__" := by decide) (hdb : (x == ("__debug__" : Str)) = false := by decide)
    (he : starEach (e :: es) X.env = (false, eval e X.env) :: starEach es X.env := by rfl) (hpl : (backTo pos (starEach es X.env)).any (·.1) = false := by rfl) : Ev X (.Call (.Name x p) (e :: es) [] pos) σ F H P := fun F1 H1 g1 Q q =>
  we (pe_callB hr hg hm hv pa_w hn hdb he hpl) (ha F1 H1 g1 _ fun vs F2 H2 g2 pv => h vs F2 H2 (g1.trans g2) pv Q fun v F3 H3 g3 p3 => q v F3 H3 (g2.trans g3) p3)
theorem ev_T {T : String} {r : List V → Hp → VK → Prop} {Ps : List V → Hp → Prop} (hr : CallR X (.type T) r) (hm : X.mg x = none) (hv : bootBuiltins x = some (.type T)) (ha : EvA X (e :: es) σ F H Ps)
    (h : ∀ vs F1 H1, Gw F H F1 H1 → Ps vs F1 → ∀ Q : VK, (∀ v F2 H2, Gw F1 H1 F2 H2 → P v F2 → Q v H2) → r vs H1 Q) (hg : Gl X x := by rfl) (hn : x ≠ "__name__" := by decide) (hdb : (x == ("__debug__" : Str)) = false := by decide)
    (he : starEach (e :: es) X.env = (false, eval e X.env) :: starEach es X.env := by rfl) (hpl : (backTo pos (starEach es X.env)).any (·.1) = false := by rfl) : Ev X (.Call (.Name x p) (e :: es) [] pos) σ F H P := fun F1 H1 g1 Q q =>
  we (pe_callTy hr hg hm hv pa_w hn hdb he hpl) (ha F1 H1 g1 _ fun vs F2 H2 g2 pv => h vs F2 H2 (g1.trans g2) pv Q fun v F3 H3 g3 p3 => q v F3 H3 (g2.trans g3) p3)
theorem en_T {T : String} {r : List V → Hp → VK → Prop} {Ps : List V → Hp → Prop} (hr : CallR X (.type T) r) (hm : X.mg x = none) (hv : bootBuiltins x = some (.type T)) (ha : EvA X (e :: es) σ F H Ps)
    (h : ∀ vs F1 H1, Gw F H F1 H1 → Ps vs F1 → ∀ Q : VK, (∀ p ws F2 H2, Gw F1 H1 F2 H2 → H1 p = none → F2 p = none → H2 p = some (.lst ws) → AllP f ws xs F2 → Q (.ref p) H2) → r vs H1 Q) (hg : Gl X x := by rfl) (hn : x ≠ "__name__" := by decide) (hdb : (x == ("__debug__" : Str)) = false := by decide)
    (he : starEach (e :: es) X.env = (false, eval e X.env) :: starEach es X.env := by rfl) (hpl : (backTo pos (starEach es X.env)).any (·.1) = false := by rfl) : EvN X (.Call (.Name x p) (e :: es) [] pos) σ F H f xs := fun F1 H1 g1 Q q =>
  we (pe_callTy hr hg hm hv pa_w hn hdb he hpl) (ha F1 H1 g1 _ fun vs F2 H2 g2 pv => h vs F2 H2 (g1.trans g2) pv Q fun p ws F3 H3 g3 n1 n2 e3 p3 => q p ws F3 H3 (g2.trans g3) (g2.new n1) n2 e3 p3)
/-- one argument -/
theorem ea_one [Mn P] (h : Ev X e σ F H P) (hs : starEach [e] X.env = (false, eval e X.env) :: starEach [] X.env := by rfl) : EvA X [e] σ F H (pCons P pNil) := ea_cons h ea_nil hs
theorem ev_lenS [∀ x, Mn (f x)] (hm : X.mg "len" = none) (ha : Ev X e σ F H (pS f xs)) (hg : Gl X "len" := by rfl) (hs : starEach [e] X.env = (false, eval e X.env) :: starEach [] X.env := by rfl) : Ev X (.Call (.Name "len" p) [e] [] pos) σ F H (pI (xs.length : Int)) :=
  ev_B call_len_seq hm PySem.boot_len (ea_one ha hs) (fun vs F1 H1 g ⟨v, _, e1, ⟨l, ws, e2, hl, r⟩, e3⟩ Q q => by
    cases e3
    subst e1 e2
    refine ⟨l, ws, rfl, hl.imp (fun h => SqL.of (g.s _ _ h)) (fun h => SqT.of (g.s _ _ h)), ?_⟩
    rw [r.1]
    exact q _ _ _ (Gw.refl g.s) rfl) hg (he := hs)
theorem ev_lenL [∀ x, Mn (f x)] (hm : X.mg "len" = none) (ha : Ev X e σ F H (pL f xs)) (hg : Gl X "len" := by rfl) (hs : starEach [e] X.env = (false, eval e X.env) :: starEach [] X.env := by rfl) : Ev X (.Call (.Name "len" p) [e] [] pos) σ F H (pI (xs.length : Int)) := ev_lenS (f := f) hm (ha.imp fun _ _ _ h => h.s) hg hs
theorem ev_lenT [∀ x, Mn (f x)] (hm : X.mg "len" = none) (ha : Ev X e σ F H (pT f xs)) (hg : Gl X "len" := by rfl) (hs : starEach [e] X.env = (false, eval e X.env) :: starEach [] X.env := by rfl) : Ev X (.Call (.Name "len" p) [e] [] pos) σ F H (pI (xs.length : Int)) := ev_lenS (f := f) hm (ha.imp fun _ _ _ h => h.s) hg hs
theorem ev_lenO {l : Addr} {ws : List V} (hm : X.mg "len" = none) (ha : Ev X e σ F H (pIs (.ref l))) (hl : H l = some (.lst ws)) (hg : Gl X "len" := by rfl) (hs : starEach [e] X.env = (false, eval e X.env) :: starEach [] X.env := by rfl) : Ev X (.Call (.Name "len" p) [e] [] pos) σ F H (pI (ws.length : Int)) :=
  ev_B call_len_seq hm PySem.boot_len (ea_one ha hs) (fun vs F1 H1 g ⟨v, _, e1, e2, e3⟩ Q q => by
    cases e3
    cases e2
    subst e1
    exact ⟨l, ws, rfl, .inl (SqL.of (g.h _ _ hl)), q _ _ _ (Gw.refl g.s) rfl⟩) hg (he := hs)
theorem ev_abs {i : Int} (hm : X.mg "abs" = none) (ha : Ev X e σ F H (pI i)) (hg : Gl X "abs" := by rfl) (hs : starEach [e] X.env = (false, eval e X.env) :: starEach [] X.env := by rfl) : Ev X (.Call (.Name "abs" p) [e] [] pos) σ F H (pI (i.natAbs : Int)) :=
  ev_B call_abs hm (by decide +kernel) (ea_one ha hs) (fun vs F1 H1 g ⟨v, _, e1, e2, e3⟩ Q q => by
    cases e3
    cases e2
    subst e1
    refine ⟨i, rfl, ?_⟩
    have e0 : (if i < 0 then -i else i) = (i.natAbs : Int) := by split <;> omega
    rw [e0]
    exact q _ _ _ (Gw.refl g.s) rfl) hg (he := hs)
theorem ev_sumL {r : List Int} (hm : X.mg "sum" = none) (hc : X.calm = true) (ha : Ev X e σ F H (pL pI r)) (hg : Gl X "sum" := by rfl) (hs : starEach [e] X.env = (false, eval e X.env) :: starEach [] X.env := by rfl) : Ev X (.Call (.Name "sum" p) [e] [] pos) σ F H (pI r.sum) :=
  ev_B (cr_sum hc) hm (by decide +kernel) (ea_one ha hs) (fun vs F1 H1 g ⟨v, _, e1, ⟨l, ws, e2, hl, rr⟩, e3⟩ Q q => by
    cases e3
    subst e1 e2
    exact ⟨l, r, rfl, SqL.of (by rw [← rr.ints]; exact g.s _ _ hl), q _ _ _ (Gw.refl g.s) rfl⟩) hg (he := hs)
theorem ev_allL {r : List Bool} (hm : X.mg "all" = none) (hc : X.calm = true) (ha : Ev X e σ F H (pL pB r)) (hg : Gl X "all" := by rfl) (hs : starEach [e] X.env = (false, eval e X.env) :: starEach [] X.env := by rfl) : Ev X (.Call (.Name "all" p) [e] [] pos) σ F H (pB (r.all id)) :=
  ev_B (cr_all hc) hm (by decide +kernel) (ea_one ha hs) (fun vs F1 H1 g ⟨v, _, e1, ⟨l, ws, e2, hl, rr⟩, e3⟩ Q q => by
    cases e3
    subst e1 e2
    exact ⟨l, r, rfl, SqL.of (by rw [← rr.bools]; exact g.s _ _ hl), q _ _ _ (Gw.refl g.s) rfl⟩) hg (he := hs)
theorem ev_minL {r : List Int} {mn : Int} (hm : X.mg "min" = none) (hc : X.calm = true) (ha : Ev X e σ F H (pL pI r)) (hp : 0 < r.length) (hmn : ∀ y, y ∈ r → (∀ z, z ∈ r → y ≤ z) → y = mn) (hg : Gl X "min" := by rfl) (hs : starEach [e] X.env = (false, eval e X.env) :: starEach [] X.env := by rfl) : Ev X (.Call (.Name "min" p) [e] [] pos) σ F H (pI mn) :=
  ev_B (cr_min hc) hm (by decide +kernel) (ea_one ha hs) (fun vs F1 H1 g ⟨v, _, e1, ⟨l, ws, e2, hl, rr⟩, e3⟩ Q q => by
    cases e3
    subst e1 e2
    exact ⟨l, r, rfl, SqL.of (by rw [← rr.ints]; exact g.s _ _ hl), hp, fun y h1 h2 => q _ _ _ (Gw.refl g.s) (by rw [hmn y h1 h2]; rfl)⟩) hg (he := hs)
theorem ev_min2 {i j : Int} (hm : X.mg "min" = none) (hc : X.calm = true) (ha : Ev X a σ F H (pI i)) (hb : Ev X b σ F H (pI j)) (hg : Gl X "min" := by rfl) (hs : starEach [a, b] X.env = (false, eval a X.env) :: starEach [b] X.env := by rfl) (hs2 : starEach [b] X.env = (false, eval b X.env) :: starEach [] X.env := by rfl)
    (hpl : (backTo pos (starEach [b] X.env)).any (·.1) = false := by rfl) : Ev X (.Call (.Name "min" p) [a, b] [] pos) σ F H (pI (if j < i then j else i)) :=
  ev_B (call_min2 hc) hm (by decide +kernel) (ea_cons ha (ea_one hb hs2) hs) (fun vs F1 H1 g ⟨v, _, e1, e2, w, _, e4, e5, e3⟩ Q q => by
    cases e3
    cases e2
    cases e5
    subst e1 e4
    exact ⟨i, j, rfl, q _ _ _ (Gw.refl g.s) rfl⟩) hg (he := hs) (hpl := hpl)
theorem ev_int1 {i : Int} (hm : X.mg "int" = none) (ha : Ev X e σ F H (pI i)) (hg : Gl X "int" := by rfl) (hs : starEach [e] X.env = (false, eval e X.env) :: starEach [] X.env := by rfl) : Ev X (.Call (.Name "int" p) [e] [] pos) σ F H (pI i) :=
  ev_T call_int1 hm (by decide +kernel) (ea_one ha hs) (fun vs F1 H1 g ⟨v, _, e1, e2, e3⟩ Q q => by
    cases e3
    cases e2
    subst e1
    exact .inl ⟨i, rfl, q _ _ _ (Gw.refl g.s) rfl⟩) hg (he := hs)
theorem ev_intB {k : Bool} (hm : X.mg "int" = none) (ha : Ev X e σ F H (pB k)) (hg : Gl X "int" := by rfl) (hs : starEach [e] X.env = (false, eval e X.env) :: starEach [] X.env := by rfl) : Ev X (.Call (.Name "int" p) [e] [] pos) σ F H (pI (if k then 1 else 0)) :=
  ev_T call_int1 hm (by decide +kernel) (ea_one ha hs) (fun vs F1 H1 g ⟨v, _, e1, e2, e3⟩ Q q => by
    cases e3
    cases e2
    subst e1
    exact .inr ⟨k, rfl, q _ _ _ (Gw.refl g.s) rfl⟩) hg (he := hs)
/-- tuple(a frozen list), tuple(a tuple) -/
theorem ev_tupS [∀ x, Mn (f x)] (hm : X.mg "tuple" = none) (ha : Ev X e σ F H (pS f xs)) (hg : Gl X "tuple" := by rfl) (hs : starEach [e] X.env = (false, eval e X.env) :: starEach [] X.env := by rfl) : Ev X (.Call (.Name "tuple" p) [e] [] pos) σ F H (pT f xs) :=
  ev_T call_tuple_of hm (by decide +kernel) (ea_one ha hs) (fun vs F1 H1 g ⟨v, _, e1, ⟨l, ws, e2, hl, r⟩, e3⟩ Q q => by
    cases e3
    subst e1 e2
    rcases hl with hl | hl
    · exact ⟨l, ws, rfl, .inl ⟨SqL.of (g.s _ _ hl), fun p hp => q _ _ _ (Gw.pub g.s hp) ⟨p, ws, rfl, upd_same, r.up (same_new (g.s.free hp))⟩⟩⟩
    · exact ⟨l, ws, rfl, .inr ⟨SqT.of (g.s _ _ hl), q _ _ _ (Gw.refl g.s) ⟨l, ws, rfl, hl, r⟩⟩⟩) hg (he := hs)
theorem ev_tupL [∀ x, Mn (f x)] (hm : X.mg "tuple" = none) (ha : Ev X e σ F H (pL f xs)) (hg : Gl X "tuple" := by rfl) (hs : starEach [e] X.env = (false, eval e X.env) :: starEach [] X.env := by rfl) : Ev X (.Call (.Name "tuple" p) [e] [] pos) σ F H (pT f xs) := ev_tupS hm (ha.imp fun _ _ _ h => h.s) hg hs
/-- tuple(a list that is not frozen) -/
theorem ev_tupO {l : Addr} {ws : List V} [∀ x, Mn (f x)] (hm : X.mg "tuple" = none) (ha : Ev X e σ F H (pIs (.ref l))) (hl : H l = some (.lst ws)) (r : AllP f ws xs F) (hg : Gl X "tuple" := by rfl) (hs : starEach [e] X.env = (false, eval e X.env) :: starEach [] X.env := by rfl) : Ev X (.Call (.Name "tuple" p) [e] [] pos) σ F H (pT f xs) :=
  ev_T call_tuple_of hm (by decide +kernel) (ea_one ha hs) (fun vs F1 H1 g ⟨v, _, e1, e2, e3⟩ Q q => by
    cases e3
    cases e2
    subst e1
    exact ⟨l, ws, rfl, .inl ⟨SqL.of (g.h _ _ hl), fun p hp => q _ _ _ (Gw.pub g.s hp) ⟨p, ws, rfl, upd_same, r.up (g.f.trans (same_new (g.s.free hp)))⟩⟩⟩) hg (he := hs)
/-- list(..) -/
theorem en_listS [∀ x, Mn (f x)] (hm : X.mg "list" = none) (ha : Ev X e σ F H (pS f xs)) (hg : Gl X "list" := by rfl) (hs : starEach [e] X.env = (false, eval e X.env) :: starEach [] X.env := by rfl) : EvN X (.Call (.Name "list" p) [e] [] pos) σ F H f xs :=
  en_T call_list_of hm (by decide +kernel) (ea_one ha hs) (fun vs F1 H1 g ⟨v, _, e1, ⟨l, ws, e2, hl, r⟩, e3⟩ Q q => by
    cases e3
    subst e1 e2
    exact ⟨l, ws, rfl, hl.imp (fun h => SqL.of (g.s _ _ h)) (fun h => SqT.of (g.s _ _ h)), fun p hp => q p ws F1 _ (Gw.prv g.s hp) hp (g.s.free hp) upd_same r⟩) hg (he := hs)
theorem en_listO {l : Addr} {ws : List V} [∀ x, Mn (f x)] (hm : X.mg "list" = none) (ha : Ev X e σ F H (pIs (.ref l))) (hl : H l = some (.lst ws)) (r : AllP f ws xs F) (hg : Gl X "list" := by rfl) (hs : starEach [e] X.env = (false, eval e X.env) :: starEach [] X.env := by rfl) : EvN X (.Call (.Name "list" p) [e] [] pos) σ F H f xs :=
  en_T call_list_of hm (by decide +kernel) (ea_one ha hs) (fun vs F1 H1 g ⟨v, _, e1, e2, e3⟩ Q q => by
    cases e3
    cases e2
    subst e1
    exact ⟨l, ws, rfl, .inl (SqL.of (g.h _ _ hl)), fun p hp => q p ws F1 _ (Gw.prv g.s hp) hp (g.s.free hp) upd_same (r.up g.f)⟩) hg (he := hs)
/-- the ints from lo on, below hi -/
def rng (lo hi : Int) : List Int := (List.range (hi - lo).toNat).map fun i => lo + (i : Nat)
theorem rng_len (lo hi : Int) : (rng lo hi).length = (hi - lo).toNat := by unfold rng; rw [List.length_map, List.length_range]
theorem mem_rng {lo hi x : Int} : x ∈ rng lo hi ↔ lo ≤ x ∧ x < hi := by
  unfold rng
  rw [List.mem_map]
  constructor
  · rintro ⟨i, h, rfl⟩
    rw [List.mem_range] at h
    omega
  · rintro ⟨h1, h2⟩
    exact ⟨(x - lo).toNat, List.mem_range.mpr (by omega), by omega⟩
theorem rng_get {lo hi : Int} {i : Nat} {x : Int} (h : (rng lo hi)[i]? = some x) : x = lo + i ∧ lo + i < hi := by
  obtain ⟨hh, e⟩ := List.getElem?_eq_some_iff.mp h
  have h2 : i < (hi - lo).toNat := by rw [← rng_len]; exact hh
  have e2 : lo + (i : Nat) = x := by
    rw [← e]
    simp [rng]
  exact ⟨e2.symm, by omega⟩
end
end K24
set_option Elab.async false
set_option linter.all false
set_option maxRecDepth 100000
set_option maxHeartbeats 4000000
namespace K24
open PySem PySem.Spec PyProof.Rows L2

/-! ### what a loop walks -/
def Src {α : Type} (J : It) (F : Hp) (p : α → Pr) (xs : List α) : Prop := ∀ F3 H3, Same F F3 → Same F3 H3 →
  J.stop xs.length H3 ∧ ∀ i x, xs[i]? = some x → J.go i H3 ∧ ∀ v H4, J.yld i H3 v H4 → ∃ F4, Gw F3 H3 F4 H4 ∧ p x v F4
def WI (X : Cx) (tg iter : Expr) : TI := fun σ H R => ∀ (pins : List (Addr × Obj)) (s : Shared), Inv X pins σ H s →
  wpAny (model X.prog X.w) X.A (eval iter X.env) (fun v s1 => wpAny (model X.prog X.w) X.A (pyIter v) (PIE X pins σ tg R) X.xe s1) X.xe s
theorem pi_w {X : Cx} {tg iter : Expr} : PI X tg iter (WI X tg iter) := ⟨fun pins s _ _ _ I h => h pins s I⟩
theorem wi_ {X : Cx} {tg iter : Expr} {t : TI} {σ : L2.St} {H : Hp} {R : It → Hp → Prop} (h : PI X tg iter t) (q : t σ H R) : WI X tg iter σ H R := fun pins s I => h.run pins s σ H R I q
def Wk {α : Type} (X : Cx) (tg iter : Expr) (σ : L2.St) (F H : Hp) (p : α → Pr) (xs : List α) : Prop := ∀ F1 H1, Gw F H F1 H1 → ∀ R : It → Hp → Prop, (∀ J F2 H2, Gw F1 H1 F2 H2 → Src J F2 p xs → R J H2) → WI X tg iter σ H1 R
section
variable {X : Cx} {tg e a b : Expr} {es rest : List Expr} {σ : L2.St} {F H F' H' : Hp} {α β γ : Type} {f : α → Pr} {xs : List α} {pos p p2 : Pos}
theorem wk_S [∀ x, Mn (f x)] (hl : (Ev X e σ F H (pL f xs)) ∨ Ev X e σ F H (pT f xs)) : Wk X tg e σ F H f xs := fun F1 H1 g1 R q => by
  rcases hl with hl | hl
  · refine wi_ (pi_list pe_w) (hl F1 H1 g1 _ fun v F2 H2 g2 ⟨l, vs, ev, hF, r⟩ => ⟨l, ev, ⟨vs, SqL.of (g2.s _ _ hF)⟩, q _ F2 H2 g2 fun F3 H3 s1 s2 => ?_⟩)
    have h3 : SqL X.K H3 l vs := SqL.of (s2 _ _ (s1 _ _ hF))
    refine ⟨⟨vs, h3, Nat.le_of_eq r.1⟩, fun i x hx => ?_⟩
    obtain ⟨y, hy, py⟩ := r.get hx
    refine ⟨⟨vs, y, h3, hy⟩, fun v H4 hv => ?_⟩
    obtain ⟨rfl, hv2⟩ := hv
    have := hv2 vs h3
    rw [hy] at this
    cases this
    exact ⟨F3, Gw.refl s2, Mn.mono _ _ _ s1 py⟩
  · refine wi_ (pi_tup pe_w) (hl F1 H1 g1 _ fun v F2 H2 g2 ⟨l, vs, ev, hF, r⟩ => ⟨l, ev, ⟨vs, SqT.of (g2.s _ _ hF)⟩, q _ F2 H2 g2 fun F3 H3 s1 s2 => ?_⟩)
    have h3 : SqT X.K H3 l vs := SqT.of (s2 _ _ (s1 _ _ hF))
    refine ⟨⟨vs, h3, Nat.le_of_eq r.1⟩, fun i x hx => ?_⟩
    obtain ⟨y, hy, py⟩ := r.get hx
    refine ⟨⟨vs, y, h3, hy⟩, fun v H4 hv => ?_⟩
    obtain ⟨rfl, hv2⟩ := hv
    have := hv2 vs h3
    rw [hy] at this
    cases this
    exact ⟨F3, Gw.refl s2, Mn.mono _ _ _ s1 py⟩
theorem wk_L [∀ x, Mn (f x)] (hl : Ev X e σ F H (pL f xs)) : Wk X tg e σ F H f xs := wk_S (.inl hl)
theorem wk_T [∀ x, Mn (f x)] (hl : Ev X e σ F H (pT f xs)) : Wk X tg e σ F H f xs := wk_S (.inr hl)
theorem src_rng {lo : Int} {n : Nat} {hi : Int} (hn : n = (hi - lo).toNat) : Src (Itr lo n) F pI (rng lo hi) := fun F3 H3 s1 s2 => by
  refine ⟨by rw [rng_len, ← hn]; exact Nat.le_refl n, fun i x hx => ?_⟩
  obtain ⟨e1, e2⟩ := rng_get hx
  refine ⟨show i < n by omega, fun v H4 hv => ?_⟩
  obtain ⟨rfl, rfl⟩ := hv
  exact ⟨F3, Gw.refl s2, by rw [e1]; rfl⟩
theorem wk_rng1 {n : Int} (hm : X.mg "range" = none) (ha : Ev X a σ F H (pI n)) (h1 : -(2 ^ 62) ≤ n) (h2 : n < 2 ^ 62) (hg : Gl X "range" := by rfl) (hs : starEach [a] X.env = (false, eval a X.env) :: starEach [] X.env := by rfl)
    (hs2 : starEach [a] X.env = [(false, eval a X.env)] := by rfl) : Wk X tg (.Call (.Name "range" p) [a] [] pos) σ F H pI (rng 0 n) := fun F1 H1 g1 R q =>
  wi_ (pi_range1 hg hm pa_w hs2) (ea_one ha hs F1 H1 g1 _ fun vs F2 H2 g2 ⟨v, _, e1, e2, e3⟩ => by
    cases e3
    cases e2
    subst e1
    exact ⟨n, rfl, h1, h2, q _ F2 H2 g2 (src_rng (by omega))⟩)
theorem wk_rng2 {m n : Int} (hm : X.mg "range" = none) (ha : Ev X a σ F H (pI m)) (hb : Ev X b σ F H (pI n)) (h : -(2 ^ 62) ≤ m ∧ m < 2 ^ 62 ∧ -(2 ^ 62) ≤ n ∧ n < 2 ^ 62) (hg : Gl X "range" := by rfl) (hs : starEach [a, b] X.env = (false, eval a X.env) :: starEach [b] X.env := by rfl) (hs1 : starEach [b] X.env = (false, eval b X.env) :: starEach [] X.env := by rfl)
    (hs2 : starEach [a, b] X.env = [(false, eval a X.env), (false, eval b X.env)] := by rfl) (hs3 : starEach [b] X.env = [(false, eval b X.env)] := by rfl) : Wk X tg (.Call (.Name "range" p) [a, b] [] pos) σ F H pI (rng m n) := fun F1 H1 g1 R q =>
  wi_ (pi_range2 hg hm pa_w hs2 hs3) (ea_cons ha (ea_one hb hs1) hs F1 H1 g1 _ fun vs F2 H2 g2 ⟨v, _, e1, e2, w, _, e4, e5, e3⟩ => by
    cases e3
    cases e2
    cases e5
    subst e1 e4
    exact ⟨m, n, rfl, h, q _ F2 H2 g2 (src_rng rfl)⟩)

/-! ### list comprehensions -/
theorem take_filter_map {xs : List α} {b : α → Bool} {y : α → β} {i : Nat} {x : α} (h : xs[i]? = some x) : ((xs.take (i + 1)).filter b).map y = ((xs.take i).filter b).map y ++ (if b x then [y x] else []) := by
  rw [List.take_add_one, h, List.filter_append, List.map_append]
  cases hb : b x with
  | true => simp [hb]
  | false => simp [hb]
/-- what a comprehension comes to, whatever its list is given to -/
abbrev teB (X : Cx) (scope : Scope) (elt : Expr) : TE := fun σ2 H2 Q2 => ∀ (s : Shared) (H' : Hp) (C : Addr) (cl : List (Str × Addr)) (fp : List Addr), WE (X.blk s H' scope (compEnvC scope cl C X.env) fp) elt σ2 H2 Q2
def LcR {β : Type} (X : Cx) (elt tg iter : Expr) (ifs : List Expr) (scope : Scope) (σ : L2.St) (F H : Hp) (f : β → Pr) (ys : List β) : Prop := ∃ (own : List (Str × Nat)) (g : TG) (tt : TT), X.calm = true ∧ X.N.Nodup ∧ BlkOk X.N X.env.scope scope own ∧
  (∀ (s : Shared) (H : Hp) (C : Addr) (cl : List (Str × Addr)) (fp : List Addr), PG (X.blk s H scope (compEnvC scope cl C X.env) fp) tg g) ∧ (∀ (s : Shared) (H : Hp) (C : Addr) (cl : List (Str × Addr)) (fp : List Addr), PTs (X.blk s H scope (compEnvC scope cl C X.env) fp) ifs tt) ∧
  (∀ x, foldedSetIterable iter X.env x = pure x) ∧ ∀ F1 H1, Gw F H F1 H1 → ∀ Q : VK, (∀ p vs F2 H2, Gw F1 H1 F2 H2 → H1 p = none → F2 p = none → H2 p = some (.lst vs) → AllP f vs ys F2 → Q (.ref p) H2) → tLc (WI X tg iter) g tt (teB X scope elt) (own.map (·.2)) σ H1 Q
theorem LcR.en {X : Cx} {elt tg iter : Expr} {ifs : List Expr} {scope : Scope} {f : β → Pr} {ys : List β} (h : LcR X elt tg iter ifs scope σ F H f ys) : EvN X (.ListComp elt [⟨tg, iter, ifs, 0⟩] scope pos) σ F H f ys := fun F1 H1 g1 Q q => by
  obtain ⟨own, g, tt, hc, hN, ok, hg, ht, hs, k⟩ := h
  exact we (pe_lc hc hN pi_w ok hg ht (fun s H' C cl fp => ⟨fun pins s2 σ2 H2 Q2 I h => h s H' C cl fp pins s2 I⟩) hs) (k F1 H1 g1 Q q)
theorem lr_G {p : γ → Pr} {xs : List γ} {iter elt : Expr} {ifs : List Expr} {scope : Scope} {own : List (Str × Nat)} {g : TG} {tt : TT} {f : β → Pr} [∀ x, Mn (f x)] {T : γ → L2.St → Hp → Prop} (b : γ → Bool) (y : γ → β)
    (hc : X.calm = true) (hN : X.N.Nodup) (hw : Wk X tg iter σ F H p xs) (ok : BlkOk X.N X.env.scope scope own) (hz : xs.length ≤ sizeLine)
    (hg : ∀ (s : Shared) (H : Hp) (C : Addr) (cl : List (Str × Addr)) (fp : List Addr), PG (X.blk s H scope (compEnvC scope cl C X.env) fp) tg g) (ht : ∀ (s : Shared) (H : Hp) (C : Addr) (cl : List (Str × Addr)) (fp : List Addr), PTs (X.blk s H scope (compEnvC scope cl C X.env) fp) ifs tt)
    (hgs : ∀ x, x ∈ xs → ∀ v F1 H1, Same F1 H1 → p x v F1 → ∀ Q : L2.St → Hp → Prop, (∀ σ2, T x σ2 F1 → Q σ2 H1) → g v (wipe σ (own.map (·.2))) H1 Q)
    (hwp : ∀ x σ2 F1, T x σ2 F1 → wipe σ2 (own.map (·.2)) = wipe σ (own.map (·.2)))
    (htt : ∀ x, x ∈ xs → ∀ σ2 F1 H1, Gw F H F1 H1 → T x σ2 F1 → ∀ Q : Bool → Hp → Prop, (∀ F2 H2, Gw F1 H1 F2 H2 → Q (b x) H2) → tt σ2 H1 Q)
    (hTm : ∀ x σ2 F1 F2, Same F1 F2 → T x σ2 F1 → T x σ2 F2)
    (he : ∀ x, x ∈ xs → b x = true → ∀ σ2 F1 H1, Gw F H F1 H1 → T x σ2 F1 → ∀ (s : Shared) (H' : Hp) (C : Addr) (cl : List (Str × Addr)) (fp : List Addr), Ev (X.blk s H' scope (compEnvC scope cl C X.env) fp) elt σ2 F1 H1 (f (y x)))
    (hs : ∀ x, foldedSetIterable iter X.env x = pure x := by intro _; rfl) : LcR X elt tg iter ifs scope σ F H f ((xs.filter b).map y) := by
  refine ⟨own, g, tt, hc, hN, ok, hg, ht, hs, fun F1 H1 g1 Q q => ?_⟩
  refine hw F1 H1 g1 _ fun J F2 H2 g2 src => ?_
  intro D hD
  have fD : F2 D = none := g2.s.free hD
  refine ⟨fun i m Hc => m = xs.length - i ∧ i ≤ xs.length ∧ ∃ F3 ws, Gw F2 H2 F3 Hc ∧ F3 D = none ∧ Hc D = some (.lst ws) ∧ ws.length ≤ i ∧ AllP f ws (((xs.take i).filter b).map y) F3,
    ⟨xs.length, by omega, Nat.zero_le _, F2, [], Gw.prv g2.s hD, fD, upd_same, Nat.zero_le _, by simpa using AllP.nil⟩, ?_⟩
  rintro i m Hc ⟨rfl, hi, F3, ws, g3, f3, h3, hl, r3⟩
  obtain ⟨hstop, hgo⟩ := src F3 Hc g3.f g3.s
  by_cases hlt : i < xs.length
  · obtain ⟨x, hx⟩ : ∃ x, xs[i]? = some x := ⟨xs[i], List.getElem?_eq_getElem hlt⟩
    have hmem : x ∈ xs := List.mem_of_getElem? hx
    obtain ⟨go, hy⟩ := hgo i x hx
    refine .inr ⟨go, fun H' => ∃ F' ws', Gw F2 H2 F' H' ∧ F' D = none ∧ H' D = some (.lst ws') ∧ ws'.length ≤ i + 1 ∧ AllP f ws' (((xs.take (i + 1)).filter b).map y) F',
      fun H' ⟨F', ws', a1, a2, a3, a4, a5⟩ => ⟨xs.length - (i + 1), by omega, rfl, hlt, F', ws', a1, a2, a3, a4, a5⟩, fun v H4 hv => ?_⟩
    obtain ⟨F4, g4, pv⟩ := hy v H4 hv
    refine hgs x hmem v F4 H4 g4.s pv _ fun σ2 hT => ⟨hwp x σ2 F4 hT, ?_⟩
    have g04 : Gw F H F4 H4 := g1.trans (g2.trans (g3.trans g4))
    refine htt x hmem σ2 F4 H4 g04 hT _ fun F5 H5 g5 => ?_
    have e5 := (g4.trans g5).own h3 f3
    cases hb : b x with
    | true =>
      refine iteT fun s H' C cl fp => ?_
      refine he x hmem hb σ2 F5 H5 (g04.trans g5) (hTm x σ2 _ _ g5.f hT) s H' C cl fp F5 H5 (Gw.refl g5.s) _ fun w F6 H6 g6 pw => ?_
      have e6 := g6.own e5.1 e5.2
      refine ⟨ws, e6.1, Nat.lt_of_le_of_lt hl (Nat.lt_of_lt_of_le hlt hz), F6, ws ++ [w], (g3.trans (g4.trans (g5.trans g6))).mut hD e6.2, e6.2, upd_same, by rw [List.length_append, List.length_singleton]; omega, ?_⟩
      rw [take_filter_map hx, if_pos hb]
      exact (r3.up ((g4.trans (g5.trans g6)).f)).snoc pw
    | false =>
      refine iteF ⟨F5, ws, g3.trans (g4.trans g5), e5.2, e5.1, Nat.le_succ_of_le hl, ?_⟩
      rw [take_filter_map hx, hb]
      have := r3.up ((g4.trans g5).f)
      simpa using this
  · have hin : i = xs.length := by omega
    subst hin
    rw [List.take_length] at r3
    exact .inl ⟨hstop, q D ws F3 Hc (g2.trans g3) (g2.new hD) f3 h3 r3⟩
/-- the target a name, no test -/
theorem lr_N {pr : γ → Pr} [∀ x, Mn (pr x)] {xs : List γ} {iter elt : Expr} {scope : Scope} {own : List (Str × Nat)} {f : β → Pr} [∀ x, Mn (f x)] {i : Nat} {x : Str} (y : γ → β)
    (hw : Wk X (.Name x p) iter σ F H pr xs) (hz : xs.length ≤ sizeLine) (hc : X.calm = true) (hN : X.N.Nodup) (ok : BlkOk X.N X.env.scope scope own)
    (hwp : ∀ v, wipe ((wipe σ (own.map (·.2))).set i (some v)) (own.map (·.2)) = wipe σ (own.map (·.2)))
    (he : ∀ z, z ∈ xs → ∀ v F1 H1, Gw F H F1 H1 → pr z v F1 → ∀ (s : Shared) (H' : Hp) (C : Addr) (cl : List (Str × Addr)) (fp : List Addr), Ev (X.blk s H' scope (compEnvC scope cl C X.env) fp) elt ((wipe σ (own.map (·.2))).set i (some v)) F1 H1 (f (y z)))
    (hg : ∀ (s : Shared) (H : Hp) (C : Addr) (cl : List (Str × Addr)) (fp : List Addr), PG (X.blk s H scope (compEnvC scope cl C X.env) fp) (.Name x p) (gName i)) (hs : ∀ x, foldedSetIterable iter X.env x = pure x := by intro _; rfl) : LcR X elt (.Name x p) iter [] scope σ F H f (xs.map y) := by
  have h := lr_G (X := X) (f := f) (ifs := []) (T := fun z σ2 F1 => ∃ v, σ2 = (wipe σ (own.map (·.2))).set i (some v) ∧ pr z v F1) (fun _ => true) y hc hN hw ok hz hg (fun _ _ _ _ _ => pts_nil)
    (fun z hz v F1 H1 s1 pv Q q => q _ ⟨v, rfl, pv⟩) (fun z σ2 F1 ⟨v, e, _⟩ => by rw [e]; exact hwp v) (fun z hz σ2 F1 H1 g1 _ Q q => q F1 H1 (Gw.refl g1.s))
    (fun z σ2 F1 F2 s ⟨v, e, pv⟩ => ⟨v, e, Mn.mono _ _ _ s pv⟩) (fun z hz _ σ2 F1 H1 g1 ⟨v, e, pv⟩ s H' C cl fp => by rw [e]; exact he z hz v F1 H1 g1 pv s H' C cl fp) hs
  have e : xs.filter (fun _ => true) = xs := List.filter_eq_self.mpr (fun _ _ => rfl)
  rwa [e] at h
theorem en_lc {pr : γ → Pr} [∀ x, Mn (pr x)] {xs : List γ} {iter elt : Expr} {scope : Scope} {own : List (Str × Nat)} {f : β → Pr} [∀ x, Mn (f x)] {i : Nat} {x : Str} (y : γ → β)
    (hw : Wk X (.Name x p) iter σ F H pr xs) (hz : xs.length ≤ sizeLine) (hc : X.calm = true) (hN : X.N.Nodup) (ok : BlkOk X.N X.env.scope scope own)
    (hwp : ∀ v, wipe ((wipe σ (own.map (·.2))).set i (some v)) (own.map (·.2)) = wipe σ (own.map (·.2)))
    (he : ∀ z, z ∈ xs → ∀ v F1 H1, Gw F H F1 H1 → pr z v F1 → ∀ (s : Shared) (H' : Hp) (C : Addr) (cl : List (Str × Addr)) (fp : List Addr), Ev (X.blk s H' scope (compEnvC scope cl C X.env) fp) elt ((wipe σ (own.map (·.2))).set i (some v)) F1 H1 (f (y z)))
    (hg : ∀ (s : Shared) (H : Hp) (C : Addr) (cl : List (Str × Addr)) (fp : List Addr), PG (X.blk s H scope (compEnvC scope cl C X.env) fp) (.Name x p) (gName i)) (hs : ∀ x, foldedSetIterable iter X.env x = pure x := by intro _; rfl) : EvN X (.ListComp elt [⟨.Name x p, iter, [], 0⟩] scope pos) σ F H f (xs.map y) := (lr_N y hw hz hc hN ok hwp he hg hs).en
/-- a name, a test -/
theorem lr_F {pr : γ → Pr} [∀ x, Mn (pr x)] {xs : List γ} {iter elt c : Expr} {scope : Scope} {own : List (Str × Nat)} {f : β → Pr} [∀ x, Mn (f x)] {i : Nat} {x : Str} (b : γ → Bool) (y : γ → β)
    (hw : Wk X (.Name x p) iter σ F H pr xs) (hz : xs.length ≤ sizeLine) (hc : X.calm = true) (hN : X.N.Nodup) (ok : BlkOk X.N X.env.scope scope own)
    (hwp : ∀ v, wipe ((wipe σ (own.map (·.2))).set i (some v)) (own.map (·.2)) = wipe σ (own.map (·.2)))
    (ht : ∀ z, z ∈ xs → ∀ v F1 H1, Gw F H F1 H1 → pr z v F1 → ∀ (s : Shared) (H' : Hp) (C : Addr) (cl : List (Str × Addr)) (fp : List Addr), EvT (X.blk s H' scope (compEnvC scope cl C X.env) fp) c ((wipe σ (own.map (·.2))).set i (some v)) F1 H1 (b z))
    (he : ∀ z, z ∈ xs → b z = true → ∀ v F1 H1, Gw F H F1 H1 → pr z v F1 → ∀ (s : Shared) (H' : Hp) (C : Addr) (cl : List (Str × Addr)) (fp : List Addr), Ev (X.blk s H' scope (compEnvC scope cl C X.env) fp) elt ((wipe σ (own.map (·.2))).set i (some v)) F1 H1 (f (y z)))
    (hg : ∀ (s : Shared) (H : Hp) (C : Addr) (cl : List (Str × Addr)) (fp : List Addr), PG (X.blk s H scope (compEnvC scope cl C X.env) fp) (.Name x p) (gName i)) (hs : ∀ x, foldedSetIterable iter X.env x = pure x := by intro _; rfl) : LcR X elt (.Name x p) iter [c] scope σ F H f ((xs.filter b).map y) :=
  lr_G (X := X) (f := f) (ifs := [c]) (tt := fun σ2 H2 Q2 => ∀ (s : Shared) (H' : Hp) (C : Addr) (cl : List (Str × Addr)) (fp : List Addr), WT (X.blk s H' scope (compEnvC scope cl C X.env) fp) c σ2 H2 Q2) (T := fun z σ2 F1 => ∃ v, σ2 = (wipe σ (own.map (·.2))).set i (some v) ∧ pr z v F1) b y hc hN hw ok hz hg
    (fun s H' C cl fp => pts_one ⟨fun pins s2 σ2 H2 Q2 I h => h s H' C cl fp pins s2 I⟩)
    (fun z hz v F1 H1 s1 pv Q q => q _ ⟨v, rfl, pv⟩) (fun z σ2 F1 ⟨v, e, _⟩ => by rw [e]; exact hwp v) (fun z hz σ2 F1 H1 g1 ⟨v, e, pv⟩ Q q s H' C cl fp => by rw [e]; exact ht z hz v F1 H1 g1 pv s H' C cl fp F1 H1 (Gw.refl g1.s) Q q)
    (fun z σ2 F1 F2 s ⟨v, e, pv⟩ => ⟨v, e, Mn.mono _ _ _ s pv⟩) (fun z hz hb σ2 F1 H1 g1 ⟨v, e, pv⟩ s H' C cl fp => by rw [e]; exact he z hz hb v F1 H1 g1 pv s H' C cl fp) hs
theorem en_lcF {pr : γ → Pr} [∀ x, Mn (pr x)] {xs : List γ} {iter elt c : Expr} {scope : Scope} {own : List (Str × Nat)} {f : β → Pr} [∀ x, Mn (f x)] {i : Nat} {x : Str} (b : γ → Bool) (y : γ → β)
    (hw : Wk X (.Name x p) iter σ F H pr xs) (hz : xs.length ≤ sizeLine) (hc : X.calm = true) (hN : X.N.Nodup) (ok : BlkOk X.N X.env.scope scope own)
    (hwp : ∀ v, wipe ((wipe σ (own.map (·.2))).set i (some v)) (own.map (·.2)) = wipe σ (own.map (·.2)))
    (ht : ∀ z, z ∈ xs → ∀ v F1 H1, Gw F H F1 H1 → pr z v F1 → ∀ (s : Shared) (H' : Hp) (C : Addr) (cl : List (Str × Addr)) (fp : List Addr), EvT (X.blk s H' scope (compEnvC scope cl C X.env) fp) c ((wipe σ (own.map (·.2))).set i (some v)) F1 H1 (b z))
    (he : ∀ z, z ∈ xs → b z = true → ∀ v F1 H1, Gw F H F1 H1 → pr z v F1 → ∀ (s : Shared) (H' : Hp) (C : Addr) (cl : List (Str × Addr)) (fp : List Addr), Ev (X.blk s H' scope (compEnvC scope cl C X.env) fp) elt ((wipe σ (own.map (·.2))).set i (some v)) F1 H1 (f (y z)))
    (hg : ∀ (s : Shared) (H : Hp) (C : Addr) (cl : List (Str × Addr)) (fp : List Addr), PG (X.blk s H scope (compEnvC scope cl C X.env) fp) (.Name x p) (gName i)) (hs : ∀ x, foldedSetIterable iter X.env x = pure x := by intro _; rfl) : EvN X (.ListComp elt [⟨.Name x p, iter, [c], 0⟩] scope pos) σ F H f ((xs.filter b).map y) := (lr_F b y hw hz hc hN ok hwp ht he hg hs).en
/-- two names, no test -/
theorem lr_P {δ : Type} {pr : γ → Pr} {pq : δ → Pr} [∀ x, Mn (pr x)] [∀ x, Mn (pq x)] {xs : List (γ × δ)} {iter elt : Expr} {scope : Scope} {own : List (Str × Nat)} {f : β → Pr} [∀ x, Mn (f x)] {i j : Nat} {t1 t2 : Expr} {kk : Nat} (y : γ × δ → β)
    (hw : Wk X (.Tuple [t1, t2] kk p) iter σ F H (fun z => pP (pr z.1) (pq z.2)) xs) (hz : xs.length ≤ sizeLine) (hc : X.calm = true) (hN : X.N.Nodup) (ok : BlkOk X.N X.env.scope scope own)
    (hwp : ∀ v w, wipe (((wipe σ (own.map (·.2))).set i (some v)).set j (some w)) (own.map (·.2)) = wipe σ (own.map (·.2)))
    (he : ∀ z z2, (z, z2) ∈ xs → ∀ v w F1 H1, Gw F H F1 H1 → pr z v F1 → pq z2 w F1 → ∀ (s : Shared) (H' : Hp) (C : Addr) (cl : List (Str × Addr)) (fp : List Addr), Ev (X.blk s H' scope (compEnvC scope cl C X.env) fp) elt (((wipe σ (own.map (·.2))).set i (some v)).set j (some w)) F1 H1 (f (y (z, z2))))
    (hg : ∀ (s : Shared) (H : Hp) (C : Addr) (cl : List (Str × Addr)) (fp : List Addr), PG (X.blk s H scope (compEnvC scope cl C X.env) fp) (.Tuple [t1, t2] kk p) (gTup X.K 2 (gCons (gName i) (gCons (gName j) gNil)))) (hs : ∀ x, foldedSetIterable iter X.env x = pure x := by intro _; rfl) : LcR X elt (.Tuple [t1, t2] kk p) iter [] scope σ F H f (xs.map y) := by
  have h := lr_G (X := X) (f := f) (ifs := []) (T := fun z σ2 F1 => ∃ v w, σ2 = ((wipe σ (own.map (·.2))).set i (some v)).set j (some w) ∧ pr z.1 v F1 ∧ pq z.2 w F1) (fun _ => true) y hc hN hw ok hz hg (fun _ _ _ _ _ => pts_nil)
    (fun z hz v F1 H1 s1 ⟨l, x1, x2, ev, hF, p1, p2⟩ Q q => ⟨l, [x1, x2], ev, SqT.of (s1 _ _ hF), rfl, x1, [x2], rfl, x2, [], rfl, rfl, q _ ⟨x1, x2, rfl, p1, p2⟩⟩) (fun z σ2 F1 ⟨v, w, e, _⟩ => by rw [e]; exact hwp v w) (fun z hz σ2 F1 H1 g1 _ Q q => q F1 H1 (Gw.refl g1.s))
    (fun z σ2 F1 F2 s ⟨v, w, e, pv, pw⟩ => ⟨v, w, e, Mn.mono _ _ _ s pv, Mn.mono _ _ _ s pw⟩) (fun z hz _ σ2 F1 H1 g1 ⟨v, w, e, pv, pw⟩ s H' C cl fp => by rw [e]; exact he z.1 z.2 hz v w F1 H1 g1 pv pw s H' C cl fp) hs
  have e : xs.filter (fun _ => true) = xs := List.filter_eq_self.mpr (fun _ _ => rfl)
  rwa [e] at h
theorem en_lcP {δ : Type} {pr : γ → Pr} {pq : δ → Pr} [∀ x, Mn (pr x)] [∀ x, Mn (pq x)] {xs : List (γ × δ)} {iter elt : Expr} {scope : Scope} {own : List (Str × Nat)} {f : β → Pr} [∀ x, Mn (f x)] {i j : Nat} {t1 t2 : Expr} {kk : Nat} (y : γ × δ → β)
    (hw : Wk X (.Tuple [t1, t2] kk p) iter σ F H (fun z => pP (pr z.1) (pq z.2)) xs) (hz : xs.length ≤ sizeLine) (hc : X.calm = true) (hN : X.N.Nodup) (ok : BlkOk X.N X.env.scope scope own)
    (hwp : ∀ v w, wipe (((wipe σ (own.map (·.2))).set i (some v)).set j (some w)) (own.map (·.2)) = wipe σ (own.map (·.2)))
    (he : ∀ z z2, (z, z2) ∈ xs → ∀ v w F1 H1, Gw F H F1 H1 → pr z v F1 → pq z2 w F1 → ∀ (s : Shared) (H' : Hp) (C : Addr) (cl : List (Str × Addr)) (fp : List Addr), Ev (X.blk s H' scope (compEnvC scope cl C X.env) fp) elt (((wipe σ (own.map (·.2))).set i (some v)).set j (some w)) F1 H1 (f (y (z, z2))))
    (hg : ∀ (s : Shared) (H : Hp) (C : Addr) (cl : List (Str × Addr)) (fp : List Addr), PG (X.blk s H scope (compEnvC scope cl C X.env) fp) (.Tuple [t1, t2] kk p) (gTup X.K 2 (gCons (gName i) (gCons (gName j) gNil)))) (hs : ∀ x, foldedSetIterable iter X.env x = pure x := by intro _; rfl) : EvN X (.ListComp elt [⟨.Tuple [t1, t2] kk p, iter, [], 0⟩] scope pos) σ F H f (xs.map y) := (lr_P y hw hz hc hN ok hwp he hg hs).en
/-- two names, a test -/
theorem lr_PF {δ : Type} {pr : γ → Pr} {pq : δ → Pr} [∀ x, Mn (pr x)] [∀ x, Mn (pq x)] {xs : List (γ × δ)} {iter elt c : Expr} {scope : Scope} {own : List (Str × Nat)} {f : β → Pr} [∀ x, Mn (f x)] {i j : Nat} {t1 t2 : Expr} {kk : Nat} (b : γ × δ → Bool) (y : γ × δ → β)
    (hw : Wk X (.Tuple [t1, t2] kk p) iter σ F H (fun z => pP (pr z.1) (pq z.2)) xs) (hz : xs.length ≤ sizeLine) (hc : X.calm = true) (hN : X.N.Nodup) (ok : BlkOk X.N X.env.scope scope own)
    (hwp : ∀ v w, wipe (((wipe σ (own.map (·.2))).set i (some v)).set j (some w)) (own.map (·.2)) = wipe σ (own.map (·.2)))
    (ht : ∀ z z2, (z, z2) ∈ xs → ∀ v w F1 H1, Gw F H F1 H1 → pr z v F1 → pq z2 w F1 → ∀ (s : Shared) (H' : Hp) (C : Addr) (cl : List (Str × Addr)) (fp : List Addr), EvT (X.blk s H' scope (compEnvC scope cl C X.env) fp) c (((wipe σ (own.map (·.2))).set i (some v)).set j (some w)) F1 H1 (b (z, z2)))
    (he : ∀ z z2, (z, z2) ∈ xs → b (z, z2) = true → ∀ v w F1 H1, Gw F H F1 H1 → pr z v F1 → pq z2 w F1 → ∀ (s : Shared) (H' : Hp) (C : Addr) (cl : List (Str × Addr)) (fp : List Addr), Ev (X.blk s H' scope (compEnvC scope cl C X.env) fp) elt (((wipe σ (own.map (·.2))).set i (some v)).set j (some w)) F1 H1 (f (y (z, z2))))
    (hg : ∀ (s : Shared) (H : Hp) (C : Addr) (cl : List (Str × Addr)) (fp : List Addr), PG (X.blk s H scope (compEnvC scope cl C X.env) fp) (.Tuple [t1, t2] kk p) (gTup X.K 2 (gCons (gName i) (gCons (gName j) gNil)))) (hs : ∀ x, foldedSetIterable iter X.env x = pure x := by intro _; rfl) : LcR X elt (.Tuple [t1, t2] kk p) iter [c] scope σ F H f ((xs.filter b).map y) :=
  lr_G (X := X) (f := f) (ifs := [c]) (tt := fun σ2 H2 Q2 => ∀ (s : Shared) (H' : Hp) (C : Addr) (cl : List (Str × Addr)) (fp : List Addr), WT (X.blk s H' scope (compEnvC scope cl C X.env) fp) c σ2 H2 Q2) (T := fun z σ2 F1 => ∃ v w, σ2 = ((wipe σ (own.map (·.2))).set i (some v)).set j (some w) ∧ pr z.1 v F1 ∧ pq z.2 w F1) b y hc hN hw ok hz hg
    (fun s H' C cl fp => pts_one ⟨fun pins s2 σ2 H2 Q2 I h => h s H' C cl fp pins s2 I⟩)
    (fun z hz v F1 H1 s1 ⟨l, x1, x2, ev, hF, p1, p2⟩ Q q => ⟨l, [x1, x2], ev, SqT.of (s1 _ _ hF), rfl, x1, [x2], rfl, x2, [], rfl, rfl, q _ ⟨x1, x2, rfl, p1, p2⟩⟩) (fun z σ2 F1 ⟨v, w, e, _⟩ => by rw [e]; exact hwp v w)
    (fun z hz σ2 F1 H1 g1 ⟨v, w, e, pv, pw⟩ Q q s H' C cl fp => by rw [e]; exact ht z.1 z.2 hz v w F1 H1 g1 pv pw s H' C cl fp F1 H1 (Gw.refl g1.s) Q q)
    (fun z σ2 F1 F2 s ⟨v, w, e, pv, pw⟩ => ⟨v, w, e, Mn.mono _ _ _ s pv, Mn.mono _ _ _ s pw⟩) (fun z hz hb σ2 F1 H1 g1 ⟨v, w, e, pv, pw⟩ s H' C cl fp => by rw [e]; exact he z.1 z.2 hz hb v w F1 H1 g1 pv pw s H' C cl fp) hs
theorem en_lcPF {δ : Type} {pr : γ → Pr} {pq : δ → Pr} [∀ x, Mn (pr x)] [∀ x, Mn (pq x)] {xs : List (γ × δ)} {iter elt c : Expr} {scope : Scope} {own : List (Str × Nat)} {f : β → Pr} [∀ x, Mn (f x)] {i j : Nat} {t1 t2 : Expr} {kk : Nat} (b : γ × δ → Bool) (y : γ × δ → β)
    (hw : Wk X (.Tuple [t1, t2] kk p) iter σ F H (fun z => pP (pr z.1) (pq z.2)) xs) (hz : xs.length ≤ sizeLine) (hc : X.calm = true) (hN : X.N.Nodup) (ok : BlkOk X.N X.env.scope scope own)
    (hwp : ∀ v w, wipe (((wipe σ (own.map (·.2))).set i (some v)).set j (some w)) (own.map (·.2)) = wipe σ (own.map (·.2)))
    (ht : ∀ z z2, (z, z2) ∈ xs → ∀ v w F1 H1, Gw F H F1 H1 → pr z v F1 → pq z2 w F1 → ∀ (s : Shared) (H' : Hp) (C : Addr) (cl : List (Str × Addr)) (fp : List Addr), EvT (X.blk s H' scope (compEnvC scope cl C X.env) fp) c (((wipe σ (own.map (·.2))).set i (some v)).set j (some w)) F1 H1 (b (z, z2)))
    (he : ∀ z z2, (z, z2) ∈ xs → b (z, z2) = true → ∀ v w F1 H1, Gw F H F1 H1 → pr z v F1 → pq z2 w F1 → ∀ (s : Shared) (H' : Hp) (C : Addr) (cl : List (Str × Addr)) (fp : List Addr), Ev (X.blk s H' scope (compEnvC scope cl C X.env) fp) elt (((wipe σ (own.map (·.2))).set i (some v)).set j (some w)) F1 H1 (f (y (z, z2))))
    (hg : ∀ (s : Shared) (H : Hp) (C : Addr) (cl : List (Str × Addr)) (fp : List Addr), PG (X.blk s H scope (compEnvC scope cl C X.env) fp) (.Tuple [t1, t2] kk p) (gTup X.K 2 (gCons (gName i) (gCons (gName j) gNil)))) (hs : ∀ x, foldedSetIterable iter X.env x = pure x := by intro _; rfl) : EvN X (.ListComp elt [⟨.Tuple [t1, t2] kk p, iter, [c], 0⟩] scope pos) σ F H f ((xs.filter b).map y) := (lr_PF b y hw hz hc hN ok hwp ht he hg hs).en
end
end K24
set_option Elab.async false
set_option linter.all false
set_option maxRecDepth 100000
set_option maxHeartbeats 4000000
namespace K24
open PySem PySem.Spec PyProof.Rows L2

/-! ### statements -/
def WS (X : Cx) (st : Stmt) : TS := fun D σ H => ∀ (pins : List (Addr × Obj)) (s : Shared), Inv X pins σ H s → wpAny (model X.prog X.w) X.A (exec st X.env) (SP X pins D) X.xe s
def WSs (X : Cx) (st : List Stmt) : TS := fun D σ H => ∀ (pins : List (Addr × Obj)) (s : Shared), Inv X pins σ H s → wpAny (model X.prog X.w) X.A (execs st X.env) (SP X pins D) X.xe s
theorem ps_w {X : Cx} {st : Stmt} : PS X st (WS X st) := ⟨fun pins s _ _ _ I h => h pins s I⟩
theorem pss_w {X : Cx} {st : List Stmt} : PSs X st (WSs X st) := ⟨fun pins s _ _ _ I h => h pins s I⟩
theorem ws {X : Cx} {st : Stmt} {t : TS} {D : Ends} {σ : L2.St} {H : Hp} (h : PS X st t) (q : t D σ H) : WS X st D σ H := fun pins s I => h.run pins s σ H D I q
theorem wss {X : Cx} {st : List Stmt} {t : TS} {D : Ends} {σ : L2.St} {H : Hp} (h : PSs X st t) (q : t D σ H) : WSs X st D σ H := fun pins s I => h.run pins s σ H D I q
/-- what is wanted behind, with the frozen part -/
abbrev N3 := L2.St → Hp → Hp → Prop
structure GE where
  nx : N3
  rt : V → Hp → Hp → Prop
  bk : N3 := fun _ _ _ => False
  ct : N3 := fun _ _ _ => False
def GE.ends (G : GE) : Ends where
  nx := fun σ H => ∃ F, Same F H ∧ G.nx σ F H
  rt := fun v H => ∃ F, Same F H ∧ G.rt v F H
  bk := fun σ H => ∃ F, Same F H ∧ G.bk σ F H
  ct := fun σ H => ∃ F, Same F H ∧ G.ct σ F H
def Sx (X : Cx) (st : List Stmt) (σ : L2.St) (F H : Hp) (G : GE) : Prop := WSs X st G.ends σ H
section
variable {X : Cx} {st : Stmt} {rest body orelse : List Stmt} {e a b c tg iter : Expr} {σ : L2.St} {F H F' H' : Hp} {P R : Pr} {α β : Type} {f : α → Pr} {xs : List α} {pos p : Pos} {G : GE}
theorem x_nil (s : Same F H) (h : G.nx σ F H) : Sx X [] σ F H G := wss pss_nil ⟨F, s, h⟩
theorem x_set (i : Nat) {x : Str} {p' : Pos} (he : Ev X e σ F H P) (k : ∀ v F1 H1, Gw F H F1 H1 → P v F1 → Sx X rest (σ.set i (some v)) F1 H1 G) (s : Same F H)
    (hN : X.N.Nodup) (hi : X.N[i]? = some x := by rfl) (hx : Loc X.env.scope x := by first | exact Or.inl rfl | exact Or.inr rfl) (hs : swapsWith e (some (.Name x p')) pos.line X.env = pure false := by rfl) (hf : X.fn x = true ∨ X.env.scope.names.lookup x = some .local := by first | exact .inl rfl | exact .inr rfl) : Sx X (.Assign [.Name x p'] e pos :: rest) σ F H G :=
  wss (pss_cons (ps_set hN hi hx pe_w hs hf) pss_w) (he F H (Gw.refl s) _ fun v F1 H1 g1 p1 => k v F1 H1 g1 p1)
theorem x_setN (i : Nat) {x : Str} {p' : Pos} (he : EvN X e σ F H f xs) (k : ∀ l vs F1 H1, Gw F H F1 H1 → H l = none → F1 l = none → H1 l = some (.lst vs) → AllP f vs xs F1 → Sx X rest (σ.set i (some (.ref l))) F1 H1 G) (s : Same F H)
    (hN : X.N.Nodup) (hi : X.N[i]? = some x := by rfl) (hx : Loc X.env.scope x := by first | exact Or.inl rfl | exact Or.inr rfl) (hs : swapsWith e (some (.Name x p')) pos.line X.env = pure false := by rfl) (hf : X.fn x = true ∨ X.env.scope.names.lookup x = some .local := by first | exact .inl rfl | exact .inr rfl) : Sx X (.Assign [.Name x p'] e pos :: rest) σ F H G :=
  wss (pss_cons (ps_set hN hi hx pe_w hs hf) pss_w) (he F H (Gw.refl s) _ fun l vs F1 H1 g1 n1 n2 e3 r => k l vs F1 H1 g1 n1 n2 e3 r)
/-- x = e, by e's own reading (e may change things) -/
theorem x_setW (i : Nat) {x : Str} {p' : Pos} (he : WE X e σ H fun v H1 => ∃ F1, Same F1 H1 ∧ Sx X rest (σ.set i (some v)) F1 H1 G)
    (hN : X.N.Nodup) (hi : X.N[i]? = some x := by rfl) (hx : Loc X.env.scope x := by first | exact Or.inl rfl | exact Or.inr rfl) (hs : swapsWith e (some (.Name x p')) pos.line X.env = pure false := by rfl) (hf : X.fn x = true ∨ X.env.scope.names.lookup x = some .local := by first | exact .inl rfl | exact .inr rfl) : Sx X (.Assign [.Name x p'] e pos :: rest) σ F H G :=
  wss (pss_cons (ps_set hN hi hx pe_w hs hf) pss_w) (he.imp fun v H1 ⟨F1, _, h⟩ => h)
/-- a comprehension given to a name -/
theorem x_setLc (i : Nat) {x : Str} {elt : Expr} {ifs : List Expr} {scope : Scope} {py spos : Pos} (he : LcR X elt tg iter ifs scope σ F H f xs)
    (k : ∀ l vs F1 H1, Gw F H F1 H1 → H l = none → F1 l = none → H1 l = some (.lst vs) → AllP f vs xs F1 → Sx X rest (σ.set i (some (.ref l))) F1 H1 G) (s : Same F H) (hi : X.N[i]? = some x := by rfl)
    (hyl : X.env.scope.names.lookup x = some .local := by rfl) (hsw : swapsWith (.ListComp elt [⟨tg, iter, ifs, 0⟩] scope pos) (some (.Name x py)) spos.line X.env = pure true := by rfl) : Sx X (.Assign [.Name x py] (.ListComp elt [⟨tg, iter, ifs, 0⟩] scope pos) spos :: rest) σ F H G := by
  obtain ⟨own, g, tt, hc, hN, ok, hg, ht, hs, kk⟩ := he
  exact wss (pss_cons (ps_setLc (te := teB X scope elt) hc hN hi hyl hsw pi_w ok hg ht (fun s H' C cl fp => ⟨fun pins s2 σ2 H2 Q2 I h => h s H' C cl fp pins s2 I⟩) hs) pss_w) (kk F H (Gw.refl s) (fun v H1 => gName i v σ H1 fun σ2 H2 => WSs X rest G.ends σ2 H2) fun l vs F1 H1 g1 n1 n2 e3 r => k l vs F1 H1 g1 n1 n2 e3 r)
/-- x += e -/
theorem x_aug (i : Nat) {x : Str} {p' : Pos} {m n : Int} (hv : σ[i]? = some (some (.int m))) (he : Ev X e σ F H (pI n)) (k : ∀ F1 H1, Gw F H F1 H1 → Sx X rest (σ.set i (some (.int (m + n)))) F1 H1 G) (s : Same F H)
    (hN : X.N.Nodup) (hi : X.N[i]? = some x := by rfl) (hx : Loc X.env.scope x := by first | exact Or.inl rfl | exact Or.inr rfl) (hf : X.fn x = true ∨ X.env.scope.names.lookup x = some .local := by first | exact .inl rfl | exact .inr rfl) : Sx X (.AugAssign (.Name x p') .Add e pos :: rest) σ F H G :=
  wss (pss_cons (ps_aug hN hi hx pe_w ip_add hf) pss_w) ⟨.int m, hv, he F H (Gw.refl s) _ fun v F1 H1 g1 p1 => by
    cases p1
    exact ⟨m, n, rfl, rfl, k F1 H1 g1⟩⟩
/-- a call for its effect -/
theorem x_drop (he : WE X e σ H fun _ H1 => ∃ F1, Same F1 H1 ∧ Sx X rest σ F1 H1 G) (hs : swapsWith e none pos.line X.env = pure false := by rfl) : Sx X (.Expr e pos :: rest) σ F H G :=
  wss (pss_cons (ps_expr pe_w hs) pss_w) (he.imp fun v H1 ⟨F1, _, h⟩ => h)
/-- l.append(e) -/
theorem x_app [Mn P] {o : Expr} {l : Addr} {vs : List V} {ap pos2 : Pos} (ho : Ev X o σ F H (pIs (.ref l))) (he : Ev X e σ F H P) (hl : H l = some (.lst vs)) (hf : F l = none) (hz : vs.length < sizeLine)
    (k : ∀ v F1 H1, Gw F H F1 H1 → P v F1 → Sx X rest σ F1 (upd H1 l (.lst (vs ++ [v]))) G) (s : Same F H)
    (hp : PE X (.Call (.Attribute o "append" ap) [e] [] pos2) (tBM X.K "list" rAppend (WE X o) (WA X [e]))) (hse : starEach [e] X.env = (false, eval e X.env) :: starEach [] X.env := by rfl) (hs : swapsWith (.Call (.Attribute o "append" ap) [e] [] pos2) none pos.line X.env = pure false := by rfl) : Sx X (.Expr (.Call (.Attribute o "append" ap) [e] [] pos2) pos :: rest) σ F H G := by
  refine x_drop (F := F) (we hp (ho F H (Gw.refl s) _ fun v F1 H1 g1 p1 => ?_)) hs
  cases p1
  have e1 := g1.own hl hf
  refine ⟨.inl ⟨rfl, _, SqL.of e1.1⟩, ea_one he hse F1 H1 g1 _ fun ws F2 H2 g2 ⟨v, _, ev, pv, en⟩ => ?_⟩
  cases en
  subst ev
  have e2 := g2.own e1.1 e1.2
  refine ⟨l, vs, v, rfl, rfl, e2.1, hz, F2, ?_, k v F2 H2 (g1.trans g2) pv⟩
  intro b u q
  rw [upd_ne (ne_of_none q e2.2)]
  exact g2.s b u q
theorem x_ret (he : Ev X e σ F H P) (k : ∀ v F1 H1, Gw F H F1 H1 → P v F1 → G.rt v F1 H1) (s : Same F H) : Sx X (.Return (some e) pos :: rest) σ F H G :=
  wss (pss_cons (ps_ret pe_w) pss_w) (he F H (Gw.refl s) _ fun v F1 H1 g1 p1 => ⟨F1, g1.s, k v F1 H1 g1 p1⟩)
theorem x_retN (he : EvN X e σ F H f xs) (k : ∀ l vs F1 H1, Gw F H F1 H1 → H l = none → F1 l = none → H1 l = some (.lst vs) → AllP f vs xs F1 → G.rt (.ref l) F1 H1) (s : Same F H) : Sx X (.Return (some e) pos :: rest) σ F H G :=
  wss (pss_cons (ps_ret pe_w) pss_w) (he F H (Gw.refl s) _ fun l vs F1 H1 g1 n1 n2 e3 r => ⟨F1, g1.s, k l vs F1 H1 g1 n1 n2 e3 r⟩)
theorem x_cont (s : Same F H) (h : G.ct σ F H) : Sx X (.Continue pos :: rest) σ F H G := wss (pss_cons ps_continue pss_w) ⟨F, s, h⟩
theorem x_brk (s : Same F H) (h : G.bk σ F H) : Sx X (.Break pos :: rest) σ F H G := wss (pss_cons ps_break pss_w) ⟨F, s, h⟩
/-- if; what follows stands behind both ways -/
theorem WSs.imp {st : List Stmt} {D D' : Ends} (h : WSs X st D σ H) (k1 : ∀ σ H, D.nx σ H → D'.nx σ H) (k2 : ∀ v H, D.rt v H → D'.rt v H) (k3 : ∀ σ H, D.bk σ H → D'.bk σ H) (k4 : ∀ σ H, D.ct σ H → D'.ct σ H) : WSs X st D' σ H := fun pins s I =>
  thn (h pins s I) fun fl s' q => by
    cases fl with
    | next => obtain ⟨σ', H', I', q⟩ := q; exact ⟨σ', H', I', k1 _ _ q⟩
    | brk => obtain ⟨σ', H', I', q⟩ := q; exact ⟨σ', H', I', k3 _ _ q⟩
    | cont => obtain ⟨σ', H', I', q⟩ := q; exact ⟨σ', H', I', k4 _ _ q⟩
    | ret u => obtain ⟨v, σ', H', I', r, q⟩ := q; exact ⟨v, σ', H', I', r, k2 _ _ q⟩
theorem x_if {k : Bool} (hc : EvT X c σ F H k) (ht : k = true → ∀ F1 H1, Gw F H F1 H1 → Sx X body σ F1 H1 { G with nx := fun σ F H => Sx X rest σ F H G }) (hf : k = false → ∀ F1 H1, Gw F H F1 H1 → Sx X orelse σ F1 H1 { G with nx := fun σ F H => Sx X rest σ F H G }) (s : Same F H) : Sx X (.If c body orelse pos :: rest) σ F H G :=
  wss (pss_cons (ps_if pt_w pss_w pss_w) pss_w) (hc F H (Gw.refl s) _ fun F1 H1 g1 => by
    cases k with
    | true => exact iteT (WSs.imp (ht rfl F1 H1 g1) (fun σ H ⟨F, _, h⟩ => h) (fun _ _ h => h) (fun _ _ h => h) (fun _ _ h => h))
    | false => exact iteF (WSs.imp (hf rfl F1 H1 g1) (fun σ H ⟨F, _, h⟩ => h) (fun _ _ h => h) (fun _ _ h => h) (fun _ _ h => h)))
/-- if without else -/
theorem x_when {k : Bool} (hc : EvT X c σ F H k) (ht : k = true → ∀ F1 H1, Gw F H F1 H1 → Sx X body σ F1 H1 { G with nx := fun σ F H => Sx X rest σ F H G }) (hf : k = false → ∀ F1 H1, Gw F H F1 H1 → Sx X rest σ F1 H1 G) (s : Same F H) : Sx X (.If c body [] pos :: rest) σ F H G :=
  x_if hc ht (fun hk F1 H1 g1 => x_nil g1.s (hf hk F1 H1 g1)) s
/-- a test that does not come true: its suite is never run -/
theorem x_skip (hc : EvT X c σ F H false) (hf : ∀ F1 H1, Gw F H F1 H1 → Sx X rest σ F1 H1 G) (s : Same F H) : Sx X (.If c body [] pos :: rest) σ F H G :=
  x_when hc (fun h => nomatch h) (fun _ => hf) s
/-- a for loop: Iv holds at each turn -/
theorem x_for {p : α → Pr} {g : TG} (Iv : Nat → N3) (hw : Wk X tg iter σ F H p xs) (hg : PG X tg g) (h0 : ∀ F1 H1, Gw F H F1 H1 → Iv 0 σ F1 H1)
    (turn : ∀ F0, (∀ i σ1 F1 H1, Iv i σ1 F1 H1 → Same F0 F1 → Same F1 H1 → True) → ∀ i x σ1 F1 H1, xs[i]? = some x → Same F0 F1 → Same F1 H1 → Iv i σ1 F1 H1 → ∀ v F2 H2, Gw F1 H1 F2 H2 → p x v F2 →
      g v σ1 H2 fun σ2 H3 => H3 = H2 ∧ Sx X body σ2 F2 H2 { nx := fun σ F H => Same F0 F ∧ Iv (i + 1) σ F H, rt := G.rt, ct := fun σ F H => Same F0 F ∧ Iv (i + 1) σ F H, bk := fun σ F H => Sx X rest σ F H G })
    (done : ∀ σ1 F1 H1, Same F1 H1 → Iv xs.length σ1 F1 H1 → Sx X rest σ1 F1 H1 G) (s : Same F H) (hp : PassesOwn (model X.prog X.w) X.A X.env X.xe) (hc : X.calm = true) (gmono : ∀ v σ H Q Q', (∀ σ H, Q σ H → Q' σ H) → g v σ H Q → g v σ H Q')
    (hs : ∀ x, foldedSetIterable iter X.env x = pure x := by intro _; rfl) : Sx X (.For tg iter body [] pos :: rest) σ F H G := by
  refine wss (pss_cons (ps_for hp hc pi_w hg pss_w hs) pss_w) (hw F H (Gw.refl s) _ fun J F0 H0 g0 src => ?_)
  refine ⟨fun i m σ1 H1 => m = xs.length - i ∧ i ≤ xs.length ∧ ∃ F1, Same F0 F1 ∧ Same F1 H1 ∧ Iv i σ1 F1 H1, ⟨xs.length, by omega, Nat.zero_le _, F0, Same.refl _, g0.s, h0 F0 H0 g0⟩, ?_⟩
  rintro i m σ1 H1 ⟨rfl, hi, F1, s1, s2, iv⟩
  obtain ⟨hstop, hgo⟩ := src F1 H1 s1 s2
  by_cases hlt : i < xs.length
  · obtain ⟨x, hx⟩ : ∃ x, xs[i]? = some x := ⟨xs[i], List.getElem?_eq_getElem hlt⟩
    obtain ⟨go, hy⟩ := hgo i x hx
    refine .inr ⟨go, fun σ' H' => ∃ F', Same F' H' ∧ Same F0 F' ∧ Iv (i + 1) σ' F' H', fun σ' H' ⟨F', a1, a2, a3⟩ => ⟨xs.length - (i + 1), by omega, rfl, hlt, F', a2, a1, a3⟩, fun v H2 hv => ?_⟩
    obtain ⟨F2, g2, pv⟩ := hy v H2 hv
    refine gmono _ _ _ _ _ (fun σ2 H3 h => ?_) (turn F0 (fun _ _ _ _ _ _ _ => trivial) i x σ1 F1 H1 hx s1 s2 iv v F2 H2 g2 pv)
    obtain ⟨e3, h⟩ := h
    subst e3
    exact WSs.imp h (fun σ H ⟨F, a, b, c⟩ => ⟨F, a, b, c⟩) (fun _ _ h => h) (fun σ H ⟨F, _, h⟩ => h) (fun σ H ⟨F, a, b, c⟩ => ⟨F, a, b, c⟩)
  · have hin : i = xs.length := by omega
    subst hin
    exact .inl ⟨hstop, done σ1 F1 H1 s2 iv⟩
theorem gName_mono {i : Nat} : ∀ (v : V) (σ : L2.St) (H : Hp) (Q Q' : L2.St → Hp → Prop), (∀ σ H, Q σ H → Q' σ H) → gName i v σ H Q → gName i v σ H Q' := fun _ _ _ _ _ k h => k _ _ h
theorem gPair_mono {K : PySem.W.Frag} {i j : Nat} : ∀ (v : V) (σ : L2.St) (H : Hp) (Q Q' : L2.St → Hp → Prop), (∀ σ H, Q σ H → Q' σ H) → gTup K 2 (gCons (gName i) (gCons (gName j) gNil)) v σ H Q → gTup K 2 (gCons (gName i) (gCons (gName j) gNil)) v σ H Q' := fun v σ H Q Q' k h => by
  obtain ⟨a, xs, e1, e2, e3, x, r, e4, y, r2, e5, e6, q⟩ := h
  exact ⟨a, xs, e1, e2, e3, x, r, e4, y, r2, e5, e6, k _ _ q⟩
/-- for x in ..: a name -/
theorem x_forN {pr : α → Pr} {i : Nat} {x : Str} (Iv : Nat → N3) (hw : Wk X (.Name x p) iter σ F H pr xs) (h0 : ∀ F1 H1, Gw F H F1 H1 → Iv 0 σ F1 H1)
    (turn : ∀ F0 n z σ1 F1 H1, xs[n]? = some z → Same F0 F1 → Same F1 H1 → Iv n σ1 F1 H1 → ∀ v F2 H2, Gw F1 H1 F2 H2 → pr z v F2 → Sx X body (σ1.set i (some v)) F2 H2 { nx := fun σ F H => Same F0 F ∧ Iv (n + 1) σ F H, rt := G.rt, ct := fun σ F H => Same F0 F ∧ Iv (n + 1) σ F H, bk := fun σ F H => Sx X rest σ F H G })
    (done : ∀ σ1 F1 H1, Same F1 H1 → Iv xs.length σ1 F1 H1 → Sx X rest σ1 F1 H1 G) (s : Same F H) (hp : PassesOwn (model X.prog X.w) X.A X.env X.xe) (hc : X.calm = true)
    (hN : X.N.Nodup) (hi : X.N[i]? = some x := by rfl) (hx : Loc X.env.scope x := by first | exact Or.inl rfl | exact Or.inr rfl) (hf : X.fn x = true ∨ X.env.scope.names.lookup x = some .local := by first | exact .inl rfl | exact .inr rfl)
    (hs : ∀ x, foldedSetIterable iter X.env x = pure x := by intro _; rfl) : Sx X (.For (.Name x p) iter body [] pos :: rest) σ F H G :=
  x_for (g := gName i) Iv hw (pg_name hN hi hx hf) h0 (fun F0 _ n z σ1 F1 H1 hz s1 s2 iv v F2 H2 g2 pv => ⟨rfl, turn F0 n z σ1 F1 H1 hz s1 s2 iv v F2 H2 g2 pv⟩) done s hp hc gName_mono hs
/-- while -/
theorem x_while (Iv : L2.St → Hp → Hp → Nat → Prop) (h0 : ∃ m, Iv σ F H m)
    (turn : ∀ σ1 F1 H1 m, Same F1 H1 → Iv σ1 F1 H1 m → ∃ k, EvT X c σ1 F1 H1 k ∧ (k = true → ∀ F2 H2, Gw F1 H1 F2 H2 → Sx X body σ1 F2 H2 { nx := fun σ F H => ∃ m', m' < m ∧ Iv σ F H m', rt := G.rt, ct := fun σ F H => ∃ m', m' < m ∧ Iv σ F H m', bk := fun σ F H => Sx X rest σ F H G }) ∧
      (k = false → ∀ F2 H2, Gw F1 H1 F2 H2 → Sx X rest σ1 F2 H2 G))
    (s : Same F H) (hp : PassesOwn (model X.prog X.w) X.A X.env X.xe) : Sx X (.While c body [] pos :: rest) σ F H G := by
  refine wss (pss_cons (ps_while hp pt_w pss_w) pss_w) ?_
  refine ⟨fun m σ1 H1 => ∃ F1, Same F1 H1 ∧ Iv σ1 F1 H1 m, let ⟨m, h⟩ := h0; ⟨m, F, s, h⟩, ?_⟩
  rintro m σ1 H1 ⟨F1, s1, iv⟩
  obtain ⟨k, hk, h1, h2⟩ := turn σ1 F1 H1 m s1 iv
  refine hk F1 H1 (Gw.refl s1) _ fun F2 H2 g2 => ?_
  cases k with
  | true =>
    refine iteT ⟨fun σ' H' => ∃ m', m' < m ∧ ∃ F', Same F' H' ∧ Iv σ' F' H' m', fun σ' H' h => h, ?_⟩
    exact WSs.imp (h1 rfl F2 H2 g2) (fun σ H ⟨F, a, m', b, c⟩ => ⟨m', b, F, a, c⟩) (fun _ _ h => h) (fun σ H ⟨F, _, h⟩ => h) (fun σ H ⟨F, a, m', b, c⟩ => ⟨m', b, F, a, c⟩)
  | false => exact iteF (h2 rfl F2 H2 g2)
/-- a, b = e, e a pair -/
theorem x_unpack {Q : Pr} (i j : Nat) {t1 t2 : Expr} {kk : Nat} (he : Ev X e σ F H (pP P Q)) (k : ∀ v w F1 H1, Gw F H F1 H1 → P v F1 → Q w F1 → Sx X rest ((σ.set i (some v)).set j (some w)) F1 H1 G) (s : Same F H)
    (hg : PG X (.Tuple [t1, t2] kk p) (gTup X.K 2 (gCons (gName i) (gCons (gName j) gNil)))) (hs : swapsWithSole [.Tuple [t1, t2] kk p] e pos.line X.env = pure false := by rfl) (hw : swappedStores [.Tuple [t1, t2] kk p] e X.env = pure none := by rfl)
    (h1 : (assignEach [.Tuple [t1, t2] kk p] X.env).map (·.2) = [assign (.Tuple [t1, t2] kk p) X.env] := by rfl) : Sx X (.Assign [.Tuple [t1, t2] kk p] e pos :: rest) σ F H G :=
  wss (pss_cons (ps_asg pe_w hg hs hw h1) pss_w) (he F H (Gw.refl s) _ fun v F1 H1 g1 ⟨l, x, y, ev, hF, px, py⟩ => ⟨l, [x, y], ev, SqT.of (g1.s _ _ hF), rfl, x, [y], rfl, y, [], rfl, rfl, k x y F1 H1 g1 px py⟩)
/-- l[i] = e -/
theorem x_setI {o ie : Expr} {l : Addr} {vs : List V} {n : Int} {j : Nat} {p' : Pos} (he : Ev X e σ F H P) (ho : Ev X o σ F H (pIs (.ref l))) (hi : Ev X ie σ F H (pI n)) (hl : H l = some (.lst vs)) (hf : F l = none) (hj : ixN vs.length n = some j) [Mn P]
    (k : ∀ v F1 H1, Gw F H F1 H1 → P v F1 → Sx X rest σ F1 (upd H1 l (.lst (vs.set j v))) G) (s : Same F H)
    (ha : ∀ v, assign (.Subscript o ie p') X.env v = (do
      let ov ← holding [v] (eval o X.env)
      let iv ← holding [v, ov] (eval ie X.env)
      standAt p'
      holding [v, ov, iv] (setItem ov iv v)
      release [v, ov, iv] []) := by intro _; rfl) (hs : swapsWithSole [.Subscript o ie p'] e pos.line X.env = pure false := by rfl) (hw : swappedStores [.Subscript o ie p'] e X.env = pure none := by rfl)
    (h1 : (assignEach [.Subscript o ie p'] X.env).map (·.2) = [assign (.Subscript o ie p') X.env] := by rfl) : Sx X (.Assign [.Subscript o ie p'] e pos :: rest) σ F H G :=
  wss (pss_cons (ps_asg pe_w (pg_sub pe_w pe_w set_list ha) hs hw h1) pss_w) (he F H (Gw.refl s) _ fun v F1 H1 g1 pv => ho F1 H1 g1 _ fun w F2 H2 g2 pw => hi F2 H2 (g1.trans g2) _ fun u F3 H3 g3 pu => by
    cases pw
    have e3 := (g1.trans (g2.trans g3)).own hl hf
    exact ⟨l, vs, n, j, rfl, pu, e3.1, hj, k v F3 H3 (g1.trans (g2.trans g3)) (Mn.mono _ _ _ (g2.f.trans g3.f) pv)⟩)
end
end K24
set_option Elab.async false
set_option linter.all false
set_option maxRecDepth 100000
set_option maxHeartbeats 4000000
namespace K24
open PySem PySem.Spec PyProof.Rows L2

/-! ### zip of a tuple and a list -/
def ItzM (K : PySem.W.Frag) (a b : Addr) : It :=
  ⟨fun i H => ∃ (xs ys : List V) (x y : V), SqT K H a xs ∧ SqL K H b ys ∧ xs[i]? = some x ∧ ys[i]? = some y,
    fun i H v H' => ∃ T x y, v = .ref T ∧ H T = none ∧ H' = upd H T (.tup [x, y]) ∧ (∀ xs, SqT K H a xs → xs[i]? = some x) ∧ ∀ ys, SqL K H b ys → ys[i]? = some y,
    fun i H => ∃ xs ys : List V, SqT K H a xs ∧ SqL K H b ys ∧ min xs.length ys.length = i⟩
theorem turn_zipM {P : Program} {w : World} {K : PySem.W.Frag} {elts : List Expr} {kk : Nat} {tpos : Pos} {a b z TI TO i1 i2 : Addr} (D : ZipSep2 z TI TO i1 i2 [i1, a] [i2, b]) (n1 : a ≠ i1) (n2 : b ≠ i2) :
    Turn P w K (.Tuple elts kk tpos) (ItzM K a b) [z, TI, TO, i1, i2] z (fun i h => IsZip h z TI TO .none ∧ IsTupOf2 h TI (.ref i1) (.ref i2) ∧ (∃ x y, IsTupOf2 h TO x y) ∧ h.IsTupleIter i1 a i ∧ h.IsListIter i2 b i) where
  mem := by simp
  obj := fun i h st c hc => by
    obtain ⟨q1, q2, ⟨x, y, q3⟩, ⟨o1, e1, _, d1⟩, ⟨o2, e2, _, d2⟩⟩ := st
    simp only [List.mem_cons, List.not_mem_nil, or_false] at hc
    rcases hc with rfl | rfl | rfl | rfl | rfl
    · exact ⟨_, q1, fun v q => nomatch q⟩
    · exact ⟨_, q2, fun v q => nomatch q⟩
    · exact ⟨_, q3, fun v q => nomatch q⟩
    · exact ⟨o1, e1, fun v q => by rw [d1] at q; cases q⟩
    · exact ⟨o2, e2, fun v q => by rw [d2] at q; cases q⟩
  keep := fun i h h' st k => by
    obtain ⟨q1, q2, ⟨x, y, q3⟩, q4, q5⟩ := st
    exact ⟨k _ (by simp) _ q1, k _ (by simp) _ q2, ⟨x, y, k _ (by simp) _ q3⟩, q4.at fun o q => k _ (by simp) o q, q5.at fun o q => k _ (by simp) o q⟩
  item := by
    intro X hP hw hK hc i pins s σ H E I hf st hg
    subst hP hw hK
    obtain ⟨xs, ys, x, y, hqx, hqy, hx, hy⟩ := hg
    obtain ⟨its, rv, t1, _⟩ := I.tuple hqx
    obtain ⟨its2, rv2, t2, _⟩ := I.list hqy
    have hxl : i < its.toArray.size := by
      have := (List.getElem?_eq_some_iff.mp hx).1
      rw [rv.length] at this
      simpa using this
    have hyl : i < its2.toArray.size := by
      have := (List.getElem?_eq_some_iff.mp hy).1
      rw [rv2.length] at this
      simpa using this
    obtain ⟨q1, q2, q3, q4, q5⟩ := st
    have hh : X.A.in1.handled = none := I.ok.hd hc
    have Z := GoesN.zip2 (prog := X.prog) (w := X.w) (A := X.A) (elts := elts) (x1 := kk) (pos := tpos) D (Draws.tuple hh i1 a n1 its.toArray) (Draws.list hh i2 b n2 its2.toArray)
    refine Z.goes i s _ _ (Nat.lt_min.mpr ⟨hxl, hyl⟩) ⟨q1, q2, q3, ⟨q4, t1⟩, q5, t2.isList⟩ fun v h' tk hY hst hk _ => ?_
    obtain ⟨T, u1, u2, rfl, hT, g1, g2, hTup⟩ := hY
    obtain ⟨p1, p2, p3, p4, p5⟩ := hst
    obtain ⟨w1, hw1, r1⟩ := rv.get hx
    obtain ⟨w2, hw2, r2⟩ := rv2.get hy
    have c1 : w1 = u1 := by
      have : its.toArray[i]? = its[i]? := by simp
      rw [this, hw1] at g1
      exact Option.some.inj g1
    have c2 : w2 = u2 := by
      have : its2.toArray[i]? = its2[i]? := by simp
      rw [this, hw2] at g2
      exact Option.some.inj g2
    subst c1 c2
    have new : ObjOk X.prog X.w (upd H T (.tup [x, y])) h' T (.tup [x, y]) := ⟨by show 2 ≤ sizeLine; decide, [w1, w2], .cons r1 (.cons r2 .nil), hTup⟩
    have I1 : Inv X pins σ (upd H T (.tup [x, y])) { s with heap := h', toks := tk } :=
      I.turnedNew (ch := [z, TO, i1, i2]) hk (fun c hc => hf c (by
        simp only [List.mem_cons, List.not_mem_nil, or_false] at hc ⊢
        rcases hc with h | h | h | h
        · exact .inl h
        · exact .inr (.inr (.inl h))
        · exact .inr (.inr (.inr (.inl h)))
        · exact .inr (.inr (.inr (.inr h))))) hT new
    refine ⟨.ref T, _, I1, rfl, ⟨T, x, y, rfl, I.hok.fresh hT, rfl, fun l hl => ?_, fun l hl => ?_⟩, ⟨p1, p2, p3, p4.1, p5.1⟩, fun c hcm => ?_⟩
    · rw [I.tuple_inj hl hqx]
      exact hx
    · rw [I.list_inj hl hqy]
      exact hy
    · have hc2 := (hf c hcm).1
      by_cases e : c = T
      · subst e
        exfalso
        simp only [List.mem_cons, List.not_mem_nil, or_false] at hcm
        have lt : c < s.heap.objs.size := by
          obtain ⟨x0, y0, q3⟩ := q3
          obtain ⟨o1, e1, _⟩ := q4
          obtain ⟨o2, e2, _⟩ := q5
          rcases hcm with h | h | h | h | h
          · rw [h]; exact Heap.lt_size q1
          · rw [h]; exact Heap.lt_size q2
          · rw [h]; exact Heap.lt_size q3
          · rw [h]; exact Heap.lt_size e1
          · rw [h]; exact Heap.lt_size e2
        exact absurd (Nat.lt_of_lt_of_le lt hT) (Nat.lt_irrefl _)
      · rw [upd_ne e]
        exact hc2
  done := by
    intro X hP hw hK hc i pins s σ H E I hf st hg
    subst hP hw hK
    obtain ⟨xs, ys, hqx, hqy, hend⟩ := hg
    obtain ⟨its, rv, t1, _⟩ := I.tuple hqx
    obtain ⟨its2, rv2, t2, _⟩ := I.list hqy
    obtain ⟨q1, q2, q3, q4, q5⟩ := st
    have l1 := rv.length
    have l2 := rv2.length
    have hh : X.A.in1.handled = none := I.ok.hd hc
    have Z := GoesN.zip2 (prog := X.prog) (w := X.w) (A := X.A) (elts := elts) (x1 := kk) (pos := tpos) D (Draws.tuple hh i1 a n1 its.toArray) (Draws.list hh i2 b n2 its2.toArray)
    have hi : i = min its.toArray.size its2.toArray.size := by
      rw [← hend]
      simp [l1, l2]
    subst hi
    exact Z.stops s (fun s1 => Inv X pins σ H s1) E ⟨q1, q2, q3, ⟨q4, t1⟩, q5, t2.isList⟩ fun h' tk hk _ => I.turnedL (t' := tk) (ch := [z, TO, i1, i2]) hk fun c hc => hf c (by
      simp only [List.mem_cons, List.not_mem_nil, or_false] at hc ⊢
      rcases hc with h | h | h | h
      · exact .inl h
      · exact .inr (.inr (.inl h))
      · exact .inr (.inr (.inr (.inl h)))
      · exact .inr (.inr (.inr (.inr h))))
  self := fun A i s Q E st h => wpAny_pyIter_zip st.1 h
def iZipM (K : PySem.W.Frag) (ta : TA) : TI := fun σ H R => ta σ H fun vs H1 => ∃ a b xs ys, vs = [.ref a, .ref b] ∧ SqT K H1 a xs ∧ SqL K H1 b ys ∧ R (ItzM K a b) H1
theorem pi_zipM {X : Cx} {e e2 : Expr} {ta : TA} {p pos tpos : Pos} {elts : List Expr} {kk : Nat} (hg : Gl X "zip") (hm : X.mg "zip" = none) (ha : PA X [e, e2] ta)
    (hs : starEach [e, e2] X.env = (false, eval e X.env) :: starEach [e2] X.env := by rfl) (hpl : (backTo pos (starEach [e2] X.env)).any (·.1) = false := by rfl) :
    PI X (.Tuple elts kk tpos) (.Call (.Name "zip" p) [e, e2] [] pos) (iZipM X.K ta) := by
  refine ⟨fun pins s σ H R I h => Call_ (ld_blt I hg hm PyProof.Rows.boot_zip (PyProof.Rows.callWith_type1 (thn (ha.run pos pins s σ H _ I h) fun us s1 q => ?_) hs hpl))⟩
  obtain ⟨vs, H1, I1, r1, a, b, xs, ys, rfl, hx, hy, q⟩ := q
  obtain ⟨rfl⟩ : us = [Value.ref a, Value.ref b] := by
    cases r1 with
    | cons r rr =>
      cases rr with
      | cons r' rr =>
        cases rr
        cases r
        cases r'
        rfl
  obtain ⟨its, rv, t1, _⟩ := I1.tuple hx
  obtain ⟨its2, rv2, t2, _⟩ := I1.list hy
  have la : a < s1.heap.objs.size := by
    obtain ⟨o, ho, _⟩ := id t1
    exact Heap.lt_size ho
  have lb : b < s1.heap.objs.size := t2.lt
  have hf : ∀ c, c ∈ [s1.heap.objs.size + 4, s1.heap.objs.size + 2, s1.heap.objs.size + 3, s1.heap.objs.size, s1.heap.objs.size + 1] → FpOk X pins H1 c := fun c hc => by
    have hle : s1.heap.objs.size ≤ c := by
      simp only [List.mem_cons, List.not_mem_nil, or_false] at hc
      rcases hc with h | h | h | h | h <;> (rw [h]; first | exact Nat.le_add_right _ _ | exact Nat.le_refl _)
    exact I1.fpOk hle (I1.hok.fresh hle)
  refine zip_begins2 (begins_tuple a its.toArray) (begins_list b its2.toArray) t1 t2.isList fun h' w1 w2 w3 w4 w5 _ hk => wpAny_pyIter_zip w1 ?_
  have I2 : Inv X pins σ H1 { s1 with heap := h' } := I1.kept (t' := s1.toks) hk
  have S : ZipSep2 (s1.heap.objs.size + 4) (s1.heap.objs.size + 2) (s1.heap.objs.size + 3) s1.heap.objs.size (s1.heap.objs.size + 1) [s1.heap.objs.size, a] [s1.heap.objs.size + 1, b] := zip_sep2 (N := s1.heap.objs.size) (fp1 := [a]) (fp2 := [b]) (fun c hc => by
    rw [List.mem_singleton] at hc
    rw [hc]
    exact la) (fun c hc => by
    rw [List.mem_singleton] at hc
    rw [hc]
    exact lb)
  exact ⟨s1.heap.objs.size + 4, _, _, _, H1, rfl, I2, turn_zipM S (Nat.ne_of_lt la) (Nat.ne_of_lt (Nat.lt_succ_of_lt lb)), ⟨w1, w2, ⟨_, _, w3⟩, ⟨_, w4, rfl, rfl⟩, ⟨_, w5, rfl, rfl⟩⟩, hf, q⟩
section
variable {X : Cx} {tg e a b c : Expr} {σ : L2.St} {F H F' H' : Hp} {α β γ : Type} {f : α → Pr} {g : β → Pr} {xs : List α} {ys : List β} {pos p p2 : Pos}
theorem zip_get {xs : List α} {ys : List β} {i : Nat} {x : α × β} (h : (xs.zip ys)[i]? = some x) : xs[i]? = some x.1 ∧ ys[i]? = some x.2 := by
  have := List.getElem?_zip_eq_some.mp h
  exact this
theorem src_z {J : It} {a b : Addr} {vs ws : List V} {Sq1 Sq2 : Hp → Addr → List V → Prop} [∀ x, Mn (f x)] [∀ x, Mn (g x)] (hJg : ∀ i H x y, Sq1 H a vs → Sq2 H b ws → vs[i]? = some x → ws[i]? = some y → J.go i H)
    (hJy : ∀ i H v H', Sq1 H a vs → Sq2 H b ws → J.yld i H v H' → ∃ T x y, v = .ref T ∧ H T = none ∧ H' = upd H T (.tup [x, y]) ∧ vs[i]? = some x ∧ ws[i]? = some y)
    (hJs : ∀ H, Sq1 H a vs → Sq2 H b ws → J.stop (min vs.length ws.length) H) (h1 : ∀ F3 H3, Same F F3 → Same F3 H3 → Sq1 H3 a vs ∧ Sq2 H3 b ws) (r1 : AllP f vs xs F) (r2 : AllP g ws ys F) : Src J F (fun z : α × β => pP (f z.1) (g z.2)) (xs.zip ys) := fun F3 H3 s1 s2 => by
  obtain ⟨q1, q2⟩ := h1 F3 H3 s1 s2
  refine ⟨by rw [List.length_zip, ← r1.1, ← r2.1]; exact hJs H3 q1 q2, fun i z hz => ?_⟩
  obtain ⟨z1, z2⟩ := zip_get hz
  obtain ⟨x, hx, px⟩ := r1.get z1
  obtain ⟨y, hy, py⟩ := r2.get z2
  refine ⟨hJg i H3 x y q1 q2 hx hy, fun v H4 hv => ?_⟩
  obtain ⟨T, x', y', rfl, hT, rfl, e1, e2⟩ := hJy i H3 v H4 q1 q2 hv
  rw [hx] at e1
  rw [hy] at e2
  cases e1
  cases e2
  have hF : F3 T = none := s2.free hT
  exact ⟨upd F3 T (.tup [x, y]), Gw.pub s2 hT, T, x, y, rfl, upd_same, Mn.mono _ _ _ (s1.trans (same_new hF)) px, Mn.mono _ _ _ (s1.trans (same_new hF)) py⟩
theorem wk_zipL [∀ x, Mn (f x)] [∀ x, Mn (g x)] {elts : List Expr} {kk : Nat} {tpos : Pos} (hm : X.mg "zip" = none) (ha : Ev X a σ F H (pL f xs)) (hb : Ev X b σ F H (pL g ys)) (hg : Gl X "zip" := by rfl) (hs : starEach [a, b] X.env = (false, eval a X.env) :: starEach [b] X.env := by rfl)
    (hs1 : starEach [b] X.env = (false, eval b X.env) :: starEach [] X.env := by rfl) (hpl : (backTo pos (starEach [b] X.env)).any (·.1) = false := by rfl) : Wk X (.Tuple elts kk tpos) (.Call (.Name "zip" p) [a, b] [] pos) σ F H (fun z : α × β => pP (f z.1) (g z.2)) (xs.zip ys) := fun F1 H1 g1 R q =>
  wi_ (RZ.pi_zipA hg hm pa_w hs hpl) (ea_cons ha (ea_one hb hs1) hs F1 H1 g1 _ fun vs F2 H2 g2 ⟨v, _, e1, ⟨l, ws, e2, hl, r⟩, w, _, e4, ⟨l2, ws2, e5, hl2, r2⟩, e3⟩ => by
    cases e3
    subst e1 e2 e4 e5
    refine ⟨l, l2, ws, ws2, rfl, .inl ⟨SqL.of (g2.s _ _ hl), SqL.of (g2.s _ _ hl2), q _ F2 H2 g2 (src_z (Sq1 := SqL X.K) (Sq2 := SqL X.K) (fun i H x y h1 h2 h3 h4 => ⟨ws, ws2, x, y, h1, h2, h3, h4⟩)
      (fun i H v H' h1 h2 ⟨T, x, y, e1, e2, e3, e4, e5⟩ => ⟨T, x, y, e1, e2, e3, e4 _ h1, e5 _ h2⟩) (fun H h1 h2 => ⟨ws, ws2, h1, h2, ?_⟩) (fun F3 H3 s1 s2 => ⟨SqL.of (s2 _ _ (s1 _ _ hl)), SqL.of (s2 _ _ (s1 _ _ hl2))⟩) r r2)⟩⟩
    rcases Nat.le_total ws.length ws2.length with h | h
    · exact .inl (by rw [Nat.min_eq_left h]; exact Nat.le_refl _)
    · exact .inr (by rw [Nat.min_eq_right h]; exact Nat.le_refl _))
theorem wk_zipT [∀ x, Mn (f x)] [∀ x, Mn (g x)] {elts : List Expr} {kk : Nat} {tpos : Pos} (hm : X.mg "zip" = none) (ha : Ev X a σ F H (pT f xs)) (hb : Ev X b σ F H (pT g ys)) (hg : Gl X "zip" := by rfl) (hs : starEach [a, b] X.env = (false, eval a X.env) :: starEach [b] X.env := by rfl)
    (hs1 : starEach [b] X.env = (false, eval b X.env) :: starEach [] X.env := by rfl) (hpl : (backTo pos (starEach [b] X.env)).any (·.1) = false := by rfl) : Wk X (.Tuple elts kk tpos) (.Call (.Name "zip" p) [a, b] [] pos) σ F H (fun z : α × β => pP (f z.1) (g z.2)) (xs.zip ys) := fun F1 H1 g1 R q =>
  wi_ (RZ.pi_zipA hg hm pa_w hs hpl) (ea_cons ha (ea_one hb hs1) hs F1 H1 g1 _ fun vs F2 H2 g2 ⟨v, _, e1, ⟨l, ws, e2, hl, r⟩, w, _, e4, ⟨l2, ws2, e5, hl2, r2⟩, e3⟩ => by
    cases e3
    subst e1 e2 e4 e5
    refine ⟨l, l2, ws, ws2, rfl, .inr ⟨SqT.of (g2.s _ _ hl), SqT.of (g2.s _ _ hl2), q _ F2 H2 g2 (src_z (Sq1 := SqT X.K) (Sq2 := SqT X.K) (fun i H x y h1 h2 h3 h4 => ⟨ws, ws2, x, y, h1, h2, h3, h4⟩)
      (fun i H v H' h1 h2 ⟨T, x, y, e1, e2, e3, e4, e5⟩ => ⟨T, x, y, e1, e2, e3, e4 _ h1, e5 _ h2⟩) (fun H h1 h2 => ⟨ws, ws2, h1, h2, ?_⟩) (fun F3 H3 s1 s2 => ⟨SqT.of (s2 _ _ (s1 _ _ hl)), SqT.of (s2 _ _ (s1 _ _ hl2))⟩) r r2)⟩⟩
    rcases Nat.le_total ws.length ws2.length with h | h
    · exact .inl (by rw [Nat.min_eq_left h]; exact Nat.le_refl _)
    · exact .inr (by rw [Nat.min_eq_right h]; exact Nat.le_refl _))
theorem wk_zipM [∀ x, Mn (f x)] [∀ x, Mn (g x)] {elts : List Expr} {kk : Nat} {tpos : Pos} (hm : X.mg "zip" = none) (ha : Ev X a σ F H (pT f xs)) (hb : Ev X b σ F H (pL g ys)) (hg : Gl X "zip" := by rfl) (hs : starEach [a, b] X.env = (false, eval a X.env) :: starEach [b] X.env := by rfl)
    (hs1 : starEach [b] X.env = (false, eval b X.env) :: starEach [] X.env := by rfl) (hpl : (backTo pos (starEach [b] X.env)).any (·.1) = false := by rfl) : Wk X (.Tuple elts kk tpos) (.Call (.Name "zip" p) [a, b] [] pos) σ F H (fun z : α × β => pP (f z.1) (g z.2)) (xs.zip ys) := fun F1 H1 g1 R q =>
  wi_ (pi_zipM hg hm pa_w hs hpl) (ea_cons ha (ea_one hb hs1) hs F1 H1 g1 _ fun vs F2 H2 g2 ⟨v, _, e1, ⟨l, ws, e2, hl, r⟩, w, _, e4, ⟨l2, ws2, e5, hl2, r2⟩, e3⟩ => by
    cases e3
    subst e1 e2 e4 e5
    exact ⟨l, l2, ws, ws2, rfl, SqT.of (g2.s _ _ hl), SqL.of (g2.s _ _ hl2), q _ F2 H2 g2 (src_z (Sq1 := SqT X.K) (Sq2 := SqL X.K) (fun i H x y h1 h2 h3 h4 => ⟨ws, ws2, x, y, h1, h2, h3, h4⟩)
      (fun i H v H' h1 h2 ⟨T, x, y, e1, e2, e3, e4, e5⟩ => ⟨T, x, y, e1, e2, e3, e4 _ h1, e5 _ h2⟩) (fun H h1 h2 => ⟨ws, ws2, h1, h2, rfl⟩) (fun F3 H3 s1 s2 => ⟨SqT.of (s2 _ _ (s1 _ _ hl)), SqL.of (s2 _ _ (s1 _ _ hl2))⟩) r r2)⟩)
/-- n, n - 1, .., 1 -/
def dwn (n : Nat) : List Int := (List.range n).map fun i => (n : Int) - (i : Nat)
theorem wk_dwn {n : Nat} (hm : X.mg "range" = none) (ha : Ev X a σ F H (pI (n : Int))) (hb : Ev X b σ F H (pI 0)) (hc : Ev X c σ F H (pI (-1))) (hn : n < 2 ^ 62) (hg : Gl X "range" := by rfl) (hs : starEach [a, b, c] X.env = (false, eval a X.env) :: starEach [b, c] X.env := by rfl)
    (hs1 : starEach [b, c] X.env = (false, eval b X.env) :: starEach [c] X.env := by rfl) (hs2 : starEach [c] X.env = (false, eval c X.env) :: starEach [] X.env := by rfl) (hpl : (backTo pos (starEach [b, c] X.env)).any (·.1) = false := by rfl) : Wk X tg (.Call (.Name "range" p) [a, b, c] [] pos) σ F H pI (dwn n) := fun F1 H1 g1 R q =>
  wi_ (pi_range3 hg hm pa_w hs hpl) (ea_cons ha (ea_cons hb (ea_one hc hs2) hs1) hs F1 H1 g1 _ fun vs F2 H2 g2 ⟨v, _, e1, e2, w, _, e4, e5, u, _, e6, e7, e3⟩ => by
    cases e3
    cases e2
    cases e5
    cases e7
    subst e1 e4 e6
    have hr := RgC.neg (i := (n : Int)) (j := 0) (by omega) (by omega) (by omega) (by omega)
    refine ⟨n, 0, -1, ((n : Int) - 0).toNat, rfl, hr, q _ F2 H2 g2 fun F3 H3 s1 s2 => ⟨?_, fun i x hx => ⟨?_, fun v H4 hv => ?_⟩⟩⟩
    · show ((n : Int) - 0).toNat ≤ (dwn n).length
      unfold dwn
      rw [List.length_map, List.length_range]
      omega
    · obtain ⟨hh, _⟩ := List.getElem?_eq_some_iff.mp hx
      unfold dwn at hh
      rw [List.length_map, List.length_range] at hh
      show i < ((n : Int) - 0).toNat
      omega
    · obtain ⟨rfl, rfl⟩ := hv
      obtain ⟨hh, e⟩ := List.getElem?_eq_some_iff.mp hx
      have e2 : (n : Int) - (i : Nat) = x := by
        rw [← e]
        simp [dwn]
      refine ⟨F3, Gw.refl s2, ?_⟩
      show V.int ((n : Int) + (i : Nat) * (-1)) = V.int x
      rw [← e2]
      congr 1
      omega)
end
end K24
set_option Elab.async false
set_option linter.all false
set_option maxRecDepth 100000
set_option maxHeartbeats 4000000
namespace K24
open PySem PySem.Spec PyProof.Rows L2

/-! ### operators that an own class defines -/
section
variable {X : Cx} {pins : List (Addr × Obj)} {σ : L2.St} {H : Hp} {s : Shared} {k : Nat} {C f : Addr} {fd : FuncData} {ps : List Str} {sp : Sp} {m : Str}
theorem cmpBack {Q : VK} {u : Value} {s' : Shared} (h : EP X pins σ Q u s') : PySem.W.CmpBack (EP X pins σ Q) u s' := by
  obtain ⟨v, H', I, r, q⟩ := id h
  cases u with
  | notImplemented => cases v <;> first | (cases r; done) | (obtain ⟨_, r⟩ := r; cases r; done)
  | _ => exact h
theorem inst_at (I : Inv X pins σ H s) {a dx : Addr} {fs : List (Str × V)} (h : H a = some (.ins C dx fs)) : ∃ ox od, PySem.W.InstAt s.heap a ox C od := by
  obtain ⟨mA, J, _⟩ := ins_get I.hok h
  obtain ⟨od, J, _⟩ := J.look
  exact ⟨_, _, J⟩
/-- the callee runs, one C call deeper -/
theorem run_in1 {Q : VK} {us : List Value} {vs : List V} (F : FnOk X.prog X.w X.K X.mg X.base CX0 k f fd ps sp) (hr : Room (k + 1) X.A) (hb : Binds X.K fd ps [])
    (I : Inv X pins σ H s) (r : Vals vs us) (h : sp vs H Q E0) : wpAny (model X.prog X.w) X.A.in1 (call (.ref f) us) (EP X pins σ Q) X.xe s := by
  have hl : (us ++ []).length = ps.length := by rw [List.append_nil, ← r.length]; exact F.len _ _ _ _ h
  have hb' := hb s us I.kIn hl
  rw [List.append_nil] at hb'
  refine wpAny_call (codeAny_mono (F.run X.A.in1 X.stack s H ⟨us, []⟩ us vs Q E0 hr.in1 I.env0.in1 hb' r h) fun r s' hq => ?_)
  cases r with
  | error e => exact hq.elim
  | ok fl =>
    cases fl with
    | ret u => exact I.after hq
    | next => exact False.elim hq
    | brk => exact False.elim hq
    | cont => exact False.elim hq
/-- x op y, both of the class at C, by C's own def -/
def rOwn (C : Addr) (sp : Sp) : R2 := fun x y H Q => ∃ a b dx dy fs gs, x = .ref a ∧ y = .ref b ∧ H a = some (.ins C dx fs) ∧ H b = some (.ins C dy gs) ∧ sp [x, y] H Q E0
theorem op_own {op : Operator} (D : MtD X.prog X.w X.K X.mg X.base k C (PySem.dunder op.info.2) sp) (hr : Room k X.A) (sf : PySem.W.selfFirst X.K C = true) : OpR X (binaryOp op) (rOwn C sp) := by
  intro pins s σ H x y v u Q I rx ry h
  obtain ⟨a, b, dx, dy, fs, gs, rfl, rfl, ha, hb, hsp⟩ := h
  cases rx
  cases ry
  obtain ⟨f, fd, ps, D1, D2, D3⟩ := D.ex
  obtain ⟨ox, od, J⟩ := inst_at I ha
  obtain ⟨oy, od', J'⟩ := inst_at I hb
  obtain ⟨m, hF⟩ := I.fr
  refine PySem.W.binop_K hF I.ok.mod.kin J J'.type sf D2.at_ D2.fn (thn (run_fn (us := [.ref a, .ref b]) (vs := [.ref a, .ref b]) D1 hr D3 .nil pass0 I (.cons rfl (.cons rfl .nil)) (by rw [List.append_nil]; exact hsp)) fun w s' q => cmpBack q)
/-- x == y -/
theorem op_ownEq (D : MtD X.prog X.w X.K X.mg X.base k C "__eq__" sp) (hr : Room k X.A) : OpR X (compareOp .Eq) (rOwn C sp) := by
  intro pins s σ H x y v u Q I rx ry h
  obtain ⟨a, b, dx, dy, fs, gs, rfl, rfl, ha, hb, hsp⟩ := h
  cases rx
  cases ry
  obtain ⟨f, fd, ps, D1, D2, D3⟩ := D.ex
  obtain ⟨ox, od, J⟩ := inst_at I ha
  obtain ⟨oy, od', J'⟩ := inst_at I hb
  obtain ⟨m, hF⟩ := I.fr
  show wpAny (model X.prog X.w) X.A (richCompare .Eq (.ref a) (.ref b)) _ _ _
  refine PySem.W.cmp_K (op := .Eq) (tb := .ref C) hr.units0 hF I.ok.mod.kin J J'.type (by simp [PySem.W.notFirst]) D2.at_ D2.fn (thn (run_fn (us := [.ref a, .ref b]) (vs := [.ref a, .ref b]) D1 hr D3 .nil pass0 I (.cons rfl (.cons rfl .nil)) (by rw [List.append_nil]; exact hsp)) fun w s' q => cmpBack q)
section
variable {M : Model} {A : Around} {E : Value → Shared → Prop} {K : PySem.W.Frag} {x C f : Addr} {ox : Obj} {od : Option Obj} {s : Shared}
theorem check_slotK {id owner n : String} {rest : List Value} {Q : Unit → Shared → Prop} (hk : builtinKind id = some .slot) (hs : splitId id = some (owner, n)) (ha : argsOk id ⟨.ref x :: rest, []⟩)
    (KX : K.In s.heap) (J : PySem.W.InstAt s.heap x ox C od) (hob : PySem.W.subIn K (.ref C) (.type owner) = some true) (hq : Q () s) : wpAny M A (checkBuiltinCall id ⟨.ref x :: rest, []⟩) Q E s := by
  simp only [checkBuiltinCall, hk, hs]
  refine wpAny_bind ?_
  unfold isInstance
  refine wpAny_bind (J.type.here ((PySem.W.looks_subIn KX hob).here ?_))
  simp only [Bool.not_true, Bool.false_eq_true, if_false]
  cases hsig : Manifest.signature? id with
  | none => exact wpAny_pure hq
  | some sig =>
    simp only [argsOk, hsig] at ha
    have h2 : Bind.checkArgs id sig ⟨.ref x :: rest, []⟩ = pure () := ha
    show wpAny M A (Bind.checkArgs id sig ⟨.ref x :: rest, []⟩) Q E _
    rw [h2]
    exact wpAny_pure hq
theorem objNe_K {y : Value} {Q : Fin → Shared → Prop} (hu : A.units < cLine) (KX : K.In s.heap) (J : PySem.W.InstAt s.heap x ox C od) (hs : PySem.W.findIn K (.ref C) "__eq__" = some (some (.ref f))) (hf : PySem.W.isFn K (.ref f) = true)
    (h : wpAny M A (call (.ref f) [.ref x, y]) (fun v s' => ∃ b, v = .bool b ∧ Q (.done (.ret (.bool (!b)))) s') E s) : wpAny M A (Builtin.«object.__ne__» ⟨[.ref x, y], []⟩) Q E s := by
  unfold Builtin.«object.__ne__»
  repeat (first
    | with_reducible refine wpAny_cRoomFor hu ?_
    | (refine wpAny_bind (m := callSpecialIfBound? (.ref x) (Str.ofString "__eq__") [y])
        (PySem.W.ifBound_K KX J hs hf (wpAny_mono h (fun r s' hr => by
          obtain ⟨b, rfl, hq⟩ := hr
          repeat (first | exact hq | exact wpAny_pure hq | exact wpAny_truthy_bool hq | (refine wpAny_bind (m := truthy (.bool _)) (wpAny_truthy_bool ?_)) | wp_step)) fun _ _ e => e)))
    | wp_step)
theorem ifBound_ne {args : List Value} {Q : Option Value → Shared → Prop} (KX : K.In s.heap) (J : PySem.W.InstAt s.heap x ox C od) (hs : PySem.W.findIn K (.ref C) "__ne__" = some (some (.builtin "object.__ne__")))
    (h : wpAny M A (call (.builtin "object.__ne__") (.ref x :: args)) (fun v => Q (some v)) E s) : wpAny M A (callSpecialIfBound? (.ref x) "__ne__" args) Q E s := by
  simp only [callSpecialIfBound?, bindSpecialIfBound?]
  refine wpAny_holding (wpAny_bind (wpAny_bind (wpAny_bind (J.type.here ((PySem.W.looks_findIn KX hs).here ?_)))))
  simp only [F.cmp_object.ne.bind]
  refine wpAny_bind (wpAny_askSetting (wpAny_ite ?_))
  have fin : wpAny M A (call (.builtin "object.__ne__") ([.ref x] ++ args) >>= fun v => pure (some v)) Q E s := wpAny_bind (wpAny_mono h (fun v s' h' => wpAny_pure h') fun _ _ h' => h')
  split
  · exact wpAny_bind (wpAny_pure (wpAny_pure fin))
  · exact wpAny_tryCatch (wpAny_bind (wpAny_pure (wpAny_pure fin)))
end
/-- x != y by an own __eq__ alone -/
def rOwnNe (C : Addr) (sp : Sp) : R2 := fun x y H Q => ∃ a b dx dy fs gs, x = .ref a ∧ y = .ref b ∧ H a = some (.ins C dx fs) ∧ H b = some (.ins C dy gs) ∧ sp [x, y] H (fun v H' => ∃ c, v = .bl c ∧ Q (.bl (!c)) H') E0
theorem op_ownNe (D : MtD X.prog X.w X.K X.mg X.base k C "__eq__" sp) (hr : Room (k + 1) X.A) (hne : PySem.W.findIn X.K (.ref C) "__ne__" = some (some (.builtin "object.__ne__"))) (hob : PySem.W.subIn X.K (.ref C) (.type "object") = some true) : OpR X (compareOp .NotEq) (rOwnNe C sp) := by
  intro pins s σ H x y v u Q I rx ry h
  obtain ⟨a, b, dx, dy, fs, gs, rfl, rfl, ha, hb, hsp⟩ := h
  cases rx
  cases ry
  obtain ⟨f, fd, ps, D1, D2, D3⟩ := D.ex
  obtain ⟨ox, od, J⟩ := inst_at I ha
  obtain ⟨oy, od', J'⟩ := inst_at I hb
  have KX : X.K.In s.heap := I.kIn
  have hu : X.A.units + 64 < cLine := hr.units
  have one : wpAny (model X.prog X.w) X.A (tryCompare (.ref a) "__ne__" (.ref b)) (fun r s' => ∃ v, r = some v ∧ EP X pins σ Q v s') X.xe s := by
    unfold tryCompare
    refine wpAny_bind (ifBound_ne KX J hne (wpAny_call (codeAny_call_builtin F.cmp_object.ne.plain F.cmpEntry_ne (check_slotK F.cmpKind_ne F.cmpSplit_ne (F.cmpArgs_ne _ _) KX J hob ?_))))
    refine objNe_K (A := X.A.in1) (Nat.lt_of_le_of_lt (by show X.A.units + 1 ≤ X.A.units + 64; omega) hu) KX J D2.at_ D2.fn (thn (run_in1 (us := [.ref a, .ref b]) (vs := [.ref a, .ref b]) D1 hr D3 I (.cons rfl (.cons rfl .nil)) hsp) fun r s' hv => ?_)
    obtain ⟨v, H', I', rv, c, rfl, q⟩ := hv
    cases rv
    have fin : EP X pins σ Q (.bool (!c)) s' := ⟨.bl (!c), H', I', rfl, q⟩
    first | exact ⟨c, rfl, ⟨_, rfl, wpAny_pure ⟨_, rfl, fin⟩⟩⟩ | exact ⟨c, rfl, wpAny_pure ⟨_, rfl, fin⟩⟩ | exact ⟨c, rfl, ⟨_, rfl, fin⟩⟩
  show wpAny (model X.prog X.w) X.A (richCompare .NotEq (.ref a) (.ref b)) _ _ _
  unfold richCompare
  simp only [oneThing_ref]
  refine wpAny_holding (wpAny_bind (wpAny_cRoomFor hr.units0 ?_))
  refine wpAny_bind (J.type.here (wpAny_bind (J'.type.here ?_)))
  rw [show (Value.ref C != Value.ref C) = false from by simp]
  simp only [Bool.false_eq_true, if_false]
  refine wpAny_bind (wpAny_pure ?_)
  simp only [Bool.false_eq_true, if_false]
  refine wpAny_bind (wpAny_mono one (fun r s' z => ?_) fun _ _ e => e)
  obtain ⟨v, rfl, hq⟩ := z
  exact wpAny_pure hq
/-- len(x) by an own __len__ -/
def rOwnLen (C : Addr) (sp : Sp) : List V → Hp → VK → Prop := fun xs H Q => ∃ a dx fs, xs = [.ref a] ∧ H a = some (.ins C dx fs) ∧ sp [.ref a] H (fun v H' => ∃ n : Int, v = .int n ∧ 0 ≤ n ∧ n < 2 ^ 63 ∧ Q (.int n) H') E0
theorem call_ownLen (D : MtD X.prog X.w X.K X.mg X.base k C "__len__" sp) (hr : Room (k + 1) X.A) : CallR X (.builtin "len") (rOwnLen C sp) := by
  intro pins s σ H vs us Q I r h
  obtain ⟨a, dx, fs, rfl, ha, hsp⟩ := h
  obtain ⟨rfl⟩ : us = [Value.ref a] := by
    cases r with
    | cons r rr =>
      cases rr
      cases r
      rfl
  obtain ⟨f, fd, ps, D1, D2, D3⟩ := D.ex
  obtain ⟨ox, od, J⟩ := inst_at I ha
  obtain ⟨m, hF⟩ := I.fr
  refine PySem.W.len_K hF I.ok.mod.kin J D2.at_ D2.fn (thn (run_in1 (us := [.ref a]) (vs := [.ref a]) D1 hr D3 I (.cons rfl .nil) hsp) fun u s' q => ?_)
  obtain ⟨v, H', I', rv, n, rfl, h0, h1, q⟩ := q
  obtain ⟨t, rfl⟩ := rv
  exact ⟨⟨h0, h1⟩, .int n, H', I'.tok _, ⟨_, rfl⟩, q⟩
/-- v not in x by an own __contains__ -/
def rOwnNotIn (C : Addr) (sp : Sp) : R2 := fun y x H Q => ∃ a dx fs, x = .ref a ∧ H a = some (.ins C dx fs) ∧ sp [x, y] H (fun v H' => ∃ c, v = .bl c ∧ Q (.bl (!c)) H') E0
theorem op_ownNotIn (D : MtD X.prog X.w X.K X.mg X.base k C "__contains__" sp) (hr : Room k X.A) : OpR X (compareOp .NotIn) (rOwnNotIn C sp) := by
  intro pins s σ H y x v u Q I ry rx h
  obtain ⟨a, dx, fs, rfl, ha, hsp⟩ := h
  cases rx
  obtain ⟨f, fd, ps, D1, D2, D3⟩ := D.ex
  obtain ⟨ox, od, J⟩ := inst_at I ha
  obtain ⟨m, hF⟩ := I.fr
  refine PySem.W.notIn_K hF I.ok.mod.kin J D2.at_ D2.fn (thn (run_fn (us := [.ref a, v]) (vs := [.ref a, y]) D1 hr D3 .nil pass0 I (.cons rfl (.cons ry .nil)) (by rw [List.append_nil]; exact hsp)) fun w s' q => ?_)
  obtain ⟨z, H', I', rz, c, rfl, q⟩ := q
  cases rz
  exact wpAny_truthy_bool ⟨.bl (!c), H', I', rfl, q⟩
end
end K24
set_option Elab.async false
set_option linter.all false
set_option maxRecDepth 100000
set_option maxHeartbeats 4000000
set_option autoImplicit false
namespace K24
open PySem PySem.Spec PyProof.Rows L2
open PySem.W (Datum DatumOrd Holds HoldAll Tup)

/-! ### data: a predicate that reads as a Lean value -/
def Rd8 {α : Type} [DecidableEq α] [Datum α] (x : α) (p : Pr) : Prop := ∀ (X : Cx) (pins : List (Addr × Obj)) (σ : L2.St) (H : Hp) (s : Shared) (F : Hp) (v : V) (u : Value), Inv X pins σ H s → Same F H → p v F → RelV v u → Holds s.heap u x
section
variable {α β : Type} [DecidableEq α] [Datum α] [DecidableEq β] [Datum β]
theorem rd_int (i : Int) : Rd8 i (pI i) := fun X pins σ H s F v u I sm p r => by
  cases p
  obtain ⟨t, rfl⟩ := r
  exact PySem.W.holds_int i t
theorem rd_all {f : α → Pr} (h : ∀ x, Rd8 x (f x)) {X : Cx} {pins : List (Addr × Obj)} {σ : L2.St} {H : Hp} {s : Shared} {F : Hp} (I : Inv X pins σ H s) (sm : Same F H) : ∀ {vs : List V} {us : List Value} {xs : List α}, AllP f vs xs F → Vals vs us → HoldAll s.heap us xs
  | [], _, xs, r, v => by
    cases v
    have : xs = [] := List.length_eq_zero_iff.mp r.1.symm
    subst this
    exact HoldAll.nil
  | w :: vs, _, [], r, v => nomatch r.1
  | w :: vs, _, x :: xs, r, v => by
    cases v with
    | cons v1 v2 =>
      refine HoldAll.cons (h x X pins σ H s F w _ I sm (r.2 0 w x rfl rfl) v1) (rd_all h I sm ⟨Nat.succ.inj r.1, fun i v y a b => r.2 (i + 1) v y (by simpa using a) (by simpa using b)⟩ v2)
theorem rd_L {f : α → Pr} (h : ∀ x, Rd8 x (f x)) (xs : List α) : Rd8 xs (pL f xs) := fun X pins σ H s F v u I sm ⟨a, vs, e, hF, r⟩ rv => by
  subst e
  obtain rfl : u = Value.ref a := rv
  obtain ⟨its, rv, hl, _⟩ := I.list (SqL.of (sm _ _ hF))
  exact PySem.W.holds_list hl.isList (by simpa using rd_all h I sm r rv)
theorem rd_T {f : α → Pr} (h : ∀ x, Rd8 x (f x)) (xs : List α) : Rd8 (Tup.mk xs) (pT f xs) := fun X pins σ H s F v u I sm ⟨a, vs, e, hF, r⟩ rv => by
  subst e
  obtain rfl : u = Value.ref a := rv
  obtain ⟨its, rv, hl, _⟩ := I.tuple (SqT.of (sm _ _ hF))
  exact PySem.W.holds_tup hl (by simpa using rd_all h I sm r rv)
theorem rd_P {p q : Pr} {x : α} {y : β} (hp : Rd8 x p) (hq : Rd8 y q) : Rd8 (x, y) (pP p q) := fun X pins σ H s F v u I sm ⟨a, v1, v2, e, hF, h1, h2⟩ rv => by
  subst e
  obtain rfl : u = Value.ref a := rv
  obtain ⟨its, rv, hl, _⟩ := I.tuple (SqT.of (sm _ _ hF))
  obtain ⟨u1, u2, rfl, r1, r2⟩ := vals2 rv
  exact PySem.W.holds_pair hl (hp X pins σ H s F v1 u1 I sm h1 r1) (hq X pins σ H s F v2 u2 I sm h2 r2)
end
/-- tuples of ints; tuples of those -/
abbrev pTI (xs : List Int) : Pr := pT pI xs
abbrev tI (xs : List Int) : Tup Int := ⟨xs⟩
abbrev pTT (xs : List (List Int)) : Pr := pT pTI xs
def toTT (xs : List (List Int)) : Tup (Tup Int) := ⟨xs.map Tup.mk⟩
theorem rd_TI (xs : List Int) : Rd8 (Tup.mk xs) (pTI xs) := rd_T rd_int xs
theorem AllP.mapL {α γ : Type} {f : α → Pr} {g : γ → Pr} {h : γ → α} {vs : List V} {xs : List γ} {F : Hp} (r : AllP g vs xs F) (k : ∀ x v, g x v F → f (h x) v F) : AllP f vs (xs.map h) F := r.imp fun x v _ q => k x v q
theorem rd_TT (xs : List (List Int)) : Rd8 (toTT xs) (pTT xs) := fun X pins σ H s F v u I sm ⟨a, vs, e, hF, r⟩ rv =>
  rd_T (f := fun t : Tup Int => pTI t.items) (fun t => rd_TI t.items) (xs.map Tup.mk) X pins σ H s F v u I sm ⟨a, vs, e, hF, r.imp fun x v _ q => q⟩ rv
theorem toTT_inj {xs ys : List (List Int)} : toTT xs = toTT ys ↔ xs = ys := by
  unfold toTT
  constructor
  · intro e
    have e2 := congrArg Tup.items e
    exact (List.map_inj_right (fun a b h => congrArg Tup.items h)).mp e2
  · intro e
    rw [e]
section
variable {X : Cx}
/-- two data -/
def rDat {α : Type} [DecidableEq α] [Datum α] (p q : Pr) (x y : α) (ans : Bool) : R2 := fun v w H Q => ∃ F, Same F H ∧ p v F ∧ q w F ∧ Q (.bl ans) H
variable {α : Type} [DecidableEq α]
theorem op_eqQ [Datum α] {p q : Pr} {x y : α} (hp : Rd8 x p) (hq : Rd8 y q) (hu : X.A.units + Datum.depth α < cLine) : OpR X (compareOp .Eq) (rDat p q x y (decide (x = y))) := by
  intro pins s σ H v w u z Q I rx ry ⟨F, sm, pv, pw, k⟩
  exact PySem.W.eq_datum (hp X pins σ H s F v _ I sm pv rx) (hq X pins σ H s F w _ I sm pw ry) hu ⟨.bl _, H, I, rfl, k⟩
theorem op_neQ [Datum α] {p q : Pr} {x y : α} (hp : Rd8 x p) (hq : Rd8 y q) (hu : X.A.units + Datum.depth α < cLine) : OpR X (compareOp .NotEq) (rDat p q x y (decide (x ≠ y))) := by
  intro pins s σ H v w u z Q I rx ry ⟨F, sm, pv, pw, k⟩
  exact PySem.W.ne_datum (hp X pins σ H s F v _ I sm pv rx) (hq X pins σ H s F w _ I sm pw ry) hu ⟨.bl _, H, I, rfl, k⟩
theorem op_ltQ [DatumOrd α] {p q : Pr} {x y : α} (hp : Rd8 x p) (hq : Rd8 y q) (hu : X.A.units + Datum.depth α < cLine) : OpR X (compareOp .Lt) (rDat p q x y (DatumOrd.lt x y)) := by
  intro pins s σ H v w u z Q I rx ry ⟨F, sm, pv, pw, k⟩
  exact PySem.W.lt_datum (hp X pins σ H s F v _ I sm pv rx) (hq X pins σ H s F w _ I sm pw ry) hu ⟨.bl _, H, I, rfl, k⟩
theorem op_leQ [DatumOrd α] {p q : Pr} {x y : α} (hp : Rd8 x p) (hq : Rd8 y q) (hu : X.A.units + Datum.depth α < cLine) : OpR X (compareOp .LtE) (rDat p q x y (!DatumOrd.lt y x)) := by
  intro pins s σ H v w u z Q I rx ry ⟨F, sm, pv, pw, k⟩
  exact PySem.W.le_datum (hp X pins σ H s F v _ I sm pv rx) (hq X pins σ H s F w _ I sm pw ry) hu ⟨.bl _, H, I, rfl, k⟩
theorem op_notInQ [Datum α] {p : Pr} {f : α → Pr} {x : α} {xs : List α} (hp : Rd8 x p) (hf : ∀ x, Rd8 x (f x)) (hu : X.A.units + 1 + Datum.depth α < cLine) : OpR X (compareOp .NotIn) (rDat p (pL f xs) x x (decide (x ∉ xs))) := by
  intro pins s σ H v w u z Q I rx ry ⟨F, sm, pv, ⟨a, vs, e, hF, r⟩, k⟩
  subst e
  obtain rfl : z = Value.ref a := ry
  obtain ⟨its, rv, hl, _⟩ := I.list (SqL.of (sm _ _ hF))
  exact PySem.W.notIn_list_datum hl.isList (by simpa using rd_all hf I sm r rv) (hp X pins σ H s F v _ I sm pv rx) hu ⟨.bl _, H, I, rfl, k⟩
variable {e a b : Expr} {σ : L2.St} {F H : Hp} {pos p : Pos} {P Q : Pr}
theorem ev_eqD [Datum α] {x y : α} [Mn P] (ha : Ev X a σ F H P) (hb : Ev X b σ F H Q) (hp : Rd8 x P) (hq : Rd8 y Q) (hu : X.A.units + Datum.depth α < cLine) : Ev X (.Compare a [.Eq] [b] pos) σ F H (pB (decide (x = y))) :=
  ev_cmp (op_eqQ hp hq hu) ha hb (fun _ _ F1 _ g hx hy Q q => ⟨F1, g.s, hx, hy, q _ _ _ (Gw.refl g.s) rfl⟩) (nomark _)
theorem evt_eqD [Datum α] {x y : α} [Mn P] (ha : Ev X a σ F H P) (hb : Ev X b σ F H Q) (hp : Rd8 x P) (hq : Rd8 y Q) (hu : X.A.units + Datum.depth α < cLine) : EvT X (.Compare a [.Eq] [b] pos) σ F H (decide (x = y)) :=
  evt_cmp (op_eqQ hp hq hu) ha hb (fun _ _ F1 _ g hx hy Q q => ⟨F1, g.s, hx, hy, q _ _ _ (Gw.refl g.s) rfl⟩) (nomark _)
theorem evt_neD [Datum α] {x y : α} [Mn P] (ha : Ev X a σ F H P) (hb : Ev X b σ F H Q) (hp : Rd8 x P) (hq : Rd8 y Q) (hu : X.A.units + Datum.depth α < cLine) : EvT X (.Compare a [.NotEq] [b] pos) σ F H (decide (x ≠ y)) :=
  evt_cmp (op_neQ hp hq hu) ha hb (fun _ _ F1 _ g hx hy Q q => ⟨F1, g.s, hx, hy, q _ _ _ (Gw.refl g.s) rfl⟩) (nomark _)
theorem evt_ltD [DatumOrd α] {x y : α} [Mn P] (ha : Ev X a σ F H P) (hb : Ev X b σ F H Q) (hp : Rd8 x P) (hq : Rd8 y Q) (hu : X.A.units + Datum.depth α < cLine) : EvT X (.Compare a [.Lt] [b] pos) σ F H (DatumOrd.lt x y) :=
  evt_cmp (op_ltQ hp hq hu) ha hb (fun _ _ F1 _ g hx hy Q q => ⟨F1, g.s, hx, hy, q _ _ _ (Gw.refl g.s) rfl⟩) (nomark _)
theorem evt_leD [DatumOrd α] {x y : α} [Mn P] (ha : Ev X a σ F H P) (hb : Ev X b σ F H Q) (hp : Rd8 x P) (hq : Rd8 y Q) (hu : X.A.units + Datum.depth α < cLine) : EvT X (.Compare a [.LtE] [b] pos) σ F H (!DatumOrd.lt y x) :=
  evt_cmp (op_leQ hp hq hu) ha hb (fun _ _ F1 _ g hx hy Q q => ⟨F1, g.s, hx, hy, q _ _ _ (Gw.refl g.s) rfl⟩) (nomark _)
theorem evt_notInD [Datum α] {f : α → Pr} {x : α} {xs : List α} [Mn P] (ha : Ev X a σ F H P) (hb : Ev X b σ F H (pL f xs)) (hp : Rd8 x P) (hf : ∀ x, Rd8 x (f x)) (hu : X.A.units + 1 + Datum.depth α < cLine) (hbm : behindInMarks .NotIn b = false := by rfl) : EvT X (.Compare a [.NotIn] [b] pos) σ F H (decide (x ∉ xs)) :=
  evt_cmp (op_notInQ (xs := xs) hp hf hu) ha hb (fun _ _ F1 _ g hx hy Q q => ⟨F1, g.s, hx, hy, q _ _ _ (Gw.refl g.s) rfl⟩) hbm
/-! min of a list of data, sorted -/
theorem toD_inj [Datum α] {x y : α} (h : Datum.toD x = Datum.toD y) : x = y := by
  have e := Datum.eqv x y
  rw [h, Datum.eqv y y, decide_eq_true rfl] at e
  exact of_decide_eq_true e.symm
theorem holds_uniq [DatumOrd α] {h : Heap} {v : Value} {x y : α} (a : Holds h v x) (b : Holds h v y) : x = y := by
  obtain ⟨as, ra⟩ := a
  obtain ⟨bs, rb⟩ := b
  exact toD_inj (PySem.W.alike_unique _ _ v as bs (DatumOrd.alike x y) ra rb)
def rMinQ [DatumOrd α] (f : α → Pr) (x : α) (xs : List α) : List V → Hp → VK → Prop := fun vs H Q => ∃ F v, Same F H ∧ vs = [v] ∧ pL f (x :: xs) v F ∧ ∀ w, f (PySem.W.minOf x xs) w F → Q w H
theorem cr_minQ [DatumOrd α] {f : α → Pr} {x : α} {xs : List α} (hc : X.calm = true) (hf : ∀ x, Rd8 x (f x)) (hu : X.A.units + 1 + Datum.depth α < cLine) : CallR X (.builtin "min") (rMinQ f x xs) := by
  intro pins s σ H vs us Q I r ⟨F, v, sm, e, ⟨a, ws, e2, hF, rr⟩, k⟩
  subst e e2
  obtain ⟨its, rv, hl, _⟩ := I.list (SqL.of (sm _ _ hF))
  rw [Vals.ref1 r]
  have HA := rd_all hf I sm rr rv
  refine PySem.W.min_list_datum (I.ok.hd hc) hl.isList (by simpa using HA) hu fun i u h' tk hi hh hk => ?_
  have hi' : its[i]? = some u := by simpa using hi
  obtain ⟨y, hy, hy2⟩ := HoldAll.at HA hi'
  have ey : y = PySem.W.minOf x xs := holds_uniq (hy2.keeps hk) hh
  obtain ⟨w, hw, fw⟩ := rr.get hy
  obtain ⟨u', hu', rw'⟩ := rv.get hw
  rw [hi'] at hu'
  cases hu'
  exact ⟨w, H, I.kept hk, rw', k w (ey ▸ fw)⟩
theorem ev_minD [DatumOrd α] {f : α → Pr} {x : α} {xs : List α} [∀ x, Mn (f x)] (hm : X.mg "min" = none) (hc : X.calm = true) (ha : Ev X e σ F H (pL f (x :: xs))) (hf : ∀ x, Rd8 x (f x)) (hu : X.A.units + 1 + Datum.depth α < cLine) (hg : Gl X "min" := by rfl) (hs : starEach [e] X.env = (false, eval e X.env) :: starEach [] X.env := by rfl) : Ev X (.Call (.Name "min" p) [e] [] pos) σ F H (f (PySem.W.minOf x xs)) :=
  ev_B (cr_minQ hc hf hu) hm (by decide +kernel) (ea_one ha hs) (fun vs F1 H1 g ⟨v, _, e1, p1, e3⟩ Q q => by
    cases e3
    subst e1
    exact ⟨F1, v, g.s, rfl, p1, fun w fw => q w F1 H1 (Gw.refl g.s) fw⟩) hg (he := hs)
/-- the order of sorted() -/
def dle [DatumOrd α] (a b : α) : Bool := !DatumOrd.lt b a
theorem dataLe_dle [DatumOrd α] : PySem.W.dataLe false (fun a : α => Datum.toD a) = dle := by
  funext a b
  rw [PySem.W.dataLe_eq]
  show (!PySem.W.dataLt (Datum.toD b) (Datum.toD a)) = _
  rw [DatumOrd.lt_eq]
  rfl
def rSortQ [DatumOrd α] (f : α → Pr) (xs : List α) : List V → Hp → VK → Prop := fun vs H Q => ∃ F v, Same F H ∧ vs = [v] ∧ pL f xs v F ∧ ∀ ws p, AllP f ws (xs.mergeSort dle) F → H p = none → Q (.ref p) (upd H p (.lst ws))
theorem each_out {f : α → Pr} {F : Hp} : ∀ {out : List Value} {ys : List α}, PySem.W.EachIs (fun u y => ∃ w, RelV w u ∧ f y w F) out ys → ∃ ws, Vals ws out ∧ AllP f ws ys F
  | _, _, .nil => ⟨[], .nil, AllP.nil⟩
  | _, _, .cons ⟨w, r, q⟩ t => by
    obtain ⟨ws, a, b⟩ := each_out t
    exact ⟨w :: ws, .cons r a, b.cons q⟩
theorem each_in {f : α → Pr} {F : Hp} : ∀ {us : List Value} {ws : List V} {ys : List α}, Vals ws us → AllP f ws ys F → PySem.W.EachIs (fun u y => ∃ w, RelV w u ∧ f y w F) us ys
  | _, _, [], .nil, _ => .nil
  | _, _, _ :: _, .nil, r => nomatch r.1
  | _, _, [], .cons _ _, r => nomatch r.1
  | _, w :: ws, y :: ys, .cons v1 v2, r => .cons ⟨w, v1, r.2 0 w y rfl rfl⟩ (each_in v2 ⟨Nat.succ.inj r.1, fun i v y a b => r.2 (i + 1) v y (by simpa using a) (by simpa using b)⟩)
theorem each_holds [Datum α] {h : Heap} : ∀ {us : List Value} {ys : List α}, HoldAll h us ys → PySem.W.EachIs (fun u y => ∃ as, PySem.Reads h u (Datum.toD y) as) us ys
  | [], [], _ => .nil
  | [], _ :: _, H => nomatch H.length
  | _ :: _, [], H => nomatch H.length
  | _ :: _, _ :: _, H => .cons H.head.1 (each_holds H.head.2)
theorem cr_sortQ [DatumOrd α] {f : α → Pr} {xs : List α} (hf : ∀ x, Rd8 x (f x)) (hk : PySem.W.Sortable (xs.map Datum.toD)) (hu : X.A.units + 2 + Datum.depth α < cLine) : CallR X (.builtin "sorted") (rSortQ f xs) := by
  intro pins s σ H vs us Q I r ⟨F, v, sm, e, ⟨a, ws, e2, hF, rr⟩, k⟩
  subst e e2
  obtain ⟨its, rv, hl, hz⟩ := I.list (SqL.of (sm _ _ hF))
  rw [Vals.ref1 r]
  have HA := rd_all hf I sm rr rv
  have hlen : xs.length ≤ sizeLine := by rw [← rr.1]; exact hz
  refine PySem.W.sorted_data (vs := its) (R := fun u y => ∃ w, RelV w u ∧ f y w F) (enc := fun a : α => Datum.toD a) hl.isList (each_in rv rr) (each_holds HA) (PySem.W.AllAlike.of fun b b' => DatumOrd.alike b b') hk hlen (fun b hb => by have := Datum.depth_le b; omega) fun out h1 h2 => ?_
  rw [dataLe_dle] at h2
  obtain ⟨zs, z1, z2⟩ := each_out h2
  obtain ⟨ep, he'⟩ := PyProof.Rows.sortedAll_at s.heap its out.toArray
  have hl2 : zs.length ≤ sizeLine := by rw [z2.1, List.length_mergeSort]; exact hlen
  exact ⟨.ref _, upd H (s.heap.objs.size + 1) (.lst zs), I.laid (t' := s.toks) (fun _ _ => PyProof.Rows.sortedAll_old) (Nat.le_succ _) ⟨hl2, out, ep, z1, he'⟩, rfl, k zs _ z2 (I.hok.fresh (Nat.le_succ _))⟩
theorem en_sortD [DatumOrd α] {f : α → Pr} {xs : List α} [∀ x, Mn (f x)] (hm : X.mg "sorted" = none) (ha : Ev X e σ F H (pL f xs)) (hf : ∀ x, Rd8 x (f x)) (hk : PySem.W.Sortable (xs.map Datum.toD)) (hu : X.A.units + 2 + Datum.depth α < cLine) (hg : Gl X "sorted" := by rfl) (hs : starEach [e] X.env = (false, eval e X.env) :: starEach [] X.env := by rfl)
    (hpl : (backTo pos (starEach [] X.env)).any (·.1) = false := by rfl) : EvN X (.Call (.Name "sorted" p) [e] [] pos) σ F H f (xs.mergeSort dle) := fun F1 H1 g1 Q q =>
  we (pe_callB (cr_sortQ hf hk hu) hg hm (by decide +kernel) pa_w (by decide) (by decide) hs hpl) (ea_one ha hs F1 H1 g1 _ fun vs F2 H2 g2 ⟨v, _, e1, p1, e3⟩ => by
    cases e3
    subst e1
    exact ⟨F2, v, g2.s, rfl, p1, fun ws p rw' hp => q p ws F2 _ (g2.trans (Gw.prv g2.s hp)) (g2.new hp) (g2.s.free hp) upd_same rw'⟩)
/-! math.isqrt -/
theorem ev_isqrt {x : Str} {i : Int} (hg : Gl X x) (hm : X.mg x = some (.builtin "math.isqrt")) (ha : Ev X e σ F H (pI i)) (h0 : 0 ≤ i) (h1 : i < 2 ^ 64) (hdb : (x == ("__debug__" : Str)) = false := by decide)
    (hs : starEach [e] X.env = (false, eval e X.env) :: starEach [] X.env := by rfl) (hpl : (backTo pos (starEach [] X.env)).any (·.1) = false := by rfl) : Ev X (.Call (.Name x p) [e] [] pos) σ F H (pI ((Float64.isqrt i.toNat : Nat) : Int)) := fun F1 H1 g1 Q q => by
  have cr : CallR X (.builtin "math.isqrt") (fun vs H Q => ∃ a : Int, vs = [.int a] ∧ 0 ≤ a ∧ a < 2 ^ 64 ∧ Q (.int ((Float64.isqrt a.toNat : Nat) : Int)) H) := by
    intro pins s σ H vs us Q I r ⟨a, e, h0, h1, k⟩
    subst e
    obtain ⟨u, rfl, t, rfl⟩ := vals1 r
    exact PySem.W.mg_isqrt h0 h1 ⟨.int _, H, I.tok _, ⟨_, rfl⟩, k⟩
  refine we (pe_callBfun cr hg hm pa_w hdb hs hpl) (ea_one ha hs F1 H1 g1 _ fun vs F2 H2 g2 ⟨v, _, e1, p1, e3⟩ => ?_)
  cases e3
  cases p1
  subst e1
  exact ⟨i, rfl, h0, h1, q _ F2 H2 g2 rfl⟩
end
end K24
set_option Elab.async false
set_option linter.all false
set_option maxRecDepth 100000
set_option maxHeartbeats 4000000
set_option autoImplicit false
namespace K24
open PySem PySem.Spec PyProof.Rows L2

/-! ### enumerate of a tuple -/
theorem enum_newT {v : Value} {ob : Obj} {Hh : Heap → Prop} (B : Begins v ob Hh) :
    Meets (Builtin.«enumerate.__new__» ⟨[.type "enumerate", v], []⟩) (fun _ R s => Hh s.heap ∧
      R (.ok (.ret (.ref (s.heap.push ob).objs.size))) { s with heap := (s.heap.push ob).push { cls := .type "enumerate", data := .fields #[.none, .bool false, .ref s.heap.objs.size, rawInt 0, .none, .none] } }) :=
  .of_wp fun prog w A R s h => by
    obtain ⟨hp, gg, dd, tt, oo⟩ := s
    obtain ⟨hB, hR⟩ := h
    have hSub := sub_enumerate
    have qB : ∀ {A' : Around} {E : Value → Shared → Prop} {Q : Value → Shared → Prop}, Q (.ref hp.objs.size) ⟨hp.push ob, gg, dd, tt, oo⟩ → wpAny (model prog w) A' (pyIter v) Q E ⟨hp, gg, dd, tt, oo⟩ :=
      fun z => B.iter prog w _ _ ⟨hp, gg, dd, tt, oo⟩ _ hB z
    wp_walk using qB
    refine wpAny_stack_any (fun stk => wpAny_pure ?_)
    split
    · rename_i cc _ _ _ _ _
      cases (cc == Value.type "enumerate") <;> (wp_walk using qB; exact ⟨_, rfl, hR⟩)
    · wp_walk using qB
      exact ⟨_, rfl, hR⟩
section
variable {prog : Program} {w : World} {A : Around} {E : Value → Shared → Prop} {s : Shared}
theorem enum_callT {v : Value} {ob : Obj} {Hh : Heap → Prop} {Q : Value → Shared → Prop} (B : Begins v ob Hh) (hB : Hh s.heap)
    (k : ∀ h', IsEnum h' (s.heap.objs.size + 1) s.heap.objs.size 0 .none → h'.get? s.heap.objs.size = some ob → (∀ b o, s.heap.get? b = some o → h'.get? b = some o) → Q (.ref (s.heap.objs.size + 1)) { s with heap := h' }) :
    wpAny (model prog w) A (call (.type "enumerate") [v]) Q E s := by
  refine callType_new F.called_enumerate (by decide) (F.typeCall_enumerate_1 _) (F.newCall_enumerate_1 _) (fun z => F.args_object_init_2 z _) F.entry_enumerate_new (enum_newT B) ⟨hB, ?_⟩
  have sz : (s.heap.push ob).objs.size = s.heap.objs.size + 1 := Heap.size_push _ _
  show _ ∧ _
  rw [sz]
  have isE : IsEnum ((s.heap.push ob).push { cls := .type "enumerate", data := .fields #[.none, .bool false, .ref s.heap.objs.size, rawInt 0, .none, .none] }) (s.heap.objs.size + 1) s.heap.objs.size 0 .none := by
    have y := Heap.get?_push_size (s.heap.push ob) (o := { cls := .type "enumerate", data := .fields #[.none, .bool false, .ref s.heap.objs.size, rawInt 0, .none, .none] }) rfl
    rw [sz] at y
    exact y
  exact ⟨⟨_, isE, rfl⟩, k _ isE (Heap.get?_push_of_some _ (Heap.get?_push_size _ B.free)) fun b o x => Heap.get?_push_of_some _ (Heap.get?_push_of_some _ x)⟩
end
def ItnT (K : PySem.W.Frag) (a : Addr) : It :=
  ⟨fun i H => ∃ (xs : List V) (x : V), SqT K H a xs ∧ xs[i]? = some x,
    fun i H v H' => ∃ T x, v = .ref T ∧ H T = none ∧ H' = upd H T (.tup [.int (i : Nat), x]) ∧ ∀ xs, SqT K H a xs → xs[i]? = some x,
    fun i H => ∃ xs : List V, SqT K H a xs ∧ xs.length = i⟩
theorem turn_enumT {P : Program} {w : World} {K : PySem.W.Frag} {elts : List Expr} {kk : Nat} {tpos : Pos} {a e it : Addr} (h1 : e ≠ it) (h2 : e ≠ a) (n1 : a ≠ it) :
    Turn P w K (.Tuple elts kk tpos) (ItnT K a) [e, it] e (fun i h => (∃ old, IsEnum h e it (i : Int) old) ∧ h.IsTupleIter it a i) where
  mem := by simp
  obj := fun i h st c hc => by
    obtain ⟨⟨old, q1⟩, ⟨o1, e1, _, d1⟩⟩ := st
    simp only [List.mem_cons, List.not_mem_nil, or_false] at hc
    rcases hc with rfl | rfl
    · exact ⟨_, q1, fun v q => nomatch q⟩
    · exact ⟨o1, e1, fun v q => by rw [d1] at q; cases q⟩
  keep := fun i h h' st k => by
    obtain ⟨⟨old, q1⟩, q2⟩ := st
    exact ⟨⟨old, k _ (by simp) _ q1⟩, q2.at fun o q => k _ (by simp) o q⟩
  item := by
    intro X hP hw hK hc i pins s σ H E I hf st hg
    subst hP hw hK
    obtain ⟨xs, x, hqx, hx⟩ := hg
    obtain ⟨its, rv, t1, _⟩ := I.tuple hqx
    have hxl : i < its.toArray.size := by
      have := (List.getElem?_eq_some_iff.mp hx).1
      rw [rv.length] at this
      simpa using this
    obtain ⟨⟨old, q1⟩, q2⟩ := st
    have hh : X.A.in1.handled = none := I.ok.hd hc
    have Z := GoesN.enumFrom (prog := X.prog) (w := X.w) (A := X.A) (elts := elts) (x1 := kk) (pos := tpos) 0 (Draws.tuple hh it a n1 its.toArray) e h1 (by simp [h1, h2]) (by simp)
    refine Z.goes i s _ _ hxl ⟨⟨old, by rw [Int.zero_add]; exact q1⟩, ⟨q2, t1⟩⟩ fun v h' tk hY hst hk _ => ?_
    obtain ⟨T, t, u1, rfl, hT, g1, hTup⟩ := hY
    obtain ⟨⟨old', p1⟩, p2⟩ := hst
    obtain ⟨w1, hw1, r1⟩ := rv.get hx
    have c1 : w1 = u1 := by
      have : its.toArray[i]? = its[i]? := by simp
      rw [this, hw1] at g1
      exact Option.some.inj g1
    subst c1
    rw [Int.zero_add] at hTup
    have new : ObjOk X.prog X.w (upd H T (.tup [.int (i : Nat), x])) h' T (.tup [.int (i : Nat), x]) := ⟨by show 2 ≤ sizeLine; decide, [.int (i : Nat) t, w1], .cons ⟨t, rfl⟩ (.cons r1 .nil), hTup⟩
    have I1 : Inv X pins σ (upd H T (.tup [.int (i : Nat), x])) { s with heap := h', toks := tk } := I.turnedNew (ch := [e, it]) hk hf hT new
    refine ⟨.ref T, _, I1, rfl, ⟨T, x, rfl, I.hok.fresh hT, rfl, fun l hl => ?_⟩, ⟨⟨old', by rw [← Int.zero_add (((i + 1 : Nat) : Int))]; exact p1⟩, p2.1⟩, fun c hcm => ?_⟩
    · rw [I.tuple_inj hl hqx]
      exact hx
    · have hc2 := (hf c hcm).1
      by_cases ee : c = T
      · subst ee
        exfalso
        simp only [List.mem_cons, List.not_mem_nil, or_false] at hcm
        have lt : c < s.heap.objs.size := by
          obtain ⟨o1, e1, _⟩ := q2
          rcases hcm with h | h
          · rw [h]; exact Heap.lt_size q1
          · rw [h]; exact Heap.lt_size e1
        exact absurd (Nat.lt_of_lt_of_le lt hT) (Nat.lt_irrefl _)
      · rw [upd_ne ee]
        exact hc2
  done := by
    intro X hP hw hK hc i pins s σ H E I hf st hg
    subst hP hw hK
    obtain ⟨xs, hqx, hend⟩ := hg
    obtain ⟨its, rv, t1, _⟩ := I.tuple hqx
    obtain ⟨⟨old, q1⟩, q2⟩ := st
    have l1 := rv.length
    have hh : X.A.in1.handled = none := I.ok.hd hc
    have Z := GoesN.enumFrom (prog := X.prog) (w := X.w) (A := X.A) (elts := elts) (x1 := kk) (pos := tpos) 0 (Draws.tuple hh it a n1 its.toArray) e h1 (by simp [h1, h2]) (by simp)
    have hi : i = its.toArray.size := by
      rw [← hend]
      simp [l1]
    subst hi
    exact Z.stops s (fun s1 => Inv X pins σ H s1) E ⟨⟨old, by rw [Int.zero_add]; exact q1⟩, ⟨q2, t1⟩⟩ fun h' tk hk _ => I.turnedL (t' := tk) (ch := [e, it]) hk hf
  self := fun A i s Q E st h => let ⟨⟨_, he⟩, _⟩ := st; wpAny_pyIter_enum he h
def iEnumT (K : PySem.W.Frag) (ta : TA) : TI := fun σ H R => ta σ H fun vs H1 => ∃ a xs, vs = [.ref a] ∧ SqT K H1 a xs ∧ R (ItnT K a) H1
theorem pi_enumT {X : Cx} {e : Expr} {ta : TA} {p pos tpos : Pos} {elts : List Expr} {kk : Nat} (hg : Gl X "enumerate") (hm : X.mg "enumerate" = none) (ha : PA X [e] ta) (hs : starEach [e] X.env = [(false, eval e X.env)]) :
    PI X (.Tuple elts kk tpos) (.Call (.Name "enumerate" p) [e] [] pos) (iEnumT X.K ta) := by
  refine ⟨fun pins s σ H R I h => Call_ (ld_blt I hg hm boot_enumerate (PyProof.Rows.callWith_type1 (thn (ha.run pos pins s σ H _ I h) fun us s1 q => ?_) hs rfl))⟩
  obtain ⟨vs, H1, I1, r1, a, xs, rfl, hx, q⟩ := q
  obtain rfl : us = [Value.ref a] := Vals.ref1 r1
  obtain ⟨its, rv, t1, _⟩ := I1.tuple hx
  have la : a < s1.heap.objs.size := by
    obtain ⟨o, ho, _⟩ := id t1
    exact Heap.lt_size ho
  refine enum_callT (begins_tuple a its.toArray) t1 fun h' w1 w2 hk => wpAny_pyIter_enum w1 ?_
  have I2 : Inv X pins σ H1 { s1 with heap := h' } := I1.kept (t' := s1.toks) hk
  refine ⟨s1.heap.objs.size + 1, [s1.heap.objs.size + 1, s1.heap.objs.size], _, _, H1, rfl, I2, turn_enumT (Nat.succ_ne_self _) (Nat.ne_of_gt (Nat.lt_succ_of_lt la)) (Nat.ne_of_lt la), ⟨⟨_, w1⟩, ⟨_, w2, rfl, rfl⟩⟩, fun b hb => ?_, q⟩
  have hle : s1.heap.objs.size ≤ b := by
    simp only [List.mem_cons, List.not_mem_nil, or_false] at hb
    rcases hb with h | h
    · rw [h]; exact Nat.le_succ _
    · rw [h]; exact Nat.le_refl _
  exact I1.fpOk hle (I1.hok.fresh hle)
section
variable {X : Cx} {tg e a b c : Expr} {σ : L2.St} {F H F' H' : Hp} {α β γ : Type} {f : α → Pr} {xs : List α} {pos p p2 : Pos} {P : Pr}
theorem wk_enumT [∀ x, Mn (f x)] {elts : List Expr} {kk : Nat} {tpos : Pos} (hm : X.mg "enumerate" = none) (ha : Ev X a σ F H (pT f xs)) (hg : Gl X "enumerate" := by rfl) (hs : starEach [a] X.env = (false, eval a X.env) :: starEach [] X.env := by rfl)
    (hs2 : starEach [a] X.env = [(false, eval a X.env)] := by rfl) : Wk X (.Tuple elts kk tpos) (.Call (.Name "enumerate" p) [a] [] pos) σ F H (fun z : Nat × α => pP (pI z.1) (f z.2)) (xs.zipIdx.map fun z => (z.2, z.1)) := fun F1 H1 g1 R q =>
  wi_ (pi_enumT hg hm pa_w hs2) (ea_one ha hs F1 H1 g1 _ fun vs F2 H2 g2 ⟨v, _, e1, ⟨l, ws, e2, hl, r⟩, e3⟩ => by
    cases e3
    subst e1 e2
    refine ⟨l, ws, rfl, SqT.of (g2.s _ _ hl), q _ F2 H2 g2 fun F3 H3 s1 s2 => ?_⟩
    have h3 : SqT X.K H3 l ws := SqT.of (s2 _ _ (s1 _ _ hl))
    refine ⟨⟨ws, h3, by rw [List.length_map, List.length_zipIdx, r.1]⟩, fun i z hz => ?_⟩
    have hz2 : ∃ x, xs[i]? = some x ∧ z = (i, x) := by
      rw [List.getElem?_map, List.getElem?_zipIdx] at hz
      cases hx : xs[i]? with
      | none => rw [hx] at hz; cases hz
      | some x =>
        rw [hx] at hz
        simp at hz
        exact ⟨x, rfl, hz.symm⟩
    obtain ⟨x, hx, rfl⟩ := hz2
    obtain ⟨y, hy, py⟩ := r.get hx
    refine ⟨⟨ws, y, h3, hy⟩, fun v H4 hv => ?_⟩
    obtain ⟨T, x', rfl, hT, rfl, e1⟩ := hv
    have e2 := e1 _ h3
    rw [hy] at e2
    cases e2
    have hF : F3 T = none := s2.free hT
    exact ⟨upd F3 T (.tup [.int (i : Nat), y]), Gw.pub s2 hT, T, _, y, rfl, upd_same, rfl, Mn.mono _ _ _ (s1.trans (same_new hF)) py⟩)

/-! ### list(range(..)), [0] * n, (0,) * n -/
theorem ev_listRg {m n : Int} (hm1 : X.mg "list" = none) (hm2 : X.mg "range" = none) (hc : X.calm = true) (ha : Ev X a σ F H (pI m)) (hb : Ev X b σ F H (pI n)) (hz : RgOk m n) (hg : Gl X "list" := by rfl) (hg2 : Gl X "range" := by rfl) (hs : starEach [a, b] X.env = (false, eval a X.env) :: starEach [b] X.env := by rfl)
    (hs2 : starEach [b] X.env = (false, eval b X.env) :: starEach [] X.env := by rfl) {e' : Expr} (he : e' = .Call (.Name "range" p2) [a, b] [] pos) {pos2 : Pos} (hs3 : starEach [e'] X.env = (false, eval e' X.env) :: starEach [] X.env := by rfl) (hpl : (backTo pos (starEach [b] X.env)).any (·.1) = false := by rfl) : EvN X (.Call (.Name "list" p) [e'] [] pos2) σ F H pI (rng m n) := fun F1 H1 g1 Q q => by
  subst he
  refine we (pe_listRg hc hg hm1 (prg_2 hg2 hm2 pe_w pe_w hs hs2 hpl) hs3) (ha F1 H1 g1 _ fun v F2 H2 g2 p1 => hb F2 H2 (g1.trans g2) _ fun w F3 H3 g3 p2 => ?_)
  cases p1
  cases p2
  have e : rgV m n = (rng m n).map V.int := by
    unfold rgV rng
    rw [List.map_map]
    rfl
  exact ⟨m, n, rfl, rfl, hz, fun q' hq => q q' _ F3 _ ((g2.trans g3).trans (Gw.prv g3.s hq)) ((g2.trans g3).new hq) (g3.s.free hq) upd_same (by rw [e]; exact allP_ints)⟩
theorem rep_flat (n : Nat) (i : Int) : (List.replicate n [V.int i]).flatten = (List.replicate n i).map V.int := by
  induction n with
  | zero => rfl
  | succ m ih => rw [List.replicate_succ, List.replicate_succ, List.flatten_cons, List.map_cons, ih]; rfl
theorem ev_rep {i : Int} {n : Nat} (ha : EvN X a σ F H pI [i]) (hb : Ev X b σ F H (pI (n : Int))) (hn : n ≤ 1000) : EvN X (.BinOp a .Mult b pos) σ F H pI (List.replicate n i) := fun F1 H1 g1 Q q =>
  we (pe_op op_rep pe_w pe_w) (ha F1 H1 g1 _ fun l vs F2 H2 g2 n1 n2 e2 r => hb F2 H2 (g1.trans g2) _ fun w F3 H3 g3 pw => by
    cases pw
    have e3 := g3.own e2 n2
    have ev : vs = [V.int i] := r.ints
    subst ev
    refine ⟨l, (n : Int), [V.int i], rfl, rfl, e3.1, by omega, by omega, by rw [sizeLine_eq]; show 1 * _ ≤ _; omega, fun p hp => q p _ F3 _ ((g2.trans g3).trans (Gw.prv g3.s hp)) ((g2.trans g3).new hp) (g3.s.free hp) upd_same ?_⟩
    have e4 : (List.replicate (n : Int).toNat [V.int i]).flatten = (List.replicate n i).map V.int := by
      rw [Int.toNat_natCast]
      exact rep_flat n i
    rw [e4]
    exact allP_ints)
/-! isinstance -/
theorem ev_isi [Mn P] {cv : V} {u : Value} {k : Bool} (hm : X.mg "isinstance" = none) (ha : Ev X a σ F H P) (hb : Ev X b σ F H (pIs cv)) (hcl : ClsV cv u) (ht : ∀ v F1 H1, Same F1 H1 → P v F1 → ∃ t, TyX X.K H1 v t ∧ PySem.W.kitOne X.K t u = some k)
    (hg : Gl X "isinstance" := by rfl) (hs : starEach [a, b] X.env = (false, eval a X.env) :: starEach [b] X.env := by rfl) (hs2 : starEach [b] X.env = (false, eval b X.env) :: starEach [] X.env := by rfl) (hpl : (backTo pos (starEach [b] X.env)).any (·.1) = false := by rfl) : Ev X (.Call (.Name "isinstance" p) [a, b] [] pos) σ F H (pB k) :=
  ev_B call_isi hm (by decide +kernel) (ea_cons ha (ea_one hb hs2) hs) (fun vs F1 H1 g ⟨v, _, e1, pv, w, _, e4, pw, e3⟩ Q q => by
    cases e3
    cases pw
    subst e1 e4
    obtain ⟨t, ht1, ht2⟩ := ht v F1 H1 g.s pv
    exact ⟨v, _, t, u, k, rfl, hcl, ht1, ht2, q _ F1 H1 (Gw.refl g.s) rfl⟩) hg (he := hs) (hpl := hpl)
theorem ev_isi2 [Mn P] {cv dv : V} {u u2 : Value} {k : Bool} {x1 : Nat} {tp : Pos} (hm : X.mg "isinstance" = none) (ha : Ev X a σ F H P) (hb : Ev X b σ F H (pIs cv)) (hb2 : Ev X c σ F H (pIs dv)) (hcl : ClsV cv u) (hcl2 : ClsV dv u2) (ht : ∀ v F1 H1, Same F1 H1 → P v F1 → ∃ t, TyX X.K H1 v t ∧ PySem.W.kitAny X.K t [u, u2] = some k)
    (hg : Gl X "isinstance" := by rfl) (hs : starEach [a, .Tuple [b, c] x1 tp] X.env = (false, eval a X.env) :: starEach [.Tuple [b, c] x1 tp] X.env := by rfl) (hs2 : starEach [.Tuple [b, c] x1 tp] X.env = (false, eval (.Tuple [b, c] x1 tp) X.env) :: starEach [] X.env := by rfl) (hpl : (backTo pos (starEach [.Tuple [b, c] x1 tp] X.env)).any (·.1) = false := by rfl)
    (hs4 : starEach [b, c] X.env = (false, eval b X.env) :: starEach [c] X.env := by rfl) (hs5 : starEach [c] X.env = (false, eval c X.env) :: starEach [] X.env := by rfl) : Ev X (.Call (.Name "isinstance" p) [a, .Tuple [b, c] x1 tp] [] pos) σ F H (pB k) :=
  ev_B call_isiT hm (by decide +kernel) (ea_cons ha (ea_one (ev_pair hb hb2 hs4 hs5) hs2) hs) (fun vs F1 H1 g ⟨v, _, e1, pv, w, _, e4, ⟨tpa, x, y, e5, hF, px, py⟩, e3⟩ Q q => by
    cases e3
    cases px
    cases py
    subst e1 e4 e5
    obtain ⟨t, ht1, ht2⟩ := ht v F1 H1 g.s pv
    exact ⟨v, tpa, _, t, [u, u2], k, rfl, g.s _ _ hF, .cons hcl (.cons hcl2 .nil), ht1, ht2, q _ F1 H1 (Gw.refl g.s) rfl⟩) hg (he := hs) (hpl := hpl)
theorem ty_S {F1 H1 : Hp} {v : V} {K : PySem.W.Frag} (s : Same F1 H1) (h : pS f xs v F1) : ∃ t, TyX K H1 v t ∧ PySem.W.kitAny K t [.type "list", .type "tuple"] = some true := by
  obtain ⟨l, vs, rfl, hl, r⟩ := h
  rcases hl with hl | hl
  · exact ⟨_, .base (.lst (s _ _ hl)), rfl⟩
  · exact ⟨_, .base (.tup (s _ _ hl)), kitAny_cons (b := false) (kit_ty (by decide +kernel)) (fun _ => rfl) (fun h => nomatch h)⟩
/-- isinstance(x, (list, tuple)) -/
theorem ev_isLT [∀ x, Mn (f x)] {x1 : Nat} {tp p3 p4 : Pos} (hm : X.mg "isinstance" = none) (hl : X.mg "list" = none) (htu : X.mg "tuple" = none) (ha : Ev X a σ F H (pS f xs))
    (hg : Gl X "isinstance" := by rfl) (hgl : Gl X "list" := by rfl) (hgt : Gl X "tuple" := by rfl) (hs : starEach [a, .Tuple [.Name "list" p3, .Name "tuple" p4] x1 tp] X.env = (false, eval a X.env) :: starEach [.Tuple [.Name "list" p3, .Name "tuple" p4] x1 tp] X.env := by rfl) : Ev X (.Call (.Name "isinstance" p) [a, .Tuple [.Name "list" p3, .Name "tuple" p4] x1 tp] [] pos) σ F H (pB true) :=
  ev_isi2 hm ha (ev_ty (n := "list") hl (by decide +kernel) hgl) (ev_ty (n := "tuple") htu (by decide +kernel) hgt) (.ty _) (.ty _) (fun v F1 H1 s h => ty_S s h) hg (hs := hs)
/-- isinstance(i, int), isinstance(i, bool) -/
theorem ev_isInt {i : Int} {T : Str} {n : String} {p3 : Pos} {k : Bool} (hm : X.mg "isinstance" = none) (ht : X.mg T = none) (ha : Ev X a σ F H (pI i)) (hT : bootBuiltins T = some (.type n)) (hk : kitB "int" n = some k) (hn : T ≠ "__name__" := by decide) (hdb : (T == ("__debug__" : Str)) = false := by decide)
    (hg : Gl X "isinstance" := by rfl) (hgt : Gl X T := by rfl) (hs : starEach [a, .Name T p3] X.env = (false, eval a X.env) :: starEach [.Name T p3] X.env := by rfl) (hs2 : starEach [.Name T p3] X.env = (false, eval (.Name T p3) X.env) :: starEach [] X.env := by rfl) (hpl : (backTo pos (starEach [.Name T p3] X.env)).any (·.1) = false := by rfl) : Ev X (.Call (.Name "isinstance" p) [a, .Name T p3] [] pos) σ F H (pB k) :=
  ev_isi hm ha (ev_ty ht hT hgt hn hdb) (.ty n) (fun v F1 H1 s h => by cases h; exact ⟨_, .base (.int i), kit_ty hk⟩) hg (hs := hs) (hs2 := hs2) (hpl := hpl)
/-- isinstance(t, tuple) of a tuple -/
theorem ev_isTup [∀ x, Mn (f x)] {p3 : Pos} (hm : X.mg "isinstance" = none) (ht : X.mg "tuple" = none) (ha : Ev X a σ F H (pT f xs))
    (hg : Gl X "isinstance" := by rfl) (hgt : Gl X "tuple" := by rfl) (hs : starEach [a, .Name "tuple" p3] X.env = (false, eval a X.env) :: starEach [.Name "tuple" p3] X.env := by rfl) (hs2 : starEach [.Name "tuple" p3] X.env = (false, eval (.Name "tuple" p3) X.env) :: starEach [] X.env := by rfl) (hpl : (backTo pos (starEach [.Name "tuple" p3] X.env)).any (·.1) = false := by rfl) : Ev X (.Call (.Name "isinstance" p) [a, .Name "tuple" p3] [] pos) σ F H (pB true) :=
  ev_isi hm ha (ev_ty (n := "tuple") ht (by decide +kernel) hgt) (.ty "tuple") (fun v F1 H1 s ⟨l, vs, e, hl, r⟩ => by subst e; exact ⟨_, .base (.tup (s _ _ hl)), kit_ty (by decide +kernel)⟩) hg (hs := hs) (hs2 := hs2) (hpl := hpl)
end
/-! ### more statements -/
section
variable {X : Cx} {rest body : List Stmt} {e a b c o ie tg iter : Expr} {σ : L2.St} {F H F' H' : Hp} {P Q R : Pr} {α β : Type} {f : α → Pr} {g : β → Pr} {xs : List α} {ys : List β} {pos p : Pos} {G : GE}
/-- x, y = a, b: two new lists -/
theorem x_parN (i j : Nat) {x y : Str} {px py pt : Pos} {kt k2 : Nat} {pt2 : Pos} (hc : X.calm = true) (ha : EvN X a σ F H f xs) (hb : EvN X b σ F H g ys) [∀ x, Mn (f x)]
    (k : ∀ l vs m ws F1 H1, Gw F H F1 H1 → H l = none → H m = none → l ≠ m → F1 l = none → F1 m = none → H1 l = some (.lst vs) → H1 m = some (.lst ws) → AllP f vs xs F1 → AllP g ws ys F1 → Sx X rest ((σ.set i (some (.ref l))).set j (some (.ref m))) F1 H1 G) (s : Same F H)
    (hN : X.N.Nodup) (hi : X.N[i]? = some x := by rfl) (hj : X.N[j]? = some y := by rfl) (hij : i ≠ j := by decide) (hx : X.env.scope.names.lookup x = some .local := by rfl) (hy : X.env.scope.names.lookup y = some .local := by rfl)
    (hs : starEach [a, b] X.env = (false, eval a X.env) :: starEach [b] X.env := by rfl) (hs2 : starEach [b] X.env = (false, eval b X.env) :: starEach [] X.env := by rfl)
    (hw : swappedStores [.Tuple [.Name x px, .Name y py] kt pt] (.Tuple [a, b] k2 pt2) X.env = pure (some [x, y]) := by rfl)
    (hss : swapsWithSole [.Tuple [.Name x px, .Name y py] kt pt] (.Tuple [a, b] k2 pt2) pos.line X.env = pure false := by rfl) : Sx X (.Assign [.Tuple [.Name x px, .Name y py] kt pt] (.Tuple [a, b] k2 pt2) pos :: rest) σ F H G := by
  refine wss (pss_cons (ps_par hc hN hi hj hij hx hy (pa_cons pe_w (pa_cons pe_w pa_nil hs2) hs) hw hss) pss_w) ?_
  refine ha F H (Gw.refl s) _ fun l vs F1 H1 g1 a1 a2 a3 r1 => hb F1 H1 g1 _ fun m ws F2 H2 g2 b1 b2 b3 r2 => ?_
  have hlm : l ≠ m := fun z => by rw [z, b1] at a3; cases a3
  have e1 := g2.own a3 a2
  exact ⟨_, _, rfl, k l vs m ws F2 H2 (g1.trans g2) a1 (g1.new b1) hlm e1.2 b2 e1.1 b3 (r1.up g2.f) r2⟩
/-- x, y = a, b: values -/
theorem x_par [Mn P] (i j : Nat) {x y : Str} {px py pt : Pos} {kt k2 : Nat} {pt2 : Pos} (hc : X.calm = true) (ha : Ev X a σ F H P) (hb : Ev X b σ F H Q)
    (k : ∀ v w F1 H1, Gw F H F1 H1 → P v F1 → Q w F1 → Sx X rest ((σ.set i (some v)).set j (some w)) F1 H1 G) (s : Same F H)
    (hN : X.N.Nodup) (hi : X.N[i]? = some x := by rfl) (hj : X.N[j]? = some y := by rfl) (hij : i ≠ j := by decide) (hx : X.env.scope.names.lookup x = some .local := by rfl) (hy : X.env.scope.names.lookup y = some .local := by rfl)
    (hs : starEach [a, b] X.env = (false, eval a X.env) :: starEach [b] X.env := by rfl) (hs2 : starEach [b] X.env = (false, eval b X.env) :: starEach [] X.env := by rfl)
    (hw : swappedStores [.Tuple [.Name x px, .Name y py] kt pt] (.Tuple [a, b] k2 pt2) X.env = pure (some [x, y]) := by rfl)
    (hss : swapsWithSole [.Tuple [.Name x px, .Name y py] kt pt] (.Tuple [a, b] k2 pt2) pos.line X.env = pure false := by rfl) : Sx X (.Assign [.Tuple [.Name x px, .Name y py] kt pt] (.Tuple [a, b] k2 pt2) pos :: rest) σ F H G := by
  refine wss (pss_cons (ps_par hc hN hi hj hij hx hy (pa_cons pe_w (pa_cons pe_w pa_nil hs2) hs) hw hss) pss_w) ?_
  exact ha F H (Gw.refl s) _ fun v F1 H1 g1 pv => hb F1 H1 g1 _ fun w F2 H2 g2 pw => ⟨_, _, rfl, k v w F2 H2 (g1.trans g2) (Mn.mono _ _ _ g2.f pv) pw⟩
/-- x, y = e, by e's own reading -/
theorem x_unpackW (i j : Nat) {t1 t2 : Expr} {kk : Nat} (he : WE X e σ H fun v H1 => ∃ F1 l x y, v = .ref l ∧ H1 l = some (.tup [x, y]) ∧ Same F1 H1 ∧ Sx X rest ((σ.set i (some x)).set j (some y)) F1 H1 G)
    (hg : PG X (.Tuple [t1, t2] kk p) (gTup X.K 2 (gCons (gName i) (gCons (gName j) gNil)))) (hs : swapsWithSole [.Tuple [t1, t2] kk p] e pos.line X.env = pure false := by rfl) (hw : swappedStores [.Tuple [t1, t2] kk p] e X.env = pure none := by rfl)
    (h1 : (assignEach [.Tuple [t1, t2] kk p] X.env).map (·.2) = [assign (.Tuple [t1, t2] kk p) X.env] := by rfl) : Sx X (.Assign [.Tuple [t1, t2] kk p] e pos :: rest) σ F H G :=
  wss (pss_cons (ps_asg pe_w hg hs hw h1) pss_w) (he.imp fun v H1 ⟨F1, l, x, y, ev, hl, s1, k⟩ => ⟨l, [x, y], ev, SqT.of hl, rfl, x, [y], rfl, y, [], rfl, rfl, k⟩)
/-- for x, y in .. -/
theorem x_forP {p1 : α → Pr} {p2 : β → Pr} {zs : List (α × β)} {t1 t2 : Expr} {kk : Nat} {i j : Nat} (Iv : Nat → N3) (hw : Wk X (.Tuple [t1, t2] kk p) iter σ F H (fun z => pP (p1 z.1) (p2 z.2)) zs) (h0 : ∀ F1 H1, Gw F H F1 H1 → Iv 0 σ F1 H1)
    (turn : ∀ F0 n z σ1 F1 H1, zs[n]? = some z → Same F0 F1 → Same F1 H1 → Iv n σ1 F1 H1 → ∀ v w F2 H2, Gw F1 H1 F2 H2 → p1 z.1 v F2 → p2 z.2 w F2 → Sx X body ((σ1.set i (some v)).set j (some w)) F2 H2 { nx := fun σ F H => Same F0 F ∧ Iv (n + 1) σ F H, rt := G.rt, ct := fun σ F H => Same F0 F ∧ Iv (n + 1) σ F H, bk := fun σ F H => Sx X rest σ F H G })
    (done : ∀ σ1 F1 H1, Same F1 H1 → Iv zs.length σ1 F1 H1 → Sx X rest σ1 F1 H1 G) (s : Same F H) (hp : PassesOwn (model X.prog X.w) X.A X.env X.xe) (hc : X.calm = true)
    (hg : PG X (.Tuple [t1, t2] kk p) (gTup X.K 2 (gCons (gName i) (gCons (gName j) gNil)))) (hs : ∀ x, foldedSetIterable iter X.env x = pure x := by intro _; rfl) : Sx X (.For (.Tuple [t1, t2] kk p) iter body [] pos :: rest) σ F H G :=
  x_for (g := gTup X.K 2 (gCons (gName i) (gCons (gName j) gNil))) Iv hw hg h0 (fun F0 _ n z σ1 F1 H1 hz s1 s2 iv v F2 H2 g2 ⟨l, x, y, ev, hF, px, py⟩ => ⟨l, [x, y], ev, SqT.of (g2.s _ _ hF), rfl, x, [y], rfl, y, [], rfl, rfl, rfl, turn F0 n z σ1 F1 H1 hz s1 s2 iv x y F2 H2 g2 px py⟩) done s hp hc gPair_mono hs
end
end K24
set_option Elab.async false
set_option linter.all false
set_option maxRecDepth 100000
set_option maxHeartbeats 4000000
set_option autoImplicit false
namespace K24
open PySem PySem.Spec PyProof.Rows L2
/-! ### (i,) * n -/
theorem tuple_mul1 (l : Addr) (items : Array Value) (n : Nat) (dc : Option Addr) (slt : Array (Option Value)) (u : Tok) :
    Meets (Builtin.«tuple.__mul__» ⟨[.ref l, .int 1 u], []⟩) (fun _ R s => s.heap.get? l = some { cls := .type "tuple", dict := dc, data := .seq items n, slots := slt } ∧ R (.ok (.ret (Value.ref l))) s) :=
  .of_wp fun prog w A R s h => by
    obtain ⟨hp, gg, dd, tt, oo⟩ := s
    obtain ⟨hl, hR⟩ := h
    have ix := AutoSeq1.idx_int
    have e0 : (decide ((1 : Int) < -(2 ^ 63)) || decide ((1 : Int) ≥ 2 ^ 63)) = false := by decide
    have e1 : (items.isEmpty || (1 : Int) == 1) = true := by simp
    wp_walk using wpAny_loadPart' hl
    exact ⟨_, rfl, hR⟩
theorem op_rep1 {X : Cx} : OpR X (binaryOp .Mult) (fun x y H Q => ∃ l xs, x = .ref l ∧ y = .int 1 ∧ SqT X.K H l xs ∧ Q (.ref l) H) := by
  intro pins s σ H x y v u Q I rx ry ⟨l, xs, ex, ey, hT, q⟩
  subst ex ey
  cases rx
  obtain ⟨t, rfl⟩ := ry
  obtain ⟨its, r, ⟨⟨cls, dc, data, slt⟩, ho, hc, n, hd⟩, _⟩ := I.tuple hT
  simp only at hc hd
  subst hc hd
  exact wpAny_binaryOp_repeat_ref (T := "tuple") (U := "int") (by decide) ⟨_, ho, rfl⟩ (fun s' => typeIs_int s' 1 t) noFill_tuple_mul F.fills_int_mul F.slot_int_rmul repeat_tuple F.slot_int_index.lookup
    (call_meets F.slot_int_rmul (typeIs_int s 1 t) F.entry_int_rmul (F.args_int_rmul_2 _ _) (int_rmul_tuple 1 t l its.toArray n dc slt)
      ⟨ho, rfl, ⟨_, ho, rfl⟩, call_meets F.slot_tuple_mul ⟨_, ho, rfl⟩ F.entry_tuple_mul (F.args_tuple_mul_2 _ _) (tuple_mul1 l its.toArray n dc slt t) ⟨ho, ⟨.ref l, H, I, rfl, q⟩⟩⟩)
section
variable {X : Cx} {rest body : List Stmt} {e a b c d o ie : Expr} {σ : L2.St} {F H F' H' : Hp} {P Q R : Pr} {α β : Type} {f : α → Pr} {g : β → Pr} {xs : List α} {ys : List β} {pos p : Pos} {G : GE}
theorem ev_repT {i : Int} {n : Nat} (ha : Ev X a σ F H (pTI [i])) (hb : Ev X b σ F H (pI (n : Int))) (hn : n ≤ 1000) (h1 : 1 ≤ n) : Ev X (.BinOp a .Mult b pos) σ F H (pTI (List.replicate n i)) := fun F1 H1 g1 Q q => by
  by_cases z : n = 1
  · subst z
    refine we (pe_op op_rep1 pe_w pe_w) (ha F1 H1 g1 _ fun v F2 H2 g2 pv => hb F2 H2 (g1.trans g2) _ fun w F3 H3 g3 pw => ?_)
    cases pw
    obtain ⟨l, vs, rfl, hl, r⟩ := pv
    exact ⟨l, vs, rfl, rfl, SqT.of (g3.s _ _ (g3.f _ _ hl)), q _ F3 H3 (g2.trans g3) ⟨l, vs, rfl, g3.f _ _ hl, r.up g3.f⟩⟩
  · refine we (pe_op op_repT pe_w pe_w) (ha F1 H1 g1 _ fun v F2 H2 g2 pv => hb F2 H2 (g1.trans g2) _ fun w F3 H3 g3 pw => ?_)
    cases pw
    obtain ⟨l, vs, rfl, hl, r⟩ := pv
    have ev := r.ints
    subst ev
    refine ⟨l, (n : Int), _, rfl, rfl, SqT.of (g3.s _ _ (g3.f _ _ hl)), by simp, by omega, by omega, by simp, fun p hp => ?_⟩
    refine q _ _ _ ((g2.trans g3).trans (Gw.pub g3.s hp)) ⟨p, _, rfl, upd_same, ?_⟩
    rw [Int.toNat_natCast, show [i].map V.int = [V.int i] from rfl, rep_flat]
    exact allP_ints
/-- (a, b, c) of one kind -/
theorem ev_tup3 [∀ x, Mn (f x)] {x y z : α} (h1 : Ev X a σ F H (f x)) (h2 : Ev X b σ F H (f y)) (h3 : Ev X c σ F H (f z)) {x1 : Nat} (hs : starEach [a, b, c] X.env = (false, eval a X.env) :: starEach [b, c] X.env := by rfl) (hs2 : starEach [b, c] X.env = (false, eval b X.env) :: starEach [c] X.env := by rfl)
    (hs3 : starEach [c] X.env = (false, eval c X.env) :: starEach [] X.env := by rfl) : Ev X (.Tuple [a, b, c] x1 pos) σ F H (pT f [x, y, z]) := fun F1 H1 g1 Q q =>
  ev_triple h1 h2 h3 hs hs2 hs3 F1 H1 g1 Q fun v F2 H2 g2 ⟨l, v1, v2, v3, ev, hF, p1, p2, p3⟩ => q v F2 H2 g2 ⟨l, _, ev, hF, ((AllP.nil.cons p3).cons p2).cons p1⟩
theorem ev_tup2 [∀ x, Mn (f x)] {x y : α} (h1 : Ev X a σ F H (f x)) (h2 : Ev X b σ F H (f y)) {x1 : Nat} (hs : starEach [a, b] X.env = (false, eval a X.env) :: starEach [b] X.env := by rfl) (hs2 : starEach [b] X.env = (false, eval b X.env) :: starEach [] X.env := by rfl) : Ev X (.Tuple [a, b] x1 pos) σ F H (pT f [x, y]) := fun F1 H1 g1 Q q =>
  ev_pair h1 h2 hs hs2 F1 H1 g1 Q fun v F2 H2 g2 ⟨l, v1, v2, ev, hF, p1, p2⟩ => q v F2 H2 g2 ⟨l, _, ev, hF, (AllP.nil.cons p2).cons p1⟩
/-- l[i], m[j] = a, b -/
theorem x_setII [Mn P] [Mn Q] {o2 ie2 : Expr} {l m : Addr} {vs ws : List V} {n1 n2 : Int} {j1 j2 : Nat} {q1 q2 pt : Pos} {kt : Nat} (he : Ev X e σ F H (pP P Q)) (ho : ∀ F H, Ev X o σ F H (pIs (.ref l))) (hi : ∀ F H, Ev X ie σ F H (pI n1)) (hl : H l = some (.lst vs)) (hfl : F l = none) (hj : ixN vs.length n1 = some j1)
    (ho2 : ∀ F H, Ev X o2 σ F H (pIs (.ref m))) (hi2 : ∀ F H, Ev X ie2 σ F H (pI n2)) (hm : H m = some (.lst ws)) (hfm : F m = none) (hj2 : ixN ws.length n2 = some j2) (hlm : l ≠ m)
    (k : ∀ v w F' H', Gm [l, m] F H F' H' → F' l = none → F' m = none → H' l = some (.lst (vs.set j1 v)) → H' m = some (.lst (ws.set j2 w)) → P v F' → Q w F' → Sx X rest σ F' H' G) (s : Same F H)
    (hg : PG X (.Tuple [.Subscript o ie q1, .Subscript o2 ie2 q2] kt pt) (gTup X.K 2 (gCons (gSub (WE X o) (WE X ie) rSetL) (gCons (gSub (WE X o2) (WE X ie2) rSetL) gNil))))
    (hs : swapsWithSole [.Tuple [.Subscript o ie q1, .Subscript o2 ie2 q2] kt pt] e pos.line X.env = pure false := by rfl) (hw : swappedStores [.Tuple [.Subscript o ie q1, .Subscript o2 ie2 q2] kt pt] e X.env = pure none := by rfl)
    (h1 : (assignEach [.Tuple [.Subscript o ie q1, .Subscript o2 ie2 q2] kt pt] X.env).map (·.2) = [assign (.Tuple [.Subscript o ie q1, .Subscript o2 ie2 q2] kt pt) X.env] := by rfl) : Sx X (.Assign [.Tuple [.Subscript o ie q1, .Subscript o2 ie2 q2] kt pt] e pos :: rest) σ F H G :=
  wss (pss_cons (ps_asg pe_w hg hs hw h1) pss_w) (he F H (Gw.refl s) _ fun v F1 H1 g1 ⟨t, x, y, ev, hF, px, py⟩ => by
    subst ev
    refine ⟨t, [x, y], rfl, SqT.of (g1.s _ _ hF), rfl, x, [y], rfl, ?_⟩
    refine ho F1 H1 F1 H1 (Gw.refl g1.s) _ fun v2 F2 H2 g2 p2 => hi F2 H2 F2 H2 (Gw.refl g2.s) _ fun v3 F3 H3 g3 p3 => ?_
    cases p2
    cases p3
    have g03 := g1.trans (g2.trans g3)
    have a1 := g03.own hl hfl
    have b1 := g03.own hm hfm
    refine ⟨l, vs, n1, j1, rfl, rfl, a1.1, hj, y, [], rfl, ?_⟩
    have s3 : Same F3 (upd H3 l (.lst (vs.set j1 x))) := fun b u q => by
      rw [upd_ne (ne_of_none q a1.2)]
      exact g3.s b u q
    refine ho2 F3 _ F3 _ (Gw.refl s3) _ fun v4 F4 H4 g4 p4 => hi2 F4 H4 F4 H4 (Gw.refl g4.s) _ fun v5 F5 H5 g5 p5 => ?_
    cases p4
    cases p5
    have g35 := g4.trans g5
    have hl5 := g35.own (p := l) (o := .lst (vs.set j1 x)) upd_same a1.2
    have hm5 := g35.own (p := m) (o := .lst ws) (by rw [upd_ne hlm.symm]; exact b1.1) b1.2
    have s5 : Same F5 (upd H5 m (.lst (ws.set j2 y))) := fun b u q => by
      rw [upd_ne (ne_of_none q hm5.2)]
      exact g5.s b u q
    refine ⟨m, ws, n2, j2, rfl, rfl, hm5.1, hj2, rfl, ?_⟩
    refine k x y F5 _ ⟨g03.f.trans g35.f, fun b u hb q => ?_, s5, fun b q => ?_⟩ hl5.2 hm5.2 (by rw [upd_ne hlm]; exact hl5.1) upd_same (Mn.mono _ _ _ (g2.f.trans (g3.f.trans g35.f)) px) (Mn.mono _ _ _ (g2.f.trans (g3.f.trans g35.f)) py)
    · have hb1 : b ≠ l := fun z => hb (by simp [z])
      have hb2 : b ≠ m := fun z => hb (by simp [z])
      rw [upd_ne hb2]
      refine g35.h _ _ ?_
      rw [upd_ne hb1]
      exact g03.h _ _ q
    · rw [g35.n b ?_]
      · exact g03.n b q
      · by_cases z : b = l
        · rw [z, upd_same]
          exact fun z => nomatch z
        · rw [upd_ne z]
          cases e : H b with
          | none => exact absurd e q
          | some u => rw [g03.h _ _ e]; exact fun z => nomatch z)
theorem Gm.trans {M : List Addr} {F1 H1 F2 H2 : Hp} (a : Gm M F H F1 H1) (b : Gm M F1 H1 F2 H2) (hM : ∀ x ∈ M, H1 x ≠ none) : Gm M F H F2 H2 := by
  refine ⟨a.f.trans b.f, fun x o hx q => b.h x o hx (a.h x o hx q), b.s, fun x q => ?_⟩
  rw [b.n x ?_, a.n x q]
  by_cases hx : x ∈ M
  · exact hM x hx
  · cases e : H x with
    | none => exact absurd e q
    | some o => rw [a.h x o hx e]; exact fun z => nomatch z
end
end K24
set_option Elab.async false
set_option linter.all false
set_option maxRecDepth 100000
set_option maxHeartbeats 4000000
set_option autoImplicit false
namespace K24
open PySem PySem.Spec PyProof.Rows L2
open PySem.W (Datum DatumOrd Holds HoldAll Tup)
/-! ### a dict whose keys are tuples of tuples of ints -/
abbrev Ent := List (List Int) × Addr × Addr
def nkR (r : List Int) : NestedKey := .tup (r.map .num)
def nk (rs : List (List Int)) : NestedKey := .tup (rs.map nkR)
theorem nkR_inj {r s : List Int} (h : nkR r = nkR s) : r = s := by
  unfold nkR at h
  injection h with h
  exact (List.map_inj_right fun a b e => by injection e).mp h
theorem nk_inj {r s : List (List Int)} (h : nk r = nk s) : r = s := by
  unfold nk at h
  injection h with h
  exact (List.map_inj_right fun a b e => nkR_inj e).mp h
theorem nkd1 : ∀ r : List Int, NestedKey.depthAll (r.map .num) = 0
  | [] => rfl
  | _ :: r => by rw [List.map_cons, NestedKey.depthAll, nkd1 r]; rfl
theorem nkd2 : ∀ rs : List (List Int), NestedKey.depthAll (rs.map nkR) ≤ 1
  | [] => Nat.zero_le _
  | r :: rs => by
    rw [List.map_cons, NestedKey.depthAll]
    refine Nat.max_le.mpr ⟨?_, nkd2 rs⟩
    show NestedKey.depth (.tup _) ≤ 1
    rw [NestedKey.depth, nkd1]
    exact Nat.le_refl _
theorem nk_depth (rs : List (List Int)) : (nk rs).depth ≤ 8 := by
  show NestedKey.depth (.tup _) ≤ 8
  rw [NestedKey.depth]
  have := nkd2 rs
  omega
section
variable {X : Cx} {pins : List (Addr × Obj)} {σ : L2.St} {H : Hp} {s : Shared} {F : Hp}
theorem nis_row (I : Inv X pins σ H s) (sm : Same F H) {r : List Int} {v : V} {u : Value} (h : pTI r v F) (rv : RelV v u) : NestedIs s.heap (nkR r) u := by
  obtain ⟨a, vs, rfl, hF, rr⟩ := h
  obtain rfl : u = Value.ref a := rv
  obtain ⟨its, rv, ⟨o, ho, hc, n, hd⟩, hzz⟩ := I.tuple (SqT.of (sm _ _ hF))
  refine NestedIs.tup ho hc hd ?_
  clear hzz
  have ev := rr.ints
  subst ev
  show NestedAll _ _ its
  clear rr hF hd ho hc
  generalize hq : r.map V.int = ws at rv
  induction rv generalizing r with
  | nil =>
    have : r = [] := List.map_eq_nil_iff.mp hq
    subst this
    exact .nil
  | @cons w z ws zs hw _ ih =>
    cases r with
    | nil => cases hq
    | cons i r =>
      rw [List.map_cons] at hq
      injection hq with q1 q2
      subst q1
      obtain ⟨t, rfl⟩ := hw
      exact .cons (.int i t) (ih q2)
theorem nis_rows (I : Inv X pins σ H s) (sm : Same F H) : ∀ {rs : List (List Int)} {vs : List V} {us : List Value}, AllP pTI vs rs F → Vals vs us → NestedAll s.heap (rs.map nkR) us
  | [], _, _, r, v => by
    cases v with
    | nil => exact .nil
    | cons => exact nomatch r.1
  | r :: rs, _, _, rr, v => by
    cases v with
    | nil => exact nomatch rr.1
    | cons v1 v2 => exact .cons (nis_row I sm (rr.2 0 _ r rfl rfl) v1) (nis_rows I sm ⟨Nat.succ.inj rr.1, fun i v y a b => rr.2 (i + 1) v y (by simpa using a) (by simpa using b)⟩ v2)
theorem nis_key (I : Inv X pins σ H s) (sm : Same F H) {rs : List (List Int)} {b : Addr} (h : pTT rs (.ref b) F) : (nestedKind X.prog X.w).is s.heap (nk rs) b := by
  obtain ⟨a, vs, e, hF, rr⟩ := h
  cases e
  obtain ⟨its, rv, ⟨o, ho, hc, n, hd⟩, _⟩ := I.tuple (SqT.of (sm _ _ hF))
  exact ⟨NestedIs.tup ho hc hd (nis_rows I sm rr rv), nk_depth rs⟩
end
def entX (e : Ent) : NestedKey × Addr × Value := (nk e.1, e.2.1, .ref e.2.2)
def dictAt (P : Program) (w : World) (d : Addr) (es : List Ent) (h : Heap) : Prop := es.length ≤ sizeLine ∧ (d == sysModules) = false ∧ (es.map (·.1)).Nodup ∧
  ∃ o ed ep, h.get? d = some o ∧ o.ExactDict ∧ o.data = .dict ed ep ∧ ed.toList = (es.map entX).map (entryOfKey (nestedKind P w))
def DN (P : Program) (w : World) (d : Addr) (es : List Ent) : HO := .ext (dictAt P w d es)
theorem dn_ok {P : Program} {w : World} {H : Hp} {h : Heap} {d : Addr} {es : List Ent} (k : dictAt P w d es h) : ObjOk P w H h d (DN P w d es) :=
  ⟨k, let ⟨_, _, _, o, _, _, e, _⟩ := k; ⟨o, e⟩, fun h1 h2 ⟨a, b, c, o, ed, ep, e, f⟩ q => ⟨a, b, c, o, ed, ep, q o e, f⟩⟩
theorem nodup_ent {es : List Ent} (h : (es.map (·.1)).Nodup) : ((es.map entX).map (·.1)).Nodup := by
  rw [List.map_map]
  have e : ((fun x : NestedKey × Addr × Value => x.1) ∘ entX) = fun x => nk x.1 := rfl
  rw [e]
  have e2 : es.map (fun x => nk x.1) = (es.map (·.1)).map nk := by rw [List.map_map]; rfl
  rw [e2]
  exact List.pairwise_map.mpr (h.imp fun ne e => ne (nk_inj e))
def KeysOk (F : Hp) (es : List Ent) : Prop := ∀ e ∈ es, pTT e.1 (.ref e.2.1) F
theorem KeysOk.up {F F' : Hp} {es : List Ent} (h : KeysOk F es) (s : Same F F') : KeysOk F' es := fun e he => Mn.mono _ _ _ s (h e he)
section
variable {X : Cx} {pins : List (Addr × Obj)} {σ : L2.St} {H : Hp} {s : Shared} {F : Hp} {d : Addr} {es : List Ent}
theorem dn_of (I : Inv X pins σ H s) (sm : Same F H) (hd : H d = some (DN X.prog X.w d es)) (hk : KeysOk F es) : es.length ≤ sizeLine ∧ (d == sysModules) = false ∧ (es.map (·.1)).Nodup ∧ s.heap.DictOfH (nestedKind X.prog X.w) d (es.map entX) := by
  obtain ⟨⟨a, b, c, o, ed, ep, h1, h2, h3, h4⟩, _, _⟩ := (show ObjOk X.prog X.w H s.heap d (DN X.prog X.w d es) from I.hok d _ hd)
  refine ⟨a, b, c, o, ed, ep, h1, h2, h3, h4, fun x hx => ?_, nodup_ent c⟩
  obtain ⟨e, he, rfl⟩ := List.mem_map.mp hx
  exact nis_key I sm (hk e he)
theorem atKey_none {es : List Ent} {rs : List (List Int)} (h : rs ∉ es.map (·.1)) : atKey (es.map entX) (nk rs) = none := by
  refine atKey_none_of_get fun j p q => ?_
  rw [List.getElem?_map] at q
  cases e : es[j]? with
  | none => rw [e] at q; cases q
  | some z =>
    rw [e] at q
    have q2 : entX z = (nk rs, p) := Option.some.inj q
    exact h (List.mem_map.mpr ⟨z, List.mem_of_getElem? e, nk_inj (congrArg (·.1) q2)⟩)
/-- {} -/
theorem we_dnew {pos : Pos} {Q : VK} (h : ∀ p, H p = none → Q (.ref p) (upd H p (DN X.prog X.w p []))) : WE X (.Dict [] [] pos) σ H Q := fun pins s I =>
  wpAny_Dict_empty ⟨.ref s.heap.objs.size, _, I.laid (a := s.heap.objs.size) (o := DN X.prog X.w s.heap.objs.size []) (t' := s.toks) (fun _ _ q => Heap.get?_push_of_some _ q) (Nat.le_refl _)
    (dn_ok ⟨Nat.zero_le _, beq_eq_false_iff_ne.mpr (Ne.symm (Nat.ne_of_lt I.big)), List.nodup_nil, _, #[], 0, Heap.get?_push_size _ rfl, ⟨rfl, rfl, rfl⟩, rfl, rfl⟩), rfl, h _ (I.hok.fresh (Nat.le_refl _))⟩
/-- d[rs] = o, rs new -/
def rSetR (P : Program) (w : World) : TSet := fun o i v H Q => ∃ F d es rs b c, o = .ref d ∧ i = .ref b ∧ v = .ref c ∧ Same F H ∧ H d = some (DN P w d es) ∧ KeysOk F es ∧ pTT rs (.ref b) F ∧ rs ∉ es.map (·.1) ∧ es.length < sizeLine ∧ Q (upd H d (DN P w d (es ++ [(rs, b, c)])))
theorem set_R (hu : X.A.units + 9 < cLine) : PSet X (rSetR X.prog X.w) := by
  intro pins s σ H o i v ov iv u Q I ro ri rv ⟨F, d, es, rs, b, c, eo, ei, ev, sm, hd, hk, hb, hn, hz, q⟩
  subst eo ei ev
  obtain rfl : ov = Value.ref d := ro
  obtain rfl : iv = Value.ref b := ri
  obtain rfl : u = Value.ref c := rv
  obtain ⟨a1, a2, a3, a4⟩ := dn_of I sm hd hk
  refine wpAny_setItem_heap (knd := nestedKind X.prog X.w) (k := nk rs) (by show X.A.units + 1 + 8 < cLine; omega) (nis_key I sm hb) a4 (fun h' hm hs => ?_) (by rw [List.length_map]; exact a1)
  rw [storedH_new (atKey_none hn)] at hm
  obtain ⟨ob, ed, ep, h1, h2, h3, h4, _, _⟩ := hm
  refine ⟨_, I.write (x := d) (e := d) (by rw [hd]; trivial) (.inl rfl) (fun y u hy hu => by rw [hs.2 y hy]; exact hu) ⟨ob, h1⟩ (dn_ok (es := es ++ [(rs, b, c)]) ⟨by rw [List.length_append, List.length_singleton]; omega, a2, ?_, ob, ed, ep, h1, h2, h3, ?_⟩), q⟩
  · rw [List.map_append, List.nodup_append]
    refine ⟨a3, by simp, fun x hx y hy => ?_⟩
    simp at hy
    rw [hy]
    exact fun z => hn (z ▸ hx)
  · rw [h4, List.map_append, List.map_append, List.map_append]
    rfl
/-- d[rs] -/
def rIxR (P : Program) (w : World) : R2 := fun x y H Q => ∃ F d es rs b b' c, x = .ref d ∧ y = .ref b ∧ Same F H ∧ H d = some (DN P w d es) ∧ KeysOk F es ∧ pTT rs (.ref b) F ∧ (rs, b', c) ∈ es ∧ Q (.ref c) H
theorem ix_R (hu : X.A.units + 9 < cLine) : IxR X (rIxR X.prog X.w) := by
  intro value slice pins s σ H x y v u Q I rx ry ⟨F, d, es, rs, b, b', c, ex, ey, sm, hd, hk, hb, hm, q⟩ hs
  subst ex ey
  obtain rfl : v = Value.ref d := rx
  obtain rfl : u = Value.ref b := ry
  obtain ⟨a1, a2, a3, a4⟩ := dn_of I sm hd hk
  obtain ⟨j, hj⟩ := List.getElem?_of_mem hm
  have hat : atKey (es.map entX) (nk rs) = some (b', .ref c) := atKey_of_get (i := j) (nodup_ent a3) (by rw [List.getElem?_map, hj]; rfl)
  exact tail_any a4.typeIs slot_dict_getitem.lookup (wpAny_getItem_heap (knd := nestedKind X.prog X.w) (by show X.A.units + 1 + 8 < cLine; omega) (nis_key I sm hb) a4 hat ⟨.ref c, H, I.tok _, rfl, q⟩) hs
/-- sorted(d) -/
def leTT (a b : List (List Int)) : Bool := dle (toTT a) (toTT b)
theorem dataLe_TT : PySem.W.dataLe false (fun a : List (List Int) => Datum.toD (toTT a)) = leTT := by
  funext a b
  rw [PySem.W.dataLe_eq]
  show (!PySem.W.dataLt (Datum.toD (toTT b)) (Datum.toD (toTT a))) = _
  rw [DatumOrd.lt_eq]
  rfl
theorem reads_nil1 {h : Heap} : ∀ {r : List Int} {us : List Value} {as : List Addr}, PySem.ReadsAll h us (r.map Datum.toD) as → as = []
  | [], _, _, q => by cases q; rfl
  | i :: r, _, _, q => by
    cases q with
    | cons a b =>
      have e : Datum.toD i = PyData.int i := rfl
      rw [e] at a
      cases a
      rw [reads_nil1 b]
      rfl
theorem reads_nil2 {h : Heap} : ∀ {rs : List (Tup Int)} {us : List Value} {as : List Addr}, PySem.ReadsAll h us (rs.map Datum.toD) as → as = []
  | [], _, _, q => by cases q; rfl
  | i :: r, _, _, q => by
    cases q with
    | cons a b =>
      have e : Datum.toD i = PyData.tuple (i.items.map Datum.toD) := rfl
      rw [e] at a
      cases a with
      | tuple _ _ _ a4 => rw [reads_nil1 a4, reads_nil2 b]; rfl
theorem reads_nil3 {h : Heap} {rs : List (List Int)} {u : Value} {as : List Addr} (q : PySem.Reads h u (Datum.toD (toTT rs)) as) : as = [] := by
  have e : Datum.toD (toTT rs) = PyData.tuple ((toTT rs).items.map Datum.toD) := rfl
  rw [e] at q
  cases q with
  | tuple _ _ _ a4 => exact reads_nil2 a4
theorem cr_sortR (hcalm : X.calm = true) (hu : X.A.units + 60 < cLine) : CallR X (.builtin "sorted") (fun vs H Q => ∃ F d es, vs = [.ref d] ∧ Same F H ∧ H d = some (DN X.prog X.w d es) ∧ KeysOk F es ∧ (∀ e ∈ es, e.1 ≠ []) ∧
    ∀ ws p, AllP pTT ws ((es.map (·.1)).mergeSort leTT) F → H p = none → Q (.ref p) (upd H p (.lst ws))) := by
  intro pins s σ H vs us Q I r ⟨F, d, es, ex, sm, hd, hk, hne, q⟩
  subst ex
  rw [Vals.ref1 r]
  obtain ⟨⟨z, lo, nd, o, ed, ep, h1, h2, h3, h4⟩, u1, u2⟩ := (show ObjOk X.prog X.w H s.heap d (DN X.prog X.w d es) from I.hok d _ hd)
  clear u1 u2
  have l1 : ed.size = es.length := by
    rw [← Array.length_toList, h4, List.length_map, List.length_map]
  refine Calls.call_function_entry PyProof.Rows.kind_sorted PyProof.Rows.plain_sorted PyProof.Rows.entry_sorted (PyProof.Rows.args_sorted1 _) ?_
  unfold Builtin.«sorted»
  refine wpAny_bind (m := checkCount "sorted" 1 1 _) (wpAny_pure ?_)
  refine wpAny_bind (PySem.W.kdu_collect (A := X.A.in1) (kdl_raw lo h2 h3) (I.ok.hd hcalm) h1 (by rw [l1]; exact z) fun h' tk acc hkp hacc => ?_)
  have ea : acc.toList = es.map fun e => Value.ref e.2.1 := by
    have hl : acc.toList.length = es.length := by rw [Array.length_toList, hacc.1]; exact l1
    apply List.ext_getElem?
    intro j
    rw [List.getElem?_map]
    cases hj : acc.toList[j]? with
    | none =>
      have g1 := List.getElem?_eq_none_iff.mp hj
      rw [List.getElem?_eq_none (by omega)]
      rfl
    | some v =>
      obtain ⟨en, hen, hv⟩ := hacc.2 j v (by rw [← Array.getElem?_toList]; exact hj)
      have qe : ed[j]? = ((es.map entX)[j]?).map (entryOfKey (nestedKind X.prog X.w)) := entry_at h4 j
      rw [hen, List.getElem?_map] at qe
      cases hb : es[j]? with
      | none => rw [hb] at qe; cases qe
      | some b =>
        rw [hb] at qe
        have e2 : en = entryOfKey (nestedKind X.prog X.w) (entX b) := Option.some.inj qe
        rw [hv, e2]
        rfl
  have I1 : Inv X pins σ H { s with heap := h', toks := tk } := I.kept hkp
  have hlen : acc.toList.length = es.length := by rw [ea, List.length_map]
  refine wpAny_bind (wpAny_newList ?_ (by rw [hlen]; exact z))
  have hoL : (h'.push (seqObj "list" acc.toList.toArray 0)).get? h'.objs.size = some (seqObj "list" acc.toList.toArray 0) := Heap.get?_push_size _ rfl
  show wpAny _ _ _ _ _ { s with heap := h'.push (seqObj "list" acc.toList.toArray 0), toks := tk }
  have er : PySem.W.EachIs (fun (u : Value) (rs : List (List Int)) => (∃ w, RelV w u ∧ pTT rs w F) ∧ (∃ as, PySem.Reads h' u (Datum.toD (toTT rs)) as)) acc.toList (es.map (·.1)) := by
    rw [ea]
    have all : ∀ e ∈ es, pTT e.1 (.ref e.2.1) F := hk
    clear hk h4 l1 hlen ea hacc hoL nd hd z q h1
    induction es with
    | nil => exact .nil
    | cons e es ih =>
      refine .cons ⟨⟨.ref e.2.1, rfl, all e List.mem_cons_self⟩, ?_⟩ (ih (fun x hx => hne x (List.mem_cons_of_mem _ hx)) fun x hx => all x (List.mem_cons_of_mem _ hx))
      exact rd_TT e.1 X pins σ H _ F (.ref e.2.1) _ I1 sm (all e List.mem_cons_self) rfl
  have hnew : ∀ (u : Value) (rs : List (List Int)) (as : List Addr), PySem.Reads h' u (Datum.toD (toTT rs)) as → h'.objs.size ∉ as ∧ PySem.Reads (h'.push (seqObj "list" acc.toList.toArray 0)) u (Datum.toD (toTT rs)) as := fun u rs as rd =>
    ⟨by rw [reads_nil3 rd]; exact List.not_mem_nil, PyProof.Rows.Reads.keeps (fun b o e => Heap.get?_push_of_some _ e) rd⟩
  refine wpAny_bind (wpAny_holding (PySem.W.list_sort_data (s := { s with heap := h'.push (seqObj "list" acc.toList.toArray 0), toks := tk }) (enc := fun rs : List (List Int) => Datum.toD (toTT rs)) (R := fun u rs => ∃ w, RelV w u ∧ pTT rs w F) (bs := es.map (·.1)) hoL (er.mono fun _ _ h => h.1)
    (er.mono fun u rs ⟨_, as, h⟩ => ⟨as, (hnew u rs as h).2, (hnew u rs as h).1⟩) (PySem.W.AllAlike.of fun b b' => DatumOrd.alike _ _) (.inl fun dd hdd => ?_) (by rw [List.length_map]; exact z) (fun b hb => by have := Datum.depth_le (toTT b); show X.A.units + 1 + 1 + _ < cLine; have e9 : Datum.depth (Tup (Tup Int)) = 2 := rfl; omega) fun out g1 g2 => ?_))
  · obtain ⟨rs, hrs, rfl⟩ := List.mem_map.mp hdd
    obtain ⟨e, he, rfl⟩ := List.mem_map.mp hrs
    have := hne e he
    cases hq : e.1 with
    | nil => exact absurd hq this
    | cons a b => exact ⟨_, _, rfl⟩
  · rw [dataLe_TT] at g2
    obtain ⟨zs, z1, z2⟩ := each_out (f := pTT) g2
    obtain ⟨e', he'⟩ := PyProof.Rows.sortedHeap_at (vs := acc.toList) (out := out.toArray) hoL
    have hl2 : zs.length ≤ sizeLine := by rw [z2.1, List.length_mergeSort, List.length_map]; exact z
    refine wpAny_pure ⟨_, rfl, .ref h'.objs.size, upd H h'.objs.size (.lst zs), I1.laid (t' := tk) (fun b u e => ?_) (Nat.le_refl _) (show ObjOk X.prog X.w _ _ _ (.lst zs) from ⟨hl2, out, e', z1, he'⟩), rfl, q zs _ z2 (I1.hok.fresh (Nat.le_refl _))⟩
    have hb : b < h'.objs.size := Heap.lt_size e
    rw [PyProof.Rows.sortedHeap_old (Nat.ne_of_lt hb) (by rw [size_push']; exact Nat.lt_succ_of_lt hb)]
    exact Heap.get?_push_of_some _ e
end
end K24
set_option Elab.async false
set_option linter.all false
set_option maxRecDepth 100000
set_option maxHeartbeats 4000000
namespace K24
open PySem PySem.Spec PyProof.Rows L2
/-- what the top has left -/
structure Tx (K : PySem.W.Frag) (mg : Str → Option Value) : Prop where
  c : He.SaysD fa fn K
  q : exQ K = true
  h : ∃ h : Heap, K.In h ∧ h.Ns mainGlobals mg
section
variable {K : PySem.W.Frag} {mg : Str → Option Value} (T : Tx K mg)
abbrev cG (K : PySem.W.Frag) : Addr := He.ga K "Grid"
abbrev cL (K : PySem.W.Frag) : Addr := He.ga K "Lattice"
include T
theorem Tx.glo {x : Str} (i : Nat) (e : fa[i]? = some (.glo x)) : mg x = some (.ref (He.ga K x)) := let ⟨_, X, G⟩ := T.h; He.glo_ok X G (T.c.fact i e)
theorem Tx.free {x : Str} (i : Nat) (e : fa[i]? = some (.free x)) : mg x = none := let ⟨_, X, G⟩ := T.h; He.free_ok X G (T.c.fact i e)
theorem Tx.int {x : Str} {n : Int} (i : Nat) (e : fa[i]? = some (.int x n)) : ∃ t, mg x = some (.int n t) := let ⟨_, X, G⟩ := T.h; He.int_ok X G (T.c.fact i e)
theorem Tx.cls {x : Str} (i : Nat) (e : fa[i]? = some (.cls x)) : Cls K (He.ga K x) := He.cls_ok (T.c.fact i e)
theorem Tx.noat {x f : Str} (i : Nat) (e : fa[i]? = some (.noat x f)) : NoAttr K (He.ga K x) f := He.noat_ok (T.c.fact i e)
theorem Tx.meth {x m : Str} (i : Nat) (e : fa[i]? = some (.meth x m)) : Meth K (He.ga K x) m (He.ma K (He.ga K x) m) := He.meth_ok (T.c.fact i e)
theorem Tx.mkr {x : Str} (i : Nat) (e : fa[i]? = some (.mkr x)) : Mk K (He.ga K x) (He.ma K (He.ga K x) "__init__") := He.mkr_ok (T.c.fact i e)
theorem Tx.q0 : He.eqO (PySem.W.nsIn K mainGlobals "isqrt") (some (some (.builtin "math.isqrt"))) = true := by
  have h := T.q
  unfold exQ at h
  simp only [Bool.and_eq_true] at h
  exact h.1
theorem Tx.x : exF K = true := by
  have h := T.q
  unfold exQ at h
  simp only [Bool.and_eq_true] at h
  exact h.2
theorem Tx.isqrt : mg "isqrt" = some (.builtin "math.isqrt") := let ⟨_, X, G⟩ := T.h; PySem.W.mg_of X G (He.eqO_ok T.q0)
theorem Tx.g_Grid : mg "Grid" = some (.ref (cG K)) := T.glo 46 rfl
theorem Tx.g_Lattice : mg "Lattice" = some (.ref (cL K)) := T.glo 47 rfl
theorem Tx.n_len : mg "len" = none := T.free 48 rfl
theorem Tx.n_range : mg "range" = none := T.free 49 rfl
theorem Tx.n_zip : mg "zip" = none := T.free 50 rfl
theorem Tx.n_list : mg "list" = none := T.free 51 rfl
theorem Tx.n_tuple : mg "tuple" = none := T.free 52 rfl
theorem Tx.n_sum : mg "sum" = none := T.free 53 rfl
theorem Tx.n_abs : mg "abs" = none := T.free 54 rfl
theorem Tx.n_min : mg "min" = none := T.free 55 rfl
theorem Tx.n_isinstance : mg "isinstance" = none := T.free 56 rfl
theorem Tx.n_int : mg "int" = none := T.free 57 rfl
theorem Tx.n_bool : mg "bool" = none := T.free 58 rfl
theorem Tx.n_sorted : mg "sorted" = none := T.free 59 rfl
theorem Tx.n_enumerate : mg "enumerate" = none := T.free 60 rfl
theorem Tx.n_all : mg "all" = none := T.free 61 rfl
theorem Tx.clG : Cls K (cG K) := T.cls 62 rfl
theorem Tx.clL : Cls K (cL K) := T.cls 63 rfl
theorem Tx.na_rows : NoAttr K (cG K) "rows" := T.noat 64 rfl
theorem Tx.na_width : NoAttr K (cG K) "width" := T.noat 65 rfl
theorem Tx.na_gram : NoAttr K (cL K) "gram" := T.noat 66 rfl
theorem Tx.mkG : Mk K (cG K) (He.ma K (cG K) "__init__") := T.mkr 67 rfl
theorem Tx.mkL : Mk K (cL K) (He.ma K (cL K) "__init__") := T.mkr 68 rfl
theorem Tx.i_MOST_RANK : ∃ t, mg "MOST_RANK" = some (.int 4 t) := T.int 69 rfl
theorem Tx.i_MOST_ITEM : ∃ t, mg "MOST_ITEM" = some (.int 10000 t) := T.int 70 rfl
end
/-! ### a def and its body -/
def GEp (F H : Hp) (P : Pr) : GE := { nx := fun _ F' H' => Gw F H F' H' ∧ P .non F', rt := fun v F' H' => Gw F H F' H' ∧ P v F' }
section
variable {P : Program} {w : World} {K : PySem.W.Frag} {mg : Str → Option Value} {base : Heap}
/-- the context of a def's body -/
abbrev cxD (P : Program) (w : World) (K : PySem.W.Frag) (mg : Str → Option Value) (base : Heap) (N : List Str) (d : He.DefD) (cdv : Value) (A : Around) (outer : List Env) (s : Shared) (H : Hp) (E : XK) : Cx :=
  (cxOf CX0 P w K mg base N d.qual d.scope (He.fAd K d.at_) cdv A outer s H E).nox
def BindOk (d : He.DefD) (ps : List Str) : Prop := ∀ (kV doc pm : Value) (an : Option Addr) (cdv ct : Value) (us : List Value), us.length = ps.length → bindArgs (PySem.W.fnOf d.name d.qual d.params d.body d.scope .none kV doc pm an cdv ct) ⟨us, []⟩ = pure (ps.zip us)
/-- a def's promise of any form -/
theorem mk_fnS (T : Tx K mg) {d : He.DefD} (i j : Nat) (hd : fn[i]? = some d) (hj : fa[j]? = some (.glo d.at_.1)) (h0 : He.fAd K d.at_ = He.ga K d.at_.1) (hdf : d.dfl = []) (hkw : d.kwd = []) {N ps : List Str} (S : FnScope N ps d.scope) (hb : BindOk d ps) {sp : Sp} {k : Nat}
    (hlen : ∀ vs H Q E, sp vs H Q E → vs.length = ps.length)
    (body : ∀ (cdv : Value) (A : Around) (outer : List Env) (s : Shared) (H : Hp) (E : XK), Room k (cxD P w K mg base N d cdv A outer s H E).A → ∀ (vs : List V) (Q : VK), sp vs H Q E →
      WSs (cxD P w K mg base N d cdv A outer s H E) d.body { nx := fun _ H' => Q .non H', rt := Q } (start N vs) H) : FnD P w K mg base (k + 1) d.at_.1 sp := by
  obtain ⟨fd, FF⟩ := T.c.def_ i hd
  have e1 : d.dvs K = [] := by
    unfold He.DefD.dvs
    rw [hdf] <;> rfl
  have e2 : d.kws K = [] := by
    unfold He.DefD.kws
    rw [hkw] <;> rfl
  rw [e1, e2] at FF
  refine ⟨_, fd, ps, FF.ok S hlen fun cdv A outer s H vs Q E hr h => ⟨WSs (cxD P w K mg base N d cdv A outer s H E) d.body, PSs.nox pss_w, body cdv A outer s H E hr vs Q h⟩, ?_, FF.kp, FF.bindsN hb⟩
  rw [h0]
  exact T.glo j hj
theorem mk_fn (T : Tx K mg) {d : He.DefD} (i j : Nat) (hd : fn[i]? = some d) (hj : fa[j]? = some (.glo d.at_.1)) (h0 : He.fAd K d.at_ = He.ga K d.at_.1) (hdf : d.dfl = []) (hkw : d.kwd = []) {N ps : List Str} (S : FnScope N ps d.scope) (hb : BindOk d ps) {c : Con} {k : Nat}
    (hlen : ∀ vs F P, c vs F P → vs.length = ps.length)
    (body : ∀ (cdv : Value) (A : Around) (outer : List Env) (s : Shared) (H : Hp) (E : XK), Room k (cxD P w K mg base N d cdv A outer s H E).A → ∀ (vs : List V) (F : Hp) (R : Pr), Same F H → c vs F R →
      Sx (cxD P w K mg base N d cdv A outer s H E) d.body (start N vs) F H (GEp F H R)) : FnD P w K mg base (k + 1) d.at_.1 (spP c) :=
  mk_fnS T i j hd hj h0 hdf hkw S hb (fun vs H Q E ⟨F, R, _, h, _⟩ => hlen vs F R h) fun cdv A outer s H E hr vs Q ⟨F, R, sm, h, q⟩ =>
    WSs.imp (body cdv A outer s H E hr vs F R sm h) (fun σ H' ⟨F', _, g, p⟩ => q _ F' H' g p) (fun v H' ⟨F', _, g, p⟩ => q v F' H' g p) (fun _ _ ⟨_, _, h⟩ => h.elim) (fun _ _ ⟨_, _, h⟩ => h.elim)
/-- .. whose answer is a new list -/
theorem mk_fnN (T : Tx K mg) {d : He.DefD} (i j : Nat) (hd : fn[i]? = some d) (hj : fa[j]? = some (.glo d.at_.1)) (h0 : He.fAd K d.at_ = He.ga K d.at_.1) (hdf : d.dfl = []) (hkw : d.kwd = []) {N ps : List Str} (S : FnScope N ps d.scope) (hb : BindOk d ps) {c : ConN} {k : Nat}
    (hlen : ∀ vs F P, c vs F P → vs.length = ps.length)
    (body : ∀ (cdv : Value) (A : Around) (outer : List Env) (s : Shared) (H : Hp) (E : XK), Room k (cxD P w K mg base N d cdv A outer s H E).A → ∀ (vs : List V) (F : Hp) (R : List V → Hp → Prop), Same F H → c vs F R →
      Sx (cxD P w K mg base N d cdv A outer s H E) d.body (start N vs) F H { nx := fun _ _ _ => False, rt := fun v F' H' => ∃ l ws, v = .ref l ∧ Gw F H F' H' ∧ H l = none ∧ F' l = none ∧ H' l = some (.lst ws) ∧ R ws F' }) : FnD P w K mg base (k + 1) d.at_.1 (spN c) :=
  mk_fnS T i j hd hj h0 hdf hkw S hb (fun vs H Q E ⟨F, R, _, h, _⟩ => hlen vs F R h) fun cdv A outer s H E hr vs Q ⟨F, R, sm, h, q⟩ =>
    WSs.imp (body cdv A outer s H E hr vs F R sm h) (fun σ H' ⟨F', _, h⟩ => h.elim) (fun v H' ⟨F', _, l, ws, e, g, n1, n2, e3, r⟩ => by
      subst e
      exact q l ws F' H' g n1 n2 e3 r) (fun _ _ ⟨_, _, h⟩ => h.elim) (fun _ _ ⟨_, _, h⟩ => h.elim)
/-- a method -/
theorem mk_mtS (T : Tx K mg) {d : He.DefD} {x m : Str} (i j : Nat) (hd : fn[i]? = some d) (hj : fa[j]? = some (.meth x m)) (h0 : He.fAd K d.at_ = He.ma K (He.ga K x) m) (hdf : d.dfl = []) (hkw : d.kwd = []) {N ps : List Str} (S : FnScope N ps d.scope) (hb : BindOk d ps) {sp : Sp} {k : Nat}
    (hlen : ∀ vs H Q E, sp vs H Q E → vs.length = ps.length)
    (body : ∀ (cdv : Value) (A : Around) (outer : List Env) (s : Shared) (H : Hp) (E : XK), Room k (cxD P w K mg base N d cdv A outer s H E).A → ∀ (vs : List V) (Q : VK), sp vs H Q E →
      WSs (cxD P w K mg base N d cdv A outer s H E) d.body { nx := fun _ H' => Q .non H', rt := Q } (start N vs) H) : MtD P w K mg base (k + 1) (He.ga K x) m sp := by
  obtain ⟨fd, FF⟩ := T.c.def_ i hd
  have e1 : d.dvs K = [] := by
    unfold He.DefD.dvs
    rw [hdf] <;> rfl
  have e2 : d.kws K = [] := by
    unfold He.DefD.kws
    rw [hkw] <;> rfl
  rw [e1, e2] at FF
  refine ⟨_, fd, ps, FF.ok S hlen fun cdv A outer s H vs Q E hr h => ⟨WSs (cxD P w K mg base N d cdv A outer s H E) d.body, PSs.nox pss_w, body cdv A outer s H E hr vs Q h⟩, ?_, FF.bindsN hb⟩
  rw [h0]
  exact T.meth j hj
theorem mk_mt (T : Tx K mg) {d : He.DefD} {x m : Str} (i j : Nat) (hd : fn[i]? = some d) (hj : fa[j]? = some (.meth x m)) (h0 : He.fAd K d.at_ = He.ma K (He.ga K x) m) (hdf : d.dfl = []) (hkw : d.kwd = []) {N ps : List Str} (S : FnScope N ps d.scope) (hb : BindOk d ps) {c : Con} {k : Nat}
    (hlen : ∀ vs F P, c vs F P → vs.length = ps.length)
    (body : ∀ (cdv : Value) (A : Around) (outer : List Env) (s : Shared) (H : Hp) (E : XK), Room k (cxD P w K mg base N d cdv A outer s H E).A → ∀ (vs : List V) (F : Hp) (R : Pr), Same F H → c vs F R →
      Sx (cxD P w K mg base N d cdv A outer s H E) d.body (start N vs) F H (GEp F H R)) : MtD P w K mg base (k + 1) (He.ga K x) m (spP c) :=
  mk_mtS T i j hd hj h0 hdf hkw S hb (fun vs H Q E ⟨F, R, _, h, _⟩ => hlen vs F R h) fun cdv A outer s H E hr vs Q ⟨F, R, sm, h, q⟩ =>
    WSs.imp (body cdv A outer s H E hr vs F R sm h) (fun σ H' ⟨F', _, g, p⟩ => q _ F' H' g p) (fun v H' ⟨F', _, g, p⟩ => q v F' H' g p) (fun _ _ ⟨_, _, h⟩ => h.elim) (fun _ _ ⟨_, _, h⟩ => h.elim)
end
end K24
set_option Elab.async false
set_option linter.all false
set_option maxRecDepth 100000
set_option maxHeartbeats 4000000
set_option autoImplicit false
namespace K24
open PySem PySem.Spec PyProof.Rows L2
/-! ### a list that is frozen while one expression runs -/
def rm (F : Hp) (l : Addr) : Hp := fun a => if a = l then none else F a
theorem rm_same {F : Hp} {l : Addr} : Same (rm F l) F := fun b u q => by
  unfold rm at q
  split at q
  · cases q
  · exact q
theorem rm_at {F : Hp} {l : Addr} : rm F l l = none := if_pos rfl
theorem rm_ne {F : Hp} {l b : Addr} (h : b ≠ l) : rm F l b = F b := if_neg h
/-- P does not lean on the list at l -/
def Free (P : Pr) (vs : List V) : Prop := ∀ (l : Addr) (v : V) (F : Hp), F l = some (.lst vs) → P v F → P v (rm F l)
section
variable {F H F1 H1 F2 H2 : Hp} {l : Addr} {vs : List V}
theorem frz_in (g : Gw F H F1 H1) (hl : H l = some (.lst vs)) (hf : F l = none) : Gw (upd F l (.lst vs)) H (upd F1 l (.lst vs)) H1 := by
  obtain ⟨e1, e2⟩ := g.own hl hf
  refine ⟨fun b u q => ?_, g.h, fun b u q => ?_, fun a ha => ?_⟩
  · by_cases z : b = l
    · subst z
      rw [upd_same] at q ⊢
      exact q
    · rw [upd_ne z] at q ⊢
      exact g.f b u q
  · by_cases z : b = l
    · subst z
      rw [upd_same] at q
      rw [e1]
      exact q
    · rw [upd_ne z] at q
      exact g.s b u q
  · by_cases z : a = l
    · subst z
      rw [upd_same, upd_same]
    · rw [upd_ne z, upd_ne z]
      exact g.n a ha
theorem frz_out (hf : F1 l = none) (hl : H1 l = some (.lst vs)) (g : Gw (upd F1 l (.lst vs)) H1 F2 H2) : Gw F1 H1 (rm F2 l) H2 ∧ F2 l = some (.lst vs) := by
  have e : F2 l = some (.lst vs) := g.f _ _ upd_same
  refine ⟨⟨fun b u q => ?_, g.h, rm_same.trans g.s, fun a ha => ?_⟩, e⟩
  · have z : b ≠ l := ne_of_none q hf
    rw [rm_ne z]
    exact g.f b u (by rw [upd_ne z]; exact q)
  · by_cases z : a = l
    · subst z
      rw [rm_at, hf]
    · rw [rm_ne z, g.n a ha, upd_ne z]
end
section
variable {X : Cx} {e : Expr} {σ : L2.St} {F H : Hp} {P : Pr} {α : Type} {f : α → Pr} {xs : List α} {l : Addr} {vs : List V}
theorem ev_frz (hl : H l = some (.lst vs)) (hf : F l = none) (hP : Free P vs) (h : Ev X e σ (upd F l (.lst vs)) H P) : Ev X e σ F H P := fun F1 H1 g1 Q q => by
  obtain ⟨e1, e2⟩ := g1.own hl hf
  exact h _ _ (frz_in g1 hl hf) Q fun v F2 H2 g2 p => let ⟨g3, e3⟩ := frz_out e2 e1 g2; q v _ H2 g3 (hP l v F2 e3 p)
theorem evt_frz {b : Bool} (hl : H l = some (.lst vs)) (hf : F l = none) (h : EvT X e σ (upd F l (.lst vs)) H b) : EvT X e σ F H b := fun F1 H1 g1 Q q => by
  obtain ⟨e1, e2⟩ := g1.own hl hf
  exact h _ _ (frz_in g1 hl hf) Q fun F2 H2 g2 => let ⟨g3, e3⟩ := frz_out e2 e1 g2; q _ H2 g3
theorem en_frz (hl : H l = some (.lst vs)) (hf : F l = none) (hP : ∀ x, Free (f x) vs) (h : EvN X e σ (upd F l (.lst vs)) H f xs) : EvN X e σ F H f xs := fun F1 H1 g1 Q q => by
  obtain ⟨e1, e2⟩ := g1.own hl hf
  refine h _ _ (frz_in g1 hl hf) Q fun p ws F2 H2 g2 n1 n2 e4 r => ?_
  obtain ⟨g3, e3⟩ := frz_out e2 e1 g2
  have hp : p ≠ l := fun z => by rw [z, e3] at n2; cases n2
  exact q p ws _ H2 g3 n1 (by rw [rm_ne hp]; exact n2) e4 ⟨r.1, fun i v x a b => hP x l v F2 e3 (r.2 i v x a b)⟩
end
theorem free_I {i : Int} {vs : List V} : Free (pI i) vs := fun _ _ _ _ h => h
theorem free_N {vs : List V} : Free pN vs := fun _ _ _ _ h => h
theorem free_B {b : Bool} {vs : List V} : Free (pB b) vs := fun _ _ _ _ h => h
theorem free_Or {p q : Pr} {vs : List V} (hp : Free p vs) (hq : Free q vs) : Free (pOr p q) vs := fun l v F e h => h.imp (hp l v F e) (hq l v F e)
theorem free_P {p q : Pr} {vs : List V} (hp : Free p vs) (hq : Free q vs) : Free (pP p q) vs := fun l v F e ⟨a, x, y, ev, h, h1, h2⟩ =>
  ⟨a, x, y, ev, by rw [rm_ne fun z => by rw [z, e] at h; cases h]; exact h, hp l x F e h1, hq l y F e h2⟩
/-- a row of ints is no list of references -/
theorem free_R {r : List Int} {vs : List V} (hv : ∃ a ws, vs = .ref a :: ws) : Free (pL pI r) vs := fun l v F e ⟨a, ws, ev, h, rr⟩ => by
  obtain ⟨b, us, rfl⟩ := hv
  refine ⟨a, ws, ev, ?_, ⟨rr.1, fun i v x p q => rr.2 i v x p q⟩⟩
  rw [rm_ne fun z => ?_]
  · exact h
  · rw [z, e] at h
    have h2 := Option.some.inj h
    injection h2 with h2
    rw [← h2] at rr
    have hx := rr.1
    cases r with
    | nil => cases hx
    | cons i r =>
      have := rr.2 0 (.ref b) i rfl rfl
      cases this
/-! ### a table: a list of lists of ints -/
abbrev pR (r : List Int) : Pr := pL pI r
abbrev pM (m : List (List Int)) : Pr := pL pR m
theorem refs_of {F : Hp} {vs : List V} {m : List (List Int)} (h : AllP pR vs m F) (hm : m ≠ []) : ∃ a ws, vs = .ref a :: ws := by
  cases m with
  | nil => exact absurd rfl hm
  | cons r m =>
    obtain ⟨v, hv, a, ws, e, _⟩ := h.get (i := 0) (x := r) rfl
    cases vs with
    | nil => cases hv
    | cons w vs =>
      cases hv
      exact ⟨a, vs, by rw [e]⟩
/-! ### objects -/
def pG (K : PySem.W.Frag) (rows : List (List Int)) (w : Nat) : Pr := pObj (cG K) fun fs F => ∃ rv, fs = [(("rows" : Str), rv), (("width" : Str), V.int w)] ∧ pTT rows rv F
def pLa (K : PySem.W.Frag) (g : List (List Int)) : Pr := pObj (cL K) fun fs F => ∃ gv, fs = [(("gram" : Str), gv)] ∧ pG K g g.length gv F
instance {K : PySem.W.Frag} {rows : List (List Int)} {w : Nat} : Mn (pG K rows w) := ⟨fun v F F' s ⟨a, dx, fs, e, h, rv, e2, p⟩ => ⟨a, dx, fs, e, s _ _ h, rv, e2, Mn.mono _ _ _ s p⟩⟩
instance {K : PySem.W.Frag} {g : List (List Int)} : Mn (pLa K g) := ⟨fun v F F' s ⟨a, dx, fs, e, h, rv, e2, p⟩ => ⟨a, dx, fs, e, s _ _ h, rv, e2, Mn.mono _ _ _ s p⟩⟩
section
variable {X : Cx} {o : Expr} {σ : L2.St} {F H : Hp} {pos : Pos} {rows g : List (List Int)} {w : Nat}
theorem ev_rows (T : Tx X.K X.mg) (ho : Ev X o σ F H (pG X.K rows w)) (hb : attributeBase o "rows" X.env (eval o X.env) = eval o X.env := by rfl) : Ev X (.Attribute o "rows" pos) σ F H (pTT rows) :=
  ev_fld ho (fun v F1 s ⟨a, dx, fs, e, h, rv, e2, p⟩ => ⟨a, _, dx, fs, rv, e, h, T.clG, T.na_rows, by rw [e2]; rfl, p⟩) hb
theorem ev_width (T : Tx X.K X.mg) (ho : Ev X o σ F H (pG X.K rows w)) (hb : attributeBase o "width" X.env (eval o X.env) = eval o X.env := by rfl) : Ev X (.Attribute o "width" pos) σ F H (pI (w : Int)) :=
  ev_fld ho (fun v F1 s ⟨a, dx, fs, e, h, rv, e2, p⟩ => ⟨a, _, dx, fs, .int w, e, h, T.clG, T.na_width, by rw [e2]; rfl, rfl⟩) hb
theorem ev_gram (T : Tx X.K X.mg) (ho : Ev X o σ F H (pLa X.K g)) (hb : attributeBase o "gram" X.env (eval o X.env) = eval o X.env := by rfl) : Ev X (.Attribute o "gram" pos) σ F H (pG X.K g g.length) :=
  ev_fld ho (fun v F1 s ⟨a, dx, fs, e, h, gv, e2, p⟩ => ⟨a, _, dx, fs, gv, e, h, T.clL, T.na_gram, by rw [e2]; rfl, p⟩) hb
end
theorem insG {K : PySem.W.Frag} {rows : List (List Int)} {w : Nat} {v : V} {F : Hp} {m : Str} (h : pG K rows w v F) (hm : ("rows" : Str) ≠ m ∧ ("width" : Str) ≠ m) : ∃ a dx fs, v = .ref a ∧ F a = some (.ins (cG K) dx fs) ∧ fs.lookup m = none := by
  obtain ⟨a, dx, fs, e, h, rv, e2, p⟩ := h
  refine ⟨a, dx, fs, e, h, ?_⟩
  rw [e2]
  simp [List.lookup, beq_eq_false_iff_ne.mpr (Ne.symm hm.1), beq_eq_false_iff_ne.mpr (Ne.symm hm.2)]
theorem insL {K : PySem.W.Frag} {g : List (List Int)} {v : V} {F : Hp} {m : Str} (h : pLa K g v F) (hm : ("gram" : Str) ≠ m) : ∃ a dx fs, v = .ref a ∧ F a = some (.ins (cL K) dx fs) ∧ fs.lookup m = none := by
  obtain ⟨a, dx, fs, e, h, rv, e2, p⟩ := h
  refine ⟨a, dx, fs, e, h, ?_⟩
  rw [e2]
  simp [List.lookup, beq_eq_false_iff_ne.mpr (Ne.symm hm)]
/-! ### one frozen list or tuple of known things, said once -/
theorem pT_of {α : Type} {f : α → Pr} {xs ys : List α} {v : V} {F : Hp} (h : pT f xs v F) (e : xs = ys) : pT f ys v F := e ▸ h
end K24
set_option Elab.async false
set_option linter.all false
set_option maxRecDepth 100000
set_option maxHeartbeats 4000000
set_option autoImplicit false
namespace K24
open PySem PySem.Spec PyProof.Rows L2
/-! ### a list of lists that are all new and may be changed -/
structure HM (F H : Hp) (ps : List Addr) (rows : List (List Int)) : Prop where
  l : ps.length = rows.length
  n : ps.Nodup
  r : ∀ (i : Nat) (q : Addr) (r : List Int), ps[i]? = some q → rows[i]? = some r → H q = some (.lst (r.map V.int)) ∧ F q = none
theorem HM.up {F H F' H' : Hp} {ps : List Addr} {rows : List (List Int)} (h : HM F H ps rows) (g : Gw F H F' H') : HM F' H' ps rows := ⟨h.l, h.n, fun i q r a b => g.own (h.r i q r a b).1 (h.r i q r a b).2⟩
theorem HM.snoc {F H : Hp} {ps : List Addr} {rows : List (List Int)} {p : Addr} {r : List Int} (h : HM F H ps rows) (hp : p ∉ ps) (e : H p = some (.lst (r.map V.int))) (f : F p = none) : HM F H (ps ++ [p]) (rows ++ [r]) := by
  refine ⟨by rw [List.length_append, List.length_append, h.l]; rfl, List.nodup_append.mpr ⟨h.n, by simp, fun a ha b hb => by simp at hb; rw [hb]; exact fun z => hp (z ▸ ha)⟩, fun i q r' a b => ?_⟩
  by_cases hi : i < ps.length
  · rw [List.getElem?_append_left hi] at a
    rw [List.getElem?_append_left (h.l ▸ hi)] at b
    exact h.r i q r' a b
  · rw [List.getElem?_append_right (by omega)] at a
    rw [List.getElem?_append_right (by have := h.l; omega), ← h.l] at b
    cases hx : i - ps.length with
    | zero =>
      rw [hx] at a b
      simp at a b
      subst a b
      exact ⟨e, f⟩
    | succ k =>
      rw [hx] at a
      simp at a
def LcM (X : Cx) (elt tg iter : Expr) (scope : Scope) (σ : L2.St) (F H : Hp) (rows : List (List Int)) : Prop := ∃ (own : List (Str × Nat)) (g : TG) (tt : TT), X.calm = true ∧ X.N.Nodup ∧ BlkOk X.N X.env.scope scope own ∧
  (∀ (s : Shared) (H : Hp) (C : Addr) (cl : List (Str × Addr)) (fp : List Addr), PG (X.blk s H scope (compEnvC scope cl C X.env) fp) tg g) ∧ (∀ (s : Shared) (H : Hp) (C : Addr) (cl : List (Str × Addr)) (fp : List Addr), PTs (X.blk s H scope (compEnvC scope cl C X.env) fp) [] tt) ∧
  (∀ x, foldedSetIterable iter X.env x = pure x) ∧ ∀ F1 H1, Gw F H F1 H1 → ∀ Q : VK, (∀ p ps F2 H2, Gw F1 H1 F2 H2 → H1 p = none → F2 p = none → H2 p = some (.lst (ps.map V.ref)) → HM F2 H2 ps rows → p ∉ ps → (∀ q ∈ ps, H1 q = none) → Q (.ref p) H2) → tLc (WI X tg iter) g tt (teB X scope elt) (own.map (·.2)) σ H1 Q
theorem lm_N {X : Cx} {σ : L2.St} {F H : Hp} {γ : Type} {p : Pos} {pr : γ → Pr} [∀ x, Mn (pr x)] {xs : List γ} {iter elt : Expr} {scope : Scope} {own : List (Str × Nat)} {i : Nat} {x : Str} (y : γ → List Int)
    (hw : Wk X (.Name x p) iter σ F H pr xs) (hz : xs.length ≤ sizeLine) (hc : X.calm = true) (hN : X.N.Nodup) (ok : BlkOk X.N X.env.scope scope own)
    (hwp : ∀ v, wipe ((wipe σ (own.map (·.2))).set i (some v)) (own.map (·.2)) = wipe σ (own.map (·.2)))
    (he : ∀ z, z ∈ xs → ∀ v F1 H1, Gw F H F1 H1 → pr z v F1 → ∀ (s : Shared) (H' : Hp) (C : Addr) (cl : List (Str × Addr)) (fp : List Addr), EvN (X.blk s H' scope (compEnvC scope cl C X.env) fp) elt ((wipe σ (own.map (·.2))).set i (some v)) F1 H1 pI (y z))
    (hg : ∀ (s : Shared) (H : Hp) (C : Addr) (cl : List (Str × Addr)) (fp : List Addr), PG (X.blk s H scope (compEnvC scope cl C X.env) fp) (.Name x p) (gName i)) (hs : ∀ x, foldedSetIterable iter X.env x = pure x := by intro _; rfl) : LcM X elt (.Name x p) iter scope σ F H (xs.map y) := by
  refine ⟨own, gName i, _, hc, hN, ok, hg, fun _ _ _ _ _ => pts_nil, hs, fun F1 H1 g1 Q q => ?_⟩
  refine hw F1 H1 g1 _ fun J F2 H2 g2 src => ?_
  intro D hD
  have fD : F2 D = none := g2.s.free hD
  refine ⟨fun i m Hc => m = xs.length - i ∧ i ≤ xs.length ∧ ∃ F3 ps, Gw F2 H2 F3 Hc ∧ F3 D = none ∧ Hc D = some (.lst (ps.map V.ref)) ∧ HM F3 Hc ps ((xs.take i).map y) ∧ D ∉ ps ∧ ∀ q ∈ ps, H2 q = none,
    ⟨xs.length, by omega, Nat.zero_le _, F2, [], Gw.prv g2.s hD, fD, upd_same, ⟨rfl, List.nodup_nil, fun i q r a => by simp at a⟩, List.not_mem_nil, fun q hq => by cases hq⟩, ?_⟩
  rintro i m Hc ⟨rfl, hi, F3, ps, g3, f3, h3, hm, dn, pn⟩
  obtain ⟨hstop, hgo⟩ := src F3 Hc g3.f g3.s
  by_cases hlt : i < xs.length
  · obtain ⟨x, hx⟩ : ∃ x, xs[i]? = some x := ⟨xs[i], List.getElem?_eq_getElem hlt⟩
    have hmem : x ∈ xs := List.mem_of_getElem? hx
    obtain ⟨go, hy⟩ := hgo i x hx
    refine .inr ⟨go, fun H' => ∃ F' ps', Gw F2 H2 F' H' ∧ F' D = none ∧ H' D = some (.lst (ps'.map V.ref)) ∧ HM F' H' ps' ((xs.take (i + 1)).map y) ∧ D ∉ ps' ∧ ∀ q ∈ ps', H2 q = none,
      fun H' ⟨F', ps', a1, a2, a3, a4, a5, a6⟩ => ⟨xs.length - (i + 1), by omega, rfl, hlt, F', ps', a1, a2, a3, a4, a5, a6⟩, fun v H4 hv => ?_⟩
    obtain ⟨F4, g4, pv⟩ := hy v H4 hv
    refine ⟨hwp v, ?_⟩
    have g04 : Gw F H F4 H4 := g1.trans (g2.trans (g3.trans g4))
    have e4 := g4.own h3 f3
    unfold tYes
    dsimp only
    rw [if_pos rfl]
    intro s H' C cl fp
    refine he x hmem v F4 H4 g04 pv s H' C cl fp F4 H4 (Gw.refl g4.s) _ fun w ws F6 H6 g6 n1 n2 e6 r6 => ?_
    have ev := r6.ints
    subst ev
    have e6' := g6.own e4.1 e4.2
    have wD : w ≠ D := fun z => by rw [z, e4.1] at n1; cases n1
    have hm6 := (hm.up g4).up g6
    have wn : w ∉ ps := fun hw' => by
      obtain ⟨j, hj⟩ := List.getElem?_of_mem hw'
      obtain ⟨hjl, _⟩ := List.getElem?_eq_some_iff.mp hj
      rw [hm.l] at hjl
      have := ((hm.up g4).r j w _ hj (List.getElem?_eq_getElem hjl)).1
      rw [n1] at this
      cases this
    have gg : Gw F2 H2 F6 (upd H6 D (.lst (ps.map V.ref ++ [.ref w]))) := (g3.trans (g4.trans g6)).mut hD e6'.2
    refine ⟨ps.map V.ref, e6'.1, by rw [List.length_map, hm.l, List.length_map, List.length_take]; omega, F6, ps ++ [w], gg, e6'.2, by rw [upd_same, List.map_append]; rfl, ?_, ?_, ?_⟩
    · have e7 : (xs.take (i + 1)).map y = (xs.take i).map y ++ [y x] := by rw [List.take_add_one, hx, List.map_append]; rfl
      rw [e7]
      have base : HM F6 (upd H6 D (.lst (ps.map V.ref ++ [.ref w]))) ps ((xs.take i).map y) := ⟨hm6.l, hm6.n, fun j q r a b => by
        have := hm6.r j q r a b
        refine ⟨?_, this.2⟩
        rw [upd_ne fun z => dn (by rw [← z]; exact List.mem_of_getElem? a)]
        exact this.1⟩
      exact base.snoc wn (by rw [upd_ne wD]; exact e6) n2
    · intro z
      rcases List.mem_append.mp z with z | z
      · exact dn z
      · simp at z
        exact wD z.symm
    · intro q hq
      rcases List.mem_append.mp hq with z | z
      · exact pn q z
      · simp at z
        rw [z]
        cases hh : H2 w with
        | none => rfl
        | some o =>
          have := (g3.trans g4).h _ _ hh
          rw [n1] at this
          cases this
  · have hin : i = xs.length := by omega
    subst hin
    rw [List.take_length] at hm
    exact .inl ⟨hstop, q D ps F3 Hc (g2.trans g3) (g2.new hD) f3 h3 hm dn fun z hz => g2.new (pn z hz)⟩
section
variable {X : Cx} {rest : List Stmt} {e o ie je elt tg iter : Expr} {scope : Scope} {σ : L2.St} {F H F1 H1 : Hp} {P : Pr} {G : GE} {pos p : Pos} {rows : List (List Int)} {ps : List Addr} {q l : Addr}
theorem x_setLcM (i : Nat) {x : Str} {py spos : Pos} (he : LcM X elt tg iter scope σ F H rows)
    (k : ∀ l ps F1 H1, Gw F H F1 H1 → H l = none → F1 l = none → H1 l = some (.lst (ps.map V.ref)) → HM F1 H1 ps rows → l ∉ ps → (∀ q ∈ ps, H q = none) → Sx X rest (σ.set i (some (.ref l))) F1 H1 G) (s : Same F H) (hi : X.N[i]? = some x := by rfl)
    (hyl : X.env.scope.names.lookup x = some .local := by rfl) (hsw : swapsWith (.ListComp elt [⟨tg, iter, [], 0⟩] scope pos) (some (.Name x py)) spos.line X.env = pure true := by rfl) : Sx X (.Assign [.Name x py] (.ListComp elt [⟨tg, iter, [], 0⟩] scope pos) spos :: rest) σ F H G := by
  obtain ⟨own, g, tt, hc, hN, ok, hg, ht, hs, kk⟩ := he
  exact wss (pss_cons (ps_setLc (te := teB X scope elt) hc hN hi hyl hsw pi_w ok hg ht (fun s H' C cl fp => ⟨fun pins s2 σ2 H2 Q2 I h => h s H' C cl fp pins s2 I⟩) hs) pss_w) (kk F H (Gw.refl s) (fun v H1 => gName i v σ H1 fun σ2 H2 => WSs X rest G.ends σ2 H2) fun l ps F1 H1 g1 n1 n2 e3 hm dn pn => k l ps F1 H1 g1 n1 n2 e3 hm dn pn)
theorem x_setLcM2 (i : Nat) {x : Str} {py spos : Pos} (he : LcM X elt tg iter scope σ F H rows)
    (k : ∀ l ps F1 H1, Gw F H F1 H1 → H l = none → F1 l = none → H1 l = some (.lst (ps.map V.ref)) → HM F1 H1 ps rows → l ∉ ps → (∀ q ∈ ps, H q = none) → Sx X rest (σ.set i (some (.ref l))) F1 H1 G) (s : Same F H) (hi : X.N[i]? = some x := by rfl)
    (hx : Loc X.env.scope x := by first | exact Or.inl rfl | exact Or.inr rfl) (hsw : swapsWith (.ListComp elt [⟨tg, iter, [], 0⟩] scope pos) (some (.Name x py)) spos.line X.env = pure false := by rfl) (hf : X.fn x = true ∨ X.env.scope.names.lookup x = some .local := by first | exact .inl rfl | exact .inr rfl) : Sx X (.Assign [.Name x py] (.ListComp elt [⟨tg, iter, [], 0⟩] scope pos) spos :: rest) σ F H G := by
  obtain ⟨own, g, tt, hc, hN, ok, hg, ht, hs, kk⟩ := he
  refine wss (pss_cons (ps_set hN hi hx pe_w hsw hf) pss_w) ?_
  exact we (pe_lc hc hN pi_w ok hg ht (fun s H' C cl fp => ⟨fun pins s2 σ2 H2 Q2 I h => h s H' C cl fp pins s2 I⟩) hs) (kk F H (Gw.refl s) (fun v H1 => gName i v σ H1 fun σ2 H2 => WSs X rest G.ends σ2 H2) fun l ps F1 H1 g1 n1 n2 e3 hm dn pn => k l ps F1 H1 g1 n1 n2 e3 hm dn pn)
/-- o[i][j] = e: the row at q is written -/
theorem x_setIJ [Mn P] {vs : List V} {nj : Int} {j : Nat} {q1 q2 : Pos} (he : Ev X e σ F H P) (ho : ∀ F1 H1, Gw F H F1 H1 → Ev X (.Subscript o ie q1) σ F1 H1 (pIs (.ref q))) (hj : ∀ F1 H1, Gw F H F1 H1 → Ev X je σ F1 H1 (pI nj)) (hq : H q = some (.lst vs)) (fq : F q = none) (hx : ixN vs.length nj = some j)
    (k : ∀ v F1 H1, Gw F H F1 H1 → P v F1 → Sx X rest σ F1 (upd H1 q (.lst (vs.set j v))) G) (s : Same F H)
    (ha : ∀ v, assign (.Subscript (.Subscript o ie q1) je q2) X.env v = (do
      let ov ← holding [v] (eval (.Subscript o ie q1) X.env)
      let iv ← holding [v, ov] (eval je X.env)
      standAt q2
      holding [v, ov, iv] (setItem ov iv v)
      release [v, ov, iv] []) := by intro _; rfl) (hs : swapsWithSole [.Subscript (.Subscript o ie q1) je q2] e pos.line X.env = pure false := by rfl) (hw : swappedStores [.Subscript (.Subscript o ie q1) je q2] e X.env = pure none := by rfl)
    (h1 : (assignEach [.Subscript (.Subscript o ie q1) je q2] X.env).map (·.2) = [assign (.Subscript (.Subscript o ie q1) je q2) X.env] := by rfl) : Sx X (.Assign [.Subscript (.Subscript o ie q1) je q2] e pos :: rest) σ F H G :=
  wss (pss_cons (ps_asg pe_w (pg_sub pe_w pe_w set_list ha) hs hw h1) pss_w) (he F H (Gw.refl s) _ fun v F1 H1 g1 pv => ho F1 H1 g1 F1 H1 (Gw.refl g1.s) _ fun w F2 H2 g2 pw => hj F2 H2 (g1.trans g2) F2 H2 (Gw.refl g2.s) _ fun u F3 H3 g3 pu => by
    cases pw
    have e3 := (g1.trans (g2.trans g3)).own hq fq
    exact ⟨q, vs, nj, j, rfl, pu, e3.1, hx, k v F3 H3 (g1.trans (g2.trans g3)) (Mn.mono _ _ _ (g2.f.trans g3.f) pv)⟩)
theorem HM.set {i j : Nat} {r : List Int} {x : Int} (h : HM F H ps rows) (hi : ps[i]? = some q) (hr : rows[i]? = some r) : HM F (upd H q (.lst ((r.set j x).map V.int))) ps (rows.set i (r.set j x)) := by
  refine ⟨by rw [List.length_set]; exact h.l, h.n, fun k q' r' a b => ?_⟩
  by_cases z : i = k
  · subst z
    rw [hi] at a
    cases a
    rw [List.getElem?_set_self (List.getElem?_eq_some_iff.mp hr).1] at b
    cases b
    exact ⟨upd_same, (h.r i q r hi hr).2⟩
  · rw [List.getElem?_set_ne z] at b
    have := h.r k q' r' a b
    refine ⟨?_, this.2⟩
    rw [upd_ne fun e => z ?_]
    · exact this.1
    · subst e
      obtain ⟨l1, e1⟩ := List.getElem?_eq_some_iff.mp hi
      obtain ⟨l2, e2⟩ := List.getElem?_eq_some_iff.mp a
      exact (List.getElem_inj h.n).mp (e1.trans e2.symm)
theorem HM.at {i : Nat} {r : List Int} (h : HM F H ps rows) (hr : rows[i]? = some r) : ∃ q, ps[i]? = some q ∧ H q = some (.lst (r.map V.int)) ∧ F q = none ∧ q ∈ ps := by
  have hi : i < ps.length := by rw [h.l]; exact (List.getElem?_eq_some_iff.mp hr).1
  have e := List.getElem?_eq_getElem hi
  exact ⟨ps[i], e, (h.r i _ r e hr).1, (h.r i _ r e hr).2, List.getElem_mem hi⟩
theorem HM.off {ob : HO} (h : HM F H ps rows) (hl : l ∉ ps) : HM F (upd H l ob) ps rows := ⟨h.l, h.n, fun i q r a b => by
  have := h.r i q r a b
  rw [upd_ne fun e => hl (by rw [← e]; exact List.mem_of_getElem? a)]
  exact this⟩
/-- all is frozen -/
theorem HM.rows_pub {F0 H0 : Hp} : ∀ {ps : List Addr} {rows : List (List Int)} {F H : Hp}, Gw F0 H0 F H → HM F H ps rows → (∀ q ∈ ps, H0 q = none) → ∃ F2, Gw F0 H0 F2 H ∧ Same F F2 ∧ AllP pR (ps.map V.ref) rows F2 ∧ ∀ a, a ∉ ps → F2 a = F a
  | [], rows, F, H, g, hm, _ => by
    have : rows = [] := List.length_eq_zero_iff.mp hm.l.symm
    subst this
    exact ⟨F, g, Same.refl _, AllP.nil, fun _ _ => rfl⟩
  | p :: ps, [], F, H, g, hm, _ => nomatch hm.l
  | p :: ps, r :: rows, F, H, g, hm, hn => by
    have h0 := hm.r 0 p r rfl rfl
    have hnd := List.nodup_cons.mp hm.n
    have g1 := g.frz (hn p List.mem_cons_self) h0.2 h0.1
    have hm1 : HM (upd F p (.lst (r.map V.int))) H ps rows := ⟨Nat.succ.inj hm.l, hnd.2, fun i q r' a b => by
      have := hm.r (i + 1) q r' (by simpa using a) (by simpa using b)
      refine ⟨this.1, ?_⟩
      rw [upd_ne fun e => hnd.1 (by rw [← e]; exact List.mem_of_getElem? a)]
      exact this.2⟩
    obtain ⟨F2, g2, s2, r2, off⟩ := HM.rows_pub g1 hm1 fun q hq => hn q (List.mem_cons_of_mem _ hq)
    refine ⟨F2, g2, (same_new h0.2).trans s2, ?_, fun a ha => ?_⟩
    · rw [List.map_cons]
      exact AllP.cons ⟨p, r.map V.int, rfl, s2 _ _ upd_same, allP_ints⟩ r2
    · rw [off a fun z => ha (List.mem_cons_of_mem _ z), upd_ne fun z => ha (by rw [z]; exact List.mem_cons_self)]
theorem HM.pub {F0 H0 : Hp} (g : Gw F0 H0 F H) (hm : HM F H ps rows) (hn : ∀ q ∈ ps, H0 q = none) (hl : H l = some (.lst (ps.map V.ref))) (fl : F l = none) (nl : H0 l = none) (dl : l ∉ ps) : ∃ F2, Gw F0 H0 F2 H ∧ Same F F2 ∧ pM rows (.ref l) F2 := by
  obtain ⟨F2, g2, s2, r2, off⟩ := hm.rows_pub g hn
  have f2 : F2 l = none := by rw [off l dl]; exact fl
  exact ⟨_, g2.frz nl f2 hl, s2.trans (same_new f2), l, _, rfl, upd_same, r2.up (same_new f2)⟩
end
end K24
set_option Elab.async false
set_option linter.all false
set_option maxRecDepth 100000
set_option maxHeartbeats 4000000
set_option autoImplicit false
namespace K24
open PySem PySem.Spec PyProof.Rows L2
open PySem.W (Datum DatumOrd Holds HoldAll Tup)
section
variable {P : Program} {w : World} {K : PySem.W.Frag} {mg : Str → Option Value} {base : Heap}


theorem atI_in {α : Type} {xs : List α} {i : Int} (d : α) (h0 : 0 ≤ i) (h1 : i < xs.length) : atI xs i = some (xs.getD i.toNat d) := by
  have h2 : i.toNat < xs.length := by omega
  obtain ⟨n, rfl⟩ : ∃ n : Nat, i = n := ⟨i.toNat, by omega⟩
  have h3 : n < xs.length := by omega
  unfold atI
  have e : ixN xs.length (n : Int) = some n := by
    unfold ixN
    rw [if_pos (by omega), if_pos (by omega), Int.toNat_natCast]
  rw [e]
  show xs[n]? = _
  rw [List.getElem?_eq_getElem h3, Int.toNat_natCast, List.getD_eq_getElem?_getD, List.getElem?_eq_getElem h3]
  rfl
theorem ixNat {n j : Nat} (hj : j < n) : ixN n (j : Int) = some j := by
  unfold ixN
  rw [if_pos (by omega), if_pos (by omega), Int.toNat_natCast]
def less (r : List Int) (k : Int) (q : List Int) : List Int := (r.zip q).map fun z => z.1 - k * z.2
def c_times_row : Con := fun vs F R => ∃ k v r, vs = [.int k, v] ∧ pR r v F ∧ k.natAbs < 2 ^ 64 ∧ r.length ≤ sizeLine ∧ R = pR (r.map (k * ·))

theorem sc_times_row : FnScope ["k", "row", "x"] ["k", "row"] d_times_row.scope := ⟨rfl, rfl, rfl, by decide +kernel, rfl, by decide +kernel, by decide +kernel⟩
theorem ok_times_row (T : Tx K mg) : FnD P w K mg base 1 "_times_row" (spP c_times_row) :=
  mk_fn T (d := d_times_row) 0 0 rfl rfl rfl rfl rfl sc_times_row (fun _ _ _ _ _ _ us hl => match us, hl with | [_, _], _ => rfl) (fun vs F P h => by obtain ⟨_, _, _, e, _⟩ := h; rw [e]; rfl) fun cdv A outer s H E hr vs F R sm hc => by
    obtain ⟨k, v, r, rfl, hv, hk, hz, rfl⟩ := hc
    refine x_ret (en_lc (own := [("x", 2)]) (i := 2) (f := pI) (fun z => k * z) (wk_L (ev_v 1 rfl hv)) hz rfl sc_times_row.nd (blkOk_by (N := ["k", "row", "x"]) (sc := d_times_row.scope) (by decide +kernel)) (fun _ => rfl)
      (fun z hz v F1 H1 g pv s H' C cl fp => ev_mul (ev_v 0 rfl rfl) (ev_v 2 rfl pv) (CMul.l hk)) (fun _ _ _ _ _ => pg_name (i := 2) sc_times_row.nd rfl (.inl rfl))).ev (fun v F1 H1 g p => ⟨g, p⟩) sm


def c_less : Con := fun vs F R => ∃ k a b r q, vs = [a, .int k, b] ∧ pR r a F ∧ pR q b F ∧ k.natAbs < 2 ^ 64 ∧ r.length ≤ sizeLine ∧ R = pR (less r k q)

theorem sc_less : FnScope ["row", "k", "other", "x", "y"] ["row", "k", "other"] d_less.scope := ⟨rfl, rfl, rfl, by decide +kernel, rfl, by decide +kernel, by decide +kernel⟩
theorem ok_less (T : Tx K mg) : FnD P w K mg base 1 "_less" (spP c_less) :=
  mk_fn T (d := d_less) 1 1 rfl rfl rfl rfl rfl sc_less (fun _ _ _ _ _ _ us hl => match us, hl with | [_, _, _], _ => rfl) (fun vs F P h => by obtain ⟨_, _, _, _, _, e, _⟩ := h; rw [e]; rfl) fun cdv A outer s H E hr vs F R sm hc => by
    obtain ⟨k, a, b, r, q, rfl, ha, hb, hk, hz, rfl⟩ := hc
    have hzz : (r.zip q).length ≤ sizeLine := by
      rw [List.length_zip]
      exact Nat.le_trans (Nat.min_le_left _ _) hz
    refine x_ret (en_lcP (own := [("x", 3), ("y", 4)]) (i := 3) (j := 4) (f := pI) (fun z => z.1 - k * z.2) (wk_zipL T.n_zip (ev_v 0 rfl ha) (ev_v 2 rfl hb)) hzz rfl sc_less.nd (blkOk_by (N := ["row", "k", "other", "x", "y"]) (sc := d_less.scope) (by decide +kernel)) (fun _ _ => rfl)
      (fun z z2 hm v w F1 H1 g pv pw s H' C cl fp => ev_sub (ev_v 3 rfl pv) (ev_mul (ev_v 1 rfl rfl) (ev_v 4 rfl pw) (CMul.l hk)))
      (fun _ _ _ _ _ => pg_tup rfl (pgs_cons (pg_name (i := 3) sc_less.nd rfl (.inl rfl)) (pgs_cons (pg_name (i := 4) sc_less.nd rfl (.inl rfl)) pgs_nil)))).ev (fun v F1 H1 g p => ⟨g, p⟩) sm


def turned (m : List (List Int)) (w : Nat) : List (List Int) := (rng 0 w).map fun k => m.map fun r => r.getD k.toNat 0
def c_turned : ConN := fun vs F R => ∃ a m n, vs = [a, .int (n : Nat)] ∧ pM m a F ∧ (∀ r ∈ m, n ≤ r.length) ∧ m.length ≤ sizeLine ∧ n ≤ 1000 ∧ R = fun ws F' => AllP pR ws (turned m n) F'

theorem sc_turned : FnScope ["rows", "width", "k", "row"] ["rows", "width"] d_turned.scope := ⟨rfl, rfl, rfl, by decide +kernel, rfl, by decide +kernel, by decide +kernel⟩
theorem ok_turned (T : Tx K mg) : FnD P w K mg base 1 "_turned" (spN c_turned) :=
  mk_fnN T (d := d_turned) 3 3 rfl rfl rfl rfl rfl sc_turned (fun _ _ _ _ _ _ us hl => match us, hl with | [_, _], _ => rfl) (fun vs F P h => by obtain ⟨_, _, _, e, _⟩ := h; rw [e]; rfl) fun cdv A outer s H E hr vs F R sm hc => by
    obtain ⟨a, m, n, rfl, ha, hw, hz, hn, rfl⟩ := hc
    refine x_retN (en_lc (own := [("k", 2)]) (i := 2) (f := pR) (fun k : Int => m.map fun r : List Int => r.getD k.toNat 0) (wk_rng1 T.n_range (ev_v 1 rfl rfl) (by omega) (by omega)) (by rw [rng_len, sizeLine_eq]; omega) rfl sc_turned.nd (blkOk_by (N := ["rows", "width", "k", "row"]) (sc := d_turned.scope) (by decide +kernel)) (fun _ => rfl)
      (fun z hz v F1 H1 g pv s H' C cl fp => (en_lc (own := [("row", 3)]) (i := 3) (f := pI) (fun r : List Int => r.getD z.toNat 0) (wk_L (f := pR) (ev_v 0 rfl (Mn.mono _ _ _ g.f ha))) ‹_› rfl sc_turned.nd (blkOk_by (N := ["rows", "width", "k", "row"]) (sc := _) (by kernel_rfl)) (fun _ => rfl)
        (fun r hr v2 F2 H2 g2 pv2 s2 H2' C2 cl2 fp2 => ev_ixL (ev_v 3 rfl pv2) (ev_v 2 rfl pv) (atI_in 0 (mem_rng.mp hz).1 (by have := (mem_rng.mp hz).2; have := hw r hr; omega)))
        (fun _ _ _ _ _ => pg_name (i := 3) sc_turned.nd rfl (.inl rfl))).ev) (fun _ _ _ _ _ => pg_name (i := 2) sc_turned.nd rfl (.inr rfl))) (fun l vs F1 H1 g1 n1 n2 e3 r => ⟨l, vs, rfl, g1, n1, n2, e3, r⟩) sm


def swapL {α : Type} (xs : List α) (i k : Nat) : List α := match xs[i]?, xs[k]? with
  | some a, some b => (xs.set i b).set k a
  | _, _ => xs
def c_swap : ConN := fun vs F R => ∃ a i k ws, vs = [.ref a, .int (i : Nat), .int (k : Nat)] ∧ F a = some (.lst ws) ∧ i < ws.length ∧ k < ws.length ∧ R = fun us F' => us = swapL ws i k

theorem sc_swap : FnScope ["rows", "i", "k", "out", "row"] ["rows", "i", "k"] d_swap.scope := ⟨rfl, rfl, rfl, by decide +kernel, rfl, by decide +kernel, by decide +kernel⟩
theorem ok_swap (T : Tx K mg) : FnD P w K mg base 1 "_swap" (spN c_swap) :=
  mk_fnN T (d := d_swap) 4 4 rfl rfl rfl rfl rfl sc_swap (fun _ _ _ _ _ _ us hl => match us, hl with | [_, _, _], _ => rfl) (fun vs F P h => by obtain ⟨_, _, _, _, e, _⟩ := h; rw [e]; rfl) fun cdv A outer s H E hr vs F R sm hc => by
    obtain ⟨a, i, k, ws, rfl, ha, hi, hk, rfl⟩ := hc
    refine x_setN 3 (f := pIs) (en_listS T.n_list (ev_v 0 rfl ⟨a, ws, rfl, .inl ha, rfl, fun i v x p q => by rw [p] at q; exact Option.some.inj q⟩)) (fun l vs F1 H1 g1 n1 n2 e3 r => ?_) sm sc_swap.nd
    obtain rfl : vs = ws := List.ext_getElem? fun j => by
      cases q : ws[j]? with
      | none => rw [List.getElem?_eq_none_iff, r.1]; exact List.getElem?_eq_none_iff.mp q
      | some x => obtain ⟨v, e1, e2⟩ := r.get q; cases (show v = x from e2); exact e1
    have ei : atI vs (i : Int) = some vs[i] := atI_nat (List.getElem?_eq_getElem hi)
    have ek : atI vs (k : Int) = some vs[k] := atI_nat (List.getElem?_eq_getElem hk)
    refine x_set 4 (P := pIs vs[i]) (ev_ixO (ev_v 3 rfl rfl) (ev_v 1 rfl rfl) e3 ei rfl) (fun v F2 H2 g2 p2 => ?_) g1.s sc_swap.nd
    cases p2
    have o2 := g2.own e3 n2
    refine x_setI (P := pIs vs[k]) (j := i) (ev_ixO (ev_v 3 rfl rfl) (ev_v 2 rfl rfl) o2.1 ek rfl) (ev_v 3 rfl rfl) (ev_v 1 rfl rfl) o2.1 o2.2 (ixNat hi) (fun v F3 H3 g3 p3 => ?_) g2.s
    cases p3
    have o3 := g3.own o2.1 o2.2
    have g13 : Gw F H F3 (upd H3 l (.lst (vs.set i vs[k]))) := (g1.trans (g2.trans g3)).mut n1 o3.2
    refine x_setI (P := pIs vs[i]) (j := k) (ev_v 4 rfl rfl) (ev_v 3 rfl rfl) (ev_v 2 rfl rfl) upd_same o3.2 (ixNat (by rw [List.length_set]; exact hk)) (fun v F4 H4 g4 p4 => ?_) g13.s
    cases p4
    have o4 := g4.own upd_same o3.2
    have g14 := (g13.trans g4).mut n1 o4.2 (o := .lst ((vs.set i vs[k]).set k vs[i]))
    refine x_ret (P := pIs (.ref l)) (ev_v 3 rfl rfl) (fun v F5 H5 g5 p5 => ?_) g14.s
    cases p5
    have o5 := g5.own upd_same o4.2
    refine ⟨l, _, rfl, g14.trans g5, n1, o5.2, o5.1, ?_⟩
    unfold swapL
    rw [List.getElem?_eq_getElem hi, List.getElem?_eq_getElem hk]


theorem swapL_all {α : Type} {f : α → Pr} {vs : List V} {xs : List α} {F : Hp} (r : AllP f vs xs F) (i k : Nat) (hi : i < xs.length) (hk : k < xs.length) : AllP f (swapL vs i k) (swapL xs i k) F := by
  obtain ⟨v, hv, pv⟩ := r.get (List.getElem?_eq_getElem hi)
  obtain ⟨u, hu, pu⟩ := r.get (List.getElem?_eq_getElem hk)
  unfold swapL
  rw [hv, hu, List.getElem?_eq_getElem hi, List.getElem?_eq_getElem hk]
  exact (r.set i pu).set k pv
theorem en_swap {X : Cx} {e1 e2 e3 : Expr} {σ : L2.St} {F H : Hp} {α : Type} {f : α → Pr} [∀ x, Mn (f x)] {xs : List α} {i k n : Nat} {pos p : Pos} (D : FnD X.prog X.w X.K X.mg X.base n "_swap" (spN c_swap)) (hr : Room n X.A) (h1 : Ev X e1 σ F H (pL f xs)) (h2 : Ev X e2 σ F H (pI (i : Nat))) (h3 : Ev X e3 σ F H (pI (k : Nat)))
    (hi : i < xs.length) (hk : k < xs.length) (hg : Gl X "_swap" := by rfl) (hs : starEach [e1, e2, e3] X.env = (false, eval e1 X.env) :: starEach [e2, e3] X.env := by rfl) (hs2 : starEach [e2, e3] X.env = (false, eval e2 X.env) :: starEach [e3] X.env := by rfl) (hs3 : starEach [e3] X.env = (false, eval e3 X.env) :: starEach [] X.env := by rfl)
    (hpl : (backTo pos (starEach [e2, e3] X.env)).any (·.1) = false := by rfl) : EvN X (.Call (.Name "_swap" p) [e1, e2, e3] [] pos) σ F H f (swapL xs i k) := fun F1 H1 g1 Q q => by
  obtain ⟨fa, fd, ps, D1, D2, D3, D4⟩ := D.ex
  refine we (pe_call D1 hr hg D2 D3 D4 .nil pass0 pa_w (by decide) hs hpl) (ea_cons h1 (ea_cons h2 (ea_one h3 hs3) hs2) hs F1 H1 g1 _ fun vs F2 H2 g2 pv => ?_)
  obtain ⟨v1, _, rfl, ⟨a, ws, ea, hF, rr⟩, v2, _, rfl, e2, v3, _, rfl, e3, en⟩ := pv
  cases en
  cases e2
  cases e3
  subst ea
  rw [List.append_nil]
  refine ⟨F2, fun us F' => us = swapL ws i k, g2.s, ⟨a, i, k, ws, rfl, hF, by rw [rr.1]; exact hi, by rw [rr.1]; exact hk, rfl⟩, fun p us F3 H3 g3 n1 n2 e3 p3 => ?_⟩
  subst p3
  exact q p _ F3 H3 (g2.trans g3) (g2.new n1) n2 e3 ((swapL_all rr i k hi hk).up g3.f)
def c_swap_items : ConN := fun vs F R => ∃ a i k m, vs = [a, .int (i : Nat), .int (k : Nat)] ∧ pM m a F ∧ (∀ r ∈ m, i < r.length ∧ k < r.length) ∧ m.length ≤ sizeLine ∧ R = fun us F' => AllP pR us (m.map fun r => swapL r i k) F'

theorem sc_swap_items : FnScope ["rows", "i", "k", "row"] ["rows", "i", "k"] d_swap_items.scope := ⟨rfl, rfl, rfl, by decide +kernel, rfl, by decide +kernel, by decide +kernel⟩
theorem ok_swap_items (T : Tx K mg) : FnD P w K mg base 2 "_swap_items" (spN c_swap_items) :=
  mk_fnN T (d := d_swap_items) 5 5 rfl rfl rfl rfl rfl sc_swap_items (fun _ _ _ _ _ _ us hl => match us, hl with | [_, _, _], _ => rfl) (fun vs F P h => by obtain ⟨_, _, _, _, e, _⟩ := h; rw [e]; rfl) fun cdv A outer s H E hr vs F R sm hc => by
    obtain ⟨a, i, k, m, rfl, ha, hm, hz, rfl⟩ := hc
    refine x_retN (en_lc (own := [("row", 3)]) (i := 3) (f := pR) (fun r : List Int => swapL r i k) (wk_L (ev_v 0 rfl ha)) hz rfl sc_swap_items.nd (blkOk_by (N := ["rows", "i", "k", "row"]) (sc := d_swap_items.scope) (by decide +kernel)) (fun _ => rfl)
      (fun r hmr v F1 H1 g pv s H' C cl fp => EvN.ev (en_swap (ok_swap T) (by exact hr) (ev_v 3 rfl pv) (ev_v 1 rfl rfl) (ev_v 2 rfl rfl) (hm r hmr).1 (hm r hmr).2))
      (fun _ _ _ _ _ => pg_name (i := 3) sc_swap_items.nd rfl (.inl rfl))) (fun l vs F1 H1 g1 n1 n2 e3 r => ⟨l, vs, rfl, g1, n1, n2, e3, r⟩) sm

end
end K24
set_option Elab.async false
set_option linter.all false
set_option maxRecDepth 100000
set_option maxHeartbeats 4000000
set_option autoImplicit false
namespace K24
open PySem PySem.Spec PyProof.Rows L2
open PySem.W (Datum DatumOrd Holds HoldAll Tup)
section
variable {P : Program} {w : World} {K : PySem.W.Frag} {mg : Str → Option Value} {base : Heap}


theorem ty_app : typeOf (.builtin "list.append") = pure (.type "method_descriptor") := by rfl
theorem take_flat {α β : Type} {xs : List α} {f : α → List β} {i : Nat} {x : α} (h : xs[i]? = some x) : (xs.take (i + 1)).flatMap f = (xs.take i).flatMap f ++ f x := by
  rw [List.take_add_one, h, List.flatMap_append]
  simp
def at2 (m : List (List Int)) (i k : Int) : Int := (m.getD i.toNat []).getD k.toNat 0
/-- height h, each row w wide -/
structure Rect (m : List (List Int)) (h w : Nat) : Prop where
  h : m.length = h
  w : ∀ r ∈ m, r.length = w
theorem Rect.row {m : List (List Int)} {h w : Nat} (R : Rect m h w) {i : Int} (h0 : 0 ≤ i) (h1 : i < h) : atI m i = some (m.getD i.toNat []) ∧ (m.getD i.toNat []).length = w := by
  have e := atI_in (xs := m) [] h0 (by rw [R.h]; exact h1)
  refine ⟨e, R.w _ ?_⟩
  have h2 : i.toNat < m.length := by rw [R.h]; omega
  rw [List.getD_eq_getElem?_getD, List.getElem?_eq_getElem h2]
  exact List.getElem_mem h2
theorem Rect.at {m : List (List Int)} {h w : Nat} (R : Rect m h w) {i k : Int} (h0 : 0 ≤ i) (h1 : i < h) (k0 : 0 ≤ k) (k1 : k < w) : atI (m.getD i.toNat []) k = some (at2 m i k) :=
  atI_in 0 k0 (by rw [(R.row h0 h1).2]; exact k1)
def sizesRow (m : List (List Int)) (s w : Int) (i : Int) : List (List Int) := ((rng s w).filter fun k => !decide (at2 m i k = 0)).map fun k => [((at2 m i k).natAbs : Int), i, k]
def sizesOf (m : List (List Int)) (s h w : Int) : List (List Int) := (rng s h).flatMap (sizesRow m s w)
def minTI : List (List Int) → List Int
  | [] => []
  | x :: xs => (PySem.W.minOf (Tup.mk x) (xs.map Tup.mk)).items
def leastPlace (m : List (List Int)) (s h w : Int) : Option (Int × Int) := match sizesOf m s h w with
  | [] => none
  | l => some ((minTI l).getD 1 0, (minTI l).getD 2 0)
def pPlace : Option (Int × Int) → Pr
  | none => pN
  | some z => pP (pI z.1) (pI z.2)
instance {z : Option (Int × Int)} : Mn (pPlace z) := by cases z <;> (unfold pPlace; infer_instance)
theorem rng_le (a b : Int) (h : b - a ≤ 1000) : (rng a b).length ≤ 1000 := by rw [rng_len]; omega
theorem sizesRow_le (m : List (List Int)) (s w i : Int) (h : w - s ≤ 1000) : (sizesRow m s w i).length ≤ 1000 := by
  unfold sizesRow
  rw [List.length_map]
  exact Nat.le_trans (List.length_filter_le _ _) (rng_le s w h)
theorem flat_le {α β : Type} {f : α → List β} {c : Nat} : ∀ {xs : List α}, (∀ x ∈ xs, (f x).length ≤ c) → (xs.flatMap f).length ≤ xs.length * c
  | [], _ => by simp
  | x :: xs, h => by
    rw [List.flatMap_cons, List.length_append, List.length_cons, Nat.succ_mul]
    have h1 := h x List.mem_cons_self
    have h2 := flat_le (xs := xs) fun y hy => h y (List.mem_cons_of_mem _ hy)
    omega
theorem free_T {α : Type} {f : α → Pr} {xs : List α} {vs : List V} (hf : ∀ {x}, Free (f x) vs) : Free (pT f xs) vs := fun l v F e ⟨a, ws, ev, h, rr⟩ =>
  ⟨a, ws, ev, by rw [rm_ne fun z => by rw [z, e] at h; cases h]; exact h, rr.1, fun i v x p q => hf l v F e (rr.2 i v x p q)⟩
theorem minOf_mem {α : Type} [DecidableEq α] [DatumOrd α] : ∀ (xs : List α) (x : α), PySem.W.minOf x xs ∈ x :: xs
  | [], x => List.mem_cons_self
  | y :: ys, x => by
    have e : PySem.W.minOf x (y :: ys) = PySem.W.minOf (if DatumOrd.lt y x = true then y else x) ys := rfl
    rw [e]
    have h := minOf_mem ys (if DatumOrd.lt y x = true then y else x)
    rcases List.mem_cons.mp h with h | h
    · rw [h]
      split
      · exact List.mem_cons_of_mem _ List.mem_cons_self
      · exact List.mem_cons_self
    · exact List.mem_cons_of_mem _ (List.mem_cons_of_mem _ h)
theorem minTI_mem (x : List Int) (xs : List (List Int)) : minTI (x :: xs) ∈ x :: xs := by
  have h := minOf_mem (xs.map Tup.mk) (Tup.mk x)
  have e : Tup.mk x :: xs.map Tup.mk = (x :: xs).map Tup.mk := rfl
  rw [e] at h
  obtain ⟨y, hy, e2⟩ := List.mem_map.mp h
  show (PySem.W.minOf (Tup.mk x) (xs.map Tup.mk)).items ∈ _
  rw [← e2]
  exact hy
theorem sizes_mem {m : List (List Int)} {s h w : Int} {z : List Int} : z ∈ sizesOf m s h w ↔ ∃ i k, s ≤ i ∧ i < h ∧ s ≤ k ∧ k < w ∧ at2 m i k ≠ 0 ∧ z = [((at2 m i k).natAbs : Int), i, k] := by
  unfold sizesOf sizesRow
  rw [List.mem_flatMap]
  constructor
  · rintro ⟨i, hi, hz⟩
    obtain ⟨k, hk, rfl⟩ := List.mem_map.mp hz
    rw [List.mem_filter] at hk
    have h1 := mem_rng.mp hi
    have h2 := mem_rng.mp hk.1
    refine ⟨i, k, h1.1, h1.2, h2.1, h2.2, ?_, rfl⟩
    simpa using hk.2
  · rintro ⟨i, k, h1, h2, h3, h4, h5, rfl⟩
    refine ⟨i, mem_rng.mpr ⟨h1, h2⟩, List.mem_map.mpr ⟨k, List.mem_filter.mpr ⟨mem_rng.mpr ⟨h3, h4⟩, by simpa using h5⟩, rfl⟩⟩
theorem sizes_len {m : List (List Int)} {s h w : Int} {x : List Int} {xs : List (List Int)} (e : sizesOf m s h w = x :: xs) : (minTI (x :: xs)).length = 3 := by
  have h1 := minTI_mem x xs
  rw [← e] at h1
  obtain ⟨i, k, _, _, _, _, _, e2⟩ := sizes_mem.mp h1
  rw [← e, e2]
  rfl
def c_least_place : Con := fun vs F R => ∃ a m s h w, vs = [a, .int (s : Nat), .int (h : Nat), .int (w : Nat)] ∧ pM m a F ∧ Rect m h w ∧ h ≤ 1000 ∧ w ≤ 1000 ∧ s ≤ 1000 ∧ R = pPlace (leastPlace m s h w)
theorem AllP.tis {vs : List V} {ls : List (List Int)} {F : Hp} (h : AllP pTI vs ls F) : AllP (fun t : Tup Int => pTI t.items) vs (ls.map Tup.mk) F := h.imp fun x v _ q => q

theorem sc_least_place : FnScope ["table", "start", "height", "width", "sizes", "i", "k", "found"] ["table", "start", "height", "width"] d_least_place.scope := ⟨rfl, rfl, rfl, by decide +kernel, rfl, by decide +kernel, by decide +kernel⟩
theorem ok_least_place (T : Tx K mg) : FnD P w K mg base 1 "_least_place" (spP c_least_place) :=
  mk_fn T (d := d_least_place) 2 2 rfl rfl rfl rfl rfl sc_least_place (fun _ _ _ _ _ _ us hl => match us, hl with | [_, _, _, _], _ => rfl) (fun vs F P h => by obtain ⟨_, _, _, _, _, e, _⟩ := h; rw [e]; rfl) fun cdv A outer s H E hr vs F R sm hc => by
    obtain ⟨a, m, s0, h, wd, rfl, ha, hm, hh, hw, hs0, rfl⟩ := hc
    refine x_setN 4 (f := pTI) (xs := []) en_nil (fun l vs F1 H1 g1 n1 n2 e3 r => ?_) sm sc_least_place.nd
    obtain rfl : vs = [] := List.length_eq_zero_iff.mp r.1
    let S : Option V → Option V → L2.St := fun oi ok => [some a, some (.int (s0 : Nat)), some (.int (h : Nat)), some (.int (wd : Nat)), some (.ref l), oi, ok, none]
    have lim : ∀ n, (((rng s0 h).take n).flatMap (sizesRow m s0 wd)).length ≤ 1000 * 1000 := fun n => by
      refine Nat.le_trans (flat_le fun x _ => sizesRow_le m s0 wd x (by omega)) (Nat.mul_le_mul (Nat.le_trans (List.length_take_le' _ _) (rng_le _ _ (by omega))) (Nat.le_refl _))
    refine x_forN (i := 5) (xs := rng s0 h) (pr := pI) (fun n σ1 F2 H2 => ∃ oi ok ws, σ1 = S oi ok ∧ Gw F H F2 H2 ∧ F2 l = none ∧ H2 l = some (.lst ws) ∧ AllP pTI ws (((rng s0 h).take n).flatMap (sizesRow m s0 wd)) F2)
      (wk_rng2 T.n_range (ev_v 1 rfl rfl) (ev_v 2 rfl rfl) (by omega)) (fun F2 H2 g2 => ⟨none, none, [], rfl, g1.trans g2, (g2.own e3 n2).2, (g2.own e3 n2).1, AllP.nil⟩) ?_ ?_ g1.s PassesOwn.never rfl sc_least_place.nd
    · rintro F0 n i σ1 F2 H2 hi s0' s2 ⟨oi, ok, ws, rfl, g2, f2, h2, r2⟩ v F3 H3 g3 pv
      cases pv
      have hi2 := mem_rng.mp (List.mem_of_getElem? hi)
      have o3 := g3.own h2 f2
      have g13 := g2.trans g3
      refine x_forN (i := 6) (xs := rng s0 wd) (pr := pI) (fun n2 σ1 F4 H4 => ∃ ok ws, σ1 = S (some (.int i)) ok ∧ Same F0 F4 ∧ Gw F H F4 H4 ∧ F4 l = none ∧ H4 l = some (.lst ws) ∧ AllP pTI ws (((rng s0 h).take n).flatMap (sizesRow m s0 wd) ++ (((rng s0 wd).take n2).filter fun k => !decide (at2 m i k = 0)).map fun k => [((at2 m i k).natAbs : Int), i, k]) F4)
        (wk_rng2 T.n_range (ev_v 1 rfl rfl) (ev_v 3 rfl rfl) (by omega)) (fun F4 H4 g4 => ⟨ok, ws, rfl, s0'.trans (g3.f.trans g4.f), g13.trans g4, (g4.own o3.1 o3.2).2, (g4.own o3.1 o3.2).1, by simpa using r2.up (g3.f.trans g4.f)⟩) ?_ ?_ g3.s PassesOwn.never rfl sc_least_place.nd
      · rintro F0' n2 k σ1 F4 H4 hk s0'' s4 ⟨ok, ws, rfl, s04, g4, f4, h4, r4⟩ v F5 H5 g5 pv
        cases pv
        have hk2 := mem_rng.mp (List.mem_of_getElem? hk)
        have o5 := g5.own h4 f4
        have g15 := g4.trans g5
        refine x_when (k := !decide (at2 m i k = 0)) (evt_ne (ev_ixL (ev_ixL (ev_v 0 rfl (Mn.mono _ _ _ g15.f ha)) (ev_v 5 rfl rfl) (hm.row (by omega) (by omega)).1) (ev_v 6 rfl rfl) (hm.at (by omega) (by omega) (by omega) (by omega))) ev_int) (fun hb F6 H6 g6 => ?_) (fun hb F6 H6 g6 => ?_) g5.s
        · have o6 := g6.own o5.1 o5.2
          have g16 := g15.trans g6
          refine x_app (P := pTI [((at2 m i k).natAbs : Int), i, k]) (l := l) (vs := ws) (ev_v 4 rfl rfl) (ev_tup3 (ev_abs T.n_abs (ev_ixL (ev_ixL (ev_v 0 rfl (Mn.mono _ _ _ g16.f ha)) (ev_v 5 rfl rfl) (hm.row (by omega) (by omega)).1) (ev_v 6 rfl rfl) (hm.at (by omega) (by omega) (by omega) (by omega)))) (ev_v 5 rfl rfl) (ev_v 6 rfl rfl)) o6.1 o6.2 ?_ (fun v F7 H7 g7 p7 => ?_) g6.s (pe_bm PySem.F.plainAttrs_list PySem.F.slot_list_append ty_app mt_append pe_w pa_w)
          · rw [r4.1, List.length_append, List.length_map]
            have q1 := lim n
            have q2 := Nat.le_trans (List.length_filter_le (fun k => !decide (at2 m i k = 0)) ((rng s0 wd).take n2)) (Nat.le_trans (List.length_take_le' _ _) (rng_le s0 wd (by omega)))
            rw [sizeLine_eq]
            omega
          · have o7 := g7.own o6.1 o6.2
            have g17 := (g16.trans g7).mut n1 o7.2 (o := .lst (ws ++ [v]))
            refine x_nil g17.s (x_nil g17.s ⟨s0''.trans (g5.f.trans (g6.f.trans g7.f)), some (.int k), ws ++ [v], rfl, s04.trans (g5.f.trans (g6.f.trans g7.f)), g17, o7.2, upd_same, ?_⟩)
            rw [take_filter_map hk, hb, if_pos rfl, ← List.append_assoc]
            exact (r4.up (g5.f.trans (g6.f.trans g7.f))).snoc p7
        · have o6 := g6.own o5.1 o5.2
          refine x_nil g6.s ⟨s0''.trans (g5.f.trans g6.f), some (.int k), ws, rfl, s04.trans (g5.f.trans g6.f), g15.trans g6, o6.2, o6.1, ?_⟩
          rw [take_filter_map hk, hb]
          simpa using r4.up (g5.f.trans g6.f)
      · rintro σ1 F4 H4 s4 ⟨ok, ws, rfl, s04, g4, f4, h4, r4⟩
        refine x_nil s4 ⟨s04, some (.int i), ok, ws, rfl, g4, f4, h4, ?_⟩
        rw [take_flat hi]
        rw [List.take_length] at r4
        exact r4
    · rintro σ1 F2 H2 s2 ⟨oi, ok, ws, rfl, g2, f2, h2, r2⟩
      rw [List.take_length] at r2
      refine x_when (k := decide ((ws.length : Int) = 0)) (evt_eq (ev_lenO T.n_len (ev_v 4 rfl rfl) h2) ev_int) (fun hb F3 H3 g3 => ?_) (fun hb F3 H3 g3 => ?_) s2
      · have hb := of_decide_eq_true hb
        refine x_ret ev_non (fun v F4 H4 g4 p4 => ⟨g2.trans (g3.trans g4), ?_⟩) g3.s
        have e : sizesOf m s0 h wd = [] := List.length_eq_zero_iff.mp (by show ((rng s0 h).flatMap _).length = 0; rw [← r2.1]; omega)
        unfold leastPlace
        rw [e]
        exact p4
      · have hb := of_decide_eq_false hb
        have hne : sizesOf m s0 h wd ≠ [] := fun e => by
          have : ws.length = 0 := by rw [r2.1]; show (sizesOf m s0 h wd).length = 0; rw [e]; rfl
          omega
        obtain ⟨x, xs, hx⟩ : ∃ x xs, sizesOf m s0 h wd = x :: xs := List.exists_cons_of_ne_nil hne
        have r3 : AllP pTI ws (x :: xs) F3 := by rw [← hx]; exact r2.up g3.f
        have o3 := g3.own h2 f2
        have hl : (minTI (x :: xs)).length = 3 := sizes_len hx
        have r4 : AllP (fun t : Tup Int => pTI t.items) ws (Tup.mk x :: xs.map Tup.mk) (upd F3 l (.lst ws)) := (r3.up (same_new o3.2)).tis
        refine x_set 7 (P := pTI (minTI (x :: xs))) (ev_frz o3.1 o3.2 ?_ (ev_minD (f := fun t : Tup Int => pTI t.items) T.n_min rfl (ev_v 4 rfl ⟨l, ws, rfl, upd_same, r4⟩) (fun t => rd_TI t.items) (by have := hr.units; show _ + 1 + 1 < _; omega))) (fun v F4 H4 g4 p4 => ?_) g3.s sc_least_place.nd
        · exact free_T free_I
        · refine x_ret (P := pP (pI ((minTI (x :: xs)).getD 1 0)) (pI ((minTI (x :: xs)).getD 2 0))) (ev_pair (ev_ixT (ev_v 7 rfl p4) ev_int (atI_in 0 (by omega) (by rw [hl]; omega))) (ev_ixT (ev_v 7 rfl p4) ev_int (atI_in 0 (by omega) (by rw [hl]; omega)))) (fun v F5 H5 g5 p5 => ⟨g2.trans (g3.trans (g4.trans g5)), ?_⟩) g4.s
          unfold leastPlace
          rw [hx]
          exact p5

end
end K24
set_option Elab.async false
set_option linter.all false
set_option maxRecDepth 100000
set_option maxHeartbeats 4000000
set_option autoImplicit false
namespace K24
open PySem PySem.Spec PyProof.Rows L2
open PySem.W (Datum DatumOrd Holds HoldAll Tup)
section
variable {P : Program} {w : World} {K : PySem.W.Frag} {mg : Str → Option Value} {base : Heap}


theorem Gm.mut {M : List Addr} {F H F1 H1 : Hp} {l : Addr} {ob : HO} (g : Gm M F H F1 H1) (hl : l ∈ M) (hf : F1 l = none) : Gm M F H F1 (upd H1 l ob) :=
  ⟨g.f, fun a u hm q => by rw [upd_ne (fun z : a = l => hm (by rw [z]; exact hl))]; exact g.h a u hm q, fun b u q => by rw [upd_ne (ne_of_none q hf)]; exact g.s b u q, g.n⟩
/-- row i of the table once column s is cleared in the rows below s -/
def clrRow (m : List (List Int)) (s : Nat) (r : List Int) : List Int := less r ((r.getD s 0).fdiv (at2 m s s)) (m.getD s [])
def clrN (m : List (List Int)) (s e : Nat) : List (List Int) := m.mapIdx fun i r => if s < i ∧ i < e then clrRow m s r else r
def clr (m : List (List Int)) (s h : Nat) : List (List Int) := clrN m s h
theorem clrN_get (m : List (List Int)) (s e i : Nat) : (clrN m s e)[i]? = m[i]?.map fun r => if s < i ∧ i < e then clrRow m s r else r := by
  unfold clrN
  rw [List.getElem?_mapIdx]
theorem clrN_zero (m : List (List Int)) (s : Nat) : clrN m s (s + 1) = m := by
  apply List.ext_getElem?
  intro i
  rw [clrN_get]
  cases m[i]? with
  | none => rfl
  | some r => rw [Option.map_some, if_neg (by omega)]
theorem clrN_succ (m : List (List Int)) (s e : Nat) (h : s < e) {r : List Int} (he : m[e]? = some r) : (clrN m s e).set e (clrRow m s r) = clrN m s (e + 1) := by
  apply List.ext_getElem?
  intro i
  rw [clrN_get]
  by_cases z : e = i
  · subst z
    rw [List.getElem?_set_self (by unfold clrN; rw [List.length_mapIdx]; exact (List.getElem?_eq_some_iff.mp he).1), he, Option.map_some, if_pos (by omega)]
  · rw [List.getElem?_set_ne z, clrN_get]
    cases m[i]? with
    | none => rfl
    | some r =>
      rw [Option.map_some, Option.map_some]
      by_cases q : s < i ∧ i < e
      · rw [if_pos q, if_pos (by omega)]
      · rw [if_neg q, if_neg (by omega)]
theorem less_len (r : List Int) (k : Int) (q : List Int) : (less r k q).length = min r.length q.length := by
  unfold less
  rw [List.length_map, List.length_zip]
theorem getD_at {m : List (List Int)} {i : Nat} {r : List Int} (h : m[i]? = some r) : m.getD i [] = r := by
  rw [List.getD_eq_getElem?_getD, h]
  rfl
theorem Rect.get {m : List (List Int)} {h w : Nat} (R : Rect m h w) {i : Nat} (hi : i < h) : ∃ r, m[i]? = some r ∧ r.length = w := by
  have h2 : i < m.length := by rw [R.h]; exact hi
  exact ⟨m[i], List.getElem?_eq_getElem h2, R.w _ (List.getElem_mem h2)⟩
theorem Rect.set {m : List (List Int)} {h w i : Nat} {r : List Int} (R : Rect m h w) (hr : r.length = w) : Rect (m.set i r) h w :=
  ⟨by rw [List.length_set]; exact R.h, fun q hq => by
    rcases List.mem_or_eq_of_mem_set hq with h | h
    · exact R.w q h
    · rw [h]; exact hr⟩
theorem Rect.clrN {m : List (List Int)} {h w s e : Nat} (R : Rect m h w) (hs : s < h) : Rect (clrN m s e) h w := by
  refine ⟨by unfold K24.clrN; rw [List.length_mapIdx]; exact R.h, fun q hq => ?_⟩
  obtain ⟨i, hi⟩ := List.getElem?_of_mem hq
  rw [clrN_get] at hi
  cases e2 : m[i]? with
  | none => rw [e2] at hi; cases hi
  | some r =>
    rw [e2, Option.map_some] at hi
    have hr := R.w r (List.mem_of_getElem? e2)
    have hq := Option.some.inj hi
    subst hq
    split
    · obtain ⟨r0, h0, h1⟩ := R.get hs
      show (less _ _ _).length = w
      rw [less_len, hr, getD_at h0, h1, Nat.min_self]
    · exact hr
def c_clear_column : Sp := fun vs H Q _ => ∃ F l p s h wd m u uw ts us, vs = [.ref l, .ref p, .int (s : Nat), .int (h : Nat)] ∧ Same F H ∧ H l = some (.lst ts) ∧ F l = none ∧ AllP pR ts m F ∧ H p = some (.lst us) ∧ F p = none ∧ AllP pR us u F ∧ l ≠ p ∧
  Rect m h wd ∧ Rect u h uw ∧ s < h ∧ s < wd ∧ h ≤ 1000 ∧ wd ≤ 1000 ∧ uw ≤ 1000 ∧ at2 m s s ≠ 0 ∧ (at2 m s s).natAbs < 2 ^ 64 ∧ (∀ i : Nat, s < i → i < h → ((at2 m i s).fdiv (at2 m s s)).natAbs < 2 ^ 64) ∧
  ∀ t F' H' ts' us' u', Gm [l, p] F H F' H' → F' l = none → F' p = none → H' t = some (.tup [.ref l, .ref p]) → H' l = some (.lst ts') → AllP pR ts' (clr m s h) F' → H' p = some (.lst us') → AllP pR us' u' F' → Rect u' h uw → Q (.ref t) H'

theorem sc_clear_column : FnScope ["table", "u", "start", "height", "i", "k"] ["table", "u", "start", "height"] d_clear_column.scope := ⟨rfl, rfl, rfl, by decide +kernel, rfl, by decide +kernel, by decide +kernel⟩
theorem ok_clear_column (T : Tx K mg) : FnD P w K mg base 2 "_clear_column" c_clear_column :=
  mk_fnS T (d := d_clear_column) 6 6 rfl rfl rfl rfl rfl sc_clear_column (fun _ _ _ _ _ _ us hl => match us, hl with | [_, _, _, _], _ => rfl) (fun vs H Q E h => by obtain ⟨_, _, _, _, _, _, _, _, _, _, _, e, _⟩ := h; rw [e]; rfl) fun cdv A outer s H E hr vs Q hc => by
    obtain ⟨F, l, p, s0, h, wd, m, u, uw, ts, us, rfl, sm, hl, fl, rl, hp, fp, rp, hlp, Rm, Ru, hsh, hsw, hh, hw, huw, hne, hne2, hk, q⟩ := hc
    have X1 : Sx (cxD P w K mg base ["table", "u", "start", "height", "i", "k"] d_clear_column cdv A outer s H E) d_clear_column.body (start ["table", "u", "start", "height", "i", "k"] [.ref l, .ref p, .int (s0 : Nat), .int (h : Nat)]) F H { nx := fun _ _ _ => False, rt := fun v _ H' => Q v H' } := ?_
    · exact WSs.imp X1 (fun _ _ ⟨_, _, h⟩ => h.elim) (fun _ _ ⟨_, _, h⟩ => h) (fun _ _ ⟨_, _, h⟩ => h.elim) (fun _ _ ⟨_, _, h⟩ => h.elim)
    let S : Option V → Option V → L2.St := fun oi ok => [some (.ref l), some (.ref p), some (.int (s0 : Nat)), some (.int (h : Nat)), oi, ok]
    obtain ⟨r0, hr0, lr0⟩ := Rm.get hsh
    obtain ⟨q0, hq0, lq0⟩ := Ru.get hsh
    refine x_forN (i := 4) (xs := rng (s0 + 1 : Int) h) (pr := pI) (fun n σ1 F2 H2 => ∃ oi ok ts' us' u', σ1 = S oi ok ∧ Gm [l, p] F H F2 H2 ∧ F2 l = none ∧ F2 p = none ∧ H2 l = some (.lst ts') ∧ H2 p = some (.lst us') ∧ AllP pR ts' (clrN m s0 (s0 + 1 + n)) F2 ∧ AllP pR us' u' F2 ∧ Rect u' h uw)
      (wk_rng2 T.n_range (ev_add (ev_v 2 rfl rfl) ev_int) (ev_v 3 rfl rfl) (by omega)) (fun F2 H2 g2 => ⟨none, none, ts, us, u, rfl, g2.gm, (g2.own hl fl).2, (g2.own hp fp).2, (g2.own hl fl).1, (g2.own hp fp).1, by rw [Nat.add_zero, clrN_zero]; exact rl.up g2.f, rp.up g2.f, Ru⟩) ?_ ?_ sm PassesOwn.never rfl sc_clear_column.nd
    · rintro F0 n i σ1 F2 H2 hi s0' s2 ⟨oi, ok, ts', us', u', rfl, g2, f2, f2', h2, h2', r2, r2', Ru'⟩ v F3 H3 g3 pv
      cases pv
      obtain ⟨ei, hi2⟩ := rng_get hi
      obtain ⟨e, he⟩ : ∃ e : Nat, e = s0 + 1 + n := ⟨_, rfl⟩
      have ei2 : i = (e : Nat) := by omega
      subst ei2
      rw [← he] at r2
      have heh : e < h := by omega
      obtain ⟨r1, hr1, lr1⟩ := Rm.get heh
      have ne : ∀ x ∈ [l, p], H2 x ≠ none := fun x hx => by
        simp at hx
        rcases hx with rfl | rfl
        · rw [h2]; exact fun z => nomatch z
        · rw [h2']; exact fun z => nomatch z
      have o3 := g3.own h2 f2
      have o3' := g3.own h2' f2'
      have R3 := r2.up g3.f
      have R3' := r2'.up g3.f
      have k0 : (clrN m s0 e)[s0]? = some r0 := by rw [clrN_get, hr0, Option.map_some, if_neg (by omega)]
      have k1 : (clrN m s0 e)[e]? = some r1 := by rw [clrN_get, hr1, Option.map_some, if_neg (by omega)]
      obtain ⟨v0, hv0, pv0⟩ := R3.get k0
      obtain ⟨v1, hv1, pv1⟩ := R3.get k1
      obtain ⟨q0', hq0', lq0'⟩ := Ru'.get hsh
      obtain ⟨q1', hq1', lq1'⟩ := Ru'.get heh
      obtain ⟨z0, hz0, pz0⟩ := R3'.get hq0'
      obtain ⟨z1, hz1, pz1⟩ := R3'.get hq1'
      have ats : at2 m s0 s0 = r0.getD s0 0 := by unfold at2; rw [Int.toNat_natCast, getD_at hr0]
      have ate : at2 m e s0 = r1.getD s0 0 := by unfold at2; rw [Int.toNat_natCast, Int.toNat_natCast, getD_at hr1]
      have d0 : atI r0 (s0 : Int) = some (at2 m s0 s0) := by rw [ats]; exact atI_in 0 (by omega) (by omega)
      have d1 : atI r1 (s0 : Int) = some (at2 m e s0) := by rw [ate]; exact atI_in 0 (by omega) (by omega)
      have lts : ts'.length = h := by rw [r2.1]; exact (Rm.clrN hsh).h
      have lus : us'.length = h := by rw [r2'.1]; exact Ru'.h
      refine x_set 5 (P := pI ((at2 m e s0).fdiv (at2 m s0 s0))) (ev_fdiv (ev_ixL (ev_ixO (P := pR r1) (ev_v 0 rfl rfl) (ev_v 4 rfl rfl) o3.1 (atI_nat hv1) pv1) (ev_v 2 rfl rfl) d1) (ev_ixL (ev_ixO (P := pR r0) (ev_v 0 rfl rfl) (ev_v 2 rfl rfl) o3.1 (atI_nat hv0) pv0) (ev_v 2 rfl rfl) d0) hne hne2) (fun v F4 H4 g4 p4 => ?_) g3.s sc_clear_column.nd
      cases p4
      have o4 := g4.own o3.1 o3.2
      have o4' := g4.own o3'.1 o3'.2
      have hkk := hk e (by omega) heh
      have ek : (r1.getD s0 0).fdiv (at2 m s0 s0) = (at2 m e s0).fdiv (at2 m s0 s0) := by rw [ate]
      have ecl : clrRow m s0 r1 = less r1 ((at2 m e s0).fdiv (at2 m s0 s0)) r0 := by unfold clrRow; rw [ek, getD_at hr0]
      refine x_setI (P := pR (clrRow m s0 r1)) (j := e) (ev_call (Ps := pCons (pR r1) (pCons (pI _) (pCons (pR r0) pNil))) (ok_less T) (by exact hr) (ea_cons (ev_ixO (P := pR r1) (ev_v 0 rfl rfl) (ev_v 4 rfl rfl) o4.1 (atI_nat hv1) (Mn.mono _ _ _ g4.f pv1)) (ea_cons (ev_v 5 rfl rfl) (ea_one (ev_ixO (P := pR r0) (ev_v 0 rfl rfl) (ev_v 2 rfl rfl) o4.1 (atI_nat hv0) (Mn.mono _ _ _ g4.f pv0)))))
        (fun vs F1 sF ⟨a1, _, e1, b1, a2, _, e2, b2, a3, _, e3, b3, e4⟩ => by
          cases e4
          cases b2
          subst e1 e2 e3
          exact ⟨_, a1, a3, r1, r0, rfl, b1, b3, hkk, by rw [lr1, sizeLine_eq]; omega, by rw [ecl]⟩)) (ev_v 0 rfl rfl) (ev_v 4 rfl rfl) o4.1 o4.2 (ixNat (by rw [lts]; exact heh)) (fun v F5 H5 g5 p5 => ?_) g4.s
      have g25 := g3.trans (g4.trans g5)
      have o5 := g5.own o4.1 o4.2
      have o5' := g5.own o4'.1 o4'.2
      have gm5 : Gm [l, p] F H F5 (upd H5 l (.lst (ts'.set e v))) := (g2.trans g25.gm ne).mut (by simp) o5.2
      have hp5 : (upd H5 l (.lst (ts'.set e v))) p = some (.lst us') := by rw [upd_ne hlp.symm]; exact o5'.1
      have g45 := g4.f.trans g5.f
      refine x_setI (P := pR (less q1' ((at2 m e s0).fdiv (at2 m s0 s0)) q0')) (j := e) (ev_call (Ps := pCons (pR q1') (pCons (pI _) (pCons (pR q0') pNil))) (ok_less T) (by exact hr) (ea_cons (ev_ixO (P := pR q1') (ev_v 1 rfl rfl) (ev_v 4 rfl rfl) hp5 (atI_nat hz1) (Mn.mono _ _ _ g45 pz1)) (ea_cons (ev_v 5 rfl rfl) (ea_one (ev_ixO (P := pR q0') (ev_v 1 rfl rfl) (ev_v 2 rfl rfl) hp5 (atI_nat hz0) (Mn.mono _ _ _ g45 pz0)))))
        (fun vs F1 sF ⟨a1, _, e1, b1, a2, _, e2, b2, a3, _, e3, b3, e4⟩ => by
          cases e4
          cases b2
          subst e1 e2 e3
          exact ⟨_, a1, a3, q1', q0', rfl, b1, b3, hkk, by rw [lq1', sizeLine_eq]; omega, rfl⟩)) (ev_v 1 rfl rfl) (ev_v 4 rfl rfl) hp5 o5'.2 (ixNat (by rw [lus]; exact heh)) (fun v2 F6 H6 g6 p6 => ?_) gm5.s
      have o6 := g6.own (p := l) (o := .lst (ts'.set e v)) upd_same o5.2
      have o6' := g6.own hp5 o5'.2
      have ne5 : ∀ x ∈ [l, p], (upd H5 l (.lst (ts'.set e v))) x ≠ none := fun x hx => by
        simp at hx
        rcases hx with rfl | rfl
        · rw [upd_same]; exact fun z => nomatch z
        · rw [hp5]; exact fun z => nomatch z
      have gm6 : Gm [l, p] F H F6 (upd H6 p (.lst (us'.set e v2))) := (gm5.trans g6.gm ne5).mut (by simp) o6'.2
      have gf := g25.f.trans g6.f
      refine x_nil gm6.s ⟨s0'.trans gf, some (.int (e : Nat)), _, ts'.set e v, us'.set e v2, u'.set e (less q1' ((at2 m e s0).fdiv (at2 m s0 s0)) q0'), rfl, gm6, o6.2, o6'.2, by rw [upd_ne hlp]; exact o6.1, upd_same, ?_, ?_, Ru'.set (by rw [less_len, lq1', lq0', Nat.min_self])⟩
      · rw [show s0 + 1 + (n + 1) = e + 1 by omega, ← clrN_succ m s0 e (by omega) hr1]
        exact (r2.up gf).set e (Mn.mono _ _ _ g6.f p5)
      · exact (r2'.up gf).set e p6
    · rintro σ1 F2 H2 s2 ⟨oi, ok, ts', us', u', rfl, g2, f2, f2', h2, h2', r2, r2', Ru'⟩
      have ne : ∀ x ∈ [l, p], H2 x ≠ none := fun x hx => by
        simp at hx
        rcases hx with rfl | rfl
        · rw [h2]; exact fun z => nomatch z
        · rw [h2']; exact fun z => nomatch z
      refine x_ret (P := pP (pIs (.ref l)) (pIs (.ref p))) (ev_pair (ev_v 0 rfl rfl) (ev_v 1 rfl rfl)) (fun v F3 H3 g3 ⟨t, x, y, ev, hF, px, py⟩ => ?_) s2
      cases px
      cases py
      subst ev
      have e : clrN m s0 (s0 + 1 + (rng (s0 + 1 : Int) h).length) = clr m s0 h := by rw [rng_len, show s0 + 1 + ((h : Int) - (s0 + 1)).toNat = h by omega]; rfl
      rw [e] at r2
      exact q t F3 H3 ts' us' u' (g2.trans g3.gm ne) (g3.own h2 f2).2 (g3.own h2' f2').2 (g3.s _ _ hF) (g3.own h2 f2).1 (r2.up g3.f) (g3.own h2' f2').1 (r2'.up g3.f) Ru'

end
end K24
set_option Elab.async false
set_option linter.all false
set_option maxRecDepth 100000
set_option maxHeartbeats 4000000
set_option autoImplicit false
namespace K24
open PySem PySem.Spec PyProof.Rows L2
open PySem.W (Datum DatumOrd Holds HoldAll Tup)
section
variable {P : Program} {w : World} {K : PySem.W.Frag} {mg : Str → Option Value} {base : Heap}


def isClear (m : List (List Int)) (s h w : Int) : Bool := decide ((((rng (s + 1) h).filter fun i => !decide (at2 m i s = 0)).length : Int) = 0) && decide ((((rng (s + 1) w).filter fun k => !decide (at2 m s k = 0)).length : Int) = 0)
def c_is_clear : Con := fun vs F R => ∃ a m s h w, vs = [a, .int (s : Nat), .int (h : Nat), .int (w : Nat)] ∧ pM m a F ∧ Rect m h w ∧ s < h ∧ s < w ∧ h ≤ 1000 ∧ w ≤ 1000 ∧ R = pB (isClear m s h w)

theorem sc_is_clear : FnScope ["table", "start", "height", "width", "below", "beside", "i", "k"] ["table", "start", "height", "width"] d_is_clear.scope := ⟨rfl, rfl, rfl, by decide +kernel, rfl, by decide +kernel, by decide +kernel⟩
theorem ok_is_clear (T : Tx K mg) : FnD P w K mg base 1 "_is_clear" (spP c_is_clear) :=
  mk_fn T (d := d_is_clear) 7 7 rfl rfl rfl rfl rfl sc_is_clear (fun _ _ _ _ _ _ us hl => match us, hl with | [_, _, _, _], _ => rfl) (fun vs F P h => by obtain ⟨_, _, _, _, _, e, _⟩ := h; rw [e]; rfl) fun cdv A outer s H E hr vs F R sm hc => by
    obtain ⟨a, m, s0, h, wd, rfl, ha, hm, hs, hs2, hh, hw, rfl⟩ := hc
    refine x_setLc 4 (lr_F (own := [("i", 6)]) (i := 6) (f := pI) (fun i : Int => !decide (at2 m i s0 = 0)) (fun i : Int => i) (wk_rng2 T.n_range (ev_add (ev_v 1 rfl rfl) ev_int) (ev_v 2 rfl rfl) (by omega)) (Nat.le_trans (rng_le _ _ (by omega)) (by decide)) rfl sc_is_clear.nd (blkOk_by (N := ["table", "start", "height", "width", "below", "beside", "i", "k"]) (sc := d_is_clear.scope) (by decide +kernel)) (fun _ => rfl)
      (fun z hz v F1 H1 g pv s H' C cl fp => evt_ne (ev_ixL (ev_ixL (ev_v 0 rfl (Mn.mono _ _ _ g.f ha)) (ev_v 6 rfl pv) (hm.row (by have := mem_rng.mp hz; omega) (by have := mem_rng.mp hz; omega)).1) (ev_v 1 rfl rfl) (hm.at (by have := mem_rng.mp hz; omega) (by have := mem_rng.mp hz; omega) (by omega) (by omega))) ev_int)
      (fun z hz hb v F1 H1 g pv s H' C cl fp => ev_v 6 rfl pv) (fun _ _ _ _ _ => pg_name (i := 6) sc_is_clear.nd rfl (.inl rfl))) (fun l vs F1 H1 g1 n1 n2 e3 r => ?_) sm
    refine x_setLc 5 (lr_F (own := [("k", 7)]) (i := 7) (f := pI) (fun k : Int => !decide (at2 m s0 k = 0)) (fun i : Int => i) (wk_rng2 T.n_range (ev_add (ev_v 1 rfl rfl) ev_int) (ev_v 3 rfl rfl) (by omega)) (Nat.le_trans (rng_le _ _ (by omega)) (by decide)) rfl sc_is_clear.nd (blkOk_by (N := ["table", "start", "height", "width", "below", "beside", "i", "k"]) (sc := d_is_clear.scope) (by decide +kernel)) (fun _ => rfl)
      (fun z hz v F2 H2 g pv s H' C cl fp => evt_ne (ev_ixL (ev_ixL (ev_v 0 rfl (Mn.mono _ _ _ (g1.f.trans g.f) ha)) (ev_v 1 rfl rfl) (hm.row (by omega) (by omega)).1) (ev_v 7 rfl pv) (hm.at (by omega) (by omega) (by have := mem_rng.mp hz; omega) (by have := mem_rng.mp hz; omega))) ev_int)
      (fun z hz hb v F1 H1 g pv s H' C cl fp => ev_v 7 rfl pv) (fun _ _ _ _ _ => pg_name (i := 7) sc_is_clear.nd rfl (.inl rfl))) (fun l2 vs2 F2 H2 g2 m1 m2 m3 r2 => ?_) g1.s
    have o2 := g2.own e3 n2
    refine x_ret (ev_and (ev_eq (ev_lenO T.n_len (ev_v 4 rfl rfl) o2.1) ev_int) (fun _ => ev_eq (ev_lenO T.n_len (ev_v 5 rfl rfl) m3) ev_int)) (fun v F3 H3 g3 p3 => ⟨g1.trans (g2.trans g3), ?_⟩) g2.s
    rw [r.1, r2.1, List.length_map, List.length_map] at p3
    exact p3


def isUnfit (m : List (List Int)) (s w i : Int) : Bool := (rng (s + 1) w).any fun k => !decide ((at2 m i k).fmod (at2 m s s) = 0)
def unfit (m : List (List Int)) (s h w : Int) : Int := match (rng (s + 1) h).find? (isUnfit m s w) with
  | some i => i
  | none => -1
theorem find_at {α : Type} {p : α → Bool} : ∀ {xs : List α} {n : Nat} {x : α}, xs[n]? = some x → p x = true → (∀ y ∈ xs.take n, p y = false) → xs.find? p = some x
  | [], _, _, hx, _, _ => by simp at hx
  | y :: ys, 0, x, hx, hp, _ => by
    simp at hx
    subst hx
    exact List.find?_cons_of_pos hp
  | y :: ys, n + 1, x, hx, hp, hn => by
    rw [List.find?_cons_of_neg (by rw [hn y (by rw [List.take_succ_cons]; exact List.mem_cons_self)]; exact Bool.false_ne_true)]
    exact find_at (n := n) (by simpa using hx) hp fun z hz => hn z (by rw [List.take_succ_cons]; exact List.mem_cons_of_mem _ hz)
def c_unfit : Con := fun vs F R => ∃ a m s h w, vs = [a, .int (s : Nat), .int (h : Nat), .int (w : Nat)] ∧ pM m a F ∧ Rect m h w ∧ s < h ∧ s < w ∧ h ≤ 1000 ∧ w ≤ 1000 ∧ at2 m s s ≠ 0 ∧ R = pI (unfit m s h w)

theorem sc_unfit : FnScope ["table", "start", "height", "width", "i", "k"] ["table", "start", "height", "width"] d_unfit.scope := ⟨rfl, rfl, rfl, by decide +kernel, rfl, by decide +kernel, by decide +kernel⟩
theorem ok_unfit (T : Tx K mg) : FnD P w K mg base 1 "_unfit" (spP c_unfit) :=
  mk_fn T (d := d_unfit) 8 8 rfl rfl rfl rfl rfl sc_unfit (fun _ _ _ _ _ _ us hl => match us, hl with | [_, _, _, _], _ => rfl) (fun vs F P h => by obtain ⟨_, _, _, _, _, e, _⟩ := h; rw [e]; rfl) fun cdv A outer s H E hr vs F R sm hc => by
    obtain ⟨a, m, s0, h, wd, rfl, ha, hm, hs, hs2, hh, hw, hne, rfl⟩ := hc
    let S : Option V → Option V → L2.St := fun oi ok => [some a, some (.int (s0 : Nat)), some (.int (h : Nat)), some (.int (wd : Nat)), oi, ok]
    refine x_forN (i := 4) (xs := rng (s0 + 1 : Int) h) (pr := pI) (fun n σ1 F2 H2 => ∃ oi ok, σ1 = S oi ok ∧ Gw F H F2 H2 ∧ ∀ y ∈ (rng (s0 + 1 : Int) h).take n, isUnfit m s0 wd y = false)
      (wk_rng2 T.n_range (ev_add (ev_v 1 rfl rfl) ev_int) (ev_v 2 rfl rfl) (by omega)) (fun F2 H2 g2 => ⟨none, none, rfl, g2, fun y hy => nomatch hy⟩) ?_ ?_ sm PassesOwn.never rfl sc_unfit.nd
    · rintro F0 n i σ1 F2 H2 hi s0' s2 ⟨oi, ok, rfl, g2, no⟩ v F3 H3 g3 pv
      cases pv
      have hi2 := mem_rng.mp (List.mem_of_getElem? hi)
      refine x_forN (i := 5) (xs := rng (s0 + 1 : Int) wd) (pr := pI) (fun n2 σ1 F4 H4 => ∃ ok, σ1 = S (some (.int i)) ok ∧ Same F0 F4 ∧ Gw F H F4 H4 ∧ ∀ k ∈ (rng (s0 + 1 : Int) wd).take n2, (at2 m i k).fmod (at2 m s0 s0) = 0)
        (wk_rng2 T.n_range (ev_add (ev_v 1 rfl rfl) ev_int) (ev_v 3 rfl rfl) (by omega)) (fun F4 H4 g4 => ⟨ok, rfl, s0'.trans (g3.f.trans g4.f), g2.trans (g3.trans g4), fun y hy => nomatch hy⟩) ?_ ?_ g3.s PassesOwn.never rfl sc_unfit.nd
      · rintro F0' n2 k σ1 F4 H4 hk s0'' s4 ⟨ok, rfl, s04, g4, no2⟩ v F5 H5 g5 pv
        cases pv
        have hk2 := mem_rng.mp (List.mem_of_getElem? hk)
        have g15 := g4.trans g5
        have hA := Mn.mono _ _ _ g15.f ha
        refine x_when (k := !decide ((at2 m i k).fmod (at2 m s0 s0) = 0)) (evt_ne (ev_mod (ev_ixL (ev_ixL (ev_v 0 rfl hA) (ev_v 4 rfl rfl) (hm.row (by omega) (by omega)).1) (ev_v 5 rfl rfl) (hm.at (by omega) (by omega) (by omega) (by omega)))
          (ev_ixL (ev_ixL (ev_v 0 rfl hA) (ev_v 1 rfl rfl) (hm.row (by omega) (by omega)).1) (ev_v 1 rfl rfl) (hm.at (by omega) (by omega) (by omega) (by omega))) hne) ev_int) (fun hb F6 H6 g6 => ?_) (fun hb F6 H6 g6 => ?_) g5.s
        · refine x_ret (ev_v 4 rfl rfl) (fun v F7 H7 g7 p7 => ⟨g15.trans (g6.trans g7), ?_⟩) g6.s (P := pI i)
          have e : unfit m s0 h wd = i := by
            unfold unfit
            rw [find_at hi (List.any_eq_true.mpr ⟨k, mem_rng.mpr ⟨by omega, by omega⟩, hb⟩) no]
          rw [e]
          exact p7
        · refine x_nil g6.s ⟨s0''.trans (g5.f.trans g6.f), some (.int k), rfl, s04.trans (g5.f.trans g6.f), g15.trans g6, fun y hy => ?_⟩
          rw [List.take_add_one, hk] at hy
          rcases List.mem_append.mp hy with hy | hy
          · exact no2 y hy
          · simp at hy
            rw [hy]
            simpa using hb
      · rintro σ1 F4 H4 s4 ⟨ok, rfl, s04, g4, no2⟩
        refine x_nil s4 ⟨s04, some (.int i), ok, rfl, g4, fun y hy => ?_⟩
        rw [List.take_add_one, hi] at hy
        rcases List.mem_append.mp hy with hy | hy
        · exact no y hy
        · simp at hy
          rw [hy]
          unfold isUnfit
          rw [List.any_eq_false]
          intro k hk
          rw [List.take_length] at no2
          simp [no2 k hk]
    · rintro σ1 F2 H2 s2 ⟨oi, ok, rfl, g2, no⟩
      rw [List.take_length] at no
      refine x_ret (P := pI (-1)) (ev_neg ev_int) (fun v F7 H7 g7 p7 => ⟨g2.trans g7, ?_⟩) s2
      have e : unfit m s0 h wd = -1 := by
        unfold unfit
        rw [List.find?_eq_none.mpr fun y hy => by rw [no y hy]; exact Bool.false_ne_true]
      rw [e]
      exact p7

end
end K24
set_option Elab.async false
set_option linter.all false
set_option maxRecDepth 100000
set_option maxHeartbeats 4000000
set_option autoImplicit false
namespace K24
open PySem PySem.Spec PyProof.Rows L2
open PySem.W (Datum DatumOrd Holds HoldAll Tup)
section
variable {P : Program} {w : World} {K : PySem.W.Frag} {mg : Str → Option Value} {base : Heap}


abbrev Mx := List (List Int)
def pMx (a b : Nat) : Pr := fun v F => ∃ u, pM u v F ∧ Rect u a b
instance {a b : Nat} : Mn (pMx a b) := ⟨fun v F F' s ⟨u, p, r⟩ => ⟨u, Mn.mono _ _ _ s p, r⟩⟩
def pMr (m : Mx) (h w : Nat) : Pr := fun v F => pM m v F ∧ Rect m h w
instance {m : Mx} {h w : Nat} : Mn (pMr m h w) := ⟨fun v F F' s ⟨p, r⟩ => ⟨Mn.mono _ _ _ s p, r⟩⟩
def sm2 (m : Mx) (s : Nat) (z : Int × Int) : Mx := (swapL m s z.1.toNat).map fun r => swapL r s z.2.toNat
def sm3 (m : Mx) (s : Nat) (z : Int × Int) (h : Nat) : Mx := clr (sm2 m s z) s h
def sm4 (m : Mx) (s : Nat) (z : Int × Int) (h w : Nat) : Mx := turned (clr (turned (sm3 m s z h) w) s w) h
structure SmOk (m : Mx) (s : Nat) (z : Int × Int) (h w : Nat) : Prop where
  n1 : at2 (sm2 m s z) s s ≠ 0
  b1 : (at2 (sm2 m s z) s s).natAbs < 2 ^ 64
  q1 : ∀ i : Nat, s < i → i < h → ((at2 (sm2 m s z) i s).fdiv (at2 (sm2 m s z) s s)).natAbs < 2 ^ 64
  n2 : at2 (turned (sm3 m s z h) w) s s ≠ 0
  b2 : (at2 (turned (sm3 m s z h) w) s s).natAbs < 2 ^ 64
  q2 : ∀ i : Nat, s < i → i < w → ((at2 (turned (sm3 m s z h) w) i s).fdiv (at2 (turned (sm3 m s z h) w) s s)).natAbs < 2 ^ 64
  n3 : at2 (sm4 m s z h w) s s ≠ 0
def smAdd (m : Mx) (s u : Nat) : Mx := m.set s (less (m.getD s []) (-1) (m.getD u []))
def smNeg (m : Mx) (s : Nat) : Mx := if at2 m s s < 0 then m.set s ((m.getD s []).map (-1 * ·)) else m
inductive SmRun (h w : Nat) : Nat → Mx → Nat → Mx → Prop
  | done {m : Mx} {s : Nat} (a : min h w ≤ s) : SmRun h w 0 m s m
  | none {m : Mx} {s : Nat} (a : s < min h w) (b : leastPlace m s h w = .none) : SmRun h w 0 m s m
  | dirty {n : Nat} {m d : Mx} {s : Nat} {z : Int × Int} (a : s < min h w) (b : leastPlace m s h w = some z) (c : SmOk m s z h w) (e : isClear (sm4 m s z h w) s h w = false) (r : SmRun h w n (sm4 m s z h w) s d) : SmRun h w (n + 1) m s d
  | unfit {n : Nat} {m d : Mx} {s : Nat} {z : Int × Int} (a : s < min h w) (b : leastPlace m s h w = some z) (c : SmOk m s z h w) (e : isClear (sm4 m s z h w) s h w = true) (u : 0 ≤ unfit (sm4 m s z h w) s h w) (r : SmRun h w n (smAdd (sm4 m s z h w) s (unfit (sm4 m s z h w) s h w).toNat) s d) : SmRun h w (n + 1) m s d
  | next {n : Nat} {m d : Mx} {s : Nat} {z : Int × Int} (a : s < min h w) (b : leastPlace m s h w = some z) (c : SmOk m s z h w) (e : isClear (sm4 m s z h w) s h w = true) (u : unfit (sm4 m s z h w) s h w < 0) (r : SmRun h w n (smNeg (sm4 m s z h w) s) (s + 1) d) : SmRun h w (n + 1) m s d
theorem lt_hd {t u : Tup Int} (ht : t.items ≠ []) (hu : u.items ≠ []) : (DatumOrd.lt t u = true → t.items.getD 0 0 ≤ u.items.getD 0 0) ∧ (DatumOrd.lt t u = false → u.items.getD 0 0 ≤ t.items.getD 0 0) := by
  obtain ⟨t⟩ := t
  obtain ⟨u⟩ := u
  cases t with
  | nil => exact absurd rfl ht
  | cons p t =>
    cases u with
    | nil => exact absurd rfl hu
    | cons q u =>
      have e : DatumOrd.lt (Tup.mk (p :: t)) (Tup.mk (q :: u)) = if p = q then PySem.W.listLt t u else decide (p < q) := rfl
      rw [e]
      show (_ → p ≤ q) ∧ (_ → q ≤ p)
      by_cases z : p = q
      · exact ⟨fun _ => by omega, fun _ => by omega⟩
      · rw [if_neg z]
        exact ⟨fun h => by have := of_decide_eq_true h; omega, fun h => by have := of_decide_eq_false h; omega⟩
theorem minOf_hd : ∀ (xs : List (Tup Int)) (x : Tup Int), (∀ y ∈ x :: xs, y.items ≠ []) → ∀ y ∈ x :: xs, (PySem.W.minOf x xs).items.getD 0 0 ≤ y.items.getD 0 0
  | [], x, _, y, hy => by
    simp at hy
    rw [hy]
    exact Int.le_refl _
  | z :: xs, x, h, y, hy => by
    have e : PySem.W.minOf x (z :: xs) = PySem.W.minOf (if DatumOrd.lt z x = true then z else x) xs := rfl
    rw [e]
    have hx := h x List.mem_cons_self
    have hz := h z (List.mem_cons_of_mem _ List.mem_cons_self)
    have k := lt_hd hz hx
    have hxs : ∀ y ∈ xs, y.items ≠ [] := fun y hy => h y (List.mem_cons_of_mem _ (List.mem_cons_of_mem _ hy))
    by_cases q : DatumOrd.lt z x = true
    · rw [if_pos q]
      have ih := minOf_hd xs z (fun y hy => by
        rcases List.mem_cons.mp hy with r | r
        · rw [r]; exact hz
        · exact hxs y r)
      have i0 := ih z List.mem_cons_self
      rcases List.mem_cons.mp hy with r | r
      · rw [r]; exact Int.le_trans i0 (k.1 q)
      · rcases List.mem_cons.mp r with r | r
        · rw [r]; exact i0
        · exact ih y (List.mem_cons_of_mem _ r)
    · rw [if_neg q]
      have q2 : DatumOrd.lt z x = false := by simpa using q
      have ih := minOf_hd xs x (fun y hy => by
        rcases List.mem_cons.mp hy with r | r
        · rw [r]; exact hx
        · exact hxs y r)
      have i0 := ih x List.mem_cons_self
      rcases List.mem_cons.mp hy with r | r
      · rw [r]; exact i0
      · rcases List.mem_cons.mp r with r | r
        · rw [r]; exact Int.le_trans i0 (k.2 q2)
        · exact ih y (List.mem_cons_of_mem _ r)
theorem place_in {m : Mx} {s h w : Int} {z : Int × Int} (e : leastPlace m s h w = some z) : s ≤ z.1 ∧ z.1 < h ∧ s ≤ z.2 ∧ z.2 < w ∧ at2 m z.1 z.2 ≠ 0 ∧ ∀ i k, s ≤ i → i < h → s ≤ k → k < w → at2 m i k ≠ 0 → (at2 m z.1 z.2).natAbs ≤ (at2 m i k).natAbs := by
  unfold leastPlace at e
  cases hl : sizesOf m s h w with
  | nil => rw [hl] at e; cases e
  | cons x xs =>
    rw [hl] at e
    have e2 := (Option.some.inj e).symm
    subst e2
    have hmem := minTI_mem x xs
    rw [← hl] at hmem
    obtain ⟨i, k, h1, h2, h3, h4, h5, h6⟩ := sizes_mem.mp hmem
    rw [← hl, h6]
    refine ⟨h1, h2, h3, h4, h5, fun i' k' a1 a2 a3 a4 a5 => ?_⟩
    have m2 := sizes_mem.mpr ⟨i', k', a1, a2, a3, a4, a5, rfl⟩
    rw [hl] at m2
    have := minOf_hd (xs.map Tup.mk) (Tup.mk x) (fun y hy => by
      have e9 : Tup.mk x :: xs.map Tup.mk = (x :: xs).map Tup.mk := rfl
      rw [e9] at hy
      obtain ⟨y', hy', rfl⟩ := List.mem_map.mp hy
      rw [← hl] at hy'
      obtain ⟨_, _, _, _, _, _, _, h9⟩ := sizes_mem.mp hy'
      show y' ≠ []
      rw [h9]
      exact fun z => nomatch z) (Tup.mk [((at2 m i' k').natAbs : Int), i', k']) (by
      have e9 : Tup.mk x :: xs.map Tup.mk = (x :: xs).map Tup.mk := rfl
      rw [e9]
      exact List.mem_map.mpr ⟨_, m2, rfl⟩)
    have e8 : (PySem.W.minOf (Tup.mk x) (xs.map Tup.mk)).items = [((at2 m i k).natAbs : Int), i, k] := by rw [← h6, hl]; rfl
    rw [e8] at this
    have : ((at2 m i k).natAbs : Int) ≤ ((at2 m i' k').natAbs : Int) := this
    show (at2 m i k).natAbs ≤ _
    omega
theorem SmRun.inv {h w n s : Nat} {m d : Mx} {z : Int × Int} (r : SmRun h w n m s d) (hs : s < min h w) (e : leastPlace m s h w = some z) : ∃ n', n = n' + 1 ∧ SmOk m s z h w ∧ (isClear (sm4 m s z h w) s h w = false → SmRun h w n' (sm4 m s z h w) s d) ∧
    (isClear (sm4 m s z h w) s h w = true → 0 ≤ K24.unfit (sm4 m s z h w) s h w → SmRun h w n' (smAdd (sm4 m s z h w) s (K24.unfit (sm4 m s z h w) s h w).toNat) s d) ∧ (isClear (sm4 m s z h w) s h w = true → K24.unfit (sm4 m s z h w) s h w < 0 → SmRun h w n' (smNeg (sm4 m s z h w) s) (s + 1) d) := by
  cases r with
  | done a => omega
  | none a b => rw [b] at e; cases e
  | dirty a b c q r =>
    rw [b] at e
    cases e
    exact ⟨_, rfl, c, fun _ => r, (fun z => by rw [q] at z; cases z), (fun z => by rw [q] at z; cases z)⟩
  | unfit a b c q u r =>
    rw [b] at e
    cases e
    exact ⟨_, rfl, c, (fun z => by rw [q] at z; cases z), fun _ _ => r, (fun _ u2 => by omega)⟩
  | next a b c q u r =>
    rw [b] at e
    cases e
    exact ⟨_, rfl, c, (fun z => by rw [q] at z; cases z), (fun _ u2 => by omega), fun _ _ => r⟩
theorem unfit_in {m : Mx} {s h w : Int} (u : 0 ≤ unfit m s h w) : s < unfit m s h w ∧ unfit m s h w < h := by
  unfold unfit at u ⊢
  cases q : (rng (s + 1) h).find? (isUnfit m s w) with
  | none => rw [q] at u; exact absurd u (by show ¬ (0 : Int) ≤ -1; decide)
  | some i =>
    have := mem_rng.mp (List.mem_of_find?_eq_some q)
    show s < i ∧ i < h
    omega
theorem turned_rect {m : Mx} {h w : Nat} (R : Rect m h w) : Rect (turned m w) w h := by
  refine ⟨by unfold turned; rw [List.length_map, rng_len]; omega, fun r hr => ?_⟩
  unfold turned at hr
  obtain ⟨k, _, rfl⟩ := List.mem_map.mp hr
  rw [List.length_map]
  exact R.h
theorem swapL_len {α : Type} (xs : List α) (i k : Nat) : (swapL xs i k).length = xs.length := by
  unfold swapL
  split <;> simp
theorem swapL_mem {α : Type} {xs : List α} {i k : Nat} {x : α} (h : x ∈ swapL xs i k) : x ∈ xs := by
  unfold swapL at h
  split at h
  · rename_i a b ha hb
    rcases List.mem_or_eq_of_mem_set h with h | h
    · rcases List.mem_or_eq_of_mem_set h with h | h
      · exact h
      · rw [h]; exact List.mem_of_getElem? hb
    · rw [h]; exact List.mem_of_getElem? ha
  · exact h
theorem Rect.swap {m : Mx} {h w : Nat} (R : Rect m h w) (i k : Nat) : Rect (swapL m i k) h w := ⟨by rw [swapL_len]; exact R.h, fun r hr => R.w r (swapL_mem hr)⟩
theorem Rect.sm2 {m : Mx} {h w s : Nat} {z : Int × Int} (R : Rect m h w) : Rect (sm2 m s z) h w := ⟨by unfold K24.sm2; rw [List.length_map, swapL_len]; exact R.h, fun r hr => by
  obtain ⟨q, hq, rfl⟩ := List.mem_map.mp hr
  rw [swapL_len]
  exact (R.swap s z.1.toNat).w q hq⟩
theorem ea_run {X : Cx} {es : List Expr} {σ : L2.St} {F H : Hp} {Ps : List V → Hp → Prop} {Q : List V → Hp → Prop} (h : EvA X es σ F H Ps) (s : Same F H) (k : ∀ vs F2 H2, Gw F H F2 H2 → Ps vs F2 → Q vs H2) : WA X es σ H Q := h F H (Gw.refl s) Q k
theorem en_run {X : Cx} {e : Expr} {σ : L2.St} {F H : Hp} {α : Type} {f : α → Pr} {xs : List α} {Q : VK} (h : EvN X e σ F H f xs) (s : Same F H) (k : ∀ p vs F2 H2, Gw F H F2 H2 → H p = none → F2 p = none → H2 p = some (.lst vs) → AllP f vs xs F2 → Q (.ref p) H2) : WE X e σ H Q := h F H (Gw.refl s) Q k
/-- a def called, by its own reading -/
theorem we_callS {X : Cx} {e : Expr} {es : List Expr} {σ : L2.St} {H : Hp} {sp : Sp} {n : Nat} {x : Str} {p pos : Pos} {Q : VK} (D : FnD X.prog X.w X.K X.mg X.base n x sp) (hr : Room n X.A) (ha : WA X (e :: es) σ H fun vs H1 => sp vs H1 Q E0)
    (hg : Gl X x := by rfl) (hdb : (x == ("__debug__" : Str)) = false := by decide) (he : starEach (e :: es) X.env = (false, eval e X.env) :: starEach es X.env := by rfl) (hpl : (backTo pos (starEach es X.env)).any (·.1) = false := by rfl) : WE X (.Call (.Name x p) (e :: es) [] pos) σ H Q := by
  obtain ⟨f, fd, ps, D1, D2, D3, D4⟩ := D.ex
  refine we (pe_call D1 hr hg D2 D3 D4 .nil pass0 pa_w hdb he hpl) ?_
  have e2 : (fun (vs : List V) (H1 : Hp) => sp (vs ++ []) H1 Q E0) = fun vs H1 => sp vs H1 Q E0 := by
    funext vs H1
    rw [List.append_nil]
  show WA X (e :: es) σ H (fun vs H1 => sp (vs ++ []) H1 Q E0)
  rw [e2]
  exact ha


def c_smith_rows : Con := fun vs F R => ∃ a u v m h w n d, vs = [a, .int (w : Nat), u, v] ∧ pTT m a F ∧ Rect m h w ∧ h ≤ 1000 ∧ w ≤ 1000 ∧ pMx h h u F ∧ pMx w w v F ∧ SmRun h w n m 0 d ∧ R = pP3 (pMr d h w) (pMx h h) (pMx w w)

theorem sc_smith_rows : FnScope ["rows", "width", "u", "v", "table", "height", "start", "place", "turned", "unfit", "row"] ["rows", "width", "u", "v"] d_smith_rows.scope := ⟨rfl, rfl, rfl, by decide +kernel, rfl, by decide +kernel, by decide +kernel⟩
theorem ok_smith_rows (T : Tx K mg) : FnD P w K mg base 3 "smith_rows" (spP c_smith_rows) :=
  mk_fn T (d := d_smith_rows) 9 9 rfl rfl rfl rfl rfl sc_smith_rows (fun _ _ _ _ _ _ us hl => match us, hl with | [_, _, _, _], _ => rfl) (fun vs F P h => by obtain ⟨_, _, _, _, _, _, _, _, e, _⟩ := h; rw [e]; rfl) fun cdv A outer s H E hr vs F R sm hc => by
    obtain ⟨a, u0, v0, m0, h, wd, n0, d, rfl, ha, Rm, hh, hw, hu, hv, run, rfl⟩ := hc
    refine x_setLc 4 (lr_N (own := [("row", 10)]) (i := 10) (f := pR) (fun r : List Int => r) (wk_T (ev_v 0 rfl ha)) (by rw [Rm.h, sizeLine_eq]; omega) rfl sc_smith_rows.nd (blkOk_by (N := ["rows", "width", "u", "v", "table", "height", "start", "place", "turned", "unfit", "row"]) (sc := d_smith_rows.scope) (by decide +kernel)) (fun _ => rfl)
      (fun z hz v F1 H1 g pv s H' C cl fp => EvN.ev (en_listS T.n_list (ev_v 10 rfl (pT.s pv)))) (fun _ _ _ _ _ => pg_name (i := 10) sc_smith_rows.nd rfl (.inl rfl))) (fun l ts F1 H1 g1 n1 n2 e3 r => ?_) sm
    rw [List.map_id'] at r
    refine x_set 5 (P := pI (h : Nat)) ((ev_lenO T.n_len (ev_v 4 rfl rfl) e3).is (by rw [r.1, Rm.h])) (fun v F2 H2 g2 p2 => ?_) g1.s sc_smith_rows.nd
    cases p2
    refine x_set 6 (P := pI ((0 : Nat) : Int)) ev_int (fun v F3 H3 g3 p3 => ?_) g2.s sc_smith_rows.nd
    cases p3
    have g13 := g1.trans (g2.trans g3)
    have o3 := (g2.trans g3).own e3 n2
    have gz := g13.frz n1 o3.2 o3.1
    show Sx _ _ _ (upd F3 l (.lst ts)) H3 _
    let S : V → V → V → Nat → Option V → Option V → Option V → L2.St := fun vt vu vv s o7 o8 o9 => [some a, some (.int (wd : Nat)), some vu, some vv, some vt, some (.int (h : Nat)), some (.int (s : Nat)), o7, o8, o9, none]
    refine x_while (fun σ1 F4 H4 n => ∃ vt vu vv m s o7 o8 o9, σ1 = S vt vu vv s o7 o8 o9 ∧ Gw F H F4 H4 ∧ pM m vt F4 ∧ Rect m h wd ∧ pMx h h vu F4 ∧ pMx wd wd vv F4 ∧ SmRun h wd n m s d)
      ⟨n0, .ref l, u0, v0, m0, 0, none, none, none, rfl, gz, ⟨l, ts, rfl, upd_same, r.up ((g2.f.trans g3.f).trans (same_new o3.2))⟩, Rm, Mn.mono _ _ _ gz.f hu, Mn.mono _ _ _ gz.f hv, run⟩ ?_ gz.s PassesOwn.never
    rintro σ1 F4 H4 n s4 ⟨vt, vu, vv, m, s0, o7, o8, o9, rfl, g4, pt, Rm', pu, pv, run'⟩
    refine ⟨decide ((s0 : Int) < (if (wd : Int) < h then (wd : Int) else h)), evt_lt (ev_v 6 rfl rfl) (ev_min2 T.n_min rfl (ev_v 5 rfl rfl) (ev_v 1 rfl rfl)), fun hb F5 H5 g5 => ?_, fun hb F5 H5 g5 => ?_⟩
    · have hb := of_decide_eq_true hb
      have hs1 : s0 < h := by split at hb <;> omega
      have hs2 : s0 < wd := by split at hb <;> omega
      have g45 := g4.trans g5
      have pt5 : pM m vt F5 := Mn.mono _ _ _ g5.f pt
      refine x_set 7 (P := pPlace (leastPlace m s0 h wd)) (ev_call (Ps := pCons (pM m) (pCons (pI _) (pCons (pI _) (pCons (pI _) pNil)))) (ok_least_place T) (by exact hr.mono (by omega)) (ea_cons (ev_v 4 rfl pt5) (ea_cons (ev_v 6 rfl rfl) (ea_cons (ev_v 5 rfl rfl) (ea_one (ev_v 1 rfl rfl)))))
        (fun vs F1 sF ⟨a1, _, e1, b1, a2, _, e2, b2, a3, _, e3, b3, a4, _, e4, b4, e5⟩ => by
          cases e5
          cases b2
          cases b3
          cases b4
          subst e1 e2 e3 e4
          exact ⟨a1, m, s0, h, wd, rfl, b1, Rm', hh, hw, by omega, rfl⟩)) (fun v F6 H6 g6 p6 => ?_) g5.s sc_smith_rows.nd
      refine x_when (k := (leastPlace m s0 h wd).isNone) (evt_isN (ev_v 7 rfl p6) (fun v F1 pv => by
        cases e : leastPlace m s0 h wd with
        | none => rw [e] at pv; cases (show v = .non from pv); rfl
        | some z => rw [e] at pv; obtain ⟨b, x, y, rfl, _⟩ := pv; rfl)) (fun hb2 F7 H7 g7 => ?_) (fun hb2 F7 H7 g7 => ?_) g6.s
      · have en : leastPlace m s0 h wd = none := by simpa using hb2
        have g67 := g6.f.trans g7.f
        refine x_ret (P := pP3 (pMr m h wd) (pMx h h) (pMx wd wd)) (ev_triple (P := pMr m h wd) (ev_v 4 rfl ⟨Mn.mono _ _ _ g67 pt5, Rm'⟩) (ev_v 2 rfl (Mn.mono _ _ _ (g5.f.trans g67) pu)) (ev_v 3 rfl (Mn.mono _ _ _ (g5.f.trans g67) pv))) (fun v F8 H8 g8 p8 => ⟨g45.trans (g6.trans (g7.trans g8)), ?_⟩) g7.s
        have : d = m := by cases run' <;> first | omega | rfl | (rename_i q _ _ _; rw [en] at q; cases q) | (rename_i q _ _ _ _; rw [en] at q; cases q)
        rw [this]
        exact p8
      · obtain ⟨z, ez⟩ : ∃ z, leastPlace m s0 h wd = some z := Option.isSome_iff_exists.mp (by cases q : leastPlace m s0 h wd <;> simp [q] at hb2 ⊢)
        obtain ⟨z1, z2, z3, z4, z5, _⟩ := place_in ez
        rw [ez] at p6
        obtain ⟨za, hza⟩ : ∃ i : Nat, z.1 = i := ⟨z.1.toNat, by omega⟩
        obtain ⟨zb, hzb⟩ : ∃ i : Nat, z.2 = i := ⟨z.2.toNat, by omega⟩
        have p7 : pP (pI (za : Int)) (pI (zb : Int)) v F7 := by rw [← hza, ← hzb]; exact Mn.mono _ _ _ g7.f p6
        have g57 := g5.f.trans (g6.f.trans g7.f)
        obtain ⟨n', en, ok, rDirty, rUnfit, rNext⟩ := run'.inv (by omega) ez
        obtain ⟨u1, pu1, Ru1⟩ := Mn.mono _ _ _ g57 pu
        obtain ⟨v1, pv1, Rv1⟩ := Mn.mono _ _ _ g57 pv
        have g47 := g45.trans (g6.trans g7)
        refine x_parN 4 2 (f := pR) (g := pR) rfl (en_swap (i := s0) (k := za) (ok_swap T) (by exact hr.mono (by omega)) (ev_v 4 rfl (Mn.mono _ _ _ (g6.f.trans g7.f) pt5)) (ev_v 6 rfl rfl) (ev_fst (ev_v 7 rfl p7) ev_int) (by rw [Rm'.h]; exact hs1) (by rw [Rm'.h]; omega))
          (en_swap (i := s0) (k := za) (ok_swap T) (by exact hr.mono (by omega)) (ev_v 2 rfl pu1) (ev_v 6 rfl rfl) (ev_fst (ev_v 7 rfl p7) ev_int) (by rw [Ru1.h]; exact hs1) (by rw [Ru1.h]; omega)) (fun lt vt1 lu vu1 F8 H8 g8 a1 a2 a3 a4 a5 a6 a7 a8 a9 => ?_) g7.s sc_smith_rows.nd
        have g48 := g47.trans g8
        have f8 := Gw.frz g8 a1 a4 a6
        show Sx _ _ _ (upd F8 lt (.lst vt1)) H8 _
        have R1 := Rm'.swap s0 za
        have nlu : (upd F8 lt (.lst vt1)) lu = none := by rw [upd_ne a3.symm]; exact a5
        have pt8 : pM (swapL m s0 za) (.ref lt) (upd F8 lt (.lst vt1)) := ⟨lt, vt1, rfl, upd_same, a8.up (same_new a4)⟩
        refine x_parN 4 3 (f := pR) (g := pR) rfl (en_call (Ps := pCons (pM (swapL m s0 za)) (pCons (pI _) (pCons (pI _) pNil))) (ok_swap_items T) (by exact hr.mono (by omega)) (ea_cons (ev_v 4 rfl pt8) (ea_cons (ev_v 6 rfl rfl) (ea_one (ev_snd (ev_v 7 rfl (Mn.mono _ _ _ f8.f p7)) ev_int))))
          (fun vs F1 sF ⟨b1, _, e1, c1, b2, _, e2, c2, b3, _, e3, c3, e4⟩ => by
            cases e4
            cases c2
            cases c3
            subst e1 e2 e3
            exact ⟨b1, s0, zb, swapL m s0 za, rfl, c1, fun r hr => ⟨by rw [R1.w r hr]; exact hs2, by rw [R1.w r hr]; omega⟩, by rw [R1.h, sizeLine_eq]; omega, rfl⟩))
          (en_swap (i := s0) (k := zb) (ok_swap T) (by exact hr.mono (by omega)) (ev_v 3 rfl (Mn.mono _ _ _ f8.f pv1)) (ev_v 6 rfl rfl) (ev_snd (ev_v 7 rfl (Mn.mono _ _ _ f8.f p7)) ev_int) (by rw [Rv1.h]; exact hs2) (by rw [Rv1.h]; omega)) (fun lt2 vt2 lv vv2 F9 H9 g9 b1 b2 b3 b4 b5 b6 b7 b8 b9 => ?_) f8.s sc_smith_rows.nd
        have E1 : (swapL m s0 za).map (fun r => swapL r s0 zb) = sm2 m s0 z := by unfold sm2; rw [hza, hzb, Int.toNat_natCast, Int.toNat_natCast]
        rw [E1] at b8
        have R2 : Rect (sm2 m s0 z) h wd := Rm'.sm2
        have g49 := (g47.trans f8).trans g9
        have nlt2 := (g47.trans f8).new b1
        have nlv := (g47.trans f8).new b2
        have nlu0 := g47.new a2
        have o9u := g9.own a7 nlu
        have d1 : lu ≠ lt2 := fun e => by rw [e, b1] at a7; cases a7
        have d2 : lu ≠ lv := fun e => by rw [e, b2] at a7; cases a7
        have Ru2 := Ru1.swap s0 za
        have Rv2 := Rv1.swap s0 zb
        have a9' := a9.up ((same_new a4).trans g9.f)
        refine x_unpackW 4 2 (we_callS (ok_clear_column T) (by exact hr) (ea_run (ea_cons (P := pIs (.ref lt2)) (ev_v 4 rfl rfl) (ea_cons (P := pIs (.ref lu)) (ev_v 2 rfl rfl) (ea_cons (P := pI (s0 : Nat)) (ev_v 6 rfl rfl) (ea_one (P := pI (h : Nat)) (ev_v 5 rfl rfl))))) g9.s fun vs F10 H10 g10 pa => ?_))
          (pg_tup rfl (pgs_cons (pg_name (i := 4) sc_smith_rows.nd rfl (.inl rfl)) (pgs_cons (pg_name (i := 2) sc_smith_rows.nd rfl (.inl rfl)) pgs_nil)))
        obtain ⟨_, _, rfl, q1, _, _, rfl, q2, _, _, rfl, q3, _, _, rfl, q4, q5⟩ := pa
        cases q1
        cases q2
        cases q3
        cases q4
        cases q5
        have o10 := g10.own b6 b4
        have o10u := g10.own o9u.1 o9u.2
        have o10v := g10.own b7 b5
        refine ⟨F10, lt2, lu, s0, h, wd, sm2 m s0 z, swapL u1 s0 za, h, vt2, vu1, rfl, g10.s, o10.1, o10.2, b8.up g10.f, o10u.1, o10u.2, a9'.up g10.f, d1.symm, R2, Ru2, hs1, hs2, hh, hw, hh, ok.n1, ok.b1, ok.q1, ?_⟩
        intro t F11 H11 vt3 vu3 u3 m11 f11 f11u e11 e11t r11 e11u r11u Ru3
        refine ⟨F11, t, _, _, rfl, e11, m11.s, ?_⟩
        have g411 := (g49.trans g10).then m11 (fun x hx => by
          simp at hx
          rcases hx with rfl | rfl
          · exact nlt2
          · exact nlu0)
        have e11v : H11 lv = some (.lst vv2) := m11.h lv _ (by simp [b3.symm, d2.symm]) o10v.1
        have f11v : F11 lv = none := (m11.n lv (by rw [o10v.1]; exact fun z => nomatch z)).trans o10v.2
        have b9' := b9.up (g10.f.trans m11.f)
        have R3 : Rect (sm3 m s0 z h) h wd := R2.clrN hs1
        have f11g := g411.frz nlt2 f11 e11t
        show Sx _ _ _ (upd F11 lt2 (.lst vt3)) H11 _
        have pt11 : pM (sm3 m s0 z h) (.ref lt2) (upd F11 lt2 (.lst vt3)) := ⟨lt2, vt3, rfl, upd_same, r11.up (same_new f11)⟩
        have k11v : (upd F11 lt2 (.lst vt3)) lv = none := by rw [upd_ne b3.symm]; exact f11v
        have k11u : (upd F11 lt2 (.lst vt3)) lu = none := by rw [upd_ne d1]; exact f11u
        have R3t := turned_rect R3
        refine x_unpackW 8 3 (we_callS (ok_clear_column T) (by exact hr) (wa (pa_cons pe_w pa_w rfl) (en_run (en_call (f := pR) (xs := turned (sm3 m s0 z h) wd) (Ps := pCons (pM (sm3 m s0 z h)) (pCons (pI (wd : Nat)) pNil)) (ok_turned T) (by exact hr.mono (by omega)) (ea_cons (ev_v 4 rfl pt11) (ea_one (ev_v 1 rfl rfl))) (fun vs F1 sF ⟨a1, _, e1, b1, a2, _, e2, b2, e3⟩ => by
            cases e3
            cases b2
            subst e1 e2
            exact ⟨a1, sm3 m s0 z h, wd, rfl, b1, fun r hr => by rw [R3.w r hr]; exact Nat.le_refl _, by rw [R3.h, sizeLine_eq]; omega, hw, rfl⟩))
          f11g.s fun lt3 vt4 F12 H12 g12 c1 c2 c3 c4 => ea_run (ea_cons (P := pIs (.ref lv)) (ev_v 3 rfl rfl) (ea_cons (P := pI (s0 : Nat)) (ev_v 6 rfl rfl) (ea_one (P := pI (wd : Nat)) (ev_v 1 rfl rfl)))) g12.s fun vs F13 H13 g13 pa => ?_)))
          (pg_tup rfl (pgs_cons (pg_name (i := 8) sc_smith_rows.nd rfl (.inl rfl)) (pgs_cons (pg_name (i := 3) sc_smith_rows.nd rfl (.inl rfl)) pgs_nil)))
        obtain ⟨_, _, rfl, q1, _, _, rfl, q2, _, _, rfl, q3, q5⟩ := pa
        cases q1
        cases q2
        cases q3
        cases q5
        have o12v := g12.own e11v k11v
        have o12u := g12.own e11u k11u
        have o13 := g13.own c3 c2
        have o13v := g13.own o12v.1 o12v.2
        have o13u := g13.own o12u.1 o12u.2
        have nlt3 := f11g.new c1
        have d3 : lv ≠ lt3 := fun e => by rw [e, c1] at e11v; cases e11v
        have d4 : lu ≠ lt3 := fun e => by rw [e, c1] at e11u; cases e11u
        refine ⟨F13, lt3, lv, s0, wd, h, turned (sm3 m s0 z h) wd, swapL v1 s0 zb, wd, vt4, vv2, rfl, g13.s, o13.1, o13.2, c4.up g13.f, o13v.1, o13v.2, b9'.up ((same_new f11).trans (g12.f.trans g13.f)), d3.symm, R3t, Rv2, hs2, hs1, hw, hh, hw, ok.n2, ok.b2, ok.q2, ?_⟩
        intro t2 F14 H14 vt5 vv3 v3 m14 f14 f14v e14 e14t r14 e14v r14v Rv3
        refine ⟨F14, t2, _, _, rfl, e14, m14.s, ?_⟩
        have g414 := (f11g.trans (g12.trans g13)).then m14 (fun x hx => by
          simp at hx
          rcases hx with rfl | rfl
          · exact nlt3
          · exact nlv)
        have e14u : H14 lu = some (.lst vu3) := m14.h lu _ (by simp [d4, d2]) o13u.1
        have f14u : F14 lu = none := (m14.n lu (by rw [o13u.1]; exact fun z => nomatch z)).trans o13u.2
        have r14u := r11u.up ((same_new f11).trans (g12.f.trans (g13.f.trans m14.f)))
        have R4 : Rect (clr (turned (sm3 m s0 z h) wd) s0 wd) wd h := R3t.clrN hs2
        have f14g := (g414.frz nlt3 f14 e14t).frz nlv (by rw [upd_ne d3]; exact f14v) e14v
        show Sx _ _ _ (upd (upd F14 lt3 (.lst vt5)) lv (.lst vv3)) H14 _
        have sf14 : Same F14 (upd (upd F14 lt3 (.lst vt5)) lv (.lst vv3)) := (same_new f14).trans (same_new (by rw [upd_ne d3]; exact f14v))
        have pt14 : pM (clr (turned (sm3 m s0 z h) wd) s0 wd) (.ref lt3) (upd (upd F14 lt3 (.lst vt5)) lv (.lst vv3)) := ⟨lt3, vt5, rfl, by rw [upd_ne d3.symm]; exact upd_same, r14.up sf14⟩
        have pv14 : pMx wd wd (.ref lv) (upd (upd F14 lt3 (.lst vt5)) lv (.lst vv3)) := ⟨v3, ⟨lv, vv3, rfl, upd_same, r14v.up sf14⟩, Rv3⟩
        have k14u : (upd (upd F14 lt3 (.lst vt5)) lv (.lst vv3)) lu = none := by rw [upd_ne d2, upd_ne d4]; exact f14u
        have r14u' := r14u.up sf14
        have R5 : Rect (sm4 m s0 z h wd) h wd := turned_rect R4
        refine x_setN 4 (f := pR) (en_call (Ps := pCons (pM (clr (turned (sm3 m s0 z h) wd) s0 wd)) (pCons (pI (h : Nat)) pNil)) (ok_turned T) (by exact hr.mono (by omega)) (ea_cons (ev_v 8 rfl pt14) (ea_one (ev_v 5 rfl rfl))) (fun vs F1 sF ⟨a1, _, e1, b1, a2, _, e2, b2, e3⟩ => by
            cases e3
            cases b2
            subst e1 e2
            exact ⟨a1, clr (turned (sm3 m s0 z h) wd) s0 wd, h, rfl, b1, fun r hr => by rw [R4.w r hr]; exact Nat.le_refl _, by rw [R4.h, sizeLine_eq]; omega, hh, rfl⟩)) (fun lt4 vt6 F15 H15 g15 n15 f15 e15 r15 => ?_) f14g.s sc_smith_rows.nd
        have r15 : AllP pR vt6 (sm4 m s0 z h wd) F15 := r15
        have o15u := g15.own e14u k14u
        have nlt4 := f14g.new n15
        have d5 : lu ≠ lt4 := fun e => by rw [e, n15] at e14u; cases e14u
        have g415 := f14g.trans g15
        have pv15 := Mn.mono _ _ _ g15.f pv14
        have r15u := r14u'.up g15.f
        have rf : ∃ b ws, vt6 = .ref b :: ws := refs_of r15 (fun e => by have := R5.h; rw [e] at this; simp at this; omega)
        have fin0 : ∀ (m' : Mx) (s' n' : Nat) vt' vu' u' o9 F' H', Gw F H F' H' → F' lt4 = none → H' lt4 = some (.lst vt') → AllP pR vt' m' F' → F' lu = none → H' lu = some (.lst vu') → AllP pR vu' u' F' → Rect m' h wd → Rect u' h h → pMx wd wd (.ref lv) F' → SmRun h wd n' m' s' d → n' < n → ∃ F2 m2, Same F2 H' ∧ m2 < n ∧ ∃ vt vu vv m s o7 o8 o9', S (.ref lt4) (.ref lu) (.ref lv) s' (some v) (some (.ref lt3)) o9 = S vt vu vv s o7 o8 o9' ∧ Gw F H F2 H' ∧ pM m vt F2 ∧ Rect m h wd ∧ pMx h h vu F2 ∧ pMx wd wd vv F2 ∧ SmRun h wd m2 m s d := by
          intro m' s' n' vt' vu' u' o9 F' H' gg f1 e1 r1 f2 e2 r2 Rm3 Ru3 pv3 rn hn
          have gg2 := (gg.frz nlt4 f1 e1).frz nlu0 (by rw [upd_ne d5]; exact f2) e2
          have sf := (same_new f1 (o := .lst vt')).trans (same_new (H := upd F' lt4 (.lst vt')) (p := lu) (o := .lst vu') (by rw [upd_ne d5]; exact f2))
          exact ⟨_, n', gg2.s, hn, .ref lt4, .ref lu, .ref lv, m', s', _, _, _, rfl, gg2, ⟨lt4, vt', rfl, by rw [upd_ne d5.symm]; exact upd_same, r1.up sf⟩, Rm3, ⟨u', ⟨lu, vu', rfl, upd_same, r2.up sf⟩, Ru3⟩, Mn.mono _ _ _ sf pv3, rn⟩
        refine x_when (k := !isClear (sm4 m s0 z h wd) s0 h wd) (evt_not (evt_val (ev_frz e15 f15 free_B (ev_call (Ps := pCons (pM (sm4 m s0 z h wd)) (pCons (pI (s0 : Nat)) (pCons (pI (h : Nat)) (pCons (pI (wd : Nat)) pNil)))) (ok_is_clear T) (by exact hr.mono (by omega)) (ea_cons (ev_v 4 rfl ⟨lt4, vt6, rfl, upd_same, r15.up (same_new f15)⟩) (ea_cons (ev_v 6 rfl rfl) (ea_cons (ev_v 5 rfl rfl) (ea_one (ev_v 1 rfl rfl)))))
          (fun vs F1 sF ⟨a1, _, e1, b1, a2, _, e2, b2, a3, _, e3, b3, a4, _, e4, b4, e5⟩ => by
            cases e5
            cases b2
            cases b3
            cases b4
            subst e1 e2 e3 e4
            exact ⟨a1, _, s0, h, wd, rfl, b1, R5, hs1, hs2, hh, hw, rfl⟩))))) (fun hb3 F16 H16 g16 => ?_) (fun hb3 F16 H16 g16 => ?_) g15.s
        · have hb4 : isClear (sm4 m s0 z h wd) s0 h wd = false := by simpa using hb3
          have o16 := g16.own e15 f15
          have o16u := g16.own o15u.1 o15u.2
          obtain ⟨F17, m2, s17, h17, iv⟩ := fin0 (sm4 m s0 z h wd) s0 n' vt6 vu3 u3 o9 F16 H16 (g415.trans g16) o16.2 o16.1 (r15.up g16.f) o16u.2 o16u.1 (r15u.up g16.f) R5 Ru3 (Mn.mono _ _ _ g16.f pv15) (rDirty hb4) (by omega)
          show Sx _ _ _ F17 H16 _
          exact x_cont s17 ⟨m2, h17, iv⟩
        · have hb4 : isClear (sm4 m s0 z h wd) s0 h wd = true := by simpa using hb3
          have o16 := g16.own e15 f15
          have o16u := g16.own o15u.1 o15u.2
          refine x_set 9 (P := pI (unfit (sm4 m s0 z h wd) s0 h wd)) (ev_frz o16.1 o16.2 free_I (ev_call (Ps := pCons (pM (sm4 m s0 z h wd)) (pCons (pI (s0 : Nat)) (pCons (pI (h : Nat)) (pCons (pI (wd : Nat)) pNil)))) (ok_unfit T) (by exact hr.mono (by omega)) (ea_cons (ev_v 4 rfl ⟨lt4, vt6, rfl, upd_same, r15.up (g16.f.trans (same_new o16.2))⟩) (ea_cons (ev_v 6 rfl rfl) (ea_cons (ev_v 5 rfl rfl) (ea_one (ev_v 1 rfl rfl)))))
            (fun vs F1 sF ⟨a1, _, e1, b1, a2, _, e2, b2, a3, _, e3, b3, a4, _, e4, b4, e5⟩ => by
              cases e5
              cases b2
              cases b3
              cases b4
              subst e1 e2 e3 e4
              exact ⟨a1, _, s0, h, wd, rfl, b1, R5, hs1, hs2, hh, hw, ok.n3, rfl⟩))) (fun vq F17 H17 g17 p17 => ?_) g16.s sc_smith_rows.nd
          cases p17
          have o17 := g17.own o16.1 o16.2
          have o17u := g17.own o16u.1 o16u.2
          have r17 := r15.up (g16.f.trans g17.f)
          have r17u := r15u.up (g16.f.trans g17.f)
          have g417 := g415.trans (g16.trans g17)
          have pv17 := Mn.mono _ _ _ (g16.f.trans g17.f) pv15
          obtain ⟨w0, hw0, lw0⟩ := R5.get hs1
          obtain ⟨x0, hx0, px0⟩ := r17.get hw0
          obtain ⟨y0, hy0, ly0⟩ := Ru3.get hs1
          obtain ⟨yv0, hyv0, py0⟩ := r17u.get hy0
          have lt6 : vt6.length = h := by rw [r17.1]; exact R5.h
          have lu6 : vu3.length = h := by rw [r17u.1]; exact Ru3.h
          refine x_when (k := decide (0 ≤ unfit (sm4 m s0 z h wd) s0 h wd)) (evt_ge (ev_v 9 rfl rfl) ev_int) (fun hb5 F18 H18 g18 => ?_) (fun hb5 F18 H18 g18 => ?_) g17.s
          · have hb5 := of_decide_eq_true hb5
            obtain ⟨ui1, ui2⟩ := unfit_in hb5
            obtain ⟨uu, huu⟩ : ∃ uu : Nat, unfit (sm4 m s0 z h wd) s0 h wd = uu := ⟨(unfit (sm4 m s0 z h wd) s0 h wd).toNat, by omega⟩
            have huh : uu < h := by omega
            obtain ⟨w1, hw1, lw1⟩ := R5.get huh
            obtain ⟨x1, hx1, px1⟩ := r17.get hw1
            obtain ⟨y1, hy1, ly1⟩ := Ru3.get huh
            obtain ⟨yv1, hyv1, py1⟩ := r17u.get hy1
            have o18 := g18.own o17.1 o17.2
            have o18u := g18.own o17u.1 o17u.2
            rw [huu]
            refine x_setI (P := pR (less w0 (-1) w1)) (j := s0) (ev_call (Ps := pCons (pR w0) (pCons (pI (-1)) (pCons (pR w1) pNil))) (ok_less T) (by exact hr.mono (by omega)) (ea_cons (ev_ixO (P := pR w0) (ev_v 4 rfl rfl) (ev_v 6 rfl rfl) o18.1 (atI_nat hx0) (Mn.mono _ _ _ g18.f px0)) (ea_cons (ev_neg ev_int) (ea_one (ev_ixO (P := pR w1) (ev_v 4 rfl rfl) (ev_v 9 rfl rfl) o18.1 (atI_nat hx1) (Mn.mono _ _ _ g18.f px1)))))
              (fun vs F1 sF ⟨a1, _, e1, b1, a2, _, e2, b2, a3, _, e3, b3, e4⟩ => by
                cases e4
                cases b2
                subst e1 e2 e3
                exact ⟨_, a1, a3, w0, w1, rfl, b1, b3, by decide, by rw [lw0, sizeLine_eq]; omega, rfl⟩)) (ev_v 4 rfl rfl) (ev_v 6 rfl rfl) o18.1 o18.2 (ixNat (by rw [lt6]; exact hs1)) (fun v19 F19 H19 g19 p19 => ?_) g18.s
            have o19 := g19.own o18.1 o18.2
            have o19u := g19.own o18u.1 o18u.2
            have gA := (g417.trans (g18.trans g19)).mut (o := .lst (vt6.set s0 v19)) nlt4 o19.2
            have eAu : (upd H19 lt4 (.lst (vt6.set s0 v19))) lu = some (.lst vu3) := by rw [upd_ne d5]; exact o19u.1
            refine x_setI (P := pR (less y0 (-1) y1)) (j := s0) (ev_call (Ps := pCons (pR y0) (pCons (pI (-1)) (pCons (pR y1) pNil))) (ok_less T) (by exact hr.mono (by omega)) (ea_cons (ev_ixO (P := pR y0) (ev_v 2 rfl rfl) (ev_v 6 rfl rfl) eAu (atI_nat hyv0) (Mn.mono _ _ _ (g18.f.trans g19.f) py0)) (ea_cons (ev_neg ev_int) (ea_one (ev_ixO (P := pR y1) (ev_v 2 rfl rfl) (ev_v 9 rfl rfl) eAu (atI_nat hyv1) (Mn.mono _ _ _ (g18.f.trans g19.f) py1)))))
              (fun vs F1 sF ⟨a1, _, e1, b1, a2, _, e2, b2, a3, _, e3, b3, e4⟩ => by
                cases e4
                cases b2
                subst e1 e2 e3
                exact ⟨_, a1, a3, y0, y1, rfl, b1, b3, by decide, by rw [ly0, sizeLine_eq]; omega, rfl⟩)) (ev_v 2 rfl rfl) (ev_v 6 rfl rfl) eAu o19u.2 (ixNat (by rw [lu6]; exact hs1)) (fun v20 F20 H20 g20 p20 => ?_) gA.s
            have o20 := g20.own (p := lt4) (o := .lst (vt6.set s0 v19)) upd_same o19.2
            have o20u := g20.own eAu o19u.2
            have gB := (gA.trans g20).mut (o := .lst (vu3.set s0 v20)) nlu0 o20u.2
            have eM : smAdd (sm4 m s0 z h wd) s0 (unfit (sm4 m s0 z h wd) s0 h wd).toNat = (sm4 m s0 z h wd).set s0 (less w0 (-1) w1) := by
              unfold smAdd
              rw [huu, Int.toNat_natCast, getD_at hw0, getD_at hw1]
            obtain ⟨F21, m2, s21, h21, iv⟩ := fin0 ((sm4 m s0 z h wd).set s0 (less w0 (-1) w1)) s0 n' (vt6.set s0 v19) (vu3.set s0 v20) (u3.set s0 (less y0 (-1) y1)) (some (.int (uu : Nat))) F20 _ gB o20.2 (by rw [upd_ne d5.symm]; exact o20.1) ((r17.up (g18.f.trans (g19.f.trans g20.f))).set s0 (Mn.mono _ _ _ g20.f p19)) o20u.2 upd_same ((r17u.up (g18.f.trans (g19.f.trans g20.f))).set s0 p20)
              (R5.set (by rw [less_len, lw0, lw1, Nat.min_self])) (Ru3.set (by rw [less_len, ly0, ly1, Nat.min_self])) (Mn.mono _ _ _ (g18.f.trans (g19.f.trans g20.f)) pv17) (by rw [← eM]; exact rUnfit hb4 hb5) (by omega)
            show Sx _ _ _ F21 _ _
            exact x_cont s21 ⟨m2, h21, iv⟩
          · have hb5 := of_decide_eq_false hb5
            have o18 := g18.own o17.1 o17.2
            have o18u := g18.own o17u.1 o17u.2
            have r0n := rNext hb4 (by omega)
            have a2e : at2 (sm4 m s0 z h wd) s0 s0 = w0.getD s0 0 := by unfold at2; rw [Int.toNat_natCast, getD_at hw0]
            refine x_when (k := decide (at2 (sm4 m s0 z h wd) s0 s0 < 0)) (evt_lt (ev_ixL (ev_ixO (P := pR w0) (ev_v 4 rfl rfl) (ev_v 6 rfl rfl) o18.1 (atI_nat hx0) (Mn.mono _ _ _ g18.f px0)) (ev_v 6 rfl rfl) (by rw [a2e]; exact atI_in 0 (by omega) (by omega))) ev_int) (fun hb6 F19 H19 g19 => ?_) (fun hb6 F19 H19 g19 => ?_) g18.s
            · have hb6 := of_decide_eq_true hb6
              have o19 := g19.own o18.1 o18.2
              have o19u := g19.own o18u.1 o18u.2
              refine x_setII (P := pR (w0.map (-1 * ·))) (Q := pR (y0.map (-1 * ·))) (l := lt4) (m := lu) (vs := vt6) (ws := vu3) (n1 := (s0 : Nat)) (n2 := (s0 : Nat)) (j1 := s0) (j2 := s0) (ev_pair (ev_call (Ps := pCons (pI (-1)) (pCons (pR w0) pNil)) (ok_times_row T) (by exact hr.mono (by omega)) (ea_cons (ev_neg ev_int) (ea_one (ev_ixO (P := pR w0) (ev_v 4 rfl rfl) (ev_v 6 rfl rfl) o19.1 (atI_nat hx0) (Mn.mono _ _ _ (g18.f.trans g19.f) px0)))) (fun vs F1 sF ⟨a1, _, e1, b1, a2, _, e2, b2, e3⟩ => by
                  cases e3
                  cases b1
                  subst e1 e2
                  exact ⟨-1, a2, w0, rfl, b2, by decide, by rw [lw0, sizeLine_eq]; omega, rfl⟩))
                (ev_call (Ps := pCons (pI (-1)) (pCons (pR y0) pNil)) (ok_times_row T) (by exact hr.mono (by omega)) (ea_cons (ev_neg ev_int) (ea_one (ev_ixO (P := pR y0) (ev_v 2 rfl rfl) (ev_v 6 rfl rfl) o19u.1 (atI_nat hyv0) (Mn.mono _ _ _ (g18.f.trans g19.f) py0)))) (fun vs F1 sF ⟨a1, _, e1, b1, a2, _, e2, b2, e3⟩ => by
                  cases e3
                  cases b1
                  subst e1 e2
                  exact ⟨-1, a2, y0, rfl, b2, by decide, by rw [ly0, sizeLine_eq]; omega, rfl⟩)))
                (fun _ _ => ev_v 4 rfl rfl) (fun _ _ => ev_v 6 rfl rfl) o19.1 o19.2 (ixNat (by rw [lt6]; exact hs1)) (fun _ _ => ev_v 2 rfl rfl) (fun _ _ => ev_v 6 rfl rfl) o19u.1 o19u.2 (ixNat (by rw [lu6]; exact hs1)) d5.symm (fun v20 v21 F20 H20 m20 f20 f20u e20 e20u p20 p20u => ?_) g19.s
                (pg_tup rfl (pgs_cons (pg_sub pe_w pe_w set_list) (pgs_cons (pg_sub pe_w pe_w set_list) pgs_nil)))
              have g420 := (g417.trans (g18.trans g19)).then m20 (fun x hx => by
                simp at hx
                rcases hx with rfl | rfl
                · exact nlt4
                · exact nlu0)
              refine x_nil m20.s ?_
              show Sx (cxD P w K mg base ["rows", "width", "u", "v", "table", "height", "start", "place", "turned", "unfit", "row"] d_smith_rows cdv A outer s H E) _ _ F20 H20 _
              refine x_set 6 (P := pI ((s0 + 1 : Nat) : Int)) (Ev.is (ev_add (i := (s0 : Int)) (j := 1) (ev_v 6 rfl rfl) ev_int) (by rw [Int.natCast_add]; rfl)) (fun v22 F22 H22 g22 p22 => ?_) m20.s sc_smith_rows.nd
              cases p22
              have gf := (g18.f.trans g19.f).trans (m20.f.trans g22.f)
              have eM : smNeg (sm4 m s0 z h wd) s0 = (sm4 m s0 z h wd).set s0 (w0.map (-1 * ·)) := by
                unfold smNeg
                rw [if_pos hb6, getD_at hw0]
              obtain ⟨F23, m2, s23, h23, iv⟩ := fin0 ((sm4 m s0 z h wd).set s0 (w0.map (-1 * ·))) (s0 + 1) n' (vt6.set s0 v20) (vu3.set s0 v21) (u3.set s0 (y0.map (-1 * ·))) _ F22 H22 (g420.trans g22) (g22.own e20 f20).2 (g22.own e20 f20).1 ((r17.up gf).set s0 (Mn.mono _ _ _ g22.f p20)) (g22.own e20u f20u).2 (g22.own e20u f20u).1 ((r17u.up gf).set s0 (Mn.mono _ _ _ g22.f p20u))
                (R5.set (by rw [List.length_map, lw0])) (Ru3.set (by rw [List.length_map, ly0])) (Mn.mono _ _ _ gf pv17) (by rw [← eM]; exact r0n) (by omega)
              show Sx _ _ _ F23 _ _
              exact x_nil s23 ⟨m2, h23, iv⟩
            · have hb6 := of_decide_eq_false hb6
              have o19 := g19.own o18.1 o18.2
              have o19u := g19.own o18u.1 o18u.2
              refine x_set 6 (P := pI ((s0 + 1 : Nat) : Int)) (Ev.is (ev_add (i := (s0 : Int)) (j := 1) (ev_v 6 rfl rfl) ev_int) (by rw [Int.natCast_add]; rfl)) (fun v22 F22 H22 g22 p22 => ?_) g19.s sc_smith_rows.nd
              cases p22
              have gf := (g18.f.trans g19.f).trans g22.f
              have eM : smNeg (sm4 m s0 z h wd) s0 = sm4 m s0 z h wd := by
                unfold smNeg
                rw [if_neg hb6]
              obtain ⟨F23, m2, s23, h23, iv⟩ := fin0 (sm4 m s0 z h wd) (s0 + 1) n' vt6 vu3 u3 _ F22 H22 (g417.trans ((g18.trans g19).trans g22)) (g22.own o19.1 o19.2).2 (g22.own o19.1 o19.2).1 (r17.up gf) (g22.own o19u.1 o19u.2).2 (g22.own o19u.1 o19u.2).1 (r17u.up gf)
                R5 Ru3 (Mn.mono _ _ _ gf pv17) (by rw [← eM]; exact r0n) (by omega)
              show Sx _ _ _ F23 _ _
              exact x_nil s23 ⟨m2, h23, iv⟩
    · have hb := of_decide_eq_false hb
      have hs : min h wd ≤ s0 := by split at hb <;> omega
      have : d = m := by cases run' <;> first | rfl | omega
      subst this
      refine x_ret (P := pP3 (pMr d h wd) (pMx h h) (pMx wd wd)) (ev_triple (P := pMr d h wd) (ev_v 4 rfl ⟨Mn.mono _ _ _ g5.f pt, Rm'⟩) (ev_v 2 rfl (Mn.mono _ _ _ g5.f pu)) (ev_v 3 rfl (Mn.mono _ _ _ g5.f pv))) (fun v F8 H8 g8 p8 => ⟨g4.trans (g5.trans g8), p8⟩) g5.s

end
end K24
set_option Elab.async false
set_option linter.all false
set_option maxRecDepth 100000
set_option maxHeartbeats 4000000
set_option autoImplicit false
namespace K24
open PySem PySem.Spec PyProof.Rows L2
open PySem.W (Datum DatumOrd Holds HoldAll Tup)
section
variable {P : Program} {w : World} {K : PySem.W.Frag} {mg : Str → Option Value} {base : Heap}


abbrev pSR (r : List Int) : Pr := pS pI r
abbrev pSS (m : List (List Int)) : Pr := pS pSR m
theorem pR.sr {r : List Int} {v : V} {F : Hp} (h : pR r v F) : pSR r v F := pL.s h
theorem pTI.sr {r : List Int} {v : V} {F : Hp} (h : pTI r v F) : pSR r v F := pT.s h
theorem pS.imp {α : Type} {f g : α → Pr} {xs : List α} {v : V} {F : Hp} (h : pS f xs v F) (k : ∀ x v, f x v F → g x v F) : pS g xs v F := let ⟨a, vs, e, h, r⟩ := h; ⟨a, vs, e, h, r.imp' fun x v _ q => k x v q⟩
theorem pM.ss {m : List (List Int)} {v : V} {F : Hp} (h : pM m v F) : pSS m v F := (pL.s h).imp fun _ _ q => pL.s q
theorem pTT.ss {m : List (List Int)} {v : V} {F : Hp} (h : pTT m v F) : pSS m v F := (pT.s h).imp fun _ _ q => pT.s q
theorem pLT.ss {m : List (List Int)} {v : V} {F : Hp} (h : pL pTI m v F) : pSS m v F := (pL.s h).imp fun _ _ q => pT.s q
theorem ev_lenV {X : Cx} {e : Expr} {σ : L2.St} {F H : Hp} {p pos : Pos} {α : Type} {f : α → Pr} {xs : List α} [∀ x, Mn (f x)] {n : Nat} (hm : X.mg "len" = none) (ha : Ev X e σ F H (pS f xs)) (h : xs.length = n) (hg : Gl X "len" := by rfl) (hs : starEach [e] X.env = (false, eval e X.env) :: starEach [] X.env := by rfl) : Ev X (.Call (.Name "len" p) [e] [] pos) σ F H (pI (n : Int)) := h ▸ ev_lenS (f := f) hm ha hg hs
theorem wk_SS {X : Cx} {tg e : Expr} {σ : L2.St} {F H : Hp} {α : Type} {f : α → Pr} {xs : List α} [∀ x, Mn (f x)] {v : V} (hv : pS f xs v F) (h : ∀ P : Pr, Mn P → P v F → Ev X e σ F H P) : Wk X tg e σ F H f xs := by
  obtain ⟨a, vs, e, hl, r⟩ := hv
  rcases hl with hl | hl
  · exact wk_L (h _ inferInstance ⟨a, vs, e, hl, r⟩)
  · exact wk_T (h _ inferInstance ⟨a, vs, e, hl, r⟩)
def c_is_integer : Con := fun vs F R => ∃ i : Int, vs = [.int i] ∧ R = pB true

theorem sc_is_integer : FnScope ["value"] ["value"] d_is_integer.scope := ⟨rfl, rfl, rfl, by decide +kernel, rfl, by decide +kernel, by decide +kernel⟩
theorem ok_is_integer (T : Tx K mg) : FnD P w K mg base 1 "is_integer" (spP c_is_integer) :=
  mk_fn T (d := d_is_integer) 10 10 rfl rfl rfl rfl rfl sc_is_integer (fun _ _ _ _ _ _ us hl => match us, hl with | [_], _ => rfl) (fun vs F P h => by obtain ⟨_, e, _⟩ := h; rw [e]; rfl) fun cdv A outer s H E hr vs F R sm hc => by
    obtain ⟨i, rfl, rfl⟩ := hc
    exact x_ret (ev_and (ev_isInt (n := "int") (k := true) T.n_isinstance T.n_int (ev_v 0 rfl rfl) (by decide +kernel) (by decide +kernel)) (fun _ => ev_not (ev_isInt (n := "bool") (k := false) T.n_isinstance T.n_bool (ev_v 0 rfl rfl) (by decide +kernel) (by decide +kernel)))) (fun v F1 H1 g p => ⟨g, p⟩) sm


theorem ev_isint {X : Cx} {e : Expr} {σ : L2.St} {F H : Hp} {p pos : Pos} {i : Int} {n : Nat} (D : FnD X.prog X.w X.K X.mg X.base n "is_integer" (spP c_is_integer)) (hr : Room n X.A) (ha : Ev X e σ F H (pI i)) (hg : Gl X "is_integer" := by rfl) (hs : starEach [e] X.env = (false, eval e X.env) :: starEach [] X.env := by rfl) (hpl : (backTo pos (starEach [] X.env)).any (·.1) = false := by rfl) : Ev X (.Call (.Name "is_integer" p) [e] [] pos) σ F H (pB true) :=
  ev_call (Ps := pCons (pI i) pNil) D hr (ea_one ha hs) (fun vs F1 sF ⟨a1, _, e1, b1, e2⟩ => by
    cases e2
    cases b1
    subst e1
    exact ⟨i, rfl, rfl⟩) hg (by decide) hs hpl
def c_root_floor : Con := fun vs F R => ∃ n : Int, vs = [.int n] ∧ 0 ≤ n ∧ n < 2 ^ 64 ∧ R = pI ((Float64.isqrt n.toNat : Nat) : Int)

theorem sc_root_floor : FnScope ["n"] ["n"] d_root_floor.scope := ⟨rfl, rfl, rfl, by decide +kernel, rfl, by decide +kernel, by decide +kernel⟩
theorem ok_root_floor (T : Tx K mg) : FnD P w K mg base 1 "root_floor" (spP c_root_floor) :=
  mk_fn T (d := d_root_floor) 11 11 rfl rfl rfl rfl rfl sc_root_floor (fun _ _ _ _ _ _ us hl => match us, hl with | [_], _ => rfl) (fun vs F P h => by obtain ⟨_, e, _⟩ := h; rw [e]; rfl) fun cdv A outer s H E hr vs F R sm hc => by
    obtain ⟨n, rfl, h0, h1, rfl⟩ := hc
    refine x_skip (EvT.is (evt_lt (ev_v 0 rfl rfl) ev_int) (decide_eq_false (by omega))) (fun F1 H1 g1 => ?_) sm
    exact x_ret (ev_isqrt rfl T.isqrt (ev_v 0 rfl rfl) h0 h1) (fun v F2 H2 g2 p => ⟨g1.trans g2, p⟩) g1.s


def c_upper : Con := fun vs F R => ∃ a b : Int, vs = [.int a, .int b] ∧ b ≠ 0 ∧ b.natAbs < 2 ^ 64 ∧ R = pI (-((-a).fdiv b))

theorem sc_upper : FnScope ["a", "b"] ["a", "b"] d_upper.scope := ⟨rfl, rfl, rfl, by decide +kernel, rfl, by decide +kernel, by decide +kernel⟩
theorem ok_upper (T : Tx K mg) : FnD P w K mg base 1 "upper" (spP c_upper) :=
  mk_fn T (d := d_upper) 12 12 rfl rfl rfl rfl rfl sc_upper (fun _ _ _ _ _ _ us hl => match us, hl with | [_, _], _ => rfl) (fun vs F P h => by obtain ⟨_, _, e, _⟩ := h; rw [e]; rfl) fun cdv A outer s H E hr vs F R sm hc => by
    obtain ⟨a, b, rfl, h0, h1, rfl⟩ := hc
    exact x_ret (ev_neg (ev_fdiv (ev_neg (ev_v 0 rfl rfl)) (ev_v 1 rfl rfl) h0 h1)) (fun v F2 H2 g2 p => ⟨g2, p⟩) sm


def c_lower : Con := fun vs F R => ∃ a b : Int, vs = [.int a, .int b] ∧ b ≠ 0 ∧ b.natAbs < 2 ^ 64 ∧ R = pI (a.fdiv b)

theorem sc_lower : FnScope ["a", "b"] ["a", "b"] d_lower.scope := ⟨rfl, rfl, rfl, by decide +kernel, rfl, by decide +kernel, by decide +kernel⟩
theorem ok_lower (T : Tx K mg) : FnD P w K mg base 1 "lower" (spP c_lower) :=
  mk_fn T (d := d_lower) 13 13 rfl rfl rfl rfl rfl sc_lower (fun _ _ _ _ _ _ us hl => match us, hl with | [_, _], _ => rfl) (fun vs F P h => by obtain ⟨_, _, e, _⟩ := h; rw [e]; rfl) fun cdv A outer s H E hr vs F R sm hc => by
    obtain ⟨a, b, rfl, h0, h1, rfl⟩ := hc
    exact x_ret (ev_fdiv (ev_v 0 rfl rfl) (ev_v 1 rfl rfl) h0 h1) (fun v F2 H2 g2 p => ⟨g2, p⟩) sm


def dotI (r s : List Int) : Int := ((r.zip s).map fun z => z.1 * z.2).sum
def c_dot : Con := fun vs F R => ∃ a b r s, vs = [a, b] ∧ pTI r a F ∧ (pTI s b F ∨ pR s b F) ∧ (∀ x ∈ r, x.natAbs < 2 ^ 64) ∧ r.length ≤ 1000 ∧ R = pI (dotI r s)

theorem sc_dot : FnScope ["a", "b", "x", "y"] ["a", "b"] d_dot.scope := ⟨rfl, rfl, rfl, by decide +kernel, rfl, by decide +kernel, by decide +kernel⟩
theorem ok_dot (T : Tx K mg) : FnD P w K mg base 1 "dot" (spP c_dot) :=
  mk_fn T (d := d_dot) 14 14 rfl rfl rfl rfl rfl sc_dot (fun _ _ _ _ _ _ us hl => match us, hl with | [_, _], _ => rfl) (fun vs F P h => by obtain ⟨_, _, _, _, e, _⟩ := h; rw [e]; rfl) fun cdv A outer s H E hr vs F R sm hc => by
    obtain ⟨a, b, r, q, rfl, ha, hb, hbd, hl, rfl⟩ := hc
    have hz : (r.zip q).length ≤ sizeLine := by
      rw [List.length_zip]
      exact Nat.le_trans (Nat.min_le_left _ _) (Nat.le_trans hl (by decide))
    rcases hb with hb | hb
    · exact x_ret (ev_sumL T.n_sum rfl (en_lcP (own := [("x", 2), ("y", 3)]) (i := 2) (j := 3) (f := pI) (fun z => z.1 * z.2) (wk_zipT T.n_zip (ev_v 0 rfl ha) (ev_v 1 rfl hb)) hz rfl sc_dot.nd (blkOk_by (N := ["a", "b", "x", "y"]) (sc := d_dot.scope) (by decide +kernel)) (fun _ _ => rfl)
        (fun z z2 hm v w F1 H1 g pv pw s H' C cl fp => ev_mul (ev_v 2 rfl pv) (ev_v 3 rfl pw) (CMul.l (hbd _ (List.of_mem_zip hm).1)))
        (fun _ _ _ _ _ => pg_tup rfl (pgs_cons (pg_name (i := 2) sc_dot.nd rfl (.inl rfl)) (pgs_cons (pg_name (i := 3) sc_dot.nd rfl (.inl rfl)) pgs_nil)))).ev) (fun v F1 H1 g p => ⟨g, p⟩) sm
    · exact x_ret (ev_sumL T.n_sum rfl (en_lcP (own := [("x", 2), ("y", 3)]) (i := 2) (j := 3) (f := pI) (fun z => z.1 * z.2) (wk_zipM T.n_zip (ev_v 0 rfl ha) (ev_v 1 rfl hb)) hz rfl sc_dot.nd (blkOk_by (N := ["a", "b", "x", "y"]) (sc := d_dot.scope) (by decide +kernel)) (fun _ _ => rfl)
        (fun z z2 hm v w F1 H1 g pv pw s H' C cl fp => ev_mul (ev_v 2 rfl pv) (ev_v 3 rfl pw) (CMul.l (hbd _ (List.of_mem_zip hm).1)))
        (fun _ _ _ _ _ => pg_tup rfl (pgs_cons (pg_name (i := 2) sc_dot.nd rfl (.inl rfl)) (pgs_cons (pg_name (i := 3) sc_dot.nd rfl (.inl rfl)) pgs_nil)))).ev) (fun v F1 H1 g p => ⟨g, p⟩) sm


def c_checked : Con := fun vs F R => ∃ a m w, vs = [a, .int (w : Nat)] ∧ pSS m a F ∧ (∀ r ∈ m, r.length = w) ∧ m.length ≤ 1000 ∧ R = pTT m

theorem sc_checked : FnScope ["rows", "width", "out", "row", "item"] ["rows", "width"] d_checked.scope := ⟨rfl, rfl, rfl, by decide +kernel, rfl, by decide +kernel, by decide +kernel⟩
theorem ok_checked (T : Tx K mg) : FnD P w K mg base 2 "_checked" (spP c_checked) :=
  mk_fn T (d := d_checked) 15 15 rfl rfl rfl rfl rfl sc_checked (fun _ _ _ _ _ _ us hl => match us, hl with | [_, _], _ => rfl) (fun vs F P h => by obtain ⟨_, _, _, e, _⟩ := h; rw [e]; rfl) fun cdv A outer s H E hr vs F R sm hc => by
    obtain ⟨a, m, wd, rfl, ha, hm, hz, rfl⟩ := hc
    refine x_setN 2 (f := pTI) (xs := []) en_nil (fun l vs F1 H1 g1 n1 n2 e3 r => ?_) sm sc_checked.nd
    obtain rfl : vs = [] := List.length_eq_zero_iff.mp r.1
    let S : Option V → Option V → L2.St := fun o1 o2 => [some a, some (.int (wd : Nat)), some (.ref l), o1, o2]
    refine x_forN (i := 3) (xs := m) (pr := pSR) (fun n σ1 F2 H2 => ∃ o1 o2 ws, σ1 = S o1 o2 ∧ Gw F H F2 H2 ∧ F2 l = none ∧ H2 l = some (.lst ws) ∧ AllP pTI ws (m.take n) F2)
      (wk_SS (Mn.mono _ _ _ g1.f ha) (fun P _ hP => ev_v 0 rfl hP)) (fun F2 H2 g2 => ⟨none, none, [], rfl, g1.trans g2, (g2.own e3 n2).2, (g2.own e3 n2).1, AllP.nil⟩) ?_ ?_ g1.s PassesOwn.never rfl sc_checked.nd
    · rintro F0 n rw' σ1 F2 H2 hi s0' s2 ⟨o1, o2, ws, rfl, g2, f2, h2, r2⟩ v F3 H3 g3 pv
      have hmem := List.mem_of_getElem? hi
      have o3 := g3.own h2 f2
      refine x_skip (EvT.is (evt_or (l := false) (evt_not (evt_val (ev_isLT T.n_isinstance T.n_list T.n_tuple (ev_v 3 rfl pv)))) (fun _ => EvT.is (evt_ne (ev_lenV T.n_len (ev_v 3 rfl pv) (hm _ hmem)) (ev_v 1 rfl rfl)) (by simp))) rfl) (fun F4 H4 g4 => ?_) g3.s
      have o4 := g4.own o3.1 o3.2
      have g14 := g2.trans (g3.trans g4)
      refine x_forN (i := 4) (xs := rw') (pr := pI) (fun n2 σ1 F5 H5 => ∃ o2, σ1 = S (some v) o2 ∧ Same F0 F5 ∧ Gw F4 H4 F5 H5) (wk_SS (Mn.mono _ _ _ g4.f pv) (fun P _ hP => ev_v 3 rfl hP)) (fun F5 H5 g5 => ⟨o2, rfl, s0'.trans (g3.f.trans (g4.f.trans g5.f)), g5⟩) ?_ ?_ g4.s PassesOwn.never rfl sc_checked.nd
      · rintro F0' n2 x σ1 F5 H5 hk s0'' s5 ⟨o2, rfl, s05, g5⟩ v5 F6 H6 g6 pv6
        refine x_skip (EvT.is (evt_not (evt_val (ev_isint (ok_is_integer T) (by exact hr) (ev_v 4 rfl pv6)))) rfl) (fun F7 H7 g7 => ?_) g6.s
        exact x_nil g7.s ⟨s0''.trans (g6.f.trans g7.f), some v5, rfl, s05.trans (g6.f.trans g7.f), g5.trans (g6.trans g7)⟩
      · rintro σ1 F5 H5 s5 ⟨o2, rfl, s05, g5⟩
        have o5 := g5.own o4.1 o4.2
        refine x_app (P := pTI rw') (l := l) (vs := ws) (ev_v 2 rfl rfl) (ev_tupS T.n_tuple (ev_v 3 rfl (Mn.mono _ _ _ (g4.f.trans g5.f) pv))) o5.1 o5.2 ?_ (fun v7 F7 H7 g7 p7 => ?_) s5 (pe_bm PySem.F.plainAttrs_list PySem.F.slot_list_append ty_app mt_append pe_w pa_w)
        · rw [r2.1, sizeLine_eq]
          have := List.length_take_le' n m
          omega
        · have o7 := g7.own o5.1 o5.2
          have g17 := ((g14.trans g5).trans g7).mut n1 o7.2 (o := .lst (ws ++ [v7]))
          refine x_nil g17.s ⟨s05.trans g7.f, some v, o2, ws ++ [v7], rfl, g17, o7.2, upd_same, ?_⟩
          rw [List.take_add_one, hi]
          exact (r2.up (g3.f.trans (g4.f.trans (g5.f.trans g7.f)))).snoc p7
    · rintro σ1 F2 H2 s2 ⟨o1, o2, ws, rfl, g2, f2, h2, r2⟩
      rw [List.take_length] at r2
      exact x_ret (ev_tupO T.n_tuple (ev_v 2 rfl rfl) h2 r2) (fun v F3 H3 g3 p3 => ⟨g2.trans g3, p3⟩) s2


def c_unit_rows : Con := fun vs F R => ∃ n : Nat, vs = [.int (n : Nat)] ∧ n ≤ 1000 ∧ R = pMx n n

theorem sc_unit_rows : FnScope ["n", "i", "k"] ["n"] d_unit_rows.scope := ⟨rfl, rfl, rfl, by decide +kernel, rfl, by decide +kernel, by decide +kernel⟩
theorem ok_unit_rows (T : Tx K mg) : FnD P w K mg base 1 "_unit_rows" (spP c_unit_rows) :=
  mk_fn T (d := d_unit_rows) 16 16 rfl rfl rfl rfl rfl sc_unit_rows (fun _ _ _ _ _ _ us hl => match us, hl with | [_], _ => rfl) (fun vs F P h => by obtain ⟨_, e, _⟩ := h; rw [e]; rfl) fun cdv A outer s H E hr vs F R sm hc => by
    obtain ⟨n, rfl, hn, rfl⟩ := hc
    refine x_ret (EvN.ev (en_lc (own := [("i", 1)]) (i := 1) (f := pR) (fun i : Int => (rng 0 n).map fun k : Int => if decide (i = k) = true then (1 : Int) else 0) (wk_rng1 T.n_range (ev_v 0 rfl rfl) (by omega) (by omega)) (by rw [rng_len, sizeLine_eq]; omega) rfl sc_unit_rows.nd (blkOk_by (N := ["n", "i", "k"]) (sc := d_unit_rows.scope) (by decide +kernel)) (fun _ => rfl)
      (fun z hz v F1 H1 g pv s H' C cl fp => EvN.ev (en_lc (own := [("k", 2)]) (i := 2) (f := pI) (fun k : Int => if decide (z = k) = true then (1 : Int) else 0) (wk_rng1 T.n_range (ev_v 0 rfl rfl) (by omega) (by omega)) (by rw [rng_len, sizeLine_eq]; omega) rfl sc_unit_rows.nd (blkOk_by (N := ["n", "i", "k"]) (sc := _) (by kernel_rfl)) (fun _ => rfl)
        (fun r hr v2 F2 H2 g2 pv2 s2 H2' C2 cl2 fp2 => ev_intB T.n_int (ev_eq (ev_v 1 rfl pv) (ev_v 2 rfl pv2)))
        (fun _ _ _ _ _ => pg_name (i := 2) sc_unit_rows.nd rfl (.inl rfl)))) (fun _ _ _ _ _ => pg_name (i := 1) sc_unit_rows.nd rfl (.inr rfl)))) (fun v F1 H1 g p => ⟨g, _, p, ?_, ?_⟩) sm
    · rw [List.length_map, rng_len]
      omega
    · intro r hr
      obtain ⟨i, _, rfl⟩ := List.mem_map.mp hr
      rw [List.length_map, rng_len]
      omega

end
end K24
set_option Elab.async false
set_option linter.all false
set_option maxRecDepth 100000
set_option maxHeartbeats 4000000
set_option autoImplicit false
namespace K24
open PySem PySem.Spec PyProof.Rows L2
open PySem.W (Datum DatumOrd Holds HoldAll Tup)
section
variable {P : Program} {w : World} {K : PySem.W.Frag} {mg : Str → Option Value} {base : Heap}


theorem x_whenJ {X : Cx} {c : Expr} {rest body : List Stmt} {σ : L2.St} {F H : Hp} {G : GE} {pos : Pos} {k : Bool} (J : N3) (hc : EvT X c σ F H k) (ht : k = true → ∀ F1 H1, Gw F H F1 H1 → Sx X body σ F1 H1 { G with nx := J }) (hf : k = false → ∀ F1 H1, Gw F H F1 H1 → J σ F1 H1)
    (hj : ∀ σ F H, Same F H → J σ F H → Sx X rest σ F H G) (s : Same F H) : Sx X (.If c body [] pos :: rest) σ F H G :=
  x_when hc (fun hk F1 H1 g1 => WSs.imp (ht hk F1 H1 g1) (fun σ H ⟨F, a, b⟩ => ⟨F, a, hj σ F H a b⟩) (fun _ _ h => h) (fun _ _ h => h) (fun _ _ h => h)) (fun hk F1 H1 g1 => hj σ F1 H1 g1.s (hf hk F1 H1 g1)) s
def bareList (t : Mx) (k n : Nat) : List Int := (rng k n).filter fun i => !decide (at2 t i k = 0)
def bareRow (h r : List Int) (k : Nat) (b : Int) : List Int := (r.zip h).map fun z => (h.getD k 0 * z.1 - r.getD k 0 * z.2).fdiv b
def bareN (t : Mx) (k e : Nat) (b : Int) : Mx := t.mapIdx fun i r => if k < i ∧ i < e then bareRow (t.getD k []) r k b else r
def bareSwap (t : Mx) (k : Nat) (c : Int) : Mx := if c = k then t else swapL t k c.toNat
structure BareOk (t : Mx) (k n : Nat) (b : Int) : Prop where
  b0 : b ≠ 0
  b1 : b.natAbs < 2 ^ 64
  p : (at2 t k k).natAbs < 2 ^ 64
  q : ∀ i : Nat, k < i → i < n → (at2 t i k).natAbs < 2 ^ 64
inductive Bare (n : Nat) : Nat → Mx → Int → Int → Int → Prop
  | done {t : Mx} {sg b : Int} (h : sg.natAbs < 2 ^ 64) : Bare n n t sg b (sg * b)
  | zero {k : Nat} {t : Mx} {sg b : Int} (h : k < n) (e : bareList t k n = []) : Bare n k t sg b 0
  | step {k : Nat} {t : Mx} {sg b D c : Int} {cs : List Int} (h : k < n) (e : bareList t k n = c :: cs) (o : BareOk (bareSwap t k c) k n b) (r : Bare n (k + 1) (bareN (bareSwap t k c) k n b) (if c = k then sg else -sg) (at2 (bareSwap t k c) k k) D) : Bare n k t sg b D
theorem bareN_get (t : Mx) (k e i : Nat) (b : Int) : (bareN t k e b)[i]? = t[i]?.map fun r => if k < i ∧ i < e then bareRow (t.getD k []) r k b else r := by
  unfold bareN
  rw [List.getElem?_mapIdx]
theorem bareN_zero (t : Mx) (k : Nat) (b : Int) : bareN t k (k + 1) b = t := by
  apply List.ext_getElem?
  intro i
  rw [bareN_get]
  cases t[i]? with
  | none => rfl
  | some r => rw [Option.map_some, if_neg (by omega)]
theorem bareN_succ (t : Mx) (k e : Nat) (b : Int) (h : k < e) {r : List Int} (he : t[e]? = some r) : (bareN t k e b).set e (bareRow (t.getD k []) r k b) = bareN t k (e + 1) b := by
  apply List.ext_getElem?
  intro i
  rw [bareN_get]
  by_cases z : e = i
  · subst z
    rw [List.getElem?_set_self (by unfold bareN; rw [List.length_mapIdx]; exact (List.getElem?_eq_some_iff.mp he).1), he, Option.map_some, if_pos (by omega)]
  · rw [List.getElem?_set_ne z, bareN_get]
    cases t[i]? with
    | none => rfl
    | some r =>
      rw [Option.map_some, Option.map_some]
      by_cases q : k < i ∧ i < e
      · rw [if_pos q, if_pos (by omega)]
      · rw [if_neg q, if_neg (by omega)]
theorem bareRow_len (h r : List Int) (k : Nat) (b : Int) : (bareRow h r k b).length = min r.length h.length := by
  unfold bareRow
  rw [List.length_map, List.length_zip]
theorem Rect.bareN {t : Mx} {h w k e : Nat} {b : Int} (R : Rect t h w) (hs : k < h) : Rect (bareN t k e b) h w := by
  refine ⟨by unfold K24.bareN; rw [List.length_mapIdx]; exact R.h, fun q hq => ?_⟩
  obtain ⟨i, hi⟩ := List.getElem?_of_mem hq
  rw [bareN_get] at hi
  cases e2 : t[i]? with
  | none => rw [e2] at hi; cases hi
  | some r =>
    rw [e2, Option.map_some] at hi
    have hr := R.w r (List.mem_of_getElem? e2)
    have hq := Option.some.inj hi
    subst hq
    split
    · obtain ⟨r0, h0, h1⟩ := R.get hs
      rw [bareRow_len, hr, getD_at h0, h1, Nat.min_self]
    · exact hr
theorem Bare.le {n k : Nat} {t : Mx} {sg b D : Int} (r : Bare n k t sg b D) : k ≤ n := by cases r <;> omega
def c_determinant : Con := fun vs F R => ∃ a m n D, vs = [a] ∧ pS pTI m a F ∧ Rect m n n ∧ n ≤ 1000 ∧ Bare n 0 m 1 1 D ∧ R = pI D

theorem sc_determinant : FnScope ["rows", "table", "size", "sign", "before", "k", "chosen", "row", "head", "i", "factor", "x", "y"] ["rows"] d_determinant.scope := ⟨rfl, rfl, rfl, by decide +kernel, rfl, by decide +kernel, by decide +kernel⟩
theorem ok_determinant (T : Tx K mg) : FnD P w K mg base 1 "_determinant" (spP c_determinant) :=
  mk_fn T (d := d_determinant) 17 17 rfl rfl rfl rfl rfl sc_determinant (fun _ _ _ _ _ _ us hl => match us, hl with | [_], _ => rfl) (fun vs F P h => by obtain ⟨_, _, _, _, e, _⟩ := h; rw [e]; rfl) fun cdv A outer s H E hr vs F R sm hc => by
    obtain ⟨a, m0, n, D, rfl, ha, Rm, hn, run, rfl⟩ := hc
    refine x_setN 1 (en_lc (own := [("row", 7)]) (i := 7) (f := pR) (fun r : List Int => r) (wk_SS ha (fun P _ hP => ev_v 0 rfl hP)) (by rw [Rm.h, sizeLine_eq]; omega) rfl sc_determinant.nd (blkOk_by (N := ["rows", "table", "size", "sign", "before", "k", "chosen", "row", "head", "i", "factor", "x", "y"]) (sc := d_determinant.scope) (by decide +kernel)) (fun _ => rfl)
      (fun z hz v F1 H1 g pv s H' C cl fp => EvN.ev (en_listS T.n_list (ev_v 7 rfl (pT.s pv)))) (fun _ _ _ _ _ => pg_name (i := 7) sc_determinant.nd rfl (.inl rfl))) (fun l ts F1 H1 g1 n1 n2 e3 r => ?_) sm sc_determinant.nd
    rw [List.map_id'] at r
    refine x_set 2 (P := pI (n : Nat)) ((ev_lenO T.n_len (ev_v 1 rfl rfl) e3).is (by rw [r.1, Rm.h])) (fun v F2 H2 g2 p2 => ?_) g1.s sc_determinant.nd
    cases p2
    refine x_unpack 3 4 (P := pI 1) (Q := pI 1) (ev_pair ev_int ev_int) (fun v w' F3 H3 g3 p3 q3 => ?_) g2.s (pg_tup rfl (pgs_cons (pg_name (i := 3) sc_determinant.nd rfl (.inl rfl)) (pgs_cons (pg_name (i := 4) sc_determinant.nd rfl (.inr rfl)) pgs_nil)))
    cases p3
    cases q3
    have g23 := g2.trans g3
    have o3 := g23.own e3 n2
    let S : Int → Int → Option V → Option V → Option V → Option V → Option V → Option V → L2.St := fun sg b o5 o6 o7 o8 o9 o10 => [some a, some (.ref l), some (.int (n : Nat)), some (.int sg), some (.int b), o5, o6, o7, o8, o9, o10, none, none]
    refine x_forN (i := 5) (xs := rng 0 n) (pr := pI) (fun k σ1 F4 H4 => ∃ sg b o5 o6 o7 o8 o9 o10 ts t, σ1 = S sg b o5 o6 o7 o8 o9 o10 ∧ Gw F H F4 H4 ∧ F4 l = none ∧ H4 l = some (.lst ts) ∧ AllP pR ts t F4 ∧ Rect t n n ∧ Bare n k t sg b D)
      (wk_rng1 T.n_range (ev_v 2 rfl rfl) (by omega) (by omega)) (fun F4 H4 g4 => ⟨1, 1, none, none, none, none, none, none, ts, m0, rfl, g1.trans (g23.trans g4), (g4.own o3.1 o3.2).2, (g4.own o3.1 o3.2).1, r.up (g23.f.trans g4.f), Rm, run⟩) ?_ ?_ g3.s PassesOwn.never rfl sc_determinant.nd
    · rintro F0 kk k σ1 F4 H4 hk s0' s4 ⟨sg, b, o5, o6, o7, o8, o9, o10, ts, t, rfl, g4, f4, h4, r4, Rt, run⟩ v F5 H5 g5 pv
      cases pv
      obtain ⟨ek, hk2⟩ := rng_get hk
      have ek2 : k = (kk : Nat) := by omega
      subst ek2
      have hkn : kk < n := by omega
      have o5' := g5.own h4 f4
      have r5 := r4.up g5.f
      refine x_setLc 6 (lr_F (own := [("i", 9)]) (i := 9) (f := pI) (fun i : Int => !decide (at2 t i kk = 0)) (fun i : Int => i) (wk_rng2 T.n_range (ev_v 5 rfl rfl) (ev_v 2 rfl rfl) (by omega)) (Nat.le_trans (rng_le _ _ (by omega)) (by decide)) rfl sc_determinant.nd (blkOk_by (N := ["rows", "table", "size", "sign", "before", "k", "chosen", "row", "head", "i", "factor", "x", "y"]) (sc := d_determinant.scope) (by decide +kernel)) (fun _ => rfl)
        (fun z hz v F1 H1 g pv s H' C cl fp => by
          obtain ⟨z1, z2⟩ := mem_rng.mp hz
          have e1 := Rt.row (i := z) (by omega) z2
          obtain ⟨x, hx, px⟩ := atI_all r5 e1.1
          exact evt_ne (ev_ixL (ev_ixO (P := pR (t.getD z.toNat [])) (ev_v 1 rfl rfl) (ev_v 9 rfl pv) (g.own o5'.1 o5'.2).1 hx (Mn.mono _ _ _ g.f px)) (ev_v 5 rfl rfl) (Rt.at (by omega) z2 (by omega) (by omega))) ev_int)
        (fun z hz hb v F1 H1 g pv s H' C cl fp => ev_v 9 rfl pv) (fun _ _ _ _ _ => pg_name (i := 9) sc_determinant.nd rfl (.inl rfl))) (fun lc cs F6 H6 g6 m1 m2 m3 r6 => ?_) g5.s
      rw [List.map_id'] at r6
      have r6 : AllP pI cs (bareList t kk n) F6 := r6
      have o6' := g6.own o5'.1 o5'.2
      have g46 := g4.trans (g5.trans g6)
      refine x_when (k := decide ((cs.length : Int) = 0)) (evt_eq (ev_lenO T.n_len (ev_v 6 rfl rfl) m3) ev_int) (fun hb F7 H7 g7 => ?_) (fun hb F7 H7 g7 => ?_) g6.s
      · have hb := of_decide_eq_true hb
        have e : bareList t kk n = [] := List.length_eq_zero_iff.mp (by rw [← r6.1]; omega)
        have : D = 0 := by cases run <;> first | omega | rfl | (rename_i q _ _; rw [e] at q; cases q)
        subst this
        exact x_ret ev_int (fun v F8 H8 g8 p8 => ⟨g46.trans (g7.trans g8), p8⟩) g7.s
      · have hb := of_decide_eq_false hb
        obtain ⟨c, cs', e⟩ : ∃ c cs', bareList t kk n = c :: cs' := List.exists_cons_of_ne_nil fun e => hb (by rw [r6.1, e]; rfl)
        have hc : (kk : Int) ≤ c ∧ c < n := by
          have : c ∈ bareList t kk n := by rw [e]; exact List.mem_cons_self
          exact mem_rng.mp (List.mem_filter.mp this).1
        obtain ⟨cn, hcn⟩ : ∃ cn : Nat, c = cn := ⟨c.toNat, by omega⟩
        subst hcn
        obtain ⟨ok, run2⟩ : BareOk (bareSwap t kk cn) kk n b ∧ Bare n (kk + 1) (bareN (bareSwap t kk cn) kk n b) (if (cn : Int) = kk then sg else -sg) (at2 (bareSwap t kk cn) kk kk) D := by
          cases run with
          | done => omega
          | zero _ q => rw [e] at q; cases q
          | step _ q ok r => rw [e] at q; cases q; exact ⟨ok, r⟩
        have o7' := g7.own o6'.1 o6'.2
        have m7 := g7.own m3 m2
        have g47 := g46.trans g7
        have r7 := r5.up (g6.f.trans g7.f)
        rw [e] at r6
        have c0 : atI cs 0 = some (.int cn) := by rw [(r6.up g7.f).ints]; exact atI_nat (j := 0) rfl
        have cnn : cn < n := by omega
        obtain ⟨w0, hw0, lw0⟩ := Rt.get hkn
        obtain ⟨w1, hw1, lw1⟩ := Rt.get cnn
        obtain ⟨x0, hx0, px0⟩ := r7.get hw0
        obtain ⟨x1, hx1, px1⟩ := r7.get hw1
        have lts : ts.length = n := by rw [r7.1]; exact Rt.h
        refine x_whenJ (k := !decide ((cn : Int) = kk)) (fun σ2 F8 H8 => ∃ o7 ts1, σ2 = S (if (cn : Int) = kk then sg else -sg) b (some (.int (kk : Nat))) (some (.ref lc)) o7 o8 o9 o10 ∧ Gw F H F8 H8 ∧ Same F0 F8 ∧ F8 l = none ∧ H8 l = some (.lst ts1) ∧ AllP pR ts1 (bareSwap t kk cn) F8)
          (evt_ne (ev_ixO (P := pI cn) (ev_v 6 rfl rfl) ev_int m7.1 c0 rfl) (ev_v 5 rfl rfl)) (fun hb2 F8 H8 g8 => ?_) (fun hb2 F8 H8 g8 => ?_) ?_ g7.s
        · have hb2 : (cn : Int) ≠ kk := by simpa using hb2
          have o8' := g8.own o7'.1 o7'.2
          have m8 := g8.own m7.1 m7.2
          have dl : l ≠ lc := fun z => by rw [← z, o5'.1] at m1; cases m1
          refine x_set 7 (P := pIs x0) (ev_ixO (ev_v 1 rfl rfl) (ev_v 5 rfl rfl) o8'.1 (atI_nat hx0) rfl) (fun v F9 H9 g9 p9 => ?_) g8.s sc_determinant.nd
          cases p9
          have o9' := g9.own o8'.1 o8'.2
          have m9 := g9.own m8.1 m8.2
          refine x_setI (P := pIs x1) (j := kk) (ev_ixO (ev_v 1 rfl rfl) (ev_ixO (P := pI cn) (ev_v 6 rfl rfl) ev_int m9.1 c0 rfl) o9'.1 (atI_nat hx1) rfl) (ev_v 1 rfl rfl) (ev_v 5 rfl rfl) o9'.1 o9'.2 (ixNat (by rw [lts]; exact hkn)) (fun v F10 H10 g10 p10 => ?_) g9.s
          cases p10
          have o10' := g10.own o9'.1 o9'.2
          have m10 := g10.own m9.1 m9.2
          have gA := ((g47.trans g8).trans (g9.trans g10)).mut (o := .lst (ts.set kk x1)) n1 o10'.2
          refine x_setI (P := pIs x0) (j := cn) (ev_v 7 rfl rfl) (ev_v 1 rfl rfl) (ev_ixO (P := pI cn) (ev_v 6 rfl rfl) ev_int (by rw [upd_ne dl.symm]; exact m10.1) c0 rfl) upd_same o10'.2 (ixNat (by rw [List.length_set, lts]; exact cnn)) (fun v F11 H11 g11 p11 => ?_) gA.s
          cases p11
          have o11 := g11.own (p := l) (o := .lst (ts.set kk x1)) upd_same o10'.2
          have gB := (gA.trans g11).mut (o := .lst ((ts.set kk x1).set cn x0)) n1 o11.2
          refine x_set 3 (P := pI (-sg)) (ev_neg (ev_v 3 rfl rfl)) (fun v F12 H12 g12 p12 => ?_) gB.s sc_determinant.nd
          cases p12
          have o12 := g12.own (p := l) (o := .lst ((ts.set kk x1).set cn x0)) upd_same o11.2
          have gf := g8.f.trans (g9.f.trans (g10.f.trans (g11.f.trans g12.f)))
          refine x_nil g12.s ⟨_, _, by rw [if_neg hb2]; rfl, gB.trans g12, s0'.trans ((g5.f.trans (g6.f.trans g7.f)).trans gf), o12.2, o12.1, ?_⟩
          unfold bareSwap
          rw [if_neg hb2, Int.toNat_natCast]
          have := swapL_all (r7.up gf) kk cn (by rw [Rt.h]; exact hkn) (by rw [Rt.h]; exact cnn)
          have e2 : swapL ts kk cn = (ts.set kk x1).set cn x0 := by
            unfold swapL
            rw [hx0, hx1]
          rw [e2] at this
          exact this
        · have hb2 : (cn : Int) = kk := by simpa using hb2
          have o8' := g8.own o7'.1 o7'.2
          refine ⟨o7, ts, by rw [if_pos hb2]; rfl, g47.trans g8, s0'.trans ((g5.f.trans (g6.f.trans g7.f)).trans g8.f), o8'.2, o8'.1, ?_⟩
          unfold bareSwap
          rw [if_pos hb2]
          exact r7.up g8.f
        · rintro σ2 F8 H8 s8 ⟨o7, ts1, rfl, g8, s08, f8, h8, r8⟩
          have Rt1 : Rect (bareSwap t kk cn) n n := by
            unfold bareSwap
            split
            · exact Rt
            · exact Rt.swap _ _
          generalize bareSwap t kk cn = t1 at *
          generalize (if (cn : Int) = kk then sg else -sg) = sg1 at *
          obtain ⟨y0, hy0, ly0⟩ := Rt1.get hkn
          obtain ⟨z0, hz0, pz0⟩ := r8.get hy0
          refine x_set 8 (P := pR y0) (ev_ixO (ev_v 1 rfl rfl) (ev_v 5 rfl rfl) h8 (atI_nat hz0) pz0) (fun hv F9 H9 g9 p9 => ?_) s8 sc_determinant.nd
          have o9' := g9.own h8 f8
          have at0 : at2 t1 kk kk = y0.getD kk 0 := by unfold at2; rw [Int.toNat_natCast, getD_at hy0]
          have ix0 : atI y0 (kk : Int) = some (at2 t1 kk kk) := by rw [at0]; exact atI_in 0 (by omega) (by omega)
          refine x_forN (i := 9) (xs := rng (kk + 1 : Int) n) (pr := pI) (fun n2 σ1 F10 H10 => ∃ o9 o10 ts2, σ1 = S sg1 b (some (.int (kk : Nat))) (some (.ref lc)) o7 (some hv) o9 o10 ∧ Same F9 F10 ∧ Gw F H F10 H10 ∧ F10 l = none ∧ H10 l = some (.lst ts2) ∧ AllP pR ts2 (bareN t1 kk (kk + 1 + n2) b) F10)
            (wk_rng2 T.n_range (ev_add (ev_v 5 rfl rfl) ev_int) (ev_v 2 rfl rfl) (by omega)) (fun F10 H10 g10 => ⟨o9, o10, ts1, rfl, g10.f, g8.trans (g9.trans g10), (g10.own o9'.1 o9'.2).2, (g10.own o9'.1 o9'.2).1, by rw [Nat.add_zero, bareN_zero]; exact r8.up (g9.f.trans g10.f)⟩) ?_ ?_ g9.s PassesOwn.never rfl sc_determinant.nd
          · rintro F0' n2 i σ1 F10 H10 hi s0'' s10 ⟨o9, o10, ts2, rfl, s910, g10, f10, h10, r10⟩ v F11 H11 g11 pv
            cases pv
            obtain ⟨ei, hi2⟩ := rng_get hi
            obtain ⟨e', he'⟩ : ∃ e : Nat, e = kk + 1 + n2 := ⟨_, rfl⟩
            have ei2 : i = (e' : Nat) := by omega
            subst ei2
            rw [← he'] at r10
            have hen : e' < n := by omega
            obtain ⟨y1, hy1, ly1⟩ := Rt1.get hen
            have k1 : (bareN t1 kk e' b)[e']? = some y1 := by rw [bareN_get, hy1, Option.map_some, if_neg (by omega)]
            obtain ⟨z1, hz1, pz1⟩ := r10.get k1
            have o11 := g11.own h10 f10
            have at1 : at2 t1 e' kk = y1.getD kk 0 := by unfold at2; rw [Int.toNat_natCast, Int.toNat_natCast, getD_at hy1]
            have ix1 : atI y1 (kk : Int) = some (at2 t1 e' kk) := by rw [at1]; exact atI_in 0 (by omega) (by omega)
            refine x_set 10 (P := pI (at2 t1 e' kk)) (ev_ixL (ev_ixO (P := pR y1) (ev_v 1 rfl rfl) (ev_v 9 rfl rfl) o11.1 (atI_nat hz1) (Mn.mono _ _ _ g11.f pz1)) (ev_v 5 rfl rfl) ix1) (fun v F12 H12 g12 p12 => ?_) g11.s sc_determinant.nd
            cases p12
            have o12 := g12.own o11.1 o11.2
            have ph := Mn.mono _ _ _ (s910.trans (g11.f.trans g12.f)) p9
            refine x_setI (P := pR (bareRow y0 y1 kk b)) (j := e') (EvN.ev (en_lcP (own := [("x", 11), ("y", 12)]) (i := 11) (j := 12) (f := pI) (fun z : Int × Int => (y0.getD kk 0 * z.1 - y1.getD kk 0 * z.2).fdiv b) (wk_zipL T.n_zip (ev_ixO (P := pR y1) (ev_v 1 rfl rfl) (ev_v 9 rfl rfl) o12.1 (atI_nat hz1) (Mn.mono _ _ _ (g11.f.trans g12.f) pz1)) (ev_v 8 rfl ph))
                (by rw [List.length_zip, ly0, ly1, sizeLine_eq]; omega) rfl sc_determinant.nd (blkOk_by (N := ["rows", "table", "size", "sign", "before", "k", "chosen", "row", "head", "i", "factor", "x", "y"]) (sc := d_determinant.scope) (by decide +kernel)) (fun _ _ => rfl)
                (fun z z2 hm v w F1 H1 g pv pw s H' C cl fp => ev_fdiv (ev_sub (ev_mul (ev_ixL (ev_v 8 rfl (Mn.mono _ _ _ g.f ph)) (ev_v 5 rfl rfl) (at0 ▸ ix0)) (ev_v 11 rfl pv) (CMul.l (at0 ▸ ok.p))) (ev_mul (ev_v 10 rfl (by rw [at1]; rfl)) (ev_v 12 rfl pw) (CMul.l (at1 ▸ ok.q e' (by omega) hen)))) (ev_v 4 rfl rfl) ok.b0 ok.b1)
                (fun _ _ _ _ _ => pg_tup rfl (pgs_cons (pg_name (i := 11) sc_determinant.nd rfl (.inl rfl)) (pgs_cons (pg_name (i := 12) sc_determinant.nd rfl (.inl rfl)) pgs_nil)))))
              (ev_v 1 rfl rfl) (ev_v 9 rfl rfl) o12.1 o12.2 (ixNat (by rw [r10.1]; exact (by rw [(Rt1.bareN hkn).h]; exact hen))) (fun v F13 H13 g13 p13 => ?_) g12.s
            have o13 := g13.own o12.1 o12.2
            have gg := (((g10.trans g11).trans g12).trans g13).mut (o := .lst (ts2.set e' v)) n1 o13.2
            have gf := g11.f.trans (g12.f.trans g13.f)
            refine x_nil gg.s ⟨s0''.trans gf, some (.int (e' : Nat)), _, ts2.set e' v, rfl, s910.trans gf, gg, o13.2, upd_same, ?_⟩
            rw [show kk + 1 + (n2 + 1) = e' + 1 by omega, ← bareN_succ t1 kk e' b (by omega) hy1, getD_at hy0]
            exact (r10.up gf).set e' p13
          · rintro σ1 F10 H10 s10 ⟨o9, o10, ts2, rfl, s910, g10, f10, h10, r10⟩
            have e9 : bareN t1 kk (kk + 1 + (rng (kk + 1 : Int) n).length) b = bareN t1 kk n b := by rw [rng_len, show kk + 1 + ((n : Int) - (kk + 1)).toNat = n by omega]
            rw [e9] at r10
            refine x_set 4 (P := pI (at2 t1 kk kk)) (ev_ixL (ev_v 8 rfl (Mn.mono _ _ _ s910 p9)) (ev_v 5 rfl rfl) ix0) (fun v F11 H11 g11 p11 => ?_) s10 sc_determinant.nd
            cases p11
            have o11 := g11.own h10 f10
            exact x_nil g11.s ⟨s08.trans (g9.f.trans (s910.trans g11.f)), sg1, _, _, _, _, _, _, _, ts2, bareN t1 kk n b, rfl, g10.trans g11, o11.2, o11.1, r10.up g11.f, Rt1.bareN hkn, run2⟩
    · rintro σ1 F4 H4 s4 ⟨sg, b, o5, o6, o7, o8, o9, o10, ts, t, rfl, g4, f4, h4, r4, Rt, run⟩
      rw [rng_len, show ((n : Int) - 0).toNat = n by omega] at run
      obtain ⟨e, hs⟩ : D = sg * b ∧ sg.natAbs < 2 ^ 64 := by
        cases run with
        | done h => exact ⟨rfl, h⟩
        | zero h => omega
        | step h => omega
      subst e
      exact x_ret (ev_mul (ev_v 3 rfl rfl) (ev_v 4 rfl rfl) (CMul.l hs)) (fun v F5 H5 g5 p5 => ⟨g4.trans g5, p5⟩) s4

end
end K24
set_option Elab.async false
set_option linter.all false
set_option maxRecDepth 100000
set_option maxHeartbeats 4000000
set_option autoImplicit false
namespace K24
open PySem PySem.Spec PyProof.Rows L2
open PySem.W (Datum DatumOrd Holds HoldAll Tup)
section
variable {P : Program} {w : World} {K : PySem.W.Frag} {mg : Str → Option Value} {base : Heap}


theorem x_fld {X : Cx} {o e : Expr} {rest : List Stmt} {σ : L2.St} {F H : Hp} {P : Pr} {G : GE} {f : Str} {pos pos' : Pos} {a C dx : Addr} {fs : List (Str × V)} [Mn P] (he : Ev X e σ F H P) (ho : ∀ F H, Ev X o σ F H (pIs (.ref a))) (ha : H a = some (.ins C dx fs)) (hf : F a = none) (cl : Cls X.K C) (na : NoAttr X.K C f) (hl : fs.length < 1000)
    (k : ∀ v F1 H1, Gw F H F1 H1 → P v F1 → Sx X rest σ F1 (upd H1 a (.ins C dx (putF f v fs))) G) (s : Same F H) (hs : swapsWith e (some (.Attribute o f pos')) pos.line X.env = pure false := by rfl) : Sx X (.Assign [.Attribute o f pos'] e pos :: rest) σ F H G :=
  wss (pss_cons (ps_fld pe_w pe_w hs) pss_w) (he F H (Gw.refl s) _ fun v F1 H1 g1 p1 => ho F1 H1 F1 H1 (Gw.refl g1.s) _ fun u F2 H2 g2 p2 => by
    cases p2
    have e2 := (g1.trans g2).own ha hf
    exact ⟨a, C, dx, fs, rfl, e2.1, cl, na, hl, k v F2 H2 (g1.trans g2) (Mn.mono _ _ _ g2.f p1)⟩)
def minorL (m : Mx) (i k : Nat) : Mx := (((m.zipIdx.map fun z => (z.2, z.1)).filter fun z : Nat × List Int => !decide ((z.1 : Int) = i)).map fun z => z.2.take k ++ z.2.drop (k + 1))
def c_minor : Con := fun vs F R => ∃ a m i k, vs = [a, .int (i : Nat), .int (k : Nat)] ∧ pTT m a F ∧ m.length ≤ 1000 ∧ (∀ r ∈ m, r.length ≤ 1000) ∧ R = pL pTI (minorL m i k)

theorem sc_minor : FnScope ["rows", "i", "k", "at", "row"] ["rows", "i", "k"] d_minor.scope := ⟨rfl, rfl, rfl, by decide +kernel, rfl, by decide +kernel, by decide +kernel⟩
theorem ok_minor (T : Tx K mg) : FnD P w K mg base 1 "_minor" (spP c_minor) :=
  mk_fn T (d := d_minor) 18 18 rfl rfl rfl rfl rfl sc_minor (fun _ _ _ _ _ _ us hl => match us, hl with | [_, _, _], _ => rfl) (fun vs F P h => by obtain ⟨_, _, _, _, e, _⟩ := h; rw [e]; rfl) fun cdv A outer s H E hr vs F R sm hc => by
    obtain ⟨a, m, i, k, rfl, ha, hz, hw, rfl⟩ := hc
    refine x_ret (EvN.ev (en_lcPF (own := [("at", 3), ("row", 4)]) (i := 3) (j := 4) (pr := fun n : Nat => pI (n : Int)) (pq := pTI) (f := pTI) (fun z : Nat × List Int => !decide ((z.1 : Int) = i)) (fun z : Nat × List Int => z.2.take k ++ z.2.drop (k + 1)) (wk_enumT T.n_enumerate (ev_v 0 rfl ha))
      (by rw [List.length_map, List.length_zipIdx, sizeLine_eq]; omega) rfl sc_minor.nd (blkOk_by (N := ["rows", "i", "k", "at", "row"]) (sc := d_minor.scope) (by decide +kernel)) (fun _ _ => rfl)
      (fun z z2 hm v w F1 H1 g pv pw s H' C cl fp => evt_ne (ev_v 3 rfl pv) (ev_v 1 rfl rfl))
      (fun z z2 hm hb v w F1 H1 g pv pw s H' C cl fp => ev_catT (ev_uptoT (ev_v 4 rfl pw) (ev_v 2 rfl rfl)) (ev_fromT (ev_v 4 rfl pw) (Ev.is (ev_add (i := (k : Int)) (j := 1) (ev_v 2 rfl rfl) ev_int) (by rw [Int.natCast_add]; rfl))) (by
        obtain ⟨y, hy, e⟩ := List.mem_map.mp hm
        have hl := hw z2 (by
          have e2 : y.1 = z2 := congrArg (·.2) e
          rw [← e2]
          exact (List.mem_zipIdx hy).2.2 ▸ List.getElem_mem _)
        show (z2.take k).length + (z2.drop (k + 1)).length ≤ _
        rw [List.length_take, List.length_drop, sizeLine_eq]
        omega))
      (fun _ _ _ _ _ => pg_tup rfl (pgs_cons (pg_name (i := 3) sc_minor.nd rfl (.inl rfl)) (pgs_cons (pg_name (i := 4) sc_minor.nd rfl (.inl rfl)) pgs_nil))))) (fun v F1 H1 g p => ⟨g, p⟩) sm


/-! ### making -/
def cnG : List V → Hp → (List (Str × V) → Hp → Prop) → Prop := fun vs F R => ∃ rv wv m w, vs = [rv, wv] ∧ pSS m rv F ∧ (∀ r ∈ m, r.length = w) ∧ m.length ≤ 1000 ∧ w ≤ 1000 ∧ (wv = .int (w : Nat) ∨ (wv = .non ∧ m ≠ [])) ∧ R = fun fs F => ∃ rv, fs = [(("rows" : Str), rv), (("width" : Str), V.int w)] ∧ pTT m rv F
theorem sc_G_init : FnScope ["self", "rows", "width"] ["self", "rows", "width"] dG_init.scope := ⟨rfl, rfl, rfl, by decide +kernel, rfl, by decide +kernel, by decide +kernel⟩
theorem body_G_init (T : Tx K mg) (cdv : Value) (A : Around) (outer : List Env) (s : Shared) (H : Hp) (E : XK) (hr : Room 2 (cxD P w K mg base ["self", "rows", "width"] dG_init cdv A outer s H E).A) (vs : List V) (Q : VK) (hc : spI (cG K) cnG vs H Q E0) :
    WSs (cxD P w K mg base ["self", "rows", "width"] dG_init cdv A outer s H E) dG_init.body { nx := fun _ H' => Q .non H', rt := Q } (start ["self", "rows", "width"] vs) H := by
  obtain ⟨F, p, dx, vr, R, rfl, sm, hp, fp, ⟨rv, wv, m, wd, rfl, hm, hw, hz, hwd, hwv, rfl⟩, q⟩ := hc
  have X1 : Sx (cxD P w K mg base ["self", "rows", "width"] dG_init cdv A outer s H E) dG_init.body (start ["self", "rows", "width"] [.ref p, rv, wv]) F H { nx := fun _ _ H' => Q .non H', rt := fun v _ H' => Q v H' } := ?_
  · exact WSs.imp X1 (fun _ _ ⟨_, _, h⟩ => h) (fun _ _ ⟨_, _, h⟩ => h) (fun _ _ ⟨_, _, h⟩ => h.elim) (fun _ _ ⟨_, _, h⟩ => h.elim)
  refine x_skip (EvT.is (evt_not (evt_val (ev_isLT T.n_isinstance T.n_list T.n_tuple (ev_v 1 rfl hm)))) rfl) (fun F1 H1 g1 => ?_) sm
  have hm1 := Mn.mono _ _ _ g1.f hm
  refine x_whenJ (k := decide (wv = V.non)) (fun σ F2 H2 => σ = [some (.ref p), some rv, some (.int (wd : Nat))] ∧ Gw F H F2 H2) (evt_isN (P := pIs wv) (ev_v 2 rfl rfl) (fun v F h => by cases h; rfl)) (fun hb F2 H2 g2 => ?_) (fun hb F2 H2 g2 => ?_) ?_ g1.s
  · have hb := of_decide_eq_true hb
    rcases hwv with e | ⟨_, hne⟩
    · rw [hb] at e; cases e
    have hm2 := Mn.mono _ _ _ g2.f hm1
    refine x_set 2 (P := pI 0) ev_int (fun v F3 H3 g3 p3 => ?_) g2.s sc_G_init.nd
    cases p3
    have hm3 := Mn.mono _ _ _ g3.f hm2
    obtain ⟨r0, m', em⟩ : ∃ r0 m', m = r0 :: m' := List.exists_cons_of_ne_nil hne
    have h0 : atI m 0 = some r0 := by rw [em]; exact atI_nat (j := 0) rfl
    have l0 : r0.length = wd := hw r0 (by rw [em]; exact List.mem_cons_self)
    refine x_when (k := true) (EvT.is (evt_and (k := true) (l := true) (EvT.is (evt_gt (ev_lenS (f := pSR) T.n_len (ev_v 1 rfl hm3)) ev_int) (decide_eq_true (by rw [em, List.length_cons]; omega))) (fun _ => evt_val (ev_isLT T.n_isinstance T.n_list T.n_tuple (ev_ixS (f := pSR) (ev_v 1 rfl hm3) ev_int h0)))) rfl) (fun _ F4 H4 g4 => ?_) (fun h => nomatch h) g3.s
    refine x_set 2 (P := pI (wd : Nat)) (ev_lenV T.n_len (ev_ixS (f := pSR) (ev_v 1 rfl (Mn.mono _ _ _ g4.f hm3)) ev_int h0) l0) (fun v F5 H5 g5 p5 => ?_) g4.s sc_G_init.nd
    cases p5
    exact x_nil g5.s (x_nil g5.s ⟨rfl, g1.trans (g2.trans (g3.trans (g4.trans g5)))⟩)
  · have hb := of_decide_eq_false hb
    rcases hwv with e | ⟨e, _⟩
    · exact ⟨by rw [e]; rfl, g1.trans g2⟩
    · exact absurd e hb
  · rintro σ F2 H2 s2 ⟨rfl, g2⟩
    have o2 := g2.own hp fp
    refine x_fld (P := pTT m) (ev_call (Ps := pCons (pSS m) (pCons (pI (wd : Nat)) pNil)) (ok_checked T) (by exact hr) (ea_cons (ev_v 1 rfl (Mn.mono _ _ _ g2.f hm)) (ea_one (ev_v 2 rfl rfl))) (fun vs F1 sF ⟨a1, _, e1, b1, a2, _, e2, b2, e3⟩ => by
      cases e3
      cases b2
      subst e1 e2
      exact ⟨a1, m, wd, rfl, b1, hw, hz, rfl⟩)) (fun _ _ => ev_v 0 rfl rfl) o2.1 o2.2 T.clG T.na_rows (by decide) (fun v F3 H3 g3 p3 => ?_) s2
    have o3 := g3.own o2.1 o2.2
    have gm3 : Gm [p] F H F3 (upd H3 p (.ins (cG K) dx (putF "rows" v []))) := ((g2.trans g3).gm).mut (by simp) o3.2
    refine x_fld (P := pI (wd : Nat)) (ev_v 2 rfl rfl) (fun _ _ => ev_v 0 rfl rfl) upd_same o3.2 T.clG T.na_width (by show (1 : Nat) < 1000; decide) (fun v4 F4 H4 g4 p4 => ?_) gm3.s
    cases p4
    have o4 := g4.own (p := p) upd_same o3.2
    have gm4 : Gm [p] F H F4 (upd H4 p (.ins (cG K) dx (putF "width" (.int (wd : Nat)) (putF "rows" v [])))) := (gm3.trans g4.gm (fun x hx => by simp at hx; rw [hx, upd_same]; exact fun z => nomatch z)).mut (by simp) o4.2
    exact x_nil gm4.s (q _ F4 _ gm4 upd_same o4.2 ⟨v, rfl, Mn.mono _ _ _ g4.f p3⟩)
theorem mk_G (T : Tx K mg) : MkD P w K mg base 3 (cG K) "Grid" [] (spI (cG K) cnG) ∧ MkD P w K mg base 3 (cG K) "Grid" [.non] (spI (cG K) cnG) := by
  obtain ⟨fd, FF⟩ := T.c.def_ 46 (d := dG_init) rfl
  have e2 : dG_init.kws K = [] := rfl
  have e1 : dG_init.dvs K = [.non] := rfl
  rw [e1, e2] at FF
  have ok : FnOk P w K mg base CX0 3 (He.fAd K dG_init.at_) fd ["self", "rows", "width"] (spI (cG K) cnG) := FF.ok sc_G_init (fun vs H Q E ⟨F, p, dx, vr, R, e, _, _, _, ⟨_, _, _, _, e3, _⟩, _⟩ => by rw [e, e3]; rfl) fun cdv A outer s H vs Q E hr h => ⟨WSs (cxD P w K mg base ["self", "rows", "width"] dG_init cdv A outer s H E) dG_init.body, PSs.nox pss_w, body_G_init T cdv A outer s H E hr vs Q h⟩
  obtain ⟨ds, d1, d2⟩ := FF.binds1 (ps := ["self", "rows", "width"]) 3 1 (by simp) rfl (fun TT kV doc pm an cdv ct us its hu hi => match us, its, hu, hi with | [_, _, _], [_], _, _ => ⟨_, rfl, rfl⟩)
  obtain ⟨ds', d1', d2'⟩ := FF.binds1 (ps := ["self", "rows", "width"]) 2 0 (by simp) rfl (fun TT kV doc pm an cdv ct us its hu hi => match us, its, hu, hi with | [_, _], [_], _, _ => ⟨_, rfl, rfl⟩)
  exact ⟨⟨_, fd, _, ds, ok, T.mkG, T.g_Grid, d1, d2⟩, ⟨_, fd, _, ds', ok, T.mkG, T.g_Grid, d1', d2'⟩⟩


/-- Grid(e, w) -/
theorem ev_mkG {X : Cx} {e1 e2 : Expr} {σ : L2.St} {F H : Hp} {m : Mx} {w : Nat} {pos p : Pos} (T : Tx X.K X.mg) (hr : Room 4 X.A) (h1 : Ev X e1 σ F H (pSS m)) (h2 : Ev X e2 σ F H (pI (w : Nat))) (hw : ∀ r ∈ m, r.length = w) (hz : m.length ≤ 1000) (hz2 : w ≤ 1000)
    (hg : Gl X "Grid" := by rfl) (hs : starEach [e1, e2] X.env = (false, eval e1 X.env) :: starEach [e2] X.env := by rfl) (hs2 : starEach [e2] X.env = (false, eval e2 X.env) :: starEach [] X.env := by rfl) (hpl : (backTo pos (starEach [e2] X.env)).any (·.1) = false := by rfl) : Ev X (.Call (.Name "Grid" p) [e1, e2] [] pos) σ F H (pG X.K m w) :=
  ev_make (cn := cnG) (mk_G T).1 hr (ea_cons h1 (ea_one h2 hs2) hs) (fun vs F1 sF ⟨a1, _, e1, b1, a2, _, e2, b2, e3⟩ => by
    cases e3
    cases b2
    subst e1 e2
    exact ⟨a1, _, m, w, rfl, b1, hw, hz, hz2, .inl rfl, rfl⟩) (fun fs F1 F2 s ⟨rv, e, h⟩ => ⟨rv, e, Mn.mono _ _ _ s h⟩) hg (he := hs) (hpl := hpl)
theorem ev_mkG1 {X : Cx} {e1 : Expr} {σ : L2.St} {F H : Hp} {m : Mx} {w : Nat} {pos p : Pos} (T : Tx X.K X.mg) (hr : Room 4 X.A) (h1 : Ev X e1 σ F H (pSS m)) (hw : ∀ r ∈ m, r.length = w) (hz : m.length ≤ 1000) (hz2 : w ≤ 1000) (hm : m ≠ [])
    (hg : Gl X "Grid" := by rfl) (hs : starEach [e1] X.env = (false, eval e1 X.env) :: starEach [] X.env := by rfl) (hpl : (backTo pos (starEach [] X.env)).any (·.1) = false := by rfl) : Ev X (.Call (.Name "Grid" p) [e1] [] pos) σ F H (pG X.K m w) :=
  ev_make (cn := cnG) (mk_G T).2 hr (ea_one h1 hs) (fun vs F1 sF ⟨a1, _, e1, b1, e3⟩ => by
    cases e3
    subst e1
    exact ⟨a1, _, m, w, rfl, b1, hw, hz, hz2, .inr ⟨rfl, hm⟩, rfl⟩) (fun fs F1 F2 s ⟨rv, e, h⟩ => ⟨rv, e, Mn.mono _ _ _ s h⟩) hg (he := hs) (hpl := hpl)
def cG_len (KK : PySem.W.Frag) : Con := fun vs F R => ∃ g m w, vs = [g] ∧ pG KK m w g F ∧ R = pI (m.length : Int)

theorem sc_G_len : FnScope ["self"] ["self"] dG_len.scope := ⟨rfl, rfl, rfl, by decide +kernel, rfl, by decide +kernel, by decide +kernel⟩
theorem ok_G_len (T : Tx K mg) : MtD P w K mg base 1 (He.ga K "Grid") "__len__" (spP (cG_len K)) :=
  mk_mt T (d := dG_len) 47 72 rfl rfl rfl rfl rfl sc_G_len (fun _ _ _ _ _ _ us hl => match us, hl with | [_], _ => rfl) (fun vs F P h => by obtain ⟨_, _, _, e, _⟩ := h; rw [e]; rfl) fun cdv A outer s H E hr vs F R sm hc => by
    obtain ⟨g, m, wd, rfl, hg, rfl⟩ := hc
    exact x_ret (ev_lenT T.n_len (ev_rows T (ev_v 0 rfl hg))) (fun v F1 H1 g p => ⟨g, p⟩) sm


def cG_eq (KK : PySem.W.Frag) : Con := fun vs F R => ∃ a b m w n u, vs = [a, b] ∧ pG KK m w a F ∧ pG KK n u b F ∧ R = pB (decide (m = n) && decide ((w : Int) = u))
theorem Tx.x_parts {K : PySem.W.Frag} {mg : Str → Option Value} (T : Tx K mg) : PySem.W.selfFirst K (cG K) = true ∧ PySem.W.findIn K (.ref (cL K)) "__ne__" = some (some (.builtin "object.__ne__")) ∧ PySem.W.subIn K (.ref (cL K)) (.type "object") = some true ∧
  (PySem.W.findIn K (.ref (cG K)) "__class__" = some (some (.builtin "object.__class__")) ∧ PySem.W.mroIn K (cG K) (.type "object") = some true) ∧ (PySem.W.findIn K (.ref (cL K)) "__class__" = some (some (.builtin "object.__class__")) ∧ PySem.W.mroIn K (cL K) (.type "object") = some true) ∧
  PySem.W.specialIn K (.builtin "object.__class__") "__get__" = some (some (.builtin "getset_descriptor.__get__")) ∧ PySem.W.takesIn K (.builtin "object.__class__") = some true ∧ PySem.W.kitOne K (.type "list") (.ref (cG K)) = some false := by
  have h := T.x
  unfold exF exC at h
  simp only [Bool.and_eq_true] at h
  obtain ⟨h1, h2, h3, ⟨h4, h5⟩, ⟨h6, h7⟩, h8, h9, h10⟩ := h
  exact ⟨h1, He.eqO_ok h2, of_decide_eq_true h3, ⟨He.eqO_ok h4, of_decide_eq_true h5⟩, ⟨He.eqO_ok h6, of_decide_eq_true h7⟩, He.eqO_ok h8, of_decide_eq_true h9, of_decide_eq_true h10⟩
theorem kit_self {K : PySem.W.Frag} {C : Addr} : PySem.W.kitOne K (.ref C) (.ref C) = some true := by
  unfold PySem.W.kitOne
  rw [if_pos (by simp)]
theorem tyG {K : PySem.W.Frag} {mg : Str → Option Value} (T : Tx K mg) {m : Mx} {w : Nat} {v : V} {F H : Hp} (s : Same F H) (h : pG K m w v F) : TyX K H v (.ref (cG K)) := by
  obtain ⟨a, dx, fs, rfl, hF, _⟩ := h
  obtain ⟨_, _, _, ⟨p4, p5⟩, _, p8, p9, _⟩ := T.x_parts
  exact .base (.ins (s _ _ hF) T.clG p4 p8 p9 p5)
theorem tyL {K : PySem.W.Frag} {mg : Str → Option Value} (T : Tx K mg) {g : Mx} {v : V} {F H : Hp} (s : Same F H) (h : pLa K g v F) : TyX K H v (.ref (cL K)) := by
  obtain ⟨a, dx, fs, rfl, hF, _⟩ := h
  obtain ⟨_, _, _, _, ⟨p6, p7⟩, p8, p9, _⟩ := T.x_parts
  exact .base (.ins (s _ _ hF) T.clL p6 p8 p9 p7)

theorem sc_G_eq : FnScope ["self", "other"] ["self", "other"] dG_eq.scope := ⟨rfl, rfl, rfl, by decide +kernel, rfl, by decide +kernel, by decide +kernel⟩
theorem ok_G_eq (T : Tx K mg) : MtD P w K mg base 1 (He.ga K "Grid") "__eq__" (spP (cG_eq K)) :=
  mk_mt T (d := dG_eq) 48 73 rfl rfl rfl rfl rfl sc_G_eq (fun _ _ _ _ _ _ us hl => match us, hl with | [_, _], _ => rfl) (fun vs F P h => by obtain ⟨_, _, _, _, _, _, e, _⟩ := h; rw [e]; rfl) fun cdv A outer s H E hr vs F R sm hc => by
    obtain ⟨a, b, m, wd, n, u, rfl, ha, hb, rfl⟩ := hc
    exact x_ret (ev_and3 (ev_isi T.n_isinstance (ev_v 1 rfl hb) (ev_gref T.g_Grid) (.own _) (fun v F1 H1 s h => ⟨_, tyG T s h, kit_self⟩)) (fun _ => ev_eqD (ev_rows T (ev_v 0 rfl ha)) (ev_rows T (ev_v 1 rfl hb)) (rd_TT m) (rd_TT n) (by have := hr.units; show _ + 2 < _; omega)) (fun _ _ => ev_eq (ev_width T (ev_v 0 rfl ha)) (ev_width T (ev_v 1 rfl hb)))) (fun v F1 H1 g p => ⟨g, by
      rw [Bool.true_and] at p
      rw [show decide (m = n) = decide (toTT m = toTT n) from decide_eq_decide.mpr toTT_inj.symm]
      exact p⟩) sm

end
end K24
set_option Elab.async false
set_option linter.all false
set_option maxRecDepth 100000
set_option maxHeartbeats 4000000
set_option autoImplicit false
namespace K24
open PySem PySem.Spec PyProof.Rows L2
open PySem.W (Datum DatumOrd Holds HoldAll Tup)
section
variable {P : Program} {w : World} {K : PySem.W.Frag} {mg : Str → Option Value} {base : Heap}


theorem x_unpack3 {X : Cx} {e : Expr} {rest : List Stmt} {σ : L2.St} {F H : Hp} {P Q R : Pr} {G : GE} {p pos : Pos} (i j l : Nat) {t1 t2 t3 : Expr} {kk : Nat} (he : Ev X e σ F H (pP3 P Q R)) (k : ∀ v w u F1 H1, Gw F H F1 H1 → P v F1 → Q w F1 → R u F1 → Sx X rest (((σ.set i (some v)).set j (some w)).set l (some u)) F1 H1 G) (s : Same F H)
    (hg : PG X (.Tuple [t1, t2, t3] kk p) (gTup X.K 3 (gCons (gName i) (gCons (gName j) (gCons (gName l) gNil))))) (hs : swapsWithSole [.Tuple [t1, t2, t3] kk p] e pos.line X.env = pure false := by rfl) (hw : swappedStores [.Tuple [t1, t2, t3] kk p] e X.env = pure none := by rfl)
    (h1 : (assignEach [.Tuple [t1, t2, t3] kk p] X.env).map (·.2) = [assign (.Tuple [t1, t2, t3] kk p) X.env] := by rfl) : Sx X (.Assign [.Tuple [t1, t2, t3] kk p] e pos :: rest) σ F H G :=
  wss (pss_cons (ps_asg pe_w hg hs hw h1) pss_w) (he F H (Gw.refl s) _ fun v F1 H1 g1 ⟨a, x, y, z, ev, hF, px, py, pz⟩ => ⟨a, [x, y, z], ev, SqT.of (g1.s _ _ hF), rfl, x, [y, z], rfl, y, [z], rfl, z, [], rfl, rfl, k x y z F1 H1 g1 px py pz⟩)
def subM (m n : Mx) : Mx := (m.zip n).map fun z => (z.1.zip z.2).map fun q => q.1 - q.2
def mulM (m n : Mx) (w : Nat) : Mx := m.map fun r => (turned n w).map fun c => dotI r c
def cG_sub (KK : PySem.W.Frag) : Con := fun vs F R => ∃ a b m n h w, vs = [a, b] ∧ pG KK m w a F ∧ pG KK n w b F ∧ Rect m h w ∧ Rect n h w ∧ h ≤ 1000 ∧ w ≤ 1000 ∧ R = pG KK (subM m n) w

theorem sc_G_sub : FnScope ["self", "other", "a", "b", "x", "y"] ["self", "other"] dG_sub.scope := ⟨rfl, rfl, rfl, by decide +kernel, rfl, by decide +kernel, by decide +kernel⟩
theorem ok_G_sub (T : Tx K mg) : MtD P w K mg base 5 (He.ga K "Grid") "__sub__" (spP (cG_sub K)) :=
  mk_mt T (d := dG_sub) 49 74 rfl rfl rfl rfl rfl sc_G_sub (fun _ _ _ _ _ _ us hl => match us, hl with | [_, _], _ => rfl) (fun vs F P h => by obtain ⟨_, _, _, _, _, _, e, _⟩ := h; rw [e]; rfl) fun cdv A outer s H E hr vs F R sm hc => by
    obtain ⟨a, b, m, n, h, wd, rfl, ha, hb, Rm, Rn, hh, hw, rfl⟩ := hc
    refine x_skip (EvT.is (evt_or (l := false) (EvT.is (evt_ne (ev_lenT T.n_len (ev_rows T (ev_v 0 rfl ha))) (ev_lenT T.n_len (ev_rows T (ev_v 1 rfl hb)))) (by rw [Rm.h, Rn.h]; simp)) (fun _ => EvT.is (evt_ne (ev_width T (ev_v 0 rfl ha)) (ev_width T (ev_v 1 rfl hb))) (by simp))) (k := false || false) rfl) (fun F1 H1 g1 => ?_) sm
    refine x_ret (ev_mkG T (by exact hr) ((EvN.ev (en_lcP (own := [("a", 2), ("b", 3)]) (i := 2) (j := 3) (pr := pTI) (pq := pTI) (f := pR) (fun z : List Int × List Int => (z.1.zip z.2).map fun q => q.1 - q.2) (wk_zipT T.n_zip (ev_rows T (ev_v 0 rfl (Mn.mono _ _ _ g1.f ha))) (ev_rows T (ev_v 1 rfl (Mn.mono _ _ _ g1.f hb))))
        (by rw [List.length_zip, Rm.h, Rn.h, sizeLine_eq]; omega) rfl sc_G_sub.nd (blkOk_by (N := ["self", "other", "a", "b", "x", "y"]) (sc := dG_sub.scope) (by decide +kernel)) (fun _ _ => rfl)
        (fun z z2 hm v w F1 H1 g pv pw s H' C cl fp => EvN.ev (en_lcP (own := [("x", 4), ("y", 5)]) (i := 4) (j := 5) (f := pI) (fun q : Int × Int => q.1 - q.2) (wk_zipT T.n_zip (ev_v 2 rfl pv) (ev_v 3 rfl pw))
          (by rw [List.length_zip, Rm.w z (List.of_mem_zip hm).1, sizeLine_eq]; omega) rfl sc_G_sub.nd (blkOk_by (N := ["self", "other", "a", "b", "x", "y"]) (sc := _) (by kernel_rfl)) (fun _ _ => rfl)
          (fun q q2 hm2 v2 w2 F2 H2 g2 pv2 pw2 s2 H2' C2 cl2 fp2 => ev_sub (ev_v 4 rfl pv2) (ev_v 5 rfl pw2))
          (fun _ _ _ _ _ => pg_tup rfl (pgs_cons (pg_name (i := 4) sc_G_sub.nd rfl (.inl rfl)) (pgs_cons (pg_name (i := 5) sc_G_sub.nd rfl (.inl rfl)) pgs_nil)))))
        (fun _ _ _ _ _ => pg_tup rfl (pgs_cons (pg_name (i := 2) sc_G_sub.nd rfl (.inl rfl)) (pgs_cons (pg_name (i := 3) sc_G_sub.nd rfl (.inl rfl)) pgs_nil))))).imp fun _ _ _ q => pM.ss q) (ev_width T (ev_v 0 rfl (Mn.mono _ _ _ g1.f ha))) ?_ ?_ hw) (fun v F2 H2 g2 p => ⟨g1.trans g2, p⟩) g1.s
    · intro r hr
      obtain ⟨z, hz, rfl⟩ := List.mem_map.mp hr
      have := List.of_mem_zip (a := z.1) (b := z.2) hz
      rw [List.length_map, List.length_zip, Rm.w _ this.1, Rn.w _ this.2, Nat.min_self]
    · rw [List.length_map, List.length_zip, Rm.h, Rn.h]
      omega


def cG_mul (KK : PySem.W.Frag) : Con := fun vs F R => ∃ a b m n h l w, vs = [a, b] ∧ pG KK m l a F ∧ pG KK n w b F ∧ Rect m h l ∧ Rect n l w ∧ h ≤ 1000 ∧ l ≤ 1000 ∧ w ≤ 1000 ∧ (∀ r ∈ m, ∀ x ∈ r, x.natAbs < 2 ^ 64) ∧ R = pG KK (mulM m n w) w

theorem sc_G_mul : FnScope ["self", "other", "columns", "row", "k", "column"] ["self", "other"] dG_mul.scope := ⟨rfl, rfl, rfl, by decide +kernel, rfl, by decide +kernel, by decide +kernel⟩
theorem ok_G_mul (T : Tx K mg) : MtD P w K mg base 5 (He.ga K "Grid") "__mul__" (spP (cG_mul K)) :=
  mk_mt T (d := dG_mul) 50 75 rfl rfl rfl rfl rfl sc_G_mul (fun _ _ _ _ _ _ us hl => match us, hl with | [_, _], _ => rfl) (fun vs F P h => by obtain ⟨_, _, _, _, _, _, _, e, _⟩ := h; rw [e]; rfl) fun cdv A outer s H E hr vs F R sm hc => by
    obtain ⟨a, b, m, n, h, l, wd, rfl, ha, hb, Rm, Rn, hh, hl, hw, hbd, rfl⟩ := hc
    refine x_skip (EvT.is (evt_ne (ev_width T (ev_v 0 rfl ha)) (ev_lenT T.n_len (ev_rows T (ev_v 1 rfl hb)))) (by rw [Rn.h]; simp)) (fun F1 H1 g1 => ?_) sm
    have hb1 := Mn.mono _ _ _ g1.f hb
    refine x_setN 2 (en_lc (own := [("k", 4)]) (i := 4) (f := pR) (fun k : Int => n.map fun r : List Int => r.getD k.toNat 0) (wk_rng1 T.n_range (ev_width T (ev_v 1 rfl hb1)) (by omega) (by omega)) (by rw [rng_len, sizeLine_eq]; omega) rfl sc_G_mul.nd (blkOk_by (N := ["self", "other", "columns", "row", "k", "column"]) (sc := dG_mul.scope) (by decide +kernel)) (fun _ => rfl)
      (fun z hz v F1 H1 g pv s H' C cl fp => EvN.ev (en_lc (own := [("row", 3)]) (i := 3) (f := pI) (fun r : List Int => r.getD z.toNat 0) (wk_T (f := pTI) (ev_rows T (ev_v 1 rfl (Mn.mono _ _ _ g.f hb1)))) (by rw [Rn.h, sizeLine_eq]; omega) rfl sc_G_mul.nd (blkOk_by (N := ["self", "other", "columns", "row", "k", "column"]) (sc := _) (by kernel_rfl)) (fun _ => rfl)
        (fun r hr v2 F2 H2 g2 pv2 s2 H2' C2 cl2 fp2 => ev_ixT (ev_v 3 rfl pv2) (ev_v 4 rfl pv) (atI_in 0 (mem_rng.mp hz).1 (by have := (mem_rng.mp hz).2; have := Rn.w r hr; omega)))
        (fun _ _ _ _ _ => pg_name (i := 3) sc_G_mul.nd rfl (.inl rfl)))) (fun _ _ _ _ _ => pg_name (i := 4) sc_G_mul.nd rfl (.inr rfl))) (fun lc vs F2 H2 g2 n1 n2 e3 r => ?_) g1.s sc_G_mul.nd
    have g2' := g2.frz n1 n2 e3
    show Sx _ _ _ (upd F2 lc (.lst vs)) H2 _
    have pc : pM (turned n wd) (.ref lc) (upd F2 lc (.lst vs)) := ⟨lc, vs, rfl, upd_same, r.up (same_new n2)⟩
    have Rt := turned_rect Rn
    have ha2 := Mn.mono _ _ _ (g1.f.trans g2'.f) ha
    have hb2 := Mn.mono _ _ _ g2'.f hb1
    refine x_ret (ev_mkG T (by exact hr) ((EvN.ev (en_lc (own := [("row", 3)]) (i := 3) (f := pR) (fun r : List Int => (turned n wd).map fun c : List Int => dotI r c) (wk_T (f := pTI) (ev_rows T (ev_v 0 rfl ha2))) (by rw [Rm.h, sizeLine_eq]; omega) rfl sc_G_mul.nd (blkOk_by (N := ["self", "other", "columns", "row", "k", "column"]) (sc := dG_mul.scope) (by decide +kernel)) (fun _ => rfl)
        (fun r hrm v F1 H1 g pv s H' C cl fp => EvN.ev (en_lc (own := [("column", 5)]) (i := 5) (f := pI) (fun c : List Int => dotI r c) (wk_L (f := pR) (ev_v 2 rfl (Mn.mono _ _ _ g.f pc))) (by rw [Rt.h, sizeLine_eq]; omega) rfl sc_G_mul.nd (blkOk_by (N := ["self", "other", "columns", "row", "k", "column"]) (sc := _) (by kernel_rfl)) (fun _ => rfl)
          (fun c hc v2 F2 H2 g2 pv2 s2 H2' C2 cl2 fp2 => ev_call (Ps := pCons (pTI r) (pCons (pR c) pNil)) (ok_dot T) (by exact hr.mono (by omega)) (ea_cons (ev_v 3 rfl (Mn.mono _ _ _ g2.f pv)) (ea_one (ev_v 5 rfl pv2))) (fun vs F1 sF ⟨a1, _, e1, b1, a2, _, e2, b2, e3⟩ => by
            cases e3
            subst e1 e2
            exact ⟨a1, a2, r, c, rfl, b1, .inr b2, hbd r hrm, by rw [Rm.w r hrm]; exact hl, rfl⟩))
          (fun _ _ _ _ _ => pg_name (i := 5) sc_G_mul.nd rfl (.inl rfl)))) (fun _ _ _ _ _ => pg_name (i := 3) sc_G_mul.nd rfl (.inr rfl)))).imp fun _ _ _ q => pM.ss q) (ev_width T (ev_v 1 rfl hb2)) ?_ ?_ hw) (fun v F3 H3 g3 p => ⟨g1.trans (g2'.trans g3), p⟩) g2'.s
    · intro q hq
      obtain ⟨z, hz, rfl⟩ := List.mem_map.mp hq
      rw [List.length_map, Rt.h]
    · rw [List.length_map, Rm.h]
      exact hh


def scaleM (k : Int) (m : Mx) : Mx := m.map fun r => r.map fun x => k * x
def cG_scaled (KK : PySem.W.Frag) : Con := fun vs F R => ∃ a m k h w, vs = [a, .int k] ∧ pG KK m w a F ∧ Rect m h w ∧ h ≤ 1000 ∧ w ≤ 1000 ∧ k.natAbs < 2 ^ 64 ∧ R = pG KK (scaleM k m) w

theorem sc_G_scaled : FnScope ["self", "k", "row", "x"] ["self", "k"] dG_scaled.scope := ⟨rfl, rfl, rfl, by decide +kernel, rfl, by decide +kernel, by decide +kernel⟩
theorem ok_G_scaled (T : Tx K mg) : MtD P w K mg base 5 (He.ga K "Grid") "scaled" (spP (cG_scaled K)) :=
  mk_mt T (d := dG_scaled) 51 76 rfl rfl rfl rfl rfl sc_G_scaled (fun _ _ _ _ _ _ us hl => match us, hl with | [_, _], _ => rfl) (fun vs F P h => by obtain ⟨_, _, _, _, _, e, _⟩ := h; rw [e]; rfl) fun cdv A outer s H E hr vs F R sm hc => by
    obtain ⟨a, m, k, h, wd, rfl, ha, Rm, hh, hw, hk, rfl⟩ := hc
    refine x_ret (ev_mkG T (by exact hr) ((EvN.ev (en_lc (own := [("row", 2)]) (i := 2) (f := pR) (fun r : List Int => r.map fun x : Int => k * x) (wk_T (f := pTI) (ev_rows T (ev_v 0 rfl ha))) (by rw [Rm.h, sizeLine_eq]; omega) rfl sc_G_scaled.nd (blkOk_by (N := ["self", "k", "row", "x"]) (sc := dG_scaled.scope) (by decide +kernel)) (fun _ => rfl)
        (fun r hrm v F1 H1 g pv s H' C cl fp => EvN.ev (en_lc (own := [("x", 3)]) (i := 3) (f := pI) (fun x : Int => k * x) (wk_T (f := pI) (ev_v 2 rfl pv)) (by rw [Rm.w r hrm, sizeLine_eq]; omega) rfl sc_G_scaled.nd (blkOk_by (N := ["self", "k", "row", "x"]) (sc := _) (by kernel_rfl)) (fun _ => rfl)
          (fun c hc v2 F2 H2 g2 pv2 s2 H2' C2 cl2 fp2 => ev_mul (ev_v 1 rfl rfl) (ev_v 3 rfl pv2) (CMul.l hk))
          (fun _ _ _ _ _ => pg_name (i := 3) sc_G_scaled.nd rfl (.inl rfl)))) (fun _ _ _ _ _ => pg_name (i := 2) sc_G_scaled.nd rfl (.inl rfl)))).imp fun _ _ _ q => pM.ss q) (ev_width T (ev_v 0 rfl ha)) ?_ ?_ hw) (fun v F3 H3 g3 p => ⟨g3, p⟩) sm
    · intro q hq
      obtain ⟨z, hz, rfl⟩ := List.mem_map.mp hq
      rw [List.length_map, Rm.w z hz]
    · rw [List.length_map, Rm.h]
      exact hh


def cG_transposed (KK : PySem.W.Frag) : Con := fun vs F R => ∃ a m h w, vs = [a] ∧ pG KK m w a F ∧ Rect m h w ∧ h ≤ 1000 ∧ w ≤ 1000 ∧ R = pG KK (turned m w) h

theorem sc_G_transposed : FnScope ["self", "k", "row"] ["self"] dG_transposed.scope := ⟨rfl, rfl, rfl, by decide +kernel, rfl, by decide +kernel, by decide +kernel⟩
theorem ok_G_transposed (T : Tx K mg) : MtD P w K mg base 5 (He.ga K "Grid") "transposed" (spP (cG_transposed K)) :=
  mk_mt T (d := dG_transposed) 52 77 rfl rfl rfl rfl rfl sc_G_transposed (fun _ _ _ _ _ _ us hl => match us, hl with | [_], _ => rfl) (fun vs F P h => by obtain ⟨_, _, _, _, e, _⟩ := h; rw [e]; rfl) fun cdv A outer s H E hr vs F R sm hc => by
    obtain ⟨a, m, h, wd, rfl, ha, Rm, hh, hw, rfl⟩ := hc
    have Rt := turned_rect Rm
    refine x_ret (ev_mkG T (by exact hr) ((EvN.ev (en_lc (own := [("k", 1)]) (i := 1) (f := pR) (fun k : Int => m.map fun r : List Int => r.getD k.toNat 0) (wk_rng1 T.n_range (ev_width T (ev_v 0 rfl ha)) (by omega) (by omega)) (by rw [rng_len, sizeLine_eq]; omega) rfl sc_G_transposed.nd (blkOk_by (N := ["self", "k", "row"]) (sc := dG_transposed.scope) (by decide +kernel)) (fun _ => rfl)
      (fun z hz v F1 H1 g pv s H' C cl fp => EvN.ev (en_lc (own := [("row", 2)]) (i := 2) (f := pI) (fun r : List Int => r.getD z.toNat 0) (wk_T (f := pTI) (ev_rows T (ev_v 0 rfl (Mn.mono _ _ _ g.f ha)))) (by rw [Rm.h, sizeLine_eq]; omega) rfl sc_G_transposed.nd (blkOk_by (N := ["self", "k", "row"]) (sc := _) (by kernel_rfl)) (fun _ => rfl)
        (fun r hr v2 F2 H2 g2 pv2 s2 H2' C2 cl2 fp2 => ev_ixT (ev_v 2 rfl pv2) (ev_v 1 rfl pv) (atI_in 0 (mem_rng.mp hz).1 (by have := (mem_rng.mp hz).2; have := Rm.w r hr; omega)))
        (fun _ _ _ _ _ => pg_name (i := 2) sc_G_transposed.nd rfl (.inl rfl)))) (fun _ _ _ _ _ => pg_name (i := 1) sc_G_transposed.nd rfl (.inr rfl)))).imp fun _ _ _ q => pM.ss q) (Ev.is (ev_lenT T.n_len (ev_rows T (ev_v 0 rfl ha))) (by rw [Rm.h])) Rt.w (by show (turned m wd).length ≤ _; rw [Rt.h]; exact hw) hh) (fun v F3 H3 g3 p => ⟨g3, p⟩) sm


def cG_times (KK : PySem.W.Frag) : Con := fun vs F R => ∃ a b m q h w, vs = [a, b] ∧ pG KK m w a F ∧ pTI q b F ∧ Rect m h w ∧ q.length = w ∧ h ≤ 1000 ∧ w ≤ 1000 ∧ (∀ r ∈ m, ∀ x ∈ r, x.natAbs < 2 ^ 64) ∧ R = pTI (m.map fun r => dotI r q)

theorem sc_G_times : FnScope ["self", "row", "line"] ["self", "row"] dG_times.scope := ⟨rfl, rfl, rfl, by decide +kernel, rfl, by decide +kernel, by decide +kernel⟩
theorem ok_G_times (T : Tx K mg) : MtD P w K mg base 3 (He.ga K "Grid") "times" (spP (cG_times K)) :=
  mk_mt T (d := dG_times) 53 78 rfl rfl rfl rfl rfl sc_G_times (fun _ _ _ _ _ _ us hl => match us, hl with | [_, _], _ => rfl) (fun vs F P h => by obtain ⟨_, _, _, _, _, _, e, _⟩ := h; rw [e]; rfl) fun cdv A outer s H E hr vs F R sm hc => by
    obtain ⟨a, b, m, q, h, wd, rfl, ha, hb, Rm, hq, hh, hw, hbd, rfl⟩ := hc
    refine x_skip (EvT.is (evt_ne (ev_lenT T.n_len (ev_v 1 rfl hb)) (ev_width T (ev_v 0 rfl ha))) (by rw [hq]; simp)) (fun F1 H1 g1 => ?_) sm
    have ha1 := Mn.mono _ _ _ g1.f ha
    have hb1 := Mn.mono _ _ _ g1.f hb
    exact x_ret (ev_tupL T.n_tuple (EvN.ev (en_lc (own := [("line", 2)]) (i := 2) (f := pI) (fun r : List Int => dotI r q) (wk_T (f := pTI) (ev_rows T (ev_v 0 rfl ha1))) (by rw [Rm.h, sizeLine_eq]; omega) rfl sc_G_times.nd (blkOk_by (N := ["self", "row", "line"]) (sc := dG_times.scope) (by decide +kernel)) (fun _ => rfl)
      (fun r hrm v F1 H1 g pv s H' C cl fp => ev_call (Ps := pCons (pTI r) (pCons (pTI q) pNil)) (ok_dot T) (by exact hr.mono (by omega)) (ea_cons (ev_v 2 rfl pv) (ea_one (ev_v 1 rfl (Mn.mono _ _ _ g.f hb1)))) (fun vs F1 sF ⟨a1, _, e1, b1, a2, _, e2, b2, e3⟩ => by
        cases e3
        subst e1 e2
        exact ⟨a1, a2, r, q, rfl, b1, .inl b2, hbd r hrm, by rw [Rm.w r hrm]; exact hw, rfl⟩))
      (fun _ _ _ _ _ => pg_name (i := 2) sc_G_times.nd rfl (.inl rfl))))) (fun v F3 H3 g3 p => ⟨g1.trans g3, p⟩) g1.s


def cG_is_square (KK : PySem.W.Frag) : Con := fun vs F R => ∃ a m w, vs = [a] ∧ pG KK m w a F ∧ R = pB (decide ((m.length : Int) = w))

theorem sc_G_is_square : FnScope ["self"] ["self"] dG_is_square.scope := ⟨rfl, rfl, rfl, by decide +kernel, rfl, by decide +kernel, by decide +kernel⟩
theorem ok_G_is_square (T : Tx K mg) : MtD P w K mg base 1 (He.ga K "Grid") "is_square" (spP (cG_is_square K)) :=
  mk_mt T (d := dG_is_square) 54 79 rfl rfl rfl rfl rfl sc_G_is_square (fun _ _ _ _ _ _ us hl => match us, hl with | [_], _ => rfl) (fun vs F P h => by obtain ⟨_, _, _, e, _⟩ := h; rw [e]; rfl) fun cdv A outer s H E hr vs F R sm hc => by
    obtain ⟨a, m, wd, rfl, ha, rfl⟩ := hc
    exact x_ret (ev_eq (ev_lenT T.n_len (ev_rows T (ev_v 0 rfl ha))) (ev_width T (ev_v 0 rfl ha))) (fun v F3 H3 g3 p => ⟨g3, p⟩) sm

end
end K24
set_option Elab.async false
set_option linter.all false
set_option maxRecDepth 100000
set_option maxHeartbeats 4000000
set_option autoImplicit false
namespace K24
open PySem PySem.Spec PyProof.Rows L2
open PySem.W (Datum DatumOrd Holds HoldAll Tup)
section
variable {P : Program} {w : World} {K : PySem.W.Frag} {mg : Str → Option Value} {base : Heap}


theorem ev_det {X : Cx} {e : Expr} {σ : L2.St} {F H : Hp} {p pos : Pos} {m : Mx} {n k : Nat} {D : Int} {P : Pr} [Mn P] (O : FnD X.prog X.w X.K X.mg X.base k "_determinant" (spP c_determinant)) (hr : Room k X.A) (ha : Ev X e σ F H P) (hP : ∀ v F, P v F → pS pTI m v F) (Rm : Rect m n n) (hn : n ≤ 1000) (run : Bare n 0 m 1 1 D)
    (hg : Gl X "_determinant" := by rfl) (hs : starEach [e] X.env = (false, eval e X.env) :: starEach [] X.env := by rfl) (hpl : (backTo pos (starEach [] X.env)).any (·.1) = false := by rfl) : Ev X (.Call (.Name "_determinant" p) [e] [] pos) σ F H (pI D) :=
  ev_call (Ps := pCons P pNil) O hr (ea_one ha hs) (fun vs F1 sF ⟨a1, _, e1, b1, e2⟩ => by
    cases e2
    subst e1
    exact ⟨a1, m, n, D, rfl, hP _ _ b1, Rm, hn, run, rfl⟩) hg (by decide) hs hpl
def cG_determinant (KK : PySem.W.Frag) : Con := fun vs F R => ∃ a m n D, vs = [a] ∧ pG KK m n a F ∧ Rect m n n ∧ n ≤ 1000 ∧ Bare n 0 m 1 1 D ∧ R = pI D
theorem ev_isSq {X : Cx} {o : Expr} {σ : L2.St} {F H : Hp} {p pos : Pos} {m : Mx} {w k : Nat} {pl : Sem Bool} (T : Tx X.K X.mg) (O : MtD X.prog X.w X.K X.mg X.base k (cG X.K) "is_square" (spP (cG_is_square X.K))) (hr : Room k X.A) (ha : Ev X o σ F H (pG X.K m w)) (hm : m.length = w)
    (ht : eval (.Call (.Attribute o "is_square" p) [] [] pos) X.env = (do
      let ov ← eval o X.env
      standAt p.atName
      let (f, first) ← holding [ov] (getMethod ov "is_square" pl)
      callWith pos f first (backTo pos (starEach [] X.env)) (backToKw pos (keywordEach [] X.env))) := by rfl) : Ev X (.Call (.Attribute o "is_square" p) [] [] pos) σ F H (pB true) :=
  Ev.is (ev_meth0 (pl := pl) T.clG O hr ha (fun v F1 h => insG h (by decide)) (fun v F1 s h => ⟨v, m, w, rfl, h, rfl⟩) ht) (by rw [hm]; simp)

theorem sc_G_determinant : FnScope ["self"] ["self"] dG_determinant.scope := ⟨rfl, rfl, rfl, by decide +kernel, rfl, by decide +kernel, by decide +kernel⟩
theorem ok_G_determinant (T : Tx K mg) : MtD P w K mg base 3 (He.ga K "Grid") "determinant" (spP (cG_determinant K)) :=
  mk_mt T (d := dG_determinant) 55 80 rfl rfl rfl rfl rfl sc_G_determinant (fun _ _ _ _ _ _ us hl => match us, hl with | [_], _ => rfl) (fun vs F P h => by obtain ⟨_, _, _, _, e, _⟩ := h; rw [e]; rfl) fun cdv A outer s H E hr vs F R sm hc => by
    obtain ⟨a, m, n, D, rfl, ha, Rm, hn, run, rfl⟩ := hc
    refine x_skip (EvT.is (evt_not (evt_val (ev_isSq T (ok_G_is_square T) (by exact hr.mono (by omega)) (ev_v 0 rfl ha) Rm.h))) rfl) (fun F1 H1 g1 => ?_) sm
    exact x_ret (ev_det (ok_determinant T) (by exact hr.mono (by omega)) (ev_rows T (ev_v 0 rfl (Mn.mono _ _ _ g1.f ha))) (fun v F h => pT.s h) Rm hn run) (fun v F2 H2 g2 p => ⟨g1.trans g2, p⟩) g1.s


def adjM (n : Nat) (dd : Int → Int → Int) : Mx := (rng 0 n).map fun i => (rng 0 n).map fun k => if (i + k).fmod 2 = 1 then -dd i k else dd i k
theorem adj_rect (n : Nat) (dd : Int → Int → Int) : Rect (adjM n dd) n n := by
  refine ⟨by unfold adjM; rw [List.length_map, rng_len]; omega, fun r hr => ?_⟩
  obtain ⟨i, _, rfl⟩ := List.mem_map.mp hr
  rw [List.length_map, rng_len]
  omega
theorem minor_rect {m : Mx} {n i k : Nat} (R : Rect m n n) (hi : i < n) (hk : k < n) : Rect (minorL m i k) (n - 1) (n - 1) := by
  constructor
  · unfold minorL
    rw [List.length_map]
    have : ∀ (l : List (List Int)) (o : Nat), o ≤ i → i < o + l.length → (((l.zipIdx o).map fun z => (z.2, z.1)).filter fun z : Nat × List Int => !decide ((z.1 : Int) = i)).length = l.length - 1 := by
      intro l
      induction l with
      | nil => intro o h1 h2; simp at h2; omega
      | cons x l ih =>
        intro o h1 h2
        rw [List.zipIdx_cons, List.map_cons]
        by_cases e : o = i
        · subst e
          rw [List.filter_cons_of_neg (by simp)]
          have e2 : (((l.zipIdx (o + 1)).map fun z => (z.2, z.1)).filter fun z : Nat × List Int => !decide ((z.1 : Int) = o)) = ((l.zipIdx (o + 1)).map fun z => (z.2, z.1)) := by
            refine List.filter_eq_self.mpr fun z hz => ?_
            obtain ⟨y, hy, rfl⟩ := List.mem_map.mp hz
            have := (List.mem_zipIdx hy).1
            simp
            omega
          rw [e2, List.length_map, List.length_zipIdx]
          simp
        · rw [List.filter_cons_of_pos (by simp; omega), List.length_cons, ih (o + 1) (by omega) (by simp at h2; omega)]
          simp at h2 ⊢
          omega
    have h := this m 0 (Nat.zero_le _) (by rw [R.h]; omega)
    rw [R.h] at h
    exact h
  · intro r hr
    unfold minorL at hr
    obtain ⟨z, hz, rfl⟩ := List.mem_map.mp hr
    rw [List.mem_filter] at hz
    obtain ⟨y, hy, e⟩ := List.mem_map.mp hz.1
    have e2 : y.1 = z.2 := congrArg (·.2) e
    have hl : z.2.length = n := by
      rw [← e2]
      exact R.w _ ((List.mem_zipIdx hy).2.2 ▸ List.getElem_mem _)
    rw [List.length_append, List.length_take, List.length_drop, hl]
    omega
def cG_adjugate (KK : PySem.W.Frag) : Con := fun vs F R => ∃ a m n dd, vs = [a] ∧ pG KK m n a F ∧ Rect m n n ∧ n ≤ 1000 ∧ (∀ i k : Nat, i < n → k < n → Bare (n - 1) 0 (minorL m k i) 1 1 (dd i k)) ∧ R = pG KK (adjM n dd) n

theorem sc_G_adjugate : FnScope ["self", "out", "i", "line", "k", "minor"] ["self"] dG_adjugate.scope := ⟨rfl, rfl, rfl, by decide +kernel, rfl, by decide +kernel, by decide +kernel⟩
theorem ok_G_adjugate (T : Tx K mg) : MtD P w K mg base 5 (He.ga K "Grid") "adjugate" (spP (cG_adjugate K)) :=
  mk_mt T (d := dG_adjugate) 56 81 rfl rfl rfl rfl rfl sc_G_adjugate (fun _ _ _ _ _ _ us hl => match us, hl with | [_], _ => rfl) (fun vs F P h => by obtain ⟨_, _, _, _, e, _⟩ := h; rw [e]; rfl) fun cdv A outer s H E hr vs F R sm hc => by
    obtain ⟨a, m, n, dd, rfl, ha, Rm, hn, run, rfl⟩ := hc
    refine x_skip (EvT.is (evt_not (evt_val (ev_isSq T (ok_G_is_square T) (by exact hr.mono (by omega)) (ev_v 0 rfl ha) Rm.h))) rfl) (fun F1 H1 g1 => ?_) sm
    refine x_setN 1 (f := pR) (xs := []) en_nil (fun l vs F2 H2 g2 n1 n2 e3 r => ?_) g1.s sc_G_adjugate.nd
    obtain rfl : vs = [] := List.length_eq_zero_iff.mp r.1
    let S : Option V → Option V → Option V → Option V → L2.St := fun o2 o3 o4 o5 => [some a, some (.ref l), o2, o3, o4, o5]
    have ha2 := Mn.mono _ _ _ (g1.f.trans g2.f) ha
    have nl := g1.new n1
    refine x_forN (i := 2) (xs := rng 0 n) (pr := pI) (fun i σ1 F3 H3 => ∃ o2 o3 o4 o5 ws, σ1 = S o2 o3 o4 o5 ∧ Same F2 F3 ∧ Gw F H F3 H3 ∧ F3 l = none ∧ H3 l = some (.lst ws) ∧ AllP pR ws (((rng 0 n).take i).map fun i : Int => (rng 0 n).map fun k : Int => if (i + k).fmod 2 = 1 then -dd i k else dd i k) F3)
      (wk_rng1 T.n_range (ev_width T (ev_v 0 rfl ha2)) (by omega) (by omega)) (fun F3 H3 g3 => ⟨none, none, none, none, [], rfl, g3.f, g1.trans (g2.trans g3), (g3.own e3 n2).2, (g3.own e3 n2).1, AllP.nil⟩) ?_ ?_ g2.s PassesOwn.never rfl sc_G_adjugate.nd
    · rintro F0 ii i σ1 F3 H3 hi s0' s3 ⟨o2, o3, o4, o5, ws, rfl, s23, g3, f3, h3, r3⟩ v F4 H4 g4 pv
      cases pv
      obtain ⟨ei, hi2⟩ := rng_get hi
      have ei2 : i = (ii : Nat) := by omega
      subst ei2
      have hin : ii < n := by omega
      have o4' := g4.own h3 f3
      refine x_setN 3 (f := pI) (xs := []) en_nil (fun l2 vs2 F5 H5 g5 m1 m2 m3 r5 => ?_) g4.s sc_G_adjugate.nd
      obtain rfl : vs2 = [] := List.length_eq_zero_iff.mp r5.1
      have o5' := g5.own o4'.1 o4'.2
      have g35 := g3.trans (g4.trans g5)
      have d1 : l ≠ l2 := fun z => by rw [← z, o4'.1] at m1; cases m1
      have nl2 := (g3.trans g4).new m1
      have ha5 := Mn.mono _ _ _ (s23.trans (g4.f.trans g5.f)) ha2
      refine x_forN (i := 4) (xs := rng 0 n) (pr := pI) (fun k σ1 F6 H6 => ∃ o4 o5 ws2, σ1 = S (some (.int (ii : Nat))) (some (.ref l2)) o4 o5 ∧ Same F5 F6 ∧ Gw F H F6 H6 ∧ F6 l = none ∧ H6 l = some (.lst ws) ∧ F6 l2 = none ∧ H6 l2 = some (.lst ws2) ∧ AllP pI ws2 (((rng 0 n).take k).map fun k : Int => if ((ii : Int) + k).fmod 2 = 1 then -dd ii k else dd ii k) F6)
        (wk_rng1 T.n_range (ev_width T (ev_v 0 rfl ha5)) (by omega) (by omega)) (fun F6 H6 g6 => ⟨o4, o5, [], rfl, g6.f, g35.trans g6, (g6.own o5'.1 o5'.2).2, (g6.own o5'.1 o5'.2).1, (g6.own m3 m2).2, (g6.own m3 m2).1, AllP.nil⟩) ?_ ?_ g5.s PassesOwn.never rfl sc_G_adjugate.nd
      · rintro F0' kk k σ1 F6 H6 hk s0'' s6 ⟨o4, o5, ws2, rfl, s56, g6, f6, h6, f6', h6', r6⟩ v F7 H7 g7 pv
        cases pv
        obtain ⟨ek, hk2⟩ := rng_get hk
        have ek2 : k = (kk : Nat) := by omega
        subst ek2
        have hkn : kk < n := by omega
        have p7 := g7.own h6 f6
        have q7 := g7.own h6' f6'
        have ha7 := Mn.mono _ _ _ (s56.trans g7.f) ha5
        refine x_set 5 (P := pI (dd ii kk)) (ev_det (ok_determinant T) (by exact hr.mono (by omega)) (ev_call (P := pL pTI (minorL m kk ii)) (Ps := pCons (pTT m) (pCons (pI (kk : Nat)) (pCons (pI (ii : Nat)) pNil))) (ok_minor T) (by exact hr.mono (by omega)) (ea_cons (ev_rows T (ev_v 0 rfl ha7)) (ea_cons (ev_v 4 rfl rfl) (ea_one (ev_v 2 rfl rfl)))) (fun vs F1 sF ⟨a1, _, e1, b1, a2, _, e2, b2, a3, _, e3, b3, e4⟩ => by
            cases e4
            cases b2
            cases b3
            subst e1 e2 e3
            exact ⟨a1, m, kk, ii, rfl, b1, by rw [Rm.h]; exact hn, fun r hr => by rw [Rm.w r hr]; exact hn, rfl⟩)) (fun v F h => pL.s h) (minor_rect Rm hkn hin) (by omega) (run ii kk hin hkn)) (fun v F8 H8 g8 p8 => ?_) g7.s sc_G_adjugate.nd
        cases p8
        have p8 := g8.own p7.1 p7.2
        have q8 := g8.own q7.1 q7.2
        refine x_app (P := pI (if ((ii : Int) + kk).fmod 2 = 1 then -dd ii kk else dd ii kk)) (l := l2) (vs := ws2) (ev_v 3 rfl rfl) (ev_if (evt_eq (ev_mod (ev_add (ev_v 2 rfl rfl) (ev_v 4 rfl rfl)) ev_int (by decide)) ev_int) (fun hb => Ev.is (ev_neg (ev_v 5 rfl rfl)) (by rw [if_pos (of_decide_eq_true hb)])) (fun hb => Ev.is (P := pI (dd ii kk)) (ev_v 5 rfl rfl) (by rw [if_neg (of_decide_eq_false hb)]))) q8.1 q8.2 ?_ (fun v9 F9 H9 g9 p9 => ?_) g8.s (pe_bm PySem.F.plainAttrs_list PySem.F.slot_list_append ty_app mt_append pe_w pa_w)
        · rw [r6.1, List.length_map, sizeLine_eq]
          have := List.length_take_le' kk (rng 0 n)
          rw [rng_len] at this
          omega
        · have p9' := g9.own p8.1 p8.2
          have q9 := g9.own q8.1 q8.2
          have gg := (g6.trans (g7.trans (g8.trans g9))).mut (o := .lst (ws2 ++ [v9])) nl2 q9.2
          have gf := g7.f.trans (g8.f.trans g9.f)
          refine x_nil gg.s ⟨s0''.trans gf, _, _, ws2 ++ [v9], rfl, s56.trans gf, gg, p9'.2, by rw [upd_ne d1]; exact p9'.1, q9.2, upd_same, ?_⟩
          rw [List.take_add_one, hk, List.map_append]
          exact (r6.up gf).snoc p9
      · rintro σ1 F6 H6 s6 ⟨o4, o5, ws2, rfl, s56, g6, f6, h6, f6', h6', r6⟩
        rw [List.take_length] at r6
        have gz := g6.frz nl2 f6' h6'
        show Sx (cxD P w K mg base ["self", "out", "i", "line", "k", "minor"] dG_adjugate cdv A outer s H E) _ _ (upd F6 l2 (.lst ws2)) H6 _
        have fl : (upd F6 l2 (.lst ws2)) l = none := by rw [upd_ne d1]; exact f6
        refine x_app (P := pR ((rng 0 n).map fun k : Int => if ((ii : Int) + k).fmod 2 = 1 then -dd ii k else dd ii k)) (l := l) (vs := ws) (ev_v 1 rfl rfl) (ev_v 3 rfl ⟨l2, ws2, rfl, upd_same, r6.up (same_new f6')⟩) h6 fl ?_ (fun v9 F9 H9 g9 p9 => ?_) gz.s (pe_bm PySem.F.plainAttrs_list PySem.F.slot_list_append ty_app mt_append pe_w pa_w)
        · rw [r3.1, List.length_map, sizeLine_eq]
          have := List.length_take_le' ii (rng 0 n)
          rw [rng_len] at this
          omega
        · have p9' := g9.own h6 fl
          have gg := (gz.trans g9).mut (o := .lst (ws ++ [v9])) nl p9'.2
          have sf : Same F3 F9 := (g4.f.trans (g5.f.trans s56)).trans ((same_new f6').trans g9.f)
          refine x_nil gg.s ⟨s0'.trans sf, some (.int (ii : Nat)), some (.ref l2), o4, o5, ws ++ [v9], rfl, s23.trans sf, gg, p9'.2, upd_same, ?_⟩
          rw [List.take_add_one, hi, List.map_append]
          exact (r3.up sf).snoc p9
    · rintro σ1 F3 H3 s3 ⟨o2, o3, o4, o5, ws, rfl, s23, g3, f3, h3, r3⟩
      rw [List.take_length] at r3
      have gz := g3.frz nl f3 h3
      show Sx (cxD P w K mg base ["self", "out", "i", "line", "k", "minor"] dG_adjugate cdv A outer s H E) _ _ (upd F3 l (.lst ws)) H3 _
      have po : pM (adjM n dd) (.ref l) (upd F3 l (.lst ws)) := ⟨l, ws, rfl, upd_same, r3.up (same_new f3)⟩
      have Ra := adj_rect n dd
      exact x_ret (ev_mkG T (by exact hr) (ev_v 1 rfl (pM.ss po)) (ev_width T (ev_v 0 rfl (Mn.mono _ _ _ (s23.trans (same_new f3)) ha2))) Ra.w (by rw [Ra.h]; exact hn) hn) (fun v F4 H4 g4 p4 => ⟨gz.trans g4, p4⟩) gz.s


def cG_is_unimodular (KK : PySem.W.Frag) : Con := fun vs F R => ∃ a m n D, vs = [a] ∧ pG KK m n a F ∧ Rect m n n ∧ n ≤ 1000 ∧ Bare n 0 m 1 1 D ∧ R = pB (decide ((D.natAbs : Int) = 1))

theorem sc_G_is_unimodular : FnScope ["self"] ["self"] dG_is_unimodular.scope := ⟨rfl, rfl, rfl, by decide +kernel, rfl, by decide +kernel, by decide +kernel⟩
theorem ok_G_is_unimodular (T : Tx K mg) : MtD P w K mg base 3 (He.ga K "Grid") "is_unimodular" (spP (cG_is_unimodular K)) :=
  mk_mt T (d := dG_is_unimodular) 57 82 rfl rfl rfl rfl rfl sc_G_is_unimodular (fun _ _ _ _ _ _ us hl => match us, hl with | [_], _ => rfl) (fun vs F P h => by obtain ⟨_, _, _, _, e, _⟩ := h; rw [e]; rfl) fun cdv A outer s H E hr vs F R sm hc => by
    obtain ⟨a, m, n, D, rfl, ha, Rm, hn, run, rfl⟩ := hc
    exact x_ret (Ev.is (ev_and (ev_isSq T (ok_G_is_square T) (by exact hr.mono (by omega)) (ev_v 0 rfl ha) Rm.h) (fun _ => ev_eq (ev_abs T.n_abs (ev_det (ok_determinant T) (by exact hr.mono (by omega)) (ev_rows T (ev_v 0 rfl ha)) (fun v F h => pT.s h) Rm hn run)) ev_int)) rfl) (fun v F2 H2 g2 p => ⟨g2, p⟩) sm


def cG_inverse (KK : PySem.W.Frag) : Con := fun vs F R => ∃ a m n D dd, vs = [a] ∧ pG KK m n a F ∧ Rect m n n ∧ n ≤ 1000 ∧ Bare n 0 m 1 1 D ∧ D.natAbs = 1 ∧ (∀ i k : Nat, i < n → k < n → Bare (n - 1) 0 (minorL m k i) 1 1 (dd i k)) ∧ R = pG KK (scaleM D (adjM n dd)) n

theorem sc_G_inverse : FnScope ["self"] ["self"] dG_inverse.scope := ⟨rfl, rfl, rfl, by decide +kernel, rfl, by decide +kernel, by decide +kernel⟩
theorem ok_G_inverse (T : Tx K mg) : MtD P w K mg base 6 (He.ga K "Grid") "inverse" (spP (cG_inverse K)) :=
  mk_mt T (d := dG_inverse) 58 83 rfl rfl rfl rfl rfl sc_G_inverse (fun _ _ _ _ _ _ us hl => match us, hl with | [_], _ => rfl) (fun vs F P h => by obtain ⟨_, _, _, _, _, e, _⟩ := h; rw [e]; rfl) fun cdv A outer s H E hr vs F R sm hc => by
    obtain ⟨a, m, n, D, dd, rfl, ha, Rm, hn, run, h1, rn, rfl⟩ := hc
    refine x_skip (EvT.is (evt_not (evt_val (ev_meth0 T.clG (ok_G_is_unimodular T) (by exact hr.mono (by omega)) (ev_v 0 rfl ha) (fun v F1 h => insG h (by decide)) (fun v F1 s h => ⟨v, m, n, D, rfl, h, Rm, hn, run, rfl⟩)))) (by rw [h1]; rfl)) (fun F1 H1 g1 => ?_) sm
    have ha1 := Mn.mono _ _ _ g1.f ha
    exact x_ret (ev_meth T.clG (ok_G_scaled T) (by exact hr.mono (by omega)) (ev_meth0 T.clG (ok_G_adjugate T) (by exact hr.mono (by omega)) (ev_v 0 rfl ha1) (fun v F1 h => insG h (by decide)) (fun v F1 s h => ⟨v, m, n, dd, rfl, h, Rm, hn, rn, rfl⟩)) (ea_one (ev_det (ok_determinant T) (by exact hr.mono (by omega)) (ev_rows T (ev_v 0 rfl ha1)) (fun v F h => pT.s h) Rm hn run))
      (fun v F1 h => insG h (by decide)) (fun v vs F1 s h ⟨a2, _, e2, b2, e3⟩ => by
        cases e3
        cases b2
        subst e2
        exact ⟨v, adjM n dd, D, n, n, rfl, h, adj_rect n dd, hn, hn, by omega, rfl⟩)) (fun v F2 H2 g2 p => ⟨g1.trans g2, p⟩) g1.s

end
end K24
set_option Elab.async false
set_option linter.all false
set_option maxRecDepth 100000
set_option maxHeartbeats 4000000
set_option autoImplicit false
namespace K24
open PySem PySem.Spec PyProof.Rows L2
open PySem.W (Datum DatumOrd Holds HoldAll Tup)
section
variable {P : Program} {w : World} {K : PySem.W.Frag} {mg : Str → Option Value} {base : Heap}


def pGx (KK : PySem.W.Frag) (h w : Nat) : Pr := fun v F => ∃ m, pG KK m w v F ∧ Rect m h w
instance {KK : PySem.W.Frag} {h w : Nat} : Mn (pGx KK h w) := ⟨fun v F F' s ⟨m, p, r⟩ => ⟨m, Mn.mono _ _ _ s p, r⟩⟩
def pGr (KK : PySem.W.Frag) (d : Mx) (h w : Nat) : Pr := fun v F => pG KK d w v F ∧ Rect d h w
instance {KK : PySem.W.Frag} {d : Mx} {h w : Nat} : Mn (pGr KK d h w) := ⟨fun v F F' s ⟨p, r⟩ => ⟨Mn.mono _ _ _ s p, r⟩⟩
def cG_smith (KK : PySem.W.Frag) : Con := fun vs F R => ∃ a m h w n d, vs = [a] ∧ pG KK m w a F ∧ Rect m h w ∧ h ≤ 1000 ∧ w ≤ 1000 ∧ SmRun h w n m 0 d ∧ R = pP3 (pGr KK d h w) (pGx KK h h) (pGx KK w w)
theorem ev_unit {X : Cx} {e : Expr} {σ : L2.St} {F H : Hp} {p pos : Pos} {n k : Nat} (O : FnD X.prog X.w X.K X.mg X.base k "_unit_rows" (spP c_unit_rows)) (hr : Room k X.A) (ha : Ev X e σ F H (pI (n : Nat))) (hn : n ≤ 1000)
    (hg : Gl X "_unit_rows" := by rfl) (hs : starEach [e] X.env = (false, eval e X.env) :: starEach [] X.env := by rfl) (hpl : (backTo pos (starEach [] X.env)).any (·.1) = false := by rfl) : Ev X (.Call (.Name "_unit_rows" p) [e] [] pos) σ F H (pMx n n) :=
  ev_call (Ps := pCons (pI (n : Nat)) pNil) O hr (ea_one ha hs) (fun vs F1 sF ⟨a1, _, e1, b1, e2⟩ => by
    cases e2
    cases b1
    subst e1
    exact ⟨n, rfl, hn, rfl⟩) hg (by decide) hs hpl
/-- Grid(e, w) of a list whose rows are not told -/
theorem ev_mkGx {X : Cx} {e1 e2 : Expr} {σ : L2.St} {F H : Hp} {h w : Nat} {pos p : Pos} (T : Tx X.K X.mg) (hr : Room 4 X.A) (h1 : Ev X e1 σ F H (pMx h w)) (h2 : Ev X e2 σ F H (pI (w : Nat))) (hz : h ≤ 1000) (hz2 : w ≤ 1000)
    (hg : Gl X "Grid" := by rfl) (hs : starEach [e1, e2] X.env = (false, eval e1 X.env) :: starEach [e2] X.env := by rfl) (hs2 : starEach [e2] X.env = (false, eval e2 X.env) :: starEach [] X.env := by rfl) (hpl : (backTo pos (starEach [e2] X.env)).any (·.1) = false := by rfl) : Ev X (.Call (.Name "Grid" p) [e1, e2] [] pos) σ F H (pGx X.K h w) := fun F1 H1 g1 Q q => by
  obtain ⟨f, fd, ps, ds, D1, D2, D3, D4, D5⟩ := (mk_G (P := X.prog) (w := X.w) (base := X.base) T).1.ex
  have hd : ds = [] := by cases D4; rfl
  subst hd
  refine we (pe_make D2 D1 hr hg D3 D5 .nil pass0 pa_w (by decide) hs hpl) ((ea_cons h1 (ea_one h2 hs2) hs) F1 H1 g1 _ fun vs F2 H2 g2 pv => ?_)
  obtain ⟨a1, _, rfl, ⟨m, pm, Rm⟩, a2, _, rfl, b2, e3⟩ := pv
  cases e3
  cases b2
  intro y dx ny nd ne
  have fy : F2 y = none := g2.s.free ny
  have nyd : y ≠ dx := fun z => ne z.symm
  have e1 : ∀ b u, H2 b = some u → (upd (upd H2 dx (.own y)) y (.ins (cG X.K) dx [])) b = some u := fun b u q => by
    rw [upd_ne (ne_of_none q ny), upd_ne (ne_of_none q nd)]
    exact q
  refine ⟨F2, y, dx, _, _, rfl, fun b u q => e1 b u (g2.s b u q), upd_same, fy, ⟨a1, _, m, w, rfl, pM.ss pm, Rm.w, by rw [Rm.h]; exact hz, hz2, .inl rfl, rfl⟩, fun fs F3 H3 g3 e3 n3 r3 => ⟨rfl, q _ (upd F3 y (.ins (cG X.K) dx fs)) H3 (g2.trans ?_) ⟨m, ⟨y, dx, fs, rfl, upd_same, ?_⟩, Rm⟩⟩⟩
  · refine ⟨g3.f.trans (same_new n3), fun b u q => g3.h b u (fun z => ?_) (e1 b u q), fun b u q => ?_, fun b hb => ?_⟩
    · rw [List.mem_singleton] at z
      rw [z, ny] at q
      cases q
    · by_cases z : b = y
      · rw [z, upd_same] at q
        rw [z, e3, ← q]
      · rw [upd_ne z] at q
        exact g3.s b u q
    · have z : b ≠ y := fun z => hb (by rw [z]; exact ny)
      rw [upd_ne z]
      refine g3.n b fun q => ?_
      cases r : H2 b with
      | none => exact hb r
      | some u =>
        rw [e1 b u r] at q
        cases q
  · obtain ⟨rv, er, hr⟩ := r3
    exact ⟨rv, er, Mn.mono _ _ _ (same_new n3) hr⟩

/-- transposed() of a square whose rows are not told -/
theorem ev_methX {X : Cx} {e : Expr} {σ : L2.St} {F H : Hp} {p pos : Pos} {w k : Nat} {pl : Sem Bool} (T : Tx X.K X.mg) (O : MtD X.prog X.w X.K X.mg X.base k (cG X.K) "transposed" (spP (cG_transposed X.K))) (hr : Room k X.A) (ha : Ev X e σ F H (pGx X.K w w)) (hw : w ≤ 1000)
    (ht : eval (.Call (.Attribute e "transposed" p) [] [] pos) X.env = (do
      let ov ← eval e X.env
      standAt p.atName
      let (f, first) ← holding [ov] (getMethod ov "transposed" pl)
      callWith pos f first (backTo pos (starEach [] X.env)) (backToKw pos (keywordEach [] X.env))) := by rfl) : Ev X (.Call (.Attribute e "transposed" p) [] [] pos) σ F H (pGx X.K w w) := fun F1 H1 g1 Q q => by
  obtain ⟨f, fd, ps, D1, D2, D4⟩ := O.ex
  refine we (pe_meth0 (pl := pl) pe_w T.clG D2 D1 hr D4 .nil pass0 ht) (ha F1 H1 g1 _ fun v F2 H2 g2 ⟨m, pm, Rm⟩ => ?_)
  obtain ⟨a, dx, fs, rfl, hF, hl⟩ := insG (m := "transposed") pm (by decide)
  exact ⟨a, dx, fs, rfl, g2.s _ _ hF, hl, F2, pG X.K (turned m w) w, g2.s, ⟨_, m, w, w, rfl, pm, Rm, hw, hw, rfl⟩, fun v F4 H4 g4 p4 => q v F4 H4 (g2.trans g4) ⟨turned m w, p4, turned_rect Rm⟩⟩
theorem sc_G_smith : FnScope ["self", "size", "table", "u", "v"] ["self"] dG_smith.scope := ⟨rfl, rfl, rfl, by decide +kernel, rfl, by decide +kernel, by decide +kernel⟩
theorem ok_G_smith (T : Tx K mg) : MtD P w K mg base 6 (He.ga K "Grid") "smith" (spP (cG_smith K)) :=
  mk_mt T (d := dG_smith) 59 84 rfl rfl rfl rfl rfl sc_G_smith (fun _ _ _ _ _ _ us hl => match us, hl with | [_], _ => rfl) (fun vs F P h => by obtain ⟨_, _, _, _, _, _, e, _⟩ := h; rw [e]; rfl) fun cdv A outer s H E hr vs F R sm hc => by
    obtain ⟨a, m, h, wd, n, d, rfl, ha, Rm, hh, hw, run, rfl⟩ := hc
    refine x_set 1 (P := pI (h : Nat)) (Ev.is (ev_lenT T.n_len (ev_rows T (ev_v 0 rfl ha))) (by rw [Rm.h])) (fun v1 F1 H1 g1 p1 => ?_) sm sc_G_smith.nd
    cases p1
    have ha1 := Mn.mono _ _ _ g1.f ha
    refine x_unpack3 2 3 4 (P := pMr d h wd) (Q := pMx h h) (R := pMx wd wd) (ev_call (Ps := pCons (pTT m) (pCons (pI (wd : Nat)) (pCons (pMx h h) (pCons (pMx wd wd) pNil)))) (ok_smith_rows T) (by exact hr.mono (by omega)) (ea_cons (ev_rows T (ev_v 0 rfl ha1)) (ea_cons (ev_width T (ev_v 0 rfl ha1)) (ea_cons (ev_unit (ok_unit_rows T) (by exact hr.mono (by omega)) (ev_v 1 rfl rfl) hh) (ea_one (ev_unit (ok_unit_rows T) (by exact hr.mono (by omega)) (ev_width T (ev_v 0 rfl ha1)) hw)))))
      (fun vs F1 sF ⟨a1, _, e1, b1, a2, _, e2, b2, a3, _, e3, b3, a4, _, e4, b4, e5⟩ => by
        cases e5
        cases b2
        subst e1 e2 e3 e4
        exact ⟨a1, a3, a4, m, h, wd, n, d, rfl, b1, Rm, hh, hw, b3, b4, run, rfl⟩)) (fun vt vu vv F2 H2 g2 pt pu pv => ?_) g1.s
      (pg_tup rfl (pgs_cons (pg_name (i := 2) sc_G_smith.nd rfl (.inl rfl)) (pgs_cons (pg_name (i := 3) sc_G_smith.nd rfl (.inl rfl)) (pgs_cons (pg_name (i := 4) sc_G_smith.nd rfl (.inl rfl)) pgs_nil))))
    obtain ⟨pt, Rd⟩ := pt
    have ha2 := Mn.mono _ _ _ g2.f ha1
    exact x_ret (ev_triple (P := pGr K d h wd) (R := pGx K h h) (Pa := pGx K wd wd) ((ev_mkG T (by exact hr.mono (by omega)) (ev_v 2 rfl (pM.ss pt)) (ev_width T (ev_v 0 rfl ha2)) Rd.w (by rw [Rd.h]; exact hh) hw).imp fun v F1 s q => ⟨q, Rd⟩) (ev_mkGx T (by exact hr.mono (by omega)) (ev_v 3 rfl pu) (ev_v 1 rfl rfl) hh hh)
      (ev_methX T (ok_G_transposed T) (by exact hr.mono (by omega)) (ev_mkGx T (by exact hr.mono (by omega)) (ev_v 4 rfl pv) (ev_width T (ev_v 0 rfl ha2)) hw hw) hw)) (fun v F3 H3 g3 p3 => ⟨g1.trans (g2.trans g3), p3⟩) g2.s

end
end K24
set_option Elab.async false
set_option linter.all false
set_option maxRecDepth 100000
set_option maxHeartbeats 4000000
set_option autoImplicit false
namespace K24
open PySem PySem.Spec PyProof.Rows L2
open PySem.W (Datum DatumOrd Holds HoldAll Tup)
section
variable {P : Program} {w : World} {K : PySem.W.Frag} {mg : Str → Option Value} {base : Heap}


def diagM (d : Mx) (n : Nat) : List Int := (rng 0 n).map fun k => at2 d k k
def cG_factors (KK : PySem.W.Frag) : Con := fun vs F R => ∃ a m h w n d, vs = [a] ∧ pG KK m w a F ∧ Rect m h w ∧ h ≤ w ∧ w ≤ 1000 ∧ SmRun h w n m 0 d ∧ Rect d h w ∧ R = pTI (diagM d h)

theorem sc_G_factors : FnScope ["self", "d", "k"] ["self"] dG_factors.scope := ⟨rfl, rfl, rfl, by decide +kernel, rfl, by decide +kernel, by decide +kernel⟩
theorem ok_G_factors (T : Tx K mg) : MtD P w K mg base 7 (He.ga K "Grid") "factors" (spP (cG_factors K)) :=
  mk_mt T (d := dG_factors) 60 85 rfl rfl rfl rfl rfl sc_G_factors (fun _ _ _ _ _ _ us hl => match us, hl with | [_], _ => rfl) (fun vs F P h => by obtain ⟨_, _, _, _, _, _, e, _⟩ := h; rw [e]; rfl) fun cdv A outer s H E hr vs F R sm hc => by
    obtain ⟨a, m, h, wd, n, d, rfl, ha, Rm, hh, hw, run, Rd, rfl⟩ := hc
    refine x_set 1 (P := pTT d) (ev_rows T (Ev.imp (ev_fst3 (P := pGr K d h wd) (R := pGx K h h) (Pa := pGx K wd wd) (ev_meth0 T.clG (ok_G_smith T) (by exact hr) (ev_v 0 rfl ha) (fun v F1 h => insG h (by decide)) (fun v F1 s h => ⟨v, m, _, wd, n, d, rfl, h, Rm, by omega, hw, run, rfl⟩)) ev_int) (fun v F s q => q.1))) (fun v F1 H1 g1 p1 => ?_) sm sc_G_factors.nd
    have ha1 := Mn.mono _ _ _ g1.f ha
    exact x_ret (ev_tupL T.n_tuple (EvN.ev (en_lc (own := [("k", 2)]) (i := 2) (f := pI) (fun k : Int => at2 d k k) (wk_rng1 (n := (h : Int)) T.n_range (Ev.is (ev_min2 T.n_min rfl (ev_lenT T.n_len (ev_rows T (ev_v 0 rfl ha1))) (ev_width T (ev_v 0 rfl ha1))) (by rw [Rm.h, if_neg (by omega)])) (by omega) (by omega)) (by rw [rng_len, sizeLine_eq]; omega) rfl sc_G_factors.nd (blkOk_by (N := ["self", "d", "k"]) (sc := dG_factors.scope) (by decide +kernel)) (fun _ => rfl)
      (fun z hz v2 F2 H2 g pv s H' C cl fp => ev_ixT (ev_ixT (f := pTI) (ev_v 1 rfl (Mn.mono _ _ _ g.f p1)) (ev_v 2 rfl pv) (Rd.row (mem_rng.mp hz).1 (mem_rng.mp hz).2).1) (ev_v 2 rfl pv) (Rd.at (mem_rng.mp hz).1 (mem_rng.mp hz).2 (mem_rng.mp hz).1 (by have := (mem_rng.mp hz).2; omega)))
      (fun _ _ _ _ _ => pg_name (i := 2) sc_G_factors.nd rfl (.inl rfl))))) (fun v F3 H3 g3 p => ⟨g1.trans g3, p⟩) g1.s


def primD (d : Mx) (h : Nat) : Bool := decide ((((diagM d h).filter fun x => !decide (x = 1)).length : Int) = 0)
def cG_is_primitive (KK : PySem.W.Frag) : Con := fun vs F R => ∃ a m h w n d, vs = [a] ∧ pG KK m w a F ∧ Rect m h w ∧ h ≤ w ∧ w ≤ 1000 ∧ SmRun h w n m 0 d ∧ Rect d h w ∧ R = pB (primD d h)

theorem sc_G_is_primitive : FnScope ["self", "d"] ["self"] dG_is_primitive.scope := ⟨rfl, rfl, rfl, by decide +kernel, rfl, by decide +kernel, by decide +kernel⟩
theorem ok_G_is_primitive (T : Tx K mg) : MtD P w K mg base 8 (He.ga K "Grid") "is_primitive" (spP (cG_is_primitive K)) :=
  mk_mt T (d := dG_is_primitive) 61 86 rfl rfl rfl rfl rfl sc_G_is_primitive (fun _ _ _ _ _ _ us hl => match us, hl with | [_], _ => rfl) (fun vs F P h => by obtain ⟨_, _, _, _, _, _, e, _⟩ := h; rw [e]; rfl) fun cdv A outer s H E hr vs F R sm hc => by
    obtain ⟨a, m, h, wd, n, d, rfl, ha, Rm, hh, hw, run, Rd, rfl⟩ := hc
    refine x_skip (EvT.is (evt_gt (ev_lenT T.n_len (ev_rows T (ev_v 0 rfl ha))) (ev_width T (ev_v 0 rfl ha))) (decide_eq_false (by rw [Rm.h]; omega))) (fun F1 H1 g1 => ?_) sm
    have ha1 := Mn.mono _ _ _ g1.f ha
    refine x_ret (Ev.is (ev_eq (ev_lenL (f := pI) T.n_len (EvN.ev (en_lcF (own := [("d", 1)]) (i := 1) (f := pI) (fun x : Int => !decide (x = 1)) (fun x : Int => x) (wk_T (f := pI) (xs := diagM d h) (ev_meth0 T.clG (ok_G_factors T) (by exact hr) (ev_v 0 rfl ha1) (fun v F1 h => insG h (by decide)) (fun v F1 s h => ⟨v, m, _, wd, n, d, rfl, h, Rm, hh, hw, run, Rd, rfl⟩)))
      (by unfold diagM; rw [List.length_map, rng_len, sizeLine_eq]; omega) rfl sc_G_is_primitive.nd (blkOk_by (N := ["self", "d"]) (sc := dG_is_primitive.scope) (by decide +kernel)) (fun _ => rfl)
      (fun z hz v2 F2 H2 g pv s H' C cl fp => evt_ne (ev_v 1 rfl pv) ev_int) (fun z hz hb v2 F2 H2 g pv s H' C cl fp => ev_v 1 rfl pv)
      (fun _ _ _ _ _ => pg_name (i := 1) sc_G_is_primitive.nd rfl (.inl rfl))))) ev_int) (by rw [List.length_map]; rfl)) (fun v F3 H3 g3 p => ⟨g1.trans g3, p⟩) g1.s


/-! ### lattices -/
theorem x_whenE {X : Cx} {c : Expr} {rest body orelse : List Stmt} {σ : L2.St} {F H : Hp} {G : GE} {pos : Pos} {k : Bool} (J : N3) (hc : EvT X c σ F H k) (ht : k = true → ∀ F1 H1, Gw F H F1 H1 → Sx X body σ F1 H1 { G with nx := J }) (hf : k = false → ∀ F1 H1, Gw F H F1 H1 → Sx X orelse σ F1 H1 { G with nx := J })
    (hj : ∀ σ F H, Same F H → J σ F H → Sx X rest σ F H G) (s : Same F H) : Sx X (.If c body orelse pos :: rest) σ F H G :=
  x_if hc (fun hk F1 H1 g1 => WSs.imp (ht hk F1 H1 g1) (fun σ H ⟨F, a, b⟩ => ⟨F, a, hj σ F H a b⟩) (fun _ _ h => h) (fun _ _ h => h) (fun _ _ h => h)) (fun hk F1 H1 g1 => WSs.imp (hf hk F1 H1 g1) (fun σ H ⟨F, a, b⟩ => ⟨F, a, hj σ F H a b⟩) (fun _ _ h => h) (fun _ _ h => h) (fun _ _ h => h)) s
def c_square_rows (KK : PySem.W.Frag) : Con := fun vs F R => ∃ a m n, vs = [a] ∧ pM m a F ∧ Rect m n n ∧ 1 ≤ n ∧ n ≤ 4 ∧ R = pM m
theorem kitL {K : PySem.W.Frag} {mg : Str → Option Value} (T : Tx K mg) : PySem.W.kitOne K (.type "list") (.ref (cG K)) = some false := by
  obtain ⟨_, _, _, _, _, _, _, h⟩ := T.x_parts
  exact h

theorem sc_square_rows : FnScope ["gram", "rows", "row", "item"] ["gram"] d_square_rows.scope := ⟨rfl, rfl, rfl, by decide +kernel, rfl, by decide +kernel, by decide +kernel⟩
theorem ok_square_rows (T : Tx K mg) : FnD P w K mg base 2 "square_rows" (spP (c_square_rows K)) :=
  mk_fn T (d := d_square_rows) 19 19 rfl rfl rfl rfl rfl sc_square_rows (fun _ _ _ _ _ _ us hl => match us, hl with | [_], _ => rfl) (fun vs F P h => by obtain ⟨_, _, _, e, _⟩ := h; rw [e]; rfl) fun cdv A outer s H E hr vs F R sm hc => by
    obtain ⟨a, m, n, rfl, ha, Rm, h1, h4, rfl⟩ := hc
    refine x_whenE (J := fun σ F2 H2 => σ = [some a, some a, none, none] ∧ Gw F H F2 H2) (k := false) (evt_val (ev_isi T.n_isinstance (ev_v 0 rfl ha) (ev_gref T.g_Grid) (.own _) (fun v F1 H1 s h => by
      obtain ⟨l, vs, rfl, hl, _⟩ := h
      exact ⟨_, .base (.lst (s _ _ hl)), kitL T⟩))) (fun h => nomatch h) (fun _ F1 H1 g1 => ?_) ?_ sm
    · refine x_set 1 (P := pIs a) (ev_v 0 rfl rfl) (fun v F2 H2 g2 p2 => ?_) g1.s sc_square_rows.nd
      cases p2
      exact x_nil g2.s ⟨rfl, g1.trans g2⟩
    · rintro σ F2 H2 s2 ⟨rfl, g2⟩
      have ha2 := Mn.mono _ _ _ g2.f ha
      refine x_skip (EvT.is (evt_or (l := false) (evt_not (evt_val (ev_isLT T.n_isinstance T.n_list T.n_tuple (ev_v 1 rfl (pM.ss ha2))))) (fun _ => EvT.is (evt_lt (ev_lenL (f := pR) T.n_len (ev_v 1 rfl ha2)) ev_int) (decide_eq_false (by rw [Rm.h]; omega)))) (k := !true || false) rfl) (fun F3 H3 g3 => ?_) s2
      have ha3 := Mn.mono _ _ _ g3.f ha2
      refine x_skip (EvT.is (evt_gt (ev_lenL (f := pR) T.n_len (ev_v 1 rfl ha3)) (ev_gint T.i_MOST_RANK)) (decide_eq_false (by rw [Rm.h]; omega))) (fun F4 H4 g4 => ?_) g3.s
      have ha4 := Mn.mono _ _ _ g4.f ha3
      let S : Option V → Option V → L2.St := fun o2 o3 => [some a, some a, o2, o3]
      refine x_forN (i := 2) (xs := m) (pr := pR) (fun n σ1 F5 H5 => ∃ o2 o3, σ1 = S o2 o3 ∧ Gw F4 H4 F5 H5) (wk_L (f := pR) (ev_v 1 rfl ha4)) (fun F5 H5 g5 => ⟨none, none, rfl, g5⟩) ?_ ?_ g4.s PassesOwn.never rfl sc_square_rows.nd
      · rintro F0 ii r σ1 F5 H5 hi s0' s5 ⟨o2, o3, rfl, g5⟩ v F6 H6 g6 pv
        have hmem := List.mem_of_getElem? hi
        refine x_skip (EvT.is (evt_or (l := false) (evt_not (evt_val (ev_isLT T.n_isinstance T.n_list T.n_tuple (ev_v 2 rfl (pL.s pv))))) (fun _ => EvT.is (evt_ne (ev_lenL (f := pI) T.n_len (ev_v 2 rfl pv)) (ev_lenL (f := pR) T.n_len (ev_v 1 rfl (Mn.mono _ _ _ (g5.f.trans g6.f) ha4)))) (by rw [Rm.h, Rm.w r hmem]; simp))) (k := !true || false) rfl) (fun F7 H7 g7 => ?_) g6.s
        refine x_forN (i := 3) (xs := r) (pr := pI) (fun n2 σ1 F8 H8 => ∃ o3, σ1 = S (some v) o3 ∧ Same F0 F8 ∧ Gw F4 H4 F8 H8) (wk_L (f := pI) (ev_v 2 rfl (Mn.mono _ _ _ g7.f pv))) (fun F8 H8 g8 => ⟨o3, rfl, s0'.trans (g6.f.trans (g7.f.trans g8.f)), g5.trans (g6.trans (g7.trans g8))⟩) ?_ ?_ g7.s PassesOwn.never rfl sc_square_rows.nd
        · rintro F0' n2 x σ1 F8 H8 hk s0'' s8 ⟨o3, rfl, s08, g8⟩ v9 F9 H9 g9 pv9
          refine x_skip (EvT.is (evt_not (evt_val (ev_isint (ok_is_integer T) (by exact hr) (ev_v 3 rfl pv9)))) rfl) (fun F10 H10 g10 => ?_) g9.s
          exact x_nil g10.s ⟨s0''.trans (g9.f.trans g10.f), some v9, rfl, s08.trans (g9.f.trans g10.f), g8.trans (g9.trans g10)⟩
        · rintro σ1 F8 H8 s8 ⟨o3, rfl, s08, g8⟩
          exact x_nil s8 ⟨s08, some v, o3, rfl, g8⟩
      · rintro σ1 F5 H5 s5 ⟨o2, o3, rfl, g5⟩
        exact x_ret (ev_v 1 rfl (Mn.mono _ _ _ g5.f ha4)) (fun v F6 H6 g6 p6 => ⟨(g2.trans (g3.trans g4)).trans (g5.trans g6), p6⟩) s5


def c_check_symmetric : Con := fun vs F R => ∃ a m n, vs = [a] ∧ pM m a F ∧ Rect m n n ∧ n ≤ 4 ∧ (∀ i k : Nat, i < n → k < i → at2 m i k = at2 m k i) ∧ R = pN

theorem sc_check_symmetric : FnScope ["rows", "i", "j"] ["rows"] d_check_symmetric.scope := ⟨rfl, rfl, rfl, by decide +kernel, rfl, by decide +kernel, by decide +kernel⟩
theorem ok_check_symmetric (T : Tx K mg) : FnD P w K mg base 1 "check_symmetric" (spP c_check_symmetric) :=
  mk_fn T (d := d_check_symmetric) 20 20 rfl rfl rfl rfl rfl sc_check_symmetric (fun _ _ _ _ _ _ us hl => match us, hl with | [_], _ => rfl) (fun vs F P h => by obtain ⟨_, _, _, e, _⟩ := h; rw [e]; rfl) fun cdv A outer s H E hr vs F R sm hc => by
    obtain ⟨a, m, n, rfl, ha, Rm, h4, sy, rfl⟩ := hc
    let S : Option V → Option V → L2.St := fun o2 o3 => [some a, o2, o3]
    refine x_forN (i := 1) (xs := rng 0 n) (pr := pI) (fun i σ1 F5 H5 => ∃ o2 o3, σ1 = S o2 o3 ∧ Gw F H F5 H5) (wk_rng1 T.n_range (Ev.is (ev_lenL (f := pR) T.n_len (ev_v 0 rfl ha)) (by rw [Rm.h])) (by omega) (by omega)) (fun F5 H5 g5 => ⟨none, none, rfl, g5⟩) ?_ ?_ sm PassesOwn.never rfl sc_check_symmetric.nd
    · rintro F0 ii i σ1 F5 H5 hi s0' s5 ⟨o2, o3, rfl, g5⟩ v F6 H6 g6 pv
      cases pv
      obtain ⟨i0, i1⟩ := mem_rng.mp (List.mem_of_getElem? hi)
      refine x_forN (i := 2) (xs := rng 0 i) (pr := pI) (fun n2 σ1 F8 H8 => ∃ o3, σ1 = S (some (.int i)) o3 ∧ Same F0 F8 ∧ Gw F H F8 H8) (wk_rng1 T.n_range (ev_v 1 rfl rfl) (by omega) (by omega)) (fun F8 H8 g8 => ⟨o3, rfl, s0'.trans (g6.f.trans g8.f), g5.trans (g6.trans g8)⟩) ?_ ?_ g6.s PassesOwn.never rfl sc_check_symmetric.nd
      · rintro F0' n2 k σ1 F8 H8 hk s0'' s8 ⟨o3, rfl, s08, g8⟩ v9 F9 H9 g9 pv9
        cases pv9
        obtain ⟨k0, k1⟩ := mem_rng.mp (List.mem_of_getElem? hk)
        have hA := Mn.mono _ _ _ (g8.f.trans g9.f) ha
        refine x_skip (EvT.is (evt_ne (ev_ixL (ev_ixL (f := pR) (ev_v 0 rfl hA) (ev_v 1 rfl rfl) (Rm.row i0 i1).1) (ev_v 2 rfl rfl) (Rm.at i0 i1 k0 (by omega))) (ev_ixL (ev_ixL (f := pR) (ev_v 0 rfl hA) (ev_v 2 rfl rfl) (Rm.row k0 (by omega)).1) (ev_v 1 rfl rfl) (Rm.at k0 (by omega) i0 i1))) (by
          have := sy i.toNat k.toNat (by omega) (by omega)
          rw [Int.toNat_of_nonneg i0, Int.toNat_of_nonneg k0] at this
          rw [this]
          simp)) (fun F10 H10 g10 => ?_) g9.s
        exact x_nil g10.s ⟨s0''.trans (g9.f.trans g10.f), some (.int k), rfl, s08.trans (g9.f.trans g10.f), g8.trans (g9.trans g10)⟩
      · rintro σ1 F8 H8 s8 ⟨o3, rfl, s08, g8⟩
        exact x_nil s8 ⟨s08, some (.int i), o3, rfl, g8⟩
    · rintro σ1 F5 H5 s5 ⟨o2, o3, rfl, g5⟩
      exact x_nil s5 ⟨g5, rfl⟩

end
end K24
set_option Elab.async false
set_option linter.all false
set_option maxRecDepth 100000
set_option maxHeartbeats 4000000
set_option autoImplicit false
namespace K24
open PySem PySem.Spec PyProof.Rows L2
open PySem.W (Datum DatumOrd Holds HoldAll Tup)
section
variable {P : Program} {w : World} {K : PySem.W.Frag} {mg : Str → Option Value} {base : Heap}


theorem x_dropE {X : Cx} {e : Expr} {rest : List Stmt} {σ : L2.St} {F H : Hp} {P : Pr} {G : GE} {pos : Pos} (he : Ev X e σ F H P) (k : ∀ F1 H1, Gw F H F1 H1 → Sx X rest σ F1 H1 G) (s : Same F H) (hs : swapsWith e none pos.line X.env = pure false := by rfl) : Sx X (.Expr e pos :: rest) σ F H G :=
  x_drop (F := F) (he F H (Gw.refl s) _ fun v F1 H1 g1 _ => ⟨F1, g1.s, k F1 H1 g1⟩) hs
def lead (m : Mx) (k : Nat) : Mx := (m.take k).map fun r => r.take k
theorem lead_rect {m : Mx} {n k : Nat} (R : Rect m n n) (h : k ≤ n) : Rect (lead m k) k k := by
  refine ⟨by unfold lead; rw [List.length_map, List.length_take, R.h]; omega, fun r hr => ?_⟩
  obtain ⟨q, hq, rfl⟩ := List.mem_map.mp hr
  rw [List.length_take, R.w q (List.mem_of_mem_take hq)]
  omega
def LatOk (m : Mx) (n : Nat) : Prop := Rect m n n ∧ 1 ≤ n ∧ n ≤ 4 ∧ (∀ i k : Nat, i < n → k < i → at2 m i k = at2 m k i) ∧ (∀ r ∈ m, ∀ x ∈ r, x.natAbs ≤ 10000) ∧ ∀ k : Nat, 1 ≤ k → k ≤ n → ∃ D, 1 ≤ D ∧ Bare k 0 (lead m k) 1 1 D
def cnL (KK : PySem.W.Frag) : List V → Hp → (List (Str × V) → Hp → Prop) → Prop := fun vs F R => ∃ a m n, vs = [a] ∧ pM m a F ∧ LatOk m n ∧ R = fun fs F => ∃ gv, fs = [(("gram" : Str), gv)] ∧ pG KK m m.length gv F
theorem sc_L_init : FnScope ["self", "gram", "rows", "row", "item", "k"] ["self", "gram"] dL_init.scope := ⟨rfl, rfl, rfl, by decide +kernel, rfl, by decide +kernel, by decide +kernel⟩
theorem body_L_init (T : Tx K mg) (cdv : Value) (A : Around) (outer : List Env) (s : Shared) (H : Hp) (E : XK) (hr : Room 5 (cxD P w K mg base ["self", "gram", "rows", "row", "item", "k"] dL_init cdv A outer s H E).A) (vs : List V) (Q : VK) (hc : spI (cL K) (cnL K) vs H Q E0) :
    WSs (cxD P w K mg base ["self", "gram", "rows", "row", "item", "k"] dL_init cdv A outer s H E) dL_init.body { nx := fun _ H' => Q .non H', rt := Q } (start ["self", "gram", "rows", "row", "item", "k"] vs) H := by
  obtain ⟨F, p, dx, vr, R, rfl, sm, hp, fp, ⟨a, m, n, rfl, ha, ⟨Rm, n1, n4, sy, bd, dt⟩, rfl⟩, q⟩ := hc
  have X1 : Sx (cxD P w K mg base ["self", "gram", "rows", "row", "item", "k"] dL_init cdv A outer s H E) dL_init.body (start ["self", "gram", "rows", "row", "item", "k"] [.ref p, a]) F H { nx := fun _ _ H' => Q .non H', rt := fun v _ H' => Q v H' } := ?_
  · exact WSs.imp X1 (fun _ _ ⟨_, _, h⟩ => h) (fun _ _ ⟨_, _, h⟩ => h) (fun _ _ ⟨_, _, h⟩ => h.elim) (fun _ _ ⟨_, _, h⟩ => h.elim)
  refine x_set 2 (P := pM m) (ev_call (Ps := pCons (pM m) pNil) (ok_square_rows T) (by exact hr.mono (by omega)) (ea_one (ev_v 1 rfl ha)) (fun vs F1 sF ⟨a1, _, e1, b1, e3⟩ => by
    cases e3
    subst e1
    exact ⟨a1, m, n, rfl, b1, Rm, n1, n4, rfl⟩)) (fun b F1 H1 g1 pb => ?_) sm sc_L_init.nd
  refine x_dropE (P := pN) (ev_call (Ps := pCons (pM m) pNil) (ok_check_symmetric T) (by exact hr.mono (by omega)) (ea_one (ev_v 2 rfl pb)) (fun vs F1 sF ⟨a1, _, e1, b1, e3⟩ => by
    cases e3
    subst e1
    exact ⟨a1, m, n, rfl, b1, Rm, n4, sy, rfl⟩)) (fun F2 H2 g2 => ?_) g1.s
  have pb2 := Mn.mono _ _ _ g2.f pb
  let S : Option V → Option V → Option V → L2.St := fun o3 o4 o5 => [some (.ref p), some a, some b, o3, o4, o5]
  refine x_forN (i := 3) (xs := m) (pr := pR) (fun n σ1 F5 H5 => ∃ o3 o4, σ1 = S o3 o4 none ∧ Gw F2 H2 F5 H5) (wk_L (f := pR) (ev_v 2 rfl pb2)) (fun F5 H5 g5 => ⟨none, none, rfl, g5⟩) ?_ ?_ g2.s PassesOwn.never rfl sc_L_init.nd
  · rintro F0 ii r σ1 F5 H5 hi s0' s5 ⟨o3, o4, rfl, g5⟩ v F6 H6 g6 pv
    have hmem := List.mem_of_getElem? hi
    refine x_forN (i := 4) (xs := r) (pr := pI) (fun n2 σ1 F8 H8 => ∃ o4, σ1 = S (some v) o4 none ∧ Same F0 F8 ∧ Gw F2 H2 F8 H8) (wk_L (f := pI) (ev_v 3 rfl pv)) (fun F8 H8 g8 => ⟨o4, rfl, s0'.trans (g6.f.trans g8.f), g5.trans (g6.trans g8)⟩) ?_ ?_ g6.s PassesOwn.never rfl sc_L_init.nd
    · rintro F0' n2 x σ1 F8 H8 hk s0'' s8 ⟨o4, rfl, s08, g8⟩ v9 F9 H9 g9 pv9
      have hx := bd r hmem x (List.mem_of_getElem? hk)
      refine x_skip (EvT.is (evt_gt (ev_abs T.n_abs (ev_v 4 rfl pv9)) (ev_gint T.i_MOST_ITEM)) (decide_eq_false (by omega))) (fun F10 H10 g10 => ?_) g9.s
      exact x_nil g10.s ⟨s0''.trans (g9.f.trans g10.f), some v9, rfl, s08.trans (g9.f.trans g10.f), g8.trans (g9.trans g10)⟩
    · rintro σ1 F8 H8 s8 ⟨o4, rfl, s08, g8⟩
      exact x_nil s8 ⟨s08, some v, o4, rfl, g8⟩
  · rintro σ1 F5 H5 s5 ⟨o3, o4, rfl, g5⟩
    have pb5 := Mn.mono _ _ _ g5.f pb2
    refine x_forN (i := 5) (xs := rng 1 (n + 1 : Int)) (pr := pI) (fun n2 σ1 F8 H8 => ∃ o5, σ1 = S o3 o4 o5 ∧ Gw F5 H5 F8 H8) (wk_rng2 T.n_range ev_int (ev_add (Ev.is (ev_lenL (f := pR) T.n_len (ev_v 2 rfl pb5)) (by rw [Rm.h])) ev_int) (by omega)) (fun F8 H8 g8 => ⟨none, rfl, g8⟩) ?_ ?_ s5 PassesOwn.never rfl sc_L_init.nd
    · rintro F0' n2 k σ1 F8 H8 hk s0'' s8 ⟨o5, rfl, g8⟩ v9 F9 H9 g9 pv9
      obtain ⟨k1, k2⟩ := mem_rng.mp (List.mem_of_getElem? hk)
      obtain ⟨kn, rfl⟩ : ∃ kn : Nat, k = kn := ⟨k.toNat, by omega⟩
      obtain ⟨D, d1, dr⟩ := dt kn (by omega) (by omega)
      have Rl := lead_rect (k := kn) Rm (by omega)
      have pb9 := Mn.mono _ _ _ (g8.f.trans g9.f) pb5
      refine x_skip (EvT.is (evt_lt (ev_meth0 T.clG (ok_G_determinant T) (by exact hr.mono (by omega)) (ev_mkG (m := lead m kn) (w := kn) T (by exact hr.mono (by omega)) ((EvN.ev (en_lc (own := [("row", 3)]) (i := 3) (f := pR) (fun r : List Int => r.take kn) (wk_L (f := pR) (EvN.ev (en_upto (ev_v 2 rfl pb9) (ev_v 5 rfl pv9)))) (by rw [List.length_take, sizeLine_eq]; omega) rfl sc_L_init.nd (blkOk_by (N := ["self", "gram", "rows", "row", "item", "k"]) (sc := dL_init.scope) (by decide +kernel)) (fun _ => rfl)
        (fun r hrm v F1 H1 g pv s H' C cl fp => EvN.ev (en_upto (ev_v 3 rfl pv) (ev_v 5 rfl pv9)))
        (fun _ _ _ _ _ => pg_name (i := 3) sc_L_init.nd rfl (.inl rfl)))).imp fun _ _ _ q => pM.ss q) (ev_v 5 rfl pv9) Rl.w (by rw [Rl.h]; omega) (by omega))
        (fun v F1 h => insG h (by decide)) (fun v F1 s h => ⟨v, lead m kn, kn, D, rfl, h, Rl, by omega, dr, rfl⟩)) ev_int) (decide_eq_false (by omega))) (fun F10 H10 g10 => ?_) g9.s
      exact x_nil g10.s ⟨s0''.trans (g9.f.trans g10.f), some v9, rfl, g8.trans (g9.trans g10)⟩
    · rintro σ1 F8 H8 s8 ⟨o5, rfl, g8⟩
      have g08 := (g1.trans g2).trans (g5.trans g8)
      have o8 := g08.own hp fp
      refine x_fld (P := pG K m n) (ev_mkG1 T (by exact hr.mono (by omega)) (ev_v 2 rfl (pM.ss (Mn.mono _ _ _ g8.f pb5))) Rm.w (by rw [Rm.h]; omega) (by omega) (fun e => by have := Rm.h; rw [e] at this; simp at this; omega)) (fun _ _ => ev_v 0 rfl rfl) o8.1 o8.2 T.clL T.na_gram (by decide) (fun v F9 H9 g9 p9 => ?_) s8
      have o9 := g9.own o8.1 o8.2
      have gm9 : Gm [p] F H F9 (upd H9 p (.ins (cL K) dx (putF "gram" v []))) := ((g08.trans g9).gm).mut (by simp) o9.2
      exact x_nil gm9.s (q _ F9 _ gm9 upd_same o9.2 ⟨v, rfl, by rw [Rm.h]; exact p9⟩)
theorem mk_L (T : Tx K mg) : MkD P w K mg base 6 (cL K) "Lattice" [] (spI (cL K) (cnL K)) := by
  obtain ⟨fd, FF⟩ := T.c.def_ 62 (d := dL_init) rfl
  have e2 : dL_init.kws K = [] := rfl
  have e1 : dL_init.dvs K = [] := rfl
  rw [e1, e2] at FF
  have ok : FnOk P w K mg base CX0 6 (He.fAd K dL_init.at_) fd ["self", "gram"] (spI (cL K) (cnL K)) := FF.ok sc_L_init (fun vs H Q E ⟨F, p, dx, vr, R, e, _, _, _, ⟨_, _, _, e3, _⟩, _⟩ => by rw [e, e3]; rfl) fun cdv A outer s H vs Q E hr h => ⟨WSs (cxD P w K mg base ["self", "gram", "rows", "row", "item", "k"] dL_init cdv A outer s H E) dL_init.body, PSs.nox pss_w, body_L_init T cdv A outer s H E hr vs Q h⟩
  exact ⟨_, fd, _, [], ok, T.mkL, T.g_Lattice, .nil, FF.bindsN (ps := ["self", "gram"]) fun _ _ _ _ _ _ us hl => match us, hl with | [_, _], _ => rfl⟩
theorem ev_mkL {X : Cx} {e1 : Expr} {σ : L2.St} {F H : Hp} {m : Mx} {n : Nat} {pos p : Pos} (T : Tx X.K X.mg) (hr : Room 7 X.A) (h1 : Ev X e1 σ F H (pM m)) (ok : LatOk m n)
    (hg : Gl X "Lattice" := by rfl) (hs : starEach [e1] X.env = (false, eval e1 X.env) :: starEach [] X.env := by rfl) (hpl : (backTo pos (starEach [] X.env)).any (·.1) = false := by rfl) : Ev X (.Call (.Name "Lattice" p) [e1] [] pos) σ F H (pLa X.K m) :=
  ev_make (cn := cnL X.K) (mk_L T) hr (ea_one h1 hs) (fun vs F1 sF ⟨a1, _, e1, b1, e3⟩ => by
    cases e3
    subst e1
    exact ⟨a1, m, n, rfl, b1, ok, rfl⟩) (fun fs F1 F2 s ⟨rv, e, h⟩ => ⟨rv, e, Mn.mono _ _ _ s h⟩) hg (he := hs) (hpl := hpl)
/-! own operators -/
section
variable {X : Cx} {a b : Expr} {σ : L2.St} {F H : Hp} {m n : Mx} {pos : Pos} {k : Nat} {u t : Nat}
theorem ev_eqG (O : MtD X.prog X.w X.K X.mg X.base k (cG X.K) "__eq__" (spP (cG_eq X.K))) (hr : Room k X.A) (ha : Ev X a σ F H (pG X.K m u)) (hb : Ev X b σ F H (pG X.K n t)) : Ev X (.Compare a [.Eq] [b] pos) σ F H (pB (decide (m = n) && decide ((u : Int) = t))) :=
  ev_cmp (op_ownEq O hr) ha hb (fun x y F1 H1 g hx hy Q q => by
    obtain ⟨c, dx, fs, rfl, hF, hx2⟩ := id hx
    obtain ⟨d, dy, gs, rfl, hG, hy2⟩ := id hy
    exact ⟨c, d, dx, dy, fs, gs, rfl, rfl, g.s _ _ hF, g.s _ _ hG, F1, _, g.s, ⟨_, _, m, u, n, t, rfl, hx, hy, rfl⟩, fun v F2 H2 g2 p => q v F2 H2 g2 p⟩) (nomark _)
end
def cL_eq (KK : PySem.W.Frag) : Con := fun vs F R => ∃ a b m n, vs = [a, b] ∧ pLa KK m a F ∧ pLa KK n b F ∧ R = pB (decide (m = n))

theorem sc_L_eq : FnScope ["self", "other"] ["self", "other"] dL_eq.scope := ⟨rfl, rfl, rfl, by decide +kernel, rfl, by decide +kernel, by decide +kernel⟩
theorem ok_L_eq (T : Tx K mg) : MtD P w K mg base 2 (He.ga K "Lattice") "__eq__" (spP (cL_eq K)) :=
  mk_mt T (d := dL_eq) 63 88 rfl rfl rfl rfl rfl sc_L_eq (fun _ _ _ _ _ _ us hl => match us, hl with | [_, _], _ => rfl) (fun vs F P h => by obtain ⟨_, _, _, _, e, _⟩ := h; rw [e]; rfl) fun cdv A outer s H E hr vs F R sm hc => by
    obtain ⟨a, b, m, n, rfl, ha, hb, rfl⟩ := hc
    refine x_ret (ev_and (ev_isi T.n_isinstance (ev_v 1 rfl hb) (ev_gref T.g_Lattice) (.own _) (fun v F1 H1 s h => ⟨_, tyL T s h, kit_self⟩)) (fun _ => ev_eqG (ok_G_eq T) (by exact hr) (ev_gram T (ev_v 0 rfl ha)) (ev_gram T (ev_v 1 rfl hb)))) (fun v F1 H1 g p => ⟨g, ?_⟩) sm
    rw [Bool.true_and] at p
    have e : (decide (m = n) && decide ((m.length : Int) = n.length)) = decide (m = n) := by
      by_cases z : m = n
      · rw [z]; simp
      · rw [decide_eq_false z]; rfl
    rw [e] at p
    exact p


section
variable {X : Cx} {a b : Expr} {σ : L2.St} {F H : Hp} {m n : Mx} {pos : Pos} {k : Nat}
theorem ev_eqL (O : MtD X.prog X.w X.K X.mg X.base k (cL X.K) "__eq__" (spP (cL_eq X.K))) (hr : Room k X.A) (ha : Ev X a σ F H (pLa X.K m)) (hb : Ev X b σ F H (pLa X.K n)) : Ev X (.Compare a [.Eq] [b] pos) σ F H (pB (decide (m = n))) :=
  ev_cmp (op_ownEq O hr) ha hb (fun x y F1 H1 g hx hy Q q => by
    obtain ⟨c, dx, fs, rfl, hF, hx2⟩ := id hx
    obtain ⟨d, dy, gs, rfl, hG, hy2⟩ := id hy
    exact ⟨c, d, dx, dy, fs, gs, rfl, rfl, g.s _ _ hF, g.s _ _ hG, F1, _, g.s, ⟨_, _, m, n, rfl, hx, hy, rfl⟩, fun v F2 H2 g2 p => q v F2 H2 g2 p⟩) (nomark _)
theorem evt_neL (T : Tx X.K X.mg) (O : MtD X.prog X.w X.K X.mg X.base k (cL X.K) "__eq__" (spP (cL_eq X.K))) (hr : Room (k + 1) X.A) (ha : Ev X a σ F H (pLa X.K m)) (hb : Ev X b σ F H (pLa X.K n)) : EvT X (.Compare a [.NotEq] [b] pos) σ F H (!decide (m = n)) :=
  evt_cmp (op_ownNe O hr T.x_parts.2.1 T.x_parts.2.2.1) ha hb (fun x y F1 H1 g hx hy Q q => by
    obtain ⟨c, dx, fs, rfl, hF, hx2⟩ := id hx
    obtain ⟨d, dy, gs, rfl, hG, hy2⟩ := id hy
    exact ⟨c, d, dx, dy, fs, gs, rfl, rfl, g.s _ _ hF, g.s _ _ hG, F1, _, g.s, ⟨_, _, m, n, rfl, hx, hy, rfl⟩, fun v F2 H2 g2 p => ⟨_, p, q _ F2 H2 g2 rfl⟩⟩) (nomark _)
end
def cL_contains (KK : PySem.W.Frag) : Con := fun vs F R => ∃ a b m q, vs = [a, b] ∧ pLa KK m a F ∧ pTI q b F ∧ q.length = m.length ∧ m.length ≤ 1000 ∧ R = pB true

theorem sc_L_contains : FnScope ["self", "v", "item"] ["self", "v"] dL_contains.scope := ⟨rfl, rfl, rfl, by decide +kernel, rfl, by decide +kernel, by decide +kernel⟩
theorem ok_L_contains (T : Tx K mg) : MtD P w K mg base 2 (He.ga K "Lattice") "__contains__" (spP (cL_contains K)) :=
  mk_mt T (d := dL_contains) 64 89 rfl rfl rfl rfl rfl sc_L_contains (fun _ _ _ _ _ _ us hl => match us, hl with | [_, _], _ => rfl) (fun vs F P h => by obtain ⟨_, _, _, _, e, _⟩ := h; rw [e]; rfl) fun cdv A outer s H E hr vs F R sm hc => by
    obtain ⟨a, b, m, q, rfl, ha, hb, hl, hz, rfl⟩ := hc
    refine x_skip (EvT.is (evt_or (l := false) (evt_not (evt_val (ev_isTup T.n_isinstance T.n_tuple (ev_v 1 rfl hb)))) (fun _ => EvT.is (evt_ne (ev_lenT T.n_len (ev_v 1 rfl hb)) (ev_lenT T.n_len (ev_rows T (ev_gram T (ev_v 0 rfl ha))))) (by rw [hl]; simp))) (k := !true || false) rfl) (fun F1 H1 g1 => ?_) sm
    refine x_ret (Ev.is (ev_allL T.n_all rfl (EvN.ev (en_lc (own := [("item", 2)]) (i := 2) (f := pB) (fun x : Int => true) (wk_T (f := pI) (ev_v 1 rfl (Mn.mono _ _ _ g1.f hb))) (by rw [hl, sizeLine_eq]; omega) rfl sc_L_contains.nd (blkOk_by (N := ["self", "v", "item"]) (sc := dL_contains.scope) (by decide +kernel)) (fun _ => rfl)
      (fun z hz v2 F2 H2 g pv s H' C cl fp => ev_isint (ok_is_integer T) (by exact hr) (ev_v 2 rfl pv)) (fun _ _ _ _ _ => pg_name (i := 2) sc_L_contains.nd rfl (.inl rfl))))) (congrArg pB (List.all_eq_true.mpr fun x hx => by obtain ⟨_, _, rfl⟩ := List.mem_map.mp hx; rfl))) (fun v F3 H3 g3 p => ⟨g1.trans g3, p⟩) g1.s


theorem evt_notInL {X : Cx} {a b : Expr} {σ : L2.St} {F H : Hp} {m : Mx} {q : List Int} {pos : Pos} {k : Nat} (O : MtD X.prog X.w X.K X.mg X.base k (cL X.K) "__contains__" (spP (cL_contains X.K))) (hr : Room k X.A) (ha : Ev X a σ F H (pTI q)) (hb : Ev X b σ F H (pLa X.K m)) (hl : q.length = m.length) (hz : m.length ≤ 1000) (hbm : behindInMarks .NotIn b = false := by rfl) : EvT X (.Compare a [.NotIn] [b] pos) σ F H false :=
  evt_cmp (op_ownNotIn O hr) ha hb (fun x y F1 H1 g hx hy Q z => by
    obtain ⟨d, dy, gs, rfl, hG, hy2⟩ := id hy
    exact ⟨d, dy, gs, rfl, g.s _ _ hG, F1, _, g.s, ⟨_, _, m, q, rfl, hy, hx, hl, hz, rfl⟩, fun v F2 H2 g2 p => ⟨true, p, z _ F2 H2 g2 rfl⟩⟩) hbm
def cL_rank (KK : PySem.W.Frag) : Con := fun vs F R => ∃ a m, vs = [a] ∧ pLa KK m a F ∧ R = pI (m.length : Nat)

theorem sc_L_rank : FnScope ["self"] ["self"] dL_rank.scope := ⟨rfl, rfl, rfl, by decide +kernel, rfl, by decide +kernel, by decide +kernel⟩
theorem ok_L_rank (T : Tx K mg) : MtD P w K mg base 1 (He.ga K "Lattice") "rank" (spP (cL_rank K)) :=
  mk_mt T (d := dL_rank) 65 90 rfl rfl rfl rfl rfl sc_L_rank (fun _ _ _ _ _ _ us hl => match us, hl with | [_], _ => rfl) (fun vs F P h => by obtain ⟨_, _, e, _⟩ := h; rw [e]; rfl) fun cdv A outer s H E hr vs F R sm hc => by
    obtain ⟨a, m, rfl, ha, rfl⟩ := hc
    exact x_ret (ev_lenT T.n_len (ev_rows T (ev_gram T (ev_v 0 rfl ha)))) (fun v F3 H3 g3 p => ⟨g3, p⟩) sm


theorem ev_rank {X : Cx} {o : Expr} {σ : L2.St} {F H : Hp} {p pos : Pos} {m : Mx} {n k : Nat} {pl : Sem Bool} (T : Tx X.K X.mg) (O : MtD X.prog X.w X.K X.mg X.base k (cL X.K) "rank" (spP (cL_rank X.K))) (hr : Room k X.A) (ha : Ev X o σ F H (pLa X.K m)) (hm : m.length = n)
    (ht : eval (.Call (.Attribute o "rank" p) [] [] pos) X.env = (do
      let ov ← eval o X.env
      standAt p.atName
      let (f, first) ← holding [ov] (getMethod ov "rank" pl)
      callWith pos f first (backTo pos (starEach [] X.env)) (backToKw pos (keywordEach [] X.env))) := by rfl) : Ev X (.Call (.Attribute o "rank" p) [] [] pos) σ F H (pI (n : Nat)) :=
  Ev.is (ev_meth0 (pl := pl) T.clL O hr ha (fun v F1 h => insL h (by decide)) (fun v F1 s h => ⟨v, m, rfl, h, rfl⟩) ht) (by rw [hm])
def prodI (g : Mx) (v w : List Int) : Int := dotI v (g.map fun r => dotI r w)
def cL_product (KK : PySem.W.Frag) : Con := fun vs F R => ∃ a b c m n v w, vs = [a, b, c] ∧ pLa KK m a F ∧ Rect m n n ∧ n ≤ 1000 ∧ pTI v b F ∧ pTI w c F ∧ v.length = n ∧ w.length = n ∧ (∀ r ∈ m, ∀ x ∈ r, x.natAbs < 2 ^ 64) ∧ (∀ x ∈ v, x.natAbs < 2 ^ 64) ∧ R = pI (prodI m v w)

theorem sc_L_product : FnScope ["self", "v", "w"] ["self", "v", "w"] dL_product.scope := ⟨rfl, rfl, rfl, by decide +kernel, rfl, by decide +kernel, by decide +kernel⟩
theorem ok_L_product (T : Tx K mg) : MtD P w K mg base 4 (He.ga K "Lattice") "product" (spP (cL_product K)) :=
  mk_mt T (d := dL_product) 66 91 rfl rfl rfl rfl rfl sc_L_product (fun _ _ _ _ _ _ us hl => match us, hl with | [_, _, _], _ => rfl) (fun vs F P h => by obtain ⟨_, _, _, _, _, _, _, e, _⟩ := h; rw [e]; rfl) fun cdv A outer s H E hr vs F R sm hc => by
    obtain ⟨a, b, c, m, n, v, w', rfl, ha, Rm, hn, hb, hc, lv, lw, bm, bv, rfl⟩ := hc
    refine x_skip (EvT.is (evt_or (evt_notInL (ok_L_contains T) (by exact hr.mono (by omega)) (ev_v 1 rfl hb) (ev_v 0 rfl ha) (by rw [lv, Rm.h]) (by rw [Rm.h]; exact hn)) (fun _ => evt_notInL (ok_L_contains T) (by exact hr.mono (by omega)) (ev_v 2 rfl hc) (ev_v 0 rfl ha) (by rw [lw, Rm.h]) (by rw [Rm.h]; exact hn))) rfl) (fun F1 H1 g1 => ?_) sm
    refine x_ret (ev_call (P := pI (prodI m v w')) (Ps := pCons (pTI v) (pCons (pTI (m.map fun r => dotI r w')) pNil)) (ok_dot T) (by exact hr.mono (by omega)) (ea_cons (ev_v 1 rfl (Mn.mono _ _ _ g1.f hb)) (ea_one (ev_meth T.clG (ok_G_times T) (by exact hr.mono (by omega)) (ev_gram T (ev_v 0 rfl (Mn.mono _ _ _ g1.f ha))) (ea_one (ev_v 2 rfl (Mn.mono _ _ _ g1.f hc))) (fun v F1 h => insG h (by decide)) (fun v vs F1 s h ⟨a2, _, e2, b2, e3⟩ => by
        cases e3
        subst e2
        exact ⟨v, a2, m, w', n, m.length, rfl, h, b2, by rw [Rm.h]; exact Rm, by rw [lw, Rm.h], hn, by rw [Rm.h]; exact hn, bm, rfl⟩)))) (fun vs F1 sF ⟨a1, _, e1, b1, a2, _, e2, b2, e3⟩ => by
      cases e3
      subst e1 e2
      exact ⟨a1, a2, v, _, rfl, b1, .inl b2, bv, by rw [lv]; exact hn, rfl⟩)) (fun v F3 H3 g3 p => ⟨g1.trans g3, p⟩) g1.s


def cL_norm (KK : PySem.W.Frag) : Con := fun vs F R => ∃ a b m n v, vs = [a, b] ∧ pLa KK m a F ∧ Rect m n n ∧ n ≤ 1000 ∧ pTI v b F ∧ v.length = n ∧ (∀ r ∈ m, ∀ x ∈ r, x.natAbs < 2 ^ 64) ∧ (∀ x ∈ v, x.natAbs < 2 ^ 64) ∧ R = pI (prodI m v v)

theorem sc_L_norm : FnScope ["self", "v"] ["self", "v"] dL_norm.scope := ⟨rfl, rfl, rfl, by decide +kernel, rfl, by decide +kernel, by decide +kernel⟩
theorem ok_L_norm (T : Tx K mg) : MtD P w K mg base 5 (He.ga K "Lattice") "norm" (spP (cL_norm K)) :=
  mk_mt T (d := dL_norm) 67 92 rfl rfl rfl rfl rfl sc_L_norm (fun _ _ _ _ _ _ us hl => match us, hl with | [_, _], _ => rfl) (fun vs F P h => by obtain ⟨_, _, _, _, _, e, _⟩ := h; rw [e]; rfl) fun cdv A outer s H E hr vs F R sm hc => by
    obtain ⟨a, b, m, n, v, rfl, ha, Rm, hn, hb, lv, bm, bv, rfl⟩ := hc
    exact x_ret (ev_meth T.clL (ok_L_product T) (by exact hr) (ev_v 0 rfl ha) (ea_cons (ev_v 1 rfl hb) (ea_one (ev_v 1 rfl hb))) (fun v F1 h => insL h (by decide)) (fun x vs F1 s h ⟨a2, _, e2, b2, a3, _, e3, b3, e4⟩ => by
      cases e4
      subst e2 e3
      exact ⟨x, a2, a3, m, n, v, v, rfl, h, Rm, hn, b2, b3, lv, lv, bm, bv, rfl⟩)) (fun v F3 H3 g3 p => ⟨g3, p⟩) sm

end
end K24
set_option Elab.async false
set_option linter.all false
set_option maxRecDepth 100000
set_option maxHeartbeats 4000000
set_option autoImplicit false
namespace K24
open PySem PySem.Spec PyProof.Rows L2
open PySem.W (Datum DatumOrd Holds HoldAll Tup)
section
variable {P : Program} {w : World} {K : PySem.W.Frag} {mg : Str → Option Value} {base : Heap}


theorem ev_lenG {X : Cx} {e : Expr} {σ : L2.St} {F H : Hp} {p pos : Pos} {m : Mx} {u k n : Nat} (O : MtD X.prog X.w X.K X.mg X.base k (cG X.K) "__len__" (spP (cG_len X.K))) (hr : Room (k + 1) X.A) (hm : X.mg "len" = none) (ha : Ev X e σ F H (pG X.K m u)) (hl : m.length = n) (hn : n ≤ 1000) (hg : Gl X "len" := by rfl) (hs : starEach [e] X.env = (false, eval e X.env) :: starEach [] X.env := by rfl) : Ev X (.Call (.Name "len" p) [e] [] pos) σ F H (pI (n : Int)) :=
  ev_B (call_ownLen O hr) hm PySem.boot_len (ea_one ha hs) (fun vs F1 H1 g ⟨v, _, e1, hv, e3⟩ Q q => by
    cases e3
    subst e1
    obtain ⟨a, dx, fs, rfl, hF, h2⟩ := id hv
    exact ⟨a, dx, fs, rfl, g.s _ _ hF, F1, _, g.s, ⟨_, m, u, rfl, hv, rfl⟩, fun v F2 H2 g2 p => ⟨(m.length : Int), p, by omega, by rw [hl]; omega, by rw [hl]; exact q _ F2 H2 g2 rfl⟩⟩) hg (he := hs)
section
variable {X : Cx} {a b : Expr} {σ : L2.St} {F H : Hp} {m n : Mx} {pos : Pos} {k u t : Nat} {R : Pr}
theorem ev_own2 {op : Operator} {nm : Str} {c : Con} (hnm : PySem.dunder op.info.2 = nm) (T : Tx X.K X.mg) (O : MtD X.prog X.w X.K X.mg X.base k (cG X.K) nm (spP c)) (hr : Room k X.A) (ha : Ev X a σ F H (pG X.K m u)) (hb : Ev X b σ F H (pG X.K n t)) (hc : ∀ x y F1, pG X.K m u x F1 → pG X.K n t y F1 → c [x, y] F1 R) : Ev X (.BinOp a op b pos) σ F H R := by
  subst hnm
  exact ev_op (op_own O hr T.x_parts.1) ha hb (fun x y F1 H1 g hx hy Q q => by
    obtain ⟨c, dx, fs, rfl, hF, hx2⟩ := id hx
    obtain ⟨d, dy, gs, rfl, hG, hy2⟩ := id hy
    exact ⟨c, d, dx, dy, fs, gs, rfl, rfl, g.s _ _ hF, g.s _ _ hG, F1, _, g.s, hc _ _ F1 hx hy, fun v F2 H2 g2 p => q v F2 H2 g2 p⟩)
end
def blkM (m : Mx) (h : Nat) : Mx := (rng 0 h).map fun i => (m.getD i.toNat []).take h
def sideM (m : Mx) (h : Nat) : Mx := (rng 0 h).map fun i => (m.getD i.toNat []).drop h
def tailM (m : Mx) (h n : Nat) : Mx := (rng h n).map fun i => (m.getD i.toNat []).drop h
def tailOf (m : Mx) (h n : Nat) (D : Int) (dd : Int → Int → Int) : Mx := if h = 0 then tailM m 0 n else subM (scaleM D (tailM m h n)) (mulM (mulM (turned (sideM m h) (n - h)) (adjM h dd) h) (sideM m h) (n - h))
structure TailOk (m : Mx) (h : Nat) (n : Nat) (D : Int) (dd : Int → Int → Int) : Prop where
  d : Bare h 0 (blkM m h) 1 1 D
  dm : ∀ i k : Nat, i < h → k < h → Bare (h - 1) 0 (minorL (blkM m h) k i) 1 1 (dd i k)
  b : D.natAbs < 2 ^ 64
  b1 : ∀ r ∈ turned (sideM m h) (n - h), ∀ x ∈ r, x.natAbs < 2 ^ 64
  b2 : ∀ r ∈ mulM (turned (sideM m h) (n - h)) (adjM h dd) h, ∀ x ∈ r, x.natAbs < 2 ^ 64
theorem blk_rect {m : Mx} {n h : Nat} (R : Rect m n n) (hh : h ≤ n) : Rect (blkM m h) h h := by
  refine ⟨by unfold blkM; rw [List.length_map, rng_len]; omega, fun r hr => ?_⟩
  obtain ⟨i, hi, rfl⟩ := List.mem_map.mp hr
  have := mem_rng.mp hi
  rw [List.length_take, (R.row this.1 (by omega)).2]
  omega
theorem side_rect {m : Mx} {n h : Nat} (R : Rect m n n) (hh : h ≤ n) : Rect (sideM m h) h (n - h) := by
  refine ⟨by unfold sideM; rw [List.length_map, rng_len]; omega, fun r hr => ?_⟩
  obtain ⟨i, hi, rfl⟩ := List.mem_map.mp hr
  have := mem_rng.mp hi
  rw [List.length_drop, (R.row this.1 (by omega)).2]
theorem tail_rect {m : Mx} {n h : Nat} (R : Rect m n n) (hh : h ≤ n) : Rect (tailM m h n) (n - h) (n - h) := by
  refine ⟨by unfold tailM; rw [List.length_map, rng_len]; omega, fun r hr => ?_⟩
  obtain ⟨i, hi, rfl⟩ := List.mem_map.mp hr
  have := mem_rng.mp hi
  rw [List.length_drop, (R.row (by omega) (by omega)).2]
theorem mul_rect {m n : Mx} {h l w : Nat} (Rm : Rect m h l) (Rn : Rect n l w) : Rect (mulM m n w) h w := by
  refine ⟨by unfold mulM; rw [List.length_map]; exact Rm.h, fun r hr => ?_⟩
  obtain ⟨q, _, rfl⟩ := List.mem_map.mp hr
  rw [List.length_map]
  exact (turned_rect Rn).h
theorem scale_rect {m : Mx} {k : Int} {h w : Nat} (Rm : Rect m h w) : Rect (scaleM k m) h w := by
  refine ⟨by unfold scaleM; rw [List.length_map]; exact Rm.h, fun r hr => ?_⟩
  obtain ⟨q, hq, rfl⟩ := List.mem_map.mp hr
  rw [List.length_map]
  exact Rm.w q hq
theorem sub_rect {m n : Mx} {h w : Nat} (Rm : Rect m h w) (Rn : Rect n h w) : Rect (subM m n) h w := by
  refine ⟨by unfold subM; rw [List.length_map, List.length_zip, Rm.h, Rn.h, Nat.min_self], fun r hr => ?_⟩
  obtain ⟨q, hq, rfl⟩ := List.mem_map.mp hr
  have := List.of_mem_zip (a := q.1) (b := q.2) hq
  rw [List.length_map, List.length_zip, Rm.w _ this.1, Rn.w _ this.2, Nat.min_self]
theorem tailOf_rect {m : Mx} {n h : Nat} {D : Int} {dd : Int → Int → Int} (R : Rect m n n) (hh : h ≤ n) : Rect (tailOf m h n D dd) (n - h) (n - h) := by
  unfold tailOf
  split
  · rename_i e
    subst e
    exact tail_rect R (Nat.zero_le _)
  · exact sub_rect (scale_rect (tail_rect R hh)) (mul_rect (mul_rect (turned_rect (side_rect R hh)) (adj_rect h dd)) (side_rect R hh))
def c_tail_matrix (KK : PySem.W.Frag) : Con := fun vs F R => ∃ a m n h D dd, vs = [a, .int ((h + 1 : Nat) : Int)] ∧ pG KK m n a F ∧ Rect m n n ∧ n ≤ 1000 ∧ h < n ∧ TailOk m h n D dd ∧ R = pG KK (tailOf m h n D dd) (n - h)

theorem sc_tail_matrix : FnScope ["gram", "k", "head", "size", "block", "side", "tail", "i"] ["gram", "k"] d_tail_matrix.scope := ⟨rfl, rfl, rfl, by decide +kernel, rfl, by decide +kernel, by decide +kernel⟩
theorem ok_tail_matrix (T : Tx K mg) : FnD P w K mg base 6 "tail_matrix" (spP (c_tail_matrix K)) :=
  mk_fn T (d := d_tail_matrix) 21 21 rfl rfl rfl rfl rfl sc_tail_matrix (fun _ _ _ _ _ _ us hl => match us, hl with | [_, _], _ => rfl) (fun vs F P h => by obtain ⟨_, _, _, _, _, _, e, _⟩ := h; rw [e]; rfl) fun cdv A outer s H E hr vs F R sm hc => by
    obtain ⟨a, m, n, h, D, dd, rfl, ha, Rm, hn, hh, ok, rfl⟩ := hc
    refine x_set 2 (P := pI (h : Nat)) (Ev.is (ev_sub (i := ((h + 1 : Nat) : Int)) (j := 1) (ev_v 1 rfl rfl) ev_int) (by rw [show ((h + 1 : Nat) : Int) - 1 = (h : Nat) by omega])) (fun v F1 H1 g1 p1 => ?_) sm sc_tail_matrix.nd
    cases p1
    have ha1 := Mn.mono _ _ _ g1.f ha
    refine x_set 3 (P := pI (n : Nat)) (ev_lenG (ok_G_len T) (by exact hr.mono (by omega)) T.n_len (ev_v 0 rfl ha1) Rm.h hn) (fun v F2 H2 g2 p2 => ?_) g1.s sc_tail_matrix.nd
    cases p2
    have ha2 := Mn.mono _ _ _ g2.f ha1
    have Rb := blk_rect (h := h) Rm (by omega)
    have Rs := side_rect (h := h) Rm (by omega)
    have Rt := tail_rect (h := h) Rm (by omega)
    refine x_set 4 (P := pG K (blkM m h) h) (ev_mkG T (by exact hr.mono (by omega)) ((EvN.ev (en_lc (own := [("i", 7)]) (i := 7) (f := pTI) (fun i : Int => (m.getD i.toNat []).take h) (wk_rng1 T.n_range (ev_v 2 rfl rfl) (by omega) (by omega)) (by rw [rng_len, sizeLine_eq]; omega) rfl sc_tail_matrix.nd (blkOk_by (N := ["gram", "k", "head", "size", "block", "side", "tail", "i"]) (sc := d_tail_matrix.scope) (by decide +kernel)) (fun _ => rfl)
        (fun z hz v F1 H1 g pv s H' C cl fp => ev_uptoT (ev_ixT (f := pTI) (ev_rows T (ev_v 0 rfl (Mn.mono _ _ _ g.f ha2))) (ev_v 7 rfl pv) (Rm.row (by have := mem_rng.mp hz; omega) (by have := mem_rng.mp hz; omega)).1) (ev_v 2 rfl rfl))
        (fun _ _ _ _ _ => pg_name (i := 7) sc_tail_matrix.nd rfl (.inl rfl)))).imp fun _ _ _ q => pLT.ss q) (ev_v 2 rfl rfl) Rb.w (by show (blkM m h).length ≤ _; rw [Rb.h]; omega) (by omega)) (fun vb F3 H3 g3 p3 => ?_) g2.s sc_tail_matrix.nd
    have ha3 := Mn.mono _ _ _ g3.f ha2
    refine x_set 5 (P := pG K (sideM m h) (n - h)) (ev_mkG T (by exact hr.mono (by omega)) ((EvN.ev (en_lc (own := [("i", 7)]) (i := 7) (f := pTI) (fun i : Int => (m.getD i.toNat []).drop h) (wk_rng1 T.n_range (ev_v 2 rfl rfl) (by omega) (by omega)) (by rw [rng_len, sizeLine_eq]; omega) rfl sc_tail_matrix.nd (blkOk_by (N := ["gram", "k", "head", "size", "block", "side", "tail", "i"]) (sc := d_tail_matrix.scope) (by decide +kernel)) (fun _ => rfl)
        (fun z hz v F1 H1 g pv s H' C cl fp => ev_fromT (ev_ixT (f := pTI) (ev_rows T (ev_v 0 rfl (Mn.mono _ _ _ g.f ha3))) (ev_v 7 rfl pv) (Rm.row (by have := mem_rng.mp hz; omega) (by have := mem_rng.mp hz; omega)).1) (ev_v 2 rfl rfl))
        (fun _ _ _ _ _ => pg_name (i := 7) sc_tail_matrix.nd rfl (.inl rfl)))).imp fun _ _ _ q => pLT.ss q) (Ev.is (ev_sub (i := (n : Int)) (j := (h : Int)) (ev_v 3 rfl rfl) (ev_v 2 rfl rfl)) (by rw [show (n : Int) - h = ((n - h : Nat) : Int) by omega])) Rs.w (by show (sideM m h).length ≤ _; rw [Rs.h]; omega) (by omega)) (fun vs F4 H4 g4 p4 => ?_) g3.s sc_tail_matrix.nd
    have ha4 := Mn.mono _ _ _ g4.f ha3
    refine x_set 6 (P := pG K (tailM m h n) (n - h)) (ev_mkG T (by exact hr.mono (by omega)) ((EvN.ev (en_lc (own := [("i", 7)]) (i := 7) (f := pTI) (fun i : Int => (m.getD i.toNat []).drop h) (wk_rng2 T.n_range (ev_v 2 rfl rfl) (ev_v 3 rfl rfl) (by omega)) (by rw [rng_len, sizeLine_eq]; omega) rfl sc_tail_matrix.nd (blkOk_by (N := ["gram", "k", "head", "size", "block", "side", "tail", "i"]) (sc := d_tail_matrix.scope) (by decide +kernel)) (fun _ => rfl)
        (fun z hz v F1 H1 g pv s H' C cl fp => ev_fromT (ev_ixT (f := pTI) (ev_rows T (ev_v 0 rfl (Mn.mono _ _ _ g.f ha4))) (ev_v 7 rfl pv) (Rm.row (by have := mem_rng.mp hz; omega) (by have := mem_rng.mp hz; omega)).1) (ev_v 2 rfl rfl))
        (fun _ _ _ _ _ => pg_name (i := 7) sc_tail_matrix.nd rfl (.inl rfl)))).imp fun _ _ _ q => pLT.ss q) (Ev.is (ev_sub (i := (n : Int)) (j := (h : Int)) (ev_v 3 rfl rfl) (ev_v 2 rfl rfl)) (by rw [show (n : Int) - h = ((n - h : Nat) : Int) by omega])) Rt.w (by show (tailM m h n).length ≤ _; rw [Rt.h]; omega) (by omega)) (fun vt F5 H5 g5 p5 => ?_) g4.s sc_tail_matrix.nd
    have g15 := g1.trans (g2.trans (g3.trans (g4.trans g5)))
    refine x_when (k := decide ((h : Int) = 0)) (evt_eq (ev_v 2 rfl rfl) ev_int) (fun hb F6 H6 g6 => ?_) (fun hb F6 H6 g6 => ?_) g5.s
    · have h0 : h = 0 := by have := of_decide_eq_true hb; omega
      subst h0
      refine x_ret (ev_v 6 rfl (Mn.mono _ _ _ g6.f p5)) (fun v F7 H7 g7 p7 => ⟨g15.trans (g6.trans g7), ?_⟩) g6.s
      unfold tailOf
      rw [if_pos rfl]
      exact p7
    · have h0 : h ≠ 0 := fun e => by rw [e] at hb; simp at hb
      have pb := Mn.mono _ _ _ (g4.f.trans (g5.f.trans g6.f)) p3
      have ps := Mn.mono _ _ _ (g5.f.trans g6.f) p4
      have pt := Mn.mono _ _ _ g6.f p5
      have Rts := turned_rect Rs
      have Ra := adj_rect h dd
      have Rm1 := mul_rect Rts Ra
      have Rm2 := mul_rect Rm1 Rs
      refine x_ret (ev_own2 (nm := "__sub__") (m := scaleM D (tailM m h n)) (n := mulM (mulM (turned (sideM m h) (n - h)) (adjM h dd) h) (sideM m h) (n - h)) (u := n - h) (t := n - h) rfl T (ok_G_sub T) (by exact hr)
        (ev_meth T.clG (ok_G_scaled T) (by exact hr) (ev_v 6 rfl pt) (ea_one (ev_meth0 T.clG (ok_G_determinant T) (by exact hr.mono (by omega)) (ev_v 4 rfl pb) (fun v F1 h => insG h (by decide)) (fun v F1 s q => ⟨v, blkM m h, h, D, rfl, q, Rb, by omega, ok.d, rfl⟩)))
          (fun v F1 h => insG h (by decide)) (fun v vs F1 s q ⟨a2, _, e2, b2, e3⟩ => by
            cases e3
            cases b2
            subst e2
            exact ⟨v, tailM m h n, D, n - h, n - h, rfl, q, Rt, by omega, by omega, ok.b, rfl⟩))
        (ev_own2 (nm := "__mul__") (m := mulM (turned (sideM m h) (n - h)) (adjM h dd) h) (n := sideM m h) (u := h) (t := n - h) rfl T (ok_G_mul T) (by exact hr)
          (ev_own2 (nm := "__mul__") (m := turned (sideM m h) (n - h)) (n := adjM h dd) (u := h) (t := h) rfl T (ok_G_mul T) (by exact hr)
            (ev_meth0 T.clG (ok_G_transposed T) (by exact hr) (ev_v 5 rfl ps) (fun v F1 h => insG h (by decide)) (fun v F1 s q => ⟨v, sideM m h, h, n - h, rfl, q, Rs, by omega, by omega, rfl⟩))
            (ev_meth0 T.clG (ok_G_adjugate T) (by exact hr) (ev_v 4 rfl pb) (fun v F1 h => insG h (by decide)) (fun v F1 s q => ⟨v, blkM m h, h, dd, rfl, q, Rb, by omega, ok.dm, rfl⟩))
            (fun x y F1 hx hy => ⟨x, y, _, _, n - h, h, h, rfl, hx, hy, Rts, Ra, by omega, by omega, by omega, ok.b1, rfl⟩))
          (ev_v 5 rfl ps) (fun x y F1 hx hy => ⟨x, y, _, _, n - h, h, n - h, rfl, hx, hy, Rm1, Rs, by omega, by omega, by omega, ok.b2, rfl⟩))
        (fun x y F1 hx hy => ⟨x, y, _, _, n - h, n - h, rfl, hx, hy, scale_rect Rt, Rm2, by omega, by omega, rfl⟩)) (fun v F7 H7 g7 p7 => ⟨g15.trans (g6.trans g7), ?_⟩) g6.s
      unfold tailOf
      rw [if_neg h0]
      exact p7


def c_is_point (KK : PySem.W.Frag) : Con := fun vs F R => ∃ a b m q, vs = [a, b, .int 1] ∧ pLa KK m a F ∧ pTI q b F ∧ q.length = m.length ∧ m.length ≤ 1000 ∧ R = pB true

theorem sc_is_point : FnScope ["lattice", "a", "d", "item"] ["lattice", "a", "d"] d_is_point.scope := ⟨rfl, rfl, rfl, by decide +kernel, rfl, by decide +kernel, by decide +kernel⟩
theorem ok_is_point (T : Tx K mg) : FnD P w K mg base 2 "is_point" (spP (c_is_point K)) :=
  mk_fn T (d := d_is_point) 22 22 rfl rfl rfl rfl rfl sc_is_point (fun _ _ _ _ _ _ us hl => match us, hl with | [_, _, _], _ => rfl) (fun vs F P h => by obtain ⟨_, _, _, _, e, _⟩ := h; rw [e]; rfl) fun cdv A outer s H E hr vs F R sm hc => by
    obtain ⟨a, b, m, q, rfl, ha, hb, hl, hz, rfl⟩ := hc
    refine x_skip (EvT.is (evt_or (l := false) (evt_not (evt_val (ev_isTup T.n_isinstance T.n_tuple (ev_v 1 rfl hb)))) (fun _ => EvT.is (evt_ne (ev_lenT T.n_len (ev_v 1 rfl hb)) (ev_rank (n := m.length) T (ok_L_rank T) (by exact hr) (ev_v 0 rfl ha) rfl)) (by rw [hl]; simp))) (k := !true || false) rfl) (fun F1 H1 g1 => ?_) sm
    refine x_ret (ev_and3 (k := true) (Ev.is (ev_allL T.n_all rfl (EvN.ev (en_lc (own := [("item", 3)]) (i := 3) (f := pB) (fun x : Int => true) (wk_T (f := pI) (ev_v 1 rfl (Mn.mono _ _ _ g1.f hb))) (by rw [hl, sizeLine_eq]; omega) rfl sc_is_point.nd (blkOk_by (N := ["lattice", "a", "d", "item"]) (sc := d_is_point.scope) (by decide +kernel)) (fun _ => rfl)
      (fun z hz v2 F2 H2 g pv s H' C cl fp => ev_isint (ok_is_integer T) (by exact hr) (ev_v 3 rfl pv)) (fun _ _ _ _ _ => pg_name (i := 3) sc_is_point.nd rfl (.inl rfl))))) (congrArg pB (List.all_eq_true.mpr fun x hx => by obtain ⟨_, _, rfl⟩ := List.mem_map.mp hx; rfl))) (fun _ => ev_isint (ok_is_integer T) (by exact hr) (ev_v 2 (P := pI 1) rfl rfl)) (fun _ _ => ev_gt (ev_v 2 (P := pI 1) rfl rfl) ev_int)) (fun v F3 H3 g3 p => ⟨g1.trans g3, p⟩) g1.s

end
end K24
set_option Elab.async false
set_option linter.all false
set_option maxRecDepth 100000
set_option maxHeartbeats 4000000
set_option autoImplicit false
namespace K24
open PySem PySem.Spec PyProof.Rows L2
open PySem.W (Datum DatumOrd Holds HoldAll Tup)
section
variable {P : Program} {w : World} {K : PySem.W.Frag} {mg : Str → Option Value} {base : Heap}


def c_head_determinants (KK : PySem.W.Frag) : Con := fun vs F R => ∃ (a : V) (m : Mx) (n : Nat) (Ds : Nat → Int), vs = [a] ∧ pG KK m n a F ∧ Rect m n n ∧ n ≤ 1000 ∧ (∀ i : Nat, i < n → Bare i 0 (blkM m i) 1 1 (Ds i)) ∧ R = pR ((rng 0 n).map fun i => Ds i.toNat)

theorem sc_head_determinants : FnScope ["gram", "found", "size", "i"] ["gram"] d_head_determinants.scope := ⟨rfl, rfl, rfl, by decide +kernel, rfl, by decide +kernel, by decide +kernel⟩
theorem ok_head_determinants (T : Tx K mg) : FnD P w K mg base 5 "head_determinants" (spP (c_head_determinants K)) :=
  mk_fn T (d := d_head_determinants) 23 23 rfl rfl rfl rfl rfl sc_head_determinants (fun _ _ _ _ _ _ us hl => match us, hl with | [_], _ => rfl) (fun vs F P h => by obtain ⟨_, _, _, _, e, _⟩ := h; rw [e]; rfl) fun cdv A outer s H E hr vs F R sm hc => by
    obtain ⟨a, m, n, Ds, rfl, ha, Rm, hn, run, rfl⟩ := hc
    refine x_setN 1 (f := pI) (xs := []) en_nil (fun l vs F1 H1 g1 n1 n2 e3 r => ?_) sm sc_head_determinants.nd
    obtain rfl : vs = [] := List.length_eq_zero_iff.mp r.1
    let S : Option V → L2.St := fun o2 => [some a, some (.ref l), o2, none]
    have ha1 := Mn.mono _ _ _ g1.f ha
    refine x_forN (i := 2) (xs := rng 0 n) (pr := pI) (fun i σ1 F3 H3 => ∃ o2 ws, σ1 = S o2 ∧ Same F1 F3 ∧ Gw F H F3 H3 ∧ F3 l = none ∧ H3 l = some (.lst ws) ∧ AllP pI ws (((rng 0 n).take i).map fun i : Int => Ds i.toNat) F3)
      (wk_rng1 T.n_range (ev_lenG (ok_G_len T) (by exact hr.mono (by omega)) T.n_len (ev_v 0 rfl ha1) Rm.h hn) (by omega) (by omega)) (fun F3 H3 g3 => ⟨none, [], rfl, g3.f, g1.trans g3, (g3.own e3 n2).2, (g3.own e3 n2).1, AllP.nil⟩) ?_ ?_ g1.s PassesOwn.never rfl sc_head_determinants.nd
    · rintro F0 ii i σ1 F3 H3 hi s0' s3 ⟨o2, ws, rfl, s13, g3, f3, h3, r3⟩ v F4 H4 g4 pv
      cases pv
      obtain ⟨ei, hi2⟩ := rng_get hi
      have ei2 : i = (ii : Nat) := by omega
      subst ei2
      have hin : ii < n := by omega
      have o4' := g4.own h3 f3
      have ha4 := Mn.mono _ _ _ (s13.trans g4.f) ha1
      have Rb := blk_rect (h := ii) Rm (by omega)
      refine x_app (P := pI (Ds ii)) (l := l) (vs := ws) (ev_v 1 rfl rfl) (ev_meth0 T.clG (ok_G_determinant T) (by exact hr.mono (by omega)) (ev_mkG (m := blkM m ii) (w := ii) T (by exact hr) ((EvN.ev (en_lc (own := [("i", 3)]) (i := 3) (f := pTI) (fun i : Int => (m.getD i.toNat []).take ii) (wk_rng1 T.n_range (ev_v 2 rfl rfl) (by omega) (by omega)) (by rw [rng_len, sizeLine_eq]; omega) rfl sc_head_determinants.nd (blkOk_by (N := ["gram", "found", "size", "i"]) (sc := d_head_determinants.scope) (by decide +kernel)) (fun _ => rfl)
        (fun z hz v F1 H1 g pv s H' C cl fp => ev_uptoT (ev_ixT (f := pTI) (ev_rows T (ev_v 0 rfl (Mn.mono _ _ _ g.f ha4))) (ev_v 3 rfl pv) (Rm.row (by have := mem_rng.mp hz; omega) (by have := mem_rng.mp hz; omega)).1) (ev_v 2 rfl rfl))
        (fun _ _ _ _ _ => pg_name (i := 3) sc_head_determinants.nd rfl (.inl rfl)))).imp fun _ _ _ q => pLT.ss q) (ev_v 2 rfl rfl) Rb.w (by show (blkM m ii).length ≤ _; rw [Rb.h]; omega) (by omega))
        (fun v F1 h => insG h (by decide)) (fun v F1 s q => ⟨v, blkM m ii, ii, Ds ii, rfl, q, Rb, by omega, run ii hin, rfl⟩)) o4'.1 o4'.2 ?_ (fun v9 F9 H9 g9 p9 => ?_) g4.s (pe_bm PySem.F.plainAttrs_list PySem.F.slot_list_append ty_app mt_append pe_w pa_w)
      · rw [r3.1, List.length_map, sizeLine_eq]
        have := List.length_take_le' ii (rng 0 n)
        rw [rng_len] at this
        omega
      · have p9' := g9.own o4'.1 o4'.2
        have gg := ((g3.trans g4).trans g9).mut (o := .lst (ws ++ [v9])) n1 p9'.2
        have sf := g4.f.trans g9.f
        refine x_nil gg.s ⟨s0'.trans sf, some (.int (ii : Nat)), ws ++ [v9], rfl, s13.trans sf, gg, p9'.2, upd_same, ?_⟩
        rw [List.take_add_one, hi, List.map_append]
        exact (r3.up sf).snoc p9
    · rintro σ1 F3 H3 s3 ⟨o2, ws, rfl, s13, g3, f3, h3, r3⟩
      rw [List.take_length] at r3
      have gz := g3.frz n1 f3 h3
      show Sx (cxD P w K mg base ["gram", "found", "size", "i"] d_head_determinants cdv A outer s H E) _ _ (upd F3 l (.lst ws)) H3 _
      exact x_ret (P := pR ((rng 0 n).map fun i => Ds i.toNat)) (ev_v 1 rfl ⟨l, ws, rfl, upd_same, r3.up (same_new f3)⟩) (fun v F4 H4 g4 p4 => ⟨gz.trans g4, p4⟩) gz.s


def restS (t : Mx) (b : List Int) : Int := ((rng 0 b.length).map fun i => at2 t 0 (i + 1) * b.getD i.toNat 0).sum
def knownS (t : Mx) (b : List Int) : Int := ((rng 0 b.length).map fun i => ((rng 0 b.length).map fun j => at2 t (i + 1) (j + 1) * b.getD i.toNat 0 * b.getD j.toNat 0).sum).sum
def insideS (t : Mx) (b : List Int) (bd : Int) : Int := restS t b * restS t b - at2 t 0 0 * (knownS t b - bd)
def lowS (t : Mx) (b : List Int) (bd : Int) : Int := -((-(-restS t b - (Float64.isqrt (insideS t b bd).toNat : Nat))).fdiv (at2 t 0 0))
def highS (t : Mx) (b : List Int) (bd : Int) : Int := (-restS t b + (Float64.isqrt (insideS t b bd).toNat : Nat)).fdiv (at2 t 0 0)
def choicesS (t : Mx) (b : List Int) (bd : Int) : List Int := if insideS t b bd < 0 then [] else rng (lowS t b bd) (highS t b bd + 1)
structure ChOk (t : Mx) (b : List Int) (bd : Int) : Prop where
  tb : ∀ r ∈ t, ∀ x ∈ r, x.natAbs < 2 ^ 64
  bb : ∀ x ∈ b, x.natAbs < 2 ^ 64
  r : (restS t b).natAbs < 2 ^ 64
  i : insideS t b bd < 2 ^ 64
  n : at2 t 0 0 ≠ 0
  z : 0 ≤ insideS t b bd → RgOk (lowS t b bd) (highS t b bd + 1)
def c_choices (KK : PySem.W.Frag) : Con := fun vs F R => ∃ a b c t bd n, vs = [a, b, .int 0, .int 1, .int c] ∧ pG KK t (n + 1) a F ∧ Rect t (n + 1) (n + 1) ∧ n ≤ 100 ∧ pTI bd b F ∧ bd.length = n ∧ ChOk t bd c ∧ R = pR (choicesS t bd c)
theorem sum_take {f : Int → Int} {xs : List Int} {i : Nat} {x : Int} (h : xs[i]? = some x) : ((xs.take (i + 1)).map f).sum = ((xs.take i).map f).sum + f x := by
  rw [List.take_add_one, h, List.map_append, List.sum_append]
  simp
theorem getD_mem {b : List Int} {i : Nat} (h : i < b.length) : b.getD i 0 ∈ b := by
  rw [List.getD_eq_getElem?_getD, List.getElem?_eq_getElem h]
  exact List.getElem_mem h
theorem Rect.mem {m : Mx} {h w : Nat} (R : Rect m h w) {i k : Int} (h0 : 0 ≤ i) (h1 : i < h) (k0 : 0 ≤ k) (k1 : k < w) : ∃ r ∈ m, at2 m i k ∈ r := by
  have h2 : i.toNat < m.length := by rw [R.h]; omega
  refine ⟨m.getD i.toNat [], ?_, ?_⟩
  · rw [List.getD_eq_getElem?_getD, List.getElem?_eq_getElem h2]
    exact List.getElem_mem h2
  · exact getD_mem (by rw [(R.row h0 h1).2]; omega)

theorem sc_choices : FnScope ["tail", "behind", "a", "d", "bound", "first", "rest", "i", "known", "j", "inside", "root", "low", "high"] ["tail", "behind", "a", "d", "bound"] d_choices.scope := ⟨rfl, rfl, rfl, by decide +kernel, rfl, by decide +kernel, by decide +kernel⟩
theorem ok_choices (T : Tx K mg) : FnD P w K mg base 2 "choices" (spP (c_choices K)) :=
  mk_fn T (d := d_choices) 24 24 rfl rfl rfl rfl rfl sc_choices (fun _ _ _ _ _ _ us hl => match us, hl with | [_, _, _, _, _], _ => rfl) (fun vs F P h => by obtain ⟨_, _, _, _, _, _, e, _⟩ := h; rw [e]; rfl) fun cdv A outer s H E hr vs F R sm hc => by
    obtain ⟨a, b, c, t, bd, n, rfl, ha, Rt, hn, hb, lb, ok, rfl⟩ := hc
    have row0 := Rt.row (i := 0) (by omega) (by omega)
    refine x_set 5 (P := pTI (t.getD 0 [])) (ev_ixT (f := pTI) (ev_rows T (ev_v 0 rfl ha)) ev_int row0.1) (fun v0 F1 H1 g1 p1 => ?_) sm sc_choices.nd
    refine x_set 6 (P := pI 0) ev_int (fun v F2 H2 g2 p2 => ?_) g1.s sc_choices.nd
    cases p2
    have p1' := Mn.mono _ _ _ g2.f p1
    have hb2 := Mn.mono _ _ _ (g1.f.trans g2.f) hb
    have ha2 := Mn.mono _ _ _ (g1.f.trans g2.f) ha
    have bnd : ∀ i k : Int, 0 ≤ i → i < (n + 1 : Nat) → 0 ≤ k → k < (n + 1 : Nat) → (at2 t i k).natAbs < 2 ^ 64 := fun i k i0 i1 k0 k1 => by
      obtain ⟨r, hr, hx⟩ := Rt.mem i0 i1 k0 k1
      exact ok.tb r hr _ hx
    let S : Int → Option V → Option V → Option V → L2.St := fun rs o7 o8 o9 => [some a, some b, some (.int 0), some (.int 1), some (.int c), some v0, some (.int rs), o7, o8, o9, none, none, none, none]
    refine x_forN (i := 7) (xs := rng 0 n) (pr := pI) (fun i σ1 F3 H3 => ∃ o7, σ1 = S (((rng 0 n).take i).map fun i => at2 t 0 (i + 1) * bd.getD i.toNat 0).sum o7 none none ∧ Gw F2 H2 F3 H3)
      (wk_rng1 T.n_range (Ev.is (ev_lenT T.n_len (ev_v 1 rfl hb2)) (by rw [lb])) (by omega) (by omega)) (fun F3 H3 g3 => ⟨none, rfl, g3⟩) ?_ ?_ g2.s PassesOwn.never rfl sc_choices.nd
    · rintro F0 ii i σ1 F3 H3 hi s0' s3 ⟨o7, rfl, g3⟩ v F4 H4 g4 pv
      cases pv
      obtain ⟨i0, i1⟩ := mem_rng.mp (List.mem_of_getElem? hi)
      have g34 := g3.f.trans g4.f
      refine x_aug 6 (m := (((rng 0 n).take ii).map fun i => at2 t 0 (i + 1) * bd.getD i.toNat 0).sum) (n := at2 t 0 (i + 1) * bd.getD i.toNat 0) rfl (ev_mul (ev_ixT (f := pI) (ev_v 5 rfl (Mn.mono _ _ _ g34 p1')) (ev_add (ev_v 7 rfl rfl) ev_int) (Rt.at (i := 0) (by omega) (by omega) (by omega) (by omega))) (ev_ixT (f := pI) (ev_v 1 rfl (Mn.mono _ _ _ g34 hb2)) (ev_v 7 rfl rfl) (atI_in 0 i0 (by omega))) (CMul.l (bnd 0 (i + 1) (by omega) (by omega) (by omega) (by omega)))) (fun F5 H5 g5 => ?_) g4.s sc_choices.nd
      rw [← sum_take (f := fun i => at2 t 0 (i + 1) * bd.getD i.toNat 0) hi]
      exact x_nil g5.s ⟨s0'.trans (g4.f.trans g5.f), some (.int i), rfl, g3.trans (g4.trans g5)⟩
    · rintro σ1 F3 H3 s3 ⟨o7, rfl, g3⟩
      rw [List.take_length]
      have er : ((rng 0 n).map fun i => at2 t 0 (i + 1) * bd.getD i.toNat 0).sum = restS t bd := by unfold restS; rw [lb]
      rw [er]
      refine x_set 8 (P := pI 0) ev_int (fun v F4 H4 g4 p4 => ?_) g3.s sc_choices.nd
      cases p4
      have g24 := g3.f.trans g4.f
      have hb4 := Mn.mono _ _ _ g24 hb2
      have ha4 := Mn.mono _ _ _ g24 ha2
      let S2 : Int → Option V → Option V → L2.St := fun kn o7 o9 => [some a, some b, some (.int 0), some (.int 1), some (.int c), some v0, some (.int (restS t bd)), o7, some (.int kn), o9, none, none, none, none]
      refine x_forN (i := 7) (xs := rng 0 n) (pr := pI) (fun i σ1 F5 H5 => ∃ o7 o9, σ1 = S2 (((rng 0 n).take i).map fun i => ((rng 0 n).map fun j => at2 t (i + 1) (j + 1) * bd.getD i.toNat 0 * bd.getD j.toNat 0).sum).sum o7 o9 ∧ Gw F4 H4 F5 H5)
        (wk_rng1 T.n_range (Ev.is (ev_lenT T.n_len (ev_v 1 rfl hb4)) (by rw [lb])) (by omega) (by omega)) (fun F5 H5 g5 => ⟨o7, none, rfl, g5⟩) ?_ ?_ g4.s PassesOwn.never rfl sc_choices.nd
      · rintro F0 ii i σ1 F5 H5 hi s0' s5 ⟨o7, o9, rfl, g5⟩ v F6 H6 g6 pv
        cases pv
        obtain ⟨i0, i1⟩ := mem_rng.mp (List.mem_of_getElem? hi)
        have hb6 := Mn.mono _ _ _ (g5.f.trans g6.f) hb4
        refine x_forN (i := 9) (xs := rng 0 n) (pr := pI) (fun j σ1 F7 H7 => ∃ o9, σ1 = S2 ((((rng 0 n).take ii).map fun i => ((rng 0 n).map fun j => at2 t (i + 1) (j + 1) * bd.getD i.toNat 0 * bd.getD j.toNat 0).sum).sum + (((rng 0 n).take j).map fun j => at2 t (i + 1) (j + 1) * bd.getD i.toNat 0 * bd.getD j.toNat 0).sum) (some (.int i)) o9 ∧ Same F0 F7 ∧ Gw F4 H4 F7 H7)
          (wk_rng1 T.n_range (Ev.is (ev_lenT T.n_len (ev_v 1 rfl hb6)) (by rw [lb])) (by omega) (by omega)) (fun F7 H7 g7 => ⟨o9, by simp; rfl, s0'.trans (g6.f.trans g7.f), g5.trans (g6.trans g7)⟩) ?_ ?_ g6.s PassesOwn.never rfl sc_choices.nd
        · rintro F0' jj j σ1 F7 H7 hj s0'' s7 ⟨o9, rfl, s07, g7⟩ v F8 H8 g8 pv
          cases pv
          obtain ⟨j0, j1⟩ := mem_rng.mp (List.mem_of_getElem? hj)
          have g48 := g7.f.trans g8.f
          refine x_aug 8 (m := (((rng 0 n).take ii).map fun i => ((rng 0 n).map fun j => at2 t (i + 1) (j + 1) * bd.getD i.toNat 0 * bd.getD j.toNat 0).sum).sum + (((rng 0 n).take jj).map fun j => at2 t (i + 1) (j + 1) * bd.getD i.toNat 0 * bd.getD j.toNat 0).sum) (n := at2 t (i + 1) (j + 1) * bd.getD i.toNat 0 * bd.getD j.toNat 0) rfl
            (ev_mul (ev_mul (ev_ixT (f := pI) (ev_ixT (f := pTI) (ev_rows T (ev_v 0 rfl (Mn.mono _ _ _ g48 ha4))) (ev_add (ev_v 7 rfl rfl) ev_int) (Rt.row (by omega) (by omega)).1) (ev_add (ev_v 9 rfl rfl) ev_int) (Rt.at (by omega) (by omega) (by omega) (by omega))) (ev_ixT (f := pI) (ev_v 1 rfl (Mn.mono _ _ _ g48 hb4)) (ev_v 7 rfl rfl) (atI_in 0 i0 (by omega))) (CMul.l (bnd _ _ (by omega) (by omega) (by omega) (by omega))))
              (ev_ixT (f := pI) (ev_v 1 rfl (Mn.mono _ _ _ g48 hb4)) (ev_v 9 rfl rfl) (atI_in 0 j0 (by omega))) (CMul.r (ok.bb _ (getD_mem (by omega))))) (fun F9 H9 g9 => ?_) g8.s sc_choices.nd
          rw [Int.add_assoc, ← sum_take (f := fun j => at2 t (i + 1) (j + 1) * bd.getD i.toNat 0 * bd.getD j.toNat 0) hj]
          exact x_nil g9.s ⟨s0''.trans (g8.f.trans g9.f), some (.int j), rfl, s07.trans (g8.f.trans g9.f), g7.trans (g8.trans g9)⟩
        · rintro σ1 F7 H7 s7 ⟨o9, rfl, s07, g7⟩
          rw [List.take_length, ← sum_take (f := fun i => ((rng 0 n).map fun j => at2 t (i + 1) (j + 1) * bd.getD i.toNat 0 * bd.getD j.toNat 0).sum) hi]
          exact x_nil s7 ⟨s07, some (.int i), o9, rfl, g7⟩
      · rintro σ1 F5 H5 s5 ⟨o7, o9, rfl, g5⟩
        rw [List.take_length]
        have ek : ((rng 0 n).map fun i => ((rng 0 n).map fun j => at2 t (i + 1) (j + 1) * bd.getD i.toNat 0 * bd.getD j.toNat 0).sum).sum = knownS t bd := by unfold knownS; rw [lb]
        rw [ek]
        have p15 := Mn.mono _ _ _ (g24.trans g5.f) p1'
        have a00 : atI (t.getD 0 []) 0 = some (at2 t 0 0) := Rt.at (i := 0) (k := 0) (by omega) (by omega) (by omega) (by omega)
        have g15 := (g1.trans g2).trans (g3.trans (g4.trans g5))
        refine x_set 10 (P := pI (insideS t bd c)) (ev_sub (ev_mul (ev_v 6 rfl rfl) (ev_v 6 rfl rfl) (CMul.l ok.r)) (ev_mul (ev_ixT (f := pI) (ev_v 5 rfl p15) ev_int a00) (ev_sub (ev_v 8 rfl rfl) (ev_v 4 rfl rfl)) (CMul.l (bnd 0 0 (by omega) (by omega) (by omega) (by omega))))) (fun v F6 H6 g6 p6 => ?_) g5.s sc_choices.nd
        cases p6
        refine x_when (k := decide (insideS t bd c < 0)) (evt_lt (ev_v 10 rfl rfl) ev_int) (fun hb F7 H7 g7 => ?_) (fun hb F7 H7 g7 => ?_) g6.s
        · have hb := of_decide_eq_true hb
          refine x_ret (P := pR (choicesS t bd c)) ?_ (fun v F8 H8 g8 p8 => ⟨g15.trans (g6.trans (g7.trans g8)), p8⟩) g7.s
          unfold choicesS
          rw [if_pos hb]
          exact EvN.ev en_nil
        · have hb := of_decide_eq_false hb
          refine x_set 11 (P := pI ((Float64.isqrt (insideS t bd c).toNat : Nat) : Int)) (ev_call (Ps := pCons (pI (insideS t bd c)) pNil) (ok_root_floor T) (by exact hr) (ea_one (ev_v 10 rfl rfl)) (fun vs F1 sF ⟨a1, _, e1, b1, e3⟩ => by
            cases e3
            cases b1
            subst e1
            exact ⟨_, rfl, by omega, ok.i, rfl⟩)) (fun v F8 H8 g8 p8 => ?_) g7.s sc_choices.nd
          cases p8
          have p18 := Mn.mono _ _ _ (g6.f.trans (g7.f.trans g8.f)) p15
          refine x_set 12 (P := pI (lowS t bd c)) (ev_call (Ps := pCons (pI (-restS t bd - ((Float64.isqrt (insideS t bd c).toNat : Nat) : Int))) (pCons (pI (at2 t 0 0)) pNil)) (ok_upper T) (by exact hr) (ea_cons (ev_sub (ev_neg (ev_v 6 rfl rfl)) (ev_v 11 rfl rfl)) (ea_one (ev_ixT (f := pI) (ev_v 5 rfl p18) ev_int a00))) (fun vs F1 sF ⟨a1, _, e1, b1, a2, _, e2, b2, e3⟩ => by
            cases e3
            cases b1
            cases b2
            subst e1 e2
            exact ⟨_, _, rfl, ok.n, bnd 0 0 (by omega) (by omega) (by omega) (by omega), rfl⟩)) (fun v F9 H9 g9 p9 => ?_) g8.s sc_choices.nd
          cases p9
          refine x_set 13 (P := pI (highS t bd c)) (ev_call (Ps := pCons (pI (-restS t bd + ((Float64.isqrt (insideS t bd c).toNat : Nat) : Int))) (pCons (pI (at2 t 0 0)) pNil)) (ok_lower T) (by exact hr) (ea_cons (ev_add (ev_neg (ev_v 6 rfl rfl)) (ev_v 11 rfl rfl)) (ea_one (ev_ixT (f := pI) (ev_v 5 rfl (Mn.mono _ _ _ g9.f p18)) ev_int a00))) (fun vs F1 sF ⟨a1, _, e1, b1, a2, _, e2, b2, e3⟩ => by
            cases e3
            cases b1
            cases b2
            subst e1 e2
            exact ⟨_, _, rfl, ok.n, bnd 0 0 (by omega) (by omega) (by omega) (by omega), rfl⟩)) (fun v F10 H10 g10 p10 => ?_) g9.s sc_choices.nd
          cases p10
          refine x_ret (P := pR (choicesS t bd c)) ?_ (fun v F11 H11 g11 p11 => ⟨g15.trans (g6.trans (g7.trans (g8.trans (g9.trans (g10.trans g11))))), p11⟩) g10.s
          unfold choicesS
          rw [if_neg hb]
          exact EvN.ev (ev_listRg T.n_list T.n_range rfl (Ev.is (ev_call (P := pI (-((-(lowS t bd c + 0)).fdiv 1))) (Ps := pCons (pI (lowS t bd c + 0)) (pCons (pI 1) pNil)) (ok_upper T) (by exact hr) (ea_cons (ev_add (ev_v 12 rfl rfl) (ev_v 2 rfl rfl)) (ea_one (ev_v 3 rfl rfl))) (fun vs F1 sF ⟨a1, _, e1, b1, a2, _, e2, b2, e3⟩ => by
              cases e3
              cases b1
              cases b2
              subst e1 e2
              exact ⟨_, _, rfl, by decide, by decide, rfl⟩)) (by rw [Int.fdiv_one, Int.neg_neg, Int.add_zero]))
            (ev_add (Ev.is (ev_call (P := pI ((highS t bd c + 0).fdiv 1)) (Ps := pCons (pI (highS t bd c + 0)) (pCons (pI 1) pNil)) (ok_lower T) (by exact hr) (ea_cons (ev_add (ev_v 13 rfl rfl) (ev_v 2 rfl rfl)) (ea_one (ev_v 3 rfl rfl))) (fun vs F1 sF ⟨a1, _, e1, b1, a2, _, e2, b2, e3⟩ => by
              cases e3
              cases b1
              cases b2
              subst e1 e2
              exact ⟨_, _, rfl, by decide, by decide, rfl⟩)) (by rw [Int.fdiv_one, Int.add_zero])) ev_int) (ok.z (by omega)) (he := rfl))

end
end K24
set_option Elab.async false
set_option linter.all false
set_option maxRecDepth 100000
set_option maxHeartbeats 4000000
set_option autoImplicit false
namespace K24
open PySem PySem.Spec PyProof.Rows L2
open PySem.W (Datum DatumOrd Holds HoldAll Tup)
section
variable {P : Program} {w : World} {K : PySem.W.Frag} {mg : Str → Option Value} {base : Heap}


def tailK (m : Mx) (n : Nat) (Ds : Nat → Int) (dds : Nat → Int → Int → Int) (h : Nat) : Mx := tailOf m h n (Ds h) (dds h)
def fpP (m : Mx) (n : Nat) (Ds : Nat → Int) (dds : Nat → Int → Int → Int) (most : Int) : Nat → Mx
  | 0 => [[]]
  | j + 1 => (fpP m n Ds dds most j).flatMap fun v => (choicesS (tailK m n Ds dds (n - 1 - j)) v (Ds (n - 1 - j) * most)).map fun x => x :: v
structure FpOk (m : Mx) (n : Nat) (Ds : Nat → Int) (dds : Nat → Int → Int → Int) (most : Int) : Prop where
  tl : ∀ h : Nat, h < n → TailOk m h n (Ds h) (dds h)
  ch : ∀ j : Nat, j < n → ∀ v ∈ fpP m n Ds dds most j, ChOk (tailK m n Ds dds (n - 1 - j)) v (Ds (n - 1 - j) * most)
  len : ∀ j : Nat, j ≤ n → (fpP m n Ds dds most j).length ≤ 1000000
  cl : ∀ j : Nat, j < n → ∀ v ∈ fpP m n Ds dds most j, (choicesS (tailK m n Ds dds (n - 1 - j)) v (Ds (n - 1 - j) * most)).length ≤ 1000000
  bd : ∀ v ∈ fpP m n Ds dds most n, ∀ x ∈ v, x.natAbs < 2 ^ 64
theorem fpP_len {m : Mx} {n : Nat} {Ds : Nat → Int} {dds : Nat → Int → Int → Int} {most : Int} : ∀ (j : Nat) (v : List Int), v ∈ fpP m n Ds dds most j → v.length = j
  | 0, v, h => by
    have : v = [] := by simpa [fpP] using h
    rw [this]; rfl
  | j + 1, v, h => by
    unfold fpP at h
    obtain ⟨u, hu, hv⟩ := List.mem_flatMap.mp h
    obtain ⟨x, _, rfl⟩ := List.mem_map.mp hv
    rw [List.length_cons, fpP_len j u hu]
def nearL (m : Mx) (n : Nat) (Ds : Nat → Int) (dds : Nat → Int → Int → Int) (most : Int) : Mx := (((fpP m n Ds dds most n).map fun v => (prodI m v v, Tup.mk v)).mergeSort dle).map fun z => z.2.items
def fV : List Int × List Int → Pr := fun z => pP (pTI z.1) (pTI z.2)
instance {z : List Int × List Int} : Mn (fV z) := by unfold fV; infer_instance
def dup (vs : Mx) : List (List Int × List Int) := vs.map fun v => (v, v)
def fNV : Int × Tup Int → Pr := fun z => pP (pI z.1) (pTI z.2.items)
instance {z : Int × Tup Int} : Mn (fNV z) := by unfold fNV; infer_instance
theorem rd_NV (z : Int × Tup Int) : Rd8 z (fNV z) := rd_P (rd_int z.1) (rd_TI z.2.items)
theorem small_cat {a b : Nat} (h : a ≤ 100) (h2 : b ≤ 100) : a + b ≤ sizeLine := by rw [sizeLine_eq]; omega
def c_near_vectors (KK : PySem.W.Frag) : Con := fun vs F R => ∃ (a b : V) (m : Mx) (n : Nat) (Ds : Nat → Int) (dds : Nat → Int → Int → Int) (most : Int), vs = [a, b, .int 1, .int most] ∧ pLa KK m a F ∧ Rect m n n ∧ 1 ≤ n ∧ n ≤ 10 ∧ pTI (List.replicate n 0) b F ∧ (∀ r ∈ m, ∀ x ∈ r, x.natAbs < 2 ^ 64) ∧ FpOk m n Ds dds most ∧ R = pTT (nearL m n Ds dds most)

theorem sc_near_vectors : FnScope ["lattice", "a", "d", "most", "gram", "minors", "partial", "k", "tail", "longer", "vector", "behind", "x", "v", "w", "_"] ["lattice", "a", "d", "most"] d_near_vectors.scope := ⟨rfl, rfl, rfl, by decide +kernel, rfl, by decide +kernel, by decide +kernel⟩
theorem ok_near_vectors (T : Tx K mg) : FnD P w K mg base 7 "near_vectors" (spP (c_near_vectors K)) :=
  mk_fn T (d := d_near_vectors) 25 25 rfl rfl rfl rfl rfl sc_near_vectors (fun _ _ _ _ _ _ us hl => match us, hl with | [_, _, _, _], _ => rfl) (fun vs F P h => by obtain ⟨_, _, _, _, _, _, _, e, _⟩ := h; rw [e]; rfl) fun cdv A outer s H E hr vs F R sm hc => by
    obtain ⟨a, b, m, n, Ds, dds, most, rfl, ha, Rm, n1, n10, hb, bm, ok, rfl⟩ := hc
    refine x_skip (EvT.is (evt_not (evt_val (ev_call (P := pB true) (Ps := pCons (pLa K m) (pCons (pTI (List.replicate n 0)) (pCons (pI 1) pNil))) (ok_is_point T) (by exact hr.mono (by omega)) (ea_cons (ev_v 0 rfl ha) (ea_cons (ev_v 1 rfl hb) (ea_one (ev_v 2 rfl rfl)))) (fun vs F1 sF ⟨a1, _, e1, b1, a2, _, e2, b2, a3, _, e3, b3, e4⟩ => by
      cases e4
      cases b3
      subst e1 e2 e3
      exact ⟨a1, a2, m, _, rfl, b1, b2, by rw [List.length_replicate, Rm.h], by rw [Rm.h]; omega, rfl⟩)))) rfl) (fun F1 H1 g1 => ?_) sm
    have Rm' := Rm.h
    refine x_set 4 (P := pG K m m.length) (ev_gram T (ev_v 0 rfl (Mn.mono _ _ _ g1.f ha))) (fun vg F2 H2 g2 p2 => ?_) g1.s sc_near_vectors.nd
    rw [Rm.h] at p2
    refine x_set 5 (P := pR ((rng 0 n).map fun i => Ds i.toNat)) (ev_call (Ps := pCons (pG K m n) pNil) (ok_head_determinants T) (by exact hr.mono (by omega)) (ea_one (ev_v 4 rfl p2)) (fun vs F1 sF ⟨a1, _, e1, b1, e4⟩ => by
      cases e4
      subst e1
      exact ⟨a1, m, n, Ds, rfl, b1, Rm, by omega, fun i hi => (ok.tl i hi).d, rfl⟩)) (fun vm F3 H3 g3 p3 => ?_) g2.s sc_near_vectors.nd
    refine x_set 6 (P := pL fV (dup [[]])) (EvN.ev (en_lst1 (f := fV) (x := (([] : List Int), ([] : List Int))) (ev_pair ev_tup0 ev_tup0))) (fun vp F4 H4 g4 p4 => ?_) g3.s sc_near_vectors.nd
    have g14 := g1.trans (g2.trans (g3.trans g4))
    have ha4 := Mn.mono _ _ _ g14.f ha
    have hb4 := Mn.mono _ _ _ g14.f hb
    have pg4 := Mn.mono _ _ _ (g3.f.trans g4.f) p2
    have pm4 := Mn.mono _ _ _ g4.f p3
    let S : V → Option V → Option V → Option V → Option V → Option V → Option V → L2.St := fun vp o7 o8 o9 o10 o11 o12 => [some a, some b, some (.int 1), some (.int most), some vg, some vm, some vp, o7, o8, o9, o10, o11, o12, none, none, none]
    have nmin : ∀ h : Nat, h < n → atI ((rng 0 n).map fun i => Ds i.toNat) (h : Int) = some (Ds h) := fun h hh => by
      rw [atI_in 0 (by omega) (by rw [List.length_map, rng_len]; omega), List.getD_eq_getElem?_getD, List.getElem?_map]
      have : (rng 0 n)[(h : Int).toNat]? = some (h : Int) := by
        unfold rng
        rw [List.getElem?_map, Int.toNat_natCast, List.getElem?_range (by omega)]
        simp
      rw [this]
      simp
    refine x_forN (i := 7) (xs := dwn n) (pr := pI) (fun j σ1 F5 H5 => ∃ vp o7 o8 o9 o10 o11 o12, σ1 = S vp o7 o8 o9 o10 o11 o12 ∧ Gw F4 H4 F5 H5 ∧ pL fV (dup (fpP m n Ds dds most j)) vp F5)
      (wk_dwn T.n_range (ev_lenG (ok_G_len T) (by exact hr.mono (by omega)) T.n_len (ev_v 4 rfl pg4) Rm.h (by omega)) ev_int (ev_neg ev_int) (by omega)) (fun F5 H5 g5 => ⟨vp, none, none, none, none, none, none, rfl, g5, Mn.mono _ _ _ g5.f p4⟩) ?_ ?_ g4.s PassesOwn.never rfl sc_near_vectors.nd
    · rintro F0 j k σ1 F5 H5 hj s0' s5 ⟨vp, o7, o8, o9, o10, o11, o12, rfl, g5, pp5⟩ v F6 H6 g6 pv
      cases pv
      obtain ⟨hjl, ej⟩ := List.getElem?_eq_some_iff.mp hj
      unfold dwn at hjl ej
      rw [List.length_map, List.length_range] at hjl
      rw [List.getElem_map, List.getElem_range] at ej
      obtain ⟨h, hh⟩ : ∃ h : Nat, h = n - 1 - j := ⟨_, rfl⟩
      have ek : k = ((h + 1 : Nat) : Int) := by omega
      have hhn : h < n := by omega
      subst ek
      have g46 := g5.trans g6
      have TO := ok.tl h hhn
      refine x_set 8 (P := pG K (tailK m n Ds dds h) (n - h)) (ev_call (Ps := pCons (pG K m n) (pCons (pI ((h + 1 : Nat) : Int)) pNil)) (ok_tail_matrix T) (by exact hr) (ea_cons (ev_v 4 rfl (Mn.mono _ _ _ g46.f pg4)) (ea_one (ev_v 7 rfl rfl))) (fun vs F1 sF ⟨a1, _, e1, b1, a2, _, e2, b2, e4⟩ => by
        cases e4
        cases b2
        subst e1 e2
        exact ⟨a1, m, n, h, Ds h, dds h, rfl, b1, Rm, by omega, hhn, TO, rfl⟩)) (fun vt F7 H7 g7 p7 => ?_) g6.s sc_near_vectors.nd
      refine x_setN 9 (f := fV) (xs := []) en_nil (fun l vs F8 H8 g8 m1 m2 m3 r8 => ?_) g7.s sc_near_vectors.nd
      obtain rfl : vs = [] := List.length_eq_zero_iff.mp r8.1
      have g48 := g46.trans (g7.trans g8)
      have nl := (g46.trans g7).new m1
      have pp8 := Mn.mono _ _ _ (g6.f.trans (g7.f.trans g8.f)) pp5
      have RtK : Rect (tailK m n Ds dds h) (n - h) (n - h) := tailOf_rect Rm (by omega)
      have ext_def : fpP m n Ds dds most (j + 1) = (fpP m n Ds dds most j).flatMap fun v => (choicesS (tailK m n Ds dds h) v (Ds h * most)).map fun x => x :: v := by rw [hh]; rfl
      refine x_forP (i := 10) (j := 11) (p1 := pTI) (p2 := pTI) (zs := dup (fpP m n Ds dds most j)) (fun i σ1 F9 H9 => ∃ o10 o11 o12 ws, σ1 = S vp (some (.int ((h + 1 : Nat) : Int))) (some vt) (some (.ref l)) o10 o11 o12 ∧ Same F0 F9 ∧ Same F8 F9 ∧ Gw F4 H4 F9 H9 ∧ F9 l = none ∧ H9 l = some (.lst ws) ∧ AllP fV ws (dup (((fpP m n Ds dds most j).take i).flatMap fun v => (choicesS (tailK m n Ds dds h) v (Ds h * most)).map fun x => x :: v)) F9)
        (wk_L (f := fV) (EvN.ev (en_listS (f := fV) T.n_list (ev_v 6 rfl (pL.s pp8))))) (fun F9 H9 g9 => ⟨o10, o11, o12, [], rfl, s0'.trans (g6.f.trans (g7.f.trans (g8.f.trans g9.f))), g9.f, g48.trans g9, (g9.own m3 m2).2, (g9.own m3 m2).1, AllP.nil⟩) ?_ ?_ g8.s PassesOwn.never rfl
        (pg_tup rfl (pgs_cons (pg_name (i := 10) sc_near_vectors.nd rfl (.inl rfl)) (pgs_cons (pg_name (i := 11) sc_near_vectors.nd rfl (.inl rfl)) pgs_nil)))
      · rintro F0' i z σ1 F9 H9 hz s0'' s9 ⟨o10, o11, o12, ws, rfl, s09, s89, g9, f9, h9, r9⟩ x y F10 H10 g10 px py
        obtain ⟨u, hu, rfl⟩ : ∃ u, (fpP m n Ds dds most j)[i]? = some u ∧ z = (u, u) := by
          unfold dup at hz
          rw [List.getElem?_map] at hz
          cases q : (fpP m n Ds dds most j)[i]? with
          | none => rw [q] at hz; cases hz
          | some u => rw [q] at hz; exact ⟨u, rfl, (Option.some.inj hz).symm⟩
        have humem := List.mem_of_getElem? hu
        have lu := fpP_len j u humem
        have CH := ok.ch j (by omega) u humem
        have CL := ok.cl j (by omega) u humem
        rw [← hh] at CH CL
        have o10' := g10.own h9 f9
        have sA := s89.trans g10.f
        have hbA := Mn.mono _ _ _ ((g5.f.trans (g6.f.trans (g7.f.trans g8.f))).trans sA) hb4
        have pmA := Mn.mono _ _ _ ((g5.f.trans (g6.f.trans (g7.f.trans g8.f))).trans sA) pm4
        have ptA := Mn.mono _ _ _ (g8.f.trans sA) p7
        have rep0 : atI (List.replicate n (0 : Int)) (h : Int) = some 0 := by
          rw [atI_in 0 (by omega) (by rw [List.length_replicate]; omega), List.getD_eq_getElem?_getD, List.getElem?_replicate, if_pos (by omega)]
          rfl
        refine x_forN (i := 12) (xs := choicesS (tailK m n Ds dds h) u (Ds h * most)) (pr := pI) (fun e σ1 F11 H11 => ∃ o12 ws, σ1 = S vp (some (.int ((h + 1 : Nat) : Int))) (some vt) (some (.ref l)) (some x) (some y) o12 ∧ Same F0' F11 ∧ Same F10 F11 ∧ Gw F4 H4 F11 H11 ∧ F11 l = none ∧ H11 l = some (.lst ws) ∧ AllP fV ws (dup (((fpP m n Ds dds most j).take i).flatMap fun v => (choicesS (tailK m n Ds dds h) v (Ds h * most)).map fun x => x :: v) ++ dup (((choicesS (tailK m n Ds dds h) u (Ds h * most)).take e).map fun x => x :: u)) F11)
          (wk_L (f := pI) (ev_call (Ps := pCons (pG K (tailK m n Ds dds h) (n - h)) (pCons (pTI u) (pCons (pI 0) (pCons (pI 1) (pCons (pI (Ds h * most)) pNil))))) (ok_choices T) (by exact hr.mono (by omega)) (ea_cons (ev_v 8 rfl ptA) (ea_cons (ev_v 11 rfl py) (ea_cons (ev_ixT (f := pI) (ev_v 1 rfl hbA) (Ev.is (ev_sub (i := ((h + 1 : Nat) : Int)) (j := 1) (ev_v 7 rfl rfl) ev_int) (by rw [show ((h + 1 : Nat) : Int) - 1 = (h : Nat) by omega])) rep0) (ea_cons (ev_v 2 rfl rfl) (ea_one (ev_mul (ev_ixL (f := pI) (ev_v 5 rfl pmA) (Ev.is (ev_sub (i := ((h + 1 : Nat) : Int)) (j := 1) (ev_v 7 rfl rfl) ev_int) (by rw [show ((h + 1 : Nat) : Int) - 1 = (h : Nat) by omega])) (nmin h hhn)) (ev_v 3 rfl rfl) (CMul.l TO.b))))))) (fun vs F1 sF ⟨a1, _, e1, b1, a2, _, e2, b2, a3, _, e3, b3, a4, _, e4, b4, a5, _, e5, b5, e6⟩ => by
            cases e6
            cases b3
            cases b4
            cases b5
            subst e1 e2 e3 e4 e5
            exact ⟨a1, a2, _, _, u, j, rfl, by rw [show j + 1 = n - h by omega]; exact b1, by rw [show j + 1 = n - h by omega]; exact RtK, by omega, b2, lu, CH, rfl⟩)))
          (fun F11 H11 g11 => ⟨o12, ws, rfl, s0''.trans (g10.f.trans g11.f), g11.f, g9.trans (g10.trans g11), (g11.own o10'.1 o10'.2).2, (g11.own o10'.1 o10'.2).1, by simpa [dup] using r9.up (g10.f.trans g11.f)⟩) ?_ ?_ g10.s PassesOwn.never rfl sc_near_vectors.nd
        · rintro F0'' e c σ1 F11 H11 hc s0x s11 ⟨o12, ws, rfl, s0y, s1011, g11, f11, h11, r11⟩ v F12 H12 g12 pv
          cases pv
          have o12' := g12.own h11 f11
          have sB := s1011.trans g12.f
          have lim : ws.length < sizeLine := by
            rw [r11.1, List.length_append]
            unfold dup
            rw [List.length_map, List.length_map, List.length_map, sizeLine_eq]
            have q1 := ok.len (j + 1) (by omega)
            rw [ext_def] at q1
            have q2 : (((fpP m n Ds dds most j).take i).flatMap fun v => (choicesS (tailK m n Ds dds h) v (Ds h * most)).map fun x => x :: v).length ≤ ((fpP m n Ds dds most j).flatMap fun v => (choicesS (tailK m n Ds dds h) v (Ds h * most)).map fun x => x :: v).length := by
              have e9 : (fpP m n Ds dds most j) = (fpP m n Ds dds most j).take i ++ (fpP m n Ds dds most j).drop i := (List.take_append_drop i _).symm
              conv => rhs; rw [e9, List.flatMap_append, List.length_append]
              exact Nat.le_add_right _ _
            have q3 := List.length_take_le' e (choicesS (tailK m n Ds dds h) u (Ds h * most))
            omega
          refine x_app (P := fV (c :: u, c :: u)) (l := l) (vs := ws) (ev_v 9 rfl rfl) (ev_pair (ev_catT (ev_tup1 (f := pI) (ev_v 12 rfl rfl)) (ev_v 10 rfl (Mn.mono _ _ _ sB px)) (small_cat (by simp) (by show u.length ≤ 100; omega))) (ev_catT (ev_tup1 (f := pI) (x := c) (Ev.is (ev_sub (ev_mul (i := 1) (j := c) (ev_v 2 rfl rfl) (ev_v 12 rfl rfl) (CMul.l (by decide))) (ev_ixT (f := pI) (ev_v 1 rfl (Mn.mono _ _ _ sB hbA)) (Ev.is (ev_sub (i := ((h + 1 : Nat) : Int)) (j := 1) (ev_v 7 rfl rfl) ev_int) (by rw [show ((h + 1 : Nat) : Int) - 1 = (h : Nat) by omega])) rep0)) (by rw [Int.one_mul, Int.sub_zero]))) (ev_v 11 rfl (Mn.mono _ _ _ sB py)) (small_cat (by simp) (by show u.length ≤ 100; omega)))) o12'.1 o12'.2 lim (fun v9 F13 H13 g13 p13 => ?_) g12.s (pe_bm PySem.F.plainAttrs_list PySem.F.slot_list_append ty_app mt_append pe_w pa_w)
          have o13 := g13.own o12'.1 o12'.2
          have gg := ((g11.trans g12).trans g13).mut (o := .lst (ws ++ [v9])) nl o13.2
          have sf := g12.f.trans g13.f
          refine x_nil gg.s ⟨s0x.trans sf, some (.int c), ws ++ [v9], rfl, s0y.trans sf, s1011.trans sf, gg, o13.2, upd_same, ?_⟩
          unfold dup at r11 ⊢
          rw [List.take_add_one, hc, List.map_append, List.map_append, ← List.append_assoc]
          exact (r11.up sf).snoc p13
        · rintro σ1 F11 H11 s11 ⟨o12, ws, rfl, s0y, s1011, g11, f11, h11, r11⟩
          rw [List.take_length] at r11
          refine x_nil s11 ⟨s0y, some x, some y, o12, ws, rfl, s09.trans (g10.f.trans s1011), s89.trans (g10.f.trans s1011), g11, f11, h11, ?_⟩
          rw [take_flat hu]
          unfold dup at r11 ⊢
          rw [List.map_append]
          exact r11
      · rintro σ1 F9 H9 s9 ⟨o10, o11, o12, ws, rfl, s09, s89, g9, f9, h9, r9⟩
        have el : (dup (fpP m n Ds dds most j)).length = (fpP m n Ds dds most j).length := by unfold dup; rw [List.length_map]
        rw [el, List.take_length, ← ext_def] at r9
        have gz := g9.frz nl f9 h9
        show Sx (cxD P w K mg base ["lattice", "a", "d", "most", "gram", "minors", "partial", "k", "tail", "longer", "vector", "behind", "x", "v", "w", "_"] d_near_vectors cdv A outer s H E) _ _ (upd F9 l (.lst ws)) H9 _
        refine x_set 6 (P := pL fV (dup (fpP m n Ds dds most (j + 1)))) (ev_v 9 rfl ⟨l, ws, rfl, upd_same, r9.up (same_new f9)⟩) (fun v10 F10 H10 g10 p10 => ?_) gz.s sc_near_vectors.nd
        exact x_nil g10.s ⟨s09.trans ((same_new f9).trans g10.f), v10, _, _, _, _, _, _, rfl, gz.trans g10, p10⟩
    · rintro σ1 F5 H5 s5 ⟨vp, o7, o8, o9, o10, o11, o12, rfl, g5, pp5⟩
      have ln : (dwn n).length = n := by unfold dwn; rw [List.length_map, List.length_range]
      rw [ln] at pp5
      have ha5 := Mn.mono _ _ _ g5.f ha4
      have ld : (dup (fpP m n Ds dds most n)).length ≤ 1000000 := by unfold dup; rw [List.length_map]; exact ok.len n (Nat.le_refl _)
      have e1 : (dup (fpP m n Ds dds most n)).map (fun z : List Int × List Int => (prodI m z.2 z.2, Tup.mk z.1)) = (fpP m n Ds dds most n).map fun v => (prodI m v v, Tup.mk v) := by
        unfold dup
        rw [List.map_map]
        rfl
      have hk : PySem.W.Sortable (((fpP m n Ds dds most n).map fun v => (prodI m v v, Tup.mk v)).map Datum.toD) := .inl fun d hd => by
        obtain ⟨z, _, rfl⟩ := List.mem_map.mp hd
        exact ⟨_, _, rfl⟩
      refine x_ret (ev_tupL T.n_tuple (EvN.ev (en_lcP (own := [("_", 15), ("v", 13)]) (i := 15) (j := 13) (pr := pI) (pq := fun t : Tup Int => pTI t.items) (f := pTI) (xs := ((fpP m n Ds dds most n).map fun v => (prodI m v v, Tup.mk v)).mergeSort dle) (fun z : Int × Tup Int => z.2.items)
        (wk_L (f := fNV) (EvN.ev (en_sortD (f := fNV) T.n_sorted (Ev.is (EvN.ev (en_lcP (own := [("v", 13), ("w", 14)]) (i := 13) (j := 14) (pr := pTI) (pq := pTI) (f := fNV) (fun z : List Int × List Int => (prodI m z.2 z.2, Tup.mk z.1)) (wk_L (f := fV) (ev_v 6 rfl pp5))
          (by rw [sizeLine_eq]; omega) rfl sc_near_vectors.nd (blkOk_by (N := ["lattice", "a", "d", "most", "gram", "minors", "partial", "k", "tail", "longer", "vector", "behind", "x", "v", "w", "_"]) (sc := d_near_vectors.scope) (by decide +kernel)) (fun _ _ => rfl)
          (fun z z2 hm v w F1 H1 g pv pw s H' C cl fp => by
            obtain ⟨u, hu, e⟩ := List.mem_map.mp hm
            have e2 : u = z := congrArg Prod.fst e
            have e3 : u = z2 := congrArg Prod.snd e
            subst e2
            subst e3
            exact ev_pair (ev_meth T.clL (ok_L_norm T) (by exact hr.mono (by omega)) (ev_v 0 rfl (Mn.mono _ _ _ g.f ha5)) (ea_one (ev_v 14 rfl pw)) (fun v F1 h => insL h (by decide)) (fun x vs F1 s h ⟨a2, _, e2, b2, e4⟩ => by
              cases e4
              subst e2
              exact ⟨x, a2, m, n, u, rfl, h, Rm, by omega, b2, fpP_len n u hu, bm, ok.bd u hu, rfl⟩)) (ev_v 13 rfl pv))
          (fun _ _ _ _ _ => pg_tup rfl (pgs_cons (pg_name (i := 13) sc_near_vectors.nd rfl (.inl rfl)) (pgs_cons (pg_name (i := 14) sc_near_vectors.nd rfl (.inl rfl)) pgs_nil))))) (by rw [e1])) rd_NV hk (by have := hr.units; show _ + 2 + 2 < _; omega))))
        (by rw [List.length_mergeSort, List.length_map, sizeLine_eq]; have := ok.len n (Nat.le_refl _); omega) rfl sc_near_vectors.nd (blkOk_by (N := ["lattice", "a", "d", "most", "gram", "minors", "partial", "k", "tail", "longer", "vector", "behind", "x", "v", "w", "_"]) (sc := d_near_vectors.scope) (by decide +kernel)) (fun _ _ => rfl)
        (fun z z2 hm v w F1 H1 g pv pw s H' C cl fp => ev_v 13 rfl pw)
        (fun _ _ _ _ _ => pg_tup rfl (pgs_cons (pg_name (i := 15) sc_near_vectors.nd rfl (.inl rfl)) (pgs_cons (pg_name (i := 13) sc_near_vectors.nd rfl (.inl rfl)) pgs_nil)))))) (fun v F6 H6 g6 p6 => ⟨g14.trans (g5.trans g6), p6⟩) s5

end
end K24
set_option Elab.async false
set_option linter.all false
set_option maxRecDepth 100000
set_option maxHeartbeats 4000000
set_option autoImplicit false
namespace K24
open PySem PySem.Spec PyProof.Rows L2
open PySem.W (Datum DatumOrd Holds HoldAll Tup)
section
variable {P : Program} {w : World} {K : PySem.W.Frag} {mg : Str → Option Value} {base : Heap}


theorem roomD {k d : Nat} {A : Around} (hr : Room k A) (h : d ≤ 60) : A.units + d < cLine := by
  have := hr.units
  omega
def ShortIs (m : Mx) (n : Nat) (most : Int) (S : Mx) : Prop := ∃ (Ds : Nat → Int) (dds : Nat → Int → Int → Int), FpOk m n Ds dds most ∧ S = (nearL m n Ds dds most).filter fun v => decide (v ≠ List.replicate n 0)
theorem tup_ne {a b : List Int} : decide (Tup.mk a ≠ Tup.mk b) = decide (a ≠ b) := decide_eq_decide.mpr ⟨fun h e => h (by rw [e]), fun h e => h (congrArg Tup.items e)⟩
def c_short_vectors (KK : PySem.W.Frag) : Con := fun vs F R => ∃ (a : V) (m : Mx) (n : Nat) (most : Int) (S : Mx), vs = [a, .int most] ∧ pLa KK m a F ∧ Rect m n n ∧ 1 ≤ n ∧ n ≤ 10 ∧ 1 ≤ most ∧ (∀ r ∈ m, ∀ x ∈ r, x.natAbs < 2 ^ 64) ∧ ShortIs m n most S ∧ R = pTT S
theorem near_len {m : Mx} {n : Nat} {Ds : Nat → Int} {dds : Nat → Int → Int → Int} {most : Int} : (nearL m n Ds dds most).length = (fpP m n Ds dds most n).length := by
  unfold nearL
  rw [List.length_map, List.length_mergeSort, List.length_map]

theorem sc_short_vectors : FnScope ["lattice", "most", "zero", "v"] ["lattice", "most"] d_short_vectors.scope := ⟨rfl, rfl, rfl, by decide +kernel, rfl, by decide +kernel, by decide +kernel⟩
theorem ok_short_vectors (T : Tx K mg) : FnD P w K mg base 8 "short_vectors" (spP (c_short_vectors K)) :=
  mk_fn T (d := d_short_vectors) 26 26 rfl rfl rfl rfl rfl sc_short_vectors (fun _ _ _ _ _ _ us hl => match us, hl with | [_, _], _ => rfl) (fun vs F P h => by obtain ⟨_, _, _, _, _, e, _⟩ := h; rw [e]; rfl) fun cdv A outer s H E hr vs F R sm hc => by
    obtain ⟨a, m, n, most, S, rfl, ha, Rm, n1, n10, hm, bm, ⟨Ds, dds, ok, rfl⟩, rfl⟩ := hc
    refine x_skip (EvT.is (evt_lt (ev_v 1 rfl rfl) ev_int) (decide_eq_false (by omega))) (fun F1 H1 g1 => ?_) sm
    refine x_set 2 (P := pTI (List.replicate n 0)) (ev_repT (ev_tup1 (f := pI) ev_int) (ev_rank T (ok_L_rank T) (by exact hr.mono (by omega)) (ev_v 0 rfl (Mn.mono _ _ _ g1.f ha)) Rm.h) (by omega) n1) (fun vz F2 H2 g2 p2 => ?_) g1.s sc_short_vectors.nd
    have ha2 := Mn.mono _ _ _ (g1.f.trans g2.f) ha
    exact x_ret (ev_tupL T.n_tuple (Ev.is (EvN.ev (en_lcF (own := [("v", 3)]) (i := 3) (f := pTI) (fun v : List Int => decide (v ≠ List.replicate n 0)) (fun v : List Int => v) (wk_T (f := pTI) (ev_call (P := pTT (nearL m n Ds dds most)) (Ps := pCons (pLa K m) (pCons (pTI (List.replicate n 0)) (pCons (pI 1) (pCons (pI most) pNil)))) (ok_near_vectors T) (by exact hr) (ea_cons (ev_v 0 rfl ha2) (ea_cons (ev_v 2 rfl p2) (ea_cons ev_int (ea_one (ev_v 1 rfl rfl))))) (fun vs F1 sF ⟨a1, _, e1, b1, a2, _, e2, b2, a3, _, e3, b3, a4, _, e4, b4, e5⟩ => by
        cases e5
        cases b3
        cases b4
        subst e1 e2 e3 e4
        exact ⟨a1, a2, m, n, Ds, dds, most, rfl, b1, Rm, n1, n10, b2, bm, ok, rfl⟩)))
      (by rw [near_len, sizeLine_eq]; have := ok.len n (Nat.le_refl _); omega) rfl sc_short_vectors.nd (blkOk_by (N := ["lattice", "most", "zero", "v"]) (sc := d_short_vectors.scope) (by decide +kernel)) (fun _ => rfl)
      (fun z hz v2 F2 H2 g pv s H' C cl fp => EvT.is (evt_neD (ev_v 3 rfl pv) (ev_v 2 rfl (Mn.mono _ _ _ g.f p2)) (rd_TI z) (rd_TI (List.replicate n 0)) (by exact roomD hr (by decide))) tup_ne) (fun z hz hb v2 F2 H2 g pv s H' C cl fp => ev_v 3 rfl pv)
      (fun _ _ _ _ _ => pg_name (i := 3) sc_short_vectors.nd rfl (.inl rfl)))) (by rw [List.map_id']))) (fun v F3 H3 g3 p => ⟨g1.trans (g2.trans g3), p⟩) g2.s


def markL (m : Mx) (vs : Mx) (v : List Int) : List Int := prodI m v v :: vs.map fun b => prodI m b v
def c_mark_of (KK : PySem.W.Frag) : Con := fun vs F R => ∃ (a b c : V) (m : Mx) (n : Nat) (us : Mx) (v : List Int), vs = [a, b, c] ∧ pLa KK m a F ∧ Rect m n n ∧ n ≤ 10 ∧ (∀ r ∈ m, ∀ x ∈ r, x.natAbs < 2 ^ 64) ∧ pTT us b F ∧ us.length ≤ 100 ∧ (∀ u ∈ us, u.length = n ∧ ∀ x ∈ u, x.natAbs < 2 ^ 64) ∧ pTI v c F ∧ v.length = n ∧ (∀ x ∈ v, x.natAbs < 2 ^ 64) ∧ R = pTI (markL m us v)

theorem sc_mark_of : FnScope ["lattice", "vectors", "v", "b"] ["lattice", "vectors", "v"] d_mark_of.scope := ⟨rfl, rfl, rfl, by decide +kernel, rfl, by decide +kernel, by decide +kernel⟩
theorem ok_mark_of (T : Tx K mg) : FnD P w K mg base 6 "mark_of" (spP (c_mark_of K)) :=
  mk_fn T (d := d_mark_of) 27 27 rfl rfl rfl rfl rfl sc_mark_of (fun _ _ _ _ _ _ us hl => match us, hl with | [_, _, _], _ => rfl) (fun vs F P h => by obtain ⟨_, _, _, _, _, _, _, e, _⟩ := h; rw [e]; rfl) fun cdv A outer s H E hr vs F R sm hc => by
    obtain ⟨a, b, c, m, n, us, v, rfl, ha, Rm, hn, bm, hb, lu, bu, hc, lv, bv, rfl⟩ := hc
    exact x_ret (ev_catT (ev_tup1 (f := pI) (x := prodI m v v) (ev_meth T.clL (ok_L_norm T) (by exact hr) (ev_v 0 rfl ha) (ea_one (ev_v 2 rfl hc)) (fun v F1 h => insL h (by decide)) (fun x vs F1 s h ⟨a2, _, e2, b2, e4⟩ => by
        cases e4
        subst e2
        exact ⟨x, a2, m, n, v, rfl, h, Rm, by omega, b2, lv, bm, bv, rfl⟩))) (ev_tupL T.n_tuple (EvN.ev (en_lc (own := [("b", 3)]) (i := 3) (f := pI) (fun u : List Int => prodI m u v) (wk_T (f := pTI) (ev_v 1 rfl hb)) (by rw [sizeLine_eq]; omega) rfl sc_mark_of.nd (blkOk_by (N := ["lattice", "vectors", "v", "b"]) (sc := d_mark_of.scope) (by decide +kernel)) (fun _ => rfl)
      (fun z hz v2 F2 H2 g pv s H' C cl fp => ev_meth T.clL (ok_L_product T) (by exact hr.mono (by omega)) (ev_v 0 rfl (Mn.mono _ _ _ g.f ha)) (ea_cons (ev_v 3 rfl pv) (ea_one (ev_v 2 rfl (Mn.mono _ _ _ g.f hc)))) (fun v F1 h => insL h (by decide)) (fun x vs F1 s h ⟨a2, _, e2, b2, a3, _, e3, b3, e4⟩ => by
        cases e4
        subst e2 e3
        exact ⟨x, a2, a3, m, n, z, v, rfl, h, Rm, by omega, b2, b3, (bu z hz).1, lv, bm, (bu z hz).2, rfl⟩))
      (fun _ _ _ _ _ => pg_name (i := 3) sc_mark_of.nd rfl (.inl rfl))))) (by rw [List.length_map, sizeLine_eq]; show 1 + _ ≤ _; omega)) (fun v F3 H3 g3 p => ⟨g3, p⟩) sm


def PrimIs (vs : Mx) (h w : Nat) (b : Bool) : Prop := Rect vs h w ∧ 1 ≤ h ∧ h ≤ w ∧ w ≤ 1000 ∧ ∃ n d, SmRun h w n vs 0 d ∧ Rect d h w ∧ b = primD d h
def c_is_primitive : Con := fun vs F R => ∃ (a : V) (us : Mx) (h w : Nat) (b : Bool), vs = [a] ∧ pTT us a F ∧ PrimIs us h w b ∧ R = pB b

theorem sc_is_primitive : FnScope ["vectors"] ["vectors"] d_is_primitive.scope := ⟨rfl, rfl, rfl, by decide +kernel, rfl, by decide +kernel, by decide +kernel⟩
theorem ok_is_primitive (T : Tx K mg) : FnD P w K mg base 9 "is_primitive" (spP c_is_primitive) :=
  mk_fn T (d := d_is_primitive) 28 28 rfl rfl rfl rfl rfl sc_is_primitive (fun _ _ _ _ _ _ us hl => match us, hl with | [_], _ => rfl) (fun vs F P h => by obtain ⟨_, _, _, _, _, e, _⟩ := h; rw [e]; rfl) fun cdv A outer s H E hr vs F R sm hc => by
    obtain ⟨a, us, h, wd, b, rfl, ha, ⟨Ru, h1, hw, hz, n, d, run, Rd, rfl⟩, rfl⟩ := hc
    exact x_ret (ev_meth0 T.clG (ok_G_is_primitive T) (by exact hr) (ev_mkG1 T (by exact hr.mono (by omega)) (ev_v 0 rfl (pTT.ss ha)) Ru.w (by rw [Ru.h]; omega) hz (fun e => by have := Ru.h; rw [e] at this; simp at this; omega)) (fun v F1 h => insG h (by decide)) (fun v F1 s q => ⟨v, us, h, wd, n, d, rfl, q, Ru, hw, hz, run, Rd, rfl⟩)) (fun v F3 H3 g3 p => ⟨g3, p⟩) sm

end
end K24
set_option Elab.async false
set_option linter.all false
set_option maxRecDepth 100000
set_option maxHeartbeats 4000000
set_option autoImplicit false
namespace K24
open PySem PySem.Spec PyProof.Rows L2
open PySem.W (Datum DatumOrd Holds HoldAll Tup)
section
variable {P : Program} {w : World} {K : PySem.W.Frag} {mg : Str → Option Value} {base : Heap}


theorem x_forNB {X : Cx} {iter : Expr} {body rest : List Stmt} {σ : L2.St} {F H : Hp} {G : GE} {α : Type} {xs : List α} {p pos : Pos} {pr : α → Pr} {i : Nat} {x : Str} (Iv : Nat → N3) (J : N3) (hw : Wk X (.Name x p) iter σ F H pr xs) (h0 : ∀ F1 H1, Gw F H F1 H1 → Iv 0 σ F1 H1)
    (turn : ∀ F0 n z σ1 F1 H1, xs[n]? = some z → Same F0 F1 → Same F1 H1 → Iv n σ1 F1 H1 → ∀ v F2 H2, Gw F1 H1 F2 H2 → pr z v F2 → Sx X body (σ1.set i (some v)) F2 H2 { nx := fun σ F H => Same F0 F ∧ Iv (n + 1) σ F H, rt := G.rt, ct := fun σ F H => Same F0 F ∧ Iv (n + 1) σ F H, bk := J })
    (done : ∀ σ1 F1 H1, Same F1 H1 → Iv xs.length σ1 F1 H1 → J σ1 F1 H1) (hj : ∀ σ F H, Same F H → J σ F H → Sx X rest σ F H G) (s : Same F H) (hp : PassesOwn (model X.prog X.w) X.A X.env X.xe) (hc : X.calm = true)
    (hN : X.N.Nodup) (hi : X.N[i]? = some x := by rfl) (hx : Loc X.env.scope x := by first | exact Or.inl rfl | exact Or.inr rfl) (hf : X.fn x = true ∨ X.env.scope.names.lookup x = some .local := by first | exact .inl rfl | exact .inr rfl)
    (hs : ∀ x, foldedSetIterable iter X.env x = pure x := by intro _; rfl) : Sx X (.For (.Name x p) iter body [] pos :: rest) σ F H G :=
  x_forN Iv hw h0 (fun F0 n z σ1 F1 H1 hz s1 s2 iv v F2 H2 g2 pv => WSs.imp (turn F0 n z σ1 F1 H1 hz s1 s2 iv v F2 H2 g2 pv) (fun _ _ h => h) (fun _ _ h => h) (fun σ H ⟨F, a, b⟩ => ⟨F, a, hj σ F H a b⟩) (fun _ _ h => h)) (fun σ1 F1 H1 s1 iv => hj σ1 F1 H1 s1 (done σ1 F1 H1 s1 iv)) s hp hc hN hi hx hf hs
def ltI (a b : List Int) : Bool := DatumOrd.lt (Tup.mk a) (Tup.mk b)
abbrev LSt := Option (List Int) × List Mx
def lcTest : Option (List Int) → List Int → Bool
  | none, _ => true
  | some x, mk => !ltI x mk
def lcNew : Option (List Int) → List Int → Bool
  | none, _ => true
  | some x, mk => ltI mk x
def lcIn (m : Mx) (prim : Mx → Bool) (v : List Int) (st : LSt) (vs : Mx) : LSt :=
  if (lcTest st.1 (markL m vs v) && prim (vs ++ [v])) = true then (if lcNew st.1 (markL m vs v) = true then (some (markL m vs v), [vs ++ [v]]) else (st.1, st.2 ++ [vs ++ [v]])) else st
def lcStop (m : Mx) (st : LSt) (v : List Int) : Bool := match st.1 with
  | none => false
  | some b => decide (b.getD 0 0 < prodI m v v)
def lcOut (m : Mx) (prim : Mx → Bool) (ts : List Mx) : LSt → Mx → LSt
  | st, [] => st
  | st, v :: S => if lcStop m st v = true then st else lcOut m prim ts (ts.foldl (lcIn m prim v) st) S
def lcInOk (m : Mx) (prim : Mx → Bool) (n : Nat) (v : List Int) : LSt → List Mx → Prop
  | _, [] => True
  | st, vs :: r => st.2.length ≤ 1000000 ∧ (lcTest st.1 (markL m vs v) = true → ∃ h, PrimIs (vs ++ [v]) h n (prim (vs ++ [v]))) ∧ lcInOk m prim n v (lcIn m prim v st vs) r
def lcOutOk (m : Mx) (prim : Mx → Bool) (n : Nat) (ts : List Mx) : LSt → Mx → Prop
  | _, [] => True
  | st, v :: S => v.length = n ∧ (∀ x ∈ v, x.natAbs < 2 ^ 64) ∧ (lcStop m st v = false → lcInOk m prim n v st ts ∧ lcOutOk m prim n ts (ts.foldl (lcIn m prim v) st) S)
def TsOk (n : Nat) (ts : List Mx) : Prop := ∀ vs ∈ ts, vs.length ≤ 10 ∧ ∀ u ∈ vs, u.length = n ∧ ∀ x ∈ u, x.natAbs < 2 ^ 64
def fromTT (t : Tup (Tup Int)) : Mx := t.items.map Tup.items
theorem from_to (m : Mx) : fromTT (toTT m) = m := by
  unfold fromTT toTT
  rw [List.map_map]
  have : (Tup.items ∘ Tup.mk : List Int → List Int) = id := rfl
  rw [this, List.map_id]
theorem to_from (t : Tup (Tup Int)) : toTT (fromTT t) = t := by
  obtain ⟨t⟩ := t
  unfold fromTT toTT
  rw [List.map_map]
  have : (Tup.mk ∘ Tup.items : Tup Int → Tup Int) = id := by
    funext x
    cases x
    rfl
  rw [this, List.map_id]
def sortTT (xs : List Mx) : List Mx := ((xs.map toTT).mergeSort dle).map fromTT
def pBest : Option (List Int) → Pr
  | none => pN
  | some b => pTI b
instance {b : Option (List Int)} : Mn (pBest b) := by cases b <;> (unfold pBest; infer_instance)
theorem pBest_isN {b : Option (List Int)} {v : V} {F : Hp} (h : pBest b v F) : decide (v = V.non) = b.isNone := by
  cases b with
  | none => cases (show v = .non from h); rfl
  | some b => obtain ⟨a, vs, rfl, _⟩ := h; rfl
abbrev pTTT (ts : List Mx) : Pr := pT pTT ts
def LcIs (m : Mx) (n : Nat) (prim : Mx → Bool) (ts : List Mx) (bound : Int) (st : LSt) : Prop := ∃ S, ShortIs m n bound S ∧ S.length ≤ 1000000 ∧ lcOutOk m prim n ts (none, []) S ∧ lcOut m prim ts (none, []) S = st ∧ st.2.length ≤ 1000000
def c_least_continued (KK : PySem.W.Frag) : Con := fun vs F R => ∃ (a b : V) (m : Mx) (n : Nat) (prim : Mx → Bool) (ts : List Mx) (bound : Int) (st : LSt), vs = [a, b, .int bound] ∧ pLa KK m a F ∧ Rect m n n ∧ 1 ≤ n ∧ n ≤ 10 ∧ 1 ≤ bound ∧ (∀ r ∈ m, ∀ x ∈ r, x.natAbs < 2 ^ 64) ∧ pTTT ts b F ∧ TsOk n ts ∧ LcIs m n prim ts bound st ∧ R = pP (pBest st.1) (pTTT (sortTT st.2))
theorem drop_get {α : Type} {xs : List α} {n : Nat} {x : α} (h : xs[n]? = some x) : xs.drop n = x :: xs.drop (n + 1) := by
  obtain ⟨hl, e⟩ := List.getElem?_eq_some_iff.mp h
  rw [List.drop_eq_getElem_cons hl, e]
theorem found_ne {m : Mx} {prim : Mx → Bool} {v : List Int} : ∀ (ts : List Mx) (st : LSt), (∀ x ∈ st.2, x ≠ []) → ∀ x ∈ (ts.foldl (lcIn m prim v) st).2, x ≠ []
  | [], st, h => h
  | vs :: ts, st, h => by
    rw [List.foldl_cons]
    refine found_ne ts _ ?_
    unfold lcIn
    split
    · split
      · intro x hx
        simp at hx
        rw [hx]; simp
      · intro x hx
        rcases List.mem_append.mp hx with hx | hx
        · exact h x hx
        · simp at hx
          rw [hx]; simp
    · exact h
theorem out_ne {m : Mx} {prim : Mx → Bool} {ts : List Mx} : ∀ (S : Mx) (st : LSt), (∀ x ∈ st.2, x ≠ []) → ∀ x ∈ (lcOut m prim ts st S).2, x ≠ []
  | [], st, h => h
  | v :: S, st, h => by
    unfold lcOut
    split
    · exact h
    · exact out_ne S _ (found_ne ts st h)

theorem sc_least_continued : FnScope ["lattice", "tuples", "bound", "best", "found", "v", "norm", "vectors", "mark"] ["lattice", "tuples", "bound"] d_least_continued.scope := ⟨rfl, rfl, rfl, by decide +kernel, rfl, by decide +kernel, by decide +kernel⟩
theorem ok_least_continued (T : Tx K mg) : FnD P w K mg base 10 "least_continued" (spP (c_least_continued K)) :=
  mk_fn T (d := d_least_continued) 29 29 rfl rfl rfl rfl rfl sc_least_continued (fun _ _ _ _ _ _ us hl => match us, hl with | [_, _, _], _ => rfl) (fun vs F P h => by obtain ⟨_, _, _, _, _, _, _, _, e, _⟩ := h; rw [e]; rfl) fun cdv A outer s H E hr vs F R sm hc => by
    obtain ⟨a, b, m, n, prim, ts, bound, fin, rfl, ha, Rm, n1, n10, hb1, bm, hts, tok, ⟨SS, hS, lS, okS, efin, lfin⟩, rfl⟩ := hc
    have nefin : ∀ x ∈ fin.2, x ≠ [] := by rw [← efin]; exact out_ne SS _ (fun x hx => nomatch hx)
    refine x_set 3 (P := pN) ev_non (fun v F1 H1 g1 p1 => ?_) sm sc_least_continued.nd
    cases p1
    refine x_setN 4 (f := pTT) (xs := []) en_nil (fun l0 vs F2 H2 g2 n1' n2 e3 r => ?_) g1.s sc_least_continued.nd
    obtain rfl : vs = [] := List.length_eq_zero_iff.mp r.1
    have g12 := g1.trans g2
    have ha2 := Mn.mono _ _ _ g12.f ha
    have ht2 := Mn.mono _ _ _ g12.f hts
    let S : V → Addr → Option V → Option V → Option V → Option V → L2.St := fun vb lf o5 o6 o7 o8 => [some a, some b, some (.int bound), some vb, some (.ref lf), o5, o6, o7, o8]
    refine x_forNB (i := 5) (xs := SS) (pr := pTI) (fun n' σ1 F3 H3 => ∃ vb lf ws st o5 o6 o7 o8, σ1 = S vb lf o5 o6 o7 o8 ∧ Same F2 F3 ∧ Gw F H F3 H3 ∧ H lf = none ∧ F3 lf = none ∧ H3 lf = some (.lst ws) ∧ AllP pTT ws st.2 F3 ∧ pBest st.1 vb F3 ∧ (∀ b, st.1 = some b → b ≠ []) ∧ lcOut m prim ts st (SS.drop n') = fin ∧ lcOutOk m prim n ts st (SS.drop n'))
      (fun σ1 F3 H3 => ∃ vb lf ws o5 o6 o7 o8, σ1 = S vb lf o5 o6 o7 o8 ∧ Same F2 F3 ∧ Gw F H F3 H3 ∧ H lf = none ∧ F3 lf = none ∧ H3 lf = some (.lst ws) ∧ AllP pTT ws fin.2 F3 ∧ pBest fin.1 vb F3)
      (wk_T (f := pTI) (ev_call (P := pTT SS) (Ps := pCons (pLa K m) (pCons (pI bound) pNil)) (ok_short_vectors T) (by exact hr.mono (by omega)) (ea_cons (ev_v 0 rfl ha2) (ea_one (ev_v 2 rfl rfl))) (fun vs F1 sF ⟨a1, _, e1, b1, a2, _, e2, b2, e5⟩ => by
        cases e5
        cases b2
        subst e1 e2
        exact ⟨a1, m, n, bound, SS, rfl, b1, Rm, n1, n10, hb1, bm, hS, rfl⟩)))
      (fun F3 H3 g3 => ⟨.non, l0, [], (none, []), none, none, none, none, rfl, g3.f, g12.trans g3, g1.new n1', (g3.own e3 n2).2, (g3.own e3 n2).1, AllP.nil, rfl, (fun _ h => by cases h), by rw [List.drop_zero]; exact efin, by rw [List.drop_zero]; exact okS⟩) ?_ ?_ ?_ g2.s PassesOwn.never rfl sc_least_continued.nd
    · rintro F0 nn v σ1 F3 H3 hv s0' s3 ⟨vb, lf, ws, st, o5, o6, o7, o8, rfl, s23, g3, nlf, f3, h3, r3, pb3, neb, eo, oko⟩ vv F4 H4 g4 pv
      rw [drop_get hv] at eo oko
      obtain ⟨lv, bv, ok2⟩ := oko
      have o4' := g4.own h3 f3
      have s24 := s23.trans g4.f
      refine x_set 6 (P := pI (prodI m v v)) (ev_meth T.clL (ok_L_norm T) (by exact hr.mono (by omega)) (ev_v 0 rfl (Mn.mono _ _ _ s24 ha2)) (ea_one (ev_v 5 rfl pv)) (fun v F1 h => insL h (by decide)) (fun x vs F1 s h ⟨a2, _, e2, b2, e4⟩ => by
        cases e4
        subst e2
        exact ⟨x, a2, m, n, v, rfl, h, Rm, by omega, b2, lv, bm, bv, rfl⟩)) (fun vn F5 H5 g5 p5 => ?_) g4.s sc_least_continued.nd
      cases p5
      have o5' := g5.own o4'.1 o4'.2
      have pb5 := Mn.mono _ _ _ (g4.f.trans g5.f) pb3
      have r5 := r3.up (g4.f.trans g5.f)
      have s25 := s24.trans g5.f
      refine x_when (k := lcStop m st v) ?_ (fun hb F6 H6 g6 => ?_) (fun hb F6 H6 g6 => ?_) g5.s
      · unfold lcStop
        cases q : st.1 with
        | none =>
          rw [q] at pb5
          exact EvT.is (evt_and (k := false) (l := false) (evt_notN (P := pBest none) (ev_v 3 rfl pb5) (fun v F h => by rw [pBest_isN h]; rfl)) (fun h => nomatch h)) rfl
        | some bb =>
          rw [q] at pb5
          have hbb := neb bb q
          exact EvT.is (evt_and (k := true) (l := decide (bb.getD 0 0 < prodI m v v)) (evt_notN (P := pBest (some bb)) (ev_v 3 rfl pb5) (fun v F h => by rw [pBest_isN h]; rfl)) (fun _ => evt_gt (ev_v 6 rfl rfl) (ev_ixT (f := pI) (xs := bb) (ev_v 3 rfl pb5) ev_int (atI_in 0 (by omega) (by cases bb with | nil => exact absurd rfl hbb | cons x y => rw [List.length_cons]; omega))))) (by rw [Bool.true_and])
      · have o6' := g6.own o5'.1 o5'.2
        have efin2 : st = fin := by
          rw [← eo]
          show st = lcOut m prim ts st (v :: SS.drop (nn + 1))
          unfold lcOut
          rw [if_pos hb]
        subst efin2
        exact x_brk g6.s ⟨vb, lf, ws, _, _, _, _, rfl, s25.trans g6.f, g3.trans (g4.trans (g5.trans g6)), nlf, o6'.2, o6'.1, r5.up g6.f, Mn.mono _ _ _ g6.f pb5⟩
      · have o6' := g6.own o5'.1 o5'.2
        obtain ⟨okin, okout⟩ := ok2 hb
        have efold : lcOut m prim ts (ts.foldl (lcIn m prim v) st) (SS.drop (nn + 1)) = fin := by
          rw [← eo]
          show _ = lcOut m prim ts st (v :: SS.drop (nn + 1))
          conv => rhs; unfold lcOut
          rw [if_neg (by rw [hb]; exact Bool.false_ne_true)]
        have g36 := g3.trans (g4.trans (g5.trans g6))
        have s26 := s25.trans g6.f
        have s06 := s0'.trans (g4.f.trans (g5.f.trans g6.f))
        have pv6 := Mn.mono _ _ _ (g5.f.trans g6.f) pv
        refine x_forN (i := 7) (xs := ts) (pr := pTT) (fun i σ1 F7 H7 => ∃ vb lf ws st' o7 o8, σ1 = S vb lf (some vv) (some (.int (prodI m v v))) o7 o8 ∧ Same F0 F7 ∧ Same F6 F7 ∧ Gw F H F7 H7 ∧ H lf = none ∧ F7 lf = none ∧ H7 lf = some (.lst ws) ∧ AllP pTT ws st'.2 F7 ∧ pBest st'.1 vb F7 ∧ (∀ b, st'.1 = some b → b ≠ []) ∧ (ts.drop i).foldl (lcIn m prim v) st' = ts.foldl (lcIn m prim v) st ∧ lcInOk m prim n v st' (ts.drop i))
          (wk_T (f := pTT) (ev_v 1 rfl (Mn.mono _ _ _ s26 ht2))) (fun F7 H7 g7 => ⟨vb, lf, ws, st, o7, o8, rfl, s06.trans g7.f, g7.f, g36.trans g7, nlf, (g7.own o6'.1 o6'.2).2, (g7.own o6'.1 o6'.2).1, r5.up (g6.f.trans g7.f), Mn.mono _ _ _ (g6.f.trans g7.f) pb5, neb, by rw [List.drop_zero], by rw [List.drop_zero]; exact okin⟩) ?_ ?_ g6.s PassesOwn.never rfl sc_least_continued.nd
        · rintro F0' ii us σ1 F7 H7 hu s0'' s7 ⟨vb, lf, ws, st', o7, o8, rfl, s07, s67, g7, nlf, f7, h7, r7, pb7, neb, ef, oki⟩ vu F8 H8 g8 pu
          rw [drop_get hu] at ef oki
          obtain ⟨lw, okp, oki2⟩ := oki
          obtain ⟨lu, bu⟩ := tok us (List.mem_of_getElem? hu)
          have o8' := g8.own h7 f7
          have s68 := s67.trans g8.f
          refine x_set 8 (P := pTI (markL m us v)) (ev_call (Ps := pCons (pLa K m) (pCons (pTT us) (pCons (pTI v) pNil))) (ok_mark_of T) (by exact hr.mono (by omega)) (ea_cons (ev_v 0 rfl (Mn.mono _ _ _ (s26.trans s68) ha2)) (ea_cons (ev_v 7 rfl pu) (ea_one (ev_v 5 rfl (Mn.mono _ _ _ s68 pv6))))) (fun vs F1 sF ⟨a1, _, e1, b1, a2, _, e2, b2, a3, _, e3, b3, e5⟩ => by
            cases e5
            subst e1 e2 e3
            exact ⟨a1, a2, a3, m, n, us, v, rfl, b1, Rm, n10, bm, b2, by omega, bu, b3, lv, bv, rfl⟩)) (fun vk F9 H9 g9 p9 => ?_) g8.s sc_least_continued.nd
          have o9' := g9.own o8'.1 o8'.2
          have pb9 := Mn.mono _ _ _ (g8.f.trans g9.f) pb7
          have s69 := s68.trans g9.f
          have pu9 := Mn.mono _ _ _ g9.f pu
          have pv9 := Mn.mono _ _ _ s69 pv6
          have catU : ∀ {F H : Hp} {σ : L2.St} {X : Cx}, True := trivial
          have r9 := r7.up (g8.f.trans g9.f)
          have s09 := s07.trans (g8.f.trans g9.f)
          have g79 := g7.trans (g8.trans g9)
          have lcat : us.length + [v].length ≤ sizeLine := by rw [sizeLine_eq]; simp; omega
          refine x_when (k := lcTest st'.1 (markL m us v) && prim (us ++ [v])) (evt_and ?_ (fun hk => evt_val (ev_call (P := pB (prim (us ++ [v]))) (Ps := pCons (pTT (us ++ [v])) pNil) (ok_is_primitive T) (by exact hr.mono (by omega)) (ea_one (ev_catT (f := pTI) (ev_v 7 rfl pu9) (ev_tup1 (f := pTI) (ev_v 5 rfl pv9)) lcat)) (fun vs F1 sF ⟨a1, _, e1, b1, e5⟩ => by
            cases e5
            subst e1
            obtain ⟨h, hp⟩ := okp hk
            exact ⟨a1, us ++ [v], h, n, _, rfl, b1, hp, rfl⟩)))) (fun hb2 F10 H10 g10 => ?_) (fun hb2 F10 H10 g10 => ?_) g9.s
          · unfold lcTest
            cases q : st'.1 with
            | none =>
              rw [q] at pb9
              exact EvT.is (evt_or (k := true) (l := false) (evt_isN (P := pBest none) (ev_v 3 rfl pb9) (fun v F h => by rw [pBest_isN h]; rfl)) (fun h => nomatch h)) rfl
            | some bb =>
              rw [q] at pb9
              exact EvT.is (evt_or (k := false) (l := !ltI bb (markL m us v)) (evt_isN (P := pBest (some bb)) (ev_v 3 rfl pb9) (fun v F h => by rw [pBest_isN h]; rfl)) (fun _ => evt_leD (ev_v 8 rfl p9) (ev_v 3 (P := pTI bb) rfl pb9) (rd_TI (markL m us v)) (rd_TI bb) (by exact roomD hr (by decide)))) (by rw [Bool.false_or])
          · have o10' := g10.own o9'.1 o9'.2
            have pb10 := Mn.mono _ _ _ g10.f pb9
            have p10 := Mn.mono _ _ _ g10.f p9
            refine x_whenJ (k := lcNew st'.1 (markL m us v)) (fun σ2 F11 H11 => ∃ vb lf ws, σ2 = S vb lf (some vv) (some (.int (prodI m v v))) (some vu) (some vk) ∧ Same F10 F11 ∧ Gw F H F11 H11 ∧ H lf = none ∧ F11 lf = none ∧ H11 lf = some (.lst ws) ∧ ws.length ≤ 1000000 ∧ AllP pTT ws (if lcNew st'.1 (markL m us v) = true then [] else st'.2) F11 ∧ pBest (if lcNew st'.1 (markL m us v) = true then some (markL m us v) else st'.1) vb F11) ?_ (fun hb3 F11 H11 g11 => ?_) (fun hb3 F11 H11 g11 => ?_) ?_ g10.s
            · unfold lcNew
              cases q : st'.1 with
              | none =>
                rw [q] at pb10
                exact EvT.is (evt_or (k := true) (l := false) (evt_isN (P := pBest none) (ev_v 3 rfl pb10) (fun v F h => by rw [pBest_isN h]; rfl)) (fun h => nomatch h)) rfl
              | some bb =>
                rw [q] at pb10
                exact EvT.is (evt_or (k := false) (l := ltI (markL m us v) bb) (evt_isN (P := pBest (some bb)) (ev_v 3 rfl pb10) (fun v F h => by rw [pBest_isN h]; rfl)) (fun _ => evt_ltD (ev_v 8 rfl p10) (ev_v 3 (P := pTI bb) rfl pb10) (rd_TI (markL m us v)) (rd_TI bb) (by exact roomD hr (by decide)))) (by rw [Bool.false_or])
            · refine x_set 3 (P := pTI (markL m us v)) (ev_v 8 rfl (Mn.mono _ _ _ g11.f p10)) (fun vb2 F12 H12 g12 p12 => ?_) g11.s sc_least_continued.nd
              refine x_setN 4 (f := pTT) (xs := []) en_nil (fun l2 vs F13 H13 g13 m1 m2 m3 r13 => ?_) g12.s sc_least_continued.nd
              obtain rfl : vs = [] := List.length_eq_zero_iff.mp r13.1
              have gg := g79.trans (g10.trans (g11.trans g12))
              refine x_nil g13.s ⟨vb2, l2, [], rfl, g11.f.trans (g12.f.trans g13.f), gg.trans g13, gg.new m1, m2, m3, Nat.zero_le _, ?_, ?_⟩
              · rw [if_pos hb3]; exact AllP.nil
              · rw [if_pos hb3]; exact Mn.mono _ _ _ g13.f p12
            · have o11' := g11.own o10'.1 o10'.2
              refine ⟨vb, lf, ws, rfl, g11.f, g79.trans (g10.trans g11), nlf, o11'.2, o11'.1, by rw [r7.1]; exact lw, ?_, ?_⟩
              · rw [if_neg (by rw [hb3]; exact Bool.false_ne_true)]; exact r9.up (g10.f.trans g11.f)
              · rw [if_neg (by rw [hb3]; exact Bool.false_ne_true)]; exact Mn.mono _ _ _ g11.f pb10
            · rintro σ2 F11 H11 s11 ⟨vb, lf, ws, rfl, s1011, g11, nlf, f11, h11, lws, r11, pb11⟩
              refine x_app (P := pTT (us ++ [v])) (l := lf) (vs := ws) (ev_v 4 rfl rfl) (ev_catT (f := pTI) (ev_v 7 rfl (Mn.mono _ _ _ (g10.f.trans s1011) pu9)) (ev_tup1 (f := pTI) (ev_v 5 rfl (Mn.mono _ _ _ (g10.f.trans s1011) pv9))) lcat) h11 f11 (by rw [sizeLine_eq]; omega) (fun v12 F12 H12 g12 p12 => ?_) s11 (pe_bm PySem.F.plainAttrs_list PySem.F.slot_list_append ty_app mt_append pe_w pa_w)
              have o12' := g12.own h11 f11
              have gg := (g11.trans g12).mut (o := .lst (ws ++ [v12])) nlf o12'.2
              have sf : Same F9 F12 := g10.f.trans (s1011.trans g12.f)
              have e1 : lcIn m prim v st' us = ((if lcNew st'.1 (markL m us v) = true then some (markL m us v) else st'.1), (if lcNew st'.1 (markL m us v) = true then [] else st'.2) ++ [us ++ [v]]) := by
                unfold lcIn
                rw [if_pos hb2]
                split <;> rfl
              refine x_nil gg.s (x_nil gg.s ⟨s0''.trans (g8.f.trans (g9.f.trans sf)), vb, lf, ws ++ [v12], lcIn m prim v st' us, some vu, some vk, rfl, s09.trans sf, s69.trans sf, gg, nlf, o12'.2, upd_same, ?_, ?_, ?_, ef, oki2⟩)
              · rw [e1]; exact (r11.up g12.f).snoc p12
              · rw [e1]; exact Mn.mono _ _ _ g12.f pb11
              · intro bb hbb
                rw [e1] at hbb
                simp only at hbb
                split at hbb
                · cases hbb
                  exact fun z => nomatch z
                · exact neb bb hbb
          · have o10' := g10.own o9'.1 o9'.2
            have e1 : lcIn m prim v st' us = st' := by
              unfold lcIn
              rw [if_neg (by rw [hb2]; exact Bool.false_ne_true)]
            refine x_nil g10.s ⟨s0''.trans (g8.f.trans (g9.f.trans g10.f)), vb, lf, ws, st', some vu, some vk, rfl, s09.trans g10.f, s69.trans g10.f, g79.trans g10, nlf, o10'.2, o10'.1, r9.up g10.f, Mn.mono _ _ _ g10.f pb9, neb, ?_, ?_⟩
            · rw [← ef, List.foldl_cons, e1]
            · rw [e1] at oki2; exact oki2
        · rintro σ1 F7 H7 s7 ⟨vb, lf, ws, st', o7, o8, rfl, s07, s67, g7, nlf, f7, h7, r7, pb7, neb, ef, oki⟩
          rw [List.drop_length, List.foldl_nil] at ef
          subst ef
          exact x_nil s7 ⟨s07, vb, lf, ws, _, _, _, _, _, rfl, s26.trans s67, g7, nlf, f7, h7, r7, pb7, neb, efold, okout⟩
    · rintro σ1 F3 H3 s3 ⟨vb, lf, ws, st, o5, o6, o7, o8, rfl, s23, g3, nlf, f3, h3, r3, pb3, neb, eo, oko⟩
      rw [List.drop_length] at eo
      have e : st = fin := by rw [← eo]; rfl
      subst e
      exact ⟨vb, lf, ws, o5, o6, o7, o8, rfl, s23, g3, nlf, f3, h3, r3, pb3⟩
    · rintro σ1 F3 H3 s3 ⟨vb, lf, ws, o5, o6, o7, o8, rfl, s23, g3, nlf, f3, h3, r3, pb3⟩
      have hk : PySem.W.Sortable ((fin.2.map toTT).map Datum.toD) := .inl fun d hd => by
        obtain ⟨z, hz, rfl⟩ := List.mem_map.mp hd
        obtain ⟨y, hy, rfl⟩ := List.mem_map.mp hz
        have := nefin y hy
        cases y with
        | nil => exact absurd rfl this
        | cons x r => exact ⟨_, _, rfl⟩
      have gz := g3.frz nlf f3 h3
      show Sx (cxD P w K mg base ["lattice", "tuples", "bound", "best", "found", "v", "norm", "vectors", "mark"] d_least_continued cdv A outer s H E) _ _ (upd F3 lf (.lst ws)) H3 _
      have r3' : AllP (fun t : Tup (Tup Int) => pTT (fromTT t)) ws (fin.2.map toTT) (upd F3 lf (.lst ws)) := (r3.up (same_new f3)).imp fun x v _ q => by rw [from_to]; exact q
      refine x_ret (P := pP (pBest fin.1) (pTTT (sortTT fin.2))) (ev_pair (ev_v 3 rfl (Mn.mono _ _ _ (same_new f3) pb3)) (Ev.imp (ev_tupL (f := fun t : Tup (Tup Int) => pTT (fromTT t)) T.n_tuple (EvN.ev (en_sortD (f := fun t : Tup (Tup Int) => pTT (fromTT t)) T.n_sorted (ev_v 4 rfl ⟨lf, ws, rfl, upd_same, r3'⟩) (fun t => by have := rd_TT (fromTT t); rw [to_from] at this; exact this) hk (by have := hr.units; show _ + 2 + 2 < _; omega)))) (fun v F5 s5 ⟨q, us, e, h, rr⟩ => ⟨q, us, e, h, rr.imp fun x v _ q => q⟩))) (fun v F4 H4 g4 p4 => ⟨gz.trans g4, p4⟩) gz.s

end
end K24
set_option Elab.async false
set_option linter.all false
set_option maxRecDepth 100000
set_option maxHeartbeats 4000000
set_option autoImplicit false
namespace K24
open PySem PySem.Spec PyProof.Rows L2
open PySem.W (Datum DatumOrd Holds HoldAll Tup)
section
variable {P : Program} {w : World} {K : PySem.W.Frag} {mg : Str → Option Value} {base : Heap}


inductive WhRun (m : Mx) (n : Nat) (prim : Mx → Bool) (ts : List Mx) : Nat → Int → List Int → List Mx → Int → Prop
  | hit {b : Int} {mk : List Int} {f : List Mx} (h : LcIs m n prim ts b (some mk, f)) : WhRun m n prim ts 0 b mk (sortTT f) b
  | miss {k : Nat} {b b' : Int} {mk : List Int} {f f0 : List Mx} (h : LcIs m n prim ts b (none, f0)) (r : WhRun m n prim ts k (2 * b) mk f b') : WhRun m n prim ts (k + 1) b mk f b'
abbrev Lv := List Int × List Mx
inductive LvRun (m : Mx) (n : Nat) (prim : Mx → Bool) : Nat → List Mx → Int → List Lv → Prop
  | nil {ts : List Mx} {b : Int} : LvRun m n prim 0 ts b []
  | cons {k j : Nat} {ts f : List Mx} {b b' : Int} {mk : List Int} {rest : List Lv} (h : WhRun m n prim ts j b mk f b') (ok : TsOk n ts) (hb : 1 ≤ b) (r : LvRun m n prim k f b' rest) : LvRun m n prim (k + 1) ts b ((mk, f) :: rest)
def fLv : Lv → Pr := fun z => pP (pTI z.1) (pTTT z.2)
instance {z : Lv} : Mn (fLv z) := by unfold fLv; infer_instance
def diagL (m : Mx) (n : Nat) : List Int := (rng 0 n).map fun i => at2 m i i
def IsMinL (r : List Int) (b : Int) : Prop := b ∈ r ∧ ∀ z ∈ r, b ≤ z
def c_levels (KK : PySem.W.Frag) : Con := fun vs F R => ∃ (a : V) (m : Mx) (n : Nat) (prim : Mx → Bool) (b : Int) (out : List Lv), vs = [a] ∧ pLa KK m a F ∧ Rect m n n ∧ 1 ≤ n ∧ n ≤ 10 ∧ (∀ r ∈ m, ∀ x ∈ r, x.natAbs < 2 ^ 64) ∧ IsMinL (diagL m n) b ∧ LvRun m n prim n [[]] b out ∧ R = pT fLv out
theorem LvRun.len {m : Mx} {n : Nat} {prim : Mx → Bool} {k : Nat} {ts : List Mx} {b : Int} {out : List Lv} (r : LvRun m n prim k ts b out) : out.length = k := by
  induction r with
  | nil => rfl
  | cons _ _ _ _ ih => rw [List.length_cons, ih]

theorem sc_levels : FnScope ["lattice", "bound", "tuples", "out", "_", "mark", "found", "i"] ["lattice"] d_levels.scope := ⟨rfl, rfl, rfl, by decide +kernel, rfl, by decide +kernel, by decide +kernel⟩
theorem ok_levels (T : Tx K mg) : FnD P w K mg base 11 "levels" (spP (c_levels K)) :=
  mk_fn T (d := d_levels) 30 30 rfl rfl rfl rfl rfl sc_levels (fun _ _ _ _ _ _ us hl => match us, hl with | [_], _ => rfl) (fun vs F P h => by obtain ⟨_, _, _, _, _, _, e, _⟩ := h; rw [e]; rfl) fun cdv A outer s H E hr vs F R sm hc => by
    obtain ⟨a, m, n, prim, b0, out, rfl, ha, Rm, n1, n10, bm, hmin, run, rfl⟩ := hc
    have hout : out.length = n := run.len
    have hdl : (diagL m n).length = n := by unfold diagL; rw [List.length_map, rng_len]; omega
    refine x_set 1 (P := pI b0) (ev_minL (r := diagL m n) (mn := b0) T.n_min rfl (EvN.ev (en_lc (own := [("i", 7)]) (i := 7) (f := pI) (fun i : Int => at2 m i i) (wk_rng1 (n := (n : Int)) T.n_range (ev_rank T (ok_L_rank T) (by exact hr.mono (by omega)) (ev_v 0 rfl ha) Rm.h) (by omega) (by omega)) (by rw [rng_len, sizeLine_eq]; omega) rfl sc_levels.nd (blkOk_by (N := ["lattice", "bound", "tuples", "out", "_", "mark", "found", "i"]) (sc := d_levels.scope) (by decide +kernel)) (fun _ => rfl)
      (fun z hz v2 F2 H2 g pv s H' C cl fp => ev_ixT (ev_ixT (f := pTI) (ev_rows T (ev_gram T (ev_v 0 rfl (Mn.mono _ _ _ g.f ha)))) (ev_v 7 rfl pv) (Rm.row (mem_rng.mp hz).1 (mem_rng.mp hz).2).1) (ev_v 7 rfl pv) (Rm.at (mem_rng.mp hz).1 (mem_rng.mp hz).2 (mem_rng.mp hz).1 (mem_rng.mp hz).2))
      (fun _ _ _ _ _ => pg_name (i := 7) sc_levels.nd rfl (.inl rfl)))) (by rw [hdl]; omega) (fun y h1 h2 => Int.le_antisymm (h2 _ hmin.1) (hmin.2 y h1))) (fun v F1 H1 g1 p1 => ?_) sm sc_levels.nd
    cases p1
    refine x_set 2 (P := pTTT [[]]) (ev_tup1 (f := pTT) (x := []) (ev_tup0 (f := pTI))) (fun vt F2 H2 g2 p2 => ?_) g1.s sc_levels.nd
    refine x_setN 3 (f := fLv) (xs := []) en_nil (fun l vs F3 H3 g3 m1 m2 m3 r3 => ?_) g2.s sc_levels.nd
    obtain rfl : vs = [] := List.length_eq_zero_iff.mp r3.1
    have g13 := g1.trans (g2.trans g3)
    have nl := (g1.trans g2).new m1
    have ha3 := Mn.mono _ _ _ g13.f ha
    let S : Int → V → Option V → Option V → Option V → L2.St := fun b vt o4 o5 o6 => [some a, some (.int b), some vt, some (.ref l), o4, o5, o6, none]
    refine x_forN (i := 4) (xs := rng 0 n) (pr := pI) (fun i σ1 F4 H4 => ∃ b vt o4 o5 o6 ts ws k rest, σ1 = S b vt o4 o5 o6 ∧ Same F3 F4 ∧ Gw F H F4 H4 ∧ F4 l = none ∧ H4 l = some (.lst ws) ∧ pTTT ts vt F4 ∧ i + k = n ∧ LvRun m n prim k ts b rest ∧ out = out.take i ++ rest ∧ AllP fLv ws (out.take i) F4)
      (wk_rng1 (n := (n : Int)) T.n_range (ev_rank T (ok_L_rank T) (by exact hr.mono (by omega)) (ev_v 0 rfl ha3) Rm.h) (by omega) (by omega))
      (fun F4 H4 g4 => ⟨b0, vt, none, none, none, [[]], [], n, out, rfl, g4.f, g13.trans g4, (g4.own m3 m2).2, (g4.own m3 m2).1, Mn.mono _ _ _ (g3.f.trans g4.f) p2, by omega, run, rfl, AllP.nil⟩) ?_ ?_ g3.s PassesOwn.never rfl sc_levels.nd
    · rintro F0 ii i σ1 F4 H4 hi s0' s4 ⟨b, vt, o4, o5, o6, ts, ws, k, rest, rfl, s34, g4, f4, h4, pt4, ek, run, eout, r4⟩ v F5 H5 g5 pv
      obtain ⟨ei, hi2⟩ := rng_get hi
      obtain ⟨k', rfl⟩ : ∃ k', k = k' + 1 := ⟨k - 1, by omega⟩
      obtain ⟨j, mk, f, b', rest', wh, tok, hb, run', rfl⟩ : ∃ j mk f b' rest', WhRun m n prim ts j b mk f b' ∧ TsOk n ts ∧ 1 ≤ b ∧ LvRun m n prim k' f b' rest' ∧ rest = (mk, f) :: rest' := by
        cases run with
        | cons h ok hb r => exact ⟨_, _, _, _, _, h, ok, hb, r, rfl⟩
      have o5' := g5.own h4 f4
      have ha5 := Mn.mono _ _ _ (s34.trans g5.f) ha3
      have pt5 := Mn.mono _ _ _ g5.f pt4
      obtain ⟨st, lcis, nxt⟩ : ∃ st, LcIs m n prim ts b st ∧ ((st.1 = some mk ∧ f = sortTT st.2 ∧ b' = b) ∨ (st.1 = none ∧ ∃ j', WhRun m n prim ts j' (2 * b) mk f b')) := by
        cases wh with
        | hit h => exact ⟨_, h, .inl ⟨rfl, rfl, rfl⟩⟩
        | miss h r => exact ⟨_, h, .inr ⟨rfl, _, r⟩⟩
      refine x_unpack 5 6 (P := pBest st.1) (Q := pTTT (sortTT st.2)) (ev_call (P := pP (pBest st.1) (pTTT (sortTT st.2))) (Ps := pCons (pLa K m) (pCons (pTTT ts) (pCons (pI b) pNil))) (ok_least_continued T) (by exact hr) (ea_cons (ev_v 0 rfl ha5) (ea_cons (ev_v 2 rfl pt5) (ea_one (ev_v 1 rfl rfl)))) (fun vs F1 sF ⟨a1, _, e1, b1, a2, _, e2, b2, a3, _, e3, b3, e5⟩ => by
          cases e5
          cases b3
          subst e1 e2 e3
          exact ⟨a1, a2, m, n, prim, ts, b, st, rfl, b1, Rm, n1, n10, hb, bm, b2, tok, lcis, rfl⟩)) (fun vk vf F6 H6 g6 pk pf => ?_) g5.s (pg_tup rfl (pgs_cons (pg_name (i := 5) sc_levels.nd rfl (.inl rfl)) (pgs_cons (pg_name (i := 6) sc_levels.nd rfl (.inl rfl)) pgs_nil)))
      have o6' := g6.own o5'.1 o5'.2
      have s06 := s0'.trans (g5.f.trans g6.f)
      refine x_while (fun σ1 F7 H7 c => ∃ (bb : Int) (vk vf : V) (st : LSt), σ1 = S bb vt (some v) (some vk) (some vf) ∧ Same F6 F7 ∧ Gw F H F7 H7 ∧ F7 l = none ∧ H7 l = some (.lst ws) ∧ pBest st.1 vk F7 ∧ pTTT (sortTT st.2) vf F7 ∧ 1 ≤ bb ∧ ((c = 0 ∧ st.1 = some mk ∧ f = sortTT st.2 ∧ b' = bb) ∨ (st.1 = none ∧ ∃ j', c = j' + 1 ∧ WhRun m n prim ts j' (2 * bb) mk f b')))
        ?_ ?_ g6.s PassesOwn.never
      · rcases nxt with ⟨q1, q2, q3⟩ | ⟨q1, j', q2⟩
        · exact ⟨0, b, vk, vf, st, rfl, Same.refl _, g4.trans (g5.trans g6), o6'.2, o6'.1, pk, pf, hb, .inl ⟨rfl, q1, q2, q3⟩⟩
        · exact ⟨j' + 1, b, vk, vf, st, rfl, Same.refl _, g4.trans (g5.trans g6), o6'.2, o6'.1, pk, pf, hb, .inr ⟨q1, j', rfl, q2⟩⟩
      · rintro σ1 F7 H7 c s7 ⟨bb, vk, vf, st, rfl, s67, g7, f7, h7, pk, pf, hbb, alt⟩
        refine ⟨st.1.isNone, evt_isN (ev_v 5 rfl pk) (fun v F h => pBest_isN h), fun hb2 F8 H8 g8 => ?_, fun hb2 F8 H8 g8 => ?_⟩
        · rcases alt with ⟨_, q, _⟩ | ⟨q1, j', rfl, wh⟩
          · rw [q] at hb2; cases hb2
          have o8' := g8.own h7 f7
          obtain ⟨st2, lcis2, nxt2⟩ : ∃ st, LcIs m n prim ts (2 * bb) st ∧ ((st.1 = some mk ∧ f = sortTT st.2 ∧ b' = 2 * bb ∧ j' = 0) ∨ (st.1 = none ∧ ∃ j'', j' = j'' + 1 ∧ WhRun m n prim ts j'' (2 * (2 * bb)) mk f b')) := by
            cases wh with
            | hit h => exact ⟨_, h, .inl ⟨rfl, rfl, rfl, rfl⟩⟩
            | miss h r => exact ⟨_, h, .inr ⟨rfl, _, rfl, r⟩⟩
          refine x_set 1 (P := pI (2 * bb)) (ev_mul ev_int (ev_v 1 rfl rfl) (CMul.l (by decide))) (fun v9 F9 H9 g9 p9 => ?_) g8.s sc_levels.nd
          cases p9
          have o9' := g9.own o8'.1 o8'.2
          have ha9 := Mn.mono _ _ _ (g6.f.trans (s67.trans (g8.f.trans g9.f))) ha5
          have pt9 := Mn.mono _ _ _ (g6.f.trans (s67.trans (g8.f.trans g9.f))) pt5
          have hb9 : 1 ≤ 2 * bb := by omega
          refine x_unpack 5 6 (P := pBest st2.1) (Q := pTTT (sortTT st2.2)) (ev_call (P := pP (pBest st2.1) (pTTT (sortTT st2.2))) (Ps := pCons (pLa K m) (pCons (pTTT ts) (pCons (pI (2 * bb)) pNil))) (ok_least_continued T) (by exact hr) (ea_cons (ev_v 0 rfl ha9) (ea_cons (ev_v 2 rfl pt9) (ea_one (ev_v 1 rfl rfl)))) (fun vs F1 sF ⟨a1, _, e1, b1, a2, _, e2, b2, a3, _, e3, b3, e5⟩ => by
          cases e5
          cases b3
          subst e1 e2 e3
          exact ⟨a1, a2, m, n, prim, ts, (2 * bb), st2, rfl, b1, Rm, n1, n10, hb9, bm, b2, tok, lcis2, rfl⟩)) (fun vk2 vf2 F10 H10 g10 pk2 pf2 => ?_) g9.s (pg_tup rfl (pgs_cons (pg_name (i := 5) sc_levels.nd rfl (.inl rfl)) (pgs_cons (pg_name (i := 6) sc_levels.nd rfl (.inl rfl)) pgs_nil)))
          have o10' := g10.own o9'.1 o9'.2
          have gg := g7.trans (g8.trans (g9.trans g10))
          have sf := s67.trans (g8.f.trans (g9.f.trans g10.f))
          rcases nxt2 with ⟨q1, q2, q3, q4⟩ | ⟨q1, j'', q3, q2⟩
          · exact x_nil g10.s ⟨0, by omega, 2 * bb, vk2, vf2, st2, rfl, sf, gg, o10'.2, o10'.1, pk2, pf2, hb9, .inl ⟨rfl, q1, q2, q3⟩⟩
          · exact x_nil g10.s ⟨j'' + 1, by omega, 2 * bb, vk2, vf2, st2, rfl, sf, gg, o10'.2, o10'.1, pk2, pf2, hb9, .inr ⟨q1, j'', rfl, q2⟩⟩
        · obtain ⟨q, ef, eb⟩ : st.1 = some mk ∧ f = sortTT st.2 ∧ b' = bb := by
            rcases alt with ⟨_, q, ef, eb⟩ | ⟨q1, _⟩
            · exact ⟨q, ef, eb⟩
            · rw [q1] at hb2; cases hb2
          subst ef eb
          have o8' := g8.own h7 f7
          rw [q] at pk
          have pk8 : pTI mk vk F8 := Mn.mono _ _ _ g8.f (P := pTI mk) pk
          have pf8 := Mn.mono _ _ _ g8.f pf
          refine x_app (P := fLv (mk, sortTT st.2)) (l := l) (vs := ws) (ev_v 3 rfl rfl) (ev_pair (ev_v 5 rfl pk8) (ev_v 6 rfl pf8)) o8'.1 o8'.2 ?_ (fun v9 F9 H9 g9 p9 => ?_) g8.s (pe_bm PySem.F.plainAttrs_list PySem.F.slot_list_append ty_app mt_append pe_w pa_w)
          · rw [r4.1, sizeLine_eq]
            have := List.length_take_le ii out
            omega
          · have o9' := g9.own o8'.1 o8'.2
            have gg := (g7.trans (g8.trans g9)).mut (o := .lst (ws ++ [v9])) nl o9'.2
            refine x_set 2 (P := pTTT (sortTT st.2)) (ev_v 6 rfl (Mn.mono _ _ _ g9.f pf8)) (fun v10 F10 H10 g10 p10 => ?_) gg.s sc_levels.nd
            have o10 := g10.own (p := l) (o := .lst (ws ++ [v9])) upd_same o9'.2
            have sf := g8.f.trans (g9.f.trans g10.f)
            have hget : out[ii]? = some (mk, sortTT st.2) := by
              rw [eout, List.getElem?_append_right (by rw [List.length_take]; omega), List.length_take]
              rw [hout, Nat.min_eq_left (by omega), Nat.sub_self]
              rfl
            have etake : out.take (ii + 1) = out.take ii ++ [(mk, sortTT st.2)] := by rw [List.take_add_one, hget]; rfl
            refine x_nil g10.s ⟨s06.trans (s67.trans sf), _, v10, some v, some vk, some vf, sortTT st.2, ws ++ [v9], k', rest', rfl, s34.trans (g5.f.trans (g6.f.trans (s67.trans sf))), gg.trans g10, o10.2, o10.1, p10, by omega, run', ?_, ?_⟩
            · rw [etake, List.append_assoc]
              exact eout
            · rw [etake]
              exact (r4.up (g5.f.trans (g6.f.trans (s67.trans sf)))).snoc (Mn.mono _ _ _ g10.f p9)
    · rintro σ1 F4 H4 s4 ⟨b, vt, o4, o5, o6, ts, ws, k, rest, rfl, s34, g4, f4, h4, pt4, ek, run, eout, r4⟩
      rw [rng_len, show ((n : Int) - 0).toNat = n by omega] at ek r4 eout
      have hk : k = 0 := by omega
      subst hk
      have hr0 : rest = [] := by cases run; rfl
      rw [hr0, List.append_nil] at eout
      rw [← eout] at r4
      exact x_ret (ev_tupO T.n_tuple (ev_v 3 rfl rfl) h4 r4) (fun v F5 H5 g5 p5 => ⟨g4.trans g5, p5⟩) s4

end
end K24
set_option Elab.async false
set_option linter.all false
set_option maxRecDepth 100000
set_option maxHeartbeats 4000000
set_option autoImplicit false
namespace K24
open PySem PySem.Spec PyProof.Rows L2
open PySem.W (Datum DatumOrd Holds HoldAll Tup)
section
variable {P : Program} {w : World} {K : PySem.W.Frag} {mg : Str → Option Value} {base : Heap}


def LevelsIs (m : Mx) (n : Nat) (out : List Lv) : Prop := Rect m n n ∧ 1 ≤ n ∧ n ≤ 10 ∧ (∀ r ∈ m, ∀ x ∈ r, x.natAbs < 2 ^ 64) ∧ ∃ prim b, IsMinL (diagL m n) b ∧ LvRun m n prim n [[]] b out
theorem LevelsIs.len {m : Mx} {n : Nat} {out : List Lv} (h : LevelsIs m n out) : out.length = n := let ⟨_, _, _, _, _, _, _, r⟩ := h; r.len
theorem ev_levels {X : Cx} {e : Expr} {σ : L2.St} {F H : Hp} {p pos : Pos} {m : Mx} {n k : Nat} {out : List Lv} (O : FnD X.prog X.w X.K X.mg X.base k "levels" (spP (c_levels X.K))) (hr : Room k X.A) (ha : Ev X e σ F H (pLa X.K m)) (L : LevelsIs m n out)
    (hg : Gl X "levels" := by rfl) (hs : starEach [e] X.env = (false, eval e X.env) :: starEach [] X.env := by rfl) (hpl : (backTo pos (starEach [] X.env)).any (·.1) = false := by rfl) : Ev X (.Call (.Name "levels" p) [e] [] pos) σ F H (pT fLv out) :=
  ev_call (Ps := pCons (pLa X.K m) pNil) O hr (ea_one ha hs) (fun vs F1 sF ⟨a1, _, e1, b1, e2⟩ => by
    cases e2
    subst e1
    obtain ⟨Rm, n1, n10, bm, prim, b, hm, run⟩ := L
    exact ⟨a1, m, n, prim, b, out, rfl, b1, Rm, n1, n10, bm, hm, run, rfl⟩) hg (by decide) hs hpl
def BasesIs (m : Mx) (n : Nat) (fs : List Mx) : Prop := ∃ out mk, LevelsIs m n out ∧ out[n - 1]? = some (mk, fs) ∧ fs.length ≤ 1000000 ∧ ∀ vs ∈ fs, Rect vs n n
def c_least_bases (KK : PySem.W.Frag) : Con := fun vs F R => ∃ (a : V) (m : Mx) (n : Nat) (fs : List Mx), vs = [a] ∧ pLa KK m a F ∧ BasesIs m n fs ∧ R = pT (fun vs => pG KK vs n) fs

theorem sc_least_bases : FnScope ["lattice", "vectors"] ["lattice"] d_least_bases.scope := ⟨rfl, rfl, rfl, by decide +kernel, rfl, by decide +kernel, by decide +kernel⟩
theorem ok_least_bases (T : Tx K mg) : FnD P w K mg base 12 "least_bases" (spP (c_least_bases K)) :=
  mk_fn T (d := d_least_bases) 31 31 rfl rfl rfl rfl rfl sc_least_bases (fun _ _ _ _ _ _ us hl => match us, hl with | [_], _ => rfl) (fun vs F P h => by obtain ⟨_, _, _, _, e, _⟩ := h; rw [e]; rfl) fun cdv A outer s H E hr vs F R sm hc => by
    obtain ⟨a, m, n, fs, rfl, ha, ⟨out, mk, L, hl, lf, hR⟩, rfl⟩ := hc
    have hlast : atI out (-1) = some (mk, fs) := by
      have h1 := L.len
      have h2 := L.2.1
      unfold atI ixN
      rw [if_neg (by omega), if_pos (by omega)]
      show out[(-1 + (out.length : Int)).toNat]? = _
      rw [show (-1 + (out.length : Int)).toNat = n - 1 by omega]
      exact hl
    refine x_ret (ev_tupL T.n_tuple (Ev.is (EvN.ev (en_lc (own := [("vectors", 1)]) (i := 1) (f := fun vs => pG K vs n) (fun vs : Mx => vs) (wk_T (f := pTT) (ev_snd (P := pTI mk) (R := pTTT fs) (ev_ixT (f := fLv) (ev_levels (ok_levels T) (by exact hr) (ev_v 0 rfl ha) L) (ev_neg ev_int) hlast) ev_int)) (by rw [sizeLine_eq]; omega) rfl sc_least_bases.nd (blkOk_by (N := ["lattice", "vectors"]) (sc := d_least_bases.scope) (by decide +kernel)) (fun _ => rfl)
      (fun z hz v2 F2 H2 g pv s H' C cl fp => ev_mkG1 T (by exact hr.mono (by omega)) (ev_v 1 rfl (pTT.ss pv)) (hR z hz).w (by rw [(hR z hz).h]; have := L.2.2.1; omega) (by have := L.2.2.1; omega) (fun e => by have := (hR z hz).h; rw [e] at this; simp at this; have := L.2.1; omega))
      (fun _ _ _ _ _ => pg_name (i := 1) sc_least_bases.nd rfl (.inl rfl)))) (by rw [List.map_id']))) (fun v F3 H3 g3 p => ⟨g3, p⟩) sm


def gEnt (marks : Mx) (i j : Nat) : Int := if i = j then (marks.getD i []).getD 0 0 else if j < i then (marks.getD i []).getD (j + 1) 0 else (marks.getD j []).getD (i + 1) 0
def gramM (marks : Mx) (n : Nat) : Mx := (List.range n).map fun i => (List.range n).map fun j => gEnt marks i j
theorem gram_rect (marks : Mx) (n : Nat) : Rect (gramM marks n) n n := ⟨by unfold gramM; rw [List.length_map, List.length_range], fun r hr => by
  obtain ⟨i, _, rfl⟩ := List.mem_map.mp hr
  rw [List.length_map, List.length_range]⟩
theorem at2_nat (m : Mx) (i k : Nat) : at2 m i k = (m.getD i []).getD k 0 := by unfold at2; rw [Int.toNat_natCast, Int.toNat_natCast]
theorem gram_at (marks : Mx) (n i j : Nat) (hi : i < n) (hj : j < n) : at2 (gramM marks n) i j = gEnt marks i j := by
  rw [at2_nat]
  unfold gramM
  rw [getD_at (r := (List.range n).map fun j => gEnt marks i j) (by rw [List.getElem?_map, List.getElem?_range hi]; rfl), List.getD_eq_getElem?_getD, List.getElem?_map, List.getElem?_range hj]
  rfl
theorem rect_ext {a b : Mx} {h w : Nat} (Ra : Rect a h w) (Rb : Rect b h w) (e : ∀ i k : Nat, i < h → k < w → at2 a i k = at2 b i k) : a = b := by
  apply List.ext_getElem?
  intro i
  by_cases hi : i < h
  · obtain ⟨r, hr, lr⟩ := Ra.get hi
    obtain ⟨q, hq, lq⟩ := Rb.get hi
    rw [hr, hq]
    congr 1
    apply List.ext_getElem?
    intro k
    by_cases hk : k < w
    · have := e i k hi hk
      rw [at2_nat, at2_nat, getD_at hr, getD_at hq, List.getD_eq_getElem?_getD, List.getD_eq_getElem?_getD, List.getElem?_eq_getElem (by omega), List.getElem?_eq_getElem (by omega)] at this
      rw [List.getElem?_eq_getElem (by omega), List.getElem?_eq_getElem (by omega)]
      exact congrArg some this
    · rw [List.getElem?_eq_none (by omega), List.getElem?_eq_none (by omega)]
  · rw [List.getElem?_eq_none (by rw [Ra.h]; omega), List.getElem?_eq_none (by rw [Rb.h]; omega)]
theorem at2_set {m : Mx} {h w : Nat} (R : Rect m h w) {i j : Nat} {r : List Int} {x : Int} (hi : m[i]? = some r) (hj : j < w) (a b : Nat) : at2 (m.set i (r.set j x)) a b = if a = i ∧ b = j then x else at2 m a b := by
  have lr : r.length = w := R.w r (List.mem_of_getElem? hi)
  rw [at2_nat, at2_nat]
  by_cases z : i = a
  · subst z
    rw [getD_at (r := r.set j x) (List.getElem?_set_self (List.getElem?_eq_some_iff.mp hi).1), getD_at hi]
    by_cases y : j = b
    · subst y
      rw [if_pos ⟨rfl, rfl⟩, List.getD_eq_getElem?_getD, List.getElem?_set_self (by omega)]
      rfl
    · rw [if_neg (fun z => y z.2.symm), List.getD_eq_getElem?_getD, List.getElem?_set_ne y, ← List.getD_eq_getElem?_getD]
  · rw [if_neg (fun y => z y.1.symm), List.getD_eq_getElem?_getD (l := m.set i (r.set j x)), List.getElem?_set_ne z, ← List.getD_eq_getElem?_getD]
def c_gram_of_marks : Con := fun vs F R => ∃ (a : V) (marks : Mx) (n : Nat), vs = [a] ∧ pL pTI marks a F ∧ marks.length = n ∧ n ≤ 10 ∧ (∀ (i : Nat) (r : List Int), marks[i]? = some r → r.length = i + 1) ∧ R = pM (gramM marks n)

theorem sc_gram_of_marks : FnScope ["marks", "size", "rows", "_", "i", "j"] ["marks"] d_gram_of_marks.scope := ⟨rfl, rfl, rfl, by decide +kernel, rfl, by decide +kernel, by decide +kernel⟩
theorem ok_gram_of_marks (T : Tx K mg) : FnD P w K mg base 1 "gram_of_marks" (spP c_gram_of_marks) :=
  mk_fn T (d := d_gram_of_marks) 32 32 rfl rfl rfl rfl rfl sc_gram_of_marks (fun _ _ _ _ _ _ us hl => match us, hl with | [_], _ => rfl) (fun vs F P h => by obtain ⟨_, _, _, e, _⟩ := h; rw [e]; rfl) fun cdv A outer s H E hr vs F R sm hc => by
    obtain ⟨a, marks, n, rfl, ha, lm, hn, lr, rfl⟩ := hc
    refine x_set 1 (P := pI (n : Nat)) (Ev.is (ev_lenL (f := pTI) T.n_len (ev_v 0 rfl ha)) (by rw [lm])) (fun v F1 H1 g1 p1 => ?_) sm sc_gram_of_marks.nd
    cases p1
    refine x_setLcM 2 (lm_N (own := [("_", 3)]) (i := 3) (fun _ : Int => List.replicate n (0 : Int)) (wk_rng1 (n := (n : Int)) T.n_range (ev_v 1 rfl rfl) (by omega) (by omega)) (by rw [rng_len, sizeLine_eq]; omega) rfl sc_gram_of_marks.nd (blkOk_by (N := ["marks", "size", "rows", "_", "i", "j"]) (sc := d_gram_of_marks.scope) (by decide +kernel)) (fun _ => rfl)
      (fun z hz v2 F2 H2 g pv s H' C cl fp => ev_rep (en_lst1 (f := pI) ev_int) (ev_v 1 rfl rfl) (by omega)) (fun _ _ _ _ _ => pg_name (i := 3) sc_gram_of_marks.nd rfl (.inl rfl))) (fun l ps F2 H2 g2 n1 n2 e3 hm dn pn => ?_) g1.s
    have ha2 := Mn.mono _ _ _ (g1.f.trans g2.f) ha
    have nl := g1.new n1
    have pn' : ∀ q ∈ ps, H q = none := fun q hq => g1.new (pn q hq)
    let S : Option V → Option V → L2.St := fun o4 o5 => [some a, some (.int (n : Nat)), some (.ref l), none, o4, o5]
    have R0 : Rect ((rng 0 n).map fun _ : Int => List.replicate n (0 : Int)) n n := ⟨by rw [List.length_map, rng_len]; omega, fun r hr => by
      obtain ⟨_, _, rfl⟩ := List.mem_map.mp hr
      rw [List.length_replicate]⟩
    refine x_forN (i := 4) (xs := rng 0 n) (pr := pI) (fun i σ1 F3 H3 => ∃ o4 o5 rows, σ1 = S o4 o5 ∧ Same F2 F3 ∧ Gw F H F3 H3 ∧ F3 l = none ∧ H3 l = some (.lst (ps.map V.ref)) ∧ HM F3 H3 ps rows ∧ Rect rows n n ∧ ∀ a b : Nat, a < i → b < i → at2 rows a b = gEnt marks a b)
      (wk_rng1 (n := (n : Int)) T.n_range (ev_v 1 rfl rfl) (by omega) (by omega)) (fun F3 H3 g3 => ⟨none, none, _, rfl, g3.f, (g1.trans g2).trans g3, (g3.own e3 n2).2, (g3.own e3 n2).1, hm.up g3, R0, fun a b h => absurd h (Nat.not_lt_zero _)⟩) ?_ ?_ g2.s PassesOwn.never rfl sc_gram_of_marks.nd
    · rintro F0 ii i σ1 F3 H3 hi s0' s3 ⟨o4, o5, rows, rfl, s23, g3, f3, h3, hm3, Rr, ent⟩ v F4 H4 g4 pv
      cases pv
      obtain ⟨ei, hi2⟩ := rng_get hi
      have ei2 : i = (ii : Nat) := by omega
      subst ei2
      have hin : ii < n := by omega
      have o4' := g4.own h3 f3
      have hm4 := hm3.up g4
      obtain ⟨r, hr, lenr⟩ := Rr.get hin
      obtain ⟨q, hq, eq4, fq, qm⟩ := hm4.at hr
      have ha4 := Mn.mono _ _ _ (s23.trans g4.f) ha2
      have hmk : ii < marks.length := by omega
      have lmk := lr ii _ (List.getElem?_eq_getElem hmk)
      have emk : marks.getD ii [] = marks[ii] := getD_at (List.getElem?_eq_getElem hmk)
      have atmk : atI marks (ii : Int) = some marks[ii] := atI_nat (List.getElem?_eq_getElem hmk)
      have rowq : ∀ {σ' : L2.St} {ps' : Pos}, σ'[2]? = some (some (.ref l)) → True := fun _ => trivial
      have atq : atI (ps.map V.ref) (ii : Int) = some (V.ref q) := atI_nat (by rw [List.getElem?_map, hq]; rfl)
      refine x_setIJ (P := pI (marks[ii].getD 0 0)) (q := q) (nj := (ii : Nat)) (j := ii) (vs := r.map V.int) (ev_ixT (f := pI) (ev_ixL (f := pTI) (ev_v 0 rfl ha4) (ev_v 4 rfl rfl) atmk) ev_int (atI_in 0 (by omega) (by omega))) (fun F5 H5 g5 => ev_ixO (ev_v 2 rfl rfl) (ev_v 4 rfl rfl) (g5.own o4'.1 o4'.2).1 atq rfl) (fun F5 H5 g5 => ev_v 4 rfl rfl) eq4 fq (ixNat (by rw [List.length_map]; omega)) (fun v5 F5 H5 g5 p5 => ?_) g4.s
      cases p5
      have o5' := g5.own o4'.1 o4'.2
      have hm5 := hm4.up g5
      have dq : q ≠ l := fun z => dn (by rw [← z]; exact qm)
      have fq5 := (g5.own eq4 fq).2
      have g15 := ((g3.trans g4).trans g5).mut (o := .lst ((r.map V.int).set ii (.int (marks[ii].getD 0 0)))) (pn' q qm) fq5
      have hm6 := hm5.set (x := marks[ii].getD 0 0) (j := ii) hq hr
      have eset : (r.map V.int).set ii (.int (marks[ii].getD 0 0)) = (r.set ii (marks[ii].getD 0 0)).map V.int := by rw [List.map_set]
      rw [eset] at g15 ⊢
      have Rr6 : Rect (rows.set ii (r.set ii (marks[ii].getD 0 0))) n n := Rr.set (by rw [List.length_set]; exact lenr)
      have at6 := fun a b => at2_set (x := marks[ii].getD 0 0) Rr hr hin a b
      have gii : gEnt marks ii ii = marks[ii].getD 0 0 := by unfold gEnt; rw [if_pos rfl, emk]
      refine x_forN (i := 5) (xs := rng 0 ii) (pr := pI) (fun j σ1 F7 H7 => ∃ o5 rows, σ1 = S (some (.int (ii : Nat))) o5 ∧ Same F0 F7 ∧ Same F2 F7 ∧ Gw F H F7 H7 ∧ F7 l = none ∧ H7 l = some (.lst (ps.map V.ref)) ∧ HM F7 H7 ps rows ∧ Rect rows n n ∧ ∀ a b : Nat, (a < ii ∧ b < ii) ∨ (a = ii ∧ b = ii) ∨ (a = ii ∧ b < j) ∨ (b = ii ∧ a < j) → at2 rows a b = gEnt marks a b)
        (wk_rng1 (n := (ii : Int)) T.n_range (ev_v 4 rfl rfl) (by omega) (by omega)) (fun F7 H7 g7 => ⟨o5, _, rfl, s0'.trans (g4.f.trans (g5.f.trans g7.f)), s23.trans (g4.f.trans (g5.f.trans g7.f)), g15.trans g7, (g7.own (by rw [upd_ne dq.symm]; exact o5'.1) o5'.2).2, (g7.own (by rw [upd_ne dq.symm]; exact o5'.1) o5'.2).1, hm6.up g7, Rr6, fun a b h => by
          rw [at6]
          by_cases z : a = ii ∧ b = ii
          · rw [if_pos z, z.1, z.2, gii]
          · rw [if_neg z]
            exact ent a b (by omega) (by omega)⟩) ?_ ?_ g15.s PassesOwn.never rfl sc_gram_of_marks.nd
      · rintro F0' jj j σ1 F7 H7 hj s0'' s7 ⟨o5, rows7, rfl, s07, s27, g7, f7, h7, hm7, Rr7, ent7⟩ v F8 H8 g8 pv
        cases pv
        obtain ⟨ej, hj2⟩ := rng_get hj
        have ej2 : j = (jj : Nat) := by omega
        subst ej2
        have hjn : jj < ii := by omega
        have o8' := g8.own h7 f7
        have hm8 := hm7.up g8
        obtain ⟨r8, hr8, len8⟩ := Rr7.get hin
        obtain ⟨q8, hq8, eq8, fq8, qm8⟩ := hm8.at hr8
        have e9 : q8 = q := by rw [hq] at hq8; exact (Option.some.inj hq8).symm
        subst e9
        have ha8 := Mn.mono _ _ _ (s27.trans g8.f) ha2
        have atj : atI marks[ii] ((jj : Int) + 1) = some (marks[ii].getD (jj + 1) 0) := by
          rw [show ((jj : Int) + 1) = ((jj + 1 : Nat) : Int) by omega]
          exact atI_in 0 (by omega) (by omega)
        refine x_setIJ (P := pI (marks[ii].getD (jj + 1) 0)) (q := q8) (nj := (jj : Nat)) (j := jj) (vs := r8.map V.int) (ev_ixT (f := pI) (ev_ixL (f := pTI) (ev_v 0 rfl ha8) (ev_v 4 rfl rfl) atmk) (ev_add (ev_v 5 rfl rfl) ev_int) atj) (fun F9 H9 g9 => ev_ixO (ev_v 2 rfl rfl) (ev_v 4 rfl rfl) (g9.own o8'.1 o8'.2).1 atq rfl) (fun F9 H9 g9 => ev_v 5 rfl rfl) eq8 fq8 (ixNat (by rw [List.length_map]; omega)) (fun v9 F9 H9 g9 p9 => ?_) g8.s
        cases p9
        have o9' := g9.own o8'.1 o8'.2
        have hm9 := hm8.up g9
        have fq9 := (g9.own eq8 fq8).2
        have eset9 : (r8.map V.int).set jj (.int (marks[ii].getD (jj + 1) 0)) = (r8.set jj (marks[ii].getD (jj + 1) 0)).map V.int := by rw [List.map_set]
        rw [eset9]
        have g19 := ((g7.trans g8).trans g9).mut (o := .lst ((r8.set jj (marks[ii].getD (jj + 1) 0)).map V.int)) (pn' q8 qm8) fq9
        have hm10 := hm9.set (x := marks[ii].getD (jj + 1) 0) (j := jj) hq8 hr8
        have Rr10 : Rect (rows7.set ii (r8.set jj (marks[ii].getD (jj + 1) 0))) n n := Rr7.set (by rw [List.length_set]; exact len8)
        have at10 := fun a b => at2_set (x := marks[ii].getD (jj + 1) 0) Rr7 hr8 (show jj < n by omega) a b
        have l10 : (upd H9 q8 (.lst ((r8.set jj (marks[ii].getD (jj + 1) 0)).map V.int))) l = some (.lst (ps.map V.ref)) := by rw [upd_ne dq.symm]; exact o9'.1
        obtain ⟨rj, hrj, lenj⟩ := Rr10.get (show jj < n by omega)
        obtain ⟨qj, hqj, eqj, fqj, qmj⟩ := hm10.at hrj
        have atqj : atI (ps.map V.ref) (jj : Int) = some (V.ref qj) := atI_nat (by rw [List.getElem?_map, hqj]; rfl)
        refine x_setIJ (P := pI (marks[ii].getD (jj + 1) 0)) (q := qj) (nj := (ii : Nat)) (j := ii) (vs := rj.map V.int) (ev_ixT (f := pI) (ev_ixL (f := pTI) (ev_v 0 rfl (Mn.mono _ _ _ g9.f ha8)) (ev_v 4 rfl rfl) atmk) (ev_add (ev_v 5 rfl rfl) ev_int) atj) (fun F11 H11 g11 => ev_ixO (ev_v 2 rfl rfl) (ev_v 5 rfl rfl) (g11.own l10 o9'.2).1 atqj rfl) (fun F11 H11 g11 => ev_v 4 rfl rfl) eqj fqj (ixNat (by rw [List.length_map]; omega)) (fun v11 F11 H11 g11 p11 => ?_) g19.s
        cases p11
        have o11 := g11.own l10 o9'.2
        have hm11 := hm10.up g11
        have fq11 := (g11.own eqj fqj).2
        have dqj : qj ≠ l := fun z => dn (by rw [← z]; exact qmj)
        have eset11 : (rj.map V.int).set ii (.int (marks[ii].getD (jj + 1) 0)) = (rj.set ii (marks[ii].getD (jj + 1) 0)).map V.int := by rw [List.map_set]
        rw [eset11]
        have g111 := (g19.trans g11).mut (o := .lst ((rj.set ii (marks[ii].getD (jj + 1) 0)).map V.int)) (pn' qj qmj) fq11
        have hm12 := hm11.set (x := marks[ii].getD (jj + 1) 0) (j := ii) hqj hrj
        have Rr12 : Rect ((rows7.set ii (r8.set jj (marks[ii].getD (jj + 1) 0))).set jj (rj.set ii (marks[ii].getD (jj + 1) 0))) n n := Rr10.set (by rw [List.length_set]; exact lenj)
        have at12 := fun a b => at2_set (x := marks[ii].getD (jj + 1) 0) Rr10 hrj hin a b
        have sf := g8.f.trans (g9.f.trans g11.f)
        refine x_nil g111.s ⟨s0''.trans sf, some (.int (jj : Nat)), _, rfl, s07.trans sf, s27.trans sf, g111, o11.2, by rw [upd_ne dqj.symm]; exact o11.1, hm12, Rr12, fun a b h => ?_⟩
        rw [at12, at10]
        by_cases z : a = jj ∧ b = ii
        · rw [if_pos z, z.1, z.2]
          unfold gEnt
          rw [if_neg (by omega), if_neg (by omega), emk]
        · rw [if_neg z]
          by_cases y : a = ii ∧ b = jj
          · rw [if_pos y, y.1, y.2]
            unfold gEnt
            rw [if_neg (by omega), if_pos hjn, emk]
          · rw [if_neg y]
            exact ent7 a b (by omega)
      · rintro σ1 F7 H7 s7 ⟨o5, rows7, rfl, s07, s27, g7, f7, h7, hm7, Rr7, ent7⟩
        rw [rng_len] at ent7
        exact x_nil s7 ⟨s07, some (.int (ii : Nat)), o5, rows7, rfl, s27, g7, f7, h7, hm7, Rr7, fun a b h1 h2 => ent7 a b (by omega)⟩
    · rintro σ1 F3 H3 s3 ⟨o4, o5, rows, rfl, s23, g3, f3, h3, hm3, Rr, ent⟩
      rw [rng_len] at ent
      have e : rows = gramM marks n := rect_ext Rr (gram_rect marks n) fun i k h1 h2 => by rw [ent i k (by omega) (by omega), gram_at marks n i k h1 h2]
      subst e
      obtain ⟨F4, g4, s4, p4⟩ := HM.pub g3 hm3 pn' h3 f3 nl dn
      show Sx (cxD P w K mg base ["marks", "size", "rows", "_", "i", "j"] d_gram_of_marks cdv A outer s H E) _ _ F4 H3 _
      exact x_ret (P := pM (gramM marks n)) (ev_v 2 rfl p4) (fun v F5 H5 g5 p5 => ⟨g4.trans g5, p5⟩) g4.s

end
end K24
set_option Elab.async false
set_option linter.all false
set_option maxRecDepth 100000
set_option maxHeartbeats 4000000
set_option autoImplicit false
namespace K24
open PySem PySem.Spec PyProof.Rows L2
open PySem.W (Datum DatumOrd Holds HoldAll Tup)
section
variable {P : Program} {w : World} {K : PySem.W.Frag} {mg : Str → Option Value} {base : Heap}


def FormIs (m : Mx) (n : Nat) (g : Mx) : Prop := ∃ out, LevelsIs m n out ∧ (∀ (i : Nat) (z : Lv), out[i]? = some z → z.1.length = i + 1) ∧ g = gramM (out.map (·.1)) n ∧ LatOk g n
def c_form (KK : PySem.W.Frag) : Con := fun vs F R => ∃ (a : V) (m : Mx) (n : Nat) (g : Mx), vs = [a] ∧ pLa KK m a F ∧ FormIs m n g ∧ R = pLa KK g

theorem sc_form : FnScope ["lattice", "mark", "_"] ["lattice"] d_form.scope := ⟨rfl, rfl, rfl, by decide +kernel, rfl, by decide +kernel, by decide +kernel⟩
theorem ok_form (T : Tx K mg) : FnD P w K mg base 12 "form" (spP (c_form K)) :=
  mk_fn T (d := d_form) 33 33 rfl rfl rfl rfl rfl sc_form (fun _ _ _ _ _ _ us hl => match us, hl with | [_], _ => rfl) (fun vs F P h => by obtain ⟨_, _, _, _, e, _⟩ := h; rw [e]; rfl) fun cdv A outer s H E hr vs F R sm hc => by
    obtain ⟨a, m, n, g, rfl, ha, ⟨out, L, hl, rfl, ok⟩, rfl⟩ := hc
    refine x_ret (ev_mkL (n := n) T (by exact hr.mono (by omega)) (ev_call (P := pM (gramM (out.map (·.1)) n)) (Ps := pCons (pL pTI (out.map (·.1))) pNil) (ok_gram_of_marks T) (by exact hr.mono (by omega)) (ea_one (EvN.ev (en_lcP (own := [("mark", 1), ("_", 2)]) (i := 1) (j := 2) (pr := pTI) (pq := pTTT) (f := pTI) (xs := out) (fun z : Lv => z.1) (wk_T (f := fLv) (ev_levels (ok_levels T) (by exact hr) (ev_v 0 rfl ha) L))
      (by rw [L.len, sizeLine_eq]; have := L.2.2.1; omega) rfl sc_form.nd (blkOk_by (N := ["lattice", "mark", "_"]) (sc := d_form.scope) (by decide +kernel)) (fun _ _ => rfl) (fun z z2 hm v w F1 H1 g pv pw s H' C cl fp => ev_v 1 rfl pv)
      (fun _ _ _ _ _ => pg_tup rfl (pgs_cons (pg_name (i := 1) sc_form.nd rfl (.inl rfl)) (pgs_cons (pg_name (i := 2) sc_form.nd rfl (.inl rfl)) pgs_nil)))))) (fun vs F1 sF ⟨a1, _, e1, b1, e3⟩ => by
        cases e3
        subst e1
        exact ⟨a1, _, n, rfl, b1, by rw [List.length_map, L.len], L.2.2.1, fun i r hi => by
          rw [List.getElem?_map] at hi
          cases q : out[i]? with
          | none => rw [q] at hi; cases hi
          | some z => rw [q] at hi; cases hi; exact hl i z q, rfl⟩)) ok) (fun v F3 H3 g3 p => ⟨g3, p⟩) sm


theorem ev_form {X : Cx} {e : Expr} {σ : L2.St} {F H : Hp} {p pos : Pos} {m g : Mx} {n k : Nat} (O : FnD X.prog X.w X.K X.mg X.base k "form" (spP (c_form X.K))) (hr : Room k X.A) (ha : Ev X e σ F H (pLa X.K m)) (L : FormIs m n g)
    (hg : Gl X "form" := by rfl) (hs : starEach [e] X.env = (false, eval e X.env) :: starEach [] X.env := by rfl) (hpl : (backTo pos (starEach [] X.env)).any (·.1) = false := by rfl) : Ev X (.Call (.Name "form" p) [e] [] pos) σ F H (pLa X.K g) :=
  ev_call (Ps := pCons (pLa X.K m) pNil) O hr (ea_one ha hs) (fun vs F1 sF ⟨a1, _, e1, b1, e2⟩ => by
    cases e2
    subst e1
    exact ⟨a1, m, n, g, rfl, b1, L, rfl⟩) hg (by decide) hs hpl
theorem ev_bases {X : Cx} {e : Expr} {σ : L2.St} {F H : Hp} {p pos : Pos} {m : Mx} {fs : List Mx} {n k : Nat} (O : FnD X.prog X.w X.K X.mg X.base k "least_bases" (spP (c_least_bases X.K))) (hr : Room k X.A) (ha : Ev X e σ F H (pLa X.K m)) (L : BasesIs m n fs)
    (hg : Gl X "least_bases" := by rfl) (hs : starEach [e] X.env = (false, eval e X.env) :: starEach [] X.env := by rfl) (hpl : (backTo pos (starEach [] X.env)).any (·.1) = false := by rfl) : Ev X (.Call (.Name "least_bases" p) [e] [] pos) σ F H (pT (fun vs => pG X.K vs n) fs) :=
  ev_call (Ps := pCons (pLa X.K m) pNil) O hr (ea_one ha hs) (fun vs F1 sF ⟨a1, _, e1, b1, e2⟩ => by
    cases e2
    subst e1
    exact ⟨a1, m, n, fs, rfl, b1, L, rfl⟩) hg (by decide) hs hpl
def c_alike (KK : PySem.W.Frag) : Con := fun vs F R => ∃ (a b : V) (m1 m2 g1 g2 : Mx) (n : Nat), vs = [a, b] ∧ pLa KK m1 a F ∧ pLa KK m2 b F ∧ m1.length = n ∧ m2.length = n ∧ FormIs m1 n g1 ∧ FormIs m2 n g2 ∧ R = pB (decide (g1 = g2))

theorem sc_alike : FnScope ["a", "b"] ["a", "b"] d_alike.scope := ⟨rfl, rfl, rfl, by decide +kernel, rfl, by decide +kernel, by decide +kernel⟩
theorem ok_alike (T : Tx K mg) : FnD P w K mg base 13 "alike" (spP (c_alike K)) :=
  mk_fn T (d := d_alike) 35 35 rfl rfl rfl rfl rfl sc_alike (fun _ _ _ _ _ _ us hl => match us, hl with | [_, _], _ => rfl) (fun vs F P h => by obtain ⟨_, _, _, _, _, _, _, e, _⟩ := h; rw [e]; rfl) fun cdv A outer s H E hr vs F R sm hc => by
    obtain ⟨a, b, m1, m2, g1, g2, n, rfl, ha, hb, l1, l2, f1, f2, rfl⟩ := hc
    exact x_ret (Ev.is (ev_and (k := true) (Ev.is (ev_eq (ev_rank T (ok_L_rank T) (by exact hr.mono (by omega)) (ev_v 0 rfl ha) l1) (ev_rank T (ok_L_rank T) (by exact hr.mono (by omega)) (ev_v 1 rfl hb) l2)) (by simp)) (fun _ => ev_eqL (ok_L_eq T) (by exact hr.mono (by omega)) (ev_form (ok_form T) (by exact hr) (ev_v 0 rfl ha) f1) (ev_form (ok_form T) (by exact hr) (ev_v 1 rfl hb) f2))) (by rw [Bool.true_and])) (fun v F3 H3 g3 p => ⟨g3, p⟩) sm


def c_order (KK : PySem.W.Frag) : Con := fun vs F R => ∃ (a : V) (m : Mx) (n : Nat) (fs : List Mx), vs = [a] ∧ pLa KK m a F ∧ BasesIs m n fs ∧ R = pI (fs.length : Nat)

theorem sc_order : FnScope ["a"] ["a"] d_order.scope := ⟨rfl, rfl, rfl, by decide +kernel, rfl, by decide +kernel, by decide +kernel⟩
theorem ok_order (T : Tx K mg) : FnD P w K mg base 13 "order" (spP (c_order K)) :=
  mk_fn T (d := d_order) 36 36 rfl rfl rfl rfl rfl sc_order (fun _ _ _ _ _ _ us hl => match us, hl with | [_], _ => rfl) (fun vs F P h => by obtain ⟨_, _, _, _, e, _⟩ := h; rw [e]; rfl) fun cdv A outer s H E hr vs F R sm hc => by
    obtain ⟨a, m, n, fs, rfl, ha, L, rfl⟩ := hc
    exact x_ret (ev_lenT T.n_len (ev_bases (ok_least_bases T) (by exact hr) (ev_v 0 rfl ha) L)) (fun v F3 H3 g3 p => ⟨g3, p⟩) sm


/-- what all_maps gives -/
structure MapsIs (m1 m2 : Mx) (n : Nat) (out : List Mx) : Prop where
  l1 : m1.length = n
  l2 : m2.length = n
  f : ∃ g1 g2, FormIs m1 n g1 ∧ FormIs m2 n g2 ∧ (g1 ≠ g2 → out = []) ∧ (g1 = g2 → ∃ (A B : List Mx) (a0 : Mx) (D : Int) (dd : Int → Int → Int), BasesIs m1 n A ∧ BasesIs m2 n B ∧ A[0]? = some a0 ∧ n ≤ 10 ∧ 1 ≤ n ∧ Bare n 0 a0 1 1 D ∧ D.natAbs = 1 ∧ (∀ i k : Nat, i < n → k < n → Bare (n - 1) 0 (minorL a0 k i) 1 1 (dd i k)) ∧
    (∀ r ∈ scaleM D (adjM n dd), ∀ x ∈ r, x.natAbs < 2 ^ 64) ∧ (B.map fun X => mulM (scaleM D (adjM n dd)) X n).Nodup ∧ out = (B.map fun X => mulM (scaleM D (adjM n dd)) X n).mergeSort leTT)
def c_all_maps (KK : PySem.W.Frag) : Con := fun vs F R => ∃ (a b : V) (m1 m2 : Mx) (n : Nat) (out : List Mx), vs = [a, b] ∧ pLa KK m1 a F ∧ pLa KK m2 b F ∧ MapsIs m1 m2 n out ∧ R = pT (fun r => pG KK r n) out
theorem x_setRowKey {X : Cx} {o ie e : Expr} {rest : List Stmt} {σ : L2.St} {F H : Hp} {G : GE} {pos p : Pos} {d c : Addr} {es : List Ent} {rs : Mx} (hu : X.A.units + 9 < cLine) (he : Ev X e σ F H (pIs (.ref c))) (ho : ∀ F1 H1, Gw F H F1 H1 → Ev X o σ F1 H1 (pIs (.ref d))) (hi : ∀ F1 H1, Gw F H F1 H1 → Ev X ie σ F1 H1 (pTT rs))
    (hd : H d = some (DN X.prog X.w d es)) (fd : F d = none) (hk : KeysOk F es) (hn : rs ∉ es.map (·.1)) (hz : es.length < sizeLine)
    (k : ∀ F1 H1 b, Gw F H F1 H1 → pTT rs (.ref b) F1 → Sx X rest σ F1 (upd H1 d (DN X.prog X.w d (es ++ [(rs, b, c)]))) G) (s : Same F H)
    (ha : ∀ v, assign (.Subscript o ie p) X.env v = (do
      let ov ← holding [v] (eval o X.env)
      let iv ← holding [v, ov] (eval ie X.env)
      standAt p
      holding [v, ov, iv] (setItem ov iv v)
      release [v, ov, iv] []) := by intro _; rfl) (hs : swapsWithSole [.Subscript o ie p] e pos.line X.env = pure false := by rfl) (hw : swappedStores [.Subscript o ie p] e X.env = pure none := by rfl)
    (h1 : (assignEach [.Subscript o ie p] X.env).map (·.2) = [assign (.Subscript o ie p) X.env] := by rfl) : Sx X (.Assign [.Subscript o ie p] e pos :: rest) σ F H G :=
  wss (pss_cons (ps_asg pe_w (pg_sub pe_w pe_w (set_R hu) ha) hs hw h1) pss_w) (he F H (Gw.refl s) _ fun v F1 H1 g1 pv => ho F1 H1 g1 F1 H1 (Gw.refl g1.s) _ fun w F2 H2 g2 pw => hi F2 H2 (g1.trans g2) F2 H2 (Gw.refl g2.s) _ fun u F3 H3 g3 pu => by
    cases pv
    cases pw
    have g13 := g1.trans (g2.trans g3)
    have e3 := g13.own hd fd
    obtain ⟨bb, vs, eb, hF, rr⟩ := id pu
    subst eb
    exact ⟨F3, d, es, rs, bb, c, rfl, rfl, rfl, g3.s, e3.1, hk.up g13.f, pu, hn, hz, k F3 H3 bb g13 pu⟩)
theorem en_sortR {X : Cx} {e : Expr} {σ : L2.St} {F H : Hp} {p pos : Pos} {d : Addr} {es : List Ent} (hc : X.calm = true) (hu : X.A.units + 60 < cLine) (hm : X.mg "sorted" = none) (ho : ∀ F H, Ev X e σ F H (pIs (.ref d))) (hd : H d = some (DN X.prog X.w d es)) (fd : F d = none) (hk : KeysOk F es) (hne : ∀ e ∈ es, e.1 ≠ [])
    (hg : Gl X "sorted" := by rfl) (hs : starEach [e] X.env = (false, eval e X.env) :: starEach [] X.env := by rfl) (hpl : (backTo pos (starEach [] X.env)).any (·.1) = false := by rfl) : EvN X (.Call (.Name "sorted" p) [e] [] pos) σ F H pTT ((es.map (·.1)).mergeSort leTT) := fun F4 H4 g4 Q q =>
  we (pe_callB (cr_sortR hc hu) hg hm (by decide +kernel) pa_w (by decide) (by decide) hs hpl) (ea_run (ea_one (ho F4 H4) hs) g4.s fun vs F5 H5 g5 ⟨x, _, e1, px, e2⟩ => by
    cases e2
    cases px
    subst e1
    have o5 := (g4.trans g5).own hd fd
    exact ⟨F5, d, es, rfl, g5.s, o5.1, hk.up (g4.trans g5).f, hne, fun ws p r hp => q p ws F5 _ (g5.trans (Gw.prv g5.s hp)) (g5.new hp) (g5.s.free hp) upd_same r⟩)
theorem dn_set {F H F1 H1 : Hp} {d : Addr} {ob : HO} (g : Gw F H F1 H1) (hd : H d = none) (fd : F1 d = none) : Gw F H F1 (upd H1 d ob) := g.mut hd fd

theorem sc_all_maps : FnScope ["a", "b", "back", "found", "basis", "m", "rows"] ["a", "b"] d_all_maps.scope := ⟨rfl, rfl, rfl, by decide +kernel, rfl, by decide +kernel, by decide +kernel⟩
theorem ok_all_maps (T : Tx K mg) : FnD P w K mg base 13 "all_maps" (spP (c_all_maps K)) :=
  mk_fn T (d := d_all_maps) 34 34 rfl rfl rfl rfl rfl sc_all_maps (fun _ _ _ _ _ _ us hl => match us, hl with | [_, _], _ => rfl) (fun vs F P h => by obtain ⟨_, _, _, _, _, _, e, _⟩ := h; rw [e]; rfl) fun cdv A outer s H E hr vs F R sm hc => by
    obtain ⟨a, b, m1, m2, n, out, rfl, ha, hb, ⟨l1, l2, g1, g2, f1, f2, hne, heq⟩, rfl⟩ := hc
    refine x_when (k := !decide (g1 = g2)) (EvT.is (evt_or (k := false) (l := !decide (g1 = g2)) (EvT.is (evt_ne (ev_rank T (ok_L_rank T) (by exact hr.mono (by omega)) (ev_v 0 rfl ha) l1) (ev_rank T (ok_L_rank T) (by exact hr.mono (by omega)) (ev_v 1 rfl hb) l2)) (by simp)) (fun _ => evt_neL T (ok_L_eq T) (by exact hr.mono (by omega)) (ev_form (ok_form T) (by exact hr) (ev_v 0 rfl ha) f1) (ev_form (ok_form T) (by exact hr) (ev_v 1 rfl hb) f2))) (by rw [Bool.false_or])) (fun hb1 F1 H1 q1 => ?_) (fun hb1 F1 H1 q1 => ?_) sm
    · have e : out = [] := hne (by simpa using hb1)
      subst e
      exact x_ret (ev_tup0 (f := fun r => pG K r n)) (fun v F2 H2 q2 p2 => ⟨q1.trans q2, p2⟩) q1.s
    · obtain ⟨AA, BB, a0, D, dd, bA, bB, hA0, n10, n1, bare, d1, bdd, bbk, nd, eout⟩ := heq (by simpa using hb1)
      have RA : Rect a0 n n := by
        obtain ⟨_, _, _, _, _, h⟩ := bA
        exact h a0 (List.mem_of_getElem? hA0)
      have RB : ∀ X ∈ BB, Rect X n n := by
        obtain ⟨_, _, _, _, _, h⟩ := bB
        exact h
      have lB : BB.length ≤ 1000000 := by
        obtain ⟨_, _, _, _, h, _⟩ := bB
        exact h
      have Rbk : Rect (scaleM D (adjM n dd)) n n := scale_rect (adj_rect n dd)
      generalize ebk : scaleM D (adjM n dd) = bk at *
      have ha1 := Mn.mono _ _ _ q1.f ha
      refine x_set 2 (P := pG K bk n) (ev_meth0 T.clG (ok_G_inverse T) (by exact hr.mono (by omega)) (ev_ixT (f := fun vs => pG K vs n) (ev_bases (ok_least_bases T) (by exact hr) (ev_v 0 rfl ha1) bA) ev_int (atI_nat (j := 0) hA0)) (fun v F1 h => insG h (by decide)) (fun v F1 s q => ⟨v, a0, n, D, dd, rfl, q, RA, by omega, bare, d1, bdd, by show pG K bk n = pG K (scaleM D (adjM n dd)) n; rw [ebk]⟩)) (fun vb F2 H2 q2 p2 => ?_) q1.s sc_all_maps.nd
      refine x_setW 3 (we_dnew fun dct nd0 => ?_) sc_all_maps.nd
      have fd0 : F2 dct = none := q2.s.free nd0
      have g2' : Gw F H F2 (upd H2 dct (DN (cxD P w K mg base ["a", "b", "back", "found", "basis", "m", "rows"] d_all_maps cdv A outer s H E).prog (cxD P w K mg base ["a", "b", "back", "found", "basis", "m", "rows"] d_all_maps cdv A outer s H E).w dct [])) := (q1.trans q2).trans (Gw.prv q2.s nd0)
      have nd1 : H dct = none := (q1.trans q2).new nd0
      refine ⟨F2, g2'.s, ?_⟩
      have hb2 := Mn.mono _ _ _ (q1.f.trans q2.f) hb
      let S : Option V → Option V → L2.St := fun o4 o5 => [some a, some b, some vb, some (.ref dct), o4, o5, none]
      have okent : ∀ {F : Hp} {es : List Ent}, True := trivial
      refine x_forN (i := 4) (xs := BB) (pr := fun vs => pG K vs n) (fun i σ1 F3 H3 => ∃ o4 o5 es, σ1 = S o4 o5 ∧ Same F2 F3 ∧ Gw F H F3 H3 ∧ F3 dct = none ∧ H3 dct = some (DN P w dct es) ∧ KeysOk F3 es ∧ es.map (·.1) = (BB.take i).map (fun X => mulM bk X n) ∧ ∀ e ∈ es, pG K e.1 n (.ref e.2.2) F3)
        (wk_T (f := fun vs => pG K vs n) (ev_bases (ok_least_bases T) (by exact hr) (ev_v 1 rfl hb2) bB)) (fun F3 H3 q3 => ⟨none, none, [], rfl, q3.f, g2'.trans q3, (q3.own upd_same fd0).2, (q3.own upd_same fd0).1, (fun e he => by cases he), rfl, (fun e he => by cases he)⟩) ?_ ?_ g2'.s PassesOwn.never rfl sc_all_maps.nd
      · rintro F0 ii z σ1 F3 H3 hz s0' s3 ⟨o4, o5, es, rfl, s23, g3, f3, h3, ks, ek, vals⟩ v F4 H4 g4 pv
        have o4' := g4.own h3 f3
        have hzm := List.mem_of_getElem? hz
        refine x_set 5 (P := pG K (mulM bk z n) n) (ev_own2 (nm := "__mul__") (m := bk) (n := z) (u := n) (t := n) rfl T (ok_G_mul T) (by exact hr.mono (by omega)) (ev_v 2 rfl (Mn.mono _ _ _ (s23.trans g4.f) p2)) (ev_v 4 rfl pv) (fun x y F1 hx hy => ⟨x, y, bk, z, n, n, n, rfl, hx, hy, Rbk, RB z hzm, by omega, by omega, by omega, bbk, rfl⟩)) (fun vm F5 H5 g5 p5 => ?_) g4.s sc_all_maps.nd
        have o5' := g5.own o4'.1 o4'.2
        obtain ⟨cm, dx, fs, rfl, hcm, hfs⟩ := id p5
        have hnew : mulM bk z n ∉ es.map (·.1) := by
          rw [ek]
          intro hmem
          obtain ⟨y, hy, e⟩ := List.mem_map.mp hmem
          obtain ⟨jj, hjj⟩ := List.getElem?_of_mem hy
          rw [List.getElem?_take] at hjj
          split at hjj
          · rename_i hlt
            obtain ⟨lz, ez⟩ := List.getElem?_eq_some_iff.mp hz
            obtain ⟨lj, ej⟩ := List.getElem?_eq_some_iff.mp hjj
            have := (List.getElem_inj (i := jj) (j := ii) (h₀ := by rw [List.length_map]; exact lj) (h₁ := by rw [List.length_map]; exact lz) nd).mp (by rw [List.getElem_map, List.getElem_map, ej, ez]; exact e)
            omega
          · cases hjj
        have les : es.length < sizeLine := by
          have : es.length = (BB.take ii).length := by rw [← List.length_map (f := fun e : Ent => e.1), ek, List.length_map]
          rw [this, sizeLine_eq]
          have := List.length_take_le' ii BB
          omega
        refine x_setRowKey (d := dct) (c := cm) (es := es) (rs := mulM bk z n) (by exact roomD hr (by decide)) (ev_v 5 rfl rfl) (fun F6 H6 g6 => ev_v 3 rfl rfl) (fun F6 H6 g6 => ev_rows T (ev_v 5 rfl (Mn.mono _ _ _ g6.f p5))) o5'.1 o5'.2 (ks.up (g4.f.trans g5.f)) hnew les (fun F6 H6 bb g6 pb => ?_) g5.s
        have o6' := g6.own o5'.1 o5'.2
        have gg := ((g3.trans g4).trans (g5.trans g6)).mut (o := DN P w dct (es ++ [(mulM bk z n, bb, cm)])) nd1 o6'.2
        have sf := g4.f.trans (g5.f.trans g6.f)
        refine x_nil gg.s ⟨s0'.trans sf, some v, _, es ++ [(mulM bk z n, bb, cm)], rfl, s23.trans sf, gg, o6'.2, upd_same, fun e he => ?_, ?_, fun e he => ?_⟩
        · rcases List.mem_append.mp he with he | he
          · exact ks.up sf e he
          · simp at he
            rw [he]
            exact pb
        · rw [List.map_append, ek, List.take_add_one, hz, List.map_append]
          rfl
        · rcases List.mem_append.mp he with he | he
          · exact Mn.mono _ _ _ sf (vals e he)
          · simp at he
            rw [he]
            exact Mn.mono _ _ _ g6.f p5
      · rintro σ1 F3 H3 s3 ⟨o4, o5, es, rfl, s23, g3, f3, h3, ks, ek, vals⟩
        rw [List.take_length] at ek
        have hnee : ∀ e ∈ es, e.1 ≠ [] := fun e he hh => by
          have : e.1 ∈ BB.map (fun X => mulM bk X n) := by rw [← ek]; exact List.mem_map.mpr ⟨e, he, rfl⟩
          obtain ⟨X, hX, e2⟩ := List.mem_map.mp this
          have := (mul_rect Rbk (RB X hX)).h
          rw [e2, hh] at this
          simp at this
          omega
        rw [eout, ← ek]
        refine x_ret (ev_tupL T.n_tuple (Ev.is (EvN.ev (en_lc (own := [("rows", 6)]) (i := 6) (f := fun r => pG K r n) (xs := (es.map (·.1)).mergeSort leTT) (fun r : Mx => r) (wk_L (f := pTT) (EvN.ev (en_sortR rfl (by exact roomD hr (by decide)) T.n_sorted (fun _ _ => ev_v 3 rfl rfl) h3 f3 ks hnee)))
          (by rw [List.length_mergeSort, ek, List.length_map, sizeLine_eq]; omega) rfl sc_all_maps.nd (blkOk_by (N := ["a", "b", "back", "found", "basis", "m", "rows"]) (sc := d_all_maps.scope) (by decide +kernel)) (fun _ => rfl)
          (fun r hrm v F4 H4 g4 pv s H' C cl fp => by
            obtain ⟨e, he, er⟩ := List.mem_map.mp (List.mem_mergeSort.mp hrm)
            subst er
            intro F5 H5 g5 Q q
            refine we (pe_ix (ix_R (by exact roomD hr (by decide))) pe_w pe_w (by intro _ _; rfl)) ((ev_v 3 (P := pIs (.ref dct)) (F := F5) (H := H5) rfl rfl) F5 H5 (Gw.refl g5.s) _ fun x F6 H6 g6 px => (ev_v 6 (P := pTT e.1) (F := F6) (H := H6) rfl (Mn.mono _ _ _ (g5.f.trans g6.f) pv)) F6 H6 (Gw.refl g6.s) _ fun y F7 H7 g7 py => ?_)
            cases px
            obtain ⟨bb, ws, eb, hF, rr⟩ := id py
            subst eb
            have g47 := g4.trans (g5.trans (g6.trans g7))
            have o7 := g47.own h3 f3
            exact ⟨F7, dct, es, e.1, bb, e.2.1, e.2.2, rfl, rfl, g7.s, o7.1, ks.up g47.f, py, he, q _ F7 H7 (g6.trans g7) (Mn.mono _ _ _ g47.f (vals e he))⟩)
          (fun _ _ _ _ _ => pg_name (i := 6) sc_all_maps.nd rfl (.inl rfl)))) (by rw [List.map_id']))) (fun v F4 H4 g4 p4 => ⟨g3.trans g4, p4⟩) s3

end
end K24
set_option Elab.async false
set_option linter.all false
set_option maxRecDepth 100000
set_option maxHeartbeats 4000000
set_option autoImplicit false
namespace K24
open PySem PySem.Spec PyProof.Rows L2
open PySem.W (Datum DatumOrd Holds HoldAll Tup)
section
variable {P : Program} {w : World} {K : PySem.W.Frag} {mg : Str → Option Value} {base : Heap}


/-! ### the script and the state -/
def pScr (KK : PySem.W.Frag) (ns : List Int) : Pr := fun v F => ∃ a, v = .ref a ∧ SqL KK F a (ns.map V.int)
instance {KK : PySem.W.Frag} {ns : List Int} : Mn (pScr KK ns) := ⟨fun v F F' s ⟨a, e, h⟩ => ⟨a, e, by
  rcases h with (h | ⟨ob, h⟩) | h
  · exact .inl (.inl (s _ _ h))
  · exact .inl (.inr ⟨ob, s _ _ h⟩)
  · exact .inr h⟩⟩
theorem en_uptoS {X : Cx} {a b : Expr} {σ : L2.St} {F H : Hp} {pos : Pos} {ns : List Int} {k : Nat} (ha : Ev X a σ F H (pScr X.K ns)) (hb : Ev X b σ F H (pI (k : Int))) {p2 : Pos} : EvN X (.Subscript a (.Slice none (some b) none p2) pos) σ F H pI (ns.take k) := fun F1 H1 g1 Q q =>
  we (pe_slice sl_list pe_w po_none (po_some pe_w)) (ha F1 H1 g1 _ fun v F2 H2 g2 p => hb F2 H2 (g1.trans g2) _ fun w F3 H3 g3 pw => by
    obtain ⟨l, rfl, hl⟩ := Mn.mono _ _ _ g3.s (Mn.mono _ _ _ g3.f p)
    refine ⟨(k : Int), pw, l, ns.map V.int, rfl, hl, fun p hp => q p _ F3 _ ((g2.trans g3).trans (Gw.prv g3.s hp)) ((g2.trans g3).new hp) (g3.s.free hp) upd_same ?_⟩
    have := cutV_all (F := F3) (allP_ints (r := ns)) none (some (k : Int))
    rw [HT.sIx_nat, HT.sIx_none, List.drop_zero, Nat.sub_zero] at this
    rwa [← List.take_eq_take_min] at this)
def stOk (l : Addr) (h : Heap) : Prop := ∃ (a b : Int) (t u : Tok) (n : Nat), h.get? l = some { cls := .type "list", data := .seq #[.int a t, .int b u] n }
def ST (l : Addr) : HO := .ext (stOk l)
def pSt : Pr := fun v F => ∃ l, v = .ref l ∧ F l = some (ST l)
instance : Mn pSt := ⟨fun v F F' s ⟨l, e, h⟩ => ⟨l, e, s _ _ h⟩⟩
section
variable {X : Cx} {pins : List (Addr × Obj)} {σ : L2.St} {H : Hp} {s : Shared} {l : Addr}
theorem st_open (I : Inv X pins σ H s) (h : H l = some (ST l)) : ∃ a b : Int, Inv X pins σ (upd H l (.lst [.int a, .int b])) s := by
  obtain ⟨⟨a, b, t, u, n, e⟩, _, _⟩ := (show ObjOk X.prog X.w H s.heap l (ST l) from I.hok l _ h)
  exact ⟨a, b, I.write (x := l) (e := l) (h' := s.heap) (t' := s.toks) (by rw [h]; trivial) (.inl rfl) (fun _ _ _ q => q) ⟨_, e⟩ ⟨(by show 2 ≤ sizeLine; decide), [.int a t, .int b u], n, .cons ⟨t, rfl⟩ (.cons ⟨u, rfl⟩ .nil), e⟩⟩
theorem st_close {a b : Int} (I : Inv X pins σ H s) (h : H l = some (.lst [.int a, .int b])) : Inv X pins σ (upd H l (ST l)) s := by
  obtain ⟨_, its, n, rv, e⟩ := (show ObjOk X.prog X.w H s.heap l (.lst [.int a, .int b]) from I.hok l _ h)
  obtain ⟨u1, u2, rfl, ⟨t, rfl⟩, ⟨u, rfl⟩⟩ := vals2 rv
  exact I.write (x := l) (e := l) (h' := s.heap) (t' := s.toks) (by rw [h]; trivial) (.inl rfl) (fun _ _ _ q => q) ⟨_, e⟩ ⟨⟨a, b, t, u, n, e⟩, ⟨_, e⟩, fun h1 h2 ⟨a, b, t, u, n, e⟩ k => ⟨a, b, t, u, n, k _ e⟩⟩
theorem wss_open {st : List Stmt} {D : Ends} (h : H l = some (ST l)) (k : ∀ a b : Int, WSs X st D σ (upd H l (.lst [.int a, .int b]))) : WSs X st D σ H := fun pins s I =>
  let ⟨a, b, I'⟩ := st_open I h; k a b pins s I'
theorem wss_close {st : List Stmt} {Q : VK} (h : WSs X st { nx := fun _ _ => False, rt := fun v H' => ∃ (l : Addr) (a b : Int), H' l = some (.lst [.int a, .int b]) ∧ Q v (upd H' l (ST l)) } σ H) : WSs X st { nx := fun _ H' => Q .non H', rt := Q } σ H := fun pins s I =>
  thn (h pins s I) fun fl s' q => by
    cases fl with
    | next => obtain ⟨σ', H', I', q⟩ := q; exact q.elim
    | brk => obtain ⟨σ', H', I', q⟩ := q; exact q.elim
    | cont => obtain ⟨σ', H', I', q⟩ := q; exact q.elim
    | ret u =>
      obtain ⟨v, σ', H', I', r, l, a, b, e, q⟩ := q
      exact ⟨v, σ', _, st_close I' e, r, q⟩
end
theorem gw_st {F H F' H' : Hp} {l : Addr} (g : Gw F H F' H') (n : H l = none) (f : F' l = none) : Gw F H (upd F' l (ST l)) (upd H' l (ST l)) := by
  refine ⟨g.f.trans (same_new f), fun b u q => ?_, fun b u q => ?_, fun a ha => ?_⟩
  · rw [upd_ne (ne_of_none q n)]
    exact g.h b u q
  · by_cases z : b = l
    · subst z
      rw [upd_same] at q ⊢
      exact q
    · rw [upd_ne z] at q ⊢
      exact g.s b u q
  · rw [upd_ne fun z => ha (by rw [z]; exact n)]
    exact g.n a ha
def c_law_state (KK : PySem.W.Frag) : Con := fun vs F R => ∃ (a : V) (ns : List Int), vs = [a] ∧ pScr KK ns a F ∧ ns.length ≤ 63 ∧ R = pSt
def sp_law_state (KK : PySem.W.Frag) : Sp := spP (c_law_state KK)
def pTk (m : Int) : Pr := fun v _ => ∃ r : Int, v = .int r ∧ 0 ≤ r ∧ r < m
instance {m : Int} : Mn (pTk m) := ⟨fun _ _ _ _ h => h⟩
def c_law_take : Con := fun vs F R => ∃ (a : V) (m : Int), vs = [a, .int m] ∧ pSt a F ∧ 1 ≤ m ∧ m < 2 ^ 63 ∧ R = pTk m
def sp_law_take : Sp := spP c_law_take

theorem sc_law_state : FnScope ["_law_script", "_law_seed", "_law_total", "_law_cell"] ["_law_script"] d_law_state.scope := ⟨rfl, rfl, rfl, by decide +kernel, rfl, by decide +kernel, by decide +kernel⟩
theorem ok_law_state (T : Tx K mg) : FnD P w K mg base 1 "_law_state" (sp_law_state K) :=
  mk_fnS T (d := d_law_state) 37 37 rfl rfl rfl rfl rfl sc_law_state (fun _ _ _ _ _ _ us hl => match us, hl with | [_], _ => rfl) (fun vs H Q E h => by obtain ⟨_, _, _, ⟨_, _, e, _⟩, _⟩ := h; rw [e]; rfl) fun cdv A outer s H E hr vs Q hc => by
    obtain ⟨F, R, sm, ⟨a, ns, rfl, ha, hl, rfl⟩, q⟩ := hc
    refine wss_close ?_
    have X1 : Sx (cxD P w K mg base ["_law_script", "_law_seed", "_law_total", "_law_cell"] d_law_state cdv A outer s H E) d_law_state.body (start ["_law_script", "_law_seed", "_law_total", "_law_cell"] [a]) F H { nx := fun _ _ _ => False, rt := fun v F' H' => ∃ (l : Addr) (x y : Int), v = .ref l ∧ Gw F H F' H' ∧ H l = none ∧ F' l = none ∧ H' l = some (.lst [.int x, .int y]) } := ?_
    · exact WSs.imp X1 (fun _ _ ⟨_, _, h⟩ => h.elim) (fun v H' ⟨F', _, l, x, y, e, g, n, f, hh⟩ => ⟨l, x, y, hh, q v _ _ (gw_st g n f) ⟨l, e, upd_same⟩⟩) (fun _ _ ⟨_, _, h⟩ => h.elim) (fun _ _ ⟨_, _, h⟩ => h.elim)
    refine x_set 1 (P := pI 0) ev_int (fun v F1 H1 g1 p1 => ?_) sm sc_law_state.nd
    cases p1
    refine x_set 2 (P := pI 1) ev_int (fun v F2 H2 g2 p2 => ?_) g1.s sc_law_state.nd
    cases p2
    have ha2 := Mn.mono _ _ _ (g1.f.trans g2.f) ha
    refine x_forN (i := 3) (xs := ns.take 63) (pr := pI) (fun n σ1 F3 H3 => ∃ (x y : Int) (o3 : Option V), σ1 = [some a, some (.int x), some (.int y), o3] ∧ Gw F H F3 H3) (wk_L (EvN.ev (en_uptoS (k := 63) (ev_v 0 rfl ha2) ev_int))) (fun F3 H3 g3 => ⟨0, 1, none, rfl, g1.trans (g2.trans g3)⟩) ?_ ?_ g2.s PassesOwn.never rfl sc_law_state.nd
    · rintro F0 n c σ1 F3 H3 hc s0' s3 ⟨x, y, o3, rfl, g3⟩ v F4 H4 g4 pv
      refine x_set 1 (P := pI (x * 1000003 + (c.natAbs : Int))) (ev_add (ev_mul (ev_v 1 rfl rfl) ev_int (CMul.r (by decide))) (ev_abs T.n_abs (ev_v 3 rfl pv))) (fun v5 F5 H5 g5 p5 => ?_) g4.s sc_law_state.nd
      cases p5
      refine x_set 2 (P := pI ((y * 48271 + c).fmod 2147483647)) (ev_mod (ev_int1 T.n_int (ev_add (ev_mul (ev_v 2 rfl rfl) ev_int (CMul.r (by decide))) (ev_v 3 rfl pv))) ev_int (by decide)) (fun v6 F6 H6 g6 p6 => ?_) g5.s sc_law_state.nd
      cases p6
      exact x_nil g6.s ⟨s0'.trans (g4.f.trans (g5.f.trans g6.f)), _, _, some v, rfl, g3.trans (g4.trans (g5.trans g6))⟩
    · rintro σ1 F3 H3 s3 ⟨x, y, o3, rfl, g3⟩
      refine x_retN (en_lst2 (f := pI) (x := x) (y := y) (ev_v 1 rfl rfl) (ev_v 2 rfl rfl)) (fun l vs F4 H4 g4 n1 n2 e r => ?_) s3
      have ev := r.ints
      subst ev
      exact ⟨l, x, y, rfl, g3.trans g4, g3.new n1, n2, e⟩

theorem sc_law_take : FnScope ["_law_state_here", "_law_m", "_law_value"] ["_law_state_here", "_law_m"] d_law_take.scope := ⟨rfl, rfl, rfl, by decide +kernel, rfl, by decide +kernel, by decide +kernel⟩
theorem ok_law_take (T : Tx K mg) : FnD P w K mg base 1 "_law_take" sp_law_take :=
  mk_fnS T (d := d_law_take) 38 38 rfl rfl rfl rfl rfl sc_law_take (fun _ _ _ _ _ _ us hl => match us, hl with | [_, _], _ => rfl) (fun vs H Q E h => by obtain ⟨_, _, _, ⟨_, _, e, _⟩, _⟩ := h; rw [e]; rfl) fun cdv A outer s H E hr vs Q hc => by
    obtain ⟨F, R, sm, ⟨_, m, rfl, ⟨l, rfl, hF⟩, h1, h2, rfl⟩, q⟩ := hc
    have hl := sm _ _ hF
    refine wss_open hl fun a b => wss_close ?_
    have sm1 : Same (rm F l) (upd H l (.lst [.int a, .int b])) := fun c u e => by
      have z : c ≠ l := fun z => by rw [z, rm_at] at e; cases e
      rw [upd_ne z]
      rw [rm_ne z] at e
      exact sm c u e
    have X1 : Sx (cxD P w K mg base ["_law_state_here", "_law_m", "_law_value"] d_law_take cdv A outer s H E) d_law_take.body (start ["_law_state_here", "_law_m", "_law_value"] [.ref l, .int m]) (rm F l) (upd H l (.lst [.int a, .int b])) { nx := fun _ _ _ => False, rt := fun v F' H' => ∃ (x y : Int), Gm [l] (rm F l) (upd H l (.lst [.int a, .int b])) F' H' ∧ F' l = none ∧ H' l = some (.lst [.int x, .int y]) ∧ pTk m v F' } := ?_
    · refine WSs.imp X1 (fun _ _ ⟨_, _, h⟩ => h.elim) (fun v H' ⟨F', _, x, y, g, f, hh, p⟩ => ⟨l, x, y, hh, q v (upd F' l (ST l)) _ ⟨fun c u e => ?_, fun c u e => ?_, fun c u e => ?_, fun c hc => ?_⟩ p⟩) (fun _ _ ⟨_, _, h⟩ => h.elim) (fun _ _ ⟨_, _, h⟩ => h.elim)
      · by_cases z : c = l
        · subst z
          rw [hF] at e
          rw [upd_same]
          exact e
        · rw [upd_ne z]
          exact g.f c u (by rw [rm_ne z]; exact e)
      · by_cases z : c = l
        · subst z
          rw [hl] at e
          rw [upd_same]
          exact e
        · rw [upd_ne z]
          exact g.h c u (by simp [z]) (by rw [upd_ne z]; exact e)
      · by_cases z : c = l
        · subst z
          rw [upd_same] at e ⊢
          exact e
        · rw [upd_ne z] at e ⊢
          exact g.s c u e
      · by_cases z : c = l
        · subst z
          rw [upd_same, hF]
        · rw [upd_ne z, g.n c (by rw [upd_ne z]; exact hc), rm_ne z]
    have ma : m.natAbs < 2 ^ 64 := by omega
    have i0 : atI [V.int a, V.int b] 0 = some (.int a) := atI_nat (j := 0) rfl
    have i1 : atI [V.int a, V.int b] 1 = some (.int b) := atI_nat (j := 1) rfl
    have md : ∀ x : Int, 0 ≤ x.fmod m ∧ x.fmod m < m := fun x => ⟨Int.fmod_nonneg_of_pos x (by omega), Int.fmod_lt_of_pos x (by omega)⟩
    refine x_when (k := decide (0 < a)) (evt_gt (ev_ixO (P := pI a) (ev_v 0 rfl rfl) ev_int upd_same i0 rfl) ev_int) (fun hb F1 H1 g1 => ?_) (fun hb F1 H1 g1 => ?_) sm1
    · have o1 := g1.own (p := l) (o := .lst [.int a, .int b]) upd_same rm_at
      refine x_set 2 (P := pI (a.fmod m)) (ev_mod (ev_int1 T.n_int (ev_ixO (P := pI a) (ev_v 0 rfl rfl) ev_int o1.1 i0 rfl)) (ev_v 1 rfl rfl) (by omega)) (fun v2 F2 H2 g2 p2 => ?_) g1.s sc_law_take.nd
      cases p2
      have o2 := g2.own o1.1 o1.2
      refine x_setI (P := pI (a.fdiv m)) (j := 0) (ev_fdiv (ev_ixO (P := pI a) (ev_v 0 rfl rfl) ev_int o2.1 i0 rfl) (ev_v 1 rfl rfl) (by omega) ma) (ev_v 0 rfl rfl) ev_int o2.1 o2.2 rfl (fun v3 F3 H3 g3 p3 => ?_) g2.s
      cases p3
      have o3 := g3.own o2.1 o2.2
      have gm := ((g1.trans (g2.trans g3)).gm (M := [l])).mut (ob := .lst [.int (a.fdiv m), .int b]) (by simp) o3.2
      refine x_ret (P := pI (a.fmod m)) (ev_v 2 rfl rfl) (fun v4 F4 H4 g4 p4 => ?_) gm.s
      cases p4
      have o4 := g4.own (p := l) (o := .lst [.int (a.fdiv m), .int b]) upd_same o3.2
      exact ⟨_, _, gm.trans g4.gm (fun x hx => by simp at hx; rw [hx]; show upd _ _ _ _ ≠ none; rw [upd_same]; exact fun z => nomatch z), o4.2, o4.1, _, rfl, (md a).1, (md a).2⟩
    · have o1 := g1.own (p := l) (o := .lst [.int a, .int b]) upd_same rm_at
      refine x_setI (P := pI ((b * 48271 + 11).fmod 2147483647)) (j := 1) (ev_mod (ev_int1 T.n_int (ev_add (ev_mul (ev_ixO (P := pI b) (ev_v 0 rfl rfl) ev_int o1.1 i1 rfl) ev_int (CMul.r (by decide))) ev_int)) ev_int (by decide)) (ev_v 0 rfl rfl) ev_int o1.1 o1.2 rfl (fun v3 F3 H3 g3 p3 => ?_) g1.s
      cases p3
      have o3 := g3.own o1.1 o1.2
      have gm := ((g1.trans g3).gm (M := [l])).mut (ob := .lst [.int a, .int ((b * 48271 + 11).fmod 2147483647)]) (by simp) o3.2
      refine x_ret (P := pI ((((b * 48271 + 11).fmod 2147483647).fdiv 7).fmod m)) (ev_mod (ev_int1 T.n_int (ev_fdiv (ev_ixO (P := pI ((b * 48271 + 11).fmod 2147483647)) (ev_v 0 rfl rfl) ev_int upd_same (atI_nat (j := 1) rfl) rfl) ev_int (by decide) (by decide))) (ev_v 1 rfl rfl) (by omega)) (fun v4 F4 H4 g4 p4 => ?_) gm.s
      cases p4
      have o4 := g4.own (p := l) (o := .lst [.int a, .int ((b * 48271 + 11).fmod 2147483647)]) upd_same o3.2
      exact ⟨_, _, gm.trans g4.gm (fun x hx => by simp at hx; rw [hx]; show upd _ _ _ _ ≠ none; rw [upd_same]; exact fun z => nomatch z), o4.2, o4.1, _, rfl, (md _).1, (md _).2⟩

end
end K24
set_option Elab.async false
set_option linter.all false
set_option maxRecDepth 100000
set_option maxHeartbeats 4000000
set_option autoImplicit false
namespace K24
open PySem PySem.Spec PyProof.Rows L2
open PySem.W (Datum DatumOrd Holds HoldAll Tup)
section
variable {P : Program} {w : World} {K : PySem.W.Frag} {mg : Str → Option Value} {base : Heap}


/-! ### values that are not told in full -/
def pE (S : Int → Prop) : Pr := fun v _ => ∃ i : Int, v = .int i ∧ S i
instance {S : Int → Prop} : Mn (pE S) := ⟨fun _ _ _ _ h => h⟩
def EvTE (X : Cx) (e : Expr) (σ : L2.St) (F H : Hp) : Prop := ∀ F1 H1, Gw F H F1 H1 → ∀ Q : Bool → Hp → Prop, (∀ b F2 H2, Gw F1 H1 F2 H2 → Q b H2) → WT X e σ H1 Q
section
variable {X : Cx} {a b c e : Expr} {σ : L2.St} {F H : Hp} {pos p : Pos} {S T U : Int → Prop}
theorem Ev.toE {i : Int} (h : Ev X e σ F H (pI i)) (k : S i) : Ev X e σ F H (pE S) := h.imp fun v F1 s q => ⟨i, q, k⟩
theorem ev_addE (ha : Ev X a σ F H (pE S)) (hb : Ev X b σ F H (pE T)) (h : ∀ i j, S i → T j → U (i + j)) : Ev X (.BinOp a .Add b pos) σ F H (pE U) := ev_op op_add ha hb fun _ _ F1 H1 g ⟨i, e1, s⟩ ⟨j, e2, t⟩ Q q => ⟨i, j, e1, e2, q _ F1 H1 (Gw.refl g.s) ⟨_, rfl, h i j s t⟩⟩
theorem ev_subE (ha : Ev X a σ F H (pE S)) (hb : Ev X b σ F H (pE T)) (h : ∀ i j, S i → T j → U (i - j)) : Ev X (.BinOp a .Sub b pos) σ F H (pE U) := ev_op op_sub ha hb fun _ _ F1 H1 g ⟨i, e1, s⟩ ⟨j, e2, t⟩ Q q => ⟨i, j, e1, e2, q _ F1 H1 (Gw.refl g.s) ⟨_, rfl, h i j s t⟩⟩
theorem ev_int1E (hm : X.mg "int" = none) (ha : Ev X e σ F H (pE S)) (hg : Gl X "int" := by rfl) (hs : starEach [e] X.env = (false, eval e X.env) :: starEach [] X.env := by rfl) : Ev X (.Call (.Name "int" p) [e] [] pos) σ F H (pE S) :=
  ev_T call_int1 hm (by decide +kernel) (ea_one ha hs) (fun vs F1 H1 g ⟨v, _, e1, ⟨i, e2, s⟩, e3⟩ Q q => by
    cases e3
    subst e1 e2
    exact .inl ⟨i, rfl, q _ _ _ (Gw.refl g.s) ⟨i, rfl, s⟩⟩) hg (he := hs)
theorem ev_modE {n : Int} (ha : Ev X a σ F H (pE S)) (hb : Ev X b σ F H (pI n)) (hn : n ≠ 0) (h : ∀ i, S i → U (i.fmod n)) : Ev X (.BinOp a .Mod b pos) σ F H (pE U) := ev_op op_modN ha hb fun _ _ F1 H1 g ⟨i, e1, s⟩ hy Q q => ⟨i, n, e1, hy, hn, q _ F1 H1 (Gw.refl g.s) ⟨_, rfl, h i s⟩⟩
theorem evtE_eq (ha : Ev X a σ F H (pE S)) (hb : Ev X b σ F H (pE T)) : EvTE X (.Compare a [.Eq] [b] pos) σ F H := fun F1 H1 g1 Q q =>
  wt (pt_cmpR op_eq pe_w pe_w (nomark _)) (ha F1 H1 g1 _ fun x F2 H2 g2 ⟨i, e1, _⟩ => hb F2 H2 (g1.trans g2) _ fun y F3 H3 g3 ⟨j, e2, _⟩ => by
    subst e1 e2
    exact ⟨rfl, _, rfl, q _ F3 H3 (g2.trans g3)⟩)
theorem evtE_gt (ha : Ev X a σ F H (pE S)) (hb : Ev X b σ F H (pE T)) : EvTE X (.Compare a [.Gt] [b] pos) σ F H := fun F1 H1 g1 Q q =>
  wt (pt_cmpR op_gt pe_w pe_w (nomark _)) (ha F1 H1 g1 _ fun x F2 H2 g2 ⟨i, e1, _⟩ => hb F2 H2 (g1.trans g2) _ fun y F3 H3 g3 ⟨j, e2, _⟩ => ⟨i, j, e1, e2, _, rfl, q _ F3 H3 (g2.trans g3)⟩)
theorem evtE_and {k : Bool} (ha : EvT X a σ F H k) (hb : k = true → EvTE X b σ F H) : EvTE X (.BoolOp .And [a, b] pos) σ F H := fun F1 H1 g1 Q q =>
  wt (PW.pt (pw_and pt_w (pw_and1 pt_w))) (ha F1 H1 g1 _ fun F2 H2 g2 => by
    cases k with
    | true => exact iteT (hb rfl F2 H2 (g1.trans g2) Q fun b F3 H3 g3 => q b F3 H3 (g2.trans g3))
    | false => exact iteF (q _ F2 H2 g2))
theorem evtE_or {k : Bool} (ha : EvT X a σ F H k) (hb : k = false → EvTE X b σ F H) : EvTE X (.BoolOp .Or [a, b] pos) σ F H := fun F1 H1 g1 Q q =>
  wt (PW.pt (pw_or pt_w (pw_or1 pt_w))) (ha F1 H1 g1 _ fun F2 H2 g2 => by
    cases k with
    | true => exact iteT (q _ F2 H2 g2)
    | false => exact iteF (hb rfl F2 H2 (g1.trans g2) Q fun b F3 H3 g3 => q b F3 H3 (g2.trans g3)))
theorem x_whenJE {body rest : List Stmt} {G : GE} (J : N3) (hc : EvTE X c σ F H) (ht : ∀ F1 H1, Gw F H F1 H1 → Sx X body σ F1 H1 { G with nx := J }) (hf : ∀ F1 H1, Gw F H F1 H1 → J σ F1 H1) (hj : ∀ σ F H, Same F H → J σ F H → Sx X rest σ F H G) (s : Same F H) : Sx X (.If c body [] pos :: rest) σ F H G :=
  wss (pss_cons (ps_if pt_w pss_w pss_w) pss_w) (hc F H (Gw.refl s) _ fun k F1 H1 g1 => by
    cases k with
    | true => exact iteT (WSs.imp (ht F1 H1 g1) (fun σ H ⟨F, a, b⟩ => hj σ F H a b) (fun _ _ h => h) (fun _ _ h => h) (fun _ _ h => h))
    | false => exact iteF (wss pss_nil (hj σ F1 H1 g1.s (hf F1 H1 g1))))
/-- a for loop over what is not told -/
def WkE {α : Type} (X : Cx) (tg iter : Expr) (σ : L2.St) (F H : Hp) (p : α → Pr) (C : List α → Prop) : Prop := ∀ F1 H1, Gw F H F1 H1 → ∀ R : It → Hp → Prop, (∀ xs J F2 H2, C xs → Gw F1 H1 F2 H2 → Src J F2 p xs → R J H2) → WI X tg iter σ H1 R
theorem wk_rng1E {tg : Expr} (hm : X.mg "range" = none) (ha : Ev X a σ F H (pE S)) (hS : ∀ n, S n → -(2 ^ 62) ≤ n ∧ n < 2 ^ 62) (hg : Gl X "range" := by rfl) (hs : starEach [a] X.env = (false, eval a X.env) :: starEach [] X.env := by rfl)
    (hs2 : starEach [a] X.env = [(false, eval a X.env)] := by rfl) : WkE X tg (.Call (.Name "range" p) [a] [] pos) σ F H pI (fun xs => ∃ n, S n ∧ xs = rng 0 n) := fun F1 H1 g1 R q =>
  wi_ (pi_range1 hg hm pa_w hs2) (ea_one ha hs F1 H1 g1 _ fun vs F2 H2 g2 ⟨v, _, e1, ⟨n, e2, s⟩, e3⟩ => by
    cases e3
    subst e1 e2
    exact ⟨n, rfl, (hS n s).1, (hS n s).2, q _ _ F2 H2 ⟨n, s, rfl⟩ g2 (src_rng (by omega))⟩)
theorem x_forNE {α : Type} {iter : Expr} {body rest : List Stmt} {G : GE} {pr : α → Pr} {C : List α → Prop} {i : Nat} {x : Str} (Iv : List α → Nat → N3) (hw : WkE X (.Name x p) iter σ F H pr C) (h0 : ∀ xs, C xs → ∀ F1 H1, Gw F H F1 H1 → Iv xs 0 σ F1 H1)
    (turn : ∀ xs, C xs → ∀ F0 n z σ1 F1 H1, xs[n]? = some z → Same F0 F1 → Same F1 H1 → Iv xs n σ1 F1 H1 → ∀ v F2 H2, Gw F1 H1 F2 H2 → pr z v F2 → Sx X body (σ1.set i (some v)) F2 H2 { nx := fun σ F H => Same F0 F ∧ Iv xs (n + 1) σ F H, rt := G.rt, ct := fun σ F H => Same F0 F ∧ Iv xs (n + 1) σ F H, bk := fun σ F H => Sx X rest σ F H G })
    (done : ∀ xs, C xs → ∀ σ1 F1 H1, Same F1 H1 → Iv xs xs.length σ1 F1 H1 → Sx X rest σ1 F1 H1 G) (s : Same F H) (hp : PassesOwn (model X.prog X.w) X.A X.env X.xe) (hc : X.calm = true)
    (hN : X.N.Nodup) (hi : X.N[i]? = some x := by rfl) (hx : Loc X.env.scope x := by first | exact Or.inl rfl | exact Or.inr rfl) (hf : X.fn x = true ∨ X.env.scope.names.lookup x = some .local := by first | exact .inl rfl | exact .inr rfl)
    (hs : ∀ x, foldedSetIterable iter X.env x = pure x := by intro _; rfl) : Sx X (.For (.Name x p) iter body [] pos :: rest) σ F H G := by
  refine wss (pss_cons (ps_for hp hc pi_w (pg_name hN hi hx hf) pss_w hs) pss_w) (hw F H (Gw.refl s) _ fun xs J F0 H0 cx g0 src => ?_)
  refine ⟨fun i m σ1 H1 => m = xs.length - i ∧ i ≤ xs.length ∧ ∃ F1, Same F0 F1 ∧ Same F1 H1 ∧ Iv xs i σ1 F1 H1, ⟨xs.length, by omega, Nat.zero_le _, F0, Same.refl _, g0.s, h0 xs cx F0 H0 g0⟩, ?_⟩
  rintro n m σ1 H1 ⟨rfl, hn, F1, s1, s2, iv⟩
  obtain ⟨hstop, hgo⟩ := src F1 H1 s1 s2
  by_cases hlt : n < xs.length
  · obtain ⟨z, hz⟩ : ∃ z, xs[n]? = some z := ⟨xs[n], List.getElem?_eq_getElem hlt⟩
    obtain ⟨go, hy⟩ := hgo n z hz
    refine .inr ⟨go, fun σ' H' => ∃ F', Same F' H' ∧ Same F0 F' ∧ Iv xs (n + 1) σ' F' H', fun σ' H' ⟨F', a1, a2, a3⟩ => ⟨xs.length - (n + 1), by omega, rfl, hlt, F', a2, a1, a3⟩, fun v H2 hv => ?_⟩
    obtain ⟨F2, g2, pv⟩ := hy v H2 hv
    exact WSs.imp (turn xs cx F0 n z σ1 F1 H1 hz s1 s2 iv v F2 H2 g2 pv) (fun σ H ⟨F, a, b, c⟩ => ⟨F, a, b, c⟩) (fun _ _ h => h) (fun σ H ⟨F, _, h⟩ => h) (fun σ H ⟨F, a, b, c⟩ => ⟨F, a, b, c⟩)
  · have hin : n = xs.length := by omega
    subst hin
    exact .inl ⟨hstop, done xs cx σ1 F1 H1 s2 iv⟩
theorem ev_take {m : Int} {k : Nat} (O : FnD X.prog X.w X.K X.mg X.base k "_law_take" sp_law_take) (hr : Room k X.A) (ha : Ev X a σ F H pSt) (hb : Ev X b σ F H (pI m)) (h1 : 1 ≤ m) (h2 : m < 2 ^ 63) (hg : Gl X "_law_take" := by rfl) (hs : starEach [a, b] X.env = (false, eval a X.env) :: starEach [b] X.env := by rfl) (hs2 : starEach [b] X.env = (false, eval b X.env) :: starEach [] X.env := by rfl) (hpl : (backTo pos (starEach [b] X.env)).any (·.1) = false := by rfl) : Ev X (.Call (.Name "_law_take" p) [a, b] [] pos) σ F H (pE fun r => 0 ≤ r ∧ r < m) :=
  Ev.imp (ev_call (P := pTk m) (Ps := pCons pSt (pCons (pI m) pNil)) (cn := c_law_take) O hr (ea_cons ha (ea_one hb hs2) hs) (fun vs F1 sF ⟨a1, _, e1, b1, a2, _, e2, b2, e3⟩ => by
    cases e3
    cases b2
    subst e1 e2
    exact ⟨a1, m, rfl, b1, h1, h2, rfl⟩) hg (by decide) hs hpl) fun v F1 s ⟨r, e, h⟩ => ⟨r, e, h⟩
end

end
end K24
set_option Elab.async false
set_option linter.all false
set_option maxRecDepth 100000
set_option maxHeartbeats 4000000
set_option autoImplicit false
namespace K24
open PySem PySem.Spec PyProof.Rows L2
open PySem.W (Datum DatumOrd Holds HoldAll Tup)
section
variable {P : Program} {w : World} {K : PySem.W.Frag} {mg : Str → Option Value} {base : Heap}


def unitM (n : Nat) : Mx := (rng 0 n).map fun i : Int => (rng 0 n).map fun k : Int => if decide (i = k) = true then (1 : Int) else 0
theorem unit_rect (n : Nat) : Rect (unitM n) n n := ⟨by unfold unitM; rw [List.length_map, rng_len]; omega, fun r hr => by
  obtain ⟨i, _, rfl⟩ := List.mem_map.mp hr
  rw [List.length_map, rng_len]
  omega⟩
def rowAdd (U : Mx) (i j : Nat) (c : Int) (n : Nat) : List Int := (rng 0 n).map fun k : Int => at2 U i k + c * at2 U j k
inductive Uni (n : Nat) : Nat → Mx → Prop
  | unit : Uni n 0 (unitM n)
  | neg {k i : Nat} {U : Mx} (h : Uni n k U) (hi : i < n) : Uni n (k + 1) (U.set i ((U.getD i []).map fun x => -x))
  | add {k i j : Nat} {U : Mx} {c : Int} (h : Uni n k U) (hi : i < n) (hj : j < n) (hij : i ≠ j) (c0 : -1 ≤ c) (c1 : c ≤ 1) : Uni n (k + 1) (U.set i (rowAdd U i j c n))
theorem Uni.rect {n k : Nat} {U : Mx} (h : Uni n k U) : Rect U n n := by
  induction h with
  | unit => exact unit_rect n
  | neg h hi ih =>
    obtain ⟨r, hr, lr⟩ := ih.get hi
    exact ih.set (by rw [List.length_map, getD_at hr, lr])
  | add h hi hj hij c0 c1 ih => exact ih.set (by unfold rowAdd; rw [List.length_map, rng_len]; omega)
def pUni (n : Nat) : Pr := fun v F => ∃ k U, k ≤ 3 ∧ Uni n k U ∧ pM U v F
def c_law_unimodular : Con := fun vs F R => ∃ (a : V) (n : Nat), vs = [a, .int (n : Nat)] ∧ pSt a F ∧ 1 ≤ n ∧ n ≤ 3 ∧ R = pUni n

theorem sc_law_unimodular : FnScope ["_law_state_here", "_law_size", "_law_rows", "_law_turn", "_law_i", "_law_j", "_law_c", "_law_x", "_law_k"] ["_law_state_here", "_law_size"] d_law_unimodular.scope := ⟨rfl, rfl, rfl, by decide +kernel, rfl, by decide +kernel, by decide +kernel⟩
theorem ok_law_unimodular (T : Tx K mg) : FnD P w K mg base 3 "_law_unimodular" (spP c_law_unimodular) :=
  mk_fn T (d := d_law_unimodular) 40 40 rfl rfl rfl rfl rfl sc_law_unimodular (fun _ _ _ _ _ _ us hl => match us, hl with | [_, _], _ => rfl) (fun vs F P h => by obtain ⟨_, _, e, _⟩ := h; rw [e]; rfl) fun cdv A outer s H E hr vs F R sm hc => by
    obtain ⟨a, n, rfl, ha, n1, n3, rfl⟩ := hc
    refine x_setN 2 (en_lc (own := [("_law_i", 4)]) (i := 4) (f := pR) (fun i : Int => (rng 0 n).map fun k : Int => if decide (i = k) = true then (1 : Int) else 0) (wk_rng1 (n := (n : Int)) T.n_range (ev_v 1 rfl rfl) (by omega) (by omega)) (by rw [rng_len, sizeLine_eq]; omega) rfl sc_law_unimodular.nd (blkOk_by (N := ["_law_state_here", "_law_size", "_law_rows", "_law_turn", "_law_i", "_law_j", "_law_c", "_law_x", "_law_k"]) (sc := d_law_unimodular.scope) (by decide +kernel)) (fun _ => rfl)
      (fun z hz v F1 H1 g pv s H' C cl fp => EvN.ev (en_lc (own := [("_law_j", 5)]) (i := 5) (f := pI) (fun k : Int => if decide (z = k) = true then (1 : Int) else 0) (wk_rng1 (n := (n : Int)) T.n_range (ev_v 1 rfl rfl) (by omega) (by omega)) (by rw [rng_len, sizeLine_eq]; omega) rfl sc_law_unimodular.nd (blkOk_by (N := ["_law_state_here", "_law_size", "_law_rows", "_law_turn", "_law_i", "_law_j", "_law_c", "_law_x", "_law_k"]) (sc := _) (by kernel_rfl)) (fun _ => rfl)
        (fun r hr v2 F2 H2 g2 pv2 s2 H2' C2 cl2 fp2 => ev_intB T.n_int (ev_eq (ev_v 4 rfl pv) (ev_v 5 rfl pv2)))
        (fun _ _ _ _ _ => pg_name (i := 5) sc_law_unimodular.nd rfl (.inl rfl)))) (fun _ _ _ _ _ => pg_name (i := 4) sc_law_unimodular.nd rfl (.inr rfl))) (fun l ws F1 H1 g1 m1 m2 m3 r1 => ?_) sm sc_law_unimodular.nd
    have ha1 := Mn.mono _ _ _ g1.f ha
    let S : Option V → Option V → Option V → Option V → L2.St := fun o3 o4 o5 o6 => [some a, some (.int (n : Nat)), some (.ref l), o3, o4, o5, o6, none, none]
    refine x_forNE (i := 3) (pr := pI) (fun xs i σ1 F3 H3 => ∃ o3 o4 o5 o6 ws U, σ1 = S o3 o4 o5 o6 ∧ Same F1 F3 ∧ Gw F H F3 H3 ∧ F3 l = none ∧ H3 l = some (.lst ws) ∧ AllP pR ws U F3 ∧ Uni n i U)
      (wk_rng1E (S := fun r => 0 ≤ r ∧ r < 4) T.n_range (ev_take (ok_law_take T) (by exact hr.mono (by omega)) (ev_v 0 rfl ha1) ev_int (by decide) (by decide)) (fun n h => by omega)) (fun xs _ F3 H3 g3 => ⟨none, none, none, none, ws, _, rfl, g3.f, g1.trans g3, (g3.own m3 m2).2, (g3.own m3 m2).1, r1.up g3.f, Uni.unit⟩) ?_ ?_ g1.s PassesOwn.never rfl sc_law_unimodular.nd
    · rintro xs ⟨t, ht, rfl⟩ F0 ii i σ1 F3 H3 hi s0' s3 ⟨o3, o4, o5, o6, ws, U, rfl, s13, g3, f3, h3, r3, hU⟩ v F4 H4 g4 pv
      have o4' := g4.own h3 f3
      have ha4 := Mn.mono _ _ _ (s13.trans g4.f) ha1
      have RU := hU.rect
      refine x_set 4 (P := pE fun r => 0 ≤ r ∧ r < n) (ev_take (ok_law_take T) (by exact hr.mono (by omega)) (ev_v 0 rfl ha4) (ev_v 1 rfl rfl) (by omega) (by omega)) (fun v5 F5 H5 g5 p5 => ?_) g4.s sc_law_unimodular.nd
      obtain ⟨i5, rfl, i50, i51⟩ := p5
      obtain ⟨iN, rfl⟩ : ∃ k : Nat, i5 = k := ⟨i5.toNat, by omega⟩
      refine x_set 5 (P := pE fun r => 0 ≤ r ∧ r < n) (ev_take (ok_law_take T) (by exact hr.mono (by omega)) (ev_v 0 rfl (Mn.mono _ _ _ g5.f ha4)) (ev_v 1 rfl rfl) (by omega) (by omega)) (fun v6 F6 H6 g6 p6 => ?_) g5.s sc_law_unimodular.nd
      obtain ⟨j5, rfl, j50, j51⟩ := p6
      obtain ⟨jN, rfl⟩ : ∃ k : Nat, j5 = k := ⟨j5.toNat, by omega⟩
      refine x_set 6 (P := pE fun r => -1 ≤ r ∧ r ≤ 1) (ev_subE (S := fun r => 0 ≤ r ∧ r < 3) (T := fun r => r = 1) (ev_take (ok_law_take T) (by exact hr.mono (by omega)) (ev_v 0 rfl (Mn.mono _ _ _ (g5.f.trans g6.f) ha4)) ev_int (by decide) (by decide)) (Ev.toE ev_int rfl) (fun i j h1 h2 => by omega)) (fun v7 F7 H7 g7 p7 => ?_) g6.s sc_law_unimodular.nd
      obtain ⟨c, rfl, c0, c1⟩ := p7
      have g47 := g5.trans (g6.trans g7)
      have o7' := g47.own o4'.1 o4'.2
      have r7 := r3.up (g4.f.trans g47.f)
      obtain ⟨ri, hri, lri⟩ := RU.get (show iN < n by omega)
      obtain ⟨rj, hrj, lrj⟩ := RU.get (show jN < n by omega)
      obtain ⟨xi, hxi, pxi⟩ := r7.get hri
      obtain ⟨xj, hxj, pxj⟩ := r7.get hrj
      have lws : ws.length = n := by rw [r7.1]; exact RU.h
      have nl := m1
      have ati : ∀ k : Int, 0 ≤ k → k < n → atI ri k = some (at2 U iN k) := fun k k0 k1 => by
        have := RU.at (i := (iN : Int)) (k := k) (by omega) (by omega) k0 k1
        rw [Int.toNat_natCast, getD_at hri] at this
        exact this
      have atj : ∀ k : Int, 0 ≤ k → k < n → atI rj k = some (at2 U jN k) := fun k k0 k1 => by
        have := RU.at (i := (jN : Int)) (k := k) (by omega) (by omega) k0 k1
        rw [Int.toNat_natCast, getD_at hrj] at this
        exact this
      refine x_if (k := decide ((iN : Int) = jN)) (evt_eq (ev_v 4 rfl rfl) (ev_v 5 rfl rfl)) (fun hb F8 H8 g8 => ?_) (fun hb F8 H8 g8 => ?_) g7.s
      · have o8' := g8.own o7'.1 o7'.2
        refine x_setI (P := pR (ri.map fun x => -x)) (j := iN) (EvN.ev (en_lc (own := [("_law_x", 7)]) (i := 7) (f := pI) (fun x : Int => -x) (wk_L (f := pI) (ev_ixO (P := pR ri) (ev_v 2 rfl rfl) (ev_v 4 rfl rfl) o8'.1 (atI_nat hxi) (Mn.mono _ _ _ g8.f pxi))) (by rw [lri, sizeLine_eq]; omega) rfl sc_law_unimodular.nd (blkOk_by (N := ["_law_state_here", "_law_size", "_law_rows", "_law_turn", "_law_i", "_law_j", "_law_c", "_law_x", "_law_k"]) (sc := d_law_unimodular.scope) (by decide +kernel)) (fun _ => rfl)
          (fun z hz v2 F2 H2 g pv s H' C cl fp => ev_neg (ev_v 7 rfl pv)) (fun _ _ _ _ _ => pg_name (i := 7) sc_law_unimodular.nd rfl (.inl rfl)))) (ev_v 2 rfl rfl) (ev_v 4 rfl rfl) o8'.1 o8'.2 (ixNat (by rw [lws]; omega)) (fun v9 F9 H9 g9 p9 => ?_) g8.s
        have o9 := g9.own o8'.1 o8'.2
        have gg := ((g3.trans (g4.trans g47)).trans (g8.trans g9)).mut (o := .lst (ws.set iN v9)) nl o9.2
        have sf := g4.f.trans (g47.f.trans (g8.f.trans g9.f))
        have hU2 := Uni.neg hU (show iN < n by omega)
        rw [getD_at hri] at hU2
        refine x_nil gg.s (x_nil gg.s ⟨s0'.trans sf, some v, _, _, _, ws.set iN v9, _, rfl, s13.trans sf, gg, o9.2, upd_same, (r7.up (g8.f.trans g9.f)).set iN p9, hU2⟩)
      · have hb : (iN : Int) ≠ jN := of_decide_eq_false hb
        have o8' := g8.own o7'.1 o7'.2
        refine x_setI (P := pR (rowAdd U iN jN c n)) (j := iN) (EvN.ev (en_lc (own := [("_law_k", 8)]) (i := 8) (f := pI) (fun k : Int => at2 U iN k + c * at2 U jN k) (wk_rng1 (n := (n : Int)) T.n_range (ev_v 1 rfl rfl) (by omega) (by omega)) (by rw [rng_len, sizeLine_eq]; omega) rfl sc_law_unimodular.nd (blkOk_by (N := ["_law_state_here", "_law_size", "_law_rows", "_law_turn", "_law_i", "_law_j", "_law_c", "_law_x", "_law_k"]) (sc := d_law_unimodular.scope) (by decide +kernel)) (fun _ => rfl)
          (fun z hz v2 F2 H2 g pv s H' C cl fp => ev_add (ev_ixL (ev_ixO (P := pR ri) (ev_v 2 rfl rfl) (ev_v 4 rfl rfl) (g.own o8'.1 o8'.2).1 (atI_nat hxi) (Mn.mono _ _ _ (g8.f.trans g.f) pxi)) (ev_v 8 rfl pv) (ati z (mem_rng.mp hz).1 (mem_rng.mp hz).2)) (ev_mul (ev_v 6 rfl rfl) (ev_ixL (ev_ixO (P := pR rj) (ev_v 2 rfl rfl) (ev_v 5 rfl rfl) (g.own o8'.1 o8'.2).1 (atI_nat hxj) (Mn.mono _ _ _ (g8.f.trans g.f) pxj)) (ev_v 8 rfl pv) (atj z (mem_rng.mp hz).1 (mem_rng.mp hz).2)) (CMul.l (by omega))))
          (fun _ _ _ _ _ => pg_name (i := 8) sc_law_unimodular.nd rfl (.inl rfl)))) (ev_v 2 rfl rfl) (ev_v 4 rfl rfl) o8'.1 o8'.2 (ixNat (by rw [lws]; omega)) (fun v9 F9 H9 g9 p9 => ?_) g8.s
        have o9 := g9.own o8'.1 o8'.2
        have gg := ((g3.trans (g4.trans g47)).trans (g8.trans g9)).mut (o := .lst (ws.set iN v9)) nl o9.2
        have sf := g4.f.trans (g47.f.trans (g8.f.trans g9.f))
        have hU2 := Uni.add hU (show iN < n by omega) (show jN < n by omega) (fun e => hb (by rw [e])) c0 c1
        refine x_nil gg.s (x_nil gg.s ⟨s0'.trans sf, some v, _, _, _, ws.set iN v9, _, rfl, s13.trans sf, gg, o9.2, upd_same, (r7.up (g8.f.trans g9.f)).set iN p9, hU2⟩)
    · rintro xs ⟨t, ht, rfl⟩ σ1 F3 H3 s3 ⟨o3, o4, o5, o6, ws, U, rfl, s13, g3, f3, h3, r3, hU⟩
      rw [rng_len] at hU
      have gz := g3.frz m1 f3 h3
      show Sx (cxD P w K mg base ["_law_state_here", "_law_size", "_law_rows", "_law_turn", "_law_i", "_law_j", "_law_c", "_law_x", "_law_k"] d_law_unimodular cdv A outer s H E) _ _ (upd F3 l (.lst ws)) H3 _
      exact x_ret (P := pM U) (ev_v 2 rfl ⟨l, ws, rfl, upd_same, r3.up (same_new f3)⟩) (fun v F4 H4 g4 p4 => ⟨gz.trans g4, _, U, by omega, hU, p4⟩) gz.s

end
end K24
set_option Elab.async false
set_option linter.all false
set_option maxRecDepth 100000
set_option maxHeartbeats 4000000
set_option autoImplicit false
namespace K24
open PySem PySem.Spec PyProof.Rows L2
open PySem.W (Datum DatumOrd Holds HoldAll Tup)
section
variable {P : Program} {w : World} {K : PySem.W.Frag} {mg : Str → Option Value} {base : Heap}


def rowAbs (g : Mx) (i : Nat) : Int := (((g.getD i []).set i 0).map fun x => (x.natAbs : Int)).sum
structure GramOk (g : Mx) (n : Nat) : Prop where
  r : Rect g n n
  n1 : 1 ≤ n
  n3 : n ≤ 3
  sy : ∀ a b : Nat, at2 g a b = at2 g b a
  off : ∀ a b : Nat, a ≠ b → -1 ≤ at2 g a b ∧ at2 g a b ≤ 1
  dg : ∀ a : Nat, a < n → ∃ t : Int, 0 ≤ t ∧ t ≤ 2 ∧ at2 g a a = 1 + t + rowAbs g a
/-- while the rows are filled: so far as i -/
structure GramTo (g : Mx) (n i : Nat) : Prop where
  r : Rect g n n
  sy : ∀ a b : Nat, at2 g a b = at2 g b a
  off : ∀ a b : Nat, a ≠ b → -1 ≤ at2 g a b ∧ at2 g a b ≤ 1
  z : ∀ a : Nat, i ≤ a → at2 g a a = 0
  dg : ∀ a : Nat, a < i → ∃ t : Int, 0 ≤ t ∧ t ≤ 2 ∧ at2 g a a = 1 + t + rowAbs g a
def pGram : Pr := fun v F => ∃ n g, GramOk g n ∧ pM g v F
theorem at2_out {m : Mx} {h w : Nat} (R : Rect m h w) {a b : Nat} (z : ¬ (a < h ∧ b < w)) : at2 m a b = 0 := by
  rw [at2_nat]
  by_cases ha : a < h
  · obtain ⟨r, hr, lr⟩ := R.get ha
    rw [getD_at hr, List.getD_eq_getElem?_getD, List.getElem?_eq_none (by omega)]
    rfl
  · rw [List.getD_eq_getElem?_getD (l := m), List.getElem?_eq_none (by rw [R.h]; omega)]
    rfl
def zeroM (n : Nat) : Mx := (rng 0 n).map fun _ : Int => (rng 0 n).map fun _ : Int => (0 : Int)
theorem zero_rect (n : Nat) : Rect (zeroM n) n n := ⟨by unfold zeroM; rw [List.length_map, rng_len]; omega, fun r hr => by
  obtain ⟨i, _, rfl⟩ := List.mem_map.mp hr
  rw [List.length_map, rng_len]
  omega⟩
theorem zero_at (n a b : Nat) : at2 (zeroM n) a b = 0 := by
  by_cases z : a < n ∧ b < n
  · obtain ⟨r, hr, lr⟩ := (zero_rect n).get z.1
    have hm := List.mem_of_getElem? hr
    obtain ⟨i, _, rfl⟩ := List.mem_map.mp hm
    rw [at2_nat, getD_at hr, List.getD_eq_getElem?_getD, List.getElem?_map]
    cases (rng 0 n)[b]? <;> rfl
  · exact at2_out (zero_rect n) z
def c_law_gram : Con := fun vs F R => ∃ a : V, vs = [a, .int 3] ∧ pSt a F ∧ R = pGram

theorem sc_law_gram : FnScope ["_law_state_here", "_law_most", "_law_size", "_law_rows", "_law_i", "_law_j", "_law_x"] ["_law_state_here", "_law_most"] d_law_gram.scope := ⟨rfl, rfl, rfl, by decide +kernel, rfl, by decide +kernel, by decide +kernel⟩
theorem ok_law_gram (T : Tx K mg) : FnD P w K mg base 3 "_law_gram" (spP c_law_gram) :=
  mk_fn T (d := d_law_gram) 39 39 rfl rfl rfl rfl rfl sc_law_gram (fun _ _ _ _ _ _ us hl => match us, hl with | [_, _], _ => rfl) (fun vs F P h => by obtain ⟨_, e, _⟩ := h; rw [e]; rfl) fun cdv A outer s H E hr vs F R sm hc => by
    obtain ⟨a, rfl, ha, rfl⟩ := hc
    refine x_set 2 (P := pE fun r => 1 ≤ r ∧ r ≤ 3) (ev_addE (S := fun r => r = 1) (T := fun r => 0 ≤ r ∧ r < 3) (Ev.toE ev_int rfl) (ev_take (ok_law_take T) (by exact hr.mono (by omega)) (ev_v 0 rfl ha) (ev_v 1 rfl rfl) (by decide) (by decide)) (fun i j h1 h2 => by omega)) (fun v1 F1 H1 g1 p1 => ?_) sm sc_law_gram.nd
    obtain ⟨sz, rfl, sz1, sz3⟩ := p1
    have ha1 := Mn.mono _ _ _ g1.f ha
    refine x_whenJE (fun σ F2 H2 => ∃ n : Nat, σ = [some a, some (.int 3), some (.int (n : Int)), none, none, none, none] ∧ 1 ≤ n ∧ n ≤ 3 ∧ Gw F H F2 H2) (evtE_and (evt_gt (ev_v 2 (P := pI sz) rfl rfl) ev_int) (fun _ => evtE_eq (ev_take (ok_law_take T) (by exact hr.mono (by omega)) (ev_v 0 rfl ha1) ev_int (by decide) (by decide)) (Ev.toE (S := fun _ => True) ev_int trivial))) (fun F2 H2 g2 => ?_) (fun F2 H2 g2 => ?_) ?_ g1.s
    · refine x_set 2 (P := pI 2) ev_int (fun v3 F3 H3 g3 p3 => ?_) g2.s sc_law_gram.nd
      cases p3
      exact x_nil g3.s ⟨2, rfl, by decide, by decide, g1.trans (g2.trans g3)⟩
    · exact ⟨sz.toNat, by rw [show ((sz.toNat : Nat) : Int) = sz by omega]; rfl, by omega, by omega, g1.trans g2⟩
    rintro σ F2 H2 s2 ⟨n, rfl, n1, n3, g2⟩
    have ha2 := Mn.mono _ _ _ g2.f ha
    refine x_setLcM 3 (lm_N (own := [("_law_i", 4)]) (i := 4) (fun _ : Int => (rng 0 n).map fun _ : Int => (0 : Int)) (wk_rng1 (n := (n : Int)) T.n_range (ev_v 2 rfl rfl) (by omega) (by omega)) (by rw [rng_len, sizeLine_eq]; omega) rfl sc_law_gram.nd (blkOk_by (N := ["_law_state_here", "_law_most", "_law_size", "_law_rows", "_law_i", "_law_j", "_law_x"]) (sc := d_law_gram.scope) (by decide +kernel)) (fun _ => rfl)
      (fun z hz v F1 H1 g pv s H' C cl fp => en_lc (own := [("_law_j", 5)]) (i := 5) (f := pI) (fun _ : Int => (0 : Int)) (wk_rng1 (n := (n : Int)) T.n_range (ev_v 2 rfl rfl) (by omega) (by omega)) (by rw [rng_len, sizeLine_eq]; omega) rfl sc_law_gram.nd (blkOk_by (N := ["_law_state_here", "_law_most", "_law_size", "_law_rows", "_law_i", "_law_j", "_law_x"]) (sc := _) (by kernel_rfl)) (fun _ => rfl)
        (fun r hr v2 F2 H2 g2 pv2 s2 H2' C2 cl2 fp2 => ev_int) (fun _ _ _ _ _ => pg_name (i := 5) sc_law_gram.nd rfl (.inl rfl))) (fun _ _ _ _ _ => pg_name (i := 4) sc_law_gram.nd rfl (.inl rfl))) (fun l ps F3 H3 g3 m1 m2 m3 hm dn pn => ?_) s2
    have hm : HM F3 H3 ps (zeroM n) := hm
    have g03 := g2.trans g3
    have ha3 := Mn.mono _ _ _ g3.f ha2
    have nl := g2.new m1
    have pn' : ∀ q ∈ ps, H q = none := fun q hq => g2.new (pn q hq)
    let S : Option V → Option V → L2.St := fun o4 o5 => [some a, some (.int 3), some (.int (n : Int)), some (.ref l), o4, o5, none]
    have T0 : GramTo (zeroM n) n 0 := ⟨zero_rect n, fun a b => by rw [zero_at, zero_at], fun a b _ => by rw [zero_at]; omega, fun a _ => zero_at n a a, fun a h => absurd h (Nat.not_lt_zero _)⟩
    have atq : ∀ {i : Nat} {q : Addr}, ps[i]? = some q → atI (ps.map V.ref) (i : Int) = some (V.ref q) := fun h => atI_nat (by rw [List.getElem?_map, h]; rfl)
    refine x_forN (i := 4) (xs := rng 0 n) (pr := pI) (fun i σ1 F4 H4 => ∃ o4 o5 rows, σ1 = S o4 o5 ∧ Same F3 F4 ∧ Gw F H F4 H4 ∧ F4 l = none ∧ H4 l = some (.lst (ps.map V.ref)) ∧ HM F4 H4 ps rows ∧ GramTo rows n 0)
      (wk_rng1 (n := (n : Int)) T.n_range (ev_v 2 rfl rfl) (by omega) (by omega)) (fun F4 H4 g4 => ⟨none, none, _, rfl, g4.f, g03.trans g4, (g4.own m3 m2).2, (g4.own m3 m2).1, hm.up g4, T0⟩) ?_ ?_ g3.s PassesOwn.never rfl sc_law_gram.nd
    · rintro F0 ii i σ1 F4 H4 hi s0' s4 ⟨o4, o5, rows, rfl, s34, g4, f4, h4, hm4, t4⟩ v F5 H5 g5 pv
      cases pv
      obtain ⟨ei, hi2⟩ := rng_get hi
      have ei2 : i = (ii : Nat) := by omega
      subst ei2
      have hin : ii < n := by omega
      have o5' := g5.own h4 f4
      refine x_forN (i := 5) (xs := rng 0 ii) (pr := pI) (fun j σ1 F7 H7 => ∃ o5 rows, σ1 = S (some (.int (ii : Nat))) o5 ∧ Same F0 F7 ∧ Same F3 F7 ∧ Gw F H F7 H7 ∧ F7 l = none ∧ H7 l = some (.lst (ps.map V.ref)) ∧ HM F7 H7 ps rows ∧ GramTo rows n 0)
        (wk_rng1 (n := (ii : Int)) T.n_range (ev_v 4 rfl rfl) (by omega) (by omega)) (fun F7 H7 g7 => ⟨o5, _, rfl, s0'.trans (g5.f.trans g7.f), s34.trans (g5.f.trans g7.f), g4.trans (g5.trans g7), (g7.own o5'.1 o5'.2).2, (g7.own o5'.1 o5'.2).1, (hm4.up g5).up g7, t4⟩) ?_ ?_ g5.s PassesOwn.never rfl sc_law_gram.nd
      · rintro F0' jj j σ1 F7 H7 hj s0'' s7 ⟨o5, rows7, rfl, s07, s37, g7, f7, h7, hm7, t7⟩ v F8 H8 g8 pv
        cases pv
        obtain ⟨ej, hj2⟩ := rng_get hj
        have ej2 : j = (jj : Nat) := by omega
        subst ej2
        have hjn : jj < ii := by omega
        have o8' := g8.own h7 f7
        have hm8 := hm7.up g8
        obtain ⟨r8, hr8, len8⟩ := t7.r.get hin
        obtain ⟨q8, hq8, eq8, fq8, qm8⟩ := hm8.at hr8
        have ha8 := Mn.mono _ _ _ (s37.trans g8.f) ha3
        refine x_setIJ (P := pE fun r => -1 ≤ r ∧ r ≤ 1) (q := q8) (nj := (jj : Nat)) (j := jj) (vs := r8.map V.int) (ev_subE (S := fun r => 0 ≤ r ∧ r < 3) (T := fun r => r = 1) (ev_take (ok_law_take T) (by exact hr.mono (by omega)) (ev_v 0 rfl ha8) ev_int (by decide) (by decide)) (Ev.toE ev_int rfl) (fun i j h1 h2 => by omega)) (fun F9 H9 g9 => ev_ixO (ev_v 3 rfl rfl) (ev_v 4 rfl rfl) (g9.own o8'.1 o8'.2).1 (atq hq8) rfl) (fun F9 H9 g9 => ev_v 5 rfl rfl) eq8 fq8 (ixNat (by rw [List.length_map]; omega)) (fun v9 F9 H9 g9 p9 => ?_) g8.s
        obtain ⟨c, rfl, c0, c1⟩ := p9
        have o9' := g9.own o8'.1 o8'.2
        have hm9 := hm8.up g9
        have fq9 := (g9.own eq8 fq8).2
        have eset9 : (r8.map V.int).set jj (.int c) = (r8.set jj c).map V.int := by rw [List.map_set]
        rw [eset9]
        have dq8 : q8 ≠ l := fun z => dn (by rw [← z]; exact qm8)
        have g19 := ((g7.trans g8).trans g9).mut (o := .lst ((r8.set jj c).map V.int)) (pn' q8 qm8) fq9
        have hm10 := hm9.set (x := c) (j := jj) hq8 hr8
        have Rr10 : Rect (rows7.set ii (r8.set jj c)) n n := t7.r.set (by rw [List.length_set]; exact len8)
        have at10 := fun a b => at2_set (x := c) t7.r hr8 (show jj < n by omega) a b
        have l10 : (upd H9 q8 (.lst ((r8.set jj c).map V.int))) l = some (.lst (ps.map V.ref)) := by rw [upd_ne dq8.symm]; exact o9'.1
        obtain ⟨rj, hrj, lenj⟩ := Rr10.get (show jj < n by omega)
        obtain ⟨qj, hqj, eqj, fqj, qmj⟩ := hm10.at hrj
        have hri10 : (rows7.set ii (r8.set jj c))[ii]? = some (r8.set jj c) := List.getElem?_set_self (List.getElem?_eq_some_iff.mp hr8).1
        obtain ⟨qi, hqi, eqi, fqi, qmi⟩ := hm10.at hri10
        refine x_setIJ (P := pI c) (q := qj) (nj := (ii : Nat)) (j := ii) (vs := rj.map V.int) (ev_ixO (P := pI c) (l := qi) (vs := (r8.set jj c).map V.int) (ev_ixO (ev_v 3 rfl rfl) (ev_v 4 rfl rfl) l10 (atq hqi) rfl) (ev_v 5 rfl rfl) eqi (atI_nat (by rw [List.getElem?_map, List.getElem?_set_self (by omega)]; rfl)) rfl) (fun F11 H11 g11 => ev_ixO (ev_v 3 rfl rfl) (ev_v 5 rfl rfl) (g11.own l10 o9'.2).1 (atq hqj) rfl) (fun F11 H11 g11 => ev_v 4 rfl rfl) eqj fqj (ixNat (by rw [List.length_map]; omega)) (fun v11 F11 H11 g11 p11 => ?_) g19.s
        cases p11
        have o11 := g11.own l10 o9'.2
        have hm11 := hm10.up g11
        have fq11 := (g11.own eqj fqj).2
        have dqj : qj ≠ l := fun z => dn (by rw [← z]; exact qmj)
        have eset11 : (rj.map V.int).set ii (.int c) = (rj.set ii c).map V.int := by rw [List.map_set]
        rw [eset11]
        have g111 := (g19.trans g11).mut (o := .lst ((rj.set ii c).map V.int)) (pn' qj qmj) fq11
        have hm12 := hm11.set (x := c) (j := ii) hqj hrj
        have Rr12 : Rect ((rows7.set ii (r8.set jj c)).set jj (rj.set ii c)) n n := Rr10.set (by rw [List.length_set]; exact lenj)
        have at12 := fun a b => at2_set (x := c) Rr10 hrj hin a b
        have sf := g8.f.trans (g9.f.trans g11.f)
        have atf : ∀ a b : Nat, at2 ((rows7.set ii (r8.set jj c)).set jj (rj.set ii c)) a b = if (a = jj ∧ b = ii) ∨ (a = ii ∧ b = jj) then c else at2 rows7 a b := fun a b => by
          rw [at12, at10]
          by_cases z : a = jj ∧ b = ii
          · rw [if_pos z, if_pos (.inl z)]
          · rw [if_neg z]
            by_cases y : a = ii ∧ b = jj
            · rw [if_pos y, if_pos (.inr y)]
            · rw [if_neg y, if_neg (fun h => h.elim z y)]
        refine x_nil g111.s ⟨s0''.trans sf, some (.int (jj : Nat)), _, rfl, s07.trans sf, s37.trans sf, g111, o11.2, by rw [upd_ne dqj.symm]; exact o11.1, hm12, Rr12, fun a b => ?_, fun a b hab => ?_, fun a _ => ?_, fun a h => absurd h (Nat.not_lt_zero _)⟩
        · rw [atf, atf]
          by_cases z : (a = jj ∧ b = ii) ∨ (a = ii ∧ b = jj)
          · rw [if_pos z, if_pos (by omega)]
          · rw [if_neg z, if_neg (by omega)]
            exact t7.sy a b
        · rw [atf]
          split
          · exact ⟨c0, c1⟩
          · exact t7.off a b hab
        · rw [atf, if_neg (by omega)]
          exact t7.z a (Nat.zero_le _)
      · rintro σ1 F7 H7 s7 ⟨o5, rows7, rfl, s07, s37, g7, f7, h7, hm7, t7⟩
        exact x_nil s7 ⟨s07, some (.int (ii : Nat)), o5, rows7, rfl, s37, g7, f7, h7, hm7, t7⟩
    · rintro σ1 F4 H4 s4 ⟨o4, o5, rows, rfl, s34, g4, f4, h4, hm4, t4⟩
      refine x_forN (i := 4) (xs := rng 0 n) (pr := pI) (fun i σ1 F5 H5 => ∃ o4 rows, σ1 = S o4 o5 ∧ Same F3 F5 ∧ Gw F H F5 H5 ∧ F5 l = none ∧ H5 l = some (.lst (ps.map V.ref)) ∧ HM F5 H5 ps rows ∧ GramTo rows n i)
        (wk_rng1 (n := (n : Int)) T.n_range (ev_v 2 rfl rfl) (by omega) (by omega)) (fun F5 H5 g5 => ⟨o4, _, rfl, s34.trans g5.f, g4.trans g5, (g5.own h4 f4).2, (g5.own h4 f4).1, hm4.up g5, t4⟩) ?_ ?_ s4 PassesOwn.never rfl sc_law_gram.nd
      · rintro F0 ii i σ1 F5 H5 hi s0' s5 ⟨o4, rows5, rfl, s35, g5, f5, h5, hm5, t5⟩ v F6 H6 g6 pv
        cases pv
        obtain ⟨ei, hi2⟩ := rng_get hi
        have ei2 : i = (ii : Nat) := by omega
        subst ei2
        have hin : ii < n := by omega
        have o6' := g6.own h5 f5
        have hm6 := hm5.up g6
        obtain ⟨r, hrr, lenr⟩ := t5.r.get hin
        obtain ⟨q, hq, eq6, fq, qm⟩ := hm6.at hrr
        have ha6 := Mn.mono _ _ _ (s35.trans g6.f) ha3
        refine x_setIJ (P := pE fun r' => 1 + (r.map fun x => (x.natAbs : Int)).sum ≤ r' ∧ r' ≤ 3 + (r.map fun x => (x.natAbs : Int)).sum) (q := q) (nj := (ii : Nat)) (j := ii) (vs := r.map V.int)
          (ev_addE (S := fun r => 1 ≤ r ∧ r ≤ 3) (T := fun r' => r' = (r.map fun x => (x.natAbs : Int)).sum) (ev_addE (S := fun r => r = 1) (T := fun r => 0 ≤ r ∧ r < 3) (Ev.toE ev_int rfl) (ev_take (ok_law_take T) (by exact hr.mono (by omega)) (ev_v 0 rfl ha6) ev_int (by decide) (by decide)) (fun i j h1 h2 => by omega))
            (Ev.toE (ev_frz eq6 fq free_I (ev_sumL T.n_sum rfl (EvN.ev (en_lc (own := [("_law_x", 6)]) (i := 6) (f := pI) (fun x : Int => (x.natAbs : Int)) (wk_L (f := pI) (xs := r) (ev_ixO (P := pR r) (ev_v 3 rfl rfl) (ev_v 4 rfl rfl) o6'.1 (atq hq) ⟨q, r.map V.int, rfl, upd_same, allP_ints⟩)) (by rw [lenr, sizeLine_eq]; omega) rfl sc_law_gram.nd (blkOk_by (N := ["_law_state_here", "_law_most", "_law_size", "_law_rows", "_law_i", "_law_j", "_law_x"]) (sc := d_law_gram.scope) (by decide +kernel)) (fun _ => rfl)
              (fun z hz v2 F2 H2 g pv s H' C cl fp => ev_abs T.n_abs (ev_v 6 rfl pv)) (fun _ _ _ _ _ => pg_name (i := 6) sc_law_gram.nd rfl (.inl rfl)))))) rfl) (fun i j h1 h2 => by omega))
          (fun F7 H7 g7 => ev_ixO (ev_v 3 rfl rfl) (ev_v 4 rfl rfl) (g7.own o6'.1 o6'.2).1 (atq hq) rfl) (fun F7 H7 g7 => ev_v 4 rfl rfl) eq6 fq (ixNat (by rw [List.length_map]; omega)) (fun v7 F7 H7 g7 p7 => ?_) g6.s
        obtain ⟨c, rfl, c0, c1⟩ := p7
        have o7' := g7.own o6'.1 o6'.2
        have hm7 := hm6.up g7
        have fq7 := (g7.own eq6 fq).2
        have dq : q ≠ l := fun z => dn (by rw [← z]; exact qm)
        have eset : (r.map V.int).set ii (.int c) = (r.set ii c).map V.int := by rw [List.map_set]
        rw [eset]
        have gg := ((g5.trans g6).trans g7).mut (o := .lst ((r.set ii c).map V.int)) (pn' q qm) fq7
        have hm8 := hm7.set (x := c) (j := ii) hq hrr
        have Rr : Rect (rows5.set ii (r.set ii c)) n n := t5.r.set (by rw [List.length_set]; exact lenr)
        have atf := fun a b => at2_set (x := c) t5.r hrr hin a b
        have rz : r.getD ii 0 = 0 := by
          have := t5.z ii (Nat.le_refl _)
          rw [at2_nat, getD_at hrr] at this
          exact this
        have rset : r.set ii 0 = r := by
          apply List.ext_getElem?
          intro k
          by_cases z : ii = k
          · subst z
            rw [List.getElem?_set_self (by omega)]
            rw [List.getD_eq_getElem?_getD, List.getElem?_eq_getElem (by omega)] at rz
            rw [List.getElem?_eq_getElem (by omega)]
            exact congrArg some rz.symm
          · rw [List.getElem?_set_ne z]
        refine x_nil gg.s ⟨s0'.trans (g6.f.trans g7.f), some (.int (ii : Nat)), _, rfl, s35.trans (g6.f.trans g7.f), gg, o7'.2, by rw [upd_ne dq.symm]; exact o7'.1, hm8, Rr, fun a b => ?_, fun a b hab => ?_, fun a h => ?_, fun a h => ?_⟩
        · rw [atf, atf]
          by_cases z : a = ii ∧ b = ii
          · rw [if_pos z, if_pos ⟨z.2, z.1⟩]
          · rw [if_neg z, if_neg (fun y => z ⟨y.2, y.1⟩)]
            exact t5.sy a b
        · rw [atf, if_neg (by omega)]
          exact t5.off a b hab
        · rw [atf, if_neg (by omega)]
          exact t5.z a (by omega)
        · by_cases z : a = ii
          · subst z
            rw [atf, if_pos ⟨rfl, rfl⟩]
            have e9 : rowAbs (rows5.set a (r.set a c)) a = (r.map fun x => (x.natAbs : Int)).sum := by
              unfold rowAbs
              rw [getD_at (List.getElem?_set_self (List.getElem?_eq_some_iff.mp hrr).1), List.set_set, rset]
            rw [e9]
            exact ⟨c - 1 - (r.map fun x => (x.natAbs : Int)).sum, by omega, by omega, by omega⟩
          · rw [atf, if_neg (by omega)]
            obtain ⟨t, t0, t1, t2⟩ := t5.dg a (by omega)
            refine ⟨t, t0, t1, ?_⟩
            have e9 : rowAbs (rows5.set ii (r.set ii c)) a = rowAbs rows5 a := by
              unfold rowAbs
              rw [List.getD_eq_getElem?_getD, List.getElem?_set_ne (Ne.symm z), ← List.getD_eq_getElem?_getD]
            rw [e9]
            exact t2
      · rintro σ1 F5 H5 s5 ⟨o4, rows5, rfl, s35, g5, f5, h5, hm5, t5⟩
        rw [rng_len, show ((n : Int) - 0).toNat = n by omega] at t5
        obtain ⟨F6, g6, s6, p6⟩ := HM.pub g5 hm5 pn' h5 f5 nl dn
        show Sx (cxD P w K mg base ["_law_state_here", "_law_most", "_law_size", "_law_rows", "_law_i", "_law_j", "_law_x"] d_law_gram cdv A outer s H E) _ _ F6 H5 _
        exact x_ret (P := pM rows5) (ev_v 3 rfl p6) (fun v F7 H7 g7 p7 => ⟨g6.trans g7, n, rows5, ⟨t5.r, n1, n3, t5.sy, t5.off, t5.dg⟩, p7⟩) g6.s

end
end K24
set_option Elab.async false
set_option linter.all false
set_option maxRecDepth 100000
set_option maxHeartbeats 4000000
set_option autoImplicit false
namespace K24
open PySem PySem.Spec PyProof.Rows L2
open PySem.W (Datum DatumOrd Holds HoldAll Tup)
section
variable {P : Program} {w : World} {K : PySem.W.Frag} {mg : Str → Option Value} {base : Heap}


def BasisOk (n : Nat) (U : Mx) : Prop := (∃ k, k ≤ 3 ∧ Uni n k U) ∨ ∃ (i j : Nat) (c : Int), i < n ∧ j < n ∧ i ≠ j ∧ -6 ≤ c ∧ c ≤ 6 ∧ U = (unitM n).set i (((unitM n).getD i []).set j c)
def pBasis (n : Nat) : Pr := fun v F => ∃ U, BasisOk n U ∧ pM U v F
def c_law_basis : Con := fun vs F R => ∃ (a : V) (n : Nat), vs = [a, .int (n : Nat)] ∧ pSt a F ∧ 1 ≤ n ∧ n ≤ 3 ∧ R = pBasis n
theorem ev_unim {X : Cx} {a b : Expr} {σ : L2.St} {F H : Hp} {p pos : Pos} {n k : Nat} (O : FnD X.prog X.w X.K X.mg X.base k "_law_unimodular" (spP c_law_unimodular)) (hr : Room k X.A) (ha : Ev X a σ F H pSt) (hb : Ev X b σ F H (pI (n : Nat))) (h1 : 1 ≤ n) (h3 : n ≤ 3) (hg : Gl X "_law_unimodular" := by rfl) (hs : starEach [a, b] X.env = (false, eval a X.env) :: starEach [b] X.env := by rfl) (hs2 : starEach [b] X.env = (false, eval b X.env) :: starEach [] X.env := by rfl) (hpl : (backTo pos (starEach [b] X.env)).any (·.1) = false := by rfl) : Ev X (.Call (.Name "_law_unimodular" p) [a, b] [] pos) σ F H (pBasis n) :=
  Ev.imp (ev_call (P := pUni n) (Ps := pCons pSt (pCons (pI (n : Nat)) pNil)) O hr (ea_cons ha (ea_one hb hs2) hs) (fun vs F1 sF ⟨a1, _, e1, b1, a2, _, e2, b2, e3⟩ => by
    cases e3
    cases b2
    subst e1 e2
    exact ⟨a1, n, rfl, b1, h1, h3, rfl⟩) hg (by decide) hs hpl) fun v F1 s ⟨k, U, hk, hU, p⟩ => ⟨U, .inl ⟨k, hk, hU⟩, p⟩

theorem sc_law_basis : FnScope ["_law_state_here", "_law_size", "_law_rows", "_law_i", "_law_j"] ["_law_state_here", "_law_size"] d_law_basis.scope := ⟨rfl, rfl, rfl, by decide +kernel, rfl, by decide +kernel, by decide +kernel⟩
theorem ok_law_basis (T : Tx K mg) : FnD P w K mg base 4 "_law_basis" (spP c_law_basis) :=
  mk_fn T (d := d_law_basis) 43 43 rfl rfl rfl rfl rfl sc_law_basis (fun _ _ _ _ _ _ us hl => match us, hl with | [_, _], _ => rfl) (fun vs F P h => by obtain ⟨_, _, e, _⟩ := h; rw [e]; rfl) fun cdv A outer s H E hr vs F R sm hc => by
    obtain ⟨a, n, rfl, ha, n1, n3, rfl⟩ := hc
    by_cases h2 : n < 2
    · exact x_when (k := true) (EvT.is (evt_or (k := true) (l := false) (EvT.is (evt_lt (ev_v 1 rfl rfl) ev_int) (decide_eq_true (by omega))) (fun h => nomatch h)) rfl) (fun _ F1 H1 g1 => x_ret (ev_unim (ok_law_unimodular T) (by exact hr) (ev_v 0 rfl (Mn.mono _ _ _ g1.f ha)) (ev_v 1 rfl rfl) n1 n3) (fun v F2 H2 g2 p => ⟨g1.trans g2, p⟩) g1.s) (fun h => nomatch h) sm
    refine x_whenJE (fun σ F1 H1 => σ = [some a, some (.int (n : Nat)), none, none, none] ∧ Gw F H F1 H1) (evtE_or (EvT.is (evt_lt (ev_v 1 rfl rfl) ev_int) (decide_eq_false (by omega))) (fun _ => evtE_gt (ev_take (ok_law_take T) (by exact hr.mono (by omega)) (ev_v 0 rfl ha) ev_int (by decide) (by decide)) (Ev.toE (S := fun _ => True) ev_int trivial))) (fun F1 H1 g1 => ?_) (fun F1 H1 g1 => ⟨rfl, g1⟩) ?_ sm
    · exact x_ret (ev_unim (ok_law_unimodular T) (by exact hr) (ev_v 0 rfl (Mn.mono _ _ _ g1.f ha)) (ev_v 1 rfl rfl) n1 n3) (fun v F2 H2 g2 p => ⟨g1.trans g2, p⟩) g1.s
    rintro σ F1 H1 s1 ⟨rfl, g1⟩
    have ha1 := Mn.mono _ _ _ g1.f ha
    refine x_setLcM 2 (lm_N (own := [("_law_i", 3)]) (i := 3) (fun i : Int => (rng 0 n).map fun k : Int => if decide (i = k) = true then (1 : Int) else 0) (wk_rng1 (n := (n : Int)) T.n_range (ev_v 1 rfl rfl) (by omega) (by omega)) (by rw [rng_len, sizeLine_eq]; omega) rfl sc_law_basis.nd (blkOk_by (N := ["_law_state_here", "_law_size", "_law_rows", "_law_i", "_law_j"]) (sc := d_law_basis.scope) (by decide +kernel)) (fun _ => rfl)
      (fun z hz v F1 H1 g pv s H' C cl fp => en_lc (own := [("_law_j", 4)]) (i := 4) (f := pI) (fun k : Int => if decide (z = k) = true then (1 : Int) else 0) (wk_rng1 (n := (n : Int)) T.n_range (ev_v 1 rfl rfl) (by omega) (by omega)) (by rw [rng_len, sizeLine_eq]; omega) rfl sc_law_basis.nd (blkOk_by (N := ["_law_state_here", "_law_size", "_law_rows", "_law_i", "_law_j"]) (sc := _) (by kernel_rfl)) (fun _ => rfl)
        (fun r hr v2 F2 H2 g2 pv2 s2 H2' C2 cl2 fp2 => ev_intB T.n_int (ev_eq (ev_v 3 rfl pv) (ev_v 4 rfl pv2)))
        (fun _ _ _ _ _ => pg_name (i := 4) sc_law_basis.nd rfl (.inl rfl))) (fun _ _ _ _ _ => pg_name (i := 3) sc_law_basis.nd rfl (.inr rfl))) (fun l ps F2 H2 g2 m1 m2 m3 hm dn pn => ?_) s1
    have hm : HM F2 H2 ps (unitM n) := hm
    have ha2 := Mn.mono _ _ _ g2.f ha1
    have g02 := g1.trans g2
    have nl := g1.new m1
    have pn' : ∀ q ∈ ps, H q = none := fun q hq => g1.new (pn q hq)
    refine x_set 3 (P := pE fun r => 0 ≤ r ∧ r < n) (ev_take (ok_law_take T) (by exact hr.mono (by omega)) (ev_v 0 rfl ha2) (ev_v 1 rfl rfl) (by omega) (by omega)) (fun v3 F3 H3 g3 p3 => ?_) g2.s sc_law_basis.nd
    obtain ⟨i3, rfl, i0, i1⟩ := p3
    obtain ⟨iN, rfl⟩ : ∃ k : Nat, i3 = k := ⟨i3.toNat, by omega⟩
    refine x_set 4 (P := pE fun r => 0 ≤ r ∧ r < n ∧ r ≠ iN) (ev_modE (S := fun r => (iN : Int) + 1 ≤ r ∧ r < iN + n) (ev_int1E T.n_int (ev_addE (S := fun r => r = (iN : Int) + 1) (T := fun r => 0 ≤ r ∧ r < (n : Int) - 1) (Ev.toE (ev_add (ev_v 3 rfl rfl) ev_int) rfl) (ev_take (ok_law_take T) (by exact hr.mono (by omega)) (ev_v 0 rfl (Mn.mono _ _ _ g3.f ha2)) (ev_sub (ev_v 1 rfl rfl) ev_int) (by omega) (by omega)) (fun i j h1 h2 => by omega))) (ev_v 1 rfl rfl) (by omega) (fun i h => by
      have e0 := Int.fmod_nonneg_of_pos i (show (0 : Int) < n by omega)
      have e1 := Int.fmod_lt_of_pos i (show (0 : Int) < n by omega)
      refine ⟨e0, e1, fun e => ?_⟩
      have e2 := Int.mul_fdiv_add_fmod i n
      rw [e] at e2
      have e3 : (n : Int) * i.fdiv n = i - iN := by omega
      have e4 : 0 < i.fdiv n := by
        rcases Int.lt_or_le 0 (i.fdiv n) with z | z
        · exact z
        · have := Int.mul_nonpos_of_nonneg_of_nonpos (show (0 : Int) ≤ n by omega) z
          omega
      have e5 : (n : Int) * 1 ≤ n * i.fdiv n := Int.mul_le_mul_of_nonneg_left (by omega) (by omega)
      omega)) (fun v4 F4 H4 g4 p4 => ?_) g3.s sc_law_basis.nd
    obtain ⟨j4, rfl, j0, j1, jne⟩ := p4
    obtain ⟨jN, rfl⟩ : ∃ k : Nat, j4 = k := ⟨j4.toNat, by omega⟩
    have g24 := g3.trans g4
    have o4 := g24.own m3 m2
    have hm4 := hm.up g24
    obtain ⟨r, hrr, lenr⟩ := (unit_rect n).get (show iN < n by omega)
    obtain ⟨q, hq, eq4, fq, qm⟩ := hm4.at hrr
    have atq : atI (ps.map V.ref) (iN : Int) = some (V.ref q) := atI_nat (by rw [List.getElem?_map, hq]; rfl)
    refine x_setIJ (P := pE fun r => -6 ≤ r ∧ r ≤ 6) (q := q) (nj := (jN : Nat)) (j := jN) (vs := r.map V.int) (ev_subE (S := fun r => 0 ≤ r ∧ r < 13) (T := fun r => r = 6) (ev_take (ok_law_take T) (by exact hr.mono (by omega)) (ev_v 0 rfl (Mn.mono _ _ _ g24.f ha2)) ev_int (by decide) (by decide)) (Ev.toE ev_int rfl) (fun i j h1 h2 => by omega)) (fun F5 H5 g5 => ev_ixO (ev_v 2 rfl rfl) (ev_v 3 rfl rfl) (g5.own o4.1 o4.2).1 atq rfl) (fun F5 H5 g5 => ev_v 4 rfl rfl) eq4 fq (ixNat (by rw [List.length_map]; omega)) (fun v5 F5 H5 g5 p5 => ?_) g4.s
    obtain ⟨c, rfl, c0, c1⟩ := p5
    have o5 := g5.own o4.1 o4.2
    have hm5 := hm4.up g5
    have fq5 := (g5.own eq4 fq).2
    have dq : q ≠ l := fun z => dn (by rw [← z]; exact qm)
    have eset : (r.map V.int).set jN (.int c) = (r.set jN c).map V.int := by rw [List.map_set]
    rw [eset]
    have gg := ((g02.trans g24).trans g5).mut (o := .lst ((r.set jN c).map V.int)) (pn' q qm) fq5
    have hm6 := hm5.set (x := c) (j := jN) hq hrr
    obtain ⟨F6, g6, s6, p6⟩ := HM.pub gg hm6 pn' (by rw [upd_ne dq.symm]; exact o5.1) o5.2 nl dn
    show Sx (cxD P w K mg base ["_law_state_here", "_law_size", "_law_rows", "_law_i", "_law_j"] d_law_basis cdv A outer s H E) _ _ F6 _ _
    refine x_ret (P := pM ((unitM n).set iN (r.set jN c))) (ev_v 2 rfl p6) (fun v F7 H7 g7 p7 => ⟨g6.trans g7, _, .inr ⟨iN, jN, c, by omega, by omega, fun e => jne (by rw [e]), c0, c1, rfl⟩, ?_⟩) g6.s
    rw [getD_at hrr]
    exact p7


def prodL (g : Mx) (v w : List Int) : Int := ((rng 0 v.length).map fun i => ((rng 0 w.length).map fun j => v.getD i.toNat 0 * at2 g i j * w.getD j.toNat 0).sum).sum
def c_law_product : Con := fun vs F R => ∃ (a b c : V) (m : Mx) (v w : List Int) (n : Nat), vs = [a, b, c] ∧ pM m a F ∧ Rect m n n ∧ n ≤ 10 ∧ pSR v b F ∧ pSR w c F ∧ v.length = n ∧ w.length = n ∧ (∀ x ∈ v, x.natAbs < 2 ^ 64) ∧ (∀ x ∈ w, x.natAbs < 2 ^ 64) ∧ R = pI (prodL m v w)

theorem sc_law_product : FnScope ["_law_gram_here", "_law_v", "_law_w", "_law_total", "_law_i", "_law_j"] ["_law_gram_here", "_law_v", "_law_w"] d_law_product.scope := ⟨rfl, rfl, rfl, by decide +kernel, rfl, by decide +kernel, by decide +kernel⟩
theorem ok_law_product (T : Tx K mg) : FnD P w K mg base 1 "_law_product" (spP c_law_product) :=
  mk_fn T (d := d_law_product) 41 41 rfl rfl rfl rfl rfl sc_law_product (fun _ _ _ _ _ _ us hl => match us, hl with | [_, _, _], _ => rfl) (fun vs F P h => by obtain ⟨_, _, _, _, _, _, _, e, _⟩ := h; rw [e]; rfl) fun cdv A outer s H E hr vs F R sm hc => by
    obtain ⟨a, b, c, m, v, w', n, rfl, ha, Rm, hn, hb, hc', lv, lw, bv, bw, rfl⟩ := hc
    refine x_set 3 (P := pI 0) ev_int (fun v1 F1 H1 g1 p1 => ?_) sm sc_law_product.nd
    cases p1
    have ha1 := Mn.mono _ _ _ g1.f ha
    have hb1 := Mn.mono _ _ _ g1.f hb
    have hc1 := Mn.mono _ _ _ g1.f hc'
    let S : Int → Option V → Option V → L2.St := fun t o4 o5 => [some a, some b, some c, some (.int t), o4, o5]
    refine x_forN (i := 4) (xs := rng 0 n) (pr := pI) (fun i σ1 F3 H3 => ∃ o4 o5, σ1 = S (((rng 0 n).take i).map fun i => ((rng 0 n).map fun j => v.getD i.toNat 0 * at2 m i j * w'.getD j.toNat 0).sum).sum o4 o5 ∧ Gw F1 H1 F3 H3)
      (wk_rng1 (n := (n : Int)) T.n_range (ev_lenV (f := pI) T.n_len (ev_v 1 rfl hb1) lv) (by omega) (by omega)) (fun F3 H3 g3 => ⟨none, none, rfl, g3⟩) ?_ ?_ g1.s PassesOwn.never rfl sc_law_product.nd
    · rintro F0 ii i σ1 F3 H3 hi s0' s3 ⟨o4, o5, rfl, g3⟩ vv F4 H4 g4 pv
      cases pv
      obtain ⟨i0, i1⟩ := mem_rng.mp (List.mem_of_getElem? hi)
      refine x_forN (i := 5) (xs := rng 0 n) (pr := pI) (fun j σ1 F5 H5 => ∃ o5, σ1 = S ((((rng 0 n).take ii).map fun i => ((rng 0 n).map fun j => v.getD i.toNat 0 * at2 m i j * w'.getD j.toNat 0).sum).sum + (((rng 0 n).take j).map fun j => v.getD i.toNat 0 * at2 m i j * w'.getD j.toNat 0).sum) (some (.int i)) o5 ∧ Same F0 F5 ∧ Gw F1 H1 F5 H5)
        (wk_rng1 (n := (n : Int)) T.n_range (ev_lenV (f := pI) T.n_len (ev_v 2 rfl (Mn.mono _ _ _ (g3.f.trans g4.f) hc1)) lw) (by omega) (by omega)) (fun F5 H5 g5 => ⟨o5, by simp; rfl, s0'.trans (g4.f.trans g5.f), g3.trans (g4.trans g5)⟩) ?_ ?_ g4.s PassesOwn.never rfl sc_law_product.nd
      · rintro F0' jj j σ1 F5 H5 hj s0'' s5 ⟨o5, rfl, s05, g5⟩ vw F6 H6 g6 pw
        cases pw
        obtain ⟨j0, j1⟩ := mem_rng.mp (List.mem_of_getElem? hj)
        have sf := g5.f.trans g6.f
        refine x_set 3 (P := pI ((((rng 0 n).take ii).map fun i => ((rng 0 n).map fun j => v.getD i.toNat 0 * at2 m i j * w'.getD j.toNat 0).sum).sum + (((rng 0 n).take jj).map fun j => v.getD i.toNat 0 * at2 m i j * w'.getD j.toNat 0).sum + v.getD i.toNat 0 * at2 m i j * w'.getD j.toNat 0)) (ev_add (ev_v 3 rfl rfl) (ev_mul (ev_mul (ev_ixS (f := pI) (ev_v 1 rfl (Mn.mono _ _ _ sf hb1)) (ev_v 4 rfl rfl) (atI_in 0 i0 (by omega))) (ev_ixL (ev_ixL (f := pR) (ev_v 0 rfl (Mn.mono _ _ _ sf ha1)) (ev_v 4 rfl rfl) (Rm.row i0 i1).1) (ev_v 5 rfl rfl) (Rm.at i0 i1 j0 j1)) (CMul.l (bv _ (getD_mem (by omega))))) (ev_ixS (f := pI) (ev_v 2 rfl (Mn.mono _ _ _ sf hc1)) (ev_v 5 rfl rfl) (atI_in 0 j0 (by omega))) (CMul.r (bw _ (getD_mem (by omega)))))) (fun v7 F7 H7 g7 p7 => ?_) g6.s sc_law_product.nd
        cases p7
        rw [Int.add_assoc, ← sum_take (f := fun j => v.getD i.toNat 0 * at2 m i j * w'.getD j.toNat 0) hj]
        exact x_nil g7.s ⟨s0''.trans (g6.f.trans g7.f), some (.int j), rfl, s05.trans (g6.f.trans g7.f), g5.trans (g6.trans g7)⟩
      · rintro σ1 F5 H5 s5 ⟨o5, rfl, s05, g5⟩
        rw [List.take_length, ← sum_take (f := fun i => ((rng 0 n).map fun j => v.getD i.toNat 0 * at2 m i j * w'.getD j.toNat 0).sum) hi]
        exact x_nil s5 ⟨s05, some (.int i), o5, rfl, g5⟩
    · rintro σ1 F3 H3 s3 ⟨o4, o5, rfl, g3⟩
      rw [List.take_length]
      refine x_ret (P := pI (prodL m v w')) (Ev.is (ev_v 3 (P := pI _) rfl rfl) (by unfold prodL; rw [lv, lw])) (fun v4 F4 H4 g4 p4 => ⟨g1.trans (g3.trans g4), p4⟩) s3


def movedL (m rows : Mx) : Mx := rows.map fun v => rows.map fun w => prodL m v w
def c_law_moved : Con := fun vs F R => ∃ (a b : V) (m rows : Mx) (n : Nat), vs = [a, b] ∧ pM m a F ∧ Rect m n n ∧ n ≤ 10 ∧ pSS rows b F ∧ Rect rows n n ∧ (∀ r ∈ rows, ∀ x ∈ r, x.natAbs < 2 ^ 64) ∧ R = pM (movedL m rows)

theorem sc_law_moved : FnScope ["_law_gram_here", "_law_rows", "_law_v", "_law_w"] ["_law_gram_here", "_law_rows"] d_law_moved.scope := ⟨rfl, rfl, rfl, by decide +kernel, rfl, by decide +kernel, by decide +kernel⟩
theorem ok_law_moved (T : Tx K mg) : FnD P w K mg base 2 "_law_moved" (spP c_law_moved) :=
  mk_fn T (d := d_law_moved) 42 42 rfl rfl rfl rfl rfl sc_law_moved (fun _ _ _ _ _ _ us hl => match us, hl with | [_, _], _ => rfl) (fun vs F P h => by obtain ⟨_, _, _, _, _, e, _⟩ := h; rw [e]; rfl) fun cdv A outer s H E hr vs F R sm hc => by
    obtain ⟨a, b, m, rows, n, rfl, ha, Rm, hn, hb, Rr, bd, rfl⟩ := hc
    refine x_ret (EvN.ev (en_lc (own := [("_law_v", 2)]) (i := 2) (f := pR) (fun v : List Int => rows.map fun w => prodL m v w) (wk_SS hb (fun P _ hP => ev_v 1 rfl hP)) (by rw [Rr.h, sizeLine_eq]; omega) rfl sc_law_moved.nd (blkOk_by (N := ["_law_gram_here", "_law_rows", "_law_v", "_law_w"]) (sc := d_law_moved.scope) (by decide +kernel)) (fun _ => rfl)
      (fun z hz v F1 H1 g pv s H' C cl fp => EvN.ev (en_lc (own := [("_law_w", 3)]) (i := 3) (f := pI) (fun w : List Int => prodL m z w) (wk_SS (Mn.mono _ _ _ g.f hb) (fun P _ hP => ev_v 1 rfl hP)) (by rw [Rr.h, sizeLine_eq]; omega) rfl sc_law_moved.nd (blkOk_by (N := ["_law_gram_here", "_law_rows", "_law_v", "_law_w"]) (sc := _) (by kernel_rfl)) (fun _ => rfl)
        (fun r hrm v2 F2 H2 g2 pv2 s2 H2' C2 cl2 fp2 => ev_call (P := pI (prodL m z r)) (Ps := pCons (pM m) (pCons (pSR z) (pCons (pSR r) pNil))) (ok_law_product T) (by exact hr) (ea_cons (ev_v 0 rfl (Mn.mono _ _ _ (g.f.trans g2.f) ha)) (ea_cons (ev_v 2 rfl (Mn.mono _ _ _ g2.f pv)) (ea_one (ev_v 3 rfl pv2)))) (fun vs F1 sF ⟨a1, _, e1, b1, a2, _, e2, b2, a3, _, e3, b3, e4⟩ => by
          cases e4
          subst e1 e2 e3
          exact ⟨a1, a2, a3, m, z, r, n, rfl, b1, Rm, hn, b2, b3, Rr.w z hz, Rr.w r hrm, bd z hz, bd r hrm, rfl⟩))
        (fun _ _ _ _ _ => pg_name (i := 3) sc_law_moved.nd rfl (.inl rfl)))) (fun _ _ _ _ _ => pg_name (i := 2) sc_law_moved.nd rfl (.inr rfl)))) (fun v F1 H1 g p => ⟨g, p⟩) sm

end
end K24
set_option Elab.async false
set_option linter.all false
set_option maxRecDepth 100000
set_option maxHeartbeats 4000000
set_option autoImplicit false
namespace K24
open PySem PySem.Spec PyProof.Rows L2
open PySem.W (Datum DatumOrd Holds HoldAll Tup)
section
variable {P : Program} {w : World} {K : PySem.W.Frag} {mg : Str → Option Value} {base : Heap}


theorem rd_T0 {α : Type} {f : α → Pr} : Rd8 (Tup.mk ([] : List Int)) (pT f []) := fun X pins σ H s F v u I sm ⟨a, vs, e, hF, r⟩ rv => by
  have hv : vs = [] := List.length_eq_zero_iff.mp r.1
  subst hv
  exact rd_TI [] X pins σ H s F v u I sm ⟨a, [], e, hF, AllP.nil⟩ rv
theorem ev_alike {X : Cx} {a b : Expr} {σ : L2.St} {F H : Hp} {p pos : Pos} {m1 m2 g1 g2 : Mx} {n k : Nat} (O : FnD X.prog X.w X.K X.mg X.base k "alike" (spP (c_alike X.K))) (hr : Room k X.A) (ha : Ev X a σ F H (pLa X.K m1)) (hb : Ev X b σ F H (pLa X.K m2)) (l1 : m1.length = n) (l2 : m2.length = n) (f1 : FormIs m1 n g1) (f2 : FormIs m2 n g2) (hg : Gl X "alike" := by rfl) (hs : starEach [a, b] X.env = (false, eval a X.env) :: starEach [b] X.env := by rfl) (hs2 : starEach [b] X.env = (false, eval b X.env) :: starEach [] X.env := by rfl) (hpl : (backTo pos (starEach [b] X.env)).any (·.1) = false := by rfl) : Ev X (.Call (.Name "alike" p) [a, b] [] pos) σ F H (pB (decide (g1 = g2))) :=
  ev_call (Ps := pCons (pLa X.K m1) (pCons (pLa X.K m2) pNil)) O hr (ea_cons ha (ea_one hb hs2) hs) (fun vs F1 sF ⟨a1, _, e1, b1, a2, _, e2, b2, e3⟩ => by
    cases e3
    subst e1 e2
    exact ⟨a1, a2, m1, m2, g1, g2, n, rfl, b1, b2, l1, l2, f1, f2, rfl⟩) hg (by decide) hs hpl
theorem ev_maps {X : Cx} {a b : Expr} {σ : L2.St} {F H : Hp} {p pos : Pos} {m1 m2 : Mx} {M : List Mx} {n k : Nat} (O : FnD X.prog X.w X.K X.mg X.base k "all_maps" (spP (c_all_maps X.K))) (hr : Room k X.A) (ha : Ev X a σ F H (pLa X.K m1)) (hb : Ev X b σ F H (pLa X.K m2)) (h : MapsIs m1 m2 n M) (hg : Gl X "all_maps" := by rfl) (hs : starEach [a, b] X.env = (false, eval a X.env) :: starEach [b] X.env := by rfl) (hs2 : starEach [b] X.env = (false, eval b X.env) :: starEach [] X.env := by rfl) (hpl : (backTo pos (starEach [b] X.env)).any (·.1) = false := by rfl) : Ev X (.Call (.Name "all_maps" p) [a, b] [] pos) σ F H (pT (fun r => pG X.K r n) M) :=
  ev_call (Ps := pCons (pLa X.K m1) (pCons (pLa X.K m2) pNil)) O hr (ea_cons ha (ea_one hb hs2) hs) (fun vs F1 sF ⟨a1, _, e1, b1, a2, _, e2, b2, e3⟩ => by
    cases e3
    subst e1 e2
    exact ⟨a1, a2, m1, m2, n, M, rfl, b1, b2, h, rfl⟩) hg (by decide) hs hpl
def unA (p q : Int) : Mx := [[p, -1, 0], [-1, q, 0], [0, 0, p + q]]
def unB (p q : Int) : Mx := [[p, 0, -1], [0, q, -1], [-1, -1, p + q]]
structure UnFacts (p q : Int) : Prop where
  a : LatOk (unA p q) 3
  b : LatOk (unB p q) 3
  f : ∃ g1 g2, FormIs (unA p q) 3 g1 ∧ FormIs (unB p q) 3 g2 ∧ g1 ≠ g2
  m1 : MapsIs (unA p q) (unB p q) 3 []
  m2 : MapsIs (unB p q) (unA p q) 3 []
def UnAll : Prop := ∀ p q : Int, 2 ≤ p → p ≤ 4 → 2 ≤ q → q ≤ 4 → UnFacts p q
def c_law_unlike_pair : Con := fun vs F R => ∃ a : V, vs = [a] ∧ pSt a F ∧ UnAll ∧ R = pB true

theorem sc_law_unlike_pair : FnScope ["_law_state_here", "_law_p", "_law_q", "_law_one", "_law_two"] ["_law_state_here"] d_law_unlike_pair.scope := ⟨rfl, rfl, rfl, by decide +kernel, rfl, by decide +kernel, by decide +kernel⟩
theorem ok_law_unlike_pair (T : Tx K mg) : FnD P w K mg base 14 "_law_unlike_pair" (spP c_law_unlike_pair) :=
  mk_fn T (d := d_law_unlike_pair) 44 44 rfl rfl rfl rfl rfl sc_law_unlike_pair (fun _ _ _ _ _ _ us hl => match us, hl with | [_], _ => rfl) (fun vs F P h => by obtain ⟨_, e, _⟩ := h; rw [e]; rfl) fun cdv A outer s H E hr vs F R sm hc => by
    obtain ⟨a, rfl, ha, un, rfl⟩ := hc
    refine x_set 1 (P := pE fun r => 2 ≤ r ∧ r ≤ 4) (ev_addE (S := fun r => r = 2) (T := fun r => 0 ≤ r ∧ r < 3) (Ev.toE ev_int rfl) (ev_take (ok_law_take T) (by exact hr.mono (by omega)) (ev_v 0 rfl ha) ev_int (by decide) (by decide)) (fun i j h1 h2 => by omega)) (fun v1 F1 H1 g1 p1 => ?_) sm sc_law_unlike_pair.nd
    obtain ⟨p, rfl, p0, p1⟩ := p1
    refine x_set 2 (P := pE fun r => 2 ≤ r ∧ r ≤ 4) (ev_addE (S := fun r => r = 2) (T := fun r => 0 ≤ r ∧ r < 3) (Ev.toE ev_int rfl) (ev_take (ok_law_take T) (by exact hr.mono (by omega)) (ev_v 0 rfl (Mn.mono _ _ _ g1.f ha)) ev_int (by decide) (by decide)) (fun i j h1 h2 => by omega)) (fun v2 F2 H2 g2 p2 => ?_) g1.s sc_law_unlike_pair.nd
    obtain ⟨q, rfl, q0, q1⟩ := p2
    obtain ⟨la, lb, ⟨f1, f2, hf1, hf2, hne⟩, mm1, mm2⟩ := un p q p0 p1 q0 q1
    refine x_set 3 (P := pLa K (unA p q)) (ev_mkL (n := 3) T (by exact hr.mono (by omega)) (EvN.ev (en_lst3 (f := pR) (EvN.ev (en_lst3 (f := pI) (ev_v 1 rfl rfl) (ev_neg ev_int) ev_int)) (EvN.ev (en_lst3 (f := pI) (ev_neg ev_int) (ev_v 2 rfl rfl) ev_int)) (EvN.ev (en_lst3 (f := pI) ev_int ev_int (ev_add (ev_v 1 rfl rfl) (ev_v 2 rfl rfl)))))) la) (fun v3 F3 H3 g3 p3 => ?_) g2.s sc_law_unlike_pair.nd
    refine x_set 4 (P := pLa K (unB p q)) (ev_mkL (n := 3) T (by exact hr.mono (by omega)) (EvN.ev (en_lst3 (f := pR) (EvN.ev (en_lst3 (f := pI) (ev_v 1 rfl rfl) ev_int (ev_neg ev_int))) (EvN.ev (en_lst3 (f := pI) ev_int (ev_v 2 rfl rfl) (ev_neg ev_int))) (EvN.ev (en_lst3 (f := pI) (ev_neg ev_int) (ev_neg ev_int) (ev_add (ev_v 1 rfl rfl) (ev_v 2 rfl rfl)))))) lb) (fun v4 F4 H4 g4 p4 => ?_) g3.s sc_law_unlike_pair.nd
    have p3' := Mn.mono _ _ _ g4.f p3
    refine x_skip (EvT.is (evt_or (evt_notB (ev_alike (ok_alike T) (by exact hr) (ev_v 3 rfl p3') (ev_v 4 rfl p4) rfl rfl hf1 hf2) ev_bl) (fun _ => evt_notB (ev_alike (ok_alike T) (by exact hr) (ev_v 4 rfl p4) (ev_v 3 rfl p3') rfl rfl hf2 hf1) ev_bl)) (by rw [decide_eq_false hne, decide_eq_false (Ne.symm hne)]; rfl)) (fun F5 H5 g5 => ?_) g4.s
    have p3'' := Mn.mono _ _ _ g5.f p3'
    have p4'' := Mn.mono _ _ _ g5.f p4
    exact x_ret (ev_and (k := true) (l := true) (Ev.is (ev_eqD (x := Tup.mk ([] : List Int)) (y := Tup.mk ([] : List Int)) (ev_maps (ok_all_maps T) (by exact hr) (ev_v 3 rfl p3'') (ev_v 4 rfl p4'') mm1) (ev_tup0 (f := pI)) rd_T0 rd_T0 (by exact roomD hr (by decide))) (by rw [decide_eq_true rfl])) (fun _ => Ev.is (ev_eqD (x := Tup.mk ([] : List Int)) (y := Tup.mk ([] : List Int)) (ev_maps (ok_all_maps T) (by exact hr) (ev_v 4 rfl p4'') (ev_v 3 rfl p3'') mm2) (ev_tup0 (f := pI)) rd_T0 rd_T0 (by exact roomD hr (by decide))) (by rw [decide_eq_true rfl]))) (fun v F6 H6 g6 p6 => ⟨(g1.trans g2).trans (g3.trans (g4.trans (g5.trans g6))), p6⟩) g5.s


def thirdM (g : Mx) : Mx := g.set 0 ((g.getD 0 []).set 0 (at2 g 0 0 + 1))
structure LawFacts (g U : Mx) (n : Nat) : Prop where
  bU : ∀ r ∈ U, ∀ x ∈ r, x.natAbs < 2 ^ 64
  RU : Rect U n n
  lat1 : LatOk g n
  lat2 : LatOk (movedL g U) n
  maps : ∃ M, MapsIs (movedL g U) g n M ∧ U ∈ M ∧ M.length ≤ 1000000 ∧ (∀ X ∈ M, Rect X n n ∧ (∀ r ∈ X, ∀ x ∈ r, x.natAbs < 2 ^ 64) ∧ movedL g X = movedL g U) ∧ (∀ (k : Nat) (A B : Mx), M[k]? = some A → M[k + 1]? = some B → DatumOrd.lt (toTT A) (toTT B) = true) ∧
    (∃ f1, BasesIs g n f1 ∧ f1.length = M.length) ∧ (∃ f2, BasesIs (movedL g U) n f2 ∧ f2.length = M.length) ∧ ∃ M', MapsIs g (movedL g U) n M' ∧ M'.length = M.length
  lat3 : LatOk (thirdM g) n
  forms : ∃ f1 f3, FormIs g n f1 ∧ FormIs (movedL g U) n f1 ∧ FormIs (thirdM g) n f3 ∧ f1 ≠ f3
def LawAll : Prop := ∀ (n : Nat) (g U : Mx), GramOk g n → BasisOk n U → LawFacts g U n
theorem ev_orT {X : Cx} {a b : Expr} {σ : L2.St} {F H : Hp} {pos : Pos} (ha : Ev X a σ F H (fun v _ => ∃ k, v = .bl k)) (hb : Ev X b σ F H (pB true)) : Ev X (.BoolOp .Or [a, b] pos) σ F H (pB true) := fun F1 H1 g1 Q q =>
  we (pe_or pe_w (pe_one pe_w)) (ha F1 H1 g1 _ fun v F2 H2 g2 ⟨k, e⟩ => ⟨k, e, by
    cases k with
    | true => exact iteT (q _ F2 H2 g2 rfl)
    | false => exact iteF (hb F2 H2 (g1.trans g2) Q fun w F3 H3 g3 p3 => q w F3 H3 (g2.trans g3) p3)⟩)
theorem ev_gtE {X : Cx} {a b : Expr} {σ : L2.St} {F H : Hp} {pos : Pos} {S T : Int → Prop} (ha : Ev X a σ F H (pE S)) (hb : Ev X b σ F H (pE T)) : Ev X (.Compare a [.Gt] [b] pos) σ F H (fun v _ => ∃ k, v = .bl k) :=
  ev_cmp op_gt ha hb (fun _ _ F1 H1 g ⟨i, e1, _⟩ ⟨j, e2, _⟩ Q q => ⟨i, j, e1, e2, q _ F1 H1 (Gw.refl g.s) ⟨_, rfl⟩⟩) (nomark _)
def c_law (KK : PySem.W.Frag) : Con := fun vs F R => ∃ (a : V) (ns : List Int), vs = [a] ∧ pScr KK ns a F ∧ ns.length ≤ 63 ∧ UnAll ∧ LawAll ∧ R = pB true

end
end K24
set_option Elab.async false
set_option linter.all false
set_option maxRecDepth 100000
set_option maxHeartbeats 4000000
set_option autoImplicit false
namespace K24
open PySem PySem.Spec PyProof.Rows L2
open PySem.W (Datum DatumOrd Holds HoldAll Tup)
section
variable {P : Program} {w : World} {K : PySem.W.Frag} {mg : Str → Option Value} {base : Heap}


theorem en_map_id {X : Cx} {e : Expr} {σ : L2.St} {F H : Hp} {xs : List Int} (h : EvN X e σ F H pI (xs.map fun x => x)) : EvN X e σ F H pI xs := by rw [List.map_id'] at h; exact h
theorem rd_M (m : Mx) : Rd8 m (pM m) := rd_L (rd_L rd_int) m

theorem sc_law : FnScope ["_law_script", "_law_state_here", "_law_gram_here", "_law_rows", "_law_moved_here", "_law_one", "_law_two", "_law_maps", "_law_told", "_law_k", "_law_third", "_law_other", "_law_m", "_law_row", "_law_x"] ["_law_script"] d_law.scope := ⟨rfl, rfl, rfl, by decide +kernel, rfl, by decide +kernel, by decide +kernel⟩
theorem body_law (T : Tx K mg) (cdv : Value) (A : Around) (outer : List Env) (s : Shared) (H : Hp) (E : XK) (hr : Room 14 (cxD P w K mg base ["_law_script", "_law_state_here", "_law_gram_here", "_law_rows", "_law_moved_here", "_law_one", "_law_two", "_law_maps", "_law_told", "_law_k", "_law_third", "_law_other", "_law_m", "_law_row", "_law_x"] d_law cdv A outer s H E).A) (vs : List V) (F : Hp) (R : Pr) (sm : Same F H) (hc : c_law K vs F R) : Sx (cxD P w K mg base ["_law_script", "_law_state_here", "_law_gram_here", "_law_rows", "_law_moved_here", "_law_one", "_law_two", "_law_maps", "_law_told", "_law_k", "_law_third", "_law_other", "_law_m", "_law_row", "_law_x"] d_law cdv A outer s H E) d_law.body (start ["_law_script", "_law_state_here", "_law_gram_here", "_law_rows", "_law_moved_here", "_law_one", "_law_two", "_law_maps", "_law_told", "_law_k", "_law_third", "_law_other", "_law_m", "_law_row", "_law_x"] vs) F H (GEp F H R) := by
    obtain ⟨a, ns, rfl, ha, hl, un, all, rfl⟩ := hc
    refine x_set 1 (P := pSt) (ev_call (cn := c_law_state K) (Ps := pCons (pScr K ns) pNil) (ok_law_state T) (by exact hr.mono (by omega)) (ea_one (ev_v 0 rfl ha)) (fun vs F1 sF ⟨a1, _, e1, b1, e2⟩ => by
      cases e2
      subst e1
      exact ⟨a1, ns, rfl, b1, hl, rfl⟩)) (fun vs F1 H1 g1 ps => ?_) sm sc_law.nd
    refine x_set 2 (P := pGram) (ev_call (Ps := pCons pSt (pCons (pI 3) pNil)) (ok_law_gram T) (by exact hr.mono (by omega)) (ea_cons (ev_v 1 rfl ps) (ea_one ev_int)) (fun vs F1 sF ⟨a1, _, e1, b1, a2, _, e2, b2, e3⟩ => by
      cases e3
      cases b2
      subst e1 e2
      exact ⟨a1, rfl, b1, rfl⟩)) (fun vg F2 H2 g2 pg => ?_) g1.s sc_law.nd
    obtain ⟨n, g, hG, pg⟩ := pg
    have n1 := hG.n1
    have n3 := hG.n3
    have ps2 := Mn.mono _ _ _ g2.f ps
    refine x_set 3 (P := pBasis n) (ev_call (Ps := pCons pSt (pCons (pI (n : Nat)) pNil)) (ok_law_basis T) (by exact hr.mono (by omega)) (ea_cons (ev_v 1 rfl ps2) (ea_one (Ev.is (ev_lenL (f := pR) T.n_len (ev_v 2 rfl pg)) (by rw [hG.r.h])))) (fun vs F1 sF ⟨a1, _, e1, b1, a2, _, e2, b2, e3⟩ => by
      cases e3
      cases b2
      subst e1 e2
      exact ⟨a1, n, rfl, b1, n1, n3, rfl⟩)) (fun vu F3 H3 g3 pu => ?_) g2.s sc_law.nd
    obtain ⟨U, hB, pu⟩ := pu
    obtain ⟨bU, RU, lat1, lat2, ⟨M, hM, hUM, lM, hX, hsort, ⟨b1, hb1, lb1⟩, ⟨b2, hb2, lb2⟩, ⟨M', hM', lM'⟩⟩, lat3, ⟨f1, f3, hf1, hf2, hf3, hne⟩⟩ := all n g U hG hB
    have pg3 := Mn.mono _ _ _ g3.f pg
    have l1 : g.length = n := hG.r.h
    have l2 : (movedL g U).length = n := by unfold movedL; rw [List.length_map, RU.h]
    have mv : ∀ {X : Mx}, Rect X n n → (∀ r ∈ X, ∀ x ∈ r, x.natAbs < 2 ^ 64) → ∀ (v1 v2 : V) (F : Hp), pM g v1 F → pSS X v2 F → c_law_moved [v1, v2] F (pM (movedL g X)) := fun RX bX v1 v2 F h1 h2 => ⟨v1, v2, g, _, n, rfl, h1, hG.r, by omega, h2, RX, bX, rfl⟩
    refine x_set 4 (P := pM (movedL g U)) (ev_call (Ps := pCons (pM g) (pCons (pSS U) pNil)) (ok_law_moved T) (by exact hr.mono (by omega)) (ea_cons (ev_v 2 rfl pg3) (ea_one (ev_v 3 rfl (pM.ss pu)))) (fun vs F1 sF ⟨a1, _, e1, b1, a2, _, e2, b2, e3⟩ => by
      cases e3
      subst e1 e2
      exact mv RU bU _ _ _ b1 b2)) (fun vm F4 H4 g4 pm => ?_) g3.s sc_law.nd
    have pg4 := Mn.mono _ _ _ g4.f pg3
    refine x_set 5 (P := pLa K g) (ev_mkL T (by exact hr.mono (by omega)) (ev_v 2 rfl pg4) lat1) (fun v1 F5 H5 g5 p1 => ?_) g4.s sc_law.nd
    refine x_set 6 (P := pLa K (movedL g U)) (ev_mkL T (by exact hr.mono (by omega)) (ev_v 4 rfl (Mn.mono _ _ _ g5.f pm)) lat2) (fun v2 F6 H6 g6 p2 => ?_) g5.s sc_law.nd
    have p16 := Mn.mono _ _ _ g6.f p1
    refine x_set 7 (P := pT (fun r => pG K r n) M) (ev_maps (ok_all_maps T) (by exact hr.mono (by omega)) (ev_v 6 rfl p2) (ev_v 5 rfl p16) hM) (fun v7 F7 H7 g7 p7 => ?_) g6.s sc_law.nd
    refine x_setLc 8 (lr_N (own := [("_law_m", 12)]) (i := 12) (f := pTT) (fun X : Mx => X) (wk_T (f := fun r => pG K r n) (ev_v 7 rfl p7)) (by rw [sizeLine_eq]; omega) rfl sc_law.nd (blkOk_by (N := ["_law_script", "_law_state_here", "_law_gram_here", "_law_rows", "_law_moved_here", "_law_one", "_law_two", "_law_maps", "_law_told", "_law_k", "_law_third", "_law_other", "_law_m", "_law_row", "_law_x"]) (sc := d_law.scope) (by decide +kernel)) (fun _ => rfl)
      (fun z hz v F1 H1 g pv s H' C cl fp => ev_rows T (ev_v 12 rfl pv)) (fun _ _ _ _ _ => pg_name (i := 12) sc_law.nd rfl (.inl rfl))) (fun lt ts F8 H8 g8 m1 m2 m3 r8 => ?_) g7.s
    rw [List.map_id'] at r8
    have gz := g8.frz m1 m2 m3
    show Sx (cxD P w K mg base ["_law_script", "_law_state_here", "_law_gram_here", "_law_rows", "_law_moved_here", "_law_one", "_law_two", "_law_maps", "_law_told", "_law_k", "_law_third", "_law_other", "_law_m", "_law_row", "_law_x"] d_law cdv A outer s H E) _ _ (upd F8 lt (.lst ts)) H8 _
    have pt : pL pTT M (.ref lt) (upd F8 lt (.lst ts)) := ⟨lt, ts, rfl, upd_same, r8.up (same_new m2)⟩
    have pt' : pL (fun t : Tup (Tup Int) => pTT (fromTT t)) (M.map toTT) (.ref lt) (upd F8 lt (.lst ts)) := ⟨lt, ts, rfl, upd_same, (r8.up (same_new m2)).imp fun x v _ q => by rw [from_to]; exact q⟩
    have s38 := g4.f.trans (g5.f.trans (g6.f.trans (g7.f.trans gz.f)))
    have pu8 := Mn.mono _ _ _ s38 pu
    have p78 := Mn.mono _ _ _ gz.f p7
    refine x_skip (EvT.is (evt_or (k := false) (l := false) (EvT.is (evt_notInD (x := toTT U) (f := fun t : Tup (Tup Int) => pTT (fromTT t)) (xs := M.map toTT) (ev_tupL (f := pTI) T.n_tuple (Ev.is (EvN.ev (en_lc (own := [("_law_row", 13)]) (i := 13) (f := pTI) (fun r : List Int => r) (wk_L (f := pR) (ev_v 3 rfl pu8)) (by rw [RU.h, sizeLine_eq]; omega) rfl sc_law.nd (blkOk_by (N := ["_law_script", "_law_state_here", "_law_gram_here", "_law_rows", "_law_moved_here", "_law_one", "_law_two", "_law_maps", "_law_told", "_law_k", "_law_third", "_law_other", "_law_m", "_law_row", "_law_x"]) (sc := d_law.scope) (by decide +kernel)) (fun _ => rfl)
        (fun z hz v F1 H1 g pv s H' C cl fp => ev_tupL (f := pI) T.n_tuple (ev_v 13 rfl pv)) (fun _ _ _ _ _ => pg_name (i := 13) sc_law.nd rfl (.inl rfl)))) (by rw [List.map_id']))) (ev_v 8 rfl pt') (rd_TT U) (fun t => by have := rd_TT (fromTT t); rw [to_from] at this; exact this) (by have := hr.units; show _ + 1 + 2 < _; omega)) (decide_eq_false fun h => h (List.mem_map.mpr ⟨U, hUM, rfl⟩)))
      (fun _ => EvT.is (evt_not (evt_val (ev_isTup T.n_isinstance T.n_tuple (ev_v 7 rfl p78)))) rfl)) rfl) (fun F9 H9 g9 => ?_) gz.s
    have s89 := g9.f
    have pt9 := Mn.mono _ _ _ s89 pt
    have pg9 := Mn.mono _ _ _ (g5.f.trans (g6.f.trans (g7.f.trans (gz.f.trans s89)))) pg4
    have pm9 := Mn.mono _ _ _ (g5.f.trans (g6.f.trans (g7.f.trans (gz.f.trans s89)))) pm
    let S : Option V → L2.St := fun o9 => [some a, some vs, some vg, some vu, some vm, some v1, some v2, some v7, some (.ref lt), o9, none, none, none, none, none]
    refine x_forN (i := 9) (xs := rng 0 M.length) (pr := pI) (fun i σ1 F10 H10 => ∃ o9, σ1 = S o9 ∧ Gw F9 H9 F10 H10) (wk_rng1 (n := (M.length : Int)) T.n_range (ev_lenL (f := pTT) T.n_len (ev_v 8 rfl pt9)) (by omega) (by omega)) (fun F10 H10 g10 => ⟨none, rfl, g10⟩) ?_ ?_ g9.s PassesOwn.never rfl sc_law.nd
    · rintro F0 ii i σ1 F10 H10 hi s0' s10 ⟨o9, rfl, g10⟩ v F11 H11 g11 pv
      cases pv
      obtain ⟨ei, hi2⟩ := rng_get hi
      have ei2 : i = (ii : Nat) := by omega
      subst ei2
      have hin : ii < M.length := by omega
      have hA : M[ii]? = some M[ii] := List.getElem?_eq_getElem hin
      obtain ⟨RA, bA, eA⟩ := hX M[ii] (List.getElem_mem hin)
      have sf := g10.f.trans g11.f
      have pt11 := Mn.mono _ _ _ sf pt9
      refine x_skip (EvT.is (evt_or (k := false) (l := false) (EvT.is (evt_neD (x := movedL g M[ii]) (y := movedL g U) (ev_call (P := pM (movedL g M[ii])) (Ps := pCons (pM g) (pCons (pTT M[ii]) pNil)) (ok_law_moved T) (by exact hr.mono (by omega)) (ea_cons (ev_v 2 rfl (Mn.mono _ _ _ sf pg9)) (ea_one (ev_ixL (f := pTT) (ev_v 8 rfl pt11) (ev_v 9 rfl rfl) (atI_nat hA)))) (fun vs F1 sF ⟨a1, _, e1, b1, a2, _, e2, b2, e3⟩ => by
          cases e3
          subst e1 e2
          exact mv RA bA _ _ _ b1 (pTT.ss b2))) (ev_v 4 rfl (Mn.mono _ _ _ sf pm9)) (rd_M _) (rd_M _) (by exact roomD hr (by decide))) (by rw [eA]; simp))
        (fun _ => ?_)) rfl) (fun F12 H12 g12 => x_nil g12.s ⟨s0'.trans (g11.f.trans g12.f), some (.int (ii : Nat)), rfl, g10.trans (g11.trans g12)⟩) g11.s
      by_cases z : ii = 0
      · subst z
        exact EvT.is (evt_and (k := false) (l := false) (EvT.is (evt_gt (ev_v 9 rfl rfl) ev_int) (decide_eq_false (by omega))) (fun h => nomatch h)) rfl
      · obtain ⟨jj, rfl⟩ : ∃ k, ii = k + 1 := ⟨ii - 1, by omega⟩
        have hB' : M[jj]? = some M[jj] := List.getElem?_eq_getElem (by omega)
        have hlt := hsort jj _ _ hB' hA
        exact EvT.is (evt_and (k := true) (l := false) (EvT.is (evt_gt (ev_v 9 rfl rfl) ev_int) (decide_eq_true (by omega))) (fun _ => EvT.is (evt_leD (x := toTT M[jj + 1]) (y := toTT M[jj]) (ev_ixL (f := pTT) (ev_v 8 rfl pt11) (ev_v 9 rfl rfl) (atI_nat hA)) (ev_ixL (f := pTT) (ev_v 8 rfl pt11) (Ev.is (ev_sub (i := ((jj + 1 : Nat) : Int)) (j := 1) (ev_v 9 rfl rfl) ev_int) (by rw [show ((jj + 1 : Nat) : Int) - 1 = (jj : Nat) by omega])) (atI_nat hB')) (rd_TT _) (rd_TT _) (by exact roomD hr (by decide))) (by rw [hlt]; rfl))) rfl
    · rintro σ1 F10 H10 s10 ⟨o9, rfl, g10⟩
      have s010 := g9.f.trans g10.f
      have p7a := Mn.mono _ _ _ s010 p78
      have p1a := Mn.mono _ _ _ (g7.f.trans (gz.f.trans s010)) p16
      have p2a := Mn.mono _ _ _ (g7.f.trans (gz.f.trans s010)) p2
      refine x_skip (EvT.is (evt_or3 (k := false) (l := false) (m := false) (EvT.is (evt_ne (ev_lenT (f := fun r => pG K r n) T.n_len (ev_v 7 rfl p7a)) (ev_call (P := pI (b1.length : Nat)) (Ps := pCons (pLa K g) pNil) (ok_order T) (by exact hr.mono (by omega)) (ea_one (ev_v 5 rfl p1a)) (fun vs F1 sF ⟨a1, _, e1, c1, e2⟩ => by
            cases e2
            subst e1
            exact ⟨a1, g, n, b1, rfl, c1, hb1, rfl⟩))) (by rw [lb1]; simp))
          (fun _ => EvT.is (evt_ne (ev_lenT (f := fun r => pG K r n) T.n_len (ev_v 7 rfl p7a)) (ev_call (P := pI (b2.length : Nat)) (Ps := pCons (pLa K (movedL g U)) pNil) (ok_order T) (by exact hr.mono (by omega)) (ea_one (ev_v 6 rfl p2a)) (fun vs F1 sF ⟨a1, _, e1, c1, e2⟩ => by
            cases e2
            subst e1
            exact ⟨a1, movedL g U, n, b2, rfl, c1, hb2, rfl⟩))) (by rw [lb2]; simp))
          (fun _ _ => EvT.is (evt_ne (ev_lenT (f := fun r => pG K r n) T.n_len (ev_maps (ok_all_maps T) (by exact hr.mono (by omega)) (ev_v 5 rfl p1a) (ev_v 6 rfl p2a) hM')) (ev_lenT (f := fun r => pG K r n) T.n_len (ev_v 7 rfl p7a))) (by rw [lM']; simp))) rfl) (fun F11 H11 g11 => ?_) s10
      have pgb := Mn.mono _ _ _ (g10.f.trans g11.f) pg9
      refine x_setLcM 10 (lm_N (own := [("_law_row", 13)]) (i := 13) (pr := pR) (fun r : List Int => r) (wk_L (f := pR) (ev_v 2 rfl pgb)) (by rw [hG.r.h, sizeLine_eq]; omega) rfl sc_law.nd (blkOk_by (N := ["_law_script", "_law_state_here", "_law_gram_here", "_law_rows", "_law_moved_here", "_law_one", "_law_two", "_law_maps", "_law_told", "_law_k", "_law_third", "_law_other", "_law_m", "_law_row", "_law_x"]) (sc := d_law.scope) (by decide +kernel)) (fun _ => rfl)
        (fun z hz v F1 H1 g' pv s H' C cl fp => en_map_id (en_lc (own := [("_law_x", 14)]) (i := 14) (f := pI) (fun x : Int => x) (wk_L (f := pI) (ev_v 13 rfl pv)) (by rw [hG.r.w z hz, sizeLine_eq]; omega) rfl sc_law.nd (blkOk_by (N := ["_law_script", "_law_state_here", "_law_gram_here", "_law_rows", "_law_moved_here", "_law_one", "_law_two", "_law_maps", "_law_told", "_law_k", "_law_third", "_law_other", "_law_m", "_law_row", "_law_x"]) (sc := _) (by kernel_rfl)) (fun _ => rfl)
          (fun x hx v2 F2 H2 g2 pv2 s2 H2' C2 cl2 fp2 => ev_v 14 rfl pv2) (fun _ _ _ _ _ => pg_name (i := 14) sc_law.nd rfl (.inl rfl)))) (fun _ _ _ _ _ => pg_name (i := 13) sc_law.nd rfl (.inl rfl))) (fun l3 q3 F12 H12 g12 k1 k2 k3 hm dn pn => ?_) g11.s
      rw [List.map_id'] at hm
      obtain ⟨r0, hr0, lr0⟩ := hG.r.get (show 0 < n by omega)
      obtain ⟨q, hq, eq12, fq, qm⟩ := hm.at hr0
      have atq : atI (q3.map V.ref) 0 = some (V.ref q) := atI_nat (j := 0) (by rw [List.getElem?_map, hq]; rfl)
      have a00 : at2 g 0 0 = r0.getD 0 0 := by
        have := at2_nat g 0 0
        rw [getD_at hr0] at this
        exact this
      have r00 : r0[0]? = some (at2 g 0 0) := by
        rw [a00, List.getD_eq_getElem?_getD, List.getElem?_eq_getElem (show 0 < r0.length by omega)]
        rfl
      refine x_setIJ (P := pI (at2 g 0 0 + 1)) (q := q) (nj := 0) (j := 0) (vs := r0.map V.int) (ev_add (ev_ixO (P := pI (at2 g 0 0)) (l := q) (vs := r0.map V.int) (ev_ixO (ev_v 10 rfl rfl) ev_int k3 atq rfl) ev_int eq12 (atI_nat (j := 0) (by rw [List.getElem?_map, r00]; rfl)) rfl) ev_int) (fun F13 H13 g13 => ev_ixO (ev_v 10 rfl rfl) ev_int (g13.own k3 k2).1 atq rfl) (fun F13 H13 g13 => ev_int) eq12 fq (ixNat (j := 0) (by rw [List.length_map]; omega)) (fun v13 F13 H13 g13 p13 => ?_) g12.s
      cases p13
      have o13 := g13.own k3 k2
      have hm13 := hm.up g13
      have fq13 := (g13.own eq12 fq).2
      have dq : q ≠ l3 := fun z => dn (by rw [← z]; exact qm)
      have eset : (r0.map V.int).set 0 (.int (at2 g 0 0 + 1)) = (r0.set 0 (at2 g 0 0 + 1)).map V.int := by rw [List.map_set]
      rw [eset]
      have gg := (g12.trans g13).mut (o := .lst ((r0.set 0 (at2 g 0 0 + 1)).map V.int)) (pn q qm) fq13
      have hm14 := hm13.set (x := at2 g 0 0 + 1) (j := 0) hq hr0
      obtain ⟨F14, g14, s14, p14⟩ := HM.pub gg hm14 pn (by rw [upd_ne dq.symm]; exact o13.1) o13.2 k1 dn
      have e3 : g.set 0 (r0.set 0 (at2 g 0 0 + 1)) = thirdM g := by unfold thirdM; rw [getD_at hr0]
      rw [e3] at p14
      show Sx (cxD P w K mg base ["_law_script", "_law_state_here", "_law_gram_here", "_law_rows", "_law_moved_here", "_law_one", "_law_two", "_law_maps", "_law_told", "_law_k", "_law_third", "_law_other", "_law_m", "_law_row", "_law_x"] d_law cdv A outer s H E) _ _ F14 _ _
      refine x_set 11 (P := pLa K (thirdM g)) (ev_mkL T (by exact hr.mono (by omega)) (ev_v 10 rfl p14) lat3) (fun v15 F15 H15 g15 p15 => ?_) g14.s sc_law.nd
      have sA := g11.f.trans (g14.f.trans g15.f)
      have q1 := Mn.mono _ _ _ sA p1a
      have q2 := Mn.mono _ _ _ sA p2a
      have l3' : (thirdM g).length = n := by unfold thirdM; rw [List.length_set]; exact l1
      refine x_skip (EvT.is (evt_or (evt_notB (ev_alike (ok_alike T) (by exact hr.mono (by omega)) (ev_v 5 rfl q1) (ev_v 6 rfl q2) l1 l2 hf1 hf2) ev_bl) (fun _ => evt_notB (ev_alike (ok_alike T) (by exact hr.mono (by omega)) (ev_v 6 rfl q2) (ev_v 5 rfl q1) l2 l1 hf2 hf1) ev_bl)) (by rw [decide_eq_true rfl]; rfl)) (fun F16 H16 g16 => ?_) g15.s
      have q1' := Mn.mono _ _ _ g16.f q1
      have q2' := Mn.mono _ _ _ g16.f q2
      have q3' := Mn.mono _ _ _ g16.f p15
      refine x_skip (EvT.is (evt_or3 (evt_notB (ev_alike (ok_alike T) (by exact hr.mono (by omega)) (ev_v 5 rfl q1') (ev_v 11 rfl q3') l1 l3' hf1 hf3) ev_bl) (fun _ => evt_notB (ev_alike (ok_alike T) (by exact hr.mono (by omega)) (ev_v 11 rfl q3') (ev_v 5 rfl q1') l3' l1 hf3 hf1) ev_bl) (fun _ _ => evt_notB (ev_alike (ok_alike T) (by exact hr.mono (by omega)) (ev_v 6 rfl q2') (ev_v 11 rfl q3') l2 l3' hf2 hf3) ev_bl)) (by rw [decide_eq_false hne, decide_eq_false (Ne.symm hne)]; rfl)) (fun F17 H17 g17 => ?_) g16.s
      have gAll := (((g1.trans g2).trans (g3.trans g4)).trans ((g5.trans g6).trans (g7.trans gz))).trans ((g9.trans g10).trans (g11.trans (g14.trans (g15.trans (g16.trans g17)))))
      have psF : pSt vs F17 := Mn.mono _ _ _ ((g2.f.trans (g3.f.trans s38)).trans ((g9.f.trans g10.f).trans (g11.f.trans (g14.f.trans (g15.f.trans (g16.f.trans g17.f)))))) ps
      exact x_ret (P := pB true) (ev_orT (ev_gtE (ev_take (ok_law_take T) (by exact hr.mono (by omega)) (ev_v 1 rfl psF) ev_int (by decide) (by decide)) (Ev.toE (S := fun _ => True) ev_int trivial)) (ev_call (Ps := pCons pSt pNil) (ok_law_unlike_pair T) (by exact hr) (ea_one (ev_v 1 rfl psF)) (fun vs F1 sF ⟨a1, _, e1, c1, e2⟩ => by
        cases e2
        subst e1
        exact ⟨a1, rfl, c1, un, rfl⟩))) (fun v F18 H18 g18 p18 => ⟨gAll.trans g18, p18⟩) g17.s

def lawN : List Str := ["_law_script", "_law_state_here", "_law_gram_here", "_law_rows", "_law_moved_here", "_law_one", "_law_two", "_law_maps", "_law_told", "_law_k", "_law_third", "_law_other", "_law_m", "_law_row", "_law_x"]
end
end K24
set_option Elab.async false
set_option linter.all false
set_option maxRecDepth 100000
set_option maxHeartbeats 4000000
set_option autoImplicit false
namespace K24
open PySem PySem.Spec PyProof.Rows L2
open PySem.W (Datum DatumOrd Holds HoldAll Tup listLt)
/-! ### orders -/
structure Lin (α : Type) [DecidableEq α] [DatumOrd α] : Prop where
  irr : ∀ a : α, DatumOrd.lt a a = false
  tr : ∀ a b c : α, DatumOrd.lt a b = true → DatumOrd.lt b c = true → DatumOrd.lt a c = true
  tri : ∀ a b : α, a ≠ b → DatumOrd.lt a b = false → DatumOrd.lt b a = true
section
variable {α β : Type} [DecidableEq α] [DatumOrd α] [DecidableEq β] [DatumOrd β]
theorem lin_int : Lin Int := ⟨fun a => by show decide (a < a) = false; simp, fun a b c h1 h2 => by
  have h1 : decide (a < b) = true := h1
  have h2 : decide (b < c) = true := h2
  show decide (a < c) = true
  simp at *; omega, fun a b h1 h2 => by
  have h2 : decide (a < b) = false := h2
  show decide (b < a) = true
  simp at *; omega⟩
theorem listLt_irr (L : Lin α) : ∀ a : List α, listLt a a = false
  | [] => rfl
  | x :: xs => by rw [listLt, if_pos rfl]; exact listLt_irr L xs
theorem listLt_tr (L : Lin α) : ∀ a b c : List α, listLt a b = true → listLt b c = true → listLt a c = true
  | [], [], _, h, _ => by cases h
  | [], _ :: _, [], _, h => by cases h
  | [], _ :: _, _ :: _, _, _ => rfl
  | _ :: _, [], _, h, _ => by cases h
  | _ :: _, _ :: _, [], _, h => by cases h
  | x :: xs, y :: ys, z :: zs, h1, h2 => by
    rw [listLt] at *
    by_cases e1 : x = y
    · subst e1
      rw [if_pos rfl] at h1
      by_cases e2 : x = z
      · rw [if_pos e2] at *
        exact listLt_tr L _ _ _ h1 h2
      · rw [if_neg e2] at *
        exact h2
    · rw [if_neg e1] at h1
      by_cases e2 : y = z
      · subst e2
        rw [if_neg e1]
        exact h1
      · rw [if_neg e2] at h2
        have := L.tr _ _ _ h1 h2
        by_cases e3 : x = z
        · subst e3
          rw [L.irr] at this
          cases this
        · rw [if_neg e3]
          exact this
theorem listLt_tri (L : Lin α) : ∀ a b : List α, a ≠ b → listLt a b = false → listLt b a = true
  | [], [], h, _ => absurd rfl h
  | [], _ :: _, _, h => by cases h
  | _ :: _, [], _, _ => rfl
  | x :: xs, y :: ys, h1, h2 => by
    rw [listLt] at *
    by_cases e : x = y
    · subst e
      rw [if_pos rfl] at *
      exact listLt_tri L _ _ (fun z => h1 (by rw [z])) h2
    · rw [if_neg e] at h2
      rw [if_neg (Ne.symm e)]
      exact L.tri _ _ e h2
theorem lin_tup (L : Lin α) : Lin (Tup α) := ⟨fun a => listLt_irr L a.items, fun a b c h1 h2 => listLt_tr L a.items b.items c.items h1 h2, fun a b h1 h2 => listLt_tri L a.items b.items (fun z => h1 (by cases a; cases b; cases z; rfl)) h2⟩
theorem lt_pair (p q : α × β) : DatumOrd.lt p q = if p.1 = q.1 then DatumOrd.lt p.2 q.2 else DatumOrd.lt p.1 q.1 := rfl
theorem lin_pair (L : Lin α) (M : Lin β) : Lin (α × β) := ⟨fun a => by rw [lt_pair, if_pos rfl]; exact M.irr _, fun a b c h1 h2 => by
  rw [lt_pair] at *
  by_cases e1 : a.1 = b.1
  · rw [if_pos e1] at h1
    rw [← e1] at h2
    by_cases e2 : a.1 = c.1
    · rw [if_pos e2] at *; exact M.tr _ _ _ h1 h2
    · rw [if_neg e2] at *; exact h2
  · rw [if_neg e1] at h1
    by_cases e2 : b.1 = c.1
    · rw [← e2, if_neg e1]; exact h1
    · rw [if_neg e2] at h2
      have := L.tr _ _ _ h1 h2
      by_cases e3 : a.1 = c.1
      · rw [← e3, L.irr] at this; cases this
      · rw [if_neg e3]; exact this, fun a b h1 h2 => by
  rw [lt_pair] at *
  by_cases e : a.1 = b.1
  · rw [if_pos e] at h2
    rw [if_pos e.symm]
    exact M.tri _ _ (fun z => h1 (Prod.ext e z)) h2
  · rw [if_neg e] at h2
    rw [if_neg (Ne.symm e)]
    exact L.tri _ _ e h2⟩
theorem Lin.asym (L : Lin α) {a b : α} (h : DatumOrd.lt a b = true) : DatumOrd.lt b a = false := by
  cases e : (DatumOrd.lt b a : Bool) with
  | false => rfl
  | true => have := L.tr _ _ _ h e; rw [L.irr] at this; cases this
theorem Lin.dle_tr (L : Lin α) (a b c : α) (h1 : dle a b = true) (h2 : dle b c = true) : dle a c = true := by
  unfold dle at *
  simp at *
  cases e : (DatumOrd.lt c a : Bool) with
  | false => rfl
  | true =>
    by_cases h : b = c
    · subst h; rw [h1] at e; cases e
    · have := L.tri _ _ (Ne.symm h) h2
      have := L.tr _ _ _ this e
      rw [h1] at this; cases this
theorem Lin.dle_tot (L : Lin α) (a b : α) : (dle a b || dle b a) = true := by
  unfold dle
  cases e : (DatumOrd.lt b a : Bool) with
  | false => rfl
  | true => rw [L.asym e]; rfl
theorem Lin.dle_anti (L : Lin α) {a b : α} (h1 : dle a b = true) (h2 : dle b a = true) : a = b := by
  unfold dle at *
  simp at *
  apply Classical.byContradiction
  intro h
  rw [L.tri _ _ h h2] at h1
  cases h1
theorem Lin.sorted (L : Lin α) (xs : List α) : (xs.mergeSort dle).Pairwise fun a b => dle a b = true := List.pairwise_mergeSort L.dle_tr L.dle_tot xs
/-- two sorted lists with the same things, each once, are one -/
theorem Lin.ext (L : Lin α) : ∀ {xs ys : List α}, xs.Pairwise (fun a b => dle a b = true) → ys.Pairwise (fun a b => dle a b = true) → xs.Nodup → ys.Nodup → (∀ z, z ∈ xs ↔ z ∈ ys) → xs = ys
  | [], [], _, _, _, _, _ => rfl
  | [], y :: _, _, _, _, _, h => absurd ((h y).mpr (List.mem_cons_self ..)) (List.not_mem_nil)
  | x :: _, [], _, _, _, _, h => absurd ((h x).mp (List.mem_cons_self ..)) (List.not_mem_nil)
  | x :: xs, y :: ys, p1, p2, n1, n2, h => by
    have e : x = y := by
      rcases List.mem_cons.mp ((h x).mp (List.mem_cons_self ..)) with e | e
      · exact e
      · rcases List.mem_cons.mp ((h y).mpr (List.mem_cons_self ..)) with e' | e'
        · exact e'.symm
        · exact L.dle_anti ((List.pairwise_cons.mp p1).1 _ e') ((List.pairwise_cons.mp p2).1 _ e)
    subst e
    rw [L.ext (List.pairwise_cons.mp p1).2 (List.pairwise_cons.mp p2).2 (List.nodup_cons.mp n1).2 (List.nodup_cons.mp n2).2 fun z => ⟨fun hz => by
      rcases List.mem_cons.mp ((h z).mp (List.mem_cons_of_mem _ hz)) with e | e
      · subst e; exact absurd hz (List.nodup_cons.mp n1).1
      · exact e, fun hz => by
      rcases List.mem_cons.mp ((h z).mpr (List.mem_cons_of_mem _ hz)) with e | e
      · subst e; exact absurd hz (List.nodup_cons.mp n2).1
      · exact e⟩]
theorem Lin.strict (L : Lin α) {a b : α} (h : dle a b = true) (n : a ≠ b) : DatumOrd.lt a b = true := by
  cases e : (DatumOrd.lt a b : Bool) with
  | true => rfl
  | false => exact absurd (L.dle_anti h (by unfold dle; rw [e]; rfl)) n
end
theorem lin_TI : Lin (Tup Int) := lin_tup lin_int
theorem lin_TT : Lin (Tup (Tup Int)) := lin_tup lin_TI
theorem lin_NV : Lin (Int × Tup Int) := lin_pair lin_int lin_TI
/-! ### lists -/
theorem length_le_of_subset {α : Type} [DecidableEq α] : ∀ {xs ys : List α}, xs.Nodup → (∀ z ∈ xs, z ∈ ys) → xs.length ≤ ys.length
  | [], _, _, _ => Nat.zero_le _
  | x :: xs, ys, n, h => by
    have hx := h x (List.mem_cons_self ..)
    have := length_le_of_subset (xs := xs) (ys := ys.erase x) (List.nodup_cons.mp n).2 fun z hz => (List.mem_erase_of_ne (fun e => by subst e; exact (List.nodup_cons.mp n).1 hz)).mpr (h z (List.mem_cons_of_mem _ hz))
    rw [List.length_erase_of_mem hx] at this
    have : 0 < ys.length := List.length_pos_of_mem hx
    simp only [List.length_cons]
    omega
theorem nodup_map {α β : Type} {f : α → β} : ∀ {xs : List α}, (∀ a ∈ xs, ∀ b ∈ xs, f a = f b → a = b) → xs.Nodup → (xs.map f).Nodup
  | [], _, _ => by simp
  | x :: xs, h, n => by
    rw [List.map_cons, List.nodup_cons]
    refine ⟨fun m => ?_, nodup_map (fun a ha b hb => h a (List.mem_cons_of_mem _ ha) b (List.mem_cons_of_mem _ hb)) (List.nodup_cons.mp n).2⟩
    obtain ⟨y, hy, e⟩ := List.mem_map.mp m
    have := h y (List.mem_cons_of_mem _ hy) x (List.mem_cons_self ..) e
    subst this
    exact (List.nodup_cons.mp n).1 hy
theorem length_flatMap_le {α β : Type} (f : α → List β) (c : Nat) : ∀ xs : List α, (∀ x ∈ xs, (f x).length ≤ c) → (xs.flatMap f).length ≤ xs.length * c
  | [], _ => by simp
  | x :: xs, h => by
    rw [List.flatMap_cons, List.length_append, List.length_cons, Nat.succ_mul]
    have := length_flatMap_le f c xs fun y hy => h y (List.mem_cons_of_mem _ hy)
    have := h x (List.mem_cons_self ..)
    omega
end K24
set_option Elab.async false
set_option linter.all false
set_option maxRecDepth 100000
set_option maxHeartbeats 4000000
set_option autoImplicit false
namespace K24
open PySem PySem.Spec PyProof.Rows L2
/-! ### determinants -/
abbrev Sm (x : Int) : Prop := x.natAbs < 2 ^ 64
theorem rg0 : rng 0 0 = [] := by decide
theorem rg1 : rng 0 1 = [0] := by decide
theorem rg2 : rng 0 2 = [0, 1] := by decide
theorem rg3 : rng 0 3 = [0, 1, 2] := by decide
theorem rg11 : rng 1 1 = [] := by decide
theorem rg12 : rng 1 2 = [1] := by decide
theorem rg13 : rng 1 3 = [1, 2] := by decide
theorem rg23 : rng 2 3 = [2] := by decide
theorem bare_eq {n k : Nat} {t : Mx} {sg b D D' : Int} (h : Bare n k t sg b D) (e : D = D') : Bare n k t sg b D' := e ▸ h
theorem bare0 (m : Mx) : Bare 0 0 m 1 1 1 := bare_eq (Bare.done (by decide)) (by decide)
theorem bare_last {t : Mx} {n : Nat} {sg b x : Int} (hx : at2 t n n = x) (hs : sg = 1 ∨ sg = -1) (b0 : b ≠ 0) (b1 : Sm b) (x1 : Sm x) : Bare (n + 1) n t sg b (sg * x) := by
  subst hx
  have e0 : rng (n : Int) ((n + 1 : Nat) : Int) = [(n : Int)] := by
    unfold rng
    rw [show (((n + 1 : Nat) : Int) - n).toNat = 1 by omega]
    simp
  by_cases h : at2 t n n = 0
  · rw [h, Int.mul_zero]
    refine Bare.zero (by omega) ?_
    unfold bareList
    rw [e0]
    simp [h]
  · have e1 : bareList t n (n + 1) = [(n : Int)] := by
      unfold bareList
      rw [e0]
      simp [h]
    have e2 : bareSwap t n (n : Int) = t := by unfold bareSwap; rw [if_pos rfl]
    refine Bare.step (by omega) e1 ⟨b0, b1, by rw [e2]; exact x1, fun i h1 h2 => by omega⟩ ?_
    rw [e2, if_pos rfl]
    exact Bare.done (by rcases hs with h | h <;> subst h <;> decide)
theorem bare1 {a : Int} (h : Sm a) : Bare 1 0 [[a]] 1 1 a := bare_eq (bare_last (n := 0) (x := a) rfl (.inl rfl) (by decide) (by decide) h) (by omega)
/-- the second pivot of two left -/
theorem bare2k {r0 r1 r2 : List Int} {k : Nat} {pre : Mx} (hp : pre.length = k) {sg b E F H I δ : Int} (hs : sg = 1 ∨ sg = -1) (b0 : b ≠ 0) (b1 : Sm b) (l1 : r1.length = k + 2) (l2 : r2.length = k + 2) (e1 : r1.getD k 0 = E) (e2 : r1.getD (k + 1) 0 = F) (e3 : r2.getD k 0 = H) (e4 : r2.getD (k + 1) 0 = I) (hE : Sm E) (hH : Sm H) (hd : Sm δ) (q : E * I - H * F = b * δ) : Bare (k + 2) k (pre ++ [r1, r2]) sg b (sg * δ) := by
  have g1 : (pre ++ [r1, r2])[k]? = some r1 := by rw [List.getElem?_append_right (by omega), hp, Nat.sub_self]; rfl
  have g2 : (pre ++ [r1, r2])[k + 1]? = some r2 := by rw [List.getElem?_append_right (by omega), hp, Nat.add_sub_cancel_left]; rfl
  have a1 : at2 (pre ++ [r1, r2]) k k = E := by rw [at2_nat, getD_at g1]; exact e1
  have a2 : at2 (pre ++ [r1, r2]) (k + 1 : Nat) k = H := by rw [at2_nat, getD_at g2]; exact e3
  have e0 : rng (k : Int) ((k + 2 : Nat) : Int) = [(k : Int), ((k + 1 : Nat) : Int)] := by
    unfold rng
    rw [show (((k + 2 : Nat) : Int) - k).toNat = 2 by omega]
    simp [List.range_succ]
  have last : ∀ (x : Mx) (s p y : Int), at2 x (k + 1 : Nat) (k + 1 : Nat) = y → (s = 1 ∨ s = -1) → p ≠ 0 → Sm p → Sm y → Bare (k + 2) (k + 1) x s p (s * y) := fun x s p y h1 h2 h3 h4 h5 => bare_last h1 h2 h3 h4 h5
  by_cases hE0 : E = 0
  · subst hE0
    by_cases hH0 : H = 0
    · subst hH0
      have hz : δ = 0 := by
        have : b * δ = 0 := by rw [← q]; omega
        rcases Int.mul_eq_zero.mp this with h | h
        · exact absurd h b0
        · exact h
      subst hz
      rw [Int.mul_zero]
      refine Bare.zero (by omega) ?_
      unfold bareList
      rw [e0]
      simp only [List.filter_cons, a1, a2]
      simp
    · have el : bareList (pre ++ [r1, r2]) k (k + 2) = [((k + 1 : Nat) : Int)] := by
        unfold bareList
        rw [e0]
        simp only [List.filter_cons, a1, a2]
        simp [hH0]
      have sw : bareSwap (pre ++ [r1, r2]) k ((k + 1 : Nat) : Int) = pre ++ [r2, r1] := by
        unfold bareSwap
        rw [if_neg (by omega), Int.toNat_natCast]
        unfold swapL
        rw [g1, g2]
        subst hp
        simp
      have s1 : (pre ++ [r2, r1])[k]? = some r2 := by rw [List.getElem?_append_right (by omega), hp, Nat.sub_self]; rfl
      have s2 : (pre ++ [r2, r1])[k + 1]? = some r1 := by rw [List.getElem?_append_right (by omega), hp, Nat.add_sub_cancel_left]; rfl
      have c1 : at2 (pre ++ [r2, r1]) k k = H := by rw [at2_nat, getD_at s1]; exact e3
      have c2 : at2 (pre ++ [r2, r1]) (k + 1 : Nat) k = 0 := by rw [at2_nat, getD_at s2]; exact e1
      have fin := last (bareN (pre ++ [r2, r1]) k (k + 2) b) (-sg) H (-δ) (by
        rw [at2_nat, getD_at (r := bareRow r2 r1 k b)]
        · unfold bareRow
          rw [List.getD_eq_getElem?_getD, List.getElem?_map, List.getElem?_zip_eq_some (z := (r1[k + 1], r2[k + 1])) |>.mpr ⟨by rw [List.getElem?_eq_getElem (by omega)], by rw [List.getElem?_eq_getElem (by omega)]⟩]
          rw [List.getD_eq_getElem?_getD, List.getElem?_eq_getElem (by omega)] at e2 e4
          simp only [Option.getD_some] at e2 e4
          simp only [Option.map_some, Option.getD_some, e1, e2, e3, e4]
          rw [show H * F - 0 * I = b * (-δ) by rw [Int.mul_neg, ← q]; omega]
          exact Int.mul_fdiv_cancel_left _ b0
        · rw [bareN_get, s2, Option.map_some, if_pos (by omega), getD_at s1]) (by rcases hs with h | h <;> subst h <;> decide) hH0 hH (by
        show (-δ).natAbs < _
        rw [Int.natAbs_neg]; exact hd)
      rw [Int.neg_mul_neg] at fin
      refine Bare.step (by omega) el ⟨b0, b1, by rw [sw, c1]; exact hH, fun i h1 h2 => ?_⟩ ?_
      · rw [sw, show i = k + 1 by omega, c2]; decide
      · rw [sw, c1, if_neg (by omega)]
        exact fin
  · have el : ∃ cs, bareList (pre ++ [r1, r2]) k (k + 2) = (k : Int) :: cs := by
      unfold bareList
      rw [e0]
      refine ⟨[((k + 1 : Nat) : Int)].filter fun i => !decide (at2 (pre ++ [r1, r2]) i k = 0), ?_⟩
      rw [List.filter_cons, if_pos (by rw [a1]; simp [hE0])]
    obtain ⟨cs, el⟩ := el
    have sw : bareSwap (pre ++ [r1, r2]) k (k : Int) = pre ++ [r1, r2] := by unfold bareSwap; rw [if_pos rfl]
    refine Bare.step (by omega) el ⟨b0, b1, by rw [sw, a1]; exact hE, fun i h1 h2 => ?_⟩ ?_
    · rw [sw, show i = k + 1 by omega, a2]; exact hH
    · rw [sw, a1, if_pos rfl]
      refine last _ sg E δ ?_ hs hE0 hE hd
      rw [at2_nat, getD_at (r := bareRow r1 r2 k b)]
      · unfold bareRow
        rw [List.getD_eq_getElem?_getD, List.getElem?_map, List.getElem?_zip_eq_some (z := (r2[k + 1], r1[k + 1])) |>.mpr ⟨by rw [List.getElem?_eq_getElem (by omega)], by rw [List.getElem?_eq_getElem (by omega)]⟩]
        rw [List.getD_eq_getElem?_getD, List.getElem?_eq_getElem (by omega)] at e2 e4
        simp only [Option.getD_some] at e2 e4
        simp only [Option.map_some, Option.getD_some, e1, e2, e3, e4]
        rw [q]
        exact Int.mul_fdiv_cancel_left _ b0
      · rw [bareN_get, g2, Option.map_some, if_pos (by omega), getD_at g1]
theorem len1 {α : Type} {r : List α} (h : r.length = 1) : ∃ a, r = [a] := by
  match r, h with
  | [a], _ => exact ⟨a, rfl⟩
theorem len2 {α : Type} {r : List α} (h : r.length = 2) : ∃ a b, r = [a, b] := by
  match r, h with
  | [a, b], _ => exact ⟨a, b, rfl⟩
theorem len3 {α : Type} {r : List α} (h : r.length = 3) : ∃ a b c, r = [a, b, c] := by
  match r, h with
  | [a, b, c], _ => exact ⟨a, b, c, rfl⟩
theorem rect1 {m : Mx} (R : Rect m 1 1) : ∃ a, m = [[a]] := by
  obtain ⟨r, rfl⟩ := len1 R.h
  obtain ⟨a, rfl⟩ := len1 (R.w r (by simp))
  exact ⟨a, rfl⟩
theorem rect2 {m : Mx} (R : Rect m 2 2) : ∃ a b c d, m = [[a, b], [c, d]] := by
  obtain ⟨r, s, rfl⟩ := len2 R.h
  obtain ⟨a, b, rfl⟩ := len2 (R.w r (by simp))
  obtain ⟨c, d, rfl⟩ := len2 (R.w s (by simp))
  exact ⟨a, b, c, d, rfl⟩
theorem rect3 {m : Mx} (R : Rect m 3 3) : ∃ a b c d e f g h i, m = [[a, b, c], [d, e, f], [g, h, i]] := by
  obtain ⟨r, s, t, rfl⟩ := len3 R.h
  obtain ⟨a, b, c, rfl⟩ := len3 (R.w r (by simp))
  obtain ⟨d, e, f, rfl⟩ := len3 (R.w s (by simp))
  obtain ⟨g, h, i, rfl⟩ := len3 (R.w t (by simp))
  exact ⟨a, b, c, d, e, f, g, h, i, rfl⟩
def det3 (a b c d e f g h i : Int) : Int := a * (e * i - f * h) - b * (d * i - f * g) + c * (d * h - e * g)
theorem bare2 {a b c d : Int} (ha : Sm a) (hc : Sm c) (hD : Sm (a * d - c * b)) : Bare 2 0 [[a, b], [c, d]] 1 1 (a * d - c * b) := by
  have := bare2k (k := 0) (pre := []) (r0 := []) (r1 := [a, b]) (r2 := [c, d]) rfl (sg := 1) (b := 1) (E := a) (F := b) (H := c) (I := d) (δ := a * d - c * b) (.inl rfl) (by decide) (by decide) rfl rfl rfl rfl rfl rfl ha hc hD (by omega)
  exact bare_eq this (by omega)
theorem bare3p {a b c d e f g h i sg : Int} (hs : sg = 1 ∨ sg = -1) (a0 : a ≠ 0) (ha : Sm a) (h1 : Sm (a * e - d * b)) (h2 : Sm (a * h - g * b)) (hD : Sm (det3 a b c d e f g h i)) : Bare 3 1 (bareN [[a, b, c], [d, e, f], [g, h, i]] 0 3 1) sg a (sg * det3 a b c d e f g h i) := by
  have e1 : bareN [[a, b, c], [d, e, f], [g, h, i]] 0 3 1 = [[a, b, c]] ++ [[a * d - d * a, a * e - d * b, a * f - d * c], [a * g - g * a, a * h - g * b, a * i - g * c]] := by
    simp [bareN, bareRow, List.mapIdx_cons, Int.fdiv_one]
  rw [e1]
  exact bare2k (k := 1) (pre := [[a, b, c]]) (r0 := []) rfl hs a0 ha rfl rfl rfl rfl rfl rfl h1 h2 hD (by unfold det3; grind)
theorem bare3 {a b c d e f g h i : Int} (ha : Sm a) (hd : Sm d) (hg : Sm g) (h1 : Sm (a * e - d * b)) (h2 : Sm (a * h - g * b)) (h3 : Sm (d * h - g * e)) (hD : Sm (det3 a b c d e f g h i)) : Bare 3 0 [[a, b, c], [d, e, f], [g, h, i]] 1 1 (det3 a b c d e f g h i) := by
  have e0 : at2 [[a, b, c], [d, e, f], [g, h, i]] 0 0 = a := rfl
  have e1 : at2 [[a, b, c], [d, e, f], [g, h, i]] 1 0 = d := rfl
  have e2 : at2 [[a, b, c], [d, e, f], [g, h, i]] 2 0 = g := rfl
  by_cases a0 : a = 0
  · subst a0
    by_cases d0 : d = 0
    · subst d0
      by_cases g0 : g = 0
      · subst g0
        refine bare_eq (Bare.zero (by decide) ?_) (by unfold det3; grind)
        unfold bareList
        rw [show rng ((0 : Nat) : Int) ((3 : Nat) : Int) = [0, 1, 2] from rg3]
        rfl
      · refine Bare.step (c := 2) (cs := []) (by decide) (by
          unfold bareList
          rw [show rng ((0 : Nat) : Int) ((3 : Nat) : Int) = [0, 1, 2] from rg3]
          have : at2 [[0, b, c], [0, e, f], [g, h, i]] 2 ((0 : Nat) : Int) = g := rfl
          simp only [List.filter_cons, this, decide_eq_false g0]
          rfl) ⟨by decide, by decide, hg, fun i h1 h2 => ?_⟩ ?_
        · have : i = 1 ∨ i = 2 := by omega
          rcases this with h | h <;> subst h <;> exact (by decide : Sm 0)
        · have := bare3p (a := g) (b := h) (c := i) (d := 0) (e := e) (f := f) (g := 0) (h := b) (i := c) (sg := -1) (.inr rfl) g0 hg (by grind) (by grind) (by
            have : det3 g h i 0 e f 0 b c = - det3 0 b c 0 e f g h i := by unfold det3; grind
            rw [this]
            show (-det3 0 b c 0 e f g h i).natAbs < _
            rw [Int.natAbs_neg]; exact hD)
          exact bare_eq this (by unfold det3; grind)
    · refine Bare.step (c := 1) (cs := [(2 : Int)].filter fun k => !decide (at2 [[0, b, c], [d, e, f], [g, h, i]] k ((0 : Nat) : Int) = 0)) (by decide) (by
        unfold bareList
        rw [show rng ((0 : Nat) : Int) ((3 : Nat) : Int) = [0, 1, 2] from rg3]
        have : at2 [[0, b, c], [d, e, f], [g, h, i]] 1 ((0 : Nat) : Int) = d := rfl
        rw [List.filter_cons, if_neg (show ¬ ((!decide (at2 [[0, b, c], [d, e, f], [g, h, i]] 0 ((0 : Nat) : Int) = 0)) = true) from (by decide : ¬ ((!decide ((0 : Int) = 0)) = true))), List.filter_cons, if_pos (by rw [this, decide_eq_false d0]; rfl)]) ⟨by decide, by decide, hd, fun i h1 h2 => ?_⟩ ?_
      · have : i = 1 ∨ i = 2 := by omega
        rcases this with h | h <;> subst h
        · exact (by decide : Sm 0)
        · exact hg
      · have := bare3p (a := d) (b := e) (c := f) (d := 0) (e := b) (f := c) (g := g) (h := h) (i := i) (sg := -1) (.inr rfl) d0 hd (by grind) h3 (by
            have : det3 d e f 0 b c g h i = - det3 0 b c d e f g h i := by unfold det3; grind
            rw [this]
            show (-det3 0 b c d e f g h i).natAbs < _
            rw [Int.natAbs_neg]; exact hD)
        exact bare_eq this (by unfold det3; grind)
  · refine Bare.step (c := 0) (cs := [(1 : Int), 2].filter fun k => !decide (at2 [[a, b, c], [d, e, f], [g, h, i]] k ((0 : Nat) : Int) = 0)) (by decide) (by
      unfold bareList
      rw [show rng ((0 : Nat) : Int) ((3 : Nat) : Int) = [0, 1, 2] from rg3]
      have : at2 [[a, b, c], [d, e, f], [g, h, i]] 0 ((0 : Nat) : Int) = a := rfl
      rw [List.filter_cons, if_pos (by rw [this, decide_eq_false a0]; rfl)]) ⟨by decide, by decide, ha, fun i h1 h2 => ?_⟩ ?_
    · have : i = 1 ∨ i = 2 := by omega
      rcases this with h | h <;> subst h
      · exact hd
      · exact hg
    · have := bare3p (a := a) (b := b) (c := c) (d := d) (e := e) (f := f) (g := g) (h := h) (i := i) (sg := 1) (.inl rfl) a0 ha h1 h2 hD
      exact bare_eq this (by omega)
/-- the determinant, up to the size 3 -/
def detL (m : Mx) : Nat → Int
  | 0 => 1
  | 1 => at2 m 0 0
  | 2 => at2 m 0 0 * at2 m 1 1 - at2 m 1 0 * at2 m 0 1
  | _ => det3 (at2 m 0 0) (at2 m 0 1) (at2 m 0 2) (at2 m 1 0) (at2 m 1 1) (at2 m 1 2) (at2 m 2 0) (at2 m 2 1) (at2 m 2 2)
theorem mulB {x y : Int} {a b : Nat} (hx : x.natAbs ≤ a) (hy : y.natAbs ≤ b) : (x * y).natAbs ≤ a * b := by
  rw [Int.natAbs_mul]
  exact Nat.mul_le_mul hx hy
def BdM (m : Mx) (B : Nat) : Prop := ∀ r ∈ m, ∀ x ∈ r, x.natAbs ≤ B
theorem det3B {a b c d e f g h i : Int} {B : Nat} (ha : a.natAbs ≤ B) (hb : b.natAbs ≤ B) (hc : c.natAbs ≤ B) (hd : d.natAbs ≤ B) (he : e.natAbs ≤ B) (hf : f.natAbs ≤ B) (hg : g.natAbs ≤ B) (hh : h.natAbs ≤ B) (hi : i.natAbs ≤ B) : (det3 a b c d e f g h i).natAbs ≤ 6 * (B * (B * B)) := by
  have m2 : ∀ {x y z w : Int}, x.natAbs ≤ B → y.natAbs ≤ B → z.natAbs ≤ B → w.natAbs ≤ B → (x * y - z * w).natAbs ≤ 2 * (B * B) := fun h1 h2 h3 h4 => by
    have := mulB h1 h2
    have := mulB h3 h4
    omega
  have h1 := mulB ha (m2 he hi hf hh)
  have h2 := mulB hb (m2 hd hi hf hg)
  have h3 := mulB hc (m2 hd hh he hg)
  have e : B * (2 * (B * B)) = 2 * (B * (B * B)) := Nat.mul_left_comm ..
  rw [e] at h1 h2 h3
  unfold det3
  omega
theorem detLB {m : Mx} {n B : Nat} (h1 : 1 ≤ B) (h : ∀ i k : Nat, (at2 m i k).natAbs ≤ B) : (detL m n).natAbs ≤ 6 * (B * (B * B)) := by
  have q1 : B ≤ B * B := Nat.le_mul_of_pos_left B h1
  have q2 : B * B ≤ B * (B * B) := Nat.le_mul_of_pos_left _ h1
  unfold detL
  split
  · show (1 : Nat) ≤ _
    omega
  · have : (at2 m 0 0).natAbs ≤ B := h 0 0
    omega
  · have := mulB (h 0 0) (h 1 1)
    have := mulB (h 1 0) (h 0 1)
    have e : ∀ a b c d : Int, (a * b - c * d).natAbs ≤ (a * b).natAbs + (c * d).natAbs := fun a b c d => by omega
    exact Nat.le_trans (e _ _ _ _) (by simp only [Int.natCast_zero, Int.natCast_one, Int.ofNat_zero, Int.ofNat_one] at *; omega)
  · exact det3B (h 0 0) (h 0 1) (h 0 2) (h 1 0) (h 1 1) (h 1 2) (h 2 0) (h 2 1) (h 2 2)
theorem bare_ex {m : Mx} {n : Nat} (R : Rect m n n) (hn : n ≤ 3) (hB : ∀ i k : Nat, (at2 m i k).natAbs ≤ 2 ^ 20) : Bare n 0 m 1 1 (detL m n) := by
  have hD := detLB (n := n) (by decide) hB
  have hD' : Sm (detL m n) := Nat.lt_of_le_of_lt hD (by decide)
  have hs : ∀ i k : Nat, Sm (at2 m i k) := fun i k => Nat.lt_of_le_of_lt (hB i k) (by decide)
  match n, hn with
  | 0, _ => exact bare0 m
  | 1, _ =>
    obtain ⟨a, rfl⟩ := rect1 R
    exact bare1 (hs 0 0)
  | 2, _ =>
    obtain ⟨a, b, c, d, rfl⟩ := rect2 R
    exact bare2 (hs 0 0) (hs 1 0) hD'
  | 3, _ =>
    obtain ⟨a, b, c, d, e, f, g, h, i, rfl⟩ := rect3 R
    have m2 : ∀ {x y z w : Int}, x.natAbs ≤ 2 ^ 20 → y.natAbs ≤ 2 ^ 20 → z.natAbs ≤ 2 ^ 20 → w.natAbs ≤ 2 ^ 20 → Sm (x * y - z * w) := fun h1 h2 h3 h4 => by
      have := mulB h1 h2
      have := mulB h3 h4
      show _ < _
      omega
    exact bare3 (hs 0 0) (hs 1 0) (hs 2 0) (m2 (hB 0 0) (hB 1 1) (hB 1 0) (hB 0 1)) (m2 (hB 0 0) (hB 2 1) (hB 2 0) (hB 0 1)) (m2 (hB 1 0) (hB 2 1) (hB 2 0) (hB 1 1)) hD'
end K24
set_option Elab.async false
set_option linter.all false
set_option maxRecDepth 100000
set_option maxHeartbeats 4000000
set_option autoImplicit false
namespace K24
open PySem PySem.Spec PyProof.Rows L2
open PySem.W (Datum DatumOrd Holds HoldAll Tup)
/-! ### one round of the Smith form, item by item -/
/-- two indexes exchanged -/
def tr (s z i : Nat) : Nat := if i = z then s else if i = s then z else i
theorem swapL_getD {α : Type} {xs : List α} {s z : Nat} (hs : s < xs.length) (hz : z < xs.length) (d : α) (i : Nat) : (swapL xs s z).getD i d = xs.getD (tr s z i) d := by
  unfold swapL tr
  rw [List.getElem?_eq_getElem hs, List.getElem?_eq_getElem hz]
  simp only [List.getD_eq_getElem?_getD, List.getElem?_set, List.length_set]
  by_cases h1 : z = i
  · subst h1
    rw [if_pos rfl, if_pos hz, if_pos rfl, List.getElem?_eq_getElem hs]
  · rw [if_neg h1, if_neg (Ne.symm h1)]
    by_cases h2 : s = i
    · subst h2
      rw [if_pos rfl, if_pos hs, if_pos rfl, List.getElem?_eq_getElem hz]
    · rw [if_neg h2, if_neg (Ne.symm h2)]
theorem at_out {m : Mx} {h w : Nat} (R : Rect m h w) {a b : Nat} (z : ¬ (a < h ∧ b < w)) : at2 m a b = 0 := at2_out R z
theorem getD_map0 {m : Mx} {f : List Int → List Int} (i k : Nat) (h : f [] = []) : at2 (m.map f) i k = (f (m.getD i [])).getD k 0 := by
  rw [at2_nat, List.getD_eq_getElem?_getD (l := m.map f), List.getElem?_map, List.getD_eq_getElem?_getD (l := m)]
  cases m[i]? with
  | none => show List.getD [] k 0 = (f []).getD k 0; rw [h]
  | some r => rfl
theorem sm2_at {m : Mx} {h w s : Nat} {z : Int × Int} (R : Rect m h w) (hs : s < h) (ks : s < w) (hz : z.1.toNat < h) (kz : z.2.toNat < w) (i k : Nat) : at2 (sm2 m s z) i k = at2 m (tr s z.1.toNat i : Nat) (tr s z.2.toNat k : Nat) := by
  by_cases hi : i < h
  · unfold sm2
    have hl : i < (swapL m s z.1.toNat).length := by rw [swapL_len, R.h]; exact hi
    rw [at2_nat, List.getD_eq_getElem?_getD (l := List.map _ _), List.getElem?_map, List.getElem?_eq_getElem hl]
    have hr : (swapL m s z.1.toNat)[i].length = w := (R.swap s z.1.toNat).w _ (List.getElem_mem hl)
    show (swapL (swapL m s z.1.toNat)[i] s z.2.toNat).getD k 0 = _
    rw [swapL_getD (by omega) (by omega)]
    have e : (swapL m s z.1.toNat)[i] = m.getD (tr s z.1.toNat i) [] := by
      rw [← swapL_getD (by rw [R.h]; exact hs) (by rw [R.h]; exact hz) [] i, List.getD_eq_getElem?_getD, List.getElem?_eq_getElem hl]
      rfl
    rw [e, at2_nat]
  · have e : tr s z.1.toNat i = i := by unfold tr; rw [if_neg (by omega), if_neg (by omega)]
    rw [at_out R.sm2 (by omega), e, at_out R (by omega)]
theorem less_at {r q : List Int} (k : Int) (h : r.length = q.length) (j : Nat) : (less r k q).getD j 0 = r.getD j 0 - k * q.getD j 0 := by
  unfold less
  rw [List.getD_eq_getElem?_getD, List.getElem?_map]
  by_cases hj : j < r.length
  · rw [List.getElem?_zip_eq_some (z := (r[j], q[j])) |>.mpr ⟨by rw [List.getElem?_eq_getElem], by rw [List.getElem?_eq_getElem]⟩]
    rw [List.getD_eq_getElem?_getD, List.getD_eq_getElem?_getD, List.getElem?_eq_getElem hj, List.getElem?_eq_getElem (by omega)]
    rfl
  · rw [List.getElem?_eq_none (by rw [List.length_zip]; omega), List.getD_eq_getElem?_getD, List.getD_eq_getElem?_getD, List.getElem?_eq_none (by omega), List.getElem?_eq_none (by omega)]
    simp
theorem clr_at {m : Mx} {h w s : Nat} (R : Rect m h w) (hs : s < h) (i k : Nat) : at2 (clr m s h) i k = if s < i then at2 m i k - (at2 m i s).fdiv (at2 m s s) * at2 m s k else at2 m i k := by
  by_cases hi : i < h
  · obtain ⟨r, hr, lr⟩ := R.get hi
    obtain ⟨q, hq, lq⟩ := R.get hs
    have e := clrN_get m s h i
    rw [hr, Option.map_some] at e
    unfold clr
    rw [at2_nat, getD_at e]
    by_cases c : s < i
    · rw [if_pos ⟨c, hi⟩, if_pos c]
      unfold clrRow
      rw [getD_at hq, less_at _ (by omega), at2_nat, at2_nat, at2_nat, at2_nat, getD_at hr, getD_at hq]
    · rw [if_neg (by omega), if_neg c, at2_nat, getD_at hr]
  · have e0 : ∀ j : Nat, at2 m i j = 0 := fun j => at_out R (by omega)
    have : at2 (clr m s h) i k = 0 := at_out (R.clrN hs) (by omega)
    rw [this, e0 k, e0 s, Int.zero_fdiv]
    split <;> omega
theorem turned_at {m : Mx} {h w : Nat} (R : Rect m h w) (i k : Nat) : at2 (turned m w) i k = at2 m k i := by
  by_cases hi : i < w
  · have e : (turned m w)[i]? = some (m.map fun r => r.getD i 0) := by
      unfold turned
      rw [List.getElem?_map, show (rng 0 (w : Int))[i]? = some (i : Int) by
        unfold rng
        rw [List.getElem?_map, List.getElem?_range (by omega)]
        simp]
      rfl
    rw [at2_nat, getD_at e, at2_nat, List.getD_eq_getElem?_getD, List.getElem?_map, List.getD_eq_getElem?_getD (l := m)]
    cases m[k]? with
    | none => rfl
    | some r => rfl
  · rw [at_out (turned_rect R) (by omega), at_out R (by omega)]
theorem Rect.sm3 {m : Mx} {h w s : Nat} {z : Int × Int} (R : Rect m h w) (hs : s < h) : Rect (sm3 m s z h) h w := R.sm2.clrN hs
theorem Rect.sm4 {m : Mx} {h w s : Nat} {z : Int × Int} (R : Rect m h w) (hs : s < h) (ks : s < w) : Rect (sm4 m s z h w) h w := turned_rect ((turned_rect (R.sm3 hs)).clrN ks)
/-- the items after a round, from those with the pivot at its place -/
def rB (G : Nat → Nat → Int) (s i k : Nat) : Int := if s < i then G i k - (G i s).fdiv (G s s) * G s k else G i k
def rC (G : Nat → Nat → Int) (s i k : Nat) : Int := if s < k then rB G s i k - (rB G s s k).fdiv (rB G s s s) * rB G s i s else rB G s i k
def sw (f : Nat → Nat → Int) (s a b : Nat) : Nat → Nat → Int := fun i k => f (tr s a i) (tr s b k)
def fn2 (m : Mx) : Nat → Nat → Int := fun i k => at2 m i k
theorem sm3_at {m : Mx} {h w s : Nat} {z : Int × Int} (R : Rect m h w) (hs : s < h) (ks : s < w) (hz : z.1.toNat < h) (kz : z.2.toNat < w) (i k : Nat) : at2 (sm3 m s z h) i k = rB (sw (fn2 m) s z.1.toNat z.2.toNat) s i k := by
  unfold sm3
  rw [clr_at R.sm2 hs, sm2_at R hs ks hz kz, sm2_at R hs ks hz kz, sm2_at R hs ks hz kz, sm2_at R hs ks hz kz]
  rfl
theorem sm4_at {m : Mx} {h w s : Nat} {z : Int × Int} (R : Rect m h w) (hs : s < h) (ks : s < w) (hz : z.1.toNat < h) (kz : z.2.toNat < w) (i k : Nat) : at2 (sm4 m s z h w) i k = rC (sw (fn2 m) s z.1.toNat z.2.toNat) s i k := by
  unfold sm4
  rw [turned_at (h := w) (m := clr (turned (sm3 m s z h) w) s w) ((turned_rect (R.sm3 hs)).clrN ks), clr_at (turned_rect (R.sm3 hs)) ks]
  simp only [turned_at (R.sm3 hs), sm3_at R hs ks hz kz]
  rfl
/-- items by size -/
theorem set_at {m : Mx} {i : Nat} {r : List Int} (hi : i < m.length) (a k : Nat) : at2 (m.set i r) a k = if a = i then r.getD k 0 else at2 m a k := by
  rw [at2_nat, at2_nat, List.getD_eq_getElem?_getD (l := m.set i r), List.getElem?_set]
  by_cases h : i = a
  · subst h
    rw [if_pos rfl, if_pos hi, if_pos rfl]
    rfl
  · rw [if_neg h, if_neg (Ne.symm h), ← List.getD_eq_getElem?_getD (l := m)]
theorem smAdd_at {m : Mx} {h w s u : Nat} (R : Rect m h w) (hs : s < h) (hu : u < h) (i k : Nat) : at2 (smAdd m s u) i k = if i = s then at2 m s k + at2 m u k else at2 m i k := by
  unfold smAdd
  rw [set_at (by rw [R.h]; exact hs)]
  by_cases c : i = s
  · rw [if_pos c, if_pos c, less_at, at2_nat, at2_nat]
    · omega
    · obtain ⟨r, hr, lr⟩ := R.get hs
      obtain ⟨q, hq, lq⟩ := R.get hu
      rw [getD_at hr, getD_at hq, lr, lq]
  · rw [if_neg c, if_neg c]
theorem smAdd_rect {m : Mx} {h w s u : Nat} (R : Rect m h w) (hs : s < h) (hu : u < h) : Rect (smAdd m s u) h w := by
  obtain ⟨r, hr, lr⟩ := R.get hs
  obtain ⟨q, hq, lq⟩ := R.get hu
  exact R.set (by rw [less_len, getD_at hr, getD_at hq, lr, lq, Nat.min_self])
theorem smNeg_at {m : Mx} {h w s : Nat} (R : Rect m h w) (hs : s < h) (i k : Nat) : at2 (smNeg m s) i k = if i = s ∧ at2 m s s < 0 then - at2 m s k else at2 m i k := by
  unfold smNeg
  by_cases c : at2 m s s < 0
  · rw [if_pos c, set_at (by rw [R.h]; exact hs)]
    by_cases e : i = s
    · rw [if_pos e, if_pos ⟨e, c⟩, at2_nat, List.getD_eq_getElem?_getD, List.getElem?_map, List.getD_eq_getElem?_getD (l := m.getD s [])]
      cases (m.getD s [])[k]? with
      | none => rfl
      | some x => show -1 * x = -x; omega
    · rw [if_neg e, if_neg (by omega)]
  · rw [if_neg c, if_neg (by omega)]
theorem smNeg_rect {m : Mx} {h w s : Nat} (R : Rect m h w) (hs : s < h) : Rect (smNeg m s) h w := by
  unfold smNeg
  split
  · obtain ⟨r, hr, lr⟩ := R.get hs
    exact R.set (by rw [List.length_map, getD_at hr, lr])
  · exact R
end K24
set_option Elab.async false
set_option linter.all false
set_option maxRecDepth 100000
set_option maxHeartbeats 4000000
set_option autoImplicit false
namespace K24
open PySem PySem.Spec PyProof.Rows L2
open PySem.W (Datum DatumOrd Holds HoldAll Tup)
/-! ### what a Smith form tells: the rows reach every column of numbers -/
abbrev NN := Nat → Nat → Int
def ra (f : NN) (i : Nat) (x : Nat → Int) : Int := f i 0 * x 0 + f i 1 * x 1 + f i 2 * x 2
def Surj (f : NN) (h : Nat) : Prop := ∀ y : Nat → Int, ∃ x : Nat → Int, ∀ i, i < h → ra f i x = y i
theorem tr_tr (s z i : Nat) : tr s z (tr s z i) = i := by
  unfold tr
  by_cases h1 : i = z
  · rw [if_pos h1]
    by_cases h2 : s = z
    · rw [if_pos h2]; omega
    · rw [if_neg h2, if_pos rfl]; omega
  · rw [if_neg h1]
    by_cases h2 : i = s
    · rw [if_pos h2, if_pos rfl]; omega
    · rw [if_neg h2, if_neg h1, if_neg h2]
theorem tr_lt {s z i h : Nat} (hs : s < h) (hz : z < h) (hi : i < h) : tr s z i < h := by unfold tr; split <;> (try split) <;> omega
theorem sw_sw (f : NN) (s a b : Nat) : sw (sw f s a b) s a b = f := by
  funext i k
  unfold sw
  rw [tr_tr, tr_tr]
theorem surj_sw1 {f : NN} {h s a b : Nat} (hs : s < h) (ha : a < h) (hs2 : s < 3) (hb : b < 3) (q : Surj f h) : Surj (sw f s a b) h := fun y => by
  obtain ⟨x, hx⟩ := q fun i => y (tr s a i)
  refine ⟨fun k => x (tr s b k), fun i hi => ?_⟩
  have := hx (tr s a i) (tr_lt hs ha hi)
  rw [tr_tr] at this
  rw [← this]
  unfold ra sw
  have : ∀ g : Nat → Int, g (tr s b 0) + g (tr s b 1) + g (tr s b 2) = g 0 + g 1 + g 2 := fun g => by
    have c : s = 0 ∨ s = 1 ∨ s = 2 := by omega
    have d : b = 0 ∨ b = 1 ∨ b = 2 := by omega
    rcases c with rfl | rfl | rfl <;> rcases d with rfl | rfl | rfl <;> simp [tr] <;> omega
  exact this fun k => f (tr s a i) k * x k
theorem surj_sw {f : NN} {h s a b : Nat} (hs : s < h) (ha : a < h) (hs2 : s < 3) (hb : b < 3) : Surj (sw f s a b) h ↔ Surj f h :=
  ⟨fun q => by have := surj_sw1 hs ha hs2 hb q; rwa [sw_sw] at this, surj_sw1 hs ha hs2 hb⟩
/-- rows changed by rows -/
theorem surj_rows {f g : NN} {h : Nat} (y1 : (Nat → Int) → Nat → Int) (q : ∀ y x, (∀ i, i < h → ra f i x = y1 y i) → ∀ i, i < h → ra g i x = y i) (hf : Surj f h) : Surj g h := fun y => by
  obtain ⟨x, hx⟩ := hf (y1 y)
  exact ⟨x, q y x hx⟩
theorem surj_cols {f g : NN} {h : Nat} (x1 : (Nat → Int) → Nat → Int) (q : ∀ x i, ra g i (x1 x) = ra f i x) (hf : Surj f h) : Surj g h := fun y => by
  obtain ⟨x, hx⟩ := hf y
  exact ⟨x1 x, fun i hi => by rw [q]; exact hx i hi⟩
theorem ra_add (f : NN) (i j : Nat) (c : Int) (x : Nat → Int) (g : NN) (l : Nat) (e : ∀ k, g l k = f i k + c * f j k) : ra g l x = ra f i x + c * ra f j x := by
  unfold ra
  rw [e, e, e]
  grind
theorem surj_rB {G : NN} {h s : Nat} (hs : s < h) : Surj (rB G s) h ↔ Surj G h := by
  have e1 : ∀ i x, ra (rB G s) i x = if s < i then ra G i x - (G i s).fdiv (G s s) * ra G s x else ra G i x := fun i x => by
    by_cases c : s < i
    · rw [if_pos c, ra_add G i s (-(G i s).fdiv (G s s)) x (rB G s) i fun k => by unfold rB; rw [if_pos c, Int.neg_mul]; omega]
      rw [Int.neg_mul]; omega
    · rw [if_neg c]; unfold ra rB; simp only [if_neg c]
  constructor
  · refine surj_rows (fun y i => if s < i then y i - (G i s).fdiv (G s s) * y s else y i) fun y x hx i hi => ?_
    have hs' := hx s hs
    rw [e1, if_neg (by omega), if_neg (by omega)] at hs'
    have := hx i hi
    rw [e1] at this
    by_cases c : s < i
    · rw [if_pos c, if_pos c, hs'] at this; omega
    · rw [if_neg c, if_neg c] at this; exact this
  · refine surj_rows (fun y i => if s < i then y i + (G i s).fdiv (G s s) * y s else y i) fun y x hx i hi => ?_
    have hs' := hx s hs
    rw [if_neg (by omega)] at hs'
    rw [e1]
    have := hx i hi
    by_cases c : s < i
    · rw [if_pos c] at this ⊢; rw [this, hs']; omega
    · rw [if_neg c] at this ⊢; exact this
theorem surj_rC {G : NN} {h s : Nat} (hs : s < 3) : Surj (rC G s) h ↔ Surj (rB G s) h := by
  have e0 : ∀ i k, rC G s i k = if s < k then rB G s i k - (rB G s s k).fdiv (rB G s s s) * rB G s i s else rB G s i k := fun _ _ => rfl
  generalize rB G s = B at *
  generalize ht : (fun k : Nat => (B s k).fdiv (B s s)) = t
  have e1 : ∀ i k, rC G s i k = if s < k then B i k - t k * B i s else B i k := fun i k => by rw [e0, ← ht]
  have c : s = 0 ∨ s = 1 ∨ s = 2 := by omega
  constructor
  · refine surj_cols (fun x k => if k = s then x s - ((if s < 1 then t 1 * x 1 else 0) + (if s < 2 then t 2 * x 2 else 0)) else x k) fun x i => ?_
    unfold ra
    rw [e1, e1, e1]
    rcases c with rfl | rfl | rfl <;> simp <;> grind
  · refine surj_cols (fun x k => if k = s then x s + ((if s < 1 then t 1 * x 1 else 0) + (if s < 2 then t 2 * x 2 else 0)) else x k) fun x i => ?_
    unfold ra
    rw [e1, e1, e1]
    rcases c with rfl | rfl | rfl <;> simp <;> grind
theorem surj_sm4 {m : Mx} {h w s : Nat} {z : Int × Int} (R : Rect m h w) (hs : s < h) (ks : s < w) (w3 : w ≤ 3) (hz : z.1.toNat < h) (kz : z.2.toNat < w) : Surj (fn2 (sm4 m s z h w)) h ↔ Surj (fn2 m) h := by
  have : fn2 (sm4 m s z h w) = rC (sw (fn2 m) s z.1.toNat z.2.toNat) s := by
    funext i k
    exact sm4_at R hs ks hz kz i k
  rw [this, surj_rC (by omega), surj_rB hs, surj_sw hs hz (by omega) (by omega)]
theorem surj_smAdd {m : Mx} {h w s u : Nat} (R : Rect m h w) (hs : s < h) (hu : u < h) (n : s ≠ u) : Surj (fn2 (smAdd m s u)) h ↔ Surj (fn2 m) h := by
  have e1 : ∀ i x, ra (fn2 (smAdd m s u)) i x = if i = s then ra (fn2 m) s x + ra (fn2 m) u x else ra (fn2 m) i x := fun i x => by
    unfold ra fn2
    simp only [smAdd_at R hs hu]
    split <;> grind
  constructor
  · refine surj_rows (fun y i => if i = s then y s + y u else y i) fun y x hx i hi => ?_
    have h1 := hx i hi
    have h2 := hx u hu
    rw [e1] at h1 h2
    rw [if_neg (Ne.symm n), if_neg (Ne.symm n)] at h2
    by_cases c : i = s
    · rw [if_pos c, if_pos c] at h1; subst c; omega
    · rw [if_neg c, if_neg c] at h1; exact h1
  · refine surj_rows (fun y i => if i = s then y s - y u else y i) fun y x hx i hi => ?_
    have h1 := hx i hi
    have h2 := hx u hu
    rw [if_neg (Ne.symm n)] at h2
    rw [e1]
    by_cases c : i = s
    · subst c; rw [if_pos rfl] at h1 ⊢; omega
    · rw [if_neg c] at h1 ⊢; exact h1
theorem surj_smNeg {m : Mx} {h w s : Nat} (R : Rect m h w) (hs : s < h) : Surj (fn2 (smNeg m s)) h ↔ Surj (fn2 m) h := by
  have e1 : ∀ i x, ra (fn2 (smNeg m s)) i x = if i = s ∧ at2 m s s < 0 then - ra (fn2 m) i x else ra (fn2 m) i x := fun i x => by
    unfold ra fn2
    simp only [smNeg_at R hs]
    split
    · rename_i c; rw [c.1]; grind
    · rfl
  constructor
  · refine surj_rows (fun y i => if i = s ∧ at2 m s s < 0 then - y i else y i) fun y x hx i hi => ?_
    have h1 := hx i hi
    rw [e1] at h1
    by_cases c : i = s ∧ at2 m s s < 0
    · rw [if_pos c, if_pos c] at h1; omega
    · rw [if_neg c, if_neg c] at h1; exact h1
  · refine surj_rows (fun y i => if i = s ∧ at2 m s s < 0 then - y i else y i) fun y x hx i hi => ?_
    have h1 := hx i hi
    rw [e1]
    by_cases c : i = s ∧ at2 m s s < 0
    · rw [if_pos c] at h1 ⊢; omega
    · rw [if_neg c] at h1 ⊢; exact h1
/-- done so far as s -/
structure Dg (f : NN) (s : Nat) : Prop where
  z : ∀ i k, (i < s ∨ k < s) → i ≠ k → f i k = 0
  p : ∀ i, i < s → 0 ≤ f i i
theorem tr_lo {s z i : Nat} (hz : s ≤ z) (hi : i < s) : tr s z i = i := by unfold tr; rw [if_neg (by omega), if_neg (by omega)]
theorem tr_hi {s z i : Nat} (hz : s ≤ z) (hi : s ≤ i) : s ≤ tr s z i := by unfold tr; split <;> (try split) <;> omega
theorem Dg.sw {f : NN} {s a b : Nat} (d : Dg f s) (ha : s ≤ a) (hb : s ≤ b) : Dg (sw f s a b) s := ⟨fun i k h n => by
  unfold K24.sw
  by_cases h1 : i < s
  · rw [tr_lo ha h1]
    by_cases h2 : k < s
    · rw [tr_lo hb h2]; exact d.z i k h n
    · have := tr_hi hb (i := k) (by omega); exact d.z _ _ (.inl h1) (by omega)
  · have h2 : k < s := by omega
    rw [tr_lo hb h2]
    have := tr_hi ha (i := i) (by omega)
    exact d.z _ _ (.inr h2) (by omega), fun i h => by
  unfold K24.sw
  rw [tr_lo ha h, tr_lo hb h]
  exact d.p i h⟩
theorem Dg.rB {G : NN} {s : Nat} (d : Dg G s) : Dg (rB G s) s := ⟨fun i k h n => by
  unfold K24.rB
  split
  · rw [d.z i k h n, d.z s k (by omega) (by omega), Int.mul_zero]; rfl
  · exact d.z i k h n, fun i h => by unfold K24.rB; rw [if_neg (by omega)]; exact d.p i h⟩
theorem Dg.rC {G : NN} {s : Nat} (d : Dg G s) : Dg (rC G s) s := ⟨fun i k h n => by
  unfold K24.rC
  split
  · rw [d.rB.z i k h n, d.rB.z i s (by omega) (by omega), Int.mul_zero]; rfl
  · exact d.rB.z i k h n, fun i h => by unfold K24.rC; rw [if_neg (by omega)]; exact d.rB.p i h⟩
theorem clear_in {m : Mx} {s h w : Nat} (c : isClear m s h w = true) : (∀ i : Nat, s < i → i < h → at2 m i s = 0) ∧ ∀ k : Nat, s < k → k < w → at2 m s k = 0 := by
  unfold isClear at c
  rw [Bool.and_eq_true, decide_eq_true_eq, decide_eq_true_eq] at c
  have h1 : ∀ {p : Int → Bool} {l : List Int}, ((l.filter p).length : Int) = 0 → ∀ x ∈ l, p x = false := fun {p l} e x hx => by
    have : l.filter p = [] := List.length_eq_zero_iff.mp (by omega)
    rw [List.filter_eq_nil_iff] at this
    simpa using this x hx
  constructor
  · intro i a b
    have := h1 c.1 (i : Int) (mem_rng.mpr ⟨by omega, by omega⟩)
    simpa using this
  · intro k a b
    have := h1 c.2 (k : Int) (mem_rng.mpr ⟨by omega, by omega⟩)
    simpa using this
theorem place_none {m : Mx} {s h w : Nat} (e : leastPlace m s h w = none) (i k : Nat) (hi : s ≤ i) (hh : i < h) (hk : s ≤ k) (hw : k < w) : at2 m i k = 0 := by
  unfold leastPlace at e
  cases hl : sizesOf m s h w with
  | nil =>
    apply Classical.byContradiction
    intro n
    have := (sizes_mem (m := m) (s := (s : Int)) (h := (h : Int)) (w := (w : Int))).mpr ⟨(i : Int), (k : Int), by omega, by omega, by omega, by omega, n, rfl⟩
    rw [hl] at this
    cases this
  | cons x xs => rw [hl] at e; cases e
theorem SmRun.spec {h w n s : Nat} {m d : Mx} (r : SmRun h w n m s d) (hw : h ≤ w) (w3 : w ≤ 3) (R : Rect m h w) (D : Dg (fn2 m) s) : Rect d h w ∧ (Surj (fn2 d) h ↔ Surj (fn2 m) h) ∧ Dg (fn2 d) h := by
  have hmin : min h w = h := Nat.min_eq_left hw
  induction r with
  | done a =>
    refine ⟨R, Iff.rfl, ⟨fun i k _ n => ?_, fun i hi => D.p i (by omega)⟩⟩
    by_cases h1 : i < h
    · exact D.z i k (by omega) n
    · exact at_out R (by omega)
  | none a b =>
    rename_i m s
    have q : ∀ i k : Nat, i ≠ k → at2 m i k = 0 := fun i k n => by
      by_cases h1 : i < s ∨ k < s
      · exact D.z i k h1 n
      · by_cases h2 : i < h ∧ k < w
        · exact place_none b i k (by omega) h2.1 (by omega) h2.2
        · exact at_out R h2
    refine ⟨R, Iff.rfl, ⟨fun i k _ n => q i k n, fun i hi => ?_⟩⟩
    by_cases h1 : i < s
    · exact D.p i h1
    · have : at2 m i i = 0 := place_none b i i (by omega) hi (by omega) (by omega)
      show 0 ≤ at2 m i i
      omega
  | dirty a b c e r ih =>
    rename_i m d s z
    have pl := place_in b
    have Rz : Rect (sm4 m s z h w) h w := R.sm4 (by omega) (by omega)
    have fe : fn2 (sm4 m s z h w) = rC (K24.sw (fn2 m) s z.1.toNat z.2.toNat) s := by
      funext i k
      exact sm4_at R (by omega) (by omega) (by omega) (by omega) i k
    have Dz : Dg (fn2 (sm4 m s z h w)) s := by rw [fe]; exact (D.sw (by omega) (by omega)).rC
    obtain ⟨r1, r2, r3⟩ := ih Rz Dz
    exact ⟨r1, r2.trans (surj_sm4 R (by omega) (by omega) w3 (by omega) (by omega)), r3⟩
  | unfit a b c e u r ih =>
    rename_i m d s z
    have pl := place_in b
    have Rz : Rect (sm4 m s z h w) h w := R.sm4 (by omega) (by omega)
    have fe : fn2 (sm4 m s z h w) = rC (K24.sw (fn2 m) s z.1.toNat z.2.toNat) s := by
      funext i k
      exact sm4_at R (by omega) (by omega) (by omega) (by omega) i k
    have Dz : Dg (fn2 (sm4 m s z h w)) s := by rw [fe]; exact (D.sw (by omega) (by omega)).rC
    have uv : s < (K24.unfit (sm4 m s z h w) s h w).toNat ∧ (K24.unfit (sm4 m s z h w) s h w).toNat < h := by
      have := unfit_in u
      omega
    generalize (K24.unfit (sm4 m s z h w) s h w).toNat = v at *
    have Ra : Rect (smAdd (sm4 m s z h w) s v) h w := smAdd_rect Rz (by omega) (by omega)
    have Da : Dg (fn2 (smAdd (sm4 m s z h w) s v)) s := ⟨fun i k hh n => by
      show at2 _ i k = 0
      rw [smAdd_at Rz (by omega) (by omega)]
      split
      · rename_i e; subst e
        have h1 : at2 (sm4 m i z h w) i k = 0 := Dz.z i k hh n
        have h2 : at2 (sm4 m i z h w) v k = 0 := Dz.z v k (by omega) (by omega)
        rw [h1, h2]; rfl
      · exact Dz.z i k hh n, fun i hi => by
      show 0 ≤ at2 _ i i
      rw [smAdd_at Rz (by omega) (by omega), if_neg (by omega)]
      exact Dz.p i hi⟩
    obtain ⟨r1, r2, r3⟩ := ih Ra Da
    exact ⟨r1, r2.trans ((surj_smAdd Rz (by omega) (by omega) (by omega)).trans (surj_sm4 R (by omega) (by omega) w3 (by omega) (by omega))), r3⟩
  | next a b c e u r ih =>
    rename_i m d s z
    have pl := place_in b
    have Rz : Rect (sm4 m s z h w) h w := R.sm4 (by omega) (by omega)
    have fe : fn2 (sm4 m s z h w) = rC (K24.sw (fn2 m) s z.1.toNat z.2.toNat) s := by
      funext i k
      exact sm4_at R (by omega) (by omega) (by omega) (by omega) i k
    have Dz : Dg (fn2 (sm4 m s z h w)) s := by rw [fe]; exact (D.sw (by omega) (by omega)).rC
    have cl := clear_in e
    have q : ∀ i k : Nat, (i < s + 1 ∨ k < s + 1) → i ≠ k → at2 (sm4 m s z h w) i k = 0 := fun i k hh n => by
      by_cases h1 : i < s ∨ k < s
      · exact Dz.z i k h1 n
      · by_cases h2 : i < h ∧ k < w
        · by_cases h3 : i = s
          · subst h3; exact cl.2 k (by omega) h2.2
          · have h4 : k = s := by omega
            subst h4; exact cl.1 i (by omega) h2.1
        · exact at_out Rz h2
    have Rn : Rect (smNeg (sm4 m s z h w) s) h w := smNeg_rect Rz (by omega)
    have Dn : Dg (fn2 (smNeg (sm4 m s z h w) s)) (s + 1) := ⟨fun i k hh n => by
      show at2 _ i k = 0
      rw [smNeg_at Rz (by omega)]
      split
      · rename_i e; have := q s k (by omega) (by omega); rw [this]; rfl
      · exact q i k hh n, fun i hi => by
      show 0 ≤ at2 _ i i
      rw [smNeg_at Rz (by omega)]
      split
      · rename_i e; rw [e.1]; omega
      · rename_i e
        by_cases h1 : i = s
        · subst h1; omega
        · exact Dz.p i (by omega)⟩
    obtain ⟨r1, r2, r3⟩ := ih Rn Dn
    exact ⟨r1, r2.trans ((surj_smNeg Rz (by omega)).trans (surj_sm4 R (by omega) (by omega) w3 (by omega) (by omega))), r3⟩
theorem primD_iff {d : Mx} {h : Nat} (h3 : h ≤ 3) (D : Dg (fn2 d) h) : primD d h = true ↔ Surj (fn2 d) h := by
  have e1 : primD d h = true ↔ ∀ k : Nat, k < h → at2 d k k = 1 := by
    unfold primD diagM
    rw [decide_eq_true_eq]
    constructor
    · intro c k hk
      have : ((rng 0 (h : Int)).map fun k : Int => at2 d k k).filter (fun x => !decide (x = 1)) = [] := List.length_eq_zero_iff.mp (by omega)
      rw [List.filter_eq_nil_iff] at this
      have := this (at2 d k k) (List.mem_map.mpr ⟨(k : Int), mem_rng.mpr ⟨by omega, by omega⟩, rfl⟩)
      simpa using this
    · intro c
      rw [List.filter_eq_nil_iff.mpr]
      · rfl
      · intro x hx
        obtain ⟨k, hk, rfl⟩ := List.mem_map.mp hx
        have := mem_rng.mp hk
        have := c k.toNat (by omega)
        rw [Int.toNat_of_nonneg (by omega)] at this
        simp [this]
  have e2 : ∀ i x, i < h → ra (fn2 d) i x = at2 d i i * x i := fun i x hi => by
    unfold ra
    have c : i = 0 ∨ i = 1 ∨ i = 2 := by omega
    rcases c with rfl | rfl | rfl
    · rw [D.z 0 1 (by omega) (by omega), D.z 0 2 (by omega) (by omega)]; show at2 d (0 : Nat) (0 : Nat) * x 0 + 0 * x 1 + 0 * x 2 = _; omega
    · rw [D.z 1 0 (by omega) (by omega), D.z 1 2 (by omega) (by omega)]; show 0 * x 0 + at2 d (1 : Nat) (1 : Nat) * x 1 + 0 * x 2 = _; omega
    · rw [D.z 2 0 (by omega) (by omega), D.z 2 1 (by omega) (by omega)]; show 0 * x 0 + 0 * x 1 + at2 d (2 : Nat) (2 : Nat) * x 2 = _; omega
  rw [e1]
  constructor
  · exact fun c y => ⟨y, fun i hi => by rw [e2 i y hi, c i hi, Int.one_mul]⟩
  · intro c k hk
    obtain ⟨x, hx⟩ := c fun _ => 1
    have h1 := hx k hk
    rw [e2 k x hk] at h1
    have h2 := D.p k hk
    exact Int.eq_one_of_mul_eq_one_right h2 h1
end K24
set_option Elab.async false
set_option linter.all false
set_option maxRecDepth 100000
set_option maxHeartbeats 4000000
set_option autoImplicit false
namespace K24
open PySem PySem.Spec PyProof.Rows L2
open PySem.W (Datum DatumOrd Holds HoldAll Tup)
/-! ### the sizes of a Smith run -/
theorem fmod_small (a : Int) {b : Int} (h : b ≠ 0) : (a.fmod b).natAbs < b.natAbs := by
  by_cases h1 : 0 < b
  · have := Int.fmod_lt_of_pos a h1
    have := Int.fmod_nonneg_of_pos a h1
    omega
  · have h2 : 0 < -b := by omega
    have := Int.fmod_lt_of_pos (-a) h2
    have := Int.fmod_nonneg_of_pos (-a) h2
    rw [Int.neg_fmod_neg] at *
    omega
theorem fdiv_fmod (a b : Int) : a - a.fdiv b * b = a.fmod b := by
  have := Int.fmod_add_mul_fdiv a b
  rw [Int.mul_comm] at this
  omega
structure Rd (G F : NN) (s : Nat) : Prop where
  p0 : G s s ≠ 0
  c : F s s = G s s
  r : ∀ k, s < k → (F s k).natAbs < (G s s).natAbs
  l : ∀ i, s < i → (F i s).natAbs < (G s s).natAbs
  b : ∀ i k, s < i → s < k → G s s * F i k = (G s s * G i k - G i s * G s k) + F i s * F s k
theorem rd_round {G : NN} {s : Nat} (p0 : G s s ≠ 0) : Rd G (rC G s) s := by
  have e1 : rB G s s s = G s s := by unfold rB; rw [if_neg (by omega)]
  have e2 : ∀ k, rB G s s k = G s k := fun k => by unfold rB; rw [if_neg (by omega)]
  have e3 : ∀ i, s < i → rB G s i s = (G i s).fmod (G s s) := fun i h => by unfold rB; rw [if_pos h, fdiv_fmod]
  have e4 : ∀ k, s < k → rC G s s k = (G s k).fmod (G s s) := fun k h => by unfold rC; rw [if_pos h, e1, e2, fdiv_fmod]
  have e5 : ∀ i, rC G s i s = rB G s i s := fun i => by unfold rC; rw [if_neg (by omega)]
  refine ⟨p0, by rw [e5, e1], fun k h => by rw [e4 k h]; exact fmod_small _ p0, fun i h => by rw [e5, e3 i h]; exact fmod_small _ p0, fun i k hi hk => ?_⟩
  rw [e4 k hk, e5, e3 i hi]
  have e6 : rC G s i k = G i k - (G i s).fdiv (G s s) * G s k - (G s k).fdiv (G s s) * (G i s).fmod (G s s) := by
    unfold rC
    rw [if_pos hk, e1, e2, e3 i hi]
    unfold rB
    rw [if_pos hi]
  rw [e6]
  have h1 := fdiv_fmod (G i s) (G s s)
  have h2 := fdiv_fmod (G s k) (G s s)
  generalize (G i s).fdiv (G s s) = q at *
  generalize (G s k).fdiv (G s s) = t at *
  rw [← h1, ← h2]
  grind
def Mn2 (f : NN) (i j k l : Nat) : Int := f i k * f j l - f i l * f j k
def dt (f : NN) : Int := det3 (f 0 0) (f 0 1) (f 0 2) (f 1 0) (f 1 1) (f 1 2) (f 2 0) (f 2 1) (f 2 2)
theorem mn_all {f : NN} {L : Nat} (h : ∀ i j k l, i < j → j < 3 → k < l → l < 3 → (Mn2 f i j k l).natAbs ≤ L) : ∀ i j k l, i < 3 → j < 3 → k < 3 → l < 3 → (Mn2 f i j k l).natAbs ≤ L := by
  have sr : ∀ i j k l, (Mn2 f i j k l).natAbs = (Mn2 f j i k l).natAbs := fun i j k l => by
    have : Mn2 f i j k l = - Mn2 f j i k l := by unfold Mn2; grind
    rw [this, Int.natAbs_neg]
  have sc : ∀ i j k l, (Mn2 f i j k l).natAbs = (Mn2 f i j l k).natAbs := fun i j k l => by
    have : Mn2 f i j k l = - Mn2 f i j l k := by unfold Mn2; grind
    rw [this, Int.natAbs_neg]
  have zr : ∀ i k l, (Mn2 f i i k l).natAbs = 0 := fun i k l => by
    have : Mn2 f i i k l = 0 := by unfold Mn2; grind
    rw [this]; rfl
  have zc : ∀ i j k, (Mn2 f i j k k).natAbs = 0 := fun i j k => by
    have : Mn2 f i j k k = 0 := by unfold Mn2; grind
    rw [this]; rfl
  intro i j k l hi hj hk hl
  rcases Nat.lt_trichotomy i j with a | a | a
  · rcases Nat.lt_trichotomy k l with b | b | b
    · exact h i j k l a hj b hl
    · subst b; rw [zc]; omega
    · rw [sc]; exact h i j l k a hj b hk
  · subst a; rw [zr]; omega
  · rcases Nat.lt_trichotomy k l with b | b | b
    · rw [sr]; exact h j i k l a hi b hl
    · subst b; rw [zc]; omega
    · rw [sr, sc]; exact h j i l k a hi b hk
theorem mn_9 {f : NN} {L : Nat} (h1 : ∀ i k, 0 < i → i < 3 → 0 < k → k < 3 → (Mn2 f 0 i 0 k).natAbs ≤ L) (h2 : ∀ i, 0 < i → i < 3 → (Mn2 f 0 i 1 2).natAbs ≤ L) (h3 : ∀ k, 0 < k → k < 3 → (Mn2 f 1 2 0 k).natAbs ≤ L) (h4 : (Mn2 f 1 2 1 2).natAbs ≤ L) : ∀ i j k l, i < 3 → j < 3 → k < 3 → l < 3 → (Mn2 f i j k l).natAbs ≤ L :=
  mn_all fun i j k l a b c d => by
    have e1 : i = 0 ∨ (i = 1 ∧ j = 2) := by omega
    have e2 : k = 0 ∨ (k = 1 ∧ l = 2) := by omega
    rcases e1 with rfl | ⟨rfl, rfl⟩ <;> rcases e2 with rfl | ⟨rfl, rfl⟩
    · exact h1 j l a b c d
    · exact h2 j a b
    · exact h3 l c d
    · exact h4
theorem mn_sw (f : NN) (s a b i j k l : Nat) : Mn2 (sw f s a b) i j k l = Mn2 f (tr s a i) (tr s a j) (tr s b k) (tr s b l) := rfl
theorem dt_sw {f : NN} {a b : Nat} (ha : a < 3) (hb : b < 3) : (dt (sw f 0 a b)).natAbs = (dt f).natAbs := by
  have h : dt (sw f 0 a b) = dt f ∨ dt (sw f 0 a b) = - dt f := by
    have c : a = 0 ∨ a = 1 ∨ a = 2 := by omega
    have d : b = 0 ∨ b = 1 ∨ b = 2 := by omega
    rcases c with rfl | rfl | rfl <;> rcases d with rfl | rfl | rfl <;> simp only [dt, sw, det3, show tr 0 0 0 = 0 from rfl, show tr 0 0 1 = 1 from rfl, show tr 0 0 2 = 2 from rfl, show tr 0 1 0 = 1 from rfl, show tr 0 1 1 = 0 from rfl, show tr 0 1 2 = 2 from rfl, show tr 0 2 0 = 2 from rfl, show tr 0 2 1 = 1 from rfl, show tr 0 2 2 = 0 from rfl] <;> (generalize f 0 0 = a0; generalize f 0 1 = a1; generalize f 0 2 = a2; generalize f 1 0 = a3; generalize f 1 1 = a4; generalize f 1 2 = a5; generalize f 2 0 = a6; generalize f 2 1 = a7; generalize f 2 2 = a8; first | (left; grind) | (right; grind))
  rcases h with h | h <;> rw [h]
  exact Int.natAbs_neg _
theorem dt_round (G : NN) : dt (rC G 0) = dt G := by
  simp only [dt, det3, rC, rB, Nat.lt_irrefl, if_false, if_true, reduceIte, (by decide : (0 < 1) = True), (by decide : (0 < 2) = True)]
  generalize (G 1 0).fdiv (G 0 0) = q1
  generalize (G 2 0).fdiv (G 0 0) = q2
  generalize (G 0 1).fdiv (G 0 0) = t1
  generalize (G 0 2).fdiv (G 0 0) = t2
  generalize G 0 0 = a0; generalize G 0 1 = a1; generalize G 0 2 = a2; generalize G 1 0 = a3; generalize G 1 1 = a4; generalize G 1 2 = a5; generalize G 2 0 = a6; generalize G 2 1 = a7; generalize G 2 2 = a8
  grind
end K24
set_option Elab.async false
set_option linter.all false
set_option maxRecDepth 100000
set_option maxHeartbeats 4000000
set_option autoImplicit false
namespace K24
open PySem PySem.Spec PyProof.Rows L2
open PySem.W (Datum DatumOrd Holds HoldAll Tup)
/-- a least item that is not zero, from the corner on, is at most P -/
def MinLe (f : NN) (s P : Nat) : Prop := ∀ i k, s ≤ i → i < 3 → s ≤ k → k < 3 → f i k ≠ 0 → (∀ a b, s ≤ a → a < 3 → s ≤ b → b < 3 → f a b ≠ 0 → (f i k).natAbs ≤ (f a b).natAbs) → (f i k).natAbs ≤ P
theorem MinLe.of {f : NN} {s P a b : Nat} (ha : s ≤ a) (ha3 : a < 3) (hb : s ≤ b) (hb3 : b < 3) (n : f a b ≠ 0) (h : (f a b).natAbs ≤ P) : MinLe f s P := fun i k _ _ _ _ _ q => Nat.le_trans (q a b ha ha3 hb hb3 n) h
def EntLe (f : NN) (s E : Nat) : Prop := ∀ i k, s ≤ i → i < 3 → s ≤ k → k < 3 → (f i k).natAbs ≤ E
structure J0 (f : NN) : Prop where
  ex : ∃ L k P : Nat, k + P ≤ 17 ∧ L + 10300 ≤ 40000 * 4 ^ k ∧ 29478 ≤ L ∧ (∀ i j k l, i < 3 → j < 3 → k < 3 → l < 3 → (Mn2 f i j k l).natAbs ≤ L) ∧ EntLe f 0 (L + 300) ∧ MinLe f 0 P
  d : (dt f).natAbs ≤ 29478
def L1 : Nat := 40000 * 4 ^ 17
structure J1 (f : NN) : Prop where
  d : (Mn2 f 1 2 1 2).natAbs ≤ 29478
  e : EntLe f 1 (L1 + 29478)
  m : MinLe f 1 L1
def JJ : Nat → NN → Prop
  | 0, f => J0 f
  | 1, f => J1 f
  | 2, f => (f 2 2).natAbs ≤ L1 + 29478
  | _, _ => True
theorem pw4 {k : Nat} (h : k ≤ 17) : 40000 * 4 ^ k ≤ L1 := Nat.mul_le_mul_left _ (Nat.pow_le_pow_right (by decide) h)
theorem jj_size {s : Nat} {f : NN} (j : JJ s f) : EntLe f s (L1 + 29478) := by
  match s, j with
  | 0, j =>
    obtain ⟨L, k, P, h1, h2, h3, h4, h5, h6⟩ := j.ex
    intro i k' a b c d
    have := h5 i k' a b c d
    have := pw4 (k := k) (by omega)
    omega
  | 1, j => exact j.e
  | 2, j =>
    intro i k a b c d
    have e1 : i = 2 := by omega
    have e2 : k = 2 := by omega
    subst e1 e2
    exact j
  | n + 3, _ => exact fun i k a b => by omega
/-- a product of a number below the pivot with an item behind it -/
theorem small_big {p x y : Int} {Q : Nat} (hx : x.natAbs ≤ p.natAbs) (h : (p * y).natAbs ≤ Q) : (x * y).natAbs ≤ Q := by
  rw [Int.natAbs_mul] at *
  exact Nat.le_trans (Nat.mul_le_mul_right _ hx) h
theorem by_piv {p y : Int} {Q : Nat} (p0 : p ≠ 0) (h : (p * y).natAbs ≤ Q) : y.natAbs ≤ Q := by
  rw [Int.natAbs_mul] at h
  have := Nat.le_mul_of_pos_left y.natAbs (show 0 < p.natAbs by omega)
  omega
theorem by_piv2 {p y : Int} {A B : Nat} (p0 : p ≠ 0) (h : (p * y).natAbs ≤ A + p.natAbs * B) : y.natAbs ≤ A + B := by
  rw [Int.natAbs_mul] at h
  apply Classical.byContradiction
  intro c
  have h1 : p.natAbs * (A + B + 1) ≤ p.natAbs * y.natAbs := Nat.mul_le_mul_left _ (by omega)
  rw [Nat.mul_add, Nat.mul_add] at h1
  have : A ≤ p.natAbs * A := Nat.le_mul_of_pos_left A (show 0 < p.natAbs by omega)
  omega
theorem add_abs {a b : Int} {A B : Nat} (h1 : a.natAbs ≤ A) (h2 : b.natAbs ≤ B) : (a + b).natAbs ≤ A + B := by omega
theorem sub_abs {a b : Int} {A B : Nat} (h1 : a.natAbs ≤ A) (h2 : b.natAbs ≤ B) : (a - b).natAbs ≤ A + B := by omega
/-- the facts of a round at the corner s -/
structure Rnd (f : NN) (s a b : Nat) : Prop where
  a0 : s ≤ a
  a3 : a < 3
  b0 : s ≤ b
  b3 : b < 3
  n : f a b ≠ 0
  mi : ∀ i k, s ≤ i → i < 3 → s ≤ k → k < 3 → f i k ≠ 0 → (f a b).natAbs ≤ (f i k).natAbs
theorem tr_s (s a : Nat) : tr s a s = a := by unfold tr; split <;> (try split) <;> omega
theorem sw_ss (f : NN) (s a b : Nat) : sw f s a b s s = f a b := by unfold sw; rw [tr_s, tr_s]
theorem Rnd.rd {f : NN} {s a b : Nat} (r : Rnd f s a b) : Rd (sw f s a b) (rC (sw f s a b) s) s := rd_round (by rw [sw_ss]; exact r.n)
theorem j0_dirty {f : NN} {a b : Nat} (j : J0 f) (r : Rnd f 0 a b) (dirty : ∃ k, 0 < k ∧ k < 3 ∧ (rC (sw f 0 a b) 0 0 k ≠ 0 ∨ rC (sw f 0 a b) 0 k 0 ≠ 0)) : J0 (rC (sw f 0 a b) 0) := by
  obtain ⟨⟨L, k, P, kP, hL, hL2, hm, he, hmin⟩, hd⟩ := j
  have hpP : (f a b).natAbs ≤ P := hmin a b (by omega) r.a3 (by omega) r.b3 r.n r.mi
  have rd := r.rd
  have hmG : ∀ i j k l, i < 3 → j < 3 → k < 3 → l < 3 → (Mn2 (sw f 0 a b) i j k l).natAbs ≤ L := fun i j k l h1 h2 h3 h4 => by
    rw [mn_sw]
    exact hm _ _ _ _ (tr_lt (by omega) r.a3 h1) (tr_lt (by omega) r.a3 h2) (tr_lt (by omega) r.b3 h3) (tr_lt (by omega) r.b3 h4)
  have hdF : (dt (rC (sw f 0 a b) 0)).natAbs ≤ 29478 := by rw [dt_round, dt_sw r.a3 r.b3]; exact hd
  have hp : (sw f 0 a b 0 0).natAbs ≤ P := by rw [sw_ss]; exact hpP
  generalize sw f 0 a b = G at *
  generalize hF : rC G 0 = F at *
  have p0 := rd.p0
  generalize hpp : G 0 0 = p at *
  have hp17 : p.natAbs ≤ 17 := by omega
  have hpp2 : p.natAbs * p.natAbs ≤ 289 := Nat.mul_le_mul hp17 hp17
  have hM : ∀ i k, 0 < i → i < 3 → 0 < k → k < 3 → (p * G i k - G i 0 * G 0 k).natAbs ≤ L := fun i k h1 h2 h3 h4 => by
    have := hmG 0 i 0 k (by omega) h2 (by omega) h4
    unfold Mn2 at this
    rw [hpp, Int.mul_comm (G 0 k)] at this
    exact this
  have hs : ∀ i k, 0 < i → i < 3 → 0 < k → k < 3 → (F i 0 * F 0 k).natAbs ≤ 289 := fun i k h1 h2 h3 h4 => by
    have h5 := rd.l i h1
    have h6 := rd.r k h3
    rw [hpp] at h5 h6
    have := mulB (Nat.le_of_lt h5) (Nat.le_of_lt h6)
    omega
  have hb : ∀ i k, 0 < i → i < 3 → 0 < k → k < 3 → (p * F i k).natAbs ≤ L + 289 := fun i k h1 h2 h3 h4 => by
    have := rd.b i k h1 h3
    rw [hpp] at this
    rw [this]
    exact add_abs (hM i k h1 h2 h3 h4) (hs i k h1 h2 h3 h4)
  have sm0 : ∀ k, 0 < k → (F 0 k).natAbs ≤ p.natAbs := fun k h => by have := rd.r k h; rw [hpp] at this; omega
  have sm1 : ∀ k, 0 < k → (F k 0).natAbs ≤ p.natAbs := fun k h => by have := rd.l k h; rw [hpp] at this; omega
  have c := rd.c
  rw [hpp] at c
  have hB : (Mn2 F 1 2 1 2).natAbs ≤ 29478 + 4 * (L + 289) := by
    refine by_piv2 p0 ?_
    have e : p * Mn2 F 1 2 1 2 = dt F + (F 0 1 * (F 1 0 * F 2 2 - F 2 0 * F 1 2) - F 0 2 * (F 1 0 * F 2 1 - F 2 0 * F 1 1)) := by
      unfold Mn2 dt det3
      rw [c]
      generalize F 0 1 = a1; generalize F 0 2 = a2; generalize F 1 0 = a3; generalize F 1 1 = a4; generalize F 1 2 = a5; generalize F 2 0 = a6; generalize F 2 1 = a7; generalize F 2 2 = a8
      grind
    rw [e]
    refine add_abs hdF ?_
    have w : ∀ k, 0 < k → k < 3 → (F 1 0 * F 2 k - F 2 0 * F 1 k).natAbs ≤ 2 * (L + 289) := fun k h1 h2 => by
      have := sub_abs (small_big (sm1 1 (by omega)) (hb 2 k (by omega) (by omega) h1 h2)) (small_big (sm1 2 (by omega)) (hb 1 k (by omega) (by omega) h1 h2))
      omega
    have w1 := mulB (sm0 1 (by omega)) (w 2 (by omega) (by omega))
    have w2 := mulB (sm0 2 (by omega)) (w 1 (by omega) (by omega))
    have := sub_abs w1 w2
    have e2 : p.natAbs * (2 * (L + 289)) + p.natAbs * (2 * (L + 289)) = p.natAbs * (4 * (L + 289)) := by rw [← Nat.mul_add]; congr 1; omega
    omega
  obtain ⟨kd, kd0, kd3, hk⟩ := dirty
  have low : ∃ x y, x < 3 ∧ y < 3 ∧ F x y ≠ 0 ∧ (F x y).natAbs < p.natAbs := by
    rcases hk with h | h
    · exact ⟨0, kd, by omega, kd3, h, by have := rd.r kd kd0; rw [hpp] at this; exact this⟩
    · exact ⟨kd, 0, kd3, by omega, h, by have := rd.l kd kd0; rw [hpp] at this; exact this⟩
  obtain ⟨x, y, x3, y3, n, lt⟩ := low
  refine ⟨⟨29478 + 4 * (L + 289), k + 1, P - 1, by omega, by rw [Nat.pow_succ]; omega, by omega, mn_9 ?_ ?_ ?_ hB, fun i k h1 h2 h3 h4 => ?_, MinLe.of (Nat.zero_le _) x3 (Nat.zero_le _) y3 n (by omega)⟩, hdF⟩
  · intro i k h1 h2 h3 h4
    have e : Mn2 F 0 i 0 k = p * G i k - G i 0 * G 0 k := by
      have := rd.b i k h1 h3
      rw [hpp] at this
      unfold Mn2
      rw [c, this, Int.mul_comm (F 0 k)]
      omega
    rw [e]
    have := hM i k h1 h2 h3 h4
    omega
  · intro i h1 h2
    have := sub_abs (small_big (sm0 1 (by omega)) (hb i 2 h1 h2 (by omega) (by omega))) (small_big (sm0 2 (by omega)) (hb i 1 h1 h2 (by omega) (by omega)))
    unfold Mn2
    omega
  · intro k h1 h2
    have := sub_abs (small_big (sm1 1 (by omega)) (hb 2 k (by omega) (by omega) h1 h2)) (small_big (sm1 2 (by omega)) (hb 1 k (by omega) (by omega) h1 h2))
    unfold Mn2
    rw [Int.mul_comm (F 1 k)]
    omega
  · by_cases c1 : i = 0
    · subst c1
      by_cases c2 : k = 0
      · subst c2; rw [c]; omega
      · have := sm0 k (by omega); omega
    · by_cases c2 : k = 0
      · subst c2; have := sm1 i (by omega); omega
      · have := by_piv p0 (hb i k (by omega) h2 (by omega) h4); omega
/-- a clear round -/
structure Cl (F : NN) (s : Nat) : Prop where
  r : ∀ k, s < k → k < 3 → F s k = 0
  l : ∀ k, s < k → k < 3 → F k s = 0
theorem j0_clear {f : NN} {a b : Nat} (j : J0 f) (r : Rnd f 0 a b) (cl : Cl (rC (sw f 0 a b) 0) 0) : ∃ L k P : Nat, k + P ≤ 17 ∧ L + 10300 ≤ 40000 * 4 ^ k ∧ 29478 ≤ L ∧ rC (sw f 0 a b) 0 0 0 ≠ 0 ∧ (rC (sw f 0 a b) 0 0 0).natAbs ≤ P ∧ (∀ i k, 0 < i → i < 3 → 0 < k → k < 3 → (rC (sw f 0 a b) 0 0 0 * rC (sw f 0 a b) 0 i k).natAbs ≤ L) ∧ (rC (sw f 0 a b) 0 0 0 * Mn2 (rC (sw f 0 a b) 0) 1 2 1 2).natAbs ≤ 29478 := by
  obtain ⟨⟨L, k, P, kP, hL, hL2, hm, he, hmin⟩, hd⟩ := j
  have hpP : (f a b).natAbs ≤ P := hmin a b (by omega) r.a3 (by omega) r.b3 r.n r.mi
  have rd := r.rd
  have hmG : ∀ i j k l, i < 3 → j < 3 → k < 3 → l < 3 → (Mn2 (sw f 0 a b) i j k l).natAbs ≤ L := fun i j k l h1 h2 h3 h4 => by
    rw [mn_sw]
    exact hm _ _ _ _ (tr_lt (by omega) r.a3 h1) (tr_lt (by omega) r.a3 h2) (tr_lt (by omega) r.b3 h3) (tr_lt (by omega) r.b3 h4)
  have hdF : (dt (rC (sw f 0 a b) 0)).natAbs ≤ 29478 := by rw [dt_round, dt_sw r.a3 r.b3]; exact hd
  have hp : (sw f 0 a b 0 0).natAbs ≤ P := by rw [sw_ss]; exact hpP
  generalize sw f 0 a b = G at *
  generalize hF : rC G 0 = F at *
  rw [rd.c]
  refine ⟨L, k, P, kP, hL, hL2, rd.p0, hp, fun i k h1 h2 h3 h4 => ?_, ?_⟩
  · rw [rd.b i k h1 h3, cl.l i h1 h2]
    have := hmG 0 i 0 k (by omega) h2 (by omega) h4
    unfold Mn2 at this
    rw [Int.mul_comm (G 0 k)] at this
    rw [Int.zero_mul, Int.add_zero]
    exact this
  · have e : G 0 0 * Mn2 F 1 2 1 2 = dt F := by
      unfold dt det3 Mn2
      rw [cl.r 1 (by omega) (by omega), cl.r 2 (by omega) (by omega), rd.c]
      grind
    rw [e]
    exact hdF
def addR (F : NN) (s u : Nat) : NN := fun i k => if i = s then F s k + F u k else F i k
theorem j0_unfit {f : NN} {a b u : Nat} (j : J0 f) (r : Rnd f 0 a b) (cl : Cl (rC (sw f 0 a b) 0) 0) (u0 : 0 < u) (u3 : u < 3) : J0 (addR (rC (sw f 0 a b) 0) 0 u) := by
  obtain ⟨L, k, P, kP, hL, hL2, p0, hp, hb, hB⟩ := j0_clear j r cl
  generalize rC (sw f 0 a b) 0 = F at *
  have hz1 := cl.r 1 (by omega) (by omega)
  have hz2 := cl.r 2 (by omega) (by omega)
  have hy1 := cl.l 1 (by omega) (by omega)
  have hy2 := cl.l 2 (by omega) (by omega)
  have hyu := cl.l u u0 u3
  have hBm := by_piv p0 hB
  have e0 : addR F 0 u 0 0 = F 0 0 := by unfold addR; rw [if_pos rfl, hyu, Int.add_zero]
  have e1 : ∀ k, 0 < k → k < 3 → addR F 0 u 0 k = F u k := fun k h1 h2 => by unfold addR; rw [if_pos rfl, cl.r k h1 h2, Int.zero_add]
  have e2 : ∀ i k, 0 < i → addR F 0 u i k = F i k := fun i k h => by unfold addR; rw [if_neg (by omega)]
  have eM : Mn2 (addR F 0 u) 1 2 1 2 = Mn2 F 1 2 1 2 := by unfold Mn2; rw [e2 1 1 (by omega), e2 2 2 (by omega), e2 1 2 (by omega), e2 2 1 (by omega)]
  refine ⟨⟨L, k, P, kP, hL, hL2, mn_9 ?_ ?_ ?_ (by rw [eM]; omega), fun i k h1 h2 h3 h4 => ?_, MinLe.of (a := 0) (b := 0) (by omega) (by omega) (by omega) (by omega) (by rw [e0]; exact p0) (by rw [e0]; exact hp)⟩, ?_⟩
  · intro i k h1 h2 h3 h4
    unfold Mn2
    rw [e0, e2 i k h1, e2 i 0 h1, cl.l i h1 h2, Int.mul_zero, Int.sub_zero]
    exact hb i k h1 h2 h3 h4
  · intro i h1 h2
    unfold Mn2
    rw [e1 1 (by omega) (by omega), e1 2 (by omega) (by omega), e2 i 2 h1, e2 i 1 h1]
    have cu : u = 1 ∨ u = 2 := by omega
    have ci : i = 1 ∨ i = 2 := by omega
    unfold Mn2 at hBm
    rcases cu with rfl | rfl <;> rcases ci with rfl | rfl
    · rw [Int.mul_comm (F 1 1), Int.sub_self]; omega
    · omega
    · rw [Int.mul_comm (F 2 1), Int.mul_comm (F 2 2)]; omega
    · rw [Int.mul_comm (F 2 1), Int.sub_self]; omega
  · intro k h1 h2
    unfold Mn2
    rw [e2 1 0 (by omega), e2 2 0 (by omega), hy1, hy2]
    simp
  · by_cases c1 : i = 0
    · subst c1
      by_cases c2 : k = 0
      · subst c2; rw [e0]; omega
      · rw [e1 k (by omega) h4]
        have := by_piv p0 (hb u k u0 u3 (by omega) h4)
        omega
    · rw [e2 i k (by omega)]
      by_cases c2 : k = 0
      · subst c2; rw [cl.l i (by omega) h2]; show 0 ≤ _; omega
      · have := by_piv p0 (hb i k (by omega) h2 (by omega) h4); omega
  · have e : dt (addR F 0 u) = F 0 0 * Mn2 F 1 2 1 2 := by
      unfold dt det3 Mn2
      rw [e0, e2 1 0 (by omega), e2 2 0 (by omega), e2 1 1 (by omega), e2 1 2 (by omega), e2 2 1 (by omega), e2 2 2 (by omega), hy1, hy2]
      grind
    rw [e]
    exact hB
theorem j0_next {f g : NN} {a b : Nat} (j : J0 f) (r : Rnd f 0 a b) (cl : Cl (rC (sw f 0 a b) 0) 0) (hg : ∀ i k, 0 < i → g i k = rC (sw f 0 a b) 0 i k) : J1 g := by
  obtain ⟨L, k, P, kP, hL, hL2, p0, hp, hb, hB⟩ := j0_clear j r cl
  generalize rC (sw f 0 a b) 0 = F at *
  have := pw4 (k := k) (by omega)
  have hE : ∀ i k, 1 ≤ i → i < 3 → 1 ≤ k → k < 3 → (g i k).natAbs ≤ L1 := fun i k h1 h2 h3 h4 => by
    rw [hg i k (by omega)]
    have := by_piv p0 (hb i k (by omega) h2 (by omega) h4)
    omega
  refine ⟨?_, fun i k h1 h2 h3 h4 => by have := hE i k h1 h2 h3 h4; omega, fun i k h1 h2 h3 h4 _ _ => hE i k h1 h2 h3 h4⟩
  unfold Mn2
  rw [hg _ _ (by omega), hg _ _ (by omega), hg _ _ (by omega), hg _ _ (by omega)]
  exact by_piv p0 hB
end K24
set_option Elab.async false
set_option linter.all false
set_option maxRecDepth 100000
set_option maxHeartbeats 4000000
set_option autoImplicit false
namespace K24
open PySem PySem.Spec PyProof.Rows L2
open PySem.W (Datum DatumOrd Holds HoldAll Tup)
theorem mn_sw1 {f : NN} {a b : Nat} (a1 : 1 ≤ a) (a3 : a < 3) (b1 : 1 ≤ b) (b3 : b < 3) : (Mn2 (sw f 1 a b) 1 2 1 2).natAbs = (Mn2 f 1 2 1 2).natAbs := by
  have h : Mn2 (sw f 1 a b) 1 2 1 2 = Mn2 f 1 2 1 2 ∨ Mn2 (sw f 1 a b) 1 2 1 2 = - Mn2 f 1 2 1 2 := by
    rw [mn_sw]
    have c : a = 1 ∨ a = 2 := by omega
    have d : b = 1 ∨ b = 2 := by omega
    rcases c with rfl | rfl <;> rcases d with rfl | rfl <;> simp only [show tr 1 1 1 = 1 from rfl, show tr 1 1 2 = 2 from rfl, show tr 1 2 1 = 2 from rfl, show tr 1 2 2 = 1 from rfl]
    · exact .inl trivial
    · right; unfold Mn2; grind
    · right; unfold Mn2; grind
    · left; unfold Mn2; grind
  rcases h with h | h <;> rw [h]
  exact Int.natAbs_neg _
/-- the second corner, a round -/
theorem j1_round {f : NN} {a b : Nat} (j : J1 f) (r : Rnd f 1 a b) : ∃ F p, F = rC (sw f 1 a b) 1 ∧ F 1 1 = p ∧ p ≠ 0 ∧ p.natAbs ≤ L1 ∧ (F 1 2).natAbs < p.natAbs ∧ (F 2 1).natAbs < p.natAbs ∧ (F 2 2).natAbs ≤ 29478 + p.natAbs ∧ (Mn2 F 1 2 1 2).natAbs ≤ 29478 := by
  have rd := r.rd
  have hp : (sw f 1 a b 1 1).natAbs ≤ L1 := by rw [sw_ss]; exact j.m a b r.a0 r.a3 r.b0 r.b3 r.n r.mi
  have hM := mn_sw1 (f := f) r.a0 r.a3 r.b0 r.b3
  generalize sw f 1 a b = G at *
  have hM2 : (Mn2 G 1 2 1 2).natAbs ≤ 29478 := by rw [hM]; exact j.d
  have hb := rd.b 2 2 (by omega) (by omega)
  have h1 := rd.r 2 (by omega)
  have h2 := rd.l 2 (by omega)
  have eM : Mn2 (rC G 1) 1 2 1 2 = Mn2 G 1 2 1 2 := by
    unfold Mn2
    rw [rd.c, hb, Int.mul_comm (rC G 1 1 2), Int.mul_comm (G 1 2)]
    omega
  refine ⟨rC G 1, G 1 1, rfl, rd.c, rd.p0, hp, h1, h2, ?_, by rw [eM]; exact hM2⟩
  refine by_piv2 (A := 29478) rd.p0 ?_
  rw [hb]
  have e : G 1 1 * G 2 2 - G 2 1 * G 1 2 = Mn2 G 1 2 1 2 := by unfold Mn2; rw [Int.mul_comm (G 2 1)]
  rw [e]
  exact add_abs hM2 (mulB (Nat.le_of_lt h2) (Nat.le_of_lt h1))
theorem ent2 {F : NN} {E : Nat} (h11 : (F 1 1).natAbs ≤ E) (h12 : (F 1 2).natAbs ≤ E) (h21 : (F 2 1).natAbs ≤ E) (h22 : (F 2 2).natAbs ≤ E) : EntLe F 1 E := fun i k a b c d => by
  have e1 : i = 1 ∨ i = 2 := by omega
  have e2 : k = 1 ∨ k = 2 := by omega
  rcases e1 with rfl | rfl <;> rcases e2 with rfl | rfl <;> assumption
theorem jj_dirty {s : Nat} {f : NN} {a b : Nat} (j : JJ s f) (r : Rnd f s a b) (dirty : ∃ k, s < k ∧ k < 3 ∧ (rC (sw f s a b) s s k ≠ 0 ∨ rC (sw f s a b) s k s ≠ 0)) : JJ s (rC (sw f s a b) s) := by
  match s, j, r, dirty with
  | 0, j, r, dirty => exact j0_dirty j r dirty
  | 1, j, r, dirty =>
    obtain ⟨F, p, hF, c, p0, pl, h1, h2, h3, h4⟩ := j1_round j r
    rw [← hF] at dirty ⊢
    have nz : ∃ x y, 1 ≤ x ∧ x < 3 ∧ 1 ≤ y ∧ y < 3 ∧ F x y ≠ 0 ∧ (F x y).natAbs ≤ L1 := by
      obtain ⟨k, k1, k3, n⟩ := dirty
      have : k = 2 := by omega
      subst this
      rcases n with n | n
      · exact ⟨1, 2, by omega, by omega, by omega, by omega, n, by omega⟩
      · exact ⟨2, 1, by omega, by omega, by omega, by omega, n, by omega⟩
    obtain ⟨x, y, x1, x3, y1, y3, n, l⟩ := nz
    exact ⟨h4, ent2 (by rw [c]; omega) (by omega) (by omega) (by omega), MinLe.of x1 x3 y1 y3 n l⟩
  | 2, j, r, dirty => obtain ⟨k, k1, k3, n⟩ := dirty; omega
  | _ + 3, _, _, _ => exact trivial
theorem jj_unfit {s u : Nat} {f : NN} {a b : Nat} (j : JJ s f) (r : Rnd f s a b) (cl : Cl (rC (sw f s a b) s) s) (u0 : s < u) (u3 : u < 3) : JJ s (addR (rC (sw f s a b) s) s u) := by
  match s, j, r, cl, u0 with
  | 0, j, r, cl, u0 => exact j0_unfit j r cl u0 u3
  | 1, j, r, cl, u0 =>
    obtain ⟨F, p, hF, c, p0, pl, h1, h2, h3, h4⟩ := j1_round j r
    rw [← hF] at cl ⊢
    have : u = 2 := by omega
    subst this
    have z1 := cl.r 2 (by omega) (by omega)
    have z2 := cl.l 2 (by omega) (by omega)
    have e11 : addR F 1 2 1 1 = p := by unfold addR; rw [if_pos rfl, c, z2, Int.add_zero]
    have e12 : addR F 1 2 1 2 = F 2 2 := by unfold addR; rw [if_pos rfl, z1, Int.zero_add]
    have e21 : addR F 1 2 2 1 = 0 := by unfold addR; rw [if_neg (by omega), z2]
    have e22 : addR F 1 2 2 2 = F 2 2 := by unfold addR; rw [if_neg (by omega)]
    have eM : Mn2 (addR F 1 2) 1 2 1 2 = Mn2 F 1 2 1 2 := by
      unfold Mn2
      rw [e11, e12, e21, e22, c, z1, z2]
      omega
    exact ⟨by rw [eM]; exact h4, ent2 (by rw [e11]; omega) (by rw [e12]; omega) (by rw [e21]; show 0 ≤ _; omega) (by rw [e22]; omega), MinLe.of (a := 1) (b := 1) (by omega) (by omega) (by omega) (by omega) (by rw [e11]; exact p0) (by rw [e11]; exact pl)⟩
  | 2, _, _, _, _ => omega
  | _ + 3, _, _, _, _ => exact trivial
theorem jj_next {s : Nat} {f g : NN} {a b : Nat} (j : JJ s f) (r : Rnd f s a b) (cl : Cl (rC (sw f s a b) s) s) (hg : ∀ i k, s < i → g i k = rC (sw f s a b) s i k) : JJ (s + 1) g := by
  match s, j, r, cl, hg with
  | 0, j, r, cl, hg => exact j0_next j r cl hg
  | 1, j, r, cl, hg =>
    obtain ⟨F, p, hF, c, p0, pl, h1, h2, h3, h4⟩ := j1_round j r
    rw [← hF] at cl hg
    show (g 2 2).natAbs ≤ _
    rw [hg 2 2 (by omega)]
    omega
  | 2, _, _, _, _ => exact trivial
  | _ + 3, _, _, _, _ => exact trivial
/-! ### the least place, ties by place -/
theorem minOf_le {α : Type} [DecidableEq α] [DatumOrd α] (L : Lin α) : ∀ (xs : List α) (x : α), ∀ y ∈ x :: xs, DatumOrd.lt y (PySem.W.minOf x xs) = false
  | [], x, y, hy => by
    rcases List.mem_cons.mp hy with h | h
    · rw [h]; exact L.irr _
    · cases h
  | z :: zs, x, y, hy => by
    have e : PySem.W.minOf x (z :: zs) = PySem.W.minOf (if DatumOrd.lt z x = true then z else x) zs := rfl
    rw [e]
    have ih := minOf_le L zs (if DatumOrd.lt z x = true then z else x)
    by_cases c : DatumOrd.lt z x = true
    · rw [if_pos c] at ih ⊢
      rcases List.mem_cons.mp hy with h | h
      · rw [h]
        have := ih z (List.mem_cons_self ..)
        cases q : (DatumOrd.lt x (PySem.W.minOf z zs) : Bool) with
        | false => rfl
        | true => rw [L.tr _ _ _ c q] at this; cases this
      · exact ih y h
    · rw [if_neg c] at ih ⊢
      rcases List.mem_cons.mp hy with h | h
      · exact ih y (h ▸ List.mem_cons_self ..)
      · rcases List.mem_cons.mp h with h | h
        · rw [h]
          have := ih x (List.mem_cons_self ..)
          cases q : (DatumOrd.lt z (PySem.W.minOf x zs) : Bool) with
          | false => rfl
          | true =>
            by_cases hx : x = z
            · rw [hx] at this; rw [hx] at q; rw [q] at this; cases this
            · have := L.tri z x (Ne.symm hx) (by cases hh : (DatumOrd.lt z x : Bool) with | true => exact absurd hh c | false => rfl)
              rename_i t1
              rw [L.tr _ _ _ this q] at t1
              cases t1
        · exact ih y (List.mem_cons_of_mem _ h)
/-- where the corner is as small as any, it is taken -/
theorem place_corner {m : Mx} {s h w : Nat} {z : Int × Int} (e : leastPlace m s h w = some z) (hs : s < h) (hw : s < w) (n : at2 m s s ≠ 0) (le : (at2 m s s).natAbs ≤ (at2 m z.1 z.2).natAbs) : z = ((s : Int), (s : Int)) := by
  have pl := place_in e
  unfold leastPlace at e
  cases hl : sizesOf m s h w with
  | nil => rw [hl] at e; cases e
  | cons x xs =>
    rw [hl] at e
    have e2 := (Option.some.inj e).symm
    have hmem := minTI_mem x xs
    rw [← hl] at hmem
    obtain ⟨i, k, h1, h2, h3, h4, h5, h6⟩ := sizes_mem.mp hmem
    have mc : [((at2 m s s).natAbs : Int), (s : Int), (s : Int)] ∈ sizesOf m s h w := sizes_mem.mpr ⟨(s : Int), (s : Int), by omega, by omega, by omega, by omega, n, rfl⟩
    rw [hl] at mc
    have lo := minOf_le lin_TI (xs.map Tup.mk) (Tup.mk x) (Tup.mk [((at2 m s s).natAbs : Int), (s : Int), (s : Int)]) (by
      have e9 : Tup.mk x :: xs.map Tup.mk = (x :: xs).map Tup.mk := rfl
      rw [e9]
      exact List.mem_map.mpr ⟨_, mc, rfl⟩)
    have e8 : PySem.W.minOf (Tup.mk x) (xs.map Tup.mk) = Tup.mk [((at2 m i k).natAbs : Int), i, k] := by
      have : (PySem.W.minOf (Tup.mk x) (xs.map Tup.mk)).items = [((at2 m i k).natAbs : Int), i, k] := by rw [← h6, hl]; rfl
      rw [← this]
    rw [e8] at lo
    have ez : z = (i, k) := by rw [e2, ← hl, h6]; rfl
    rw [ez] at le
    have lo2 : PySem.W.listLt [((at2 m s s).natAbs : Int), (s : Int), (s : Int)] [((at2 m i k).natAbs : Int), i, k] = false := lo
    have ge := pl.2.2.2.2.2 s s (by omega) (by omega) (by omega) (by omega) n
    rw [ez] at ge
    have eq : ((at2 m s s).natAbs : Int) = ((at2 m i k).natAbs : Int) := by
      have ge : (at2 m i k).natAbs ≤ (at2 m s s).natAbs := ge
      have le : (at2 m s s).natAbs ≤ (at2 m i k).natAbs := le
      omega
    rw [PySem.W.listLt, if_pos eq, PySem.W.listLt] at lo2
    by_cases ei : (s : Int) = i
    · rw [if_pos ei, PySem.W.listLt] at lo2
      by_cases ek : (s : Int) = k
      · rw [ez, ← ei, ← ek]
      · rw [if_neg ek] at lo2
        have : ¬ ((s : Int) < k) := fun c => by
          have : DatumOrd.lt (s : Int) k = true := decide_eq_true c
          rw [this] at lo2; cases lo2
        omega
    · rw [if_neg ei] at lo2
      have : ¬ ((s : Int) < i) := fun c => by
        have : DatumOrd.lt (s : Int) i = true := decide_eq_true c
        rw [this] at lo2; cases lo2
      omega
end K24
set_option Elab.async false
set_option linter.all false
set_option maxRecDepth 100000
set_option maxHeartbeats 4000000
set_option autoImplicit false
namespace K24
open PySem PySem.Spec PyProof.Rows L2
open PySem.W (Datum DatumOrd Holds HoldAll Tup)
/-! ### a Smith run ends -/
theorem L1_lt : L1 + 29478 < 2 ^ 64 := by decide
/-- the corner is to be divided by, and its row holds what it does not divide -/
def UR (f : NN) (s : Nat) : Prop := f s s ≠ 0 ∧ (∀ i, s < i → f i s = 0) ∧ ∃ k, s < k ∧ k < 3 ∧ (f s k).fmod (f s s) ≠ 0
theorem place_rnd {m : Mx} {h w s : Nat} {z : Int × Int} (R : Rect m h w) (h3 : h ≤ 3) (w3 : w ≤ 3) (e : leastPlace m s h w = some z) : Rnd (fn2 m) s z.1.toNat z.2.toNat ∧ z.1.toNat < h ∧ z.2.toNat < w ∧ (fn2 m z.1.toNat z.2.toNat) = at2 m z.1 z.2 := by
  have pl := place_in e
  have e1 : ((z.1.toNat : Nat) : Int) = z.1 := by omega
  have e2 : ((z.2.toNat : Nat) : Int) = z.2 := by omega
  have e3 : fn2 m z.1.toNat z.2.toNat = at2 m z.1 z.2 := by unfold fn2; rw [e1, e2]
  refine ⟨⟨by omega, by omega, by omega, by omega, by rw [e3]; exact pl.2.2.2.2.1, fun i k h1 h2 h4 h5 n => ?_⟩, by omega, by omega, e3⟩
  rw [e3]
  by_cases c : i < h ∧ k < w
  · exact pl.2.2.2.2.2 i k (by omega) (by omega) (by omega) (by omega) n
  · exact absurd (at_out R c) n
theorem unfit_neg {m : Mx} {s h w : Nat} (u : unfit m s h w < 0) : True := trivial
theorem sm_ok {m : Mx} {h w s : Nat} {z : Int × Int} (R : Rect m h w) (h3 : h ≤ 3) (w3 : w ≤ 3) (hs : s < h) (ks : s < w) (j : JJ s (fn2 m)) (e : leastPlace m s h w = some z) : SmOk m s z h w := by
  obtain ⟨r, hz, kz, ez⟩ := place_rnd R h3 w3 e
  have sz := jj_size j
  have e0 : ∀ i k : Nat, at2 (sm2 m s z) i k = sw (fn2 m) s z.1.toNat z.2.toNat i k := fun i k => sm2_at R hs ks hz kz i k
  have e1 : ∀ i k : Nat, at2 (turned (sm3 m s z h) w) i k = rB (sw (fn2 m) s z.1.toNat z.2.toNat) s k i := fun i k => by rw [turned_at (R.sm3 hs), sm3_at R hs ks hz kz]
  have e2 : ∀ i k : Nat, at2 (sm4 m s z h w) i k = rC (sw (fn2 m) s z.1.toNat z.2.toNat) s i k := fun i k => sm4_at R hs ks hz kz i k
  have rd := r.rd
  have bd : ∀ i k, s ≤ i → i < 3 → s ≤ k → k < 3 → (sw (fn2 m) s z.1.toNat z.2.toNat i k).natAbs < 2 ^ 64 := fun i k a b c d => by
    have := sz (tr s z.1.toNat i) (tr s z.2.toNat k) (tr_hi r.a0 a) (tr_lt (by omega) r.a3 b) (tr_hi r.b0 c) (tr_lt (by omega) r.b3 d)
    exact Nat.lt_of_le_of_lt this L1_lt
  generalize sw (fn2 m) s z.1.toNat z.2.toNat = G at *
  have b0 : ∀ k, rB G s s k = G s k := fun k => by unfold rB; rw [if_neg (by omega)]
  refine ⟨by rw [e0]; exact rd.p0, by rw [e0]; exact bd s s (by omega) (by omega) (by omega) (by omega), fun i h1 h2 => ?_, by rw [e1, b0]; exact rd.p0, by rw [e1, b0]; exact bd s s (by omega) (by omega) (by omega) (by omega), fun i h1 h2 => ?_, by rw [e2, rd.c]; exact rd.p0⟩
  · rw [e0, e0]
    exact Nat.lt_of_le_of_lt (Int.natAbs_fdiv_le_natAbs _ _) (bd i s (by omega) (by omega) (by omega) (by omega))
  · rw [e1, e1, b0, b0]
    exact Nat.lt_of_le_of_lt (Int.natAbs_fdiv_le_natAbs _ _) (bd s i (by omega) (by omega) (by omega) (by omega))
theorem not_clear {m : Mx} {s h w : Nat} (c : isClear m s h w = false) : ∃ k : Nat, s < k ∧ ((k < h ∧ at2 m k s ≠ 0) ∨ (k < w ∧ at2 m s k ≠ 0)) := by
  apply Classical.byContradiction
  intro n
  have : isClear m s h w = true := by
    unfold isClear
    rw [Bool.and_eq_true, decide_eq_true_eq, decide_eq_true_eq]
    constructor
    · rw [List.filter_eq_nil_iff.mpr]
      · rfl
      · intro x hx
        have hx := mem_rng.mp hx
        have : at2 m x s = 0 := Classical.byContradiction fun c => n ⟨x.toNat, by omega, .inl ⟨by omega, by rw [Int.toNat_of_nonneg (by omega)]; exact c⟩⟩
        simp [this]
    · rw [List.filter_eq_nil_iff.mpr]
      · rfl
      · intro x hx
        have hx := mem_rng.mp hx
        have : at2 m s x = 0 := Classical.byContradiction fun c => n ⟨x.toNat, by omega, .inr ⟨by omega, by rw [Int.toNat_of_nonneg (by omega)]; exact c⟩⟩
        simp [this]
  rw [this] at c
  cases c
theorem unfit_at {m : Mx} {s h w : Nat} (u : 0 ≤ unfit m s h w) : ∃ k : Nat, s < k ∧ k < w ∧ (at2 m (unfit m s h w) k).fmod (at2 m s s) ≠ 0 := by
  unfold unfit at u ⊢
  cases q : (rng ((s : Int) + 1) (h : Int)).find? (isUnfit m s w) with
  | none => rw [q] at u; exact absurd u (by show ¬ (0 : Int) ≤ -1; decide)
  | some i =>
    have := List.find?_some q
    unfold isUnfit at this
    obtain ⟨k, hk, e⟩ := List.any_eq_true.mp this
    have hk := mem_rng.mp hk
    refine ⟨k.toNat, by omega, by omega, ?_⟩
    rw [Int.toNat_of_nonneg (by omega)]
    simpa using e
theorem ms_le {m : Mx} {h w s : Nat} {z : Int × Int} (e : leastPlace m s h w = some z) {i k : Nat} (h1 : s ≤ i) (h2 : i < h) (h3 : s ≤ k) (h4 : k < w) (n : at2 m i k ≠ 0) : (at2 m z.1 z.2).natAbs ≤ (at2 m i k).natAbs := (place_in e).2.2.2.2.2 i k (by omega) (by omega) (by omega) (by omega) n
theorem sm_ex {h w : Nat} (hw : h ≤ w) (w3 : w ≤ 3) : ∀ (r s : Nat), h - s = r → ∀ (N : Nat) (m : Mx), Rect m h w → JJ s (fn2 m) → (∀ z, leastPlace m s h w = some z → 2 * (at2 m z.1 z.2).natAbs + 1 ≤ N ∨ (UR (fn2 m) s ∧ 2 * (at2 m z.1 z.2).natAbs ≤ N ∧ (at2 m s s).natAbs ≤ (at2 m z.1 z.2).natAbs)) → ∃ n d, SmRun h w n m s d
  | 0, s, hr, N, m, R, j, hN => ⟨0, m, SmRun.done (by omega)⟩
  | r + 1, s, hr, N, m, R, j, hN => by
    have hs : s < h := by omega
    have hmin : s < min h w := by omega
    induction N using Nat.strongRecOn generalizing m with
    | ind N ih =>
      cases e : leastPlace m s h w with
      | none => exact ⟨0, m, SmRun.none hmin e⟩
      | some z =>
        obtain ⟨rn, hz, kz, ez⟩ := place_rnd R (by omega) w3 e
        have ok := sm_ok R (by omega) w3 hs (by omega) j e
        have Rz : Rect (sm4 m s z h w) h w := R.sm4 hs (by omega)
        have fe : fn2 (sm4 m s z h w) = rC (sw (fn2 m) s z.1.toNat z.2.toNat) s := by
          funext i k
          exact sm4_at R hs (by omega) hz kz i k
        have fa : ∀ i k : Nat, at2 (sm4 m s z h w) i k = rC (sw (fn2 m) s z.1.toNat z.2.toNat) s i k := fun i k => sm4_at R hs (by omega) hz kz i k
        have rd := rn.rd
        have pz : sw (fn2 m) s z.1.toNat z.2.toNat s s = at2 m z.1 z.2 := by rw [sw_ss, ez]
        have hN := hN z e
        cases c : isClear (sm4 m s z h w) s h w with
        | false =>
          obtain ⟨k, k0, hk⟩ := not_clear c
          have k3 : k < 3 := by omega
          have j2 : JJ s (fn2 (sm4 m s z h w)) := by
            rw [fe]
            refine jj_dirty j rn ⟨k, k0, k3, ?_⟩
            rw [← fa, ← fa]
            rcases hk with hk | hk
            · exact .inr hk.2
            · exact .inl hk.2
          have lo : ∀ z2, leastPlace (sm4 m s z h w) s h w = some z2 → (at2 (sm4 m s z h w) z2.1 z2.2).natAbs < (at2 m z.1 z.2).natAbs := fun z2 e2 => by
            rcases hk with hk | hk
            · have h1 := ms_le e2 (i := k) (k := s) (by omega) hk.1 (by omega) (by omega) hk.2
              have h2 := rd.l k k0
              rw [pz, ← fa] at h2
              omega
            · have h1 := ms_le e2 (i := s) (k := k) (by omega) hs (by omega) hk.1 hk.2
              have h2 := rd.r k k0
              rw [pz, ← fa] at h2
              omega
          obtain ⟨n, d, run⟩ : ∃ n d, SmRun h w n (sm4 m s z h w) s d := by
            cases e2 : leastPlace (sm4 m s z h w) s h w with
            | none => exact ⟨0, _, SmRun.none hmin e2⟩
            | some z2 =>
              have := lo z2 e2
              refine ih (2 * (at2 (sm4 m s z h w) z2.1 z2.2).natAbs + 1) (by omega) _ Rz j2 fun z3 e3 => .inl ?_
              rw [e2] at e3
              cases e3
              omega
          exact ⟨n + 1, d, SmRun.dirty hmin e ok c run⟩
        | true =>
          have cl := clear_in c
          have cl2 : Cl (rC (sw (fn2 m) s z.1.toNat z.2.toNat) s) s := ⟨fun k k0 k3 => by
            rw [← fa]
            by_cases hk : k < w
            · exact cl.2 k k0 hk
            · exact at_out Rz (by omega), fun k k0 k3 => by
            rw [← fa]
            by_cases hk : k < h
            · exact cl.1 k k0 hk
            · exact at_out Rz (by omega)⟩
          by_cases u : 0 ≤ unfit (sm4 m s z h w) s h w
          · obtain ⟨k, k0, kw, nk⟩ := unfit_at u
            have ui := unfit_in u
            have uv : s < (unfit (sm4 m s z h w) s h w).toNat ∧ (unfit (sm4 m s z h w) s h w).toNat < h := by omega
            have ue : (((unfit (sm4 m s z h w) s h w).toNat : Nat) : Int) = unfit (sm4 m s z h w) s h w := by omega
            rw [← ue] at nk
            have not_ur : ¬ (UR (fn2 m) s ∧ 2 * (at2 m z.1 z.2).natAbs ≤ N ∧ (at2 m s s).natAbs ≤ (at2 m z.1 z.2).natAbs) := fun ⟨⟨u1, u2, q, q0, q3, u3⟩, _, u4⟩ => by
              have ec := place_corner e hs (by omega) u1 u4
              have et : ∀ i, tr s s i = i := fun i => by unfold tr; split <;> (try split) <;> omega
              have e5 : sw (fn2 m) s z.1.toNat z.2.toNat = fn2 m := by
                rw [ec]
                funext i k
                unfold sw
                show fn2 m (tr s ((s : Int)).toNat i) (tr s ((s : Int)).toNat k) = _
                rw [Int.toNat_natCast, et, et]
              have e6 := cl2.r q q0 q3
              rw [e5] at e6
              have e7 : rC (fn2 m) s s q = (fn2 m s q).fmod (fn2 m s s) := by
                unfold rC
                rw [if_pos q0]
                unfold rB
                rw [if_neg (by omega), if_neg (by omega), fdiv_fmod]
              rw [e7] at e6
              exact u3 e6
            have hN1 : 2 * (at2 m z.1 z.2).natAbs + 1 ≤ N := hN.resolve_right not_ur
            have nk2 : ¬ 0 ≤ K24.unfit (sm4 m s z h w) s h w → False := fun x => x u
            generalize hv : (unfit (sm4 m s z h w) s h w).toNat = v at *
            have Ra : Rect (smAdd (sm4 m s z h w) s v) h w := smAdd_rect Rz hs uv.2
            have fadd : fn2 (smAdd (sm4 m s z h w) s v) = addR (rC (sw (fn2 m) s z.1.toNat z.2.toNat) s) s v := by
              funext i k
              show at2 _ i k = _
              rw [smAdd_at Rz hs uv.2, fa, fa, fa]
              rfl
            have j2 : JJ s (fn2 (smAdd (sm4 m s z h w) s v)) := by
              rw [fadd]
              exact jj_unfit j rn cl2 uv.1 (by omega)
            have c1 : at2 (smAdd (sm4 m s z h w) s v) s s = at2 m z.1 z.2 := by
              rw [smAdd_at Rz hs uv.2, if_pos rfl, cl.1 v uv.1 uv.2, Int.add_zero, fa, rd.c, pz]
            have cp : at2 (sm4 m s z h w) s s = at2 m z.1 z.2 := by rw [fa, rd.c, pz]
            have pn : at2 m z.1 z.2 ≠ 0 := by rw [← pz]; exact rd.p0
            have ur : UR (fn2 (smAdd (sm4 m s z h w) s v)) s := by
              refine ⟨by show at2 _ s s ≠ 0; rw [c1]; exact pn, fun i hi => ?_, k, k0, by omega, ?_⟩
              · show at2 _ i s = 0
                rw [smAdd_at Rz hs uv.2, if_neg (by omega)]
                by_cases hh : i < h
                · exact cl.1 i hi hh
                · exact at_out Rz (by omega)
              · show (at2 (smAdd (sm4 m s z h w) s v) s k).fmod (at2 (smAdd (sm4 m s z h w) s v) s s) ≠ 0
                rw [c1, smAdd_at Rz hs uv.2, if_pos rfl, cl.2 k k0 kw, Int.zero_add]
                rw [cp] at nk
                exact nk
            obtain ⟨n, d, run⟩ : ∃ n d, SmRun h w n (smAdd (sm4 m s z h w) s v) s d := by
              refine ih (2 * (at2 m z.1 z.2).natAbs) (by omega) _ Ra j2 fun z2 e2 => ?_
              have h1 := ms_le e2 (i := s) (k := s) (by omega) hs (by omega) (by omega) (by rw [c1]; exact pn)
              rw [c1] at h1
              by_cases h2 : (at2 (smAdd (sm4 m s z h w) s v) z2.1 z2.2).natAbs < (at2 m z.1 z.2).natAbs
              · exact .inl (by omega)
              · exact .inr ⟨ur, by omega, by rw [c1]; omega⟩
            exact ⟨n + 1, d, SmRun.unfit hmin e ok c u (by rw [hv]; exact run)⟩
          · have Rn : Rect (smNeg (sm4 m s z h w) s) h w := smNeg_rect Rz hs
            have j2 : JJ (s + 1) (fn2 (smNeg (sm4 m s z h w) s)) := jj_next j rn cl2 fun i k hi => by
              show at2 _ i k = _
              rw [smNeg_at Rz hs, if_neg (by omega), fa]
            obtain ⟨n, d, run⟩ : ∃ n d, SmRun h w n (smNeg (sm4 m s z h w) s) (s + 1) d := by
              cases e2 : leastPlace (smNeg (sm4 m s z h w) s) ((s + 1 : Nat) : Int) h w with
              | none =>
                by_cases q : s + 1 < h
                · exact ⟨0, _, SmRun.none (by omega) e2⟩
                · exact ⟨0, _, SmRun.done (by omega)⟩
              | some z2 =>
                refine sm_ex hw w3 r (s + 1) (by omega) (2 * (at2 (smNeg (sm4 m s z h w) s) z2.1 z2.2).natAbs + 1) _ Rn j2 fun z3 e3 => .inl ?_
                rw [e2] at e3
                cases e3
                exact Nat.le_refl _
            exact ⟨n + 1, d, SmRun.next hmin e ok c (by omega) run⟩
/-- the test for a primitive tuple answers, and rightly -/
theorem prim_ex {vs : Mx} {h n : Nat} (R : Rect vs h n) (h1 : 1 ≤ h) (hn : h ≤ n) (n3 : n ≤ 3) (b : ∀ i k : Nat, (at2 vs i k).natAbs ≤ 17) (p : Bool) (hp : p = true ↔ Surj (fn2 vs) h) : PrimIs vs h n p := by
  have m9 : ∀ i j k l, i < 3 → j < 3 → k < 3 → l < 3 → (Mn2 (fn2 vs) i j k l).natAbs ≤ 29478 := fun i j k l _ _ _ _ => by
    have h1 := mulB (b i k) (b j l)
    have h2 := mulB (b i l) (b j k)
    have := sub_abs h1 h2
    unfold Mn2 fn2
    omega
  have j : JJ 0 (fn2 vs) := ⟨⟨29478, 0, 17, by decide, by decide, by decide, m9, fun i k _ _ _ _ => by have := b i k; show (at2 vs i k).natAbs ≤ _; omega, fun i k _ _ _ _ _ _ => b i k⟩, det3B (b 0 0) (b 0 1) (b 0 2) (b 1 0) (b 1 1) (b 1 2) (b 2 0) (b 2 1) (b 2 2)⟩
  obtain ⟨N, d, run⟩ : ∃ N d, SmRun h n N vs 0 d := by
    cases e : leastPlace vs ((0 : Nat) : Int) h n with
    | none => exact ⟨0, vs, SmRun.none (by omega) e⟩
    | some z =>
      refine sm_ex hn n3 h 0 rfl (2 * (at2 vs z.1 z.2).natAbs + 1) vs R j fun z2 e2 => .inl ?_
      rw [e] at e2
      cases e2
      exact Nat.le_refl _
  obtain ⟨Rd, s1, D⟩ := run.spec hn n3 R ⟨fun i k h _ => by omega, fun i h => by omega⟩
  refine ⟨R, h1, hn, by omega, N, d, run, Rd, ?_⟩
  have := primD_iff (by omega) D
  rw [Bool.eq_iff_iff, hp, this, s1]
end K24
set_option Elab.async false
set_option linter.all false
set_option maxRecDepth 100000
set_option maxHeartbeats 4000000
set_option autoImplicit false
namespace K24
open PySem PySem.Spec PyProof.Rows L2
open PySem.W (Datum DatumOrd Holds HoldAll Tup)
/-! ### the choices for one more item -/
def qv (t : Mx) (v : List Int) (x : Int) : Int := at2 t 0 0 * (x * x) + 2 * (restS t v * x) + knownS t v
theorem sq_le_of {y : Int} {r : Nat} (h : (r : Int) < y) : ((r : Int) + 1) * (r + 1) ≤ y * y := Int.mul_le_mul (by omega) (by omega) (by omega) (by omega)
theorem sq_iff {y i : Int} {r : Nat} (h1 : (r : Int) * r ≤ i) (h2 : i < ((r : Int) + 1) * (r + 1)) : y * y ≤ i ↔ -(r : Int) ≤ y ∧ y ≤ r := by
  constructor
  · intro h
    constructor
    · apply Classical.byContradiction
      intro c
      have := sq_le_of (y := -y) (r := r) (by omega)
      rw [Int.neg_mul_neg] at this
      omega
    · apply Classical.byContradiction
      intro c
      have := sq_le_of (y := y) (r := r) (by omega)
      omega
  · rintro ⟨a, b⟩
    have : y.natAbs * y.natAbs ≤ r * r := Nat.mul_le_mul (by omega) (by omega)
    have e : ((y.natAbs * y.natAbs : Nat) : Int) = y * y := by rw [Int.natCast_mul, Int.natAbs_mul_self']
    have e2 : ((r * r : Nat) : Int) = (r : Int) * r := Int.natCast_mul ..
    omega
theorem isq (n : Int) (h : 0 ≤ n) : ((Float64.isqrt n.toNat : Nat) : Int) * (Float64.isqrt n.toNat : Nat) ≤ n ∧ n < (((Float64.isqrt n.toNat : Nat) : Int) + 1) * ((Float64.isqrt n.toNat : Nat) + 1) := by
  have := PySem.Float64.isqrt_spec n.toNat
  generalize Float64.isqrt n.toNat = r at *
  have e2 : ((r * r : Nat) : Int) = (r : Int) * r := Int.natCast_mul ..
  have e3 : (((r + 1) * (r + 1) : Nat) : Int) = ((r : Int) + 1) * (r + 1) := Int.natCast_mul ..
  omega
theorem mem_choices {t : Mx} {v : List Int} {bd x : Int} (T : 0 < at2 t 0 0) : x ∈ choicesS t v bd ↔ qv t v x ≤ bd := by
  have key : qv t v x ≤ bd ↔ (at2 t 0 0 * x + restS t v) * (at2 t 0 0 * x + restS t v) ≤ insideS t v bd := by
    have e : insideS t v bd - (at2 t 0 0 * x + restS t v) * (at2 t 0 0 * x + restS t v) = at2 t 0 0 * (bd - qv t v x) := by
      unfold insideS qv
      generalize at2 t 0 0 = T; generalize restS t v = R; generalize knownS t v = K
      grind
    constructor
    · intro h
      have : 0 ≤ at2 t 0 0 * (bd - qv t v x) := Int.mul_nonneg (by omega) (by omega)
      omega
    · intro h
      have : 0 ≤ at2 t 0 0 * (bd - qv t v x) := by omega
      have := Int.nonneg_of_mul_nonneg_right this (by omega)
      omega
  rw [key]
  unfold choicesS
  by_cases c : insideS t v bd < 0
  · rw [if_pos c]
    have : 0 ≤ (at2 t 0 0 * x + restS t v) * (at2 t 0 0 * x + restS t v) := by
      have := Int.natAbs_mul_self' (a := at2 t 0 0 * x + restS t v)
      rw [← this]
      exact Int.mul_nonneg (by omega) (by omega)
    constructor
    · intro h; cases h
    · intro h; omega
  · rw [if_neg c, mem_rng]
    obtain ⟨i1, i2⟩ := isq (insideS t v bd) (by omega)
    rw [sq_iff i1 i2]
    unfold lowS highS
    generalize ((Float64.isqrt (insideS t v bd).toNat : Nat) : Int) = r
    generalize restS t v = R
    generalize at2 t 0 0 = q at *
    rw [Int.fdiv_eq_ediv_of_nonneg _ (by omega), Int.fdiv_eq_ediv_of_nonneg _ (by omega)]
    have h1 : x ≤ (-R + r) / q ↔ x * q ≤ -R + r := Int.le_ediv_iff_mul_le T
    have h2 : -x ≤ (-(-R - r)) / q ↔ -x * q ≤ -(-R - r) := Int.le_ediv_iff_mul_le T
    have e1 : -x * q = -(x * q) := Int.neg_mul ..
    have e2 : q * x = x * q := Int.mul_comm ..
    rw [e1] at h2
    rw [e2]
    constructor
    · rintro ⟨a, b⟩
      have := h1.mp (by omega)
      have := h2.mp (by omega)
      omega
    · rintro ⟨a, b⟩
      have := h1.mpr (by omega)
      have := h2.mpr (by omega)
      omega
theorem rng_nodup (a b : Int) : (rng a b).Nodup := by
  unfold rng
  exact nodup_map (fun x _ y _ e => by omega) List.nodup_range
theorem choices_nodup (t : Mx) (v : List Int) (bd : Int) : (choicesS t v bd).Nodup := by
  unfold choicesS
  split
  · exact List.nodup_nil
  · exact rng_nodup ..
/-- all choices lie in a small box -/
theorem choices_len {t : Mx} {v : List Int} {bd : Int} (h : ∀ x ∈ choicesS t v bd, x.natAbs ≤ 35) : (choicesS t v bd).length ≤ 71 := by
  have := length_le_of_subset (choices_nodup t v bd) (ys := rng (-35) 36) fun x hx => by
    have := h x hx
    exact mem_rng.mpr ⟨by omega, by omega⟩
  rw [rng_len] at this
  exact this
theorem ch_ok {t : Mx} {v : List Int} {bd : Int} (T : 0 < at2 t 0 0) (tb : ∀ r ∈ t, ∀ x ∈ r, Sm x) (bb : ∀ x ∈ v, x.natAbs ≤ 35) (hr : (restS t v).natAbs ≤ 2 ^ 40) (hi : insideS t v bd < 2 ^ 62) (hc : ∀ x, qv t v x ≤ bd → x.natAbs ≤ 35) : ChOk t v bd := by
  refine ⟨tb, fun x hx => Nat.lt_of_le_of_lt (bb x hx) (by decide), Nat.lt_of_le_of_lt hr (by decide), by omega, by omega, fun h0 => ?_⟩
  have hc2 : ∀ x, lowS t v bd ≤ x → x ≤ highS t v bd → x.natAbs ≤ 35 := fun x h1 h2 => hc x ((mem_choices T).mp (by
    unfold choicesS
    rw [if_neg (by omega)]
    exact mem_rng.mpr ⟨h1, by omega⟩))
  obtain ⟨i1, i2⟩ := isq (insideS t v bd) h0
  have rb : ((Float64.isqrt (insideS t v bd).toNat : Nat) : Int) < 2 ^ 31 := by
    generalize Float64.isqrt (insideS t v bd).toNat = r at *
    apply Classical.byContradiction
    intro c
    have : (2 ^ 31 : Int) * 2 ^ 31 ≤ (r : Int) * r := Int.mul_le_mul (by omega) (by omega) (by omega) (by omega)
    omega
  have lb : (lowS t v bd).natAbs ≤ 2 ^ 41 := by
    unfold lowS
    rw [Int.natAbs_neg]
    refine Nat.le_trans (Int.natAbs_fdiv_le_natAbs _ _) ?_
    omega
  have hb : (highS t v bd).natAbs ≤ 2 ^ 41 := by
    unfold highS
    refine Nat.le_trans (Int.natAbs_fdiv_le_natAbs _ _) ?_
    omega
  refine ⟨by omega, by omega, by omega, by omega, ?_⟩
  by_cases c : lowS t v bd ≤ highS t v bd
  · have := hc2 _ (Int.le_refl _) c
    have := hc2 _ c (Int.le_refl _)
    omega
  · omega
/-- by the sizes of its parts -/
theorem inside_le {t : Mx} {v : List Int} {bd : Int} {E B : Nat} (hl : v.length ≤ 2) (hE : ∀ i k : Nat, (at2 t i k).natAbs ≤ E) (bb : ∀ x ∈ v, x.natAbs ≤ 35) (hB : bd.natAbs ≤ B) : (v = [] → restS t v = 0 ∧ insideS t v bd ≤ (E * B : Nat)) ∧ (restS t v).natAbs ≤ 70 * E ∧ insideS t v bd ≤ (70 * E * (70 * E) + E * (4900 * E + B) : Nat) := by
  have z0 : restS t [] = 0 := rfl
  have k0 : knownS t [] = 0 := rfl
  have hb : ∀ x ∈ v, ∀ i k : Nat, (at2 t i k * x).natAbs ≤ 35 * E := fun x hx i k => by have := mulB (hE i k) (bb x hx); omega
  have hb2 : ∀ x ∈ v, ∀ y ∈ v, ∀ i k : Nat, (at2 t i k * x * y).natAbs ≤ 1225 * E := fun x hx y hy i k => by have := mulB (hb x hx i k) (bb y hy); omega
  have rk : (restS t v).natAbs ≤ 70 * E ∧ (knownS t v).natAbs ≤ 4900 * E := by
    match v, hl with
    | [], _ => exact ⟨by rw [z0]; exact Nat.zero_le _, by rw [k0]; exact Nat.zero_le _⟩
    | [y], _ =>
      have e1 : restS t [y] = at2 t (0 : Nat) (1 : Nat) * y := by simp [restS, rg1]
      have e2 : knownS t [y] = at2 t (1 : Nat) (1 : Nat) * y * y := by simp [knownS, rg1]
      have := hb y (by simp) 0 1
      have := hb2 y (by simp) y (by simp) 1 1
      rw [e1, e2]
      omega
    | [y, z], _ =>
      have e1 : restS t [y, z] = at2 t (0 : Nat) (1 : Nat) * y + at2 t (0 : Nat) (2 : Nat) * z := by simp [restS, rg2]
      have e2 : knownS t [y, z] = at2 t (1 : Nat) (1 : Nat) * y * y + at2 t (1 : Nat) (2 : Nat) * y * z + (at2 t (2 : Nat) (1 : Nat) * z * y + at2 t (2 : Nat) (2 : Nat) * z * z) := by simp [knownS, rg2]
      have := hb y (by simp) 0 1
      have := hb z (by simp) 0 2
      have := hb2 y (by simp) y (by simp) 1 1
      have := hb2 y (by simp) z (by simp) 1 2
      have := hb2 z (by simp) y (by simp) 2 1
      have := hb2 z (by simp) z (by simp) 2 2
      rw [e1, e2]
      omega
  refine ⟨fun e => ?_, rk.1, ?_⟩
  · subst e
    refine ⟨z0, ?_⟩
    unfold insideS
    rw [z0, k0]
    have := mulB (hE 0 0) hB
    have e : (0 : Int) * 0 - at2 t 0 0 * (0 - bd) = at2 t (0 : Nat) (0 : Nat) * bd := by show (0 : Int) * 0 - at2 t 0 0 * (0 - bd) = at2 t 0 0 * bd; rw [Int.zero_sub, Int.mul_neg]; omega
    rw [e]
    omega
  · unfold insideS
    have h1 := mulB rk.1 rk.1
    have h2 := mulB (hE 0 0) (show (knownS t v - bd).natAbs ≤ 4900 * E + B by omega)
    have e : at2 t 0 0 = at2 t (0 : Nat) (0 : Nat) := rfl
    rw [e]
    omega
end K24
set_option Elab.async false
set_option linter.all false
set_option maxRecDepth 100000
set_option maxHeartbeats 4000000
set_option autoImplicit false
namespace K24
open PySem PySem.Spec PyProof.Rows L2
open PySem.W (Datum DatumOrd Holds HoldAll Tup)
/-! ### the near vectors -/
def DsM (m : Mx) : Nat → Int := fun h => detL (blkM m h) h
def ddM (m : Mx) : Nat → Int → Int → Int := fun h i k => detL (minorL (blkM m h) k.toNat i.toNat) (h - 1)
abbrev m3 (a b c d e f : Int) : Mx := [[a, b, c], [b, d, e], [c, e, f]]
abbrev m2 (a b c : Int) : Mx := [[a, b], [b, c]]
theorem getD_or {α : Type} {l : List α} {i : Nat} {d x : α} (h : l.getD i d = x) : x ∈ l ∨ x = d := by
  rw [List.getD_eq_getElem?_getD] at h
  cases e : l[i]? with
  | none => rw [e] at h; exact .inr h.symm
  | some y => rw [e] at h; exact .inl (h ▸ List.mem_of_getElem? e)
theorem BdM.at {m : Mx} {B : Nat} (h : BdM m B) (i k : Nat) : (at2 m i k).natAbs ≤ B := by
  rw [at2_nat]
  rcases getD_or (l := m.getD i []) (i := k) (d := 0) rfl with q | q
  · rcases getD_or (l := m) (i := i) (d := []) rfl with p | p
    · exact h _ p _ q
    · rw [p] at q; cases q
  · rw [q]; exact Nat.zero_le _
theorem BdM.blk {m : Mx} {B : Nat} (h : BdM m B) (k : Nat) : BdM (blkM m k) B := fun r hr x hx => by
  obtain ⟨i, _, rfl⟩ := List.mem_map.mp hr
  have hx := List.mem_of_mem_take hx
  rcases getD_or (l := m) (i := i.toNat) (d := []) rfl with p | p
  · exact h _ p _ hx
  · rw [p] at hx; cases hx
theorem BdM.minor {m : Mx} {B : Nat} (h : BdM m B) (i k : Nat) : BdM (minorL m i k) B := fun r hr x hx => by
  unfold minorL at hr
  obtain ⟨z, hz, rfl⟩ := List.mem_map.mp hr
  have hz := (List.mem_filter.mp hz).1
  obtain ⟨y, hy, rfl⟩ := List.mem_map.mp hz
  have hm : y.1 ∈ m := by
    have := List.mem_zipIdx' hy
    rw [this.2]
    exact List.getElem_mem _
  rcases List.mem_append.mp hx with q | q
  · exact h _ hm _ (List.mem_of_mem_take q)
  · exact h _ hm _ (List.mem_of_mem_drop q)
theorem tail_ok {m : Mx} {n h : Nat} (R : Rect m n n) (n3 : n ≤ 3) (hh : h < n) (B : BdM m 1000) (b1 : ∀ r ∈ turned (sideM m h) (n - h), ∀ x ∈ r, Sm x) (b2 : ∀ r ∈ mulM (turned (sideM m h) (n - h)) (adjM h (ddM m h)) h, ∀ x ∈ r, Sm x) : TailOk m h n (DsM m h) (ddM m h) := by
  have Rb := blk_rect R (h := h) (by omega)
  have bb : ∀ i k : Nat, (at2 (blkM m h) i k).natAbs ≤ 1000 := fun i k => (B.blk h).at i k
  refine ⟨bare_ex Rb (by omega) fun i k => Nat.le_trans (bb i k) (by decide), fun i k hi hk => ?_, Nat.lt_of_le_of_lt (detLB (B := 1000) (by decide) bb) (by decide), b1, b2⟩
  exact bare_ex (minor_rect Rb (by omega) (by omega)) (by omega) fun a b => Nat.le_trans (((B.blk h).minor _ _).at a b) (by decide)
theorem side0 {m : Mx} {k : Nat} : ∀ r ∈ turned (sideM m 0) k, ∀ x ∈ r, Sm x := fun r hr x hx => by
  have e : sideM m 0 = [] := rfl
  rw [e] at hr
  obtain ⟨i, _, rfl⟩ := List.mem_map.mp hr
  cases hx
theorem side0b {m q : Mx} : ∀ r ∈ mulM m q 0, ∀ x ∈ r, Sm x := fun r hr x hx => by
  obtain ⟨i, _, rfl⟩ := List.mem_map.mp hr
  have e : turned q 0 = [] := rfl
  rw [e] at hx
  cases hx
theorem fp_succ (m : Mx) (n : Nat) (Ds : Nat → Int) (dds : Nat → Int → Int → Int) (N : Int) (j : Nat) : fpP m n Ds dds N (j + 1) = (fpP m n Ds dds N j).flatMap fun v => (choicesS (tailK m n Ds dds (n - 1 - j)) v (Ds (n - 1 - j) * N)).map fun x => x :: v := rfl
theorem fp_mem {m : Mx} {n : Nat} {Ds : Nat → Int} {dds : Nat → Int → Int → Int} {N : Int} {j : Nat} (T : 0 < at2 (tailK m n Ds dds (n - 1 - j)) 0 0) (x : Int) (v : List Int) : x :: v ∈ fpP m n Ds dds N (j + 1) ↔ v ∈ fpP m n Ds dds N j ∧ qv (tailK m n Ds dds (n - 1 - j)) v x ≤ Ds (n - 1 - j) * N := by
  rw [fp_succ, List.mem_flatMap]
  constructor
  · rintro ⟨u, hu, h⟩
    obtain ⟨y, hy, e⟩ := List.mem_map.mp h
    injection e with e1 e2
    subst e1 e2
    exact ⟨hu, (mem_choices T).mp hy⟩
  · rintro ⟨hv, h⟩
    exact ⟨v, hv, List.mem_map.mpr ⟨x, (mem_choices T).mpr h, rfl⟩⟩
theorem fp_gen {m : Mx} {n : Nat} {Ds : Nat → Int} {dds : Nat → Int → Int → Int} {N : Int} (n3 : n ≤ 3) (tl : ∀ h : Nat, h < n → TailOk m h n (Ds h) (dds h)) (hT : ∀ h : Nat, h < n → 0 < at2 (tailK m n Ds dds h) 0 0)
    (st : ∀ h : Nat, h < n → ∀ v : List Int, v.length = n - 1 - h → (∀ x ∈ v, x.natAbs ≤ 35) → (∀ x, qv (tailK m n Ds dds h) v x ≤ Ds h * N → x.natAbs ≤ 35) ∧ (∀ r ∈ tailK m n Ds dds h, ∀ x ∈ r, Sm x) ∧ (restS (tailK m n Ds dds h) v).natAbs ≤ 2 ^ 40 ∧ insideS (tailK m n Ds dds h) v (Ds h * N) < 2 ^ 62) :
    FpOk m n Ds dds N ∧ (fpP m n Ds dds N n).Nodup ∧ (fpP m n Ds dds N n).length ≤ 1000000 := by
  have bx : ∀ j : Nat, j ≤ n → ∀ v ∈ fpP m n Ds dds N j, v.length = j ∧ ∀ x ∈ v, x.natAbs ≤ 35 := by
    intro j
    induction j with
    | zero =>
      intro _ v hv
      have : v = [] := by simpa [fpP] using hv
      subst this
      exact ⟨rfl, fun x hx => by cases hx⟩
    | succ j ih =>
      intro hj v hv
      rw [fp_succ] at hv
      obtain ⟨u, hu, h⟩ := List.mem_flatMap.mp hv
      obtain ⟨y, hy, rfl⟩ := List.mem_map.mp h
      obtain ⟨ul, ub⟩ := ih (by omega) u hu
      have := (st (n - 1 - j) (by omega) u (by omega) ub).1 y ((mem_choices (hT _ (by omega))).mp hy)
      refine ⟨by rw [List.length_cons, ul], fun x hx => ?_⟩
      rcases List.mem_cons.mp hx with e | e
      · rw [e]; exact this
      · exact ub x e
  have ck : ∀ j : Nat, j < n → ∀ v ∈ fpP m n Ds dds N j, ∀ x ∈ choicesS (tailK m n Ds dds (n - 1 - j)) v (Ds (n - 1 - j) * N), x.natAbs ≤ 35 := fun j hj v hv x hx => by
    obtain ⟨ul, ub⟩ := bx j (by omega) v hv
    exact (st (n - 1 - j) (by omega) v (by omega) ub).1 x ((mem_choices (hT _ (by omega))).mp hx)
  have ln : ∀ j : Nat, j ≤ n → (fpP m n Ds dds N j).length ≤ 71 ^ j := by
    intro j
    induction j with
    | zero => intro _; exact Nat.le_refl _
    | succ j ih =>
      intro hj
      rw [fp_succ, Nat.pow_succ]
      refine Nat.le_trans (length_flatMap_le _ 71 _ fun v hv => ?_) (Nat.mul_le_mul_right _ (ih (by omega)))
      rw [List.length_map]
      exact choices_len (ck j (by omega) v hv)
  have ln2 : ∀ j : Nat, j ≤ n → (fpP m n Ds dds N j).length ≤ 1000000 := fun j hj => Nat.le_trans (ln j hj) (Nat.le_trans (Nat.pow_le_pow_right (by decide) (show j ≤ 3 by omega)) (by decide))
  refine ⟨⟨tl, fun j hj v hv => ?_, ln2, fun j hj v hv => Nat.le_trans (choices_len (ck j hj v hv)) (by decide), fun v hv x hx => Nat.lt_of_le_of_lt ((bx n (Nat.le_refl _) v hv).2 x hx) (by decide)⟩, ?_, ln2 n (Nat.le_refl _)⟩
  · obtain ⟨ul, ub⟩ := bx j (by omega) v hv
    obtain ⟨s1, s2, s3, s4⟩ := st (n - 1 - j) (by omega) v (by omega) ub
    exact ch_ok (hT _ (by omega)) s2 ub s3 s4 s1
  · have : ∀ j : Nat, (fpP m n Ds dds N j).Nodup := by
      intro j
      induction j with
      | zero => simp [fpP]
      | succ j ih =>
        rw [fp_succ]
        unfold List.Nodup
        rw [List.pairwise_flatMap]
        refine ⟨fun v _ => nodup_map (fun a _ b _ e => by injection e) (choices_nodup ..), List.Pairwise.imp (R := fun a b => a ≠ b) (fun {a b} n x hx y hy e => ?_) ih⟩
        obtain ⟨p, _, rfl⟩ := List.mem_map.mp hx
        obtain ⟨q, _, rfl⟩ := List.mem_map.mp hy
        injection e with e1 e2
        exact n e2
    exact this n
theorem sq35 {y K : Int} (h : y * y ≤ 1295) : y.natAbs ≤ 35 := by
  apply Classical.byContradiction
  intro c
  have : 36 * 36 ≤ y.natAbs * y.natAbs := Nat.mul_le_mul (by omega) (by omega)
  have e : ((y.natAbs * y.natAbs : Nat) : Int) = y * y := by rw [Int.natCast_mul, Int.natAbs_mul_self']
  omega
/-- y is at most 35, where d y is bounded by d times a norm at most 35 -/
theorem sq35d {y d q N : Int} (d0 : 0 < d) (hN : N ≤ 35) (h1 : (d * y) * (d * y) ≤ 37 * (d * q)) (h2 : q ≤ d * N) : y.natAbs ≤ 35 := by
  refine sq35 (K := 0) ?_
  have e : (d * y) * (d * y) = d * (d * (y * y)) := by grind
  have h3 : d * q ≤ d * (d * 35) := Int.mul_le_mul_of_nonneg_left (Int.le_trans h2 (Int.mul_le_mul_of_nonneg_left hN (by omega))) (by omega)
  have e2 : 37 * (d * (d * 35)) = d * (d * 1295) := by grind
  have h4 : d * (d * (y * y)) ≤ d * (d * 1295) := by rw [← e, ← e2]; omega
  exact Int.le_of_mul_le_mul_left (Int.le_of_mul_le_mul_left h4 d0) d0
/-- a lattice whose vectors' items are bounded by their norm -/
structure Lt (m : Mx) (n : Nat) : Prop where
  R : Rect m n n
  n1 : 1 ≤ n
  n3 : n ≤ 3
  sy : ∀ i k : Nat, at2 m i k = at2 m k i
  kb : ∀ v : List Int, v.length = n → ∀ x ∈ v, x * x ≤ 37 * prodI m v v
  en : BdM m 1000
def NearFacts (m : Mx) (n : Nat) (N : Int) : Prop := FpOk m n (DsM m) (ddM m) N ∧ (fpP m n (DsM m) (ddM m) N n).Nodup ∧ (fpP m n (DsM m) (ddM m) N n).length ≤ 1000000 ∧ ∀ v, v ∈ fpP m n (DsM m) (ddM m) N n ↔ v.length = n ∧ prodI m v v ≤ N
theorem near1 {m : Mx} {N : Int} (L : Lt m 1) (N0 : 0 ≤ N) (N1 : N ≤ 35) : NearFacts m 1 N := by
  obtain ⟨a, rfl⟩ := rect1 L.R
  have pr : ∀ x, prodI [[a]] [x] [x] = a * x * x := fun x => by simp [prodI, dotI, Int.mul_comm, Int.mul_left_comm]
  have ha : 0 < a := by
    have := L.kb [1] rfl 1 (by simp)
    rw [pr] at this
    omega
  have hB : a.natAbs ≤ 1000 := L.en [a] (by simp) a (by simp)
  have t0 : tailK [[a]] 1 (DsM [[a]]) (ddM [[a]]) 0 = [[a]] := by simp [tailK, tailOf, tailM, rg1]
  have q0 : ∀ x, qv [[a]] [] x = a * x * x := fun x => by
    unfold qv
    rw [show restS [[a]] [] = 0 from rfl, show knownS [[a]] [] = 0 from rfl, show at2 [[a]] 0 0 = a from rfl, Int.mul_assoc]
    omega
  have d0 : DsM [[a]] 0 = 1 := rfl
  have hT : ∀ h : Nat, h < 1 → 0 < at2 (tailK [[a]] 1 (DsM [[a]]) (ddM [[a]]) h) 0 0 := fun h hh => by
    have : h = 0 := by omega
    subst this
    rw [t0]
    exact ha
  obtain ⟨f1, f2, f3⟩ := fp_gen (N := N) (by decide) (fun h hh => tail_ok L.R (by decide) hh L.en (by
    have : h = 0 := by omega
    subst this
    exact side0) (by
    have : h = 0 := by omega
    subst this
    exact side0b)) hT (fun h hh v hv bv => by
    have : h = 0 := by omega
    subst this
    have : v = [] := List.length_eq_zero_iff.mp hv
    subst this
    rw [t0, d0]
    have hE : ∀ i k : Nat, (at2 [[a]] i k).natAbs ≤ 1000 := fun i k => BdM.at L.en i k
    obtain ⟨i1, i2, i3⟩ := inside_le (t := [[a]]) (v := []) (bd := 1 * N) (B := 35) (by decide) hE (fun x hx => by cases hx) (by omega)
    refine ⟨fun x hx => ?_, fun r hr x hx => Nat.lt_of_le_of_lt (L.en r hr x hx) (by decide), by omega, by omega⟩
    rw [q0] at hx
    have := L.kb [x] rfl x (by simp)
    rw [pr] at this
    exact sq35 (K := 0) (by omega))
  refine ⟨f1, f2, f3, fun v => ?_⟩
  constructor
  · intro hv
    have hl := fpP_len _ _ hv
    obtain ⟨x, rfl⟩ := len1 hl
    have := ((fp_mem (j := 0) (hT 0 (by decide)) x []).mp hv).2
    rw [t0, q0, d0] at this
    exact ⟨rfl, by rw [pr]; omega⟩
  · rintro ⟨hl, hn⟩
    obtain ⟨x, rfl⟩ := len1 hl
    refine (fp_mem (j := 0) (hT 0 (by decide)) x []).mpr ⟨by simp [fpP], ?_⟩
    show qv (tailK [[a]] 1 (DsM [[a]]) (ddM [[a]]) 0) [] x ≤ DsM [[a]] 0 * N
    rw [t0, q0, d0, ← pr]
    omega
theorem mat2 (a b c : Int) : tailK (m2 a b c) 2 (DsM (m2 a b c)) (ddM (m2 a b c)) 0 = m2 a b c ∧ tailK (m2 a b c) 2 (DsM (m2 a b c)) (ddM (m2 a b c)) 1 = [[a * c - b * b]] ∧ DsM (m2 a b c) 0 = 1 ∧ DsM (m2 a b c) 1 = a ∧ turned (sideM (m2 a b c) 1) 1 = [[b]] ∧ mulM (turned (sideM (m2 a b c) 1) 1) (adjM 1 (ddM (m2 a b c) 1)) 1 = [[b]] := by
  refine ⟨?_, ?_, ?_, ?_, ?_, ?_⟩ <;> simp [tailK, tailOf, tailM, sideM, blkM, rg3, rg1, rg12, rg13, rg2, rg23, turned, mulM, adjM, scaleM, subM, DsM, ddM, dotI, detL, minorL, at2, Int.fmod]
theorem mat3 (a b c d e f : Int) : tailK (m3 a b c d e f) 3 (DsM (m3 a b c d e f)) (ddM (m3 a b c d e f)) 0 = m3 a b c d e f ∧ tailK (m3 a b c d e f) 3 (DsM (m3 a b c d e f)) (ddM (m3 a b c d e f)) 1 = [[a * d - b * b, a * e - b * c], [a * e - c * b, a * f - c * c]] ∧
    tailK (m3 a b c d e f) 3 (DsM (m3 a b c d e f)) (ddM (m3 a b c d e f)) 2 = [[(a * d - b * b) * f - ((c * d + e * -b) * c + (c * -b + e * a) * e)]] ∧ DsM (m3 a b c d e f) 0 = 1 ∧ DsM (m3 a b c d e f) 1 = a ∧ DsM (m3 a b c d e f) 2 = a * d - b * b ∧ turned (sideM (m3 a b c d e f) 1) 2 = [[b], [c]] ∧ turned (sideM (m3 a b c d e f) 2) 1 = [[c, e]] ∧
    mulM (turned (sideM (m3 a b c d e f) 1) 2) (adjM 1 (ddM (m3 a b c d e f) 1)) 1 = [[b], [c]] ∧ mulM (turned (sideM (m3 a b c d e f) 2) 1) (adjM 2 (ddM (m3 a b c d e f) 2)) 2 = [[c * d + e * -b, c * -b + e * a]] := by
  have e1 : ddM (m3 a b c d e f) 2 0 0 = d := rfl
  have e2 : ddM (m3 a b c d e f) 2 0 1 = b := rfl
  have e3 : ddM (m3 a b c d e f) 2 1 0 = b := rfl
  have e4 : ddM (m3 a b c d e f) 2 1 1 = a := rfl
  have e5 : ddM (m3 a b c d e f) 1 0 0 = 1 := rfl
  refine ⟨?_, ?_, ?_, ?_, ?_, ?_, ?_, ?_, ?_, ?_⟩ <;> simp [tailK, tailOf, tailM, sideM, blkM, rg3, rg1, rg12, rg13, rg2, rg23, turned, mulM, adjM, scaleM, subM, DsM, dotI, detL, at2, Int.fmod, e1, e2, e3, e4, e5]
theorem bdm1 {x : Int} {E : Nat} (h : x.natAbs ≤ E) : BdM [[x]] E := fun r hr y hy => by
  rw [List.mem_singleton] at hr; subst hr
  rw [List.mem_singleton] at hy; subst hy
  exact h
theorem bdm22 {x y z w : Int} {E : Nat} (h1 : x.natAbs ≤ E) (h2 : y.natAbs ≤ E) (h3 : z.natAbs ≤ E) (h4 : w.natAbs ≤ E) : BdM [[x, y], [z, w]] E := fun r hr t ht => by
  simp only [List.mem_cons, List.not_mem_nil, or_false] at hr
  rcases hr with rfl | rfl <;> simp only [List.mem_cons, List.not_mem_nil, or_false] at ht <;> rcases ht with rfl | rfl <;> assumption
theorem BdM.sm {m : Mx} {B : Nat} (h : BdM m B) (hB : B < 2 ^ 64) : ∀ r ∈ m, ∀ x ∈ r, Sm x := fun r hr x hx => Nat.lt_of_le_of_lt (h r hr x hx) hB
theorem sm_list {m : Mx} {B : Nat} (hB : B < 2 ^ 64) (h : BdM m B) : ∀ r ∈ m, ∀ x ∈ r, Sm x := h.sm hB
theorem sqn (x : Int) : 0 ≤ x * x := by
  rw [← Int.natAbs_mul_self' x]
  exact Int.mul_nonneg (by omega) (by omega)
theorem near2 {m : Mx} {N : Int} (L : Lt m 2) (N0 : 0 ≤ N) (N1 : N ≤ 35) : NearFacts m 2 N := by
  obtain ⟨a, b, b', c, rfl⟩ := rect2 L.R
  have : b = b' := L.sy 0 1
  subst this
  have pr : ∀ x y, prodI (m2 a b c) [x, y] [x, y] = a * x * x + 2 * (b * x * y) + c * y * y := fun x y => by simp [prodI, dotI]; grind
  have kb : ∀ x y, x * x ≤ 37 * (a * x * x + 2 * (b * x * y) + c * y * y) ∧ y * y ≤ 37 * (a * x * x + 2 * (b * x * y) + c * y * y) := fun x y => by
    rw [← pr]
    exact ⟨L.kb [x, y] rfl x (by simp), L.kb [x, y] rfl y (by simp)⟩
  have ha : 0 < a := by
    have := (kb 1 0).1
    simp at this
    omega
  have hA : ∀ i k : Nat, (at2 (m2 a b c) i k).natAbs ≤ 1000 := fun i k => BdM.at L.en i k
  have a1 : a.natAbs ≤ 1000 := hA 0 0
  have b1 : b.natAbs ≤ 1000 := hA 0 1
  have c1 : c.natAbs ≤ 1000 := hA 1 1
  obtain ⟨t0, t1, d0, d1, s1, s2⟩ := mat2 a b c
  have key : ∀ x : Int, (a * x) * (a * x) ≤ 37 * (a * ((a * c - b * b) * (x * x))) := fun x => by
    have := (kb (-(b * x)) (a * x)).2
    have e : a * -(b * x) * -(b * x) + 2 * (b * -(b * x) * (a * x)) + c * (a * x) * (a * x) = a * ((a * c - b * b) * (x * x)) := by grind
    rw [e] at this
    exact this
  have hD : 0 < a * c - b * b := by
    have h1 := key 1
    have h2 : 0 < a * a := Int.mul_pos ha ha
    have e1 : a * 1 * (a * 1) = a * a := by simp
    have e2 : (a * c - b * b) * (1 * 1) = a * c - b * b := by simp
    rw [e1, e2] at h1
    have : 0 < a * (a * c - b * b) := by omega
    exact Int.pos_of_mul_pos_right this (by omega) |> fun z => z
  have Db : (a * c - b * b).natAbs ≤ 2000000 := by have := sub_abs (mulB a1 c1) (mulB b1 b1); omega
  have q1 : ∀ x, qv [[a * c - b * b]] [] x = (a * c - b * b) * (x * x) := fun x => by
    unfold qv
    rw [show restS [[a * c - b * b]] [] = 0 from rfl, show knownS [[a * c - b * b]] [] = 0 from rfl, show at2 [[a * c - b * b]] 0 0 = a * c - b * b from rfl]
    omega
  have q0 : ∀ x y, qv (m2 a b c) [y] x = a * x * x + 2 * (b * x * y) + c * y * y := fun x y => by
    unfold qv
    rw [show restS (m2 a b c) [y] = b * y by simp [restS, rg1, at2], show knownS (m2 a b c) [y] = c * y * y by simp [knownS, rg1, at2], show at2 (m2 a b c) 0 0 = a from rfl]
    grind
  have hc : ∀ {h : Nat}, h < 2 → h = 0 ∨ h = 1 := fun hh => by omega
  have hT : ∀ h : Nat, h < 2 → 0 < at2 (tailK (m2 a b c) 2 (DsM (m2 a b c)) (ddM (m2 a b c)) h) 0 0 := fun h hh => by
    rcases hc hh with rfl | rfl
    · rw [t0]; exact ha
    · rw [t1]; exact hD
  have bb1 : BdM [[b]] 1000 := bdm1 b1
  obtain ⟨f1, f2, f3⟩ := fp_gen (N := N) (by decide) (fun h hh => tail_ok L.R (by decide) hh L.en (by
    rcases hc hh with rfl | rfl
    · exact side0
    · show ∀ r ∈ turned (sideM (m2 a b c) 1) 1, _
      rw [s1]
      exact bb1.sm (by decide)) (by
    rcases hc hh with rfl | rfl
    · exact side0b
    · show ∀ r ∈ mulM (turned (sideM (m2 a b c) 1) 1) (adjM 1 (ddM (m2 a b c) 1)) 1, _
      rw [s2]
      exact bb1.sm (by decide))) hT (fun h hh v hv bv => by
    rcases hc hh with rfl | rfl
    · obtain ⟨y, rfl⟩ := len1 (show v.length = 1 from hv)
      rw [t0, d0]
      obtain ⟨i1, i2, i3⟩ := inside_le (t := m2 a b c) (v := [y]) (bd := 1 * N) (B := 35) (by simp) hA bv (by omega)
      refine ⟨fun x hx => ?_, L.en.sm (by decide), by omega, by omega⟩
      rw [q0] at hx
      have := (kb x y).1
      exact sq35 (K := 0) (by omega)
    · have : v = [] := List.length_eq_zero_iff.mp hv
      subst this
      rw [t1, d1]
      have tb : BdM [[a * c - b * b]] 2000000 := bdm1 Db
      have hB : (a * N).natAbs ≤ 1000 * 35 := mulB a1 (by omega)
      obtain ⟨i1, i2, i3⟩ := inside_le (t := [[a * c - b * b]]) (v := []) (bd := a * N) (B := 1000 * 35) (by decide) (fun i k => tb.at i k) bv hB
      refine ⟨fun x hx => ?_, tb.sm (by decide), by omega, by omega⟩
      rw [q1] at hx
      exact sq35d ha N1 (key x) hx)
  refine ⟨f1, f2, f3, fun v => ?_⟩
  have m0 : ∀ x y, [x, y] ∈ fpP (m2 a b c) 2 (DsM (m2 a b c)) (ddM (m2 a b c)) N 2 ↔ [y] ∈ fpP (m2 a b c) 2 (DsM (m2 a b c)) (ddM (m2 a b c)) N 1 ∧ a * x * x + 2 * (b * x * y) + c * y * y ≤ N := fun x y => by
    have := fp_mem (j := 1) (N := N) (hT 0 (by decide)) x [y]
    rw [show 2 - 1 - 1 = 0 from rfl, t0, d0, q0, Int.one_mul] at this
    exact this
  have m1 : ∀ y, [y] ∈ fpP (m2 a b c) 2 (DsM (m2 a b c)) (ddM (m2 a b c)) N 1 ↔ (a * c - b * b) * (y * y) ≤ a * N := fun y => by
    have := fp_mem (j := 0) (N := N) (hT 1 (by decide)) y []
    rw [show 2 - 1 - 0 = 1 from rfl, t1, d1, q1] at this
    rw [this]
    exact ⟨fun z => z.2, fun z => ⟨by simp [fpP], z⟩⟩
  constructor
  · intro hv
    have hl := fpP_len _ _ hv
    obtain ⟨x, y, rfl⟩ := len2 hl
    exact ⟨rfl, by rw [pr]; exact ((m0 x y).mp hv).2⟩
  · rintro ⟨hl, hn⟩
    obtain ⟨x, y, rfl⟩ := len2 hl
    rw [pr] at hn
    refine (m0 x y).mpr ⟨(m1 y).mpr ?_, hn⟩
    have e : a * (a * x * x + 2 * (b * x * y) + c * y * y) = (a * x + b * y) * (a * x + b * y) + (a * c - b * b) * (y * y) := by grind
    have h1 : a * (a * x * x + 2 * (b * x * y) + c * y * y) ≤ a * N := Int.mul_le_mul_of_nonneg_left hn (by omega)
    have := sqn (a * x + b * y)
    omega
theorem near3 {m : Mx} {N : Int} (L : Lt m 3) (N0 : 0 ≤ N) (N1 : N ≤ 35) : NearFacts m 3 N := by
  obtain ⟨a, b, c, b', d, e, c', e', f, rfl⟩ := rect3 L.R
  have : b = b' := L.sy 0 1
  subst this
  have : c = c' := L.sy 0 2
  subst this
  have : e = e' := L.sy 1 2
  subst this
  have pr : ∀ x y z, prodI (m3 a b c d e f) [x, y, z] [x, y, z] = a * x * x + d * y * y + f * z * z + 2 * (b * x * y + c * x * z + e * y * z) := fun x y z => by simp [prodI, dotI]; grind
  have kb : ∀ x y z, x * x ≤ 37 * (a * x * x + d * y * y + f * z * z + 2 * (b * x * y + c * x * z + e * y * z)) ∧ y * y ≤ 37 * (a * x * x + d * y * y + f * z * z + 2 * (b * x * y + c * x * z + e * y * z)) ∧ z * z ≤ 37 * (a * x * x + d * y * y + f * z * z + 2 * (b * x * y + c * x * z + e * y * z)) := fun x y z => by
    rw [← pr]
    exact ⟨L.kb [x, y, z] rfl x (by simp), L.kb [x, y, z] rfl y (by simp), L.kb [x, y, z] rfl z (by simp)⟩
  have ha : 0 < a := by
    have := (kb 1 0 0).1
    simp at this
    omega
  have hA : ∀ i k : Nat, (at2 (m3 a b c d e f) i k).natAbs ≤ 1000 := fun i k => BdM.at L.en i k
  have a1 : a.natAbs ≤ 1000 := hA 0 0
  have b1 : b.natAbs ≤ 1000 := hA 0 1
  have c1 : c.natAbs ≤ 1000 := hA 0 2
  have dd1 : d.natAbs ≤ 1000 := hA 1 1
  have e1 : e.natAbs ≤ 1000 := hA 1 2
  have f1 : f.natAbs ≤ 1000 := hA 2 2
  obtain ⟨t0, t1, t2, d0, d1, d2, s1, s2, s3, s4⟩ := mat3 a b c d e f
  have key1 : ∀ y z : Int, (a * y) * (a * y) ≤ 37 * (a * ((a * d - b * b) * (y * y) + 2 * ((a * e - b * c) * z * y) + (a * f - c * c) * z * z)) := fun y z => by
    have := (kb (-(b * y + c * z)) (a * y) (a * z)).2.1
    have q : a * -(b * y + c * z) * -(b * y + c * z) + d * (a * y) * (a * y) + f * (a * z) * (a * z) + 2 * (b * -(b * y + c * z) * (a * y) + c * -(b * y + c * z) * (a * z) + e * (a * y) * (a * z)) = a * ((a * d - b * b) * (y * y) + 2 * ((a * e - b * c) * z * y) + (a * f - c * c) * z * z) := by grind
    rw [q] at this
    exact this
  have hD : 0 < a * d - b * b := by
    have h1 := key1 1 0
    have h2 : 0 < a * a := Int.mul_pos ha ha
    simp at h1
    have : 0 < a * (a * d - b * b) := by omega
    exact Int.pos_of_mul_pos_right this (by omega) |> fun z => z
  have Db : (a * d - b * b).natAbs ≤ 2000000 := by have := sub_abs (mulB a1 dd1) (mulB b1 b1); omega
  have tb1 : (a * e - b * c).natAbs ≤ 2000000 := by have := sub_abs (mulB a1 e1) (mulB b1 c1); omega
  have tb2 : (a * e - c * b).natAbs ≤ 2000000 := by have := sub_abs (mulB a1 e1) (mulB c1 b1); omega
  have tb3 : (a * f - c * c).natAbs ≤ 2000000 := by have := sub_abs (mulB a1 f1) (mulB c1 c1); omega
  have u1 : (c * d + e * -b).natAbs ≤ 2000000 := by
    have h : (e * -b).natAbs ≤ 1000 * 1000 := mulB e1 (by rw [Int.natAbs_neg]; exact b1)
    have := add_abs (mulB c1 dd1) h
    omega
  have u2 : (c * -b + e * a).natAbs ≤ 2000000 := by
    have h : (c * -b).natAbs ≤ 1000 * 1000 := mulB c1 (by rw [Int.natAbs_neg]; exact b1)
    have := add_abs h (mulB e1 a1)
    omega
  have Tb : ((a * d - b * b) * f - ((c * d + e * -b) * c + (c * -b + e * a) * e)).natAbs ≤ 6000000000 := by
    have := sub_abs (mulB Db f1) (add_abs (mulB u1 c1) (mulB u2 e1))
    omega
  have key2 : ∀ z : Int, ((a * d - b * b) * z) * ((a * d - b * b) * z) ≤ 37 * ((a * d - b * b) * (((a * d - b * b) * f - ((c * d + e * -b) * c + (c * -b + e * a) * e)) * (z * z))) := fun z => by
    have := (kb (-((d * c - b * e) * z)) ((b * c - a * e) * z) ((a * d - b * b) * z)).2.2
    have q : a * -((d * c - b * e) * z) * -((d * c - b * e) * z) + d * ((b * c - a * e) * z) * ((b * c - a * e) * z) + f * ((a * d - b * b) * z) * ((a * d - b * b) * z) + 2 * (b * -((d * c - b * e) * z) * ((b * c - a * e) * z) + c * -((d * c - b * e) * z) * ((a * d - b * b) * z) + e * ((b * c - a * e) * z) * ((a * d - b * b) * z)) = (a * d - b * b) * (((a * d - b * b) * f - ((c * d + e * -b) * c + (c * -b + e * a) * e)) * (z * z)) := by grind
    rw [q] at this
    exact this
  generalize hT2 : (a * d - b * b) * f - ((c * d + e * -b) * c + (c * -b + e * a) * e) = t at *
  have hT2p : 0 < t := by
    have h1 := key2 1
    have h2 : 0 < (a * d - b * b) * (a * d - b * b) := Int.mul_pos hD hD
    have q1 : (a * d - b * b) * 1 * ((a * d - b * b) * 1) = (a * d - b * b) * (a * d - b * b) := by rw [Int.mul_one]
    have q2 : t * (1 * 1) = t := by simp
    rw [q1, q2] at h1
    have : 0 < (a * d - b * b) * t := by omega
    exact Int.pos_of_mul_pos_right this (by omega) |> fun z => z
  have q2 : ∀ x, qv [[t]] [] x = t * (x * x) := fun x => by
    unfold qv
    rw [show restS [[t]] [] = 0 from rfl, show knownS [[t]] [] = 0 from rfl, show at2 [[t]] 0 0 = t from rfl]
    omega
  have q1 : ∀ y z, qv [[a * d - b * b, a * e - b * c], [a * e - c * b, a * f - c * c]] [z] y = (a * d - b * b) * (y * y) + 2 * ((a * e - b * c) * z * y) + (a * f - c * c) * z * z := fun y z => by
    unfold qv
    rw [show restS [[a * d - b * b, a * e - b * c], [a * e - c * b, a * f - c * c]] [z] = (a * e - b * c) * z by simp [restS, rg1, at2], show knownS [[a * d - b * b, a * e - b * c], [a * e - c * b, a * f - c * c]] [z] = (a * f - c * c) * z * z by simp [knownS, rg1, at2], show at2 [[a * d - b * b, a * e - b * c], [a * e - c * b, a * f - c * c]] 0 0 = a * d - b * b from rfl]
  have q0 : ∀ x y z, qv (m3 a b c d e f) [y, z] x = a * x * x + d * y * y + f * z * z + 2 * (b * x * y + c * x * z + e * y * z) := fun x y z => by
    unfold qv
    rw [show restS (m3 a b c d e f) [y, z] = b * y + c * z by simp [restS, rg2, at2], show knownS (m3 a b c d e f) [y, z] = d * y * y + e * y * z + (e * z * y + f * z * z) by simp [knownS, rg2, at2], show at2 (m3 a b c d e f) 0 0 = a from rfl]
    grind
  have hc : ∀ {h : Nat}, h < 3 → h = 0 ∨ h = 1 ∨ h = 2 := fun hh => by omega
  have hT : ∀ h : Nat, h < 3 → 0 < at2 (tailK (m3 a b c d e f) 3 (DsM (m3 a b c d e f)) (ddM (m3 a b c d e f)) h) 0 0 := fun h hh => by
    rcases hc hh with rfl | rfl | rfl
    · rw [t0]; exact ha
    · rw [t1]; exact hD
    · rw [t2]; exact hT2p
  obtain ⟨g1, g2, g3⟩ := fp_gen (N := N) (by decide) (fun h hh => tail_ok L.R (by decide) hh L.en (by
    rcases hc hh with rfl | rfl | rfl
    · exact side0
    · show ∀ r ∈ turned (sideM (m3 a b c d e f) 1) 2, _
      rw [s1]
      intro r hr x hx
      simp only [List.mem_cons, List.not_mem_nil, or_false] at hr
      rcases hr with rfl | rfl <;> rw [List.mem_singleton] at hx <;> subst hx <;> (show _ < _; omega)
    · show ∀ r ∈ turned (sideM (m3 a b c d e f) 2) 1, _
      rw [s2]
      intro r hr x hx
      rw [List.mem_singleton] at hr
      subst hr
      simp only [List.mem_cons, List.not_mem_nil, or_false] at hx
      rcases hx with rfl | rfl <;> (show _ < _; omega)) (by
    rcases hc hh with rfl | rfl | rfl
    · exact side0b
    · show ∀ r ∈ mulM (turned (sideM (m3 a b c d e f) 1) 2) (adjM 1 (ddM (m3 a b c d e f) 1)) 1, _
      rw [s3]
      intro r hr x hx
      simp only [List.mem_cons, List.not_mem_nil, or_false] at hr
      rcases hr with rfl | rfl <;> rw [List.mem_singleton] at hx <;> subst hx <;> (show _ < _; omega)
    · show ∀ r ∈ mulM (turned (sideM (m3 a b c d e f) 2) 1) (adjM 2 (ddM (m3 a b c d e f) 2)) 2, _
      rw [s4]
      intro r hr x hx
      rw [List.mem_singleton] at hr
      subst hr
      simp only [List.mem_cons, List.not_mem_nil, or_false] at hx
      rcases hx with rfl | rfl <;> (show _ < _; omega))) hT (fun h hh v hv bv => by
    rcases hc hh with rfl | rfl | rfl
    · obtain ⟨y, z, rfl⟩ := len2 (show v.length = 2 from hv)
      rw [t0, d0]
      obtain ⟨i1, i2, i3⟩ := inside_le (t := m3 a b c d e f) (v := [y, z]) (bd := 1 * N) (B := 35) (by simp) hA bv (by omega)
      refine ⟨fun x hx => ?_, L.en.sm (by decide), by omega, by omega⟩
      rw [q0] at hx
      have := (kb x y z).1
      exact sq35 (K := 0) (by omega)
    · obtain ⟨z, rfl⟩ := len1 (show v.length = 1 from hv)
      rw [t1, d1]
      have tb : BdM [[a * d - b * b, a * e - b * c], [a * e - c * b, a * f - c * c]] 2000000 := bdm22 Db tb1 tb2 tb3
      have hB : (a * N).natAbs ≤ 1000 * 35 := mulB a1 (by omega)
      obtain ⟨i1, i2, i3⟩ := inside_le (t := [[a * d - b * b, a * e - b * c], [a * e - c * b, a * f - c * c]]) (v := [z]) (bd := a * N) (B := 1000 * 35) (by simp) (fun i k => tb.at i k) bv hB
      refine ⟨fun x hx => ?_, tb.sm (by decide), by omega, by omega⟩
      rw [q1] at hx
      exact sq35d ha N1 (key1 x z) hx
    · have : v = [] := List.length_eq_zero_iff.mp hv
      subst this
      rw [t2, d2]
      have tb : BdM [[t]] 6000000000 := bdm1 Tb
      have hB : ((a * d - b * b) * N).natAbs ≤ 2000000 * 35 := mulB Db (by omega)
      obtain ⟨i1, i2, i3⟩ := inside_le (t := [[t]]) (v := []) (bd := (a * d - b * b) * N) (B := 2000000 * 35) (by simp) (fun i k => tb.at i k) bv hB
      have i1 := i1 rfl
      refine ⟨fun x hx => ?_, tb.sm (by decide), by rw [i1.1]; decide, by omega⟩
      rw [q2] at hx
      exact sq35d hD N1 (key2 x) hx)
  refine ⟨g1, g2, g3, fun v => ?_⟩
  have m0 : ∀ x y z, [x, y, z] ∈ fpP (m3 a b c d e f) 3 (DsM (m3 a b c d e f)) (ddM (m3 a b c d e f)) N 3 ↔ [y, z] ∈ fpP (m3 a b c d e f) 3 (DsM (m3 a b c d e f)) (ddM (m3 a b c d e f)) N 2 ∧ a * x * x + d * y * y + f * z * z + 2 * (b * x * y + c * x * z + e * y * z) ≤ N := fun x y z => by
    have := fp_mem (j := 2) (N := N) (hT 0 (by decide)) x [y, z]
    rw [show 3 - 1 - 2 = 0 from rfl, t0, d0, q0, Int.one_mul] at this
    exact this
  have m1 : ∀ y z, [y, z] ∈ fpP (m3 a b c d e f) 3 (DsM (m3 a b c d e f)) (ddM (m3 a b c d e f)) N 2 ↔ [z] ∈ fpP (m3 a b c d e f) 3 (DsM (m3 a b c d e f)) (ddM (m3 a b c d e f)) N 1 ∧ (a * d - b * b) * (y * y) + 2 * ((a * e - b * c) * z * y) + (a * f - c * c) * z * z ≤ a * N := fun y z => by
    have := fp_mem (j := 1) (N := N) (hT 1 (by decide)) y [z]
    rw [show 3 - 1 - 1 = 1 from rfl, t1, d1, q1] at this
    exact this
  have m2' : ∀ z, [z] ∈ fpP (m3 a b c d e f) 3 (DsM (m3 a b c d e f)) (ddM (m3 a b c d e f)) N 1 ↔ t * (z * z) ≤ (a * d - b * b) * N := fun z => by
    have := fp_mem (j := 0) (N := N) (hT 2 (by decide)) z []
    rw [show 3 - 1 - 0 = 2 from rfl, t2, d2, q2] at this
    rw [this]
    exact ⟨fun z => z.2, fun z => ⟨by simp [fpP], z⟩⟩
  constructor
  · intro hv
    have hl := fpP_len _ _ hv
    obtain ⟨x, y, z, rfl⟩ := len3 hl
    exact ⟨rfl, by rw [pr]; exact ((m0 x y z).mp hv).2⟩
  · rintro ⟨hl, hn⟩
    obtain ⟨x, y, z, rfl⟩ := len3 hl
    rw [pr] at hn
    refine (m0 x y z).mpr ⟨(m1 y z).mpr ⟨(m2' z).mpr ?_, ?_⟩, hn⟩
    · have h1 : (a * d - b * b) * ((a * d - b * b) * (a * x * x + d * y * y + f * z * z + 2 * (b * x * y + c * x * z + e * y * z))) ≤ (a * d - b * b) * ((a * d - b * b) * N) := Int.mul_le_mul_of_nonneg_left (Int.mul_le_mul_of_nonneg_left hn (by omega)) (by omega)
      have h2 := (kb ((a * d - b * b) * x + (d * c - b * e) * z) ((a * d - b * b) * y + (a * e - b * c) * z) 0).1
      have h3 := sqn ((a * d - b * b) * x + (d * c - b * e) * z)
      have q : (a * d - b * b) * ((a * d - b * b) * (a * x * x + d * y * y + f * z * z + 2 * (b * x * y + c * x * z + e * y * z))) = (a * ((a * d - b * b) * x + (d * c - b * e) * z) * ((a * d - b * b) * x + (d * c - b * e) * z) + d * ((a * d - b * b) * y + (a * e - b * c) * z) * ((a * d - b * b) * y + (a * e - b * c) * z) + f * 0 * 0 + 2 * (b * ((a * d - b * b) * x + (d * c - b * e) * z) * ((a * d - b * b) * y + (a * e - b * c) * z) + c * ((a * d - b * b) * x + (d * c - b * e) * z) * 0 + e * ((a * d - b * b) * y + (a * e - b * c) * z) * 0)) + (a * d - b * b) * (t * (z * z)) := by
        rw [← hT2]
        grind
      have h4 : (a * d - b * b) * (t * (z * z)) ≤ (a * d - b * b) * ((a * d - b * b) * N) := by omega
      exact Int.le_of_mul_le_mul_left h4 hD
    · have q : a * (a * x * x + d * y * y + f * z * z + 2 * (b * x * y + c * x * z + e * y * z)) = (a * x + b * y + c * z) * (a * x + b * y + c * z) + ((a * d - b * b) * (y * y) + 2 * ((a * e - b * c) * z * y) + (a * f - c * c) * z * z) := by grind
      have h1 : a * (a * x * x + d * y * y + f * z * z + 2 * (b * x * y + c * x * z + e * y * z)) ≤ a * N := Int.mul_le_mul_of_nonneg_left hn (by omega)
      have := sqn (a * x + b * y + c * z)
      omega
theorem near_all {m : Mx} {n : Nat} {N : Int} (L : Lt m n) (N0 : 0 ≤ N) (N1 : N ≤ 35) : NearFacts m n N := by
  have h1 := L.n1
  have h3 := L.n3
  have c : n = 1 ∨ n = 2 ∨ n = 3 := by omega
  rcases c with rfl | rfl | rfl
  · exact near1 L N0 N1
  · exact near2 L N0 N1
  · exact near3 L N0 N1
end K24
set_option Elab.async false
set_option linter.all false
set_option maxRecDepth 100000
set_option maxHeartbeats 4000000
set_option autoImplicit false
namespace K24
open PySem PySem.Spec PyProof.Rows L2
open PySem.W (Datum DatumOrd Holds HoldAll Tup)
/-! ### the short vectors -/
abbrev zeroV (n : Nat) : List Int := List.replicate n 0
structure ShortFacts (m : Mx) (n : Nat) (N : Int) (S : Mx) : Prop where
  s : ShortIs m n N S
  l : S.length ≤ 1000000
  o : S.Pairwise fun a b => prodI m a a ≤ prodI m b b
  d : S.Nodup
  m : ∀ v, v ∈ S ↔ v.length = n ∧ v ≠ zeroV n ∧ prodI m v v ≤ N
theorem dle_fst {α β : Type} [DecidableEq α] [DatumOrd α] [DecidableEq β] [DatumOrd β] (L : Lin α) {a b : α × β} (h : dle a b = true) : DatumOrd.lt b.1 a.1 = false := by
  unfold dle at h
  rw [lt_pair] at h
  by_cases e : b.1 = a.1
  · rw [e]; exact L.irr _
  · rw [if_neg e] at h
    cases q : (DatumOrd.lt b.1 a.1 : Bool) with
    | false => rfl
    | true => rw [q] at h; cases h
theorem short_all {m : Mx} {n : Nat} {N : Int} (L : Lt m n) (N0 : 0 ≤ N) (N1 : N ≤ 35) : ∃ S, ShortFacts m n N S := by
  obtain ⟨f1, f2, f3, f4⟩ := near_all L N0 N1
  generalize hF : fpP m n (DsM m) (ddM m) N n = F at *
  have hn : nearL m n (DsM m) (ddM m) N = (((F.map fun v => (prodI m v v, Tup.mk v)).mergeSort dle).map fun z => z.2.items) := by unfold nearL; rw [hF]
  have pm : ((F.map fun v => (prodI m v v, Tup.mk v)).mergeSort dle).Perm (F.map fun v => (prodI m v v, Tup.mk v)) := List.mergeSort_perm ..
  have hz : ∀ z ∈ (F.map fun v => (prodI m v v, Tup.mk v)).mergeSort dle, z.1 = prodI m z.2.items z.2.items ∧ z.2.items ∈ F := fun z hz => by
    obtain ⟨v, hv, rfl⟩ := List.mem_map.mp (pm.mem_iff.mp hz)
    exact ⟨rfl, hv⟩
  have so := lin_NV.sorted (F.map fun v => (prodI m v v, Tup.mk v))
  have nd0 : (F.map fun v => (prodI m v v, Tup.mk v)).Nodup := nodup_map (fun a _ b _ e => by injection e with _ e; injection e) f2
  have nd : ((F.map fun v => (prodI m v v, Tup.mk v)).mergeSort dle).Nodup := pm.nodup_iff.mpr nd0
  have mm : ∀ v, v ∈ nearL m n (DsM m) (ddM m) N ↔ v ∈ F := fun v => by
    rw [hn]
    constructor
    · intro h
      obtain ⟨z, h1, rfl⟩ := List.mem_map.mp h
      exact (hz z h1).2
    · intro h
      exact List.mem_map.mpr ⟨(prodI m v v, Tup.mk v), pm.mem_iff.mpr (List.mem_map.mpr ⟨v, h, rfl⟩), rfl⟩
  have o1 : (nearL m n (DsM m) (ddM m) N).Pairwise fun a b => prodI m a a ≤ prodI m b b := by
    rw [hn, List.pairwise_map]
    refine List.Pairwise.imp_of_mem (fun {a b} ha hb h => ?_) so
    have h1 := dle_fst lin_int h
    have h1 : decide (b.1 < a.1) = false := h1
    rw [(hz a ha).1, (hz b hb).1] at h1
    simpa using h1
  have n1 : (nearL m n (DsM m) (ddM m) N).Nodup := by
    rw [hn]
    refine nodup_map (fun a ha b hb e => ?_) nd
    have h1 := (hz a ha).1
    have h2 := (hz b hb).1
    rw [← e] at h2
    have e2 : a.2 = b.2 := congrArg Tup.mk e
    exact Prod.ext (h1.trans h2.symm) e2
  refine ⟨(nearL m n (DsM m) (ddM m) N).filter fun v => decide (v ≠ zeroV n), ⟨DsM m, ddM m, f1, rfl⟩, Nat.le_trans (List.length_filter_le ..) ?_, o1.filter _, n1.filter _, fun v => ?_⟩
  · rw [hn, List.length_map, pm.length_eq, List.length_map]
    exact f3
  · rw [List.mem_filter, mm, f4, decide_eq_true_eq, and_assoc]
    constructor
    · rintro ⟨a, b, c⟩; exact ⟨a, c, b⟩
    · rintro ⟨a, b, c⟩; exact ⟨a, c, b⟩
/-! ### the least continued tuples -/
/-- what is known when the pairs of Pp were looked at -/
structure LcInv (m : Mx) (prim : Mx → Bool) (Pp : Mx → List Int → Prop) (st : LSt) : Prop where
  a : st.1 = none → st.2 = [] ∧ ∀ t v, Pp t v → prim (t ++ [v]) = false
  b : ∀ b, st.1 = some b → (∃ t v, Pp t v ∧ markL m t v = b) ∧ (∀ t v, Pp t v → prim (t ++ [v]) = true → ltI (markL m t v) b = false) ∧ ∀ X, X ∈ st.2 ↔ ∃ t v, Pp t v ∧ X = t ++ [v] ∧ prim X = true ∧ markL m t v = b
  d : st.2.Nodup
  s : ∀ X ∈ st.2, ∃ t v, Pp t v ∧ X = t ++ [v]
theorem snoc_inj {α : Type} {t t' : List α} {v v' : α} (h : t ++ [v] = t' ++ [v']) : t = t' ∧ v = v' := by
  have := List.append_inj' h rfl
  exact ⟨this.1, by simpa using this.2⟩
theorem ltI_irr (a : List Int) : ltI a a = false := lin_TI.irr _
theorem ltI_asym {a b : List Int} (h : ltI a b = true) : ltI b a = false := lin_TI.asym h
theorem ltI_tr {a b c : List Int} (h : ltI a b = true) (h2 : ltI b c = true) : ltI a c = true := lin_TI.tr _ _ _ h h2
theorem ltI_tri {a b : List Int} (h : ltI a b = false) (h2 : ltI b a = false) : a = b := by
  apply Classical.byContradiction
  intro n
  have : ltI b a = true := lin_TI.tri (Tup.mk a) (Tup.mk b) (fun e => n (by injection e)) h
  rw [h2] at this
  cases this
theorem lc_step {m : Mx} {prim : Mx → Bool} {Pp : Mx → List Int → Prop} {st : LSt} {t0 : Mx} {v0 : List Int} (I : LcInv m prim Pp st) (new : ¬ Pp t0 v0) : LcInv m prim (fun t v => Pp t v ∨ (t = t0 ∧ v = v0)) (lcIn m prim v0 st t0) := by
  obtain ⟨ia, ib, id, is⟩ := I
  have fresh : t0 ++ [v0] ∉ st.2 := fun h => by
    obtain ⟨t, v, p, e⟩ := is _ h
    obtain ⟨e1, e2⟩ := snoc_inj e
    rw [e1, e2] at new
    exact new p
  unfold lcIn
  by_cases c : (lcTest st.1 (markL m t0 v0) && prim (t0 ++ [v0])) = true
  · rw [if_pos c]
    rw [Bool.and_eq_true] at c
    obtain ⟨c1, c2⟩ := c
    obtain ⟨s1, s2⟩ := st
    cases s1 with
    | none =>
      obtain ⟨e, q⟩ := ia rfl
      show LcInv m prim _ (some (markL m t0 v0), [t0 ++ [v0]])
      refine ⟨fun h => (by cases h), fun b hb => ?_, by simp, fun X hX => ⟨t0, v0, .inr ⟨rfl, rfl⟩, by simpa using hX⟩⟩
      cases hb
      refine ⟨⟨t0, v0, .inr ⟨rfl, rfl⟩, rfl⟩, fun t v p hp => ?_, fun X => ?_⟩
      · rcases p with p | ⟨rfl, rfl⟩
        · rw [q t v p] at hp; cases hp
        · exact ltI_irr _
      · rw [List.mem_singleton]
        constructor
        · rintro rfl; exact ⟨t0, v0, .inr ⟨rfl, rfl⟩, rfl, c2, rfl⟩
        · rintro ⟨t, v, p, rfl, hp, e⟩
          rcases p with p | ⟨rfl, rfl⟩
          · rw [q t v p] at hp; cases hp
          · rfl
    | some b =>
      obtain ⟨⟨tb, vb, pb, eb⟩, q1, q2⟩ := ib b rfl
      have c1 : ltI b (markL m t0 v0) = false := by
        have : (!ltI b (markL m t0 v0)) = true := c1
        cases h : ltI b (markL m t0 v0) with
        | false => rfl
        | true => rw [h] at this; cases this
      show LcInv m prim _ (if ltI (markL m t0 v0) b = true then (some (markL m t0 v0), [t0 ++ [v0]]) else (some b, s2 ++ [t0 ++ [v0]]))
      by_cases l : ltI (markL m t0 v0) b = true
      · rw [if_pos l]
        refine ⟨fun h => (by cases h), fun b' hb => ?_, by simp, fun X hX => ⟨t0, v0, .inr ⟨rfl, rfl⟩, by simpa using hX⟩⟩
        cases hb
        refine ⟨⟨t0, v0, .inr ⟨rfl, rfl⟩, rfl⟩, fun t v p hp => ?_, fun X => ?_⟩
        · rcases p with p | ⟨rfl, rfl⟩
          · cases h : ltI (markL m t v) (markL m t0 v0) with
            | false => rfl
            | true => have := ltI_tr h l; rw [q1 t v p hp] at this; cases this
          · exact ltI_irr _
        · rw [List.mem_singleton]
          constructor
          · rintro rfl; exact ⟨t0, v0, .inr ⟨rfl, rfl⟩, rfl, c2, rfl⟩
          · rintro ⟨t, v, p, rfl, hp, e⟩
            rcases p with p | ⟨rfl, rfl⟩
            · have := q1 t v p hp
              rw [e, l] at this
              cases this
            · rfl
      · rw [if_neg l]
        have e0 : markL m t0 v0 = b := ltI_tri (by simpa using l) c1
        refine ⟨fun h => (by cases h), fun b' hb => ?_, ?_, fun X hX => ?_⟩
        · cases hb
          refine ⟨⟨tb, vb, .inl pb, eb⟩, fun t v p hp => ?_, fun X => ?_⟩
          · rcases p with p | ⟨rfl, rfl⟩
            · exact q1 t v p hp
            · rw [e0]; exact ltI_irr _
          · rw [List.mem_append, List.mem_singleton, q2]
            constructor
            · rintro (⟨t, v, p, h⟩ | rfl)
              · exact ⟨t, v, .inl p, h⟩
              · exact ⟨t0, v0, .inr ⟨rfl, rfl⟩, rfl, c2, e0⟩
            · rintro ⟨t, v, p, e, h⟩
              rcases p with p | ⟨rfl, rfl⟩
              · exact .inl ⟨t, v, p, e, h⟩
              · exact .inr e
        · show (s2 ++ [t0 ++ [v0]]).Nodup
          rw [List.nodup_append]
          exact ⟨id, by simp, fun a ha b hb e => by rw [List.mem_singleton] at hb; subst hb; subst e; exact fresh ha⟩
        · rcases List.mem_append.mp hX with h | h
          · obtain ⟨t, v, p, e⟩ := is X h
            exact ⟨t, v, .inl p, e⟩
          · exact ⟨t0, v0, .inr ⟨rfl, rfl⟩, by simpa using h⟩
  · rw [if_neg c]
    refine ⟨fun h => ?_, fun b hb => ?_, id, fun X hX => by obtain ⟨t, v, p, e⟩ := is X hX; exact ⟨t, v, .inl p, e⟩⟩
    · obtain ⟨e, q⟩ := ia h
      refine ⟨e, fun t v p => ?_⟩
      rcases p with p | ⟨rfl, rfl⟩
      · exact q t v p
      · cases hp : prim (t ++ [v]) with
        | false => rfl
        | true => rw [h, hp] at c; exact absurd rfl c
    · obtain ⟨⟨tb, vb, pb, eb⟩, q1, q2⟩ := ib b hb
      rw [hb] at c
      have c' : prim (t0 ++ [v0]) = true → ltI b (markL m t0 v0) = true := fun hp => by
        rw [hp, Bool.and_true] at c
        have c : ¬ (!ltI b (markL m t0 v0)) = true := c
        simpa using c
      refine ⟨⟨tb, vb, .inl pb, eb⟩, fun t v p hp => ?_, fun X => ?_⟩
      · rcases p with p | ⟨rfl, rfl⟩
        · exact q1 t v p hp
        · exact ltI_asym (c' hp)
      · rw [q2]
        constructor
        · rintro ⟨t, v, p, h⟩; exact ⟨t, v, .inl p, h⟩
        · rintro ⟨t, v, p, e, hp, h⟩
          rcases p with p | ⟨rfl, rfl⟩
          · exact ⟨t, v, p, e, hp, h⟩
          · subst e
            have := c' hp
            rw [h, ltI_irr] at this
            cases this
end K24
set_option Elab.async false
set_option linter.all false
set_option maxRecDepth 100000
set_option maxHeartbeats 4000000
set_option autoImplicit false
namespace K24
open PySem PySem.Spec PyProof.Rows L2
open PySem.W (Datum DatumOrd Holds HoldAll Tup)
/-! ### least_continued -/
theorem LcInv.congr {m : Mx} {prim : Mx → Bool} {P Q : Mx → List Int → Prop} {st : LSt} (I : LcInv m prim P st) (h : ∀ t v, P t v ↔ Q t v) : LcInv m prim Q st := by
  have : P = Q := by funext t v; exact propext (h t v)
  rw [← this]; exact I
theorem lc_len {m : Mx} {prim : Mx → Bool} {Pp : Mx → List Int → Prop} {st : LSt} (I : LcInv m prim Pp st) {ts : List Mx} {Bx : List (List Int)} (h : ∀ t v, Pp t v → t ∈ ts ∧ v ∈ Bx) {c : Nat} (hc : ts.length * Bx.length ≤ c) : st.2.length ≤ c := by
  have h1 := length_le_of_subset I.d (ys := ts.flatMap fun t => Bx.map fun v => t ++ [v]) fun X hX => by
    obtain ⟨t, v, p, e⟩ := I.s X hX
    obtain ⟨ht, hv⟩ := h t v p
    exact List.mem_flatMap.mpr ⟨t, ht, List.mem_map.mpr ⟨v, hv, e.symm⟩⟩
  have h2 := length_flatMap_le (fun t : Mx => Bx.map fun v => t ++ [v]) Bx.length ts fun t _ => by rw [List.length_map]; exact Nat.le_refl _
  exact Nat.le_trans (Nat.le_trans h1 h2) hc
theorem ltI_head {x y : Int} {xs ys : List Int} (h : x < y) : ltI (x :: xs) (y :: ys) = true := by
  show PySem.W.listLt (x :: xs) (y :: ys) = true
  rw [PySem.W.listLt, if_neg (by omega)]
  exact decide_eq_true h
theorem head_of_not_lt {x y : Int} {xs ys : List Int} (h : ltI (x :: xs) (y :: ys) = false) : y ≤ x := by
  apply Classical.byContradiction
  intro c
  rw [ltI_head (by omega)] at h
  cases h
structure LcHyp (m : Mx) (prim : Mx → Bool) (n : Nat) (ts : List Mx) (S Bx : Mx) : Prop where
  so : S.Pairwise fun a b => prodI m a a ≤ prodI m b b
  nd : S.Nodup
  tn : ts.Nodup
  p : ∀ t ∈ ts, ∀ v ∈ S, prodI m v v ≤ 8 → ∃ h, PrimIs (t ++ [v]) h n (prim (t ++ [v]))
  v : ∀ v ∈ S, v.length = n ∧ ∀ x ∈ v, Sm x
  g : (∃ t ∈ ts, ∃ v ∈ S, prodI m v v ≤ 8 ∧ prim (t ++ [v]) = true) ∨ ∀ v ∈ S, prodI m v v ≤ 8
  b : ∀ v ∈ S, prodI m v v ≤ 8 → v ∈ Bx
  c : ts.length * Bx.length ≤ 1000000
theorem lc_inner {m : Mx} {prim : Mx → Bool} {n : Nat} {ts : List Mx} {Bx : List (List Int)} {v : List Int} (hv : v ∈ Bx) (hp : ∀ t ∈ ts, ∃ h, PrimIs (t ++ [v]) h n (prim (t ++ [v]))) (hc : ts.length * Bx.length ≤ 1000000) : ∀ (r : List Mx) (Pp : Mx → List Int → Prop) (st : LSt), r.Nodup → (∀ t ∈ r, t ∈ ts) → LcInv m prim Pp st → (∀ t u, Pp t u → t ∈ ts ∧ u ∈ Bx) → (∀ t ∈ r, ¬ Pp t v) →
    lcInOk m prim n v st r ∧ LcInv m prim (fun t u => Pp t u ∨ (t ∈ r ∧ u = v)) (r.foldl (lcIn m prim v) st)
  | [], Pp, st, _, _, I, _, _ => ⟨trivial, I.congr fun t u => ⟨.inl, fun h => h.elim id fun ⟨a, _⟩ => by cases a⟩⟩
  | t :: r, Pp, st, nd, sub, I, bd, fresh => by
    have I2 := lc_step I (fresh t (List.mem_cons_self ..))
    obtain ⟨a, b⟩ := lc_inner hv hp hc r _ _ (List.nodup_cons.mp nd).2 (fun x hx => sub x (List.mem_cons_of_mem _ hx)) I2 (fun x u p => by
      rcases p with p | ⟨rfl, rfl⟩
      · exact bd x u p
      · exact ⟨sub _ (List.mem_cons_self ..), hv⟩) (fun x hx p => by
      rcases p with p | ⟨rfl, _⟩
      · exact fresh x (List.mem_cons_of_mem _ hx) p
      · exact (List.nodup_cons.mp nd).1 hx)
    refine ⟨⟨lc_len I bd hc, fun _ => hp t (sub t (List.mem_cons_self ..)), a⟩, b.congr fun x u => ?_⟩
    rw [List.mem_cons]
    constructor
    · rintro ((p | ⟨rfl, rfl⟩) | ⟨h, rfl⟩)
      · exact .inl p
      · exact .inr ⟨.inl rfl, rfl⟩
      · exact .inr ⟨.inr h, rfl⟩
    · rintro (p | ⟨rfl | h, rfl⟩)
      · exact .inl (.inl p)
      · exact .inl (.inr ⟨rfl, rfl⟩)
      · exact .inr ⟨h, rfl⟩
theorem lc_outer {m : Mx} {prim : Mx → Bool} {n : Nat} {ts : List Mx} {S Bx : Mx} (H : LcHyp m prim n ts S Bx) : ∀ (S2 S1 : Mx) (st : LSt), S1 ++ S2 = S → LcInv m prim (fun t u => t ∈ ts ∧ u ∈ S1) st → (∀ u ∈ S1, prodI m u u ≤ 8) →
    lcOutOk m prim n ts st S2 ∧ LcInv m prim (fun t u => t ∈ ts ∧ u ∈ S) (lcOut m prim ts st S2) ∧ (lcOut m prim ts st S2).2.length ≤ 1000000
  | [], S1, st, e, I, h8 => by
    rw [List.append_nil] at e
    subst e
    exact ⟨trivial, I, lc_len I (fun t u p => ⟨p.1, H.b u p.2 (h8 u p.2)⟩) H.c⟩
  | v :: S2, S1, st, e, I, h8 => by
    have hvS : v ∈ S := by rw [← e]; simp
    have sub1 : ∀ u ∈ S1, u ∈ S := fun u hu => by rw [← e]; simp [hu]
    have so := H.so
    rw [← e, List.pairwise_append] at so
    have so2 := List.pairwise_cons.mp so.2.1
    have bd1 : ∀ t u, (t ∈ ts ∧ u ∈ S1) → t ∈ ts ∧ u ∈ Bx := fun t u p => ⟨p.1, H.b u (sub1 u p.2) (h8 u p.2)⟩
    have len1 := lc_len I bd1 H.c
    cases c : lcStop m st v with
    | true =>
      have eo : lcOut m prim ts st (v :: S2) = st := by unfold lcOut; rw [if_pos c]
      rw [eo]
      refine ⟨⟨(H.v v hvS).1, (H.v v hvS).2, fun h => by rw [c] at h; cases h⟩, ?_, len1⟩
      obtain ⟨s1, s2⟩ := st
      cases s1 with
      | none => cases c
      | some b =>
        obtain ⟨⟨tb, vb, pb, eb⟩, q1, q2⟩ := I.b b rfl
        have c2 : b.getD 0 0 < prodI m v v := of_decide_eq_true c
        have later : ∀ t u, u ∈ v :: S2 → ltI b (markL m t u) = true := fun t u hu => by
          have h1 : prodI m v v ≤ prodI m u u := by
            rcases List.mem_cons.mp hu with h | h
            · rw [h]; exact Int.le_refl _
            · exact so2.1 u h
          rw [← eb] at c2 ⊢
          have c2 : prodI m vb vb < prodI m v v := c2
          exact ltI_head (by omega)
        refine ⟨fun h => (by cases h), fun b' hb => ?_, I.d, fun X hX => by obtain ⟨t, u, p, x⟩ := I.s X hX; exact ⟨t, u, ⟨p.1, sub1 u p.2⟩, x⟩⟩
        cases hb
        refine ⟨⟨tb, vb, ⟨pb.1, sub1 _ pb.2⟩, eb⟩, fun t u p hp => ?_, fun X => ?_⟩
        · have hu := p.2
          rw [← e] at hu
          rcases List.mem_append.mp hu with h | h
          · exact q1 t u ⟨p.1, h⟩ hp
          · exact ltI_asym (later t u h)
        · rw [q2]
          constructor
          · rintro ⟨t, u, p, h⟩; exact ⟨t, u, ⟨p.1, sub1 u p.2⟩, h⟩
          · rintro ⟨t, u, p, ex, hp, h⟩
            have hu := p.2
            rw [← e] at hu
            rcases List.mem_append.mp hu with hh | hh
            · exact ⟨t, u, ⟨p.1, hh⟩, ex, hp, h⟩
            · have := later t u hh
              rw [h, ltI_irr] at this
              cases this
    | false =>
      have eo : lcOut m prim ts st (v :: S2) = lcOut m prim ts (ts.foldl (lcIn m prim v) st) S2 := by
        show (if lcStop m st v = true then st else _) = _
        rw [if_neg (by rw [c]; decide)]
      have v8 : prodI m v v ≤ 8 := by
        rcases H.g with ⟨t, ht, u, hu, u8, up⟩ | h
        · apply Classical.byContradiction
          intro c8
          rw [← e] at hu
          rcases List.mem_append.mp hu with h | h
          · obtain ⟨s1, s2⟩ := st
            cases s1 with
            | none =>
              have := (I.a rfl).2 t u ⟨ht, h⟩
              rw [up] at this
              cases this
            | some b =>
              obtain ⟨⟨tb, vb, pb, eb⟩, q1, q2⟩ := I.b b rfl
              have := q1 t u ⟨ht, h⟩ up
              rw [← eb] at this
              have h2 : prodI m vb vb ≤ prodI m u u := head_of_not_lt this
              have c : decide (b.getD 0 0 < prodI m v v) = false := c
              rw [← eb] at c
              have c : decide (prodI m vb vb < prodI m v v) = false := c
              have := of_decide_eq_false c
              omega
          · rcases List.mem_cons.mp h with h | h
            · rw [h] at u8; exact c8 u8
            · have := so2.1 u h
              omega
        · exact h v hvS
      have ndv : ∀ t ∈ ts, ¬ (t ∈ ts ∧ v ∈ S1) := fun t _ p => by
        have nd := H.nd
        rw [← e, List.nodup_append] at nd
        exact nd.2.2 v p.2 v (List.mem_cons_self ..) rfl
      obtain ⟨i1, i2⟩ := lc_inner (H.b v hvS v8) (fun t ht => H.p t ht v hvS v8) H.c ts _ st H.tn (fun t h => h) I bd1 ndv
      have i3 : LcInv m prim (fun t u => t ∈ ts ∧ u ∈ S1 ++ [v]) (ts.foldl (lcIn m prim v) st) := i2.congr fun t u => by
        rw [List.mem_append, List.mem_singleton]
        constructor
        · rintro (⟨a, b⟩ | ⟨a, b⟩)
          · exact ⟨a, .inl b⟩
          · exact ⟨a, .inr b⟩
        · rintro ⟨a, b | b⟩
          · exact .inl ⟨a, b⟩
          · exact .inr ⟨a, b⟩
      obtain ⟨o1, o2, o3⟩ := lc_outer H S2 (S1 ++ [v]) _ (by rw [List.append_assoc]; exact e) i3 (fun u hu => by
        rcases List.mem_append.mp hu with h | h
        · exact h8 u h
        · rw [List.mem_singleton.mp h]; exact v8)
      rw [eo]
      exact ⟨⟨(H.v v hvS).1, (H.v v hvS).2, fun _ => ⟨i1, o1⟩⟩, o2, o3⟩
theorem lc_all {m : Mx} {prim : Mx → Bool} {n : Nat} {ts : List Mx} {S Bx : Mx} {N : Int} (H : LcHyp m prim n ts S Bx) (F : ShortFacts m n N S) : ∃ st, LcIs m n prim ts N st ∧ LcInv m prim (fun t u => t ∈ ts ∧ u ∈ S) st := by
  obtain ⟨o1, o2, o3⟩ := lc_outer H S [] (none, []) rfl ⟨fun _ => ⟨rfl, fun t v p => by cases p.2⟩, fun b h => (by cases h), List.nodup_nil, fun X h => (by cases h)⟩ (fun u h => by cases h)
  exact ⟨_, ⟨S, F.s, F.l, o1, rfl, o3⟩, o2⟩
end K24
set_option Elab.async false
set_option linter.all false
set_option maxRecDepth 100000
set_option maxHeartbeats 4000000
set_option autoImplicit false
namespace K24
open PySem PySem.Spec PyProof.Rows L2
open PySem.W (Datum DatumOrd Holds HoldAll Tup)
/-! ### other coordinates -/
def cf (v : List Int) (i : Nat) : Int := v.getD i 0
def act (U : Mx) (n : Nat) (v : List Int) : List Int := (List.range n).map fun j : Nat => cf v 0 * at2 U (0 : Nat) j + cf v 1 * at2 U (1 : Nat) j + cf v 2 * at2 U (2 : Nat) j
theorem act_len (U : Mx) (n : Nat) (v : List Int) : (act U n v).length = n := by unfold act; rw [List.length_map, List.length_range]
theorem cf_act {U : Mx} {n : Nat} (R : Rect U n n) (v : List Int) (j : Nat) : cf (act U n v) j = cf v 0 * at2 U (0 : Nat) j + cf v 1 * at2 U (1 : Nat) j + cf v 2 * at2 U (2 : Nat) j := by
  by_cases h : j < n
  · unfold cf act
    rw [List.getD_eq_getElem?_getD (l := List.map _ _), List.getElem?_map, List.getElem?_range h]
    rfl
  · rw [at_out R (by omega), at_out R (by omega), at_out R (by omega)]
    unfold cf
    rw [List.getD_eq_getElem?_getD (l := act U n v), List.getElem?_eq_none (by rw [act_len]; omega)]
    simp
theorem cf_out {v : List Int} {i : Nat} (h : v.length ≤ i) : cf v i = 0 := by
  unfold cf
  rw [List.getD_eq_getElem?_getD, List.getElem?_eq_none h]
  rfl
theorem cf_ext {v w : List Int} (h : v.length = w.length) (e : ∀ j, j < v.length → cf v j = cf w j) : v = w := by
  apply List.ext_getElem h
  intro i h1 h2
  have := e i h1
  unfold cf at this
  rw [List.getD_eq_getElem?_getD, List.getD_eq_getElem?_getD, List.getElem?_eq_getElem h1, List.getElem?_eq_getElem h2] at this
  exact this
theorem cf_mem {v : List Int} {x : Int} (h : x ∈ v) : ∃ i, i < v.length ∧ cf v i = x := by
  obtain ⟨i, hi, e⟩ := List.mem_iff_getElem.mp h
  refine ⟨i, hi, ?_⟩
  unfold cf
  rw [List.getD_eq_getElem?_getD, List.getElem?_eq_getElem hi]
  exact e
theorem mem_cf {v : List Int} {i : Nat} (h : i < v.length) : cf v i ∈ v := by
  unfold cf
  rw [List.getD_eq_getElem?_getD, List.getElem?_eq_getElem h]
  exact List.getElem_mem h
/-- a product, item by item -/
def pad (m : Mx) (v w : List Int) : Int := cf v 0 * (at2 m (0 : Nat) (0 : Nat) * cf w 0 + at2 m (0 : Nat) (1 : Nat) * cf w 1 + at2 m (0 : Nat) (2 : Nat) * cf w 2) + cf v 1 * (at2 m (1 : Nat) (0 : Nat) * cf w 0 + at2 m (1 : Nat) (1 : Nat) * cf w 1 + at2 m (1 : Nat) (2 : Nat) * cf w 2) + cf v 2 * (at2 m (2 : Nat) (0 : Nat) * cf w 0 + at2 m (2 : Nat) (1 : Nat) * cf w 1 + at2 m (2 : Nat) (2 : Nat) * cf w 2)
theorem prod_pad {m : Mx} {n : Nat} (R : Rect m n n) (n1 : 1 ≤ n) (n3 : n ≤ 3) {v w : List Int} (hv : v.length = n) (hw : w.length = n) : prodI m v w = pad m v w := by
  have c : n = 1 ∨ n = 2 ∨ n = 3 := by omega
  rcases c with rfl | rfl | rfl
  · obtain ⟨a, rfl⟩ := rect1 R
    obtain ⟨x, rfl⟩ := len1 hv
    obtain ⟨y, rfl⟩ := len1 hw
    simp [prodI, dotI, pad, cf, at2]
  · obtain ⟨a, b, c, d, rfl⟩ := rect2 R
    obtain ⟨x, x2, rfl⟩ := len2 hv
    obtain ⟨y, y2, rfl⟩ := len2 hw
    simp [prodI, dotI, pad, cf, at2]
  · obtain ⟨a, b, c, d, e, f, g, h, i, rfl⟩ := rect3 R
    obtain ⟨x, x2, x3, rfl⟩ := len3 hv
    obtain ⟨y, y2, y3, rfl⟩ := len3 hw
    simp [prodI, dotI, pad, cf, at2]
    grind
def sq3 (x : List Int) : Int := cf x 0 * cf x 0 + cf x 1 * cf x 1 + cf x 2 * cf x 2
/-- a lattice with norms no less than the sum of squares, with short unit vectors -/
structure Gd (g : Mx) (n : Nat) : Prop where
  R : Rect g n n
  n1 : 1 ≤ n
  n3 : n ≤ 3
  sy : ∀ i k : Nat, at2 g i k = at2 g k i
  sq : ∀ x : List Int, x.length = n → sq3 x ≤ prodI g x x
  un : ∀ i : Nat, i < n → at2 g i i ≤ 8
  m1 : ∀ x : List Int, x.length = n → (∀ i : Nat, i < n → prodI g x x ≤ at2 g i i) → sq3 x ≤ 3
structure Mv (m : Mx) (n : Nat) (g U V : Mx) : Prop where
  gd : Gd g n
  R : Rect m n n
  RU : Rect U n n
  RV : Rect V n n
  sy : ∀ i k : Nat, at2 m i k = at2 m k i
  uv : ∀ v : List Int, v.length = n → act V n (act U n v) = v
  vu : ∀ v : List Int, v.length = n → act U n (act V n v) = v
  pr : ∀ v w : List Int, v.length = n → w.length = n → prodI m v w = prodI g (act U n v) (act U n w)
  kv : ∀ i : Nat, at2 V (0 : Nat) i * at2 V (0 : Nat) i + at2 V (1 : Nat) i * at2 V (1 : Nat) i + at2 V (2 : Nat) i * at2 V (2 : Nat) i ≤ 37
  di : ∃ i : Nat, i < n ∧ at2 m i i ≤ 35
  en : BdM m 1000
theorem cauchy (a b c x y z : Int) {P Q : Int} (h1 : a * a + b * b + c * c ≤ P) (h2 : x * x + y * y + z * z ≤ Q) : (a * x + b * y + c * z) * (a * x + b * y + c * z) ≤ P * Q := by
  have e : (a * a + b * b + c * c) * (x * x + y * y + z * z) = (a * x + b * y + c * z) * (a * x + b * y + c * z) + ((a * y - b * x) * (a * y - b * x) + (a * z - c * x) * (a * z - c * x) + (b * z - c * y) * (b * z - c * y)) := by grind
  have h3 := sqn (a * y - b * x)
  have h4 := sqn (a * z - c * x)
  have h5 := sqn (b * z - c * y)
  have h6 : (a * a + b * b + c * c) * (x * x + y * y + z * z) ≤ P * Q := by
    have a1 := sqn a
    have a2 := sqn b
    have a3 := sqn c
    have b1 := sqn x
    have b2 := sqn y
    have b3 := sqn z
    exact Int.mul_le_mul h1 h2 (by omega) (by omega)
  omega
theorem Mv.lt {m : Mx} {n : Nat} {g U V : Mx} (M : Mv m n g U V) : Lt m n := by
  refine ⟨M.R, M.gd.n1, M.gd.n3, M.sy, fun v hv x hx => ?_, M.en⟩
  obtain ⟨i, hi, e⟩ := cf_mem hx
  have h1 := M.uv v hv
  have h2 := cf_act M.RV (act U n v) i
  rw [h1, e] at h2
  have h3 := M.gd.sq (act U n v) (act_len ..)
  rw [← M.pr v v hv hv] at h3
  have := cauchy (cf (act U n v) 0) (cf (act U n v) 1) (cf (act U n v) 2) (at2 V (0 : Nat) i) (at2 V (1 : Nat) i) (at2 V (2 : Nat) i) h3 (M.kv i)
  rw [h2, Int.mul_comm 37]
  exact this
theorem Lt.pos {m : Mx} {n : Nat} (L : Lt m n) {v : List Int} (hv : v.length = n) (h : ∃ x ∈ v, x ≠ 0) : 1 ≤ prodI m v v := by
  obtain ⟨x, hx, nx⟩ := h
  have := L.kb v hv x hx
  have h1 : 0 < x * x := by
    have := sqn x
    have : x * x ≠ 0 := fun e => (Int.mul_eq_zero.mp e).elim nx nx
    omega
  omega
theorem Lt.small {m : Mx} {n : Nat} (L : Lt m n) {v : List Int} (hv : v.length = n) (h : prodI m v v ≤ 8) : ∀ x ∈ v, x.natAbs ≤ 17 := fun x hx => by
  have := L.kb v hv x hx
  apply Classical.byContradiction
  intro c
  have : 18 * 18 ≤ x.natAbs * x.natAbs := Nat.mul_le_mul (by omega) (by omega)
  have e : ((x.natAbs * x.natAbs : Nat) : Int) = x * x := by rw [Int.natCast_mul, Int.natAbs_mul_self']
  omega
/-- rows in other coordinates reach as much -/
theorem at_map_act {U : Mx} {n : Nat} (R : Rect U n n) (t : Mx) (i j : Nat) : at2 (t.map (act U n)) i j = at2 t i (0 : Nat) * at2 U (0 : Nat) j + at2 t i (1 : Nat) * at2 U (1 : Nat) j + at2 t i (2 : Nat) * at2 U (2 : Nat) j := by
  cases h : t[i]? with
  | some r =>
    have h2 : (t.map (act U n))[i]? = some (act U n r) := by rw [List.getElem?_map, h]; rfl
    rw [at2_nat (t.map (act U n)), getD_at h2, at2_nat t, at2_nat t, at2_nat t, getD_at h]
    exact cf_act R r j
  | none =>
    have h2 : (t.map (act U n))[i]? = none := by rw [List.getElem?_map, h]; rfl
    have z : ∀ k : Nat, at2 t i k = 0 := fun k => by rw [at2_nat, List.getD_eq_getElem?_getD (l := t), h]; rfl
    rw [z, z, z, at2_nat, List.getD_eq_getElem?_getD (l := t.map (act U n)), h2]
    simp
theorem surj_act1 {U : Mx} {n : Nat} (R : Rect U n n) {t : Mx} {k : Nat} (h : Surj (fn2 (t.map (act U n))) k) : Surj (fn2 t) k := fun y => by
  obtain ⟨x, hx⟩ := h y
  refine ⟨fun k => ra (fn2 U) k x, fun i hi => ?_⟩
  rw [← hx i hi]
  unfold ra fn2
  rw [at_map_act R, at_map_act R, at_map_act R]
  grind
theorem map_back {U V : Mx} {n : Nat} (uv : ∀ v : List Int, v.length = n → act V n (act U n v) = v) {t : Mx} (ht : ∀ u ∈ t, u.length = n) : (t.map (act U n)).map (act V n) = t := by
  rw [List.map_map]
  conv => rhs; rw [← List.map_id t]
  exact List.map_congr_left fun u hu => uv u (ht u hu)
theorem Mv.surj {m : Mx} {n : Nat} {g U V : Mx} (M : Mv m n g U V) {t : Mx} (ht : ∀ u ∈ t, u.length = n) {k : Nat} : Surj (fn2 (t.map (act U n))) k ↔ Surj (fn2 t) k :=
  ⟨surj_act1 M.RU, fun h => surj_act1 M.RV (by rw [map_back M.uv ht]; exact h)⟩
theorem Mv.mark {m : Mx} {n : Nat} {g U V : Mx} (M : Mv m n g U V) {t : Mx} (ht : ∀ u ∈ t, u.length = n) {v : List Int} (hv : v.length = n) : markL g (t.map (act U n)) (act U n v) = markL m t v := by
  unfold markL
  rw [List.map_map, M.pr v v hv hv]
  congr 1
  exact List.map_congr_left fun u hu => (M.pr u v (ht u hu) hv).symm
/-! ### small vectors -/
def box5 : List Int := [-2, -1, 0, 1, 2]
def ball : Nat → Mx
  | 1 => box5.map fun x => [x]
  | 2 => box5.flatMap fun x => box5.map fun y => [x, y]
  | _ => (box5.flatMap fun x => box5.flatMap fun y => box5.map fun z => [x, y, z]).filter fun v => decide (sq3 v ≤ 8)
theorem mem_box5 {x : Int} (h : x * x ≤ 8) : x ∈ box5 := by
  have : x.natAbs ≤ 2 := by
    apply Classical.byContradiction
    intro c
    have : 3 * 3 ≤ x.natAbs * x.natAbs := Nat.mul_le_mul (by omega) (by omega)
    have e : ((x.natAbs * x.natAbs : Nat) : Int) = x * x := by rw [Int.natCast_mul, Int.natAbs_mul_self']
    omega
  have : x = -2 ∨ x = -1 ∨ x = 0 ∨ x = 1 ∨ x = 2 := by omega
  rcases this with rfl | rfl | rfl | rfl | rfl <;> decide
theorem sq3_parts {v : List Int} (h : sq3 v ≤ 8) : cf v 0 * cf v 0 ≤ 8 ∧ cf v 1 * cf v 1 ≤ 8 ∧ cf v 2 * cf v 2 ≤ 8 := by
  unfold sq3 at h
  have := sqn (cf v 0)
  have := sqn (cf v 1)
  have := sqn (cf v 2)
  omega
theorem mem_ball {n : Nat} (n1 : 1 ≤ n) (n3 : n ≤ 3) {v : List Int} (hv : v.length = n) (h : sq3 v ≤ 8) : v ∈ ball n := by
  obtain ⟨p0, p1, p2⟩ := sq3_parts h
  have c : n = 1 ∨ n = 2 ∨ n = 3 := by omega
  rcases c with rfl | rfl | rfl
  · obtain ⟨x, rfl⟩ := len1 hv
    exact List.mem_map.mpr ⟨x, mem_box5 p0, rfl⟩
  · obtain ⟨x, y, rfl⟩ := len2 hv
    exact List.mem_flatMap.mpr ⟨x, mem_box5 p0, List.mem_map.mpr ⟨y, mem_box5 p1, rfl⟩⟩
  · obtain ⟨x, y, z, rfl⟩ := len3 hv
    exact List.mem_filter.mpr ⟨List.mem_flatMap.mpr ⟨x, mem_box5 p0, List.mem_flatMap.mpr ⟨y, mem_box5 p1, List.mem_map.mpr ⟨z, mem_box5 p2, rfl⟩⟩⟩, decide_eq_true h⟩
theorem ball_len {n : Nat} (n1 : 1 ≤ n) (n3 : n ≤ 3) : (ball n).length ≤ 93 := by
  have c : n = 1 ∨ n = 2 ∨ n = 3 := by omega
  rcases c with rfl | rfl | rfl <;> decide +kernel
def mnr (x y : List Int) (i j : Nat) : Int := cf x i * cf y j - cf x j * cf y i
theorem ball_pairs : ((ball 3).all fun x => !decide (sq3 x ≤ 3) || (ball 3).all fun y => !decide (Nat.gcd (Nat.gcd (mnr x y 0 1).natAbs (mnr x y 0 2).natAbs) (mnr x y 1 2).natAbs = 1) || (decide ((mnr x y 0 1).natAbs = 1) || decide ((mnr x y 0 2).natAbs = 1) || decide ((mnr x y 1 2).natAbs = 1))) = true := by decide +kernel
def unitV (n i : Nat) : List Int := (List.range n).map fun j : Nat => if j = i then 1 else 0
theorem unitV_len (n i : Nat) : (unitV n i).length = n := by unfold unitV; rw [List.length_map, List.length_range]
theorem cf_unitV {n i : Nat} (hi : i < n) (j : Nat) : cf (unitV n i) j = if j = i then 1 else 0 := by
  by_cases h : j < n
  · unfold cf unitV
    rw [List.getD_eq_getElem?_getD, List.getElem?_map, List.getElem?_range h]
    rfl
  · rw [cf_out (by rw [unitV_len]; omega), if_neg (by omega)]
theorem at_row {t : Mx} {i : Nat} {r : List Int} (h : t[i]? = some r) (j : Nat) : at2 t i j = cf r j := by rw [at2_nat, getD_at h]; rfl
/-- a tuple with one more row -/
theorem ra_snoc_lo {X : Mx} {e : List Int} {i : Nat} (h : i < X.length) (x : Nat → Int) : ra (fn2 (X ++ [e])) i x = ra (fn2 X) i x := by
  obtain ⟨r, hr⟩ : ∃ r, X[i]? = some r := ⟨_, List.getElem?_eq_getElem h⟩
  have h2 : (X ++ [e])[i]? = some r := by rw [List.getElem?_append_left h]; exact hr
  unfold ra fn2
  simp only [at_row hr, at_row h2]
theorem ra_snoc_hi {X : Mx} {e : List Int} {k : Nat} (h : X.length = k) (x : Nat → Int) : ra (fn2 (X ++ [e])) k x = cf e 0 * x 0 + cf e 1 * x 1 + cf e 2 * x 2 := by
  have h2 : (X ++ [e])[k]? = some e := by rw [List.getElem?_append_right (by omega), h, Nat.sub_self]; rfl
  unfold ra fn2
  simp only [at_row h2]
theorem ra_unit {n i : Nat} (n3 : n ≤ 3) (hi : i < n) (x : Nat → Int) : cf (unitV n i) 0 * x 0 + cf (unitV n i) 1 * x 1 + cf (unitV n i) 2 * x 2 = x i := by
  rw [cf_unitV hi, cf_unitV hi, cf_unitV hi]
  have c : i = 0 ∨ i = 1 ∨ i = 2 := by omega
  rcases c with rfl | rfl | rfl <;> simp
theorem odd_one {x : Int} (h : x * x ≤ 8) (o : ¬ x % 2 = 0) : x = 1 ∨ x = -1 := by
  have := mem_box5 h
  simp only [box5, List.mem_cons, List.not_mem_nil, or_false] at this
  omega
theorem sol0 {a b s t : Int} (h : a * a = 1) : a * (a * (s - b * t)) + b * t = s := by grind
theorem sol1 {a b p q s t : Int} (h : (a * q - b * p) * (a * q - b * p) = 1) : a * ((a * q - b * p) * (s * q - t * b)) + b * ((a * q - b * p) * (t * a - s * p)) = s ∧ p * ((a * q - b * p) * (s * q - t * b)) + q * ((a * q - b * p) * (t * a - s * p)) = t := by
  constructor <;> grind
theorem unit_cont {n k : Nat} {X : Mx} (n1 : 1 ≤ n) (n3 : n ≤ 3) (hk : k < n) (hl : X.length = k) (hX : ∀ x ∈ X, x.length = n ∧ sq3 x ≤ 8) (h1 : 0 < k → sq3 (X.getD 0 []) ≤ 3) (S : Surj (fn2 X) k) : ∃ i, i < n ∧ Surj (fn2 (X ++ [unitV n i])) (k + 1) := by
  have c : k = 0 ∨ k = 1 ∨ k = 2 := by omega
  rcases c with rfl | rfl | rfl
  · refine ⟨0, by omega, fun y => ⟨fun _ => y 0, fun i hi => ?_⟩⟩
    have : i = 0 := by omega
    subst this
    rw [ra_snoc_hi hl]
    exact ra_unit n3 (by omega) fun _ => y 0
  · obtain ⟨x, rfl⟩ := len1 hl
    obtain ⟨xl, xs⟩ := hX x (by simp)
    obtain ⟨p0, p1, p2⟩ := sq3_parts xs
    obtain ⟨z, hz⟩ := S fun _ => 1
    have hz := hz 0 (by omega)
    have e0 : ∀ w : Nat → Int, ra (fn2 [x]) 0 w = cf x 0 * w 0 + cf x 1 * w 1 + cf x 2 * w 2 := fun w => rfl
    rw [e0] at hz
    have hodd : ∃ i, i < n ∧ (cf x i = 1 ∨ cf x i = -1) := by
      have ev : ∀ i, cf x i % 2 = 0 → ∃ q, cf x i = 2 * q := fun i h => ⟨cf x i / 2, by omega⟩
      apply Classical.byContradiction
      intro no
      have all : ∀ i, i < 3 → cf x i % 2 = 0 := fun i hi => by
        apply Classical.byContradiction
        intro o
        by_cases hn : i < n
        · refine no ⟨i, hn, odd_one ?_ o⟩
          have c : i = 0 ∨ i = 1 ∨ i = 2 := by omega
          rcases c with rfl | rfl | rfl <;> assumption
        · rw [cf_out (by omega)] at o
          exact o rfl
      obtain ⟨q0, h0⟩ := ev 0 (all 0 (by omega))
      obtain ⟨q1, h1⟩ := ev 1 (all 1 (by omega))
      obtain ⟨q2, h2⟩ := ev 2 (all 2 (by omega))
      rw [h0, h1, h2, Int.mul_assoc, Int.mul_assoc, Int.mul_assoc] at hz
      omega
    obtain ⟨i, hi, oi⟩ := hodd
    obtain ⟨j, hj, hij⟩ : ∃ j, j < n ∧ j ≠ i := ⟨if i = 0 then 1 else 0, by split <;> omega, by split <;> omega⟩
    refine ⟨j, hj, fun y => ?_⟩
    have sq : cf x i * cf x i = 1 := by rcases oi with h | h <;> rw [h] <;> rfl
    obtain ⟨w, wi, wj, wo⟩ : ∃ w : Nat → Int, w i = cf x i * (y 0 - cf x j * y 1) ∧ w j = y 1 ∧ ∀ k, k ≠ i → k ≠ j → w k = 0 := ⟨fun k => if k = j then y 1 else if k = i then cf x i * (y 0 - cf x j * y 1) else 0, by simp [Ne.symm hij], by simp, fun k h1 h2 => by simp [h1, h2]⟩
    refine ⟨w, fun r hr => ?_⟩
    have c : r = 0 ∨ r = 1 := by omega
    rcases c with rfl | rfl
    · rw [ra_snoc_lo (by simp), e0]
      have s0 : cf x i * w i + cf x j * w j = y 0 := by rw [wi, wj]; exact sol0 sq
      have ci : i = 0 ∨ i = 1 ∨ i = 2 := by omega
      have cj : j = 0 ∨ j = 1 ∨ j = 2 := by omega
      rcases ci with rfl | rfl | rfl <;> rcases cj with rfl | rfl | rfl <;> first
        | exact absurd rfl hij
        | (have := wo 0 (by decide) (by decide); rw [this, Int.mul_zero]; omega)
        | (have := wo 1 (by decide) (by decide); rw [this, Int.mul_zero]; omega)
        | (have := wo 2 (by decide) (by decide); rw [this, Int.mul_zero]; omega)
    · rw [ra_snoc_hi hl, ra_unit n3 hj, wj]
  · have : n = 3 := by omega
    subst this
    obtain ⟨x, y, rfl⟩ := len2 hl
    obtain ⟨xl, xs⟩ := hX x (by simp)
    obtain ⟨yl, ys⟩ := hX y (by simp)
    have x3 : sq3 x ≤ 3 := h1 (by omega)
    obtain ⟨u, hu⟩ := S fun i => if i = 0 then 1 else 0
    obtain ⟨w, hw⟩ := S fun i => if i = 0 then 0 else 1
    have u0 := hu 0 (by omega)
    have u1 := hu 1 (by omega)
    have w0 := hw 0 (by omega)
    have w1 := hw 1 (by omega)
    have e0 : ∀ w : Nat → Int, ra (fn2 [x, y]) 0 w = cf x 0 * w 0 + cf x 1 * w 1 + cf x 2 * w 2 := fun w => rfl
    have e1 : ∀ w : Nat → Int, ra (fn2 [x, y]) 1 w = cf y 0 * w 0 + cf y 1 * w 1 + cf y 2 * w 2 := fun w => rfl
    rw [e0] at u0 w0
    rw [e1] at u1 w1
    simp at u0 u1 w0 w1
    have cb : mnr x y 0 1 * (u 0 * w 1 - u 1 * w 0) + mnr x y 0 2 * (u 0 * w 2 - u 2 * w 0) + mnr x y 1 2 * (u 1 * w 2 - u 2 * w 1) = 1 := by
      have : mnr x y 0 1 * (u 0 * w 1 - u 1 * w 0) + mnr x y 0 2 * (u 0 * w 2 - u 2 * w 0) + mnr x y 1 2 * (u 1 * w 2 - u 2 * w 1) = (cf x 0 * u 0 + cf x 1 * u 1 + cf x 2 * u 2) * (cf y 0 * w 0 + cf y 1 * w 1 + cf y 2 * w 2) - (cf x 0 * w 0 + cf x 1 * w 1 + cf x 2 * w 2) * (cf y 0 * u 0 + cf y 1 * u 1 + cf y 2 * u 2) := by unfold mnr; grind
      rw [this, u0, u1, w0, w1]
      rfl
    have hg : Nat.gcd (Nat.gcd (mnr x y 0 1).natAbs (mnr x y 0 2).natAbs) (mnr x y 1 2).natAbs = 1 := by
      generalize hG : Nat.gcd (Nat.gcd (mnr x y 0 1).natAbs (mnr x y 0 2).natAbs) (mnr x y 1 2).natAbs = G
      have d12 : G ∣ Nat.gcd (mnr x y 0 1).natAbs (mnr x y 0 2).natAbs := hG ▸ Nat.gcd_dvd_left ..
      have d1 : (G : Int) ∣ mnr x y 0 1 := Int.ofNat_dvd_left.mpr (Nat.dvd_trans d12 (Nat.gcd_dvd_left ..))
      have d2 : (G : Int) ∣ mnr x y 0 2 := Int.ofNat_dvd_left.mpr (Nat.dvd_trans d12 (Nat.gcd_dvd_right ..))
      have d3 : (G : Int) ∣ mnr x y 1 2 := Int.ofNat_dvd_left.mpr (hG ▸ Nat.gcd_dvd_right ..)
      have : (G : Int) ∣ 1 := by
        rw [← cb]
        exact Int.dvd_add (Int.dvd_add (Int.dvd_mul_of_dvd_left d1) (Int.dvd_mul_of_dvd_left d2)) (Int.dvd_mul_of_dvd_left d3)
      exact Nat.dvd_one.mp (Int.ofNat_dvd_left.mp this)
    have bp := ball_pairs
    rw [List.all_eq_true] at bp
    have bp := bp x (mem_ball (by omega) (by omega) xl xs)
    rw [Bool.or_eq_true, List.all_eq_true] at bp
    have bp := bp.resolve_left (by simp [x3]) y (mem_ball (by omega) (by omega) yl ys)
    rw [Bool.or_eq_true, Bool.or_eq_true, Bool.or_eq_true, decide_eq_true_eq, decide_eq_true_eq, decide_eq_true_eq] at bp
    have bp := bp.resolve_left (by simp only [hg, decide_true, Bool.not_true]; decide)
    obtain ⟨i, j, l, hi, hj, hl3, d1, d2, d3, hd⟩ : ∃ i j l, i < 3 ∧ j < 3 ∧ l < 3 ∧ i ≠ j ∧ i ≠ l ∧ j ≠ l ∧ (mnr x y i j).natAbs = 1 := by
      rcases bp with (h | h) | h
      · exact ⟨0, 1, 2, by omega, by omega, by omega, by omega, by omega, by omega, h⟩
      · exact ⟨0, 2, 1, by omega, by omega, by omega, by omega, by omega, by omega, h⟩
      · exact ⟨1, 2, 0, by omega, by omega, by omega, by omega, by omega, by omega, h⟩
    have sq : mnr x y i j * mnr x y i j = 1 := by
      have : mnr x y i j = 1 ∨ mnr x y i j = -1 := by omega
      rcases this with h | h <;> rw [h] <;> rfl
    unfold mnr at sq
    refine ⟨l, hl3, fun q => ?_⟩
    obtain ⟨z, zi, zj, zl⟩ : ∃ z : Nat → Int, z i = (cf x i * cf y j - cf x j * cf y i) * ((q 0 - cf x l * q 2) * cf y j - (q 1 - cf y l * q 2) * cf x j) ∧ z j = (cf x i * cf y j - cf x j * cf y i) * ((q 1 - cf y l * q 2) * cf x i - (q 0 - cf x l * q 2) * cf y i) ∧ z l = q 2 := ⟨fun k => if k = l then q 2 else if k = i then (cf x i * cf y j - cf x j * cf y i) * ((q 0 - cf x l * q 2) * cf y j - (q 1 - cf y l * q 2) * cf x j) else (cf x i * cf y j - cf x j * cf y i) * ((q 1 - cf y l * q 2) * cf x i - (q 0 - cf x l * q 2) * cf y i), by simp [d2], by simp [d3, Ne.symm d1], by simp⟩
    obtain ⟨g0, g1⟩ := sol1 (a := cf x i) (b := cf x j) (p := cf y i) (q := cf y j) (s := q 0 - cf x l * q 2) (t := q 1 - cf y l * q 2) sq
    rw [← zi, ← zj, ← zl] at g0 g1
    clear zi zj bp hg cb u0 u1 w0 w1 hu hw S hX
    refine ⟨z, fun r hr => ?_⟩
    have c : r = 0 ∨ r = 1 ∨ r = 2 := by omega
    have ci : i = 0 ∨ i = 1 ∨ i = 2 := by omega
    have cj : j = 0 ∨ j = 1 ∨ j = 2 := by omega
    have cl : l = 0 ∨ l = 1 ∨ l = 2 := by omega
    rcases c with rfl | rfl | rfl
    · rw [ra_snoc_lo (by simp), e0]
      rcases ci with rfl | rfl | rfl <;> rcases cj with rfl | rfl | rfl <;> first
        | exact absurd rfl d1
        | (rcases cl with rfl | rfl | rfl <;> first
          | exact absurd rfl d2
          | exact absurd rfl d3
          | omega)
    · rw [ra_snoc_lo (by simp), e1]
      rcases ci with rfl | rfl | rfl <;> rcases cj with rfl | rfl | rfl <;> first
        | exact absurd rfl d1
        | (rcases cl with rfl | rfl | rfl <;> first
          | exact absurd rfl d2
          | exact absurd rfl d3
          | omega)
    · rw [ra_snoc_hi hl, ra_unit n3 hl3, zl]
end K24
set_option Elab.async false
set_option linter.all false
set_option maxRecDepth 100000
set_option maxHeartbeats 4000000
set_option autoImplicit false
namespace K24
open PySem PySem.Spec PyProof.Rows L2
open PySem.W (Datum DatumOrd Holds HoldAll Tup)
/-! ### one level -/
noncomputable def primS (X : Mx) : Bool := @decide (Surj (fn2 X) X.length) (Classical.propDecidable _)
theorem primS_iff {X : Mx} : primS X = true ↔ Surj (fn2 X) X.length := by
  unfold primS
  exact @decide_eq_true_iff _ (Classical.propDecidable _)
/-- what a level is to be -/
structure LevSpec (m : Mx) (n k : Nat) (ts : List Mx) (mk : List Int) (f : List Mx) : Prop where
  mem : ∀ X, X ∈ f ↔ ∃ t v, t ∈ ts ∧ v.length = n ∧ X = t ++ [v] ∧ Surj (fn2 X) (k + 1) ∧ markL m t v = mk
  min : ∀ t v, t ∈ ts → v.length = n → Surj (fn2 (t ++ [v])) (k + 1) → ltI (markL m t v) mk = false
  ne : f ≠ []
  nd : f.Nodup
/-- the tuples of a level -/
structure LvOk (m : Mx) (n : Nat) (U : Mx) (k : Nat) (ts : List Mx) : Prop where
  ne : ts ≠ []
  nd : ts.Nodup
  t : ∀ t ∈ ts, t.length = k ∧ (∀ u ∈ t, u.length = n ∧ prodI m u u ≤ 8) ∧ Surj (fn2 t) k
  f : ∀ t ∈ ts, 0 < k → sq3 (act U n (t.getD 0 [])) ≤ 3
  c : ts.length ≤ 93 ^ k
theorem rect_of {t : Mx} {n k : Nat} (h : t.length = k) (hu : ∀ u ∈ t, u.length = n) : Rect t k n := ⟨h, hu⟩
theorem sq3_unit {n i : Nat} (n3 : n ≤ 3) (hi : i < n) (g : Mx) (h : Rect g n n) (n1 : 1 ≤ n) : prodI g (unitV n i) (unitV n i) = at2 g i i := by
  rw [prod_pad h n1 n3 (unitV_len ..) (unitV_len ..)]
  unfold pad
  simp only [cf_unitV hi]
  have c : i = 0 ∨ i = 1 ∨ i = 2 := by omega
  rcases c with rfl | rfl | rfl <;> simp
/-- a tuple of the level has a short vector that continues it -/
theorem Mv.good {m : Mx} {n : Nat} {g U V : Mx} (M : Mv m n g U V) {k : Nat} (hk : k < n) {ts : List Mx} (L : LvOk m n U k ts) {t : Mx} (ht : t ∈ ts) : ∃ v, v.length = n ∧ prodI m v v ≤ 8 ∧ Surj (fn2 (t ++ [v])) (k + 1) := by
  obtain ⟨tl, tu, tS⟩ := L.t t ht
  have tu1 : ∀ u ∈ t, u.length = n := fun u hu => (tu u hu).1
  obtain ⟨i, hi, S⟩ := unit_cont (X := t.map (act U n)) M.gd.n1 M.gd.n3 hk (by rw [List.length_map, tl]) (fun x hx => by
    obtain ⟨u, hu, rfl⟩ := List.mem_map.mp hx
    obtain ⟨ul, u8⟩ := tu u hu
    refine ⟨act_len .., ?_⟩
    have := M.gd.sq (act U n u) (act_len ..)
    rw [← M.pr u u ul ul] at this
    omega) (fun h0 => by
    have := L.f t ht h0
    obtain ⟨r, hr⟩ : ∃ r, t[0]? = some r := ⟨_, List.getElem?_eq_getElem (by omega)⟩
    have e1 : t.getD 0 [] = r := getD_at hr
    have e2 : (t.map (act U n)).getD 0 [] = act U n r := getD_at (by rw [List.getElem?_map, hr]; rfl)
    rw [e1] at this
    rw [e2]
    exact this) ((M.surj tu1).mpr tS)
  have hl := act_len V n (unitV n i)
  have e : t.map (act U n) ++ [unitV n i] = (t ++ [act V n (unitV n i)]).map (act U n) := by
    rw [List.map_append, List.map_cons, List.map_nil, M.vu _ (unitV_len ..)]
  rw [e] at S
  refine ⟨act V n (unitV n i), hl, ?_, (M.surj fun u hu => ?_).mp S⟩
  · rw [M.pr _ _ hl hl, M.vu _ (unitV_len ..), sq3_unit M.gd.n3 hi g M.gd.R M.gd.n1]
    exact M.gd.un i hi
  · rcases List.mem_append.mp hu with h | h
    · exact tu1 u h
    · rw [List.mem_singleton.mp h]; exact hl
theorem surj_ne_zero {t : Mx} {n k : Nat} (h : t.length = k) (n3 : n ≤ 3) (S : Surj (fn2 (t ++ [zeroV n])) (k + 1)) : False := by
  obtain ⟨x, hx⟩ := S fun _ => 1
  have := hx k (by omega)
  rw [ra_snoc_hi h] at this
  have z : ∀ i, cf (zeroV n) i = 0 := fun i => by
    unfold cf
    rw [List.getD_eq_getElem?_getD]
    by_cases hi : i < n
    · rw [List.getElem?_replicate, if_pos hi]; rfl
    · rw [List.getElem?_replicate, if_neg hi]; rfl
  rw [z, z, z] at this
  omega
theorem sortTT_mem (xs : List Mx) (X : Mx) : X ∈ sortTT xs ↔ X ∈ xs := by
  unfold sortTT
  rw [List.mem_map]
  constructor
  · rintro ⟨z, hz, rfl⟩
    rw [(List.mergeSort_perm ..).mem_iff] at hz
    obtain ⟨y, hy, rfl⟩ := List.mem_map.mp hz
    rw [from_to]; exact hy
  · intro h
    exact ⟨toTT X, (List.mergeSort_perm ..).mem_iff.mpr (List.mem_map.mpr ⟨X, h, rfl⟩), from_to X⟩
theorem toTT_inj2 {a b : Mx} (h : toTT a = toTT b) : a = b := by rw [← from_to a, h, from_to]
theorem sortTT_nodup {xs : List Mx} (h : xs.Nodup) : (sortTT xs).Nodup := by
  unfold sortTT
  refine nodup_map (fun a _ b _ e => ?_) ((List.mergeSort_perm ..).nodup_iff.mpr (nodup_map (fun a _ b _ e => toTT_inj2 e) h))
  rw [← to_from a, e, to_from]
theorem sortTT_len (xs : List Mx) : (sortTT xs).length = xs.length := by
  unfold sortTT
  rw [List.length_map, (List.mergeSort_perm ..).length_eq, List.length_map]
theorem not_zero {v : List Int} {n : Nat} (hv : v.length = n) (h : v ≠ zeroV n) : ∃ x ∈ v, x ≠ 0 := by
  apply Classical.byContradiction
  intro c
  apply h
  exact List.eq_replicate_iff.mpr ⟨hv, fun x hx => Classical.byContradiction fun n => c ⟨x, hx, n⟩⟩
theorem TsOk_of {m : Mx} {n k : Nat} {U : Mx} {ts : List Mx} (Lm : Lt m n) (hk : k ≤ 3) (L : LvOk m n U k ts) : TsOk n ts := fun vs h => by
  obtain ⟨tl, tu, _⟩ := L.t vs h
  exact ⟨by omega, fun u hu => ⟨(tu u hu).1, fun x hx => Nat.lt_of_le_of_lt (Lm.small (tu u hu).1 (tu u hu).2 x hx) (by decide)⟩⟩
/-- one search: it fails only where the bound is small, or it finds the level -/
theorem Mv.search {m : Mx} {n : Nat} {g U V : Mx} (M : Mv m n g U V) {k : Nat} (hk : k < n) {ts : List Mx} (L : LvOk m n U k ts) {b : Int} (b1 : 1 ≤ b) (b35 : b ≤ 35) :
    (∃ mk f, LcIs m n primS ts b (some mk, f) ∧ LevSpec m n k ts mk (sortTT f) ∧ LvOk m n U (k + 1) (sortTT f)) ∨ (b < 8 ∧ ∃ f0, LcIs m n primS ts b (none, f0)) := by
  have Lm := M.lt
  have n3 := M.gd.n3
  have n1 := M.gd.n1
  obtain ⟨S, F⟩ := short_all (N := b) Lm (by omega) b35
  have hS : ∀ v ∈ S, v.length = n ∧ v ≠ zeroV n ∧ prodI m v v ≤ b := fun v hv => (F.m v).mp hv
  have snoc_len : ∀ t ∈ ts, ∀ v : List Int, (t ++ [v]).length = k + 1 := fun t ht v => by rw [List.length_append, (L.t t ht).1]; rfl
  have pS : ∀ t ∈ ts, ∀ v : List Int, primS (t ++ [v]) = true ↔ Surj (fn2 (t ++ [v])) (k + 1) := fun t ht v => by rw [primS_iff, snoc_len t ht]
  have inS : ∀ t ∈ ts, ∀ v : List Int, v.length = n → Surj (fn2 (t ++ [v])) (k + 1) → prodI m v v ≤ b → v ∈ S := fun t ht v hv s h => (F.m v).mpr ⟨hv, fun e => by rw [e] at s; exact surj_ne_zero (L.t t ht).1 n3 s, h⟩
  have hb8 : ∀ v ∈ S, prodI m v v ≤ 8 → v ∈ (ball n).map (act V n) := fun v hv h8 => by
    obtain ⟨hl, _, _⟩ := hS v hv
    refine List.mem_map.mpr ⟨act U n v, mem_ball n1 n3 (act_len ..) ?_, M.uv v hl⟩
    have := M.gd.sq (act U n v) (act_len ..)
    rw [← M.pr v v hl hl] at this
    omega
  have cnt : ts.length * ((ball n).map (act V n)).length ≤ 93 ^ (k + 1) := by
    rw [List.length_map, Nat.pow_succ]
    exact Nat.mul_le_mul L.c (ball_len n1 n3)
  have c3 : 93 ^ (k + 1) ≤ 1000000 := Nat.le_trans (Nat.pow_le_pow_right (by decide) (show k + 1 ≤ 3 by omega)) (by decide)
  have H : LcHyp m primS n ts S ((ball n).map (act V n)) := by
    refine ⟨F.o, F.d, L.nd, fun t ht v hv h8 => ⟨k + 1, ?_⟩, fun v hv => ⟨(hS v hv).1, fun x hx => ?_⟩, ?_, hb8, by omega⟩
    · obtain ⟨tl, tu, _⟩ := L.t t ht
      have hrow : ∀ u ∈ t ++ [v], u.length = n ∧ prodI m u u ≤ 8 := fun u hu => by
        rcases List.mem_append.mp hu with h | h
        · exact tu u h
        · rw [List.mem_singleton.mp h]; exact ⟨(hS v hv).1, h8⟩
      refine prim_ex (rect_of (snoc_len t ht v) fun u hu => (hrow u hu).1) (by omega) (by omega) n3 (fun i j => ?_) _ (pS t ht v)
      exact BdM.at (m := t ++ [v]) (B := 17) (fun r hr x hx => Lm.small (hrow r hr).1 (hrow r hr).2 x hx) i j
    · obtain ⟨hl, _, hn⟩ := hS v hv
      have := Lm.kb v hl x hx
      have : x.natAbs ≤ 35 := sq35 (K := 0) (by omega)
      exact Nat.lt_of_le_of_lt this (by decide)
    · by_cases c : 8 ≤ b
      · left
        obtain ⟨t, ht⟩ := List.exists_mem_of_ne_nil ts L.ne
        obtain ⟨v, hv, h8, s⟩ := M.good hk L ht
        exact ⟨t, ht, v, inS t ht v hv s (by omega), h8, (pS t ht v).mpr s⟩
      · right
        intro v hv
        have := (hS v hv).2.2
        omega
  obtain ⟨st, lc, I⟩ := lc_all H F
  obtain ⟨s1, s2⟩ := st
  cases s1 with
  | none =>
    right
    refine ⟨?_, s2, lc⟩
    apply Classical.byContradiction
    intro c
    obtain ⟨t, ht⟩ := List.exists_mem_of_ne_nil ts L.ne
    obtain ⟨v, hv, h8, s⟩ := M.good hk L ht
    have := (I.a rfl).2 t v ⟨ht, inS t ht v hv s (by omega)⟩
    rw [(pS t ht v).mpr s] at this
    cases this
  | some mk =>
    left
    obtain ⟨⟨tb, vb, pb, eb⟩, q1, q2⟩ := I.b mk rfl
    have vbn := (hS vb pb.2).2.2
    have big : ∀ t v, ¬ prodI m v v ≤ b → ltI mk (markL m t v) = true := fun t v h => by
      rw [← eb]
      exact ltI_head (by omega)
    have mem : ∀ X, X ∈ sortTT s2 ↔ ∃ t v, t ∈ ts ∧ v.length = n ∧ X = t ++ [v] ∧ Surj (fn2 X) (k + 1) ∧ markL m t v = mk := fun X => by
      rw [sortTT_mem, q2]
      constructor
      · rintro ⟨t, v, ⟨ht, hv⟩, rfl, hp, e⟩
        exact ⟨t, v, ht, (hS v hv).1, rfl, (pS t ht v).mp hp, e⟩
      · rintro ⟨t, v, ht, hv, rfl, hs, e⟩
        have hb : prodI m v v ≤ b := by
          apply Classical.byContradiction
          intro c
          have := big t v c
          rw [e, ltI_irr] at this
          cases this
        exact ⟨t, v, ⟨ht, inS t ht v hv hs hb⟩, rfl, (pS t ht v).mpr hs, e⟩
    have min : ∀ t v, t ∈ ts → v.length = n → Surj (fn2 (t ++ [v])) (k + 1) → ltI (markL m t v) mk = false := fun t v ht hv hs => by
      by_cases hb : prodI m v v ≤ b
      · exact q1 t v ⟨ht, inS t ht v hv hs hb⟩ ((pS t ht v).mpr hs)
      · exact ltI_asym (big t v hb)
    have m8 : ∀ v t, markL m t v = mk → prodI m v v ≤ 8 := fun v t e => by
      obtain ⟨t', ht'⟩ := List.exists_mem_of_ne_nil ts L.ne
      obtain ⟨v', hv', h8, s'⟩ := M.good hk L ht'
      have := min t' v' ht' hv' s'
      rw [← e] at this
      have := head_of_not_lt this
      omega
    have ne : sortTT s2 ≠ [] := by
      -- the best mark was met by a tuple of the level
      intro e0
      have em : s2 = [] := by
        have := sortTT_len s2
        rw [e0] at this
        exact List.length_eq_zero_iff.mp this.symm
      obtain ⟨S0, _, _, _, hst, _⟩ := lc
      have key : ∀ (S0 : Mx) (st : LSt), (∀ b, st.1 = some b → st.2 ≠ []) → ∀ b, (lcOut m primS ts st S0).1 = some b → (lcOut m primS ts st S0).2 ≠ [] := by
        have inn : ∀ (v : List Int) (r : List Mx) (st : LSt), (∀ b, st.1 = some b → st.2 ≠ []) → ∀ b, (r.foldl (lcIn m primS v) st).1 = some b → (r.foldl (lcIn m primS v) st).2 ≠ [] := by
          intro v r
          induction r with
          | nil => intro st h; exact h
          | cons t r ih =>
            intro st h
            refine ih _ ?_
            intro b hb
            unfold lcIn at hb ⊢
            split
            · split
              · simp
              · simp
            · rename_i c
              rw [if_neg c] at hb
              exact h b hb
        intro S0
        induction S0 with
        | nil => intro st h; exact h
        | cons v S0 ih =>
          intro st h
          show ∀ b, (if lcStop m st v = true then st else lcOut m primS ts (ts.foldl (lcIn m primS v) st) S0).1 = some b → (if lcStop m st v = true then st else lcOut m primS ts (ts.foldl (lcIn m primS v) st) S0).2 ≠ []
          split
          · exact h
          · exact ih _ (inn v ts st h)
      have := key S0 (none, []) (fun b h => by cases h) mk (by rw [hst])
      rw [hst] at this
      exact this em
    have len : (sortTT s2).length ≤ 93 ^ (k + 1) := by
      have h1 := length_le_of_subset (sortTT_nodup I.d) (ys := ts.flatMap fun t => ((ball n).map (act V n)).map fun v => t ++ [v]) fun X hX => by
        obtain ⟨t, v, ht, hv, e, hs, em⟩ := (mem X).mp hX
        have h8 := m8 v t em
        have hb : prodI m v v ≤ b := by
          apply Classical.byContradiction
          intro c
          have := big t v c
          rw [em, ltI_irr] at this
          cases this
        have hv2 : v ∈ S := inS t ht v hv (e ▸ hs) hb
        exact List.mem_flatMap.mpr ⟨t, ht, List.mem_map.mpr ⟨v, hb8 v hv2 h8, e.symm⟩⟩
      have h2 := length_flatMap_le (fun t : Mx => ((ball n).map (act V n)).map fun v => t ++ [v]) ((ball n).map (act V n)).length ts fun t _ => by rw [List.length_map]; exact Nat.le_refl _
      exact Nat.le_trans (Nat.le_trans h1 h2) cnt
    refine ⟨mk, s2, lc, ⟨mem, min, ne, sortTT_nodup I.d⟩, ⟨ne, sortTT_nodup I.d, fun X hX => ?_, fun X hX _ => ?_, len⟩⟩
    · obtain ⟨t, v, ht, hv, e, hs, em⟩ := (mem X).mp hX
      refine ⟨by rw [e]; exact snoc_len t ht v, fun u hu => ?_, hs⟩
      rw [e] at hu
      rcases List.mem_append.mp hu with h | h
      · exact (L.t t ht).2.1 u h
      · rw [List.mem_singleton.mp h]; exact ⟨hv, m8 v t em⟩
    · obtain ⟨t, v, ht, hv, e, hs, em⟩ := (mem X).mp hX
      by_cases k0 : 0 < k
      · have h0 : X.getD 0 [] = t.getD 0 [] := by
          rw [e, List.getD_eq_getElem?_getD, List.getElem?_append_left (by rw [(L.t t ht).1]; exact k0), ← List.getD_eq_getElem?_getD (l := t)]
        rw [h0]
        exact L.f t ht k0
      · have k0 : k = 0 := by omega
        subst k0
        have tn : t = [] := List.length_eq_zero_iff.mp (L.t t ht).1
        subst tn
        have h0 : X.getD 0 [] = v := by rw [e]; rfl
        rw [h0]
        refine M.gd.m1 (act U n v) (act_len ..) fun i hi => ?_
        rw [← M.pr v v hv hv]
        have hl := act_len V n (unitV n i)
        have := min [] (act V n (unitV n i)) ht hl ((M.surj (t := [act V n (unitV n i)]) (fun u hu => by rw [List.mem_singleton.mp hu]; exact hl)).mp (by
          rw [List.map_cons, List.map_nil, M.vu _ (unitV_len ..)]
          intro y
          refine ⟨fun _ => y 0, fun r hr => ?_⟩
          have : r = 0 := by omega
          subst this
          exact ra_unit n3 hi fun _ => y 0))
        rw [← em] at this
        have := head_of_not_lt this
        rw [M.pr _ _ hl hl, M.vu _ (unitV_len ..), sq3_unit n3 hi g M.gd.R n1] at this
        exact this
theorem Mv.level {m : Mx} {n : Nat} {g U V : Mx} (M : Mv m n g U V) {k : Nat} (hk : k < n) {ts : List Mx} (L : LvOk m n U k ts) : ∀ (d : Nat) (b : Int), 1 ≤ b → b ≤ 35 → (8 - b).toNat ≤ d → ∃ j mk f b', WhRun m n primS ts j b mk f b' ∧ 1 ≤ b' ∧ b' ≤ 35 ∧ LevSpec m n k ts mk f ∧ LvOk m n U (k + 1) f := by
  intro d
  induction d with
  | zero =>
    intro b b1 b35 hd
    rcases M.search hk L b1 b35 with ⟨mk, f, lc, sp, ok⟩ | ⟨b8, _⟩
    · exact ⟨0, mk, _, b, WhRun.hit lc, b1, b35, sp, ok⟩
    · omega
  | succ d ih =>
    intro b b1 b35 hd
    rcases M.search hk L b1 b35 with ⟨mk, f, lc, sp, ok⟩ | ⟨b8, f0, lc⟩
    · exact ⟨0, mk, _, b, WhRun.hit lc, b1, b35, sp, ok⟩
    · obtain ⟨j, mk, f, b', run, h⟩ := ih (2 * b) (by omega) (by omega) (by omega)
      exact ⟨j + 1, mk, f, b', WhRun.miss lc run, h⟩
/-- all levels from the one of k on -/
inductive LS (m : Mx) (n : Nat) : Nat → List Mx → List Lv → Prop
  | nil {ts : List Mx} : LS m n n ts []
  | cons {k : Nat} {ts f : List Mx} {mk : List Int} {rest : List Lv} (h : k < n) (s : LevSpec m n k ts mk f) (r : LS m n (k + 1) f rest) : LS m n k ts ((mk, f) :: rest)
theorem Mv.run {m : Mx} {n : Nat} {g U V : Mx} (M : Mv m n g U V) : ∀ (r k : Nat) (ts : List Mx) (b : Int), k + r = n → LvOk m n U k ts → 1 ≤ b → b ≤ 35 → ∃ out, LvRun m n primS r ts b out ∧ LS m n k ts out ∧ ∀ z ∈ out, ∃ k', LvOk m n U k' z.2
  | 0, k, ts, b, e, L, _, _ => by
    have : k = n := by omega
    subst this
    exact ⟨[], LvRun.nil, LS.nil, fun z h => by cases h⟩
  | r + 1, k, ts, b, e, L, b1, b35 => by
    have n3 := M.gd.n3
    obtain ⟨j, mk, f, b', run, b1', b35', sp, ok⟩ := M.level (show k < n by omega) L _ b b1 b35 (Nat.le_refl _)
    obtain ⟨out, r1, r2, r3⟩ := M.run r (k + 1) f b' (by omega) ok b1' b35'
    refine ⟨(mk, f) :: out, LvRun.cons run (TsOk_of M.lt (by omega) L) b1 r1, LS.cons (by omega) sp r2, fun z hz => ?_⟩
    rcases List.mem_cons.mp hz with h | h
    · rw [h]; exact ⟨_, ok⟩
    · exact r3 z h
end K24
set_option Elab.async false
set_option linter.all false
set_option maxRecDepth 100000
set_option maxHeartbeats 4000000
set_option autoImplicit false
namespace K24
open PySem PySem.Spec PyProof.Rows L2
open PySem.W (Datum DatumOrd Holds HoldAll Tup)
/-! ### all levels -/
def Key (m : Mx) (X : Mx) (ms : Mx) : Prop := ∀ i, i < X.length → markL m (X.take i) (X.getD i []) = ms.getD i []
theorem markL_len (m t : Mx) (v : List Int) : (markL m t v).length = t.length + 1 := by unfold markL; rw [List.length_cons, List.length_map]
theorem key_snoc {m t ms : Mx} {v mk : List Int} (h : Key m t ms) (hl : ms.length = t.length) (e : markL m t v = mk) : Key m (t ++ [v]) (ms ++ [mk]) := fun i hi => by
  rw [List.length_append, List.length_singleton] at hi
  by_cases c : i < t.length
  · rw [List.take_append_of_le_length (by omega), List.getD_eq_getElem?_getD, List.getD_eq_getElem?_getD, List.getElem?_append_left c, List.getElem?_append_left (by omega), ← List.getD_eq_getElem?_getD, ← List.getD_eq_getElem?_getD]
    exact h i c
  · have : i = t.length := by omega
    subst this
    rw [List.getD_eq_getElem?_getD, List.getD_eq_getElem?_getD, List.getElem?_append_right (by omega), List.getElem?_append_right (by omega), hl, Nat.sub_self]
    simp only [List.take_append_of_le_length (Nat.le_refl _), List.take_length]
    exact e
structure Fin1 (m : Mx) (n : Nat) (ms : Mx) (X : Mx) : Prop where
  l : X.length = n
  r : ∀ u ∈ X, u.length = n
  s : Surj (fn2 X) n
  k : Key m X ms
theorem LS.fin {m : Mx} {n k : Nat} {ts : List Mx} {out : List Lv} (h : LS m n k ts out) : ∀ (pre : Mx), pre.length = k → ts ≠ [] → ts.Nodup → (∀ t ∈ ts, t.length = k ∧ (∀ u ∈ t, u.length = n) ∧ Surj (fn2 t) k ∧ Key m t pre) →
    k + out.length = n ∧ (∀ (i : Nat) (z : Lv), out[i]? = some z → z.1.length = k + i + 1) ∧ (∀ mk fs, (([], ts) :: out)[out.length]? = some (mk, fs) → fs ≠ [] ∧ fs.Nodup ∧ ∀ X ∈ fs, Fin1 m n (pre ++ out.map (·.1)) X) := by
  induction h with
  | nil =>
    rename_i ts
    intro pre hp ne nd ht
    refine ⟨rfl, fun i z h => by simp at h, fun mk fs h => ?_⟩
    have : ts = fs := by simpa using congrArg (Option.map (·.2)) h
    subst this
    refine ⟨ne, nd, fun X hX => ?_⟩
    obtain ⟨a, b, c, d⟩ := ht X hX
    exact ⟨a, b, c, by simpa using d⟩
  | cons hk s r ih =>
    rename_i k ts f mk rest
    intro pre hp ne nd ht
    have hm : mk.length = k + 1 := by
      obtain ⟨X, hX⟩ := List.exists_mem_of_ne_nil f s.ne
      obtain ⟨t, v, h1, h2, h3, h4, h5⟩ := (s.mem X).mp hX
      rw [← h5, markL_len, (ht t h1).1]
    obtain ⟨i1, i2, i3⟩ := ih (pre ++ [mk]) (by rw [List.length_append, hp]; rfl) s.ne s.nd fun X hX => by
      obtain ⟨t, v, h1, h2, rfl, h4, h5⟩ := (s.mem X).mp hX
      obtain ⟨a, b, c, d⟩ := ht t h1
      refine ⟨by rw [List.length_append, a]; rfl, fun u hu => ?_, h4, key_snoc d (by rw [hp, a]) h5⟩
      rcases List.mem_append.mp hu with h | h
      · exact b u h
      · rw [List.mem_singleton.mp h]; exact h2
    refine ⟨by rw [List.length_cons]; omega, fun i z h => ?_, fun mk' fs h => ?_⟩
    · cases i with
      | zero =>
        have : (mk, f) = z := by simpa using h
        rw [← this]
        exact hm
      | succ i =>
        have := i2 i z (by simpa using h)
        omega
    · have h2 : (([], f) :: rest)[rest.length]? = (if rest.length = 0 then some (([] : List Int), f) else ((mk, f) :: rest)[rest.length]?) := by
        cases hr : rest.length with
        | zero => rfl
        | succ q => rfl
      rw [List.length_cons, List.getElem?_cons_succ] at h
      have e0 : pre ++ List.map (·.1) ((mk, f) :: rest) = pre ++ [mk] ++ rest.map (·.1) := by simp
      rw [e0]
      by_cases c : rest.length = 0
      · rw [c] at h
        have : (mk, f) = (mk', fs) := by simpa using h
        cases this
        exact i3 [] f (by rw [h2, if_pos c])
      · exact i3 mk' fs (by rw [h2, if_neg c]; exact h)
structure Fin (m : Mx) (n : Nat) (out : List Lv) (fs : List Mx) : Prop where
  lv : LevelsIs m n out
  l : ∃ mk, out[n - 1]? = some (mk, fs)
  ne : fs ≠ []
  nd : fs.Nodup
  x : ∀ X ∈ fs, Fin1 m n (out.map (·.1)) X
  ml : ∀ (i : Nat) (z : Lv), out[i]? = some z → z.1.length = i + 1
  c : fs.length ≤ 1000000
  b : ∀ X ∈ fs, ∀ u ∈ X, prodI m u u ≤ 8
  ls : LS m n 0 [[]] out
theorem min_ex : ∀ (r : List Int), r ≠ [] → ∃ b, IsMinL r b
  | [], h => absurd rfl h
  | [x], _ => ⟨x, by simp, fun z hz => by rw [List.mem_singleton.mp hz]; exact Int.le_refl _⟩
  | x :: y :: r, _ => by
    obtain ⟨b, h1, h2⟩ := min_ex (y :: r) (by simp)
    by_cases c : x ≤ b
    · refine ⟨x, by simp, fun z hz => ?_⟩
      rcases List.mem_cons.mp hz with h | h
      · rw [h]; exact Int.le_refl _
      · exact Int.le_trans c (h2 z h)
    · refine ⟨b, List.mem_cons_of_mem _ h1, fun z hz => ?_⟩
      rcases List.mem_cons.mp hz with h | h
      · rw [h]; omega
      · exact h2 z h
theorem diag_pos {m : Mx} {n : Nat} (L : Lt m n) {i : Nat} (hi : i < n) : 1 ≤ at2 m i i := by
  rw [← sq3_unit L.n3 hi m L.R L.n1]
  refine L.pos (unitV_len ..) ⟨1, ?_, by decide⟩
  have := mem_cf (v := unitV n i) (i := i) (by rw [unitV_len]; exact hi)
  rw [cf_unitV hi, if_pos rfl] at this
  exact this
theorem lv0 (m : Mx) (n : Nat) (U : Mx) : LvOk m n U 0 [[]] := ⟨by simp, by simp, fun t ht => by
  have : t = [] := by simpa using ht
  subst this
  exact ⟨rfl, fun u hu => (by cases hu), fun y => ⟨y, fun i hi => by omega⟩⟩, fun t ht h => by omega, by decide⟩
theorem Mv.levels {m : Mx} {n : Nat} {g U V : Mx} (M : Mv m n g U V) : ∃ out fs, Fin m n out fs := by
  have L := M.lt
  have n1 := L.n1
  have n3 := L.n3
  obtain ⟨b, hb⟩ := min_ex (diagL m n) (fun e => by
    have : (diagL m n).length = 0 := by rw [e]; rfl
    unfold diagL at this
    rw [List.length_map, rng_len] at this
    omega)
  have b1 : 1 ≤ b := by
    obtain ⟨i, hi, e⟩ := List.mem_map.mp hb.1
    have hi := mem_rng.mp hi
    have := diag_pos L (i := i.toNat) (by omega)
    rw [Int.toNat_of_nonneg (by omega)] at this
    omega
  have b35 : b ≤ 35 := by
    obtain ⟨i, hi, h⟩ := M.di
    have := hb.2 (at2 m i i) (List.mem_map.mpr ⟨(i : Int), mem_rng.mpr ⟨by omega, by omega⟩, rfl⟩)
    omega
  obtain ⟨out, r1, r2, r3⟩ := M.run n 0 [[]] b (by omega) (lv0 m n U) b1 b35
  obtain ⟨e1, e2, e3⟩ := r2.fin [] rfl (by simp) (by simp) fun t ht => by
    have : t = [] := by simpa using ht
    subst this
    exact ⟨rfl, fun u hu => (by cases hu), fun y => ⟨y, fun i hi => by omega⟩, fun i hi => by simp at hi⟩
  have hl : out.length = n := by omega
  obtain ⟨z, hz⟩ : ∃ z, out[n - 1]? = some z := ⟨_, List.getElem?_eq_getElem (by omega)⟩
  have hz2 : (([], [[]]) :: out)[out.length]? = some (z.1, z.2) := by
    rw [hl, show n = n - 1 + 1 by omega, List.getElem?_cons_succ]
    exact hz
  obtain ⟨f1, f2, f3⟩ := e3 z.1 z.2 hz2
  obtain ⟨k', ok⟩ := r3 z (List.mem_of_getElem? hz)
  have kn : k' = n := by
    obtain ⟨X, hX⟩ := List.exists_mem_of_ne_nil z.2 f1
    rw [← (ok.t X hX).1, (f3 X hX).l]
  subst kn
  refine ⟨out, z.2, ⟨M.R, n1, by omega, fun r hr x hx => Nat.lt_of_le_of_lt (M.en r hr x hx) (by decide), primS, b, hb, r1⟩, ⟨z.1, hz⟩, f1, f2, fun X hX => by have := f3 X hX; rwa [List.nil_append] at this, fun i z h => by have := e2 i z h; omega, ?_, fun X hX u hu => ((ok.t X hX).2.1 u hu).2, r2⟩
  exact Nat.le_trans ok.c (Nat.le_trans (Nat.pow_le_pow_right (by decide) n3) (by decide))
/-! ### two lattices that are one in other coordinates -/
def Corr (n : Nat) (U : Mx) (ts tg : List Mx) : Prop := ∀ X : Mx, (∀ u ∈ X, u.length = n) → (X ∈ ts ↔ X.map (act U n) ∈ tg)
def RowsN (n : Nat) (ts : List Mx) : Prop := ∀ X ∈ ts, ∀ u ∈ X, u.length = n
theorem rows_snoc {n : Nat} {t : Mx} {v : List Int} (ht : ∀ u ∈ t, u.length = n) (hv : v.length = n) : ∀ u ∈ t ++ [v], u.length = n := fun u hu => by
  rcases List.mem_append.mp hu with h | h
  · exact ht u h
  · rw [List.mem_singleton.mp h]; exact hv
theorem rows_act (n : Nat) (U t : Mx) : ∀ u ∈ t.map (act U n), u.length = n := fun u hu => by
  obtain ⟨x, _, rfl⟩ := List.mem_map.mp hu
  exact act_len ..
theorem map_snoc (n : Nat) (U t : Mx) (v : List Int) : (t ++ [v]).map (act U n) = t.map (act U n) ++ [act U n v] := by rw [List.map_append]; rfl
theorem Mv.corr1 {m : Mx} {n : Nat} {g U V : Mx} (M : Mv m n g U V) {k : Nat} {ts tg f fg : List Mx} {mk mg : List Int} (s : LevSpec m n k ts mk f) (sg : LevSpec g n k tg mg fg) (rt : RowsN n ts) (rg : RowsN n tg) (c : Corr n U ts tg) : mk = mg ∧ RowsN n f ∧ RowsN n fg ∧ Corr n U f fg := by
  have back : ∀ s ∈ tg, s.map (act V n) ∈ ts := fun s hs => (c _ (rows_act _ _ _)).mpr (by rw [map_back M.vu (rg s hs)]; exact hs)
  have e : mk = mg := by
    refine ltI_tri ?_ ?_
    · obtain ⟨X, hX⟩ := List.exists_mem_of_ne_nil f s.ne
      obtain ⟨t, v, h1, h2, rfl, h4, h5⟩ := (s.mem X).mp hX
      have := sg.min (t.map (act U n)) (act U n v) ((c t (rt t h1)).mp h1) (act_len ..) (by rw [← map_snoc]; exact (M.surj (rows_snoc (rt t h1) h2)).mpr h4)
      rw [M.mark (rt t h1) h2, h5] at this
      exact this
    · obtain ⟨X, hX⟩ := List.exists_mem_of_ne_nil fg sg.ne
      obtain ⟨t, v, h1, h2, rfl, h4, h5⟩ := (sg.mem X).mp hX
      have hb := map_back M.vu (rg t h1)
      have := s.min (t.map (act V n)) (act V n v) (back t h1) (act_len ..) (by
        rw [← map_snoc]
        refine (M.surj (rows_act _ _ _)).mp ?_
        rw [map_back M.vu (rows_snoc (rg t h1) h2)]
        exact h4)
      rw [← M.mark (rows_act _ _ _) (act_len ..), hb, M.vu v h2, h5] at this
      exact this
  subst e
  refine ⟨rfl, fun X hX => ?_, fun X hX => ?_, fun X hr => ?_⟩
  · obtain ⟨t, v, h1, h2, rfl, _, _⟩ := (s.mem X).mp hX
    exact rows_snoc (rt t h1) h2
  · obtain ⟨t, v, h1, h2, rfl, _, _⟩ := (sg.mem X).mp hX
    exact rows_snoc (rg t h1) h2
  · rw [s.mem, sg.mem]
    constructor
    · rintro ⟨t, v, h1, h2, rfl, h4, h5⟩
      exact ⟨t.map (act U n), act U n v, (c t (rt t h1)).mp h1, act_len .., map_snoc .., (M.surj hr).mpr h4, by rw [M.mark (rt t h1) h2]; exact h5⟩
    · rintro ⟨t, v, h1, h2, h3, h4, h5⟩
      have e2 : X = t.map (act V n) ++ [act V n v] := by rw [← map_back M.uv hr, h3, map_snoc]
      refine ⟨t.map (act V n), act V n v, back t h1, act_len .., e2, (M.surj hr).mp h4, ?_⟩
      rw [← M.mark (rows_act _ _ _) (act_len ..), map_back M.vu (rg t h1), M.vu v h2]
      exact h5
theorem Mv.corr {m : Mx} {n : Nat} {g U V : Mx} (M : Mv m n g U V) {k : Nat} {ts tg : List Mx} {out outg : List Lv} (s : LS m n k ts out) (sg : LS g n k tg outg) (rt : RowsN n ts) (rg : RowsN n tg) (c : Corr n U ts tg) : out.map (·.1) = outg.map (·.1) ∧ ∀ (i : Nat) (z zg : Lv), out[i]? = some z → outg[i]? = some zg → Corr n U z.2 zg.2 := by
  induction s generalizing tg outg with
  | nil =>
    cases sg with
    | nil => exact ⟨rfl, fun i z zg h => by simp at h⟩
    | cons h _ _ => omega
  | cons h s r ih =>
    cases sg with
    | nil => omega
    | cons hg sg2 rg2 =>
      obtain ⟨e, r1, r2, c2⟩ := M.corr1 s sg2 rt rg c
      obtain ⟨i1, i2⟩ := ih rg2 r1 r2 c2
      refine ⟨by rw [List.map_cons, List.map_cons, i1, e], fun i z zg h1 h2 => ?_⟩
      cases i with
      | zero =>
        simp at h1 h2
        subst h1 h2
        exact c2
      | succ i => exact i2 i z zg (by simpa using h1) (by simpa using h2)
/-- the least bases of both correspond -/
theorem Mv.fin_corr {m : Mx} {n : Nat} {g U V : Mx} (M : Mv m n g U V) {out outg : List Lv} {fs fg : List Mx} (F : Fin m n out fs) (G : Fin g n outg fg) : out.map (·.1) = outg.map (·.1) ∧ Corr n U fs fg ∧ fs.length = fg.length := by
  have r0 : RowsN n [[]] := fun X hX u hu => by
    have : X = [] := by simpa using hX
    subst this
    cases hu
  obtain ⟨e, c⟩ := M.corr F.ls G.ls r0 r0 fun X hr => by
    constructor
    · intro h
      have : X = [] := by simpa using h
      subst this
      simp
    · intro h
      have : X.map (act U n) = [] := by simpa using h
      have : X = [] := List.map_eq_nil_iff.mp this
      subst this
      simp
  obtain ⟨mk, h1⟩ := F.l
  obtain ⟨mg, h2⟩ := G.l
  have c := c (n - 1) _ _ h1 h2
  have rf : RowsN n fs := fun X hX => (F.x X hX).r
  have rg : RowsN n fg := fun X hX => (G.x X hX).r
  refine ⟨e, c, Nat.le_antisymm ?_ ?_⟩
  · have := length_le_of_subset (xs := fs.map fun X => X.map (act U n)) (ys := fg) (nodup_map (fun a ha b hb e => by rw [← map_back M.uv (rf a ha), e, map_back M.uv (rf b hb)]) F.nd) fun z hz => by
      obtain ⟨X, hX, rfl⟩ := List.mem_map.mp hz
      exact (c X (rf X hX)).mp hX
    rwa [List.length_map] at this
  · have := length_le_of_subset (xs := fg.map fun X => X.map (act V n)) (ys := fs) (nodup_map (fun a ha b hb e => by rw [← map_back M.vu (rg a ha), e, map_back M.vu (rg b hb)]) G.nd) fun z hz => by
      obtain ⟨X, hX, rfl⟩ := List.mem_map.mp hz
      exact (c _ (rows_act _ _ _)).mpr (by rw [map_back M.vu (rg X hX)]; exact hX)
    rwa [List.length_map] at this
end K24
set_option Elab.async false
set_option linter.all false
set_option maxRecDepth 100000
set_option maxHeartbeats 4000000
set_option autoImplicit false
namespace K24
open PySem PySem.Spec PyProof.Rows L2
open PySem.W (Datum DatumOrd Holds HoldAll Tup)
/-! ### products of matrices, item by item -/
def mul3 (A B : NN) : NN := fun i j => A i 0 * B 0 j + A i 1 * B 1 j + A i 2 * B 2 j
def tp (A : NN) : NN := fun i j => A j i
def dl (n : Nat) : NN := fun i j => if i = j ∧ i < n then 1 else 0
theorem mul3_assoc (A B C : NN) : mul3 (mul3 A B) C = mul3 A (mul3 B C) := by
  funext i j
  unfold mul3
  generalize A i 0 = a0; generalize A i 1 = a1; generalize A i 2 = a2
  generalize C 0 j = c0; generalize C 1 j = c1; generalize C 2 j = c2
  grind
theorem tp_mul (A B : NN) : tp (mul3 A B) = mul3 (tp B) (tp A) := by
  funext i j
  unfold mul3 tp
  grind
theorem tp_tp (A : NN) : tp (tp A) = A := rfl
theorem dl_mul {A : Mx} {n w : Nat} (R : Rect A n w) (n3 : n ≤ 3) : mul3 (dl n) (fn2 A) = fn2 A := by
  funext i j
  unfold mul3 dl
  by_cases h : i < n
  · have c : i = 0 ∨ i = 1 ∨ i = 2 := by omega
    rcases c with rfl | rfl | rfl <;> simp [h]
  · have : fn2 A i j = 0 := at_out R (by omega)
    rw [this]
    simp [h]
theorem mul_dl {A : Mx} {h n : Nat} (R : Rect A h n) (n3 : n ≤ 3) : mul3 (fn2 A) (dl n) = fn2 A := by
  funext i j
  unfold mul3 dl
  by_cases h : j < n
  · have c : j = 0 ∨ j = 1 ∨ j = 2 := by omega
    rcases c with rfl | rfl | rfl <;> simp [h] <;> omega
  · have : fn2 A i j = 0 := at_out R (by omega)
    rw [this]
    have q : ∀ k, ¬ (k = j ∧ k < n) := fun k ⟨a, b⟩ => h (a ▸ b)
    simp [q]
theorem fn2_act {U : Mx} {n : Nat} (R : Rect U n n) (t : Mx) : fn2 (t.map (act U n)) = mul3 (fn2 t) (fn2 U) := by
  funext i j
  exact at_map_act R t i j
theorem rect_ext2 {A B : Mx} {h w : Nat} (RA : Rect A h w) (RB : Rect B h w) (e : fn2 A = fn2 B) : A = B := by
  apply List.ext_getElem (by rw [RA.h, RB.h])
  intro i h1 h2
  have l1 := RA.w _ (List.getElem_mem h1)
  have l2 := RB.w _ (List.getElem_mem h2)
  refine cf_ext (by rw [l1, l2]) fun j hj => ?_
  have := congrFun (congrFun e i) j
  unfold fn2 at this
  rw [at_row (List.getElem?_eq_getElem h1), at_row (List.getElem?_eq_getElem h2)] at this
  exact this
def rv (v : List Int) : NN := fun i j => if i = 0 then cf v j else 0
theorem pad_mul (m : Mx) (v w : List Int) : pad m v w = mul3 (mul3 (rv v) (fn2 m)) (tp (rv w)) 0 0 := by
  unfold pad mul3 tp rv fn2
  simp only [if_true, reduceIte]
  generalize cf v 0 = v0; generalize cf v 1 = v1; generalize cf v 2 = v2; generalize cf w 0 = w0; generalize cf w 1 = w1; generalize cf w 2 = w2
  grind
theorem rv_act {X : Mx} {n : Nat} (R : Rect X n n) (v : List Int) : rv (act X n v) = mul3 (rv v) (fn2 X) := by
  funext i j
  unfold rv mul3
  by_cases h : i = 0
  · simp only [h, if_true, reduceIte]
    exact cf_act R v j
  · simp [h]
/-- a matrix moved by a basis has the products of the moved vectors -/
theorem pad_conj {A m X : Mx} {n : Nat} (R : Rect X n n) (e : fn2 A = mul3 (mul3 (fn2 X) (fn2 m)) (tp (fn2 X))) (v w : List Int) : pad A v w = pad m (act X n v) (act X n w) := by
  rw [pad_mul, pad_mul, rv_act R, rv_act R, e, tp_mul]
  simp only [mul3_assoc]
/-- the products of the rows -/
theorem rows_mul {X m : Mx} (i j : Nat) : pad m (X.getD i []) (X.getD j []) = mul3 (mul3 (fn2 X) (fn2 m)) (tp (fn2 X)) i j := by
  have e : ∀ i k : Nat, fn2 X i k = cf (X.getD i []) k := fun i k => at2_nat X i k
  unfold pad mul3 tp
  simp only [e]
  unfold fn2
  generalize cf (X.getD i []) 0 = v0; generalize cf (X.getD i []) 1 = v1; generalize cf (X.getD i []) 2 = v2; generalize cf (X.getD j []) 0 = w0; generalize cf (X.getD j []) 1 = w1; generalize cf (X.getD j []) 2 = w2
  grind
theorem row_in {X : Mx} {h w i : Nat} (R : Rect X h w) (hi : i < h) : X.getD i [] ∈ X ∧ (X.getD i []).length = w := by
  obtain ⟨r, hr, lr⟩ := R.get hi
  rw [getD_at hr]
  exact ⟨List.mem_of_getElem? hr, lr⟩
theorem out_conj {X m : Mx} {n : Nat} (R : Rect X n n) {i j : Nat} (h : ¬ (i < n ∧ j < n)) : mul3 (mul3 (fn2 X) (fn2 m)) (tp (fn2 X)) i j = 0 := by
  unfold mul3 tp
  by_cases hi : i < n
  · have z : ∀ k, fn2 X j k = 0 := fun k => at_out R (by omega)
    simp [z]
  · have z : ∀ k, fn2 X i k = 0 := fun k => at_out R (by omega)
    simp [z]
theorem prodL_pad {g : Mx} {n : Nat} (R : Rect g n n) (n1 : 1 ≤ n) (n3 : n ≤ 3) {v w : List Int} (hv : v.length = n) (hw : w.length = n) : prodL g v w = pad g v w := by
  have c : n = 1 ∨ n = 2 ∨ n = 3 := by omega
  rcases c with rfl | rfl | rfl
  · obtain ⟨a, rfl⟩ := rect1 R
    obtain ⟨x, rfl⟩ := len1 hv
    obtain ⟨y, rfl⟩ := len1 hw
    simp [prodL, pad, cf, at2, rg1]
    grind
  · obtain ⟨a, b, c, d, rfl⟩ := rect2 R
    obtain ⟨x, x2, rfl⟩ := len2 hv
    obtain ⟨y, y2, rfl⟩ := len2 hw
    simp [prodL, pad, cf, at2, rg2]
    grind
  · obtain ⟨a, b, c, d, e, f, g, h, i, rfl⟩ := rect3 R
    obtain ⟨x, x2, x3, rfl⟩ := len3 hv
    obtain ⟨y, y2, y3, rfl⟩ := len3 hw
    simp [prodL, pad, cf, at2, rg3]
    grind
theorem moved_rect {g X : Mx} {n : Nat} (R : Rect X n n) : Rect (movedL g X) n n := ⟨by unfold movedL; rw [List.length_map, R.h], fun r hr => by
  obtain ⟨v, _, rfl⟩ := List.mem_map.mp hr
  rw [List.length_map, R.h]⟩
theorem fn2_moved {g X : Mx} {n : Nat} (Rg : Rect g n n) (R : Rect X n n) (n1 : 1 ≤ n) (n3 : n ≤ 3) : fn2 (movedL g X) = mul3 (mul3 (fn2 X) (fn2 g)) (tp (fn2 X)) := by
  funext i j
  by_cases h : i < n ∧ j < n
  · rw [← rows_mul, ← prodL_pad Rg n1 n3 (row_in R h.1).2 (row_in R h.2).2]
    obtain ⟨r, hr, lr⟩ := R.get h.1
    obtain ⟨q, hq, lq⟩ := R.get h.2
    have e : (movedL g X)[i]? = some (X.map fun w => prodL g r w) := by unfold movedL; rw [List.getElem?_map, hr]; rfl
    show at2 (movedL g X) i j = _
    rw [at_row e, getD_at hr, getD_at hq]
    unfold cf
    rw [List.getD_eq_getElem?_getD, List.getElem?_map, hq]
    rfl
  · rw [out_conj R h]
    exact at_out (moved_rect R) h
theorem gram_at2 {ms : Mx} {n i j : Nat} (hi : i < n) (hj : j < n) : at2 (gramM ms n) i j = gEnt ms i j := by
  have e : (gramM ms n)[i]? = some ((List.range n).map fun j => gEnt ms i j) := by unfold gramM; rw [List.getElem?_map, List.getElem?_range hi]; rfl
  rw [at_row e]
  unfold cf
  rw [List.getD_eq_getElem?_getD, List.getElem?_map, List.getElem?_range hj]
  rfl
/-- the least Gram matrix is that of each least basis -/
theorem fn2_gram {m X ms : Mx} {n : Nat} (Rm : Rect m n n) (n1 : 1 ≤ n) (n3 : n ≤ 3) (sy : ∀ i k : Nat, at2 m i k = at2 m k i) (F : Fin1 m n ms X) : fn2 (gramM ms n) = mul3 (mul3 (fn2 X) (fn2 m)) (tp (fn2 X)) := by
  have R : Rect X n n := ⟨F.l, F.r⟩
  have psy : ∀ v w, pad m v w = pad m w v := fun v w => by
    unfold pad
    rw [sy 1 0, sy 2 0, sy 2 1]
    grind
  have lo : ∀ i j, i < n → j < i → gEnt ms i j = pad m (X.getD i []) (X.getD j []) ∧ gEnt ms j i = pad m (X.getD i []) (X.getD j []) := fun i j hi hj => by
    have k := F.k i (by rw [F.l]; exact hi)
    unfold gEnt
    rw [if_neg (by omega), if_pos hj, if_neg (by omega), if_neg (by omega), ← k]
    unfold markL
    rw [List.getD_eq_getElem?_getD, List.getElem?_cons_succ, List.getElem?_map, List.getElem?_take, if_pos hj]
    obtain ⟨q, hq, lq⟩ := R.get (show j < n by omega)
    rw [hq, getD_at hq, psy]
    have := prod_pad Rm n1 n3 lq (row_in R hi).2
    exact ⟨this, this⟩
  funext i j
  by_cases h : i < n ∧ j < n
  · show at2 (gramM ms n) i j = _
    rw [gram_at2 h.1 h.2, ← rows_mul]
    rcases Nat.lt_trichotomy i j with c | c | c
    · rw [psy]; exact (lo j i h.2 c).2
    · subst c
      have k := F.k i (by rw [F.l]; exact h.1)
      unfold gEnt
      rw [if_pos rfl, ← k]
      exact prod_pad Rm n1 n3 (row_in R h.1).2 (row_in R h.1).2
    · exact (lo i j h.1 c).1
  · rw [out_conj R h]
    exact at_out (gram_rect ..) h
/-- what reaches all has an inverse -/
theorem surj_inv {X : Mx} {n : Nat} (R : Rect X n n) (S : Surj (fn2 X) n) : ∃ W : NN, mul3 (fn2 X) W = dl n := by
  refine ⟨fun k j => Classical.choose (S fun i => if i = j then 1 else 0) k, ?_⟩
  funext i j
  by_cases h : i < n
  · have := Classical.choose_spec (S fun i => if i = j then 1 else 0) i h
    unfold ra at this
    show _ = if i = j ∧ i < n then (1 : Int) else 0
    have e : (if i = j ∧ i < n then (1 : Int) else 0) = if i = j then 1 else 0 := by simp [h]
    rw [e, ← this]
    rfl
  · unfold mul3 dl
    have z : ∀ k, fn2 X i k = 0 := fun k => at_out R (by omega)
    simp [z, h]
theorem act_ne {X : Mx} {n : Nat} (R : Rect X n n) (n3 : n ≤ 3) (S : Surj (fn2 X) n) {v : List Int} (hv : v.length = n) (h : ∃ x ∈ v, x ≠ 0) : ∃ x ∈ act X n v, x ≠ 0 := by
  obtain ⟨W, hW⟩ := surj_inv R S
  apply Classical.byContradiction
  intro c
  have z : ∀ j, cf (act X n v) j = 0 := fun j => by
    by_cases hj : j < n
    · exact Classical.byContradiction fun q => c ⟨_, mem_cf (by rw [act_len]; exact hj), q⟩
    · exact cf_out (by rw [act_len]; omega)
  have e : mul3 (mul3 (rv v) (fn2 X)) W = mul3 (rv v) (dl n) := by rw [mul3_assoc, hW]
  rw [← rv_act R] at e
  obtain ⟨x, hx, nx⟩ := h
  obtain ⟨i, hi, rfl⟩ := cf_mem hx
  have := congrFun (congrFun e 0) i
  unfold mul3 rv dl at this
  simp only [if_true, reduceIte, z] at this
  have hn : i < n := by omega
  have c : i = 0 ∨ i = 1 ∨ i = 2 := by omega
  rcases c with rfl | rfl | rfl <;> simp [hn] at this <;> omega
end K24
set_option Elab.async false
set_option linter.all false
set_option maxRecDepth 100000
set_option maxHeartbeats 4000000
set_option autoImplicit false
namespace K24
open PySem PySem.Spec PyProof.Rows L2
open PySem.W (Datum DatumOrd Holds HoldAll Tup)
/-! ### Lattice() takes them -/
def vec (n : Nat) (f : Nat → Int) : List Int := (List.range n).map f
theorem vec_len (n : Nat) (f : Nat → Int) : (vec n f).length = n := by unfold vec; rw [List.length_map, List.length_range]
theorem cf_vec (n : Nat) (f : Nat → Int) (j : Nat) : cf (vec n f) j = if j < n then f j else 0 := by
  by_cases h : j < n
  · rw [if_pos h]
    unfold cf vec
    rw [List.getD_eq_getElem?_getD, List.getElem?_map, List.getElem?_range h]
    rfl
  · rw [if_neg h, cf_out (by rw [vec_len]; omega)]
theorem lead_at {m : Mx} {k i j : Nat} (hi : i < k) (hj : j < k) : at2 (lead m k) i j = at2 m i j := by
  rw [at2_nat, at2_nat]
  unfold lead
  rw [List.getD_eq_getElem?_getD (l := List.map _ _), List.getElem?_map, List.getElem?_take, if_pos hi, List.getD_eq_getElem?_getD (l := m)]
  cases m[i]? with
  | none => rfl
  | some r =>
    show (r.take k).getD j 0 = r.getD j 0
    rw [List.getD_eq_getElem?_getD, List.getElem?_take, if_pos hj, List.getD_eq_getElem?_getD]
theorem lead_det {m : Mx} {k : Nat} (k1 : 1 ≤ k) (k3 : k ≤ 3) : detL (lead m k) k = detL m k := by
  have c : k = 1 ∨ k = 2 ∨ k = 3 := by omega
  rcases c with rfl | rfl | rfl
  · exact lead_at (m := m) (k := 1) (i := 0) (j := 0) (by omega) (by omega)
  · have e : ∀ i j : Nat, i < 2 → j < 2 → at2 (lead m 2) i j = at2 m i j := fun i j h1 h2 => lead_at h1 h2
    have e00 : at2 (lead m 2) 0 0 = at2 m 0 0 := e 0 0 (by omega) (by omega)
    have e01 : at2 (lead m 2) 0 1 = at2 m 0 1 := e 0 1 (by omega) (by omega)
    have e10 : at2 (lead m 2) 1 0 = at2 m 1 0 := e 1 0 (by omega) (by omega)
    have e11 : at2 (lead m 2) 1 1 = at2 m 1 1 := e 1 1 (by omega) (by omega)
    show at2 (lead m 2) 0 0 * at2 (lead m 2) 1 1 - at2 (lead m 2) 1 0 * at2 (lead m 2) 0 1 = _
    rw [e00, e01, e10, e11]
    rfl
  · have e : ∀ i j : Nat, i < 3 → j < 3 → at2 (lead m 3) i j = at2 m i j := fun i j h1 h2 => lead_at h1 h2
    have e00 : at2 (lead m 3) 0 0 = at2 m 0 0 := e 0 0 (by omega) (by omega)
    have e01 : at2 (lead m 3) 0 1 = at2 m 0 1 := e 0 1 (by omega) (by omega)
    have e02 : at2 (lead m 3) 0 2 = at2 m 0 2 := e 0 2 (by omega) (by omega)
    have e10 : at2 (lead m 3) 1 0 = at2 m 1 0 := e 1 0 (by omega) (by omega)
    have e11 : at2 (lead m 3) 1 1 = at2 m 1 1 := e 1 1 (by omega) (by omega)
    have e12 : at2 (lead m 3) 1 2 = at2 m 1 2 := e 1 2 (by omega) (by omega)
    have e20 : at2 (lead m 3) 2 0 = at2 m 2 0 := e 2 0 (by omega) (by omega)
    have e21 : at2 (lead m 3) 2 1 = at2 m 2 1 := e 2 1 (by omega) (by omega)
    have e22 : at2 (lead m 3) 2 2 = at2 m 2 2 := e 2 2 (by omega) (by omega)
    show det3 (at2 (lead m 3) 0 0) (at2 (lead m 3) 0 1) (at2 (lead m 3) 0 2) (at2 (lead m 3) 1 0) (at2 (lead m 3) 1 1) (at2 (lead m 3) 1 2) (at2 (lead m 3) 2 0) (at2 (lead m 3) 2 1) (at2 (lead m 3) 2 2) = _
    rw [e00, e01, e02, e10, e11, e12, e20, e21, e22]
    rfl
theorem pos_of_mul {a b : Int} (h : 0 < a) (h2 : 1 ≤ a * b) : 1 ≤ b := by
  apply Classical.byContradiction
  intro c
  have : a * b ≤ a * 0 := Int.mul_le_mul_of_nonneg_left (by omega) (by omega)
  omega
theorem dets_pos {m : Mx} {n : Nat} (R : Rect m n n) (n1 : 1 ≤ n) (n3 : n ≤ 3) (sy : ∀ i k : Nat, at2 m i k = at2 m k i) (pd : ∀ v : List Int, v.length = n → (∃ x ∈ v, x ≠ 0) → 1 ≤ prodI m v v) : 1 ≤ detL m 1 ∧ (2 ≤ n → 1 ≤ detL m 2) ∧ (3 ≤ n → 1 ≤ detL m 3) := by
  have s10 : at2 m 1 0 = at2 m 0 1 := sy 1 0
  have s20 : at2 m 2 0 = at2 m 0 2 := sy 2 0
  have s21 : at2 m 2 1 = at2 m 1 2 := sy 2 1
  have pv : ∀ f : Nat → Int, (∃ i, i < n ∧ f i ≠ 0) → 1 ≤ pad m (vec n f) (vec n f) := fun f ⟨i, hi, h⟩ => by
    rw [← prod_pad R n1 n3 (vec_len ..) (vec_len ..)]
    refine pd _ (vec_len ..) ⟨f i, ?_, h⟩
    have := mem_cf (v := vec n f) (i := i) (by rw [vec_len]; exact hi)
    rw [cf_vec, if_pos hi] at this
    exact this
  have d1 : 1 ≤ detL m 1 := by
    have := pv (fun i => if i = 0 then 1 else 0) ⟨0, by omega, by decide⟩
    unfold pad at this
    simp only [cf_vec] at this
    have c : n = 1 ∨ n = 2 ∨ n = 3 := by omega
    show 1 ≤ at2 m 0 0
    rcases c with rfl | rfl | rfl <;> simp at this <;> exact this
  have d1' : 1 ≤ at2 m 0 0 := d1
  have d2 : 2 ≤ n → 1 ≤ detL m 2 := fun h2 => by
    have := pv (fun i => if i = 0 then - at2 m 0 1 else if i = 1 then at2 m 0 0 else 0) ⟨1, by omega, by simp; omega⟩
    unfold pad at this
    simp only [cf_vec] at this
    refine pos_of_mul (a := at2 m 0 0) (by omega) ?_
    show 1 ≤ at2 m 0 0 * (at2 m 0 0 * at2 m 1 1 - at2 m 1 0 * at2 m 0 1)
    have c : n = 2 ∨ n = 3 := by omega
    rcases c with rfl | rfl <;> simp at this <;> rw [s10] at this ⊢ <;> grind
  refine ⟨d1, d2, fun h3 => ?_⟩
  have e : n = 3 := by omega
  subst e
  have d2' : 1 ≤ at2 m 0 0 * at2 m 1 1 - at2 m 1 0 * at2 m 0 1 := d2 (by omega)
  have := pv (fun i => if i = 0 then at2 m 0 1 * at2 m 1 2 - at2 m 0 2 * at2 m 1 1 else if i = 1 then at2 m 0 1 * at2 m 0 2 - at2 m 0 0 * at2 m 1 2 else at2 m 0 0 * at2 m 1 1 - at2 m 1 0 * at2 m 0 1) ⟨2, by omega, by simp; omega⟩
  unfold pad at this
  simp only [cf_vec] at this
  refine pos_of_mul (a := at2 m 0 0 * at2 m 1 1 - at2 m 1 0 * at2 m 0 1) (by omega) ?_
  show 1 ≤ (at2 m 0 0 * at2 m 1 1 - at2 m 1 0 * at2 m 0 1) * det3 (at2 m 0 0) (at2 m 0 1) (at2 m 0 2) (at2 m 1 0) (at2 m 1 1) (at2 m 1 2) (at2 m 2 0) (at2 m 2 1) (at2 m 2 2)
  unfold det3
  simp at this
  rw [s10, s20, s21] at this ⊢
  clear d2 d2' d1 d1' pv pd s10 s20 s21 sy R
  generalize at2 m 0 0 = a at *; generalize at2 m 0 1 = b at *; generalize at2 m 0 2 = c at *; generalize at2 m 1 1 = d at *; generalize at2 m 1 2 = e at *; generalize at2 m 2 2 = f at *
  refine Int.le_trans this (Int.le_of_eq ?_)
  grind
theorem latok_of {m : Mx} {n : Nat} (R : Rect m n n) (n1 : 1 ≤ n) (n3 : n ≤ 3) (sy : ∀ i k : Nat, at2 m i k = at2 m k i) (en : BdM m 10000) (pd : ∀ v : List Int, v.length = n → (∃ x ∈ v, x ≠ 0) → 1 ≤ prodI m v v) : LatOk m n := by
  refine ⟨R, n1, by omega, fun i k _ _ => sy i k, en, fun k k1 kn => ⟨detL m k, ?_, ?_⟩⟩
  · obtain ⟨h1, h2, h3⟩ := dets_pos R n1 n3 sy pd
    have c : k = 1 ∨ k = 2 ∨ k = 3 := by omega
    rcases c with rfl | rfl | rfl
    · exact h1
    · exact h2 kn
    · exact h3 kn
  · rw [← lead_det k1 (by omega)]
    refine bare_ex (lead_rect R kn) (by omega) fun i j => Nat.le_trans (BdM.at (m := lead m k) (B := 10000) (fun r hr x hx => ?_) i j) (by decide)
    obtain ⟨q, hq, rfl⟩ := List.mem_map.mp hr
    exact en q (List.mem_of_mem_take hq) x (List.mem_of_mem_take hx)
theorem Mv.lat {m : Mx} {n : Nat} {g U V : Mx} (M : Mv m n g U V) : LatOk m n := latok_of M.R M.gd.n1 M.gd.n3 M.sy (fun r hr x hx => Nat.le_trans (M.en r hr x hx) (by decide)) fun v hv h => M.lt.pos hv h
/-- two vectors of norms to 8 have a product to 8 -/
theorem Lt.prod8 {m : Mx} {n : Nat} (L : Lt m n) {x y : List Int} (hx : x.length = n) (hy : y.length = n) (h1 : prodI m x x ≤ 8) (h2 : prodI m y y ≤ 8) : (pad m x y).natAbs ≤ 8 := by
  have nn : ∀ v : List Int, v.length = n → 0 ≤ pad m v v := fun v hv => by
    have h0 := L.n1
    have := L.kb v hv (cf v 0) (mem_cf (by omega))
    have := sqn (cf v 0)
    rw [← prod_pad L.R L.n1 L.n3 hv hv]
    omega
  rw [prod_pad L.R L.n1 L.n3 hx hx] at h1
  rw [prod_pad L.R L.n1 L.n3 hy hy] at h2
  have ev : ∀ s : Int, ∀ j, cf (vec n fun j => cf x j + s * cf y j) j = cf x j + s * cf y j := fun s j => by
    rw [cf_vec]
    by_cases h : j < n
    · rw [if_pos h]
    · rw [if_neg h, cf_out (v := x) (by omega), cf_out (v := y) (by omega), Int.mul_zero]; rfl
  have ex : ∀ s : Int, pad m (vec n fun j => cf x j + s * cf y j) (vec n fun j => cf x j + s * cf y j) = pad m x x + 2 * (s * pad m x y) + s * s * pad m y y := fun s => by
    unfold pad
    simp only [ev]
    rw [show at2 m ((1 : Nat) : Int) ((0 : Nat) : Int) = at2 m ((0 : Nat) : Int) ((1 : Nat) : Int) from L.sy 1 0, show at2 m ((2 : Nat) : Int) ((0 : Nat) : Int) = at2 m ((0 : Nat) : Int) ((2 : Nat) : Int) from L.sy 2 0, show at2 m ((2 : Nat) : Int) ((1 : Nat) : Int) = at2 m ((1 : Nat) : Int) ((2 : Nat) : Int) from L.sy 2 1]
    generalize at2 m ((0 : Nat) : Int) ((0 : Nat) : Int) = m00; generalize at2 m ((0 : Nat) : Int) ((1 : Nat) : Int) = m01; generalize at2 m ((0 : Nat) : Int) ((2 : Nat) : Int) = m02; generalize at2 m ((1 : Nat) : Int) ((1 : Nat) : Int) = m11; generalize at2 m ((1 : Nat) : Int) ((2 : Nat) : Int) = m12; generalize at2 m ((2 : Nat) : Int) ((2 : Nat) : Int) = m22
    generalize cf x 0 = x0; generalize cf x 1 = x1; generalize cf x 2 = x2; generalize cf y 0 = y0; generalize cf y 1 = y1; generalize cf y 2 = y2
    grind
  have p1 := nn _ (vec_len n fun j => cf x j + 1 * cf y j)
  have p2 := nn _ (vec_len n fun j => cf x j + (-1) * cf y j)
  rw [ex] at p1 p2
  omega
theorem Fin.gram {m : Mx} {n : Nat} {g U V : Mx} (M : Mv m n g U V) {out : List Lv} {fs : List Mx} (F : Fin m n out fs) {X : Mx} (hX : X ∈ fs) : fn2 (gramM (out.map (·.1)) n) = mul3 (mul3 (fn2 X) (fn2 m)) (tp (fn2 X)) := fn2_gram M.R M.gd.n1 M.gd.n3 M.sy (F.x X hX)
theorem Mv.form {m : Mx} {n : Nat} {g U V : Mx} (M : Mv m n g U V) {out : List Lv} {fs : List Mx} (F : Fin m n out fs) : FormIs m n (gramM (out.map (·.1)) n) := by
  refine ⟨out, F.lv, F.ml, rfl, ?_⟩
  obtain ⟨X, hX⟩ := List.exists_mem_of_ne_nil fs F.ne
  have e := F.gram M hX
  have f := F.x X hX
  have R : Rect X n n := ⟨f.l, f.r⟩
  have n1 := M.gd.n1
  have n3 := M.gd.n3
  have msy : tp (fn2 m) = fn2 m := by funext i j; exact M.sy j i
  refine latok_of (gram_rect ..) n1 n3 (fun i k => ?_) (fun r hr x hx => ?_) fun v hv h => ?_
  · have : tp (fn2 (gramM (out.map (·.1)) n)) = fn2 (gramM (out.map (·.1)) n) := by
      rw [e, tp_mul, tp_mul, tp_tp, msy, mul3_assoc]
    exact congrFun (congrFun this k) i
  · obtain ⟨i, hi, rfl⟩ := List.mem_map.mp hr
    obtain ⟨j, hj, rfl⟩ := List.mem_map.mp hx
    rw [List.mem_range] at hi hj
    rw [← gram_at2 hi hj]
    show (fn2 (gramM (out.map (·.1)) n) i j).natAbs ≤ _
    rw [e, ← rows_mul]
    have ri := row_in R hi
    have rj := row_in R hj
    have := M.lt.prod8 ri.2 rj.2 (F.b X hX _ ri.1) (F.b X hX _ rj.1)
    omega
  · rw [prod_pad (gram_rect ..) n1 n3 hv hv, pad_conj R e, ← prod_pad M.R n1 n3 (act_len ..) (act_len ..)]
    exact M.lt.pos (act_len ..) (act_ne R n3 f.s hv h)
theorem Fin.bases {m : Mx} {n : Nat} {out : List Lv} {fs : List Mx} (F : Fin m n out fs) : BasesIs m n fs := by
  obtain ⟨mk, hl⟩ := F.l
  exact ⟨out, mk, F.lv, hl, F.c, fun X hX => ⟨(F.x X hX).l, (F.x X hX).r⟩⟩
end K24
set_option Elab.async false
set_option linter.all false
set_option maxRecDepth 100000
set_option maxHeartbeats 4000000
set_option autoImplicit false
namespace K24
open PySem PySem.Spec PyProof.Rows L2
open PySem.W (Datum DatumOrd Holds HoldAll Tup)
/-! ### the inverse of a basis -/
def dtL (f : NN) : Nat → Int
  | 0 => 1
  | 1 => f 0 0
  | 2 => f 0 0 * f 1 1 - f 1 0 * f 0 1
  | _ => dt f
theorem det_fn (m : Mx) (n : Nat) : detL m n = dtL (fn2 m) n := by
  match n with
  | 0 => rfl
  | 1 => rfl
  | 2 => rfl
  | _ + 3 => rfl
theorem dt_mul (A B : NN) : dt (mul3 A B) = dt A * dt B := by
  unfold dt mul3 det3
  generalize A 0 0 = a0; generalize A 0 1 = a1; generalize A 0 2 = a2; generalize A 1 0 = a3; generalize A 1 1 = a4; generalize A 1 2 = a5; generalize A 2 0 = a6; generalize A 2 1 = a7; generalize A 2 2 = a8
  generalize B 0 0 = b0; generalize B 0 1 = b1; generalize B 0 2 = b2; generalize B 1 0 = b3; generalize B 1 1 = b4; generalize B 1 2 = b5; generalize B 2 0 = b6; generalize B 2 1 = b7; generalize B 2 2 = b8
  grind
/-- the determinant of a product, for matrices with zeros behind n -/
theorem dtL_mul {A B : NN} {n : Nat} (n1 : 1 ≤ n) (n3 : n ≤ 3) (hA : ∀ i k, n ≤ k → A i k = 0) : dtL (mul3 A B) n = dtL A n * dtL B n := by
  have c : n = 1 ∨ n = 2 ∨ n = 3 := by omega
  rcases c with rfl | rfl | rfl
  · show A 0 0 * B 0 0 + A 0 1 * B 1 0 + A 0 2 * B 2 0 = A 0 0 * B 0 0
    rw [hA 0 1 (by omega), hA 0 2 (by omega)]
    omega
  · show (A 0 0 * B 0 0 + A 0 1 * B 1 0 + A 0 2 * B 2 0) * (A 1 0 * B 0 1 + A 1 1 * B 1 1 + A 1 2 * B 2 1) - (A 1 0 * B 0 0 + A 1 1 * B 1 0 + A 1 2 * B 2 0) * (A 0 0 * B 0 1 + A 0 1 * B 1 1 + A 0 2 * B 2 1) = (A 0 0 * A 1 1 - A 1 0 * A 0 1) * (B 0 0 * B 1 1 - B 1 0 * B 0 1)
    rw [hA 0 2 (by omega), hA 1 2 (by omega)]
    grind
  · exact dt_mul A B
theorem dtL_dl {n : Nat} (n1 : 1 ≤ n) (n3 : n ≤ 3) : dtL (dl n) n = 1 := by
  have c : n = 1 ∨ n = 2 ∨ n = 3 := by omega
  rcases c with rfl | rfl | rfl <;> rfl
theorem natAbs_one {a b : Int} (h : a * b = 1) : a.natAbs = 1 := by
  have := congrArg Int.natAbs h
  rw [Int.natAbs_mul] at this
  exact Nat.eq_one_of_mul_eq_one_right this
theorem det_unit {X : Mx} {n : Nat} (R : Rect X n n) (n1 : 1 ≤ n) (n3 : n ≤ 3) (S : Surj (fn2 X) n) : (detL X n).natAbs = 1 := by
  obtain ⟨W, hW⟩ := surj_inv R S
  have := dtL_mul (A := fn2 X) (B := W) n1 n3 fun i k h => at_out R (by omega)
  rw [hW, dtL_dl n1 n3] at this
  rw [det_fn]
  exact natAbs_one this.symm
def ddP (P : Mx) (n : Nat) : Int → Int → Int := fun i k => detL (minorL P k.toNat i.toNat) (n - 1)
abbrev invM (P : Mx) (n : Nat) : Mx := scaleM (detL P n) (adjM n (ddP P n))
theorem inv_rect (P : Mx) (n : Nat) : Rect (invM P n) n n := scale_rect (adj_rect ..)
theorem inv3 {a b c d e f g h i D : Int} {p q : NN} (hD : a * (e * i - f * h) - b * (d * i - f * g) + c * (d * h - e * g) = D) (dd : D * D = 1) (p00 : p 0 0 = a) (q00 : q 0 0 = D * (e * i - h * f)) (p01 : p 0 1 = b) (q01 : q 0 1 = D * (-(b * i - h * c))) (p02 : p 0 2 = c) (q02 : q 0 2 = D * (b * f - e * c)) (p10 : p 1 0 = d) (q10 : q 1 0 = D * (-(d * i - g * f))) (p11 : p 1 1 = e) (q11 : q 1 1 = D * (a * i - g * c)) (p12 : p 1 2 = f) (q12 : q 1 2 = D * (-(a * f - d * c))) (p20 : p 2 0 = g) (q20 : q 2 0 = D * (d * h - g * e)) (p21 : p 2 1 = h) (q21 : q 2 1 = D * (-(a * h - g * b))) (p22 : p 2 2 = i) (q22 : q 2 2 = D * (a * e - d * b)) : ∀ r s, r < 3 → s < 3 → mul3 q p r s = dl 3 r s ∧ mul3 p q r s = dl 3 r s := by
  have e00 : (e * i - h * f) * a + (-(b * i - h * c)) * d + (b * f - e * c) * g = D := by rw [← hD]; grind
  have f00 : a * (e * i - h * f) + b * (-(d * i - g * f)) + c * (d * h - g * e) = D := by rw [← hD]; grind
  have x00 : mul3 q p 0 0 = dl 3 0 0 := by
    show q 0 0 * p 0 0 + q 0 1 * p 1 0 + q 0 2 * p 2 0 = _
    rw [q00, q01, q02, p00, p10, p20, Int.mul_assoc, Int.mul_assoc, Int.mul_assoc, ← Int.mul_add, ← Int.mul_add, e00]
    exact dd
  have y00 : mul3 p q 0 0 = dl 3 0 0 := by
    show p 0 0 * q 0 0 + p 0 1 * q 1 0 + p 0 2 * q 2 0 = _
    rw [p00, p01, p02, q00, q10, q20, Int.mul_left_comm a D (e * i - h * f), Int.mul_left_comm b D (-(d * i - g * f)), Int.mul_left_comm c D (d * h - g * e), ← Int.mul_add, ← Int.mul_add, f00]
    exact dd
  have e01 : (e * i - h * f) * b + (-(b * i - h * c)) * e + (b * f - e * c) * h = 0 := by grind
  have f01 : a * (-(b * i - h * c)) + b * (a * i - g * c) + c * (-(a * h - g * b)) = 0 := by grind
  have x01 : mul3 q p 0 1 = dl 3 0 1 := by
    show q 0 0 * p 0 1 + q 0 1 * p 1 1 + q 0 2 * p 2 1 = _
    rw [q00, q01, q02, p01, p11, p21, Int.mul_assoc, Int.mul_assoc, Int.mul_assoc, ← Int.mul_add, ← Int.mul_add, e01]
    exact Int.mul_zero D
  have y01 : mul3 p q 0 1 = dl 3 0 1 := by
    show p 0 0 * q 0 1 + p 0 1 * q 1 1 + p 0 2 * q 2 1 = _
    rw [p00, p01, p02, q01, q11, q21, Int.mul_left_comm a D (-(b * i - h * c)), Int.mul_left_comm b D (a * i - g * c), Int.mul_left_comm c D (-(a * h - g * b)), ← Int.mul_add, ← Int.mul_add, f01]
    exact Int.mul_zero D
  have e02 : (e * i - h * f) * c + (-(b * i - h * c)) * f + (b * f - e * c) * i = 0 := by grind
  have f02 : a * (b * f - e * c) + b * (-(a * f - d * c)) + c * (a * e - d * b) = 0 := by grind
  have x02 : mul3 q p 0 2 = dl 3 0 2 := by
    show q 0 0 * p 0 2 + q 0 1 * p 1 2 + q 0 2 * p 2 2 = _
    rw [q00, q01, q02, p02, p12, p22, Int.mul_assoc, Int.mul_assoc, Int.mul_assoc, ← Int.mul_add, ← Int.mul_add, e02]
    exact Int.mul_zero D
  have y02 : mul3 p q 0 2 = dl 3 0 2 := by
    show p 0 0 * q 0 2 + p 0 1 * q 1 2 + p 0 2 * q 2 2 = _
    rw [p00, p01, p02, q02, q12, q22, Int.mul_left_comm a D (b * f - e * c), Int.mul_left_comm b D (-(a * f - d * c)), Int.mul_left_comm c D (a * e - d * b), ← Int.mul_add, ← Int.mul_add, f02]
    exact Int.mul_zero D
  have e10 : (-(d * i - g * f)) * a + (a * i - g * c) * d + (-(a * f - d * c)) * g = 0 := by grind
  have f10 : d * (e * i - h * f) + e * (-(d * i - g * f)) + f * (d * h - g * e) = 0 := by grind
  have x10 : mul3 q p 1 0 = dl 3 1 0 := by
    show q 1 0 * p 0 0 + q 1 1 * p 1 0 + q 1 2 * p 2 0 = _
    rw [q10, q11, q12, p00, p10, p20, Int.mul_assoc, Int.mul_assoc, Int.mul_assoc, ← Int.mul_add, ← Int.mul_add, e10]
    exact Int.mul_zero D
  have y10 : mul3 p q 1 0 = dl 3 1 0 := by
    show p 1 0 * q 0 0 + p 1 1 * q 1 0 + p 1 2 * q 2 0 = _
    rw [p10, p11, p12, q00, q10, q20, Int.mul_left_comm d D (e * i - h * f), Int.mul_left_comm e D (-(d * i - g * f)), Int.mul_left_comm f D (d * h - g * e), ← Int.mul_add, ← Int.mul_add, f10]
    exact Int.mul_zero D
  have e11 : (-(d * i - g * f)) * b + (a * i - g * c) * e + (-(a * f - d * c)) * h = D := by rw [← hD]; grind
  have f11 : d * (-(b * i - h * c)) + e * (a * i - g * c) + f * (-(a * h - g * b)) = D := by rw [← hD]; grind
  have x11 : mul3 q p 1 1 = dl 3 1 1 := by
    show q 1 0 * p 0 1 + q 1 1 * p 1 1 + q 1 2 * p 2 1 = _
    rw [q10, q11, q12, p01, p11, p21, Int.mul_assoc, Int.mul_assoc, Int.mul_assoc, ← Int.mul_add, ← Int.mul_add, e11]
    exact dd
  have y11 : mul3 p q 1 1 = dl 3 1 1 := by
    show p 1 0 * q 0 1 + p 1 1 * q 1 1 + p 1 2 * q 2 1 = _
    rw [p10, p11, p12, q01, q11, q21, Int.mul_left_comm d D (-(b * i - h * c)), Int.mul_left_comm e D (a * i - g * c), Int.mul_left_comm f D (-(a * h - g * b)), ← Int.mul_add, ← Int.mul_add, f11]
    exact dd
  have e12 : (-(d * i - g * f)) * c + (a * i - g * c) * f + (-(a * f - d * c)) * i = 0 := by grind
  have f12 : d * (b * f - e * c) + e * (-(a * f - d * c)) + f * (a * e - d * b) = 0 := by grind
  have x12 : mul3 q p 1 2 = dl 3 1 2 := by
    show q 1 0 * p 0 2 + q 1 1 * p 1 2 + q 1 2 * p 2 2 = _
    rw [q10, q11, q12, p02, p12, p22, Int.mul_assoc, Int.mul_assoc, Int.mul_assoc, ← Int.mul_add, ← Int.mul_add, e12]
    exact Int.mul_zero D
  have y12 : mul3 p q 1 2 = dl 3 1 2 := by
    show p 1 0 * q 0 2 + p 1 1 * q 1 2 + p 1 2 * q 2 2 = _
    rw [p10, p11, p12, q02, q12, q22, Int.mul_left_comm d D (b * f - e * c), Int.mul_left_comm e D (-(a * f - d * c)), Int.mul_left_comm f D (a * e - d * b), ← Int.mul_add, ← Int.mul_add, f12]
    exact Int.mul_zero D
  have e20 : (d * h - g * e) * a + (-(a * h - g * b)) * d + (a * e - d * b) * g = 0 := by grind
  have f20 : g * (e * i - h * f) + h * (-(d * i - g * f)) + i * (d * h - g * e) = 0 := by grind
  have x20 : mul3 q p 2 0 = dl 3 2 0 := by
    show q 2 0 * p 0 0 + q 2 1 * p 1 0 + q 2 2 * p 2 0 = _
    rw [q20, q21, q22, p00, p10, p20, Int.mul_assoc, Int.mul_assoc, Int.mul_assoc, ← Int.mul_add, ← Int.mul_add, e20]
    exact Int.mul_zero D
  have y20 : mul3 p q 2 0 = dl 3 2 0 := by
    show p 2 0 * q 0 0 + p 2 1 * q 1 0 + p 2 2 * q 2 0 = _
    rw [p20, p21, p22, q00, q10, q20, Int.mul_left_comm g D (e * i - h * f), Int.mul_left_comm h D (-(d * i - g * f)), Int.mul_left_comm i D (d * h - g * e), ← Int.mul_add, ← Int.mul_add, f20]
    exact Int.mul_zero D
  have e21 : (d * h - g * e) * b + (-(a * h - g * b)) * e + (a * e - d * b) * h = 0 := by grind
  have f21 : g * (-(b * i - h * c)) + h * (a * i - g * c) + i * (-(a * h - g * b)) = 0 := by grind
  have x21 : mul3 q p 2 1 = dl 3 2 1 := by
    show q 2 0 * p 0 1 + q 2 1 * p 1 1 + q 2 2 * p 2 1 = _
    rw [q20, q21, q22, p01, p11, p21, Int.mul_assoc, Int.mul_assoc, Int.mul_assoc, ← Int.mul_add, ← Int.mul_add, e21]
    exact Int.mul_zero D
  have y21 : mul3 p q 2 1 = dl 3 2 1 := by
    show p 2 0 * q 0 1 + p 2 1 * q 1 1 + p 2 2 * q 2 1 = _
    rw [p20, p21, p22, q01, q11, q21, Int.mul_left_comm g D (-(b * i - h * c)), Int.mul_left_comm h D (a * i - g * c), Int.mul_left_comm i D (-(a * h - g * b)), ← Int.mul_add, ← Int.mul_add, f21]
    exact Int.mul_zero D
  have e22 : (d * h - g * e) * c + (-(a * h - g * b)) * f + (a * e - d * b) * i = D := by rw [← hD]; grind
  have f22 : g * (b * f - e * c) + h * (-(a * f - d * c)) + i * (a * e - d * b) = D := by rw [← hD]; grind
  have x22 : mul3 q p 2 2 = dl 3 2 2 := by
    show q 2 0 * p 0 2 + q 2 1 * p 1 2 + q 2 2 * p 2 2 = _
    rw [q20, q21, q22, p02, p12, p22, Int.mul_assoc, Int.mul_assoc, Int.mul_assoc, ← Int.mul_add, ← Int.mul_add, e22]
    exact dd
  have y22 : mul3 p q 2 2 = dl 3 2 2 := by
    show p 2 0 * q 0 2 + p 2 1 * q 1 2 + p 2 2 * q 2 2 = _
    rw [p20, p21, p22, q02, q12, q22, Int.mul_left_comm g D (b * f - e * c), Int.mul_left_comm h D (-(a * f - d * c)), Int.mul_left_comm i D (a * e - d * b), ← Int.mul_add, ← Int.mul_add, f22]
    exact dd
  intro r s hr hs
  have cr : r = 0 ∨ r = 1 ∨ r = 2 := by omega
  have cs : s = 0 ∨ s = 1 ∨ s = 2 := by omega
  rcases cr with rfl | rfl | rfl <;> rcases cs with rfl | rfl | rfl
  · exact ⟨x00, y00⟩
  · exact ⟨x01, y01⟩
  · exact ⟨x02, y02⟩
  · exact ⟨x10, y10⟩
  · exact ⟨x11, y11⟩
  · exact ⟨x12, y12⟩
  · exact ⟨x20, y20⟩
  · exact ⟨x21, y21⟩
  · exact ⟨x22, y22⟩
theorem inv_mul {P : Mx} {n : Nat} (R : Rect P n n) (n1 : 1 ≤ n) (n3 : n ≤ 3) (hd : (detL P n).natAbs = 1) : mul3 (fn2 (invM P n)) (fn2 P) = dl n ∧ mul3 (fn2 P) (fn2 (invM P n)) = dl n := by
  have dd : detL P n * detL P n = 1 := by
    have : detL P n = 1 ∨ detL P n = -1 := by omega
    rcases this with h | h <;> rw [h] <;> rfl
  have out : ∀ i j, ¬ (i < n ∧ j < n) → mul3 (fn2 (invM P n)) (fn2 P) i j = dl n i j ∧ mul3 (fn2 P) (fn2 (invM P n)) i j = dl n i j := fun i j h => by
    have hdl : dl n i j = 0 := by unfold dl; rw [if_neg (by omega)]
    rw [hdl]
    unfold mul3
    by_cases hi : i < n
    · have z1 : ∀ k, fn2 P k j = 0 := fun k => at_out R (by omega)
      have z2 : ∀ k, fn2 (invM P n) k j = 0 := fun k => at_out (inv_rect P n) (by omega)
      simp [z1, z2]
    · have z1 : ∀ k, fn2 P i k = 0 := fun k => at_out R (by omega)
      have z2 : ∀ k, fn2 (invM P n) i k = 0 := fun k => at_out (inv_rect P n) (by omega)
      simp [z1, z2]
  have inn : ∀ i j, i < n → j < n → mul3 (fn2 (invM P n)) (fn2 P) i j = dl n i j ∧ mul3 (fn2 P) (fn2 (invM P n)) i j = dl n i j := by
    have c : n = 1 ∨ n = 2 ∨ n = 3 := by omega
    rcases c with rfl | rfl | rfl
    · obtain ⟨a, rfl⟩ := rect1 R
      have hD : detL [[a]] 1 = a := rfl
      have e : invM [[a]] 1 = [[a]] := by
        have e1 : ddP [[a]] 1 0 0 = 1 := rfl
        unfold invM
        rw [hD]
        simp [scaleM, adjM, rg1, e1, Int.fmod]
      rw [e]
      rw [hD] at dd
      intro i j hi hj
      have : i = 0 := by omega
      have : j = 0 := by omega
      subst i j
      constructor <;> (show a * a + 0 * 0 + 0 * 0 = 1; omega)
    · obtain ⟨a, b, c, d, rfl⟩ := rect2 R
      have hD : detL [[a, b], [c, d]] 2 = a * d - c * b := rfl
      rw [hD] at dd
      have e : invM [[a, b], [c, d]] 2 = [[(a * d - c * b) * d, (a * d - c * b) * -b], [(a * d - c * b) * -c, (a * d - c * b) * a]] := by
        have e1 : ddP [[a, b], [c, d]] 2 0 0 = d := rfl
        have e2 : ddP [[a, b], [c, d]] 2 0 1 = b := rfl
        have e3 : ddP [[a, b], [c, d]] 2 1 0 = c := rfl
        have e4 : ddP [[a, b], [c, d]] 2 1 1 = a := rfl
        unfold invM
        rw [hD]
        simp [scaleM, adjM, rg2, e1, e2, e3, e4, Int.fmod]
      rw [e]
      intro i j hi hj
      have ci : i = 0 ∨ i = 1 := by omega
      have cj : j = 0 ∨ j = 1 := by omega
      rcases ci with rfl | rfl <;> rcases cj with rfl | rfl <;> (simp [mul3, fn2, at2, dl]; constructor <;> grind)
    · obtain ⟨a, b, c, d, e, f, g, h, i, rfl⟩ := rect3 R
      generalize hD : detL [[a, b, c], [d, e, f], [g, h, i]] 3 = D at *
      have hD2 : a * (e * i - f * h) - b * (d * i - f * g) + c * (d * h - e * g) = D := hD
      have q : invM [[a, b, c], [d, e, f], [g, h, i]] 3 = [[D * (e * i - h * f), D * -(b * i - h * c), D * (b * f - e * c)], [D * -(d * i - g * f), D * (a * i - g * c), D * -(a * f - d * c)], [D * (d * h - g * e), D * -(a * h - g * b), D * (a * e - d * b)]] := by
        have e1 : ddP [[a, b, c], [d, e, f], [g, h, i]] 3 0 0 = e * i - h * f := rfl
        have e2 : ddP [[a, b, c], [d, e, f], [g, h, i]] 3 0 1 = b * i - h * c := rfl
        have e3 : ddP [[a, b, c], [d, e, f], [g, h, i]] 3 0 2 = b * f - e * c := rfl
        have e4 : ddP [[a, b, c], [d, e, f], [g, h, i]] 3 1 0 = d * i - g * f := rfl
        have e5 : ddP [[a, b, c], [d, e, f], [g, h, i]] 3 1 1 = a * i - g * c := rfl
        have e6 : ddP [[a, b, c], [d, e, f], [g, h, i]] 3 1 2 = a * f - d * c := rfl
        have e7 : ddP [[a, b, c], [d, e, f], [g, h, i]] 3 2 0 = d * h - g * e := rfl
        have e8 : ddP [[a, b, c], [d, e, f], [g, h, i]] 3 2 1 = a * h - g * b := rfl
        have e9 : ddP [[a, b, c], [d, e, f], [g, h, i]] 3 2 2 = a * e - d * b := rfl
        unfold invM
        rw [hD]
        simp [scaleM, adjM, rg3, e1, e2, e3, e4, e5, e6, e7, e8, e9, Int.fmod]
      rw [q]
      exact inv3 (p := fn2 [[a, b, c], [d, e, f], [g, h, i]]) hD2 dd rfl rfl rfl rfl rfl rfl rfl rfl rfl rfl rfl rfl rfl rfl rfl rfl rfl rfl
  constructor
  · funext i j
    by_cases h : i < n ∧ j < n
    · exact (inn i j h.1 h.2).1
    · exact (out i j h).1
  · funext i j
    by_cases h : i < n ∧ j < n
    · exact (inn i j h.1 h.2).2
    · exact (out i j h).2
theorem inv_bd {P : Mx} {n : Nat} (n3 : n ≤ 3) (hd : (detL P n).natAbs = 1) (b : BdM P 17) : BdM (invM P n) 29478 := fun r hr x hx => by
  obtain ⟨q, hq, rfl⟩ := List.mem_map.mp hr
  obtain ⟨y, hy, rfl⟩ := List.mem_map.mp hx
  obtain ⟨i, _, rfl⟩ := List.mem_map.mp hq
  obtain ⟨j, _, rfl⟩ := List.mem_map.mp hy
  rw [Int.natAbs_mul, hd, Nat.one_mul]
  have : (ddP P n i j).natAbs ≤ 29478 := detLB (B := 17) (by decide) fun a c => (b.minor _ _).at a c
  split
  · rw [Int.natAbs_neg]; exact this
  · exact this
theorem mul_row {X : Mx} {n : Nat} (R : Rect X n n) (n1 : 1 ≤ n) (n3 : n ≤ 3) {r : List Int} (hr : r.length = n) : ((turned X n).map fun c => dotI r c) = act X n r := by
  have c : n = 1 ∨ n = 2 ∨ n = 3 := by omega
  rcases c with rfl | rfl | rfl
  · obtain ⟨a, rfl⟩ := rect1 R
    obtain ⟨x, rfl⟩ := len1 hr
    simp [turned, rg1, dotI, act, cf, at2, List.range_succ]
  · obtain ⟨a, b, c, d, rfl⟩ := rect2 R
    obtain ⟨x, y, rfl⟩ := len2 hr
    simp [turned, rg2, dotI, act, cf, at2, List.range_succ]
  · obtain ⟨a, b, c, d, e, f, g, h, i, rfl⟩ := rect3 R
    obtain ⟨x, y, z, rfl⟩ := len3 hr
    simp [turned, rg3, dotI, act, cf, at2, List.range_succ]
    grind
theorem mulM_act {X Q : Mx} {n : Nat} (R : Rect X n n) (RQ : Rect Q n n) (n1 : 1 ≤ n) (n3 : n ≤ 3) : mulM Q X n = Q.map (act X n) := by
  unfold mulM
  exact List.map_congr_left fun r hr => mul_row R n1 n3 (RQ.w r hr)
/-! ### all_maps -/
structure MapsFacts (m1 m2 : Mx) (n : Nat) (fs1 fs2 : List Mx) (P : Mx) (M : List Mx) : Prop where
  i : MapsIs m1 m2 n M
  p : P ∈ fs1
  l : M.length = fs2.length
  m : ∀ Y, Y ∈ M ↔ ∃ X ∈ fs2, Y = (invM P n).map (act X n)
  o : ∀ (k : Nat) (A B : Mx), M[k]? = some A → M[k + 1]? = some B → DatumOrd.lt (toTT A) (toTT B) = true
  v1 : mul3 (fn2 (invM P n)) (fn2 P) = dl n
  v2 : mul3 (fn2 P) (fn2 (invM P n)) = dl n
  vb : BdM (invM P n) 29478
theorem leTT_sorted (xs : List Mx) : (xs.mergeSort leTT).Pairwise fun a b => leTT a b = true :=
  List.pairwise_mergeSort (fun a b c h1 h2 => lin_TT.dle_tr (toTT a) (toTT b) (toTT c) h1 h2) (fun a b => lin_TT.dle_tot (toTT a) (toTT b)) xs
theorem maps_gen {m1 m2 g1 U1 V1 g2 U2 V2 : Mx} {n : Nat} (M1 : Mv m1 n g1 U1 V1) (M2 : Mv m2 n g2 U2 V2) {out1 out2 : List Lv} {fs1 fs2 : List Mx} (F1 : Fin m1 n out1 fs1) (F2 : Fin m2 n out2 fs2) (e : out1.map (·.1) = out2.map (·.1)) : ∃ P M, MapsFacts m1 m2 n fs1 fs2 P M := by
  have n1 := M1.gd.n1
  have n3 := M1.gd.n3
  obtain ⟨P, rest, hfs⟩ : ∃ P rest, fs1 = P :: rest := by
    cases h : fs1 with
    | nil => exact absurd h F1.ne
    | cons a b => exact ⟨a, b, rfl⟩
  have hP : P ∈ fs1 := by rw [hfs]; exact List.mem_cons_self ..
  have fP := F1.x P hP
  have RP : Rect P n n := ⟨fP.l, fP.r⟩
  have hd := det_unit RP n1 n3 fP.s
  have bP : BdM P 17 := fun r hr x hx => M1.lt.small (fP.r r hr) (F1.b P hP r hr) x hx
  obtain ⟨v1, v2⟩ := inv_mul RP n1 n3 hd
  have vb := inv_bd n3 hd bP
  have RX : ∀ X ∈ fs2, Rect X n n := fun X hX => ⟨(F2.x X hX).l, (F2.x X hX).r⟩
  have em : ∀ X ∈ fs2, mulM (invM P n) X n = (invM P n).map (act X n) := fun X hX => mulM_act (RX X hX) (inv_rect P n) n1 n3
  have inj : ∀ X ∈ fs2, ∀ Y ∈ fs2, mulM (invM P n) X n = mulM (invM P n) Y n → X = Y := fun X hX Y hY h => by
    rw [em X hX, em Y hY] at h
    have h2 := congrArg fn2 h
    rw [fn2_act (RX X hX), fn2_act (RX Y hY)] at h2
    have h3 : mul3 (fn2 P) (mul3 (fn2 (invM P n)) (fn2 X)) = mul3 (fn2 P) (mul3 (fn2 (invM P n)) (fn2 Y)) := by rw [h2]
    rw [← mul3_assoc, ← mul3_assoc, v2, dl_mul (RX X hX) n3, dl_mul (RX Y hY) n3] at h3
    exact rect_ext2 (RX X hX) (RX Y hY) h3
  have nd : (fs2.map fun X => mulM (invM P n) X n).Nodup := nodup_map inj F2.nd
  have pm : ((fs2.map fun X => mulM (invM P n) X n).mergeSort leTT).Perm (fs2.map fun X => mulM (invM P n) X n) := List.mergeSort_perm ..
  refine ⟨P, (fs2.map fun X => mulM (invM P n) X n).mergeSort leTT, ⟨⟨M1.R.h, M2.R.h, gramM (out1.map (·.1)) n, gramM (out2.map (·.1)) n, M1.form F1, M2.form F2, fun h => absurd (by rw [e]) h, fun _ => ⟨fs1, fs2, P, detL P n, ddP P n, F1.bases, F2.bases, by rw [hfs]; rfl, by omega, n1, bare_ex RP n3 fun i k => Nat.le_trans (bP.at i k) (by decide), hd, fun i k hi hk => ?_, vb.sm (by decide), nd, rfl⟩⟩, hP, by rw [pm.length_eq, List.length_map], fun Y => ?_, fun k A B hA hB => ?_, v1, v2, vb⟩⟩
  · exact bare_ex (minor_rect RP (by omega) (by omega)) (by omega) fun a c => Nat.le_trans ((bP.minor _ _).at a c) (by decide)
  · rw [pm.mem_iff, List.mem_map]
    constructor
    · rintro ⟨X, hX, rfl⟩
      exact ⟨X, hX, em X hX⟩
    · rintro ⟨X, hX, rfl⟩
      exact ⟨X, hX, em X hX⟩
  · have so := leTT_sorted (fs2.map fun X => mulM (invM P n) X n)
    have nd2 := pm.nodup_iff.mpr nd
    obtain ⟨lA, eA⟩ := List.getElem?_eq_some_iff.mp hA
    obtain ⟨lB, eB⟩ := List.getElem?_eq_some_iff.mp hB
    have h1 := (List.pairwise_iff_getElem.mp so) k (k + 1) lA lB (by omega)
    have h2 := (List.pairwise_iff_getElem.mp nd2) k (k + 1) lA lB (by omega)
    rw [eA, eB] at h1 h2
    exact lin_TT.strict h1 fun z => h2 (toTT_inj2 z)
/-- where the least matrices are unlike, there is none -/
theorem maps_none {m1 m2 g1 U1 V1 g2 U2 V2 : Mx} {n : Nat} (M1 : Mv m1 n g1 U1 V1) (M2 : Mv m2 n g2 U2 V2) {out1 out2 : List Lv} {fs1 fs2 : List Mx} (F1 : Fin m1 n out1 fs1) (F2 : Fin m2 n out2 fs2) (e : gramM (out1.map (·.1)) n ≠ gramM (out2.map (·.1)) n) : MapsIs m1 m2 n [] :=
  ⟨M1.R.h, M2.R.h, _, _, M1.form F1, M2.form F2, fun _ => rfl, fun h => absurd h e⟩
end K24
set_option Elab.async false
set_option linter.all false
set_option maxRecDepth 100000
set_option maxHeartbeats 4000000
set_option autoImplicit false
namespace K24
open PySem PySem.Spec PyProof.Rows L2
open PySem.W (Datum DatumOrd Holds HoldAll Tup)
/-! ### matrices with a heavy diagonal -/
def ab (x : Int) : Int := (x.natAbs : Int)
theorem ab_nn (x : Int) : 0 ≤ ab x := by unfold ab; omega
theorem cross {b x y : Int} (h : -1 ≤ b ∧ b ≤ 1) : 0 ≤ ab b * (x * x) + ab b * (y * y) + 2 * (b * x * y) := by
  have c : b = -1 ∨ b = 0 ∨ b = 1 := by omega
  rcases c with rfl | rfl | rfl
  · have e : ab (-1) * (x * x) + ab (-1) * (y * y) + 2 * (-1 * x * y) = (x - y) * (x - y) := by
      rw [show ab (-1) = 1 from rfl]; grind
    rw [e]; exact sqn _
  · rw [show ab 0 = 0 from rfl]; simp
  · have e : ab 1 * (x * x) + ab 1 * (y * y) + 2 * (1 * x * y) = (x + y) * (x + y) := by
      rw [show ab 1 = 1 from rfl]; grind
    rw [e]; exact sqn _
theorem heavy {a s x : Int} (h : x = 0 ∨ s ≤ a) : s * (x * x) ≤ a * (x * x) := by
  rcases h with h | h
  · rw [h]; simp
  · exact Int.mul_le_mul_of_nonneg_right h (sqn x)
def nm (a b c d e f x y z : Int) : Int := a * (x * x) + d * (y * y) + f * (z * z) + 2 * (b * x * y) + 2 * (c * x * z) + 2 * (e * y * z)
theorem dom1 {a b c d e f x y z : Int} (hb : -1 ≤ b ∧ b ≤ 1) (hc : -1 ≤ c ∧ c ≤ 1) (he : -1 ≤ e ∧ e ≤ 1) (h0 : x = 0 ∨ 1 + ab b + ab c ≤ a) (h1 : y = 0 ∨ 1 + ab b + ab e ≤ d) (h2 : z = 0 ∨ 1 + ab c + ab e ≤ f) : x * x + y * y + z * z ≤ nm a b c d e f x y z := by
  have k0 := heavy h0
  have k1 := heavy h1
  have k2 := heavy h2
  have c1 := cross (x := x) (y := y) hb
  have c2 := cross (x := x) (y := z) hc
  have c3 := cross (x := y) (y := z) he
  rw [Int.add_mul, Int.add_mul, Int.one_mul] at k0 k1 k2
  unfold nm
  omega
theorem dom2 {a b c d e f x y z : Int} (hb : -1 ≤ b ∧ b ≤ 1) (hc : -1 ≤ c ∧ c ≤ 1) (he : -1 ≤ e ∧ e ≤ 1) (h0 : 1 + ab b + ab c ≤ a) (h1 : y = 0 ∨ 1 + ab b + ab e ≤ d) (h2 : z = 0 ∨ 1 + ab c + ab e ≤ f) (hx : x ≠ 0) (hn : nm a b c d e f x y z ≤ a) : x * x + y * y + z * z ≤ 3 := by
  have k1 := heavy h1
  have k2 := heavy h2
  have c1 := cross (x := x) (y := y) hb
  have c2 := cross (x := x) (y := z) hc
  have c3 := cross (x := y) (y := z) he
  have x1 : 1 ≤ x * x := by
    have := sqn x
    have : x * x ≠ 0 := fun e => (Int.mul_eq_zero.mp e).elim hx hx
    omega
  have k0 : (a - (1 + ab b + ab c)) * 1 ≤ (a - (1 + ab b + ab c)) * (x * x) := Int.mul_le_mul_of_nonneg_left x1 (by omega)
  rw [Int.add_mul, Int.add_mul, Int.one_mul] at k1 k2
  rw [Int.mul_one, Int.sub_mul, Int.add_mul, Int.add_mul, Int.one_mul] at k0
  unfold nm at hn
  have : ab b ≤ 1 := by unfold ab; omega
  have : ab c ≤ 1 := by unfold ab; omega
  omega
theorem domU {a b c d e f x y z : Int} (hb : -1 ≤ b ∧ b ≤ 1) (hc : -1 ≤ c ∧ c ≤ 1) (he : -1 ≤ e ∧ e ≤ 1) (h0 : x = 0 ∨ a + ab b + ab c ≤ 7) (h1 : y = 0 ∨ d + ab b + ab e ≤ 7) (h2 : z = 0 ∨ f + ab c + ab e ≤ 7) : nm a b c d e f x y z ≤ 7 * (x * x + y * y + z * z) := by
  have k0 := heavy h0
  have k1 := heavy h1
  have k2 := heavy h2
  have c1 := cross (b := -b) (x := x) (y := y) (by omega)
  have c2 := cross (b := -c) (x := x) (y := z) (by omega)
  have c3 := cross (b := -e) (x := y) (y := z) (by omega)
  have n1 : ∀ x, ab (-x) = ab x := fun x => by unfold ab; omega
  rw [n1, Int.neg_mul, Int.neg_mul] at c1 c2 c3
  rw [Int.add_mul, Int.add_mul] at k0 k1 k2
  unfold nm
  omega
structure Dk (g : Mx) (n : Nat) : Prop where
  R : Rect g n n
  n1 : 1 ≤ n
  n3 : n ≤ 3
  sy : ∀ i k : Nat, at2 g i k = at2 g k i
  off : ∀ i k : Nat, i ≠ k → -1 ≤ at2 g i k ∧ at2 g i k ≤ 1
  d0 : 1 + ab (at2 g 0 1) + ab (at2 g 0 2) ≤ at2 g 0 0
  d1 : 1 < n → 1 + ab (at2 g 0 1) + ab (at2 g 1 2) ≤ at2 g 1 1
  d2 : 2 < n → 1 + ab (at2 g 0 2) + ab (at2 g 1 2) ≤ at2 g 2 2
  u : ∀ i : Nat, i < n → at2 g i i ≤ 8
theorem pad_nm {g : Mx} (sy : ∀ i k : Nat, at2 g i k = at2 g k i) (v : List Int) : pad g v v = nm (at2 g 0 0) (at2 g 0 1) (at2 g 0 2) (at2 g 1 1) (at2 g 1 2) (at2 g 2 2) (cf v 0) (cf v 1) (cf v 2) := by
  unfold pad nm
  rw [show at2 g ((1 : Nat) : Int) ((0 : Nat) : Int) = at2 g 0 1 from sy 1 0, show at2 g ((2 : Nat) : Int) ((0 : Nat) : Int) = at2 g 0 2 from sy 2 0, show at2 g ((2 : Nat) : Int) ((1 : Nat) : Int) = at2 g 1 2 from sy 2 1]
  show cf v 0 * (at2 g 0 0 * cf v 0 + at2 g 0 1 * cf v 1 + at2 g 0 2 * cf v 2) + cf v 1 * (at2 g 0 1 * cf v 0 + at2 g 1 1 * cf v 1 + at2 g 1 2 * cf v 2) + cf v 2 * (at2 g 0 2 * cf v 0 + at2 g 1 2 * cf v 1 + at2 g 2 2 * cf v 2) = _
  generalize at2 g 0 0 = m00; generalize at2 g 0 1 = m01; generalize at2 g 0 2 = m02; generalize at2 g 1 1 = m11; generalize at2 g 1 2 = m12; generalize at2 g 2 2 = m22
  generalize cf v 0 = x; generalize cf v 1 = y; generalize cf v 2 = z
  grind
theorem Dk.h {g : Mx} {n : Nat} (D : Dk g n) {v : List Int} (hv : v.length = n) : (cf v 1 = 0 ∨ 1 + ab (at2 g 0 1) + ab (at2 g 1 2) ≤ at2 g 1 1) ∧ (cf v 2 = 0 ∨ 1 + ab (at2 g 0 2) + ab (at2 g 1 2) ≤ at2 g 2 2) := by
  constructor
  · by_cases c : 1 < n
    · exact .inr (D.d1 c)
    · exact .inl (cf_out (by omega))
  · by_cases c : 2 < n
    · exact .inr (D.d2 c)
    · exact .inl (cf_out (by omega))
theorem Dk.gd {g : Mx} {n : Nat} (D : Dk g n) : Gd g n := by
  have hb : -1 ≤ at2 g 0 1 ∧ at2 g 0 1 ≤ 1 := D.off 0 1 (by decide)
  have hc : -1 ≤ at2 g 0 2 ∧ at2 g 0 2 ≤ 1 := D.off 0 2 (by decide)
  have he : -1 ≤ at2 g 1 2 ∧ at2 g 1 2 ≤ 1 := D.off 1 2 (by decide)
  refine ⟨D.R, D.n1, D.n3, D.sy, fun x hx => ?_, D.u, fun x hx hn => ?_⟩
  · obtain ⟨h1, h2⟩ := D.h hx
    rw [prod_pad D.R D.n1 D.n3 hx hx, pad_nm D.sy]
    exact dom1 hb hc he (.inr D.d0) h1 h2
  · obtain ⟨h1, h2⟩ := D.h hx
    rw [prod_pad D.R D.n1 D.n3 hx hx, pad_nm D.sy] at hn
    unfold sq3
    by_cases z0 : cf x 0 = 0
    · by_cases z1 : cf x 1 = 0
      · by_cases z2 : cf x 2 = 0
        · rw [z0, z1, z2]; decide
        · have n2 : 2 < n := Classical.byContradiction fun c => z2 (cf_out (by omega))
          have h := hn 2 n2
          have q := dom2 (a := at2 g 2 2) (b := at2 g 0 2) (c := at2 g 1 2) (d := at2 g 0 0) (e := at2 g 0 1) (f := at2 g 1 1) (x := cf x 2) (y := cf x 0) (z := cf x 1) hc he hb (D.d2 n2) (.inl z0) (.inl z1) z2 (Int.le_trans (Int.le_of_eq (by unfold nm; grind)) h)
          omega
      · have n2 : 1 < n := Classical.byContradiction fun c => z1 (cf_out (by omega))
        have h := hn 1 n2
        have q := dom2 (a := at2 g 1 1) (b := at2 g 0 1) (c := at2 g 1 2) (d := at2 g 0 0) (e := at2 g 0 2) (f := at2 g 2 2) (x := cf x 1) (y := cf x 0) (z := cf x 2) hb he hc (D.d1 n2) (.inl z0) (h2.imp id fun h => by omega) z1 (Int.le_trans (Int.le_of_eq (by unfold nm; grind)) h)
        omega
    · exact dom2 hb hc he D.d0 h1 h2 z0 (hn 0 (by have := D.n1; omega))
/-! ### changes of coordinates -/
theorem act_inv {A B : Mx} {n : Nat} (RA : Rect A n n) (RB : Rect B n n) (n3 : n ≤ 3) (h : mul3 (fn2 A) (fn2 B) = dl n) {v : List Int} (hv : v.length = n) : act B n (act A n v) = v := by
  have e : rv (act B n (act A n v)) = rv v := by
    rw [rv_act RB, rv_act RA, mul3_assoc, h]
    funext i j
    unfold mul3 rv dl
    by_cases h0 : i = 0
    · simp only [h0, if_true, reduceIte]
      by_cases hj : j < n
      · have c : j = 0 ∨ j = 1 ∨ j = 2 := by omega
        rcases c with rfl | rfl | rfl <;> simp [hj] <;> omega
      · have q : ∀ k, ¬ (k = j ∧ k < n) := fun k ⟨a, b⟩ => hj (a ▸ b)
        simp [q]
        exact (cf_out (by omega)).symm
    · simp [h0]
  refine cf_ext (by rw [act_len, hv]) fun j _ => ?_
  exact congrFun (congrFun e 0) j
theorem conj_sym {g X : Mx} (sy : ∀ i k : Nat, at2 g i k = at2 g k i) : tp (mul3 (mul3 (fn2 X) (fn2 g)) (tp (fn2 X))) = mul3 (mul3 (fn2 X) (fn2 g)) (tp (fn2 X)) := by
  have msy : tp (fn2 g) = fn2 g := by funext i j; exact sy j i
  rw [tp_mul, tp_mul, tp_tp, msy, mul3_assoc]
theorem Lt.prodB {m : Mx} {n : Nat} (L : Lt m n) {c : Int} {x y : List Int} (hx : x.length = n) (hy : y.length = n) (h1 : pad m x x ≤ c) (h2 : pad m y y ≤ c) : -c ≤ pad m x y ∧ pad m x y ≤ c := by
  have nn : ∀ v : List Int, v.length = n → 0 ≤ pad m v v := fun v hv => by
    have h0 := L.n1
    have := L.kb v hv (cf v 0) (mem_cf (by omega))
    have := sqn (cf v 0)
    rw [← prod_pad L.R L.n1 L.n3 hv hv]
    omega
  have ev : ∀ s : Int, ∀ j, cf (vec n fun j => cf x j + s * cf y j) j = cf x j + s * cf y j := fun s j => by
    rw [cf_vec]
    by_cases h : j < n
    · rw [if_pos h]
    · rw [if_neg h, cf_out (v := x) (by omega), cf_out (v := y) (by omega), Int.mul_zero]; rfl
  have ex : ∀ s : Int, pad m (vec n fun j => cf x j + s * cf y j) (vec n fun j => cf x j + s * cf y j) = pad m x x + 2 * (s * pad m x y) + s * s * pad m y y := fun s => by
    unfold pad
    simp only [ev]
    rw [show at2 m ((1 : Nat) : Int) ((0 : Nat) : Int) = at2 m ((0 : Nat) : Int) ((1 : Nat) : Int) from L.sy 1 0, show at2 m ((2 : Nat) : Int) ((0 : Nat) : Int) = at2 m ((0 : Nat) : Int) ((2 : Nat) : Int) from L.sy 2 0, show at2 m ((2 : Nat) : Int) ((1 : Nat) : Int) = at2 m ((1 : Nat) : Int) ((2 : Nat) : Int) from L.sy 2 1]
    generalize at2 m ((0 : Nat) : Int) ((0 : Nat) : Int) = m00; generalize at2 m ((0 : Nat) : Int) ((1 : Nat) : Int) = m01; generalize at2 m ((0 : Nat) : Int) ((2 : Nat) : Int) = m02; generalize at2 m ((1 : Nat) : Int) ((1 : Nat) : Int) = m11; generalize at2 m ((1 : Nat) : Int) ((2 : Nat) : Int) = m12; generalize at2 m ((2 : Nat) : Int) ((2 : Nat) : Int) = m22
    generalize cf x 0 = x0; generalize cf x 1 = x1; generalize cf x 2 = x2; generalize cf y 0 = y0; generalize cf y 1 = y1; generalize cf y 2 = y2
    grind
  have p1 := nn _ (vec_len n fun j => cf x j + 1 * cf y j)
  have p2 := nn _ (vec_len n fun j => cf x j + (-1) * cf y j)
  rw [ex] at p1 p2
  omega
/-- a matrix in its own coordinates -/
theorem unit_fn {n : Nat} : fn2 (unitM n) = dl n := by
  funext i j
  by_cases h : i < n ∧ j < n
  · have e : (unitM n)[i]? = some ((rng 0 n).map fun k : Int => if decide ((i : Int) = k) = true then (1 : Int) else 0) := by
      unfold unitM
      rw [List.getElem?_map]
      have : (rng 0 (n : Int))[i]? = some (i : Int) := by
        unfold rng
        rw [List.getElem?_map, List.getElem?_range (by omega)]
        simp
      rw [this]
      rfl
    show at2 (unitM n) i j = _
    rw [at_row e]
    unfold cf
    rw [List.getD_eq_getElem?_getD, List.getElem?_map]
    have : (rng 0 (n : Int))[j]? = some (j : Int) := by
      unfold rng
      rw [List.getElem?_map, List.getElem?_range (by omega)]
      simp
    rw [this]
    show (if decide ((i : Int) = (j : Int)) = true then (1 : Int) else 0) = if i = j ∧ i < n then 1 else 0
    by_cases e : i = j
    · rw [if_pos (by simp [e]), if_pos ⟨e, h.1⟩]
    · rw [if_neg (by simp; omega), if_neg (by omega)]
  · have : fn2 (unitM n) i j = 0 := at_out (unit_rect n) h
    rw [this]
    unfold dl
    rw [if_neg (by omega)]
theorem dl_dl {n : Nat} (n3 : n ≤ 3) : mul3 (dl n) (dl n) = dl n := by rw [← unit_fn]; conv => lhs; rw [show mul3 (fn2 (unitM n)) (fn2 (unitM n)) = mul3 (dl n) (fn2 (unitM n)) by rw [unit_fn]]; rw [dl_mul (unit_rect n) n3]
theorem act_unit {n : Nat} (n3 : n ≤ 3) {v : List Int} (hv : v.length = n) : act (unitM n) n v = v := by
  have h : mul3 (fn2 (unitM n)) (fn2 (unitM n)) = dl n := by rw [unit_fn, dl_dl n3]
  have e : rv (act (unitM n) n v) = mul3 (rv v) (dl n) := by rw [rv_act (unit_rect n), unit_fn]
  refine cf_ext (by rw [act_len, hv]) fun j hj => ?_
  rw [act_len] at hj
  have := congrFun (congrFun e 0) j
  unfold mul3 rv dl at this
  simp only [if_true, reduceIte] at this
  rw [this]
  have c : j = 0 ∨ j = 1 ∨ j = 2 := by omega
  rcases c with rfl | rfl | rfl <;> simp [hj] <;> omega
theorem Dk.mv {g : Mx} {n : Nat} (D : Dk g n) (en : BdM g 1000) : Mv g n g (unitM n) (unitM n) := by
  have au : ∀ v : List Int, v.length = n → act (unitM n) n v = v := fun v hv => act_unit D.n3 hv
  refine ⟨D.gd, D.R, unit_rect n, unit_rect n, D.sy, fun v hv => by rw [au v hv, au v hv], fun v hv => by rw [au v hv, au v hv], fun v w hv hw => by rw [au v hv, au w hw], fun i => ?_, ⟨0, by have := D.n1; omega, Int.le_trans (D.u 0 (by have := D.n1; omega)) (by decide)⟩, en⟩
  have h : ∀ k : Nat, at2 (unitM n) k i = dl n k i := fun k => congrFun (congrFun unit_fn k) i
  rw [h, h, h]
  unfold dl
  have q : ∀ k, (if k = i ∧ k < n then (1 : Int) else 0) * (if k = i ∧ k < n then (1 : Int) else 0) ≤ 1 := fun k => by split <;> decide
  have q0 := q 0
  have q1 := q 1
  have q2 := q 2
  omega
end K24
set_option Elab.async false
set_option linter.all false
set_option maxRecDepth 100000
set_option maxHeartbeats 4000000
set_option autoImplicit false
namespace K24
open PySem PySem.Spec PyProof.Rows L2
open PySem.W (Datum DatumOrd Holds HoldAll Tup)
/-! ### the bases that the law draws -/
def sqv (f : Nat → Int) : Int := f 0 * f 0 + f 1 * f 1 + f 2 * f 2
/-- one row within p, the others within q -/
def Nb (f : NN) (p q : Int) : Prop := ∃ i0, ∀ i, sqv (f i) ≤ if i = i0 then p * p else q * q
theorem tri {f g h : Nat → Int} {c p q : Int} (hc : -1 ≤ c ∧ c ≤ 1) (p0 : 0 ≤ p) (q0 : 0 ≤ q) (hf : sqv f ≤ p * p) (hg : sqv g ≤ q * q) (e : ∀ k, h k = f k + c * g k) : sqv h ≤ (p + q) * (p + q) := by
  have cs := cauchy (f 0) (f 1) (f 2) (g 0) (g 1) (g 2) hf hg
  generalize hd : f 0 * g 0 + f 1 * g 1 + f 2 * g 2 = d at *
  have e1 : sqv h = sqv f + 2 * (c * d) + c * c * sqv g := by
    unfold sqv
    rw [e, e, e, ← hd]
    grind
  have hd2 : -(p * q) ≤ d ∧ d ≤ p * q := by
    have pq : 0 ≤ p * q := Int.mul_nonneg p0 q0
    have e2 : p * p * (q * q) = (p * q) * (p * q) := by grind
    rw [e2] at cs
    have : d.natAbs ≤ (p * q).natAbs := by
      apply Classical.byContradiction
      intro n
      have h1 : ((p * q).natAbs + 1) * ((p * q).natAbs + 1) ≤ d.natAbs * d.natAbs := Nat.mul_le_mul (by omega) (by omega)
      have h2 : ((d.natAbs * d.natAbs : Nat) : Int) = d * d := by rw [Int.natCast_mul, Int.natAbs_mul_self']
      have h3 : (((p * q).natAbs * (p * q).natAbs : Nat) : Int) = (p * q) * (p * q) := by rw [Int.natCast_mul, Int.natAbs_mul_self']
      rw [Nat.add_mul, Nat.mul_add] at h1
      omega
    omega
  have e3 : (p + q) * (p + q) = p * p + 2 * (p * q) + q * q := by grind
  have s0 : 0 ≤ sqv g := by
    have := sqn (g 0)
    have := sqn (g 1)
    have := sqn (g 2)
    unfold sqv
    omega
  have cc : c = -1 ∨ c = 0 ∨ c = 1 := by omega
  have pq : 0 ≤ p * q := Int.mul_nonneg p0 q0
  have qq := sqn q
  rcases cc with rfl | rfl | rfl <;> omega
theorem Nb.step {f h : NN} {p q c : Int} {i j : Nat} (N : Nb f p q) (q0 : 0 ≤ q) (qp : q ≤ p) (hc : -1 ≤ c ∧ c ≤ 1) (hij : i ≠ j) (e : ∀ k, h i k = f i k + c * f j k) (o : ∀ l, l ≠ i → sqv (h l) ≤ sqv (f l)) : Nb h (p + q) p := by
  obtain ⟨i0, hN⟩ := N
  have p2 : q * q ≤ p * p := Int.mul_le_mul qp qp q0 (by omega)
  refine ⟨i, fun l => ?_⟩
  by_cases c1 : l = i
  · rw [if_pos c1, c1]
    have h1 := hN i
    have h2 := hN j
    by_cases c2 : i = i0
    · rw [if_pos c2] at h1
      rw [if_neg (by omega)] at h2
      exact tri hc (by omega) q0 h1 h2 e
    · rw [if_neg c2] at h1
      have h2 : sqv (f j) ≤ p * p := by split at h2 <;> omega
      rw [Int.add_comm p q]
      exact tri hc q0 (by omega) h1 h2 e
  · rw [if_neg c1]
    have h1 := hN l
    have := o l c1
    split at h1 <;> omega
theorem Nb.same {f h : NN} {p q : Int} (N : Nb f p q) (q0 : 0 ≤ q) (qp : q ≤ p) (o : ∀ l, sqv (h l) ≤ sqv (f l)) : Nb h (p + q) p := by
  obtain ⟨i0, hN⟩ := N
  have p2 : q * q ≤ p * p := Int.mul_le_mul qp qp q0 (by omega)
  have p3 : p * p ≤ (p + q) * (p + q) := Int.mul_le_mul (by omega) (by omega) (by omega) (by omega)
  refine ⟨i0, fun l => ?_⟩
  have := hN l
  have := o l
  split at * <;> omega
def mkM (n : Nat) (f : NN) : Mx := (List.range n).map fun i => (List.range n).map fun j => f i j
theorem mkM_rect (n : Nat) (f : NN) : Rect (mkM n f) n n := ⟨by unfold mkM; rw [List.length_map, List.length_range], fun r hr => by
  obtain ⟨i, _, rfl⟩ := List.mem_map.mp hr
  rw [List.length_map, List.length_range]⟩
theorem fn2_mkM {n : Nat} {f : NN} (h : ∀ i j, ¬ (i < n ∧ j < n) → f i j = 0) : fn2 (mkM n f) = f := by
  funext i j
  by_cases c : i < n ∧ j < n
  · have e : (mkM n f)[i]? = some ((List.range n).map fun j => f i j) := by unfold mkM; rw [List.getElem?_map, List.getElem?_range c.1]; rfl
    show at2 (mkM n f) i j = _
    rw [at_row e]
    unfold cf
    rw [List.getD_eq_getElem?_getD, List.getElem?_map, List.getElem?_range c.2]
    rfl
  · rw [h i j c]
    exact at_out (mkM_rect n f) c
structure Ub (n : Nat) (U V : Mx) (p q : Int) : Prop where
  RU : Rect U n n
  RV : Rect V n n
  uv : mul3 (fn2 U) (fn2 V) = dl n
  vu : mul3 (fn2 V) (fn2 U) = dl n
  nr : Nb (fn2 U) p q
  nc : Nb (tp (fn2 V)) p q
theorem sqv_neg {f h : Nat → Int} (e : ∀ k, h k = f k ∨ h k = - f k) : sqv h ≤ sqv f := by
  have : ∀ k, h k * h k = f k * f k := fun k => by rcases e k with h | h <;> rw [h]; rw [Int.neg_mul_neg]
  unfold sqv
  rw [this, this, this]
  exact Int.le_refl _
theorem Ub.neg {n i : Nat} {U V : Mx} {p q : Int} (n3 : n ≤ 3) (hi : i < n) (q0 : 0 ≤ q) (qp : q ≤ p) (B : Ub n U V p q) : ∃ V', Ub n (U.set i ((U.getD i []).map fun x => -x)) V' (p + q) p := by
  have RU' : Rect (U.set i ((U.getD i []).map fun x => -x)) n n := B.RU.set (by rw [List.length_map]; exact (row_in B.RU hi).2)
  have eU : ∀ a k, fn2 (U.set i ((U.getD i []).map fun x => -x)) a k = if a = i then - fn2 U a k else fn2 U a k := fun a k => by
    unfold fn2
    rw [set_at (by rw [B.RU.h]; exact hi)]
    by_cases c : a = i
    · rw [if_pos c, if_pos c, c, at2_nat U, List.getD_eq_getElem?_getD, List.getElem?_map, List.getD_eq_getElem?_getD (l := U.getD i [])]
      cases (U.getD i [])[k]? with
      | none => rfl
      | some x => rfl
    · rw [if_neg c, if_neg c]
  have eV : fn2 (mkM n fun a b => if b = i then - fn2 V a b else fn2 V a b) = fun a b => if b = i then - fn2 V a b else fn2 V a b := fn2_mkM fun a b h => by
    have : fn2 V a b = 0 := at_out B.RV h
    rw [this]
    simp
  have uv : ∀ a b, mul3 (fn2 U) (fn2 V) a b = dl n a b := fun a b => by rw [B.uv]
  have vu : ∀ a b, mul3 (fn2 V) (fn2 U) a b = dl n a b := fun a b => by rw [B.vu]
  refine ⟨_, RU', mkM_rect n fun a b => if b = i then - fn2 V a b else fn2 V a b, ?_, ?_, B.nr.same q0 qp fun l => sqv_neg fun k => ?_, B.nc.same q0 qp fun l => sqv_neg fun k => ?_⟩
  · rw [eV]
    funext a b
    unfold mul3
    simp only [eU]
    have h := uv a b
    unfold mul3 at h
    by_cases c1 : a = i
    · by_cases c2 : b = i
      · simp only [c1, c2, if_true, reduceIte]; rw [c1, c2] at h; simp only [Int.neg_mul_neg]; exact h
      · simp only [c1, c2, if_true, if_false, reduceIte]
        rw [c1] at h
        have z : dl n i b = 0 := by unfold dl; rw [if_neg (by omega)]
        rw [z] at h ⊢
        simp only [Int.neg_mul]; omega
    · by_cases c2 : b = i
      · simp only [c1, c2, if_true, if_false, reduceIte]
        rw [c2] at h
        have z : dl n a i = 0 := by unfold dl; rw [if_neg (by omega)]
        rw [z] at h ⊢
        simp only [Int.mul_neg]; omega
      · simp only [c1, c2, if_false, reduceIte]; exact h
  · rw [eV]
    funext a b
    have h := vu a b
    unfold mul3 at h ⊢
    simp only [eU]
    have c : i = 0 ∨ i = 1 ∨ i = 2 := by omega
    rcases c with rfl | rfl | rfl <;> simp [Int.neg_mul_neg] <;> exact h
  · rw [eU]; split
    · exact .inr rfl
    · exact .inl rfl
  · rw [eV]
    show (if l = i then - fn2 V k l else fn2 V k l) = fn2 V k l ∨ (if l = i then - fn2 V k l else fn2 V k l) = - fn2 V k l
    split
    · exact .inr rfl
    · exact .inl rfl
theorem Ub.add {n i j : Nat} {U V : Mx} {p q c : Int} (n3 : n ≤ 3) (hi : i < n) (hj : j < n) (hij : i ≠ j) (hc : -1 ≤ c ∧ c ≤ 1) (q0 : 0 ≤ q) (qp : q ≤ p) (B : Ub n U V p q) : ∃ V', Ub n (U.set i (rowAdd U i j c n)) V' (p + q) p := by
  have rl : (rowAdd U i j c n).length = n := by unfold rowAdd; rw [List.length_map, rng_len]; omega
  have RU' : Rect (U.set i (rowAdd U i j c n)) n n := B.RU.set rl
  have eU : ∀ a k, fn2 (U.set i (rowAdd U i j c n)) a k = if a = i then fn2 U i k + c * fn2 U j k else fn2 U a k := fun a k => by
    unfold fn2
    rw [set_at (by rw [B.RU.h]; exact hi)]
    by_cases ca : a = i
    · rw [if_pos ca, if_pos ca]
      by_cases hk : k < n
      · unfold rowAdd
        rw [List.getD_eq_getElem?_getD, List.getElem?_map]
        have : (rng 0 (n : Int))[k]? = some (k : Int) := by
          unfold rng
          rw [List.getElem?_map, List.getElem?_range (by omega)]
          simp
        rw [this]
        rfl
      · rw [at_out B.RU (by omega), at_out B.RU (by omega), List.getD_eq_getElem?_getD, List.getElem?_eq_none (by omega)]
        simp
    · rw [if_neg ca, if_neg ca]
  have eV : fn2 (mkM n fun a b => if b = j then fn2 V a j - c * fn2 V a i else fn2 V a b) = fun a b => if b = j then fn2 V a j - c * fn2 V a i else fn2 V a b := fn2_mkM fun a b h => by
    have z : fn2 V a b = 0 := at_out B.RV h
    rw [z]
    split
    · rename_i e
      have z1 : fn2 V a j = 0 := at_out B.RV (by omega)
      have z2 : fn2 V a i = 0 := at_out B.RV (by omega)
      rw [z1, z2]; simp
    · rfl
  have uv : ∀ a b, mul3 (fn2 U) (fn2 V) a b = dl n a b := fun a b => by rw [B.uv]
  have vu : ∀ a b, mul3 (fn2 V) (fn2 U) a b = dl n a b := fun a b => by rw [B.vu]
  unfold mul3 at uv vu
  refine ⟨_, RU', mkM_rect n fun a b => if b = j then fn2 V a j - c * fn2 V a i else fn2 V a b, ?_, ?_, B.nr.step q0 qp hc hij (fun k => by rw [eU, if_pos rfl]) (fun l hl => sqv_neg fun k => .inl (by rw [eU, if_neg hl])), B.nc.step (c := -c) (i := j) (j := i) q0 qp (by omega) (Ne.symm hij) (fun k => ?_) (fun l hl => sqv_neg fun k => .inl ?_)⟩
  · rw [eV]
    funext a b
    unfold mul3
    simp only [eU]
    have h1 := uv a b
    have h2 := uv j b
    have h3 := uv a i
    have h4 := uv j i
    have h5 := uv i b
    have h6 := uv i i
    have h7 := uv a j
    have h8 := uv j j
    have h9 := uv i j
    have zji : dl n j i = 0 := by unfold dl; rw [if_neg (by omega)]
    have zij : dl n i j = 0 := by unfold dl; rw [if_neg (by omega)]
    have oi : dl n i i = 1 := by unfold dl; rw [if_pos ⟨rfl, hi⟩]
    have oj : dl n j j = 1 := by unfold dl; rw [if_pos ⟨rfl, hj⟩]
    rw [zji] at h4
    rw [zij] at h9
    rw [oi] at h6
    rw [oj] at h8
    by_cases c1 : a = i
    · by_cases c2 : b = j
      · simp only [c1, c2, if_true, reduceIte]
        rw [zij]
        generalize fn2 U i 0 = u0 at *; generalize fn2 U i 1 = u1 at *; generalize fn2 U i 2 = u2 at *; generalize fn2 U j 0 = w0 at *; generalize fn2 U j 1 = w1 at *; generalize fn2 U j 2 = w2 at *
        clear h1 h2 h3 h5 h7 uv vu eU eV
        grind
      · simp only [c1, c2, if_true, if_false, reduceIte]
        have zjb : dl n j b = 0 := by unfold dl; rw [if_neg (by omega)]
        rw [zjb] at h2
        clear h1 h3 h7 h4 h6 h8 h9 uv vu eU eV
        grind
    · by_cases c2 : b = j
      · simp only [c1, c2, if_true, if_false, reduceIte]
        have zai : dl n a i = 0 := by unfold dl; rw [if_neg (by omega)]
        rw [zai] at h3
        clear h1 h2 h4 h5 h6 h8 h9 uv vu eU eV
        grind
      · simp only [c1, c2, if_false, reduceIte]; exact h1
  · rw [eV]
    funext a b
    have h := vu a b
    unfold mul3
    simp only [eU]
    rw [← h]
    have ci : i = 0 ∨ i = 1 ∨ i = 2 := by omega
    have cj : j = 0 ∨ j = 1 ∨ j = 2 := by omega
    clear uv vu eU eV h
    rcases ci with rfl | rfl | rfl <;> rcases cj with rfl | rfl | rfl <;> first
      | exact absurd rfl hij
      | (simp; grind)
  · rw [eV]
    show (if j = j then fn2 V k j - c * fn2 V k i else fn2 V k j) = fn2 V k j + -c * fn2 V k i
    rw [if_pos rfl, Int.neg_mul]; omega
  · rw [eV]
    show (if l = j then fn2 V k j - c * fn2 V k i else fn2 V k l) = fn2 V k l
    rw [if_neg hl]
def pf : Nat → Int × Int
  | 0 => (1, 1)
  | k + 1 => ((pf k).1 + (pf k).2, (pf k).1)
theorem pf_ok : ∀ k, 0 ≤ (pf k).2 ∧ (pf k).2 ≤ (pf k).1
  | 0 => by decide
  | k + 1 => by
    have := pf_ok k
    show 0 ≤ (pf k).1 ∧ (pf k).1 ≤ (pf k).1 + (pf k).2
    omega
theorem nb_dl (n : Nat) : Nb (dl n) 1 1 := ⟨0, fun i => by
  have q : ∀ k, dl n i k * dl n i k = if i = k ∧ i < n then 1 else 0 := fun k => by unfold dl; split <;> rfl
  have : sqv (dl n i) ≤ 1 := by
    unfold sqv
    rw [q, q, q]
    by_cases h0 : i = 0
    · subst h0; simp; split <;> decide
    · by_cases h1 : i = 1
      · subst h1; simp; split <;> decide
      · by_cases h2 : i = 2
        · subst h2; simp; split <;> decide
        · simp [h0, h1, h2]
  split <;> omega⟩
theorem tp_dl (n : Nat) : tp (dl n) = dl n := by
  funext i j
  unfold tp dl
  by_cases h : i = j
  · subst h; rfl
  · rw [if_neg (by omega), if_neg (by omega)]
theorem uni_ub {n k : Nat} {U : Mx} (n3 : n ≤ 3) (h : Uni n k U) : ∃ V, Ub n U V (pf k).1 (pf k).2 := by
  induction h with
  | unit => exact ⟨unitM n, unit_rect n, unit_rect n, by rw [unit_fn, dl_dl n3], by rw [unit_fn, dl_dl n3], by rw [unit_fn]; exact nb_dl n, by rw [unit_fn, tp_dl]; exact nb_dl n⟩
  | neg h hi ih =>
    rename_i k i U
    obtain ⟨V, B⟩ := ih
    exact B.neg n3 hi (pf_ok k).1 (pf_ok k).2
  | add h hi hj hij c0 c1 ih =>
    rename_i k i j U c
    obtain ⟨V, B⟩ := ih
    exact B.add n3 hi hj hij ⟨c0, c1⟩ (pf_ok k).1 (pf_ok k).2
def nextU (n : Nat) (U : Mx) : List Mx := (List.range n).flatMap fun i => (U.set i ((U.getD i []).map fun x => -x)) :: (List.range n).flatMap fun j => if i = j then [] else [-1, 0, 1].map fun c => U.set i (rowAdd U i j c n)
def listU (n : Nat) : Nat → List Mx
  | 0 => [unitM n]
  | k + 1 => (listU n k).flatMap (nextU n)
theorem uni_list {n k : Nat} {U : Mx} (h : Uni n k U) : U ∈ listU n k := by
  induction h with
  | unit => exact List.mem_singleton.mpr rfl
  | neg h hi ih => exact List.mem_flatMap.mpr ⟨_, ih, List.mem_flatMap.mpr ⟨_, List.mem_range.mpr hi, List.mem_cons_self ..⟩⟩
  | add h hi hj hij c0 c1 ih =>
    rename_i k i j U c
    refine List.mem_flatMap.mpr ⟨_, ih, List.mem_flatMap.mpr ⟨_, List.mem_range.mpr hi, List.mem_cons_of_mem _ (List.mem_flatMap.mpr ⟨_, List.mem_range.mpr hj, ?_⟩)⟩⟩
    rw [if_neg hij]
    refine List.mem_map.mpr ⟨c, ?_, rfl⟩
    have : c = -1 ∨ c = 0 ∨ c = 1 := by omega
    rcases this with rfl | rfl | rfl <;> decide
/-- two rows within the square 5 -/
def chk2 (n : Nat) (U : Mx) : Bool := decide (2 ≤ ((List.range n).filter fun i => decide (sq3 (U.getD i []) ≤ 5)).length)
theorem two_rows : (List.range 3).all (fun k => (listU 2 k).all (chk2 2) && (listU 3 k).all (chk2 3)) = true := by decide +kernel
theorem one_row : (List.range 4).all (fun k => (listU 1 k).all fun U => decide (sq3 (U.getD 0 []) ≤ 5)) = true := by decide +kernel
theorem two_ex {n i : Nat} {U : Mx} (h : chk2 n U = true) : ∃ a, a < n ∧ a ≠ i ∧ sq3 (U.getD a []) ≤ 5 := by
  have h := of_decide_eq_true h
  apply Classical.byContradiction
  intro c
  have : ((List.range n).filter fun i => decide (sq3 (U.getD i []) ≤ 5)).length ≤ [i].length := length_le_of_subset (List.Pairwise.filter _ List.nodup_range) fun z hz => by
    obtain ⟨h1, h2⟩ := List.mem_filter.mp hz
    rw [List.mem_range] at h1
    have h2 := of_decide_eq_true h2
    by_cases e : z = i
    · rw [e]; simp
    · exact absurd ⟨z, h1, e, h2⟩ c
  simp only [List.length_singleton] at this
  omega
theorem uni_row {n k : Nat} {U : Mx} (n1 : 1 ≤ n) (n3 : n ≤ 3) (k3 : k ≤ 3) (h : Uni n k U) : ∃ a, a < n ∧ sq3 (U.getD a []) ≤ 5 := by
  by_cases c : n = 1
  · subst c
    have h1 := one_row
    rw [List.all_eq_true] at h1
    have h1 := h1 k (List.mem_range.mpr (by omega))
    rw [List.all_eq_true] at h1
    exact ⟨0, by omega, of_decide_eq_true (h1 U (uni_list h))⟩
  · have two : ∀ k U, k ≤ 2 → Uni n k U → chk2 n U = true := fun k U hk h => by
      have h1 := two_rows
      rw [List.all_eq_true] at h1
      have h1 := h1 k (List.mem_range.mpr (by omega))
      rw [Bool.and_eq_true, List.all_eq_true, List.all_eq_true] at h1
      have c : n = 2 ∨ n = 3 := by omega
      rcases c with rfl | rfl
      · exact h1.1 U (uni_list h)
      · exact h1.2 U (uni_list h)
    have keep : ∀ (U : Mx) (i a : Nat) (r : List Int), a ≠ i → (U.set i r).getD a [] = U.getD a [] := fun U i a r h => by
      rw [List.getD_eq_getElem?_getD, List.getElem?_set, if_neg (Ne.symm h), ← List.getD_eq_getElem?_getD (l := U)]
    by_cases k2 : k ≤ 2
    · obtain ⟨a, h1, _, h3⟩ := two_ex (i := n) (two k U k2 h)
      exact ⟨a, h1, h3⟩
    · cases h with
      | unit => omega
      | neg h hi =>
        rename_i k i U
        obtain ⟨a, h1, h2, h3⟩ := two_ex (i := i) (two k U (by omega) h)
        exact ⟨a, h1, by rw [keep _ _ _ _ h2]; exact h3⟩
      | add h hi hj hij c0 c1 =>
        rename_i k i j U c
        obtain ⟨a, h1, h2, h3⟩ := two_ex (i := i) (two k U (by omega) h)
        exact ⟨a, h1, by rw [keep _ _ _ _ h2]; exact h3⟩
def colSq (V : Mx) (i : Nat) : Int := at2 V (0 : Nat) i * at2 V (0 : Nat) i + at2 V (1 : Nat) i * at2 V (1 : Nat) i + at2 V (2 : Nat) i * at2 V (2 : Nat) i
def shearU (n i j : Nat) (c : Int) : Mx := (unitM n).set i (((unitM n).getD i []).set j c)
def chkS (n i j : Nat) (c : Int) : Bool := decide (mulM (shearU n i j c) (shearU n i j (-c)) n = unitM n) && (decide (colSq (shearU n i j (-c)) 0 ≤ 37) && (decide (colSq (shearU n i j (-c)) 1 ≤ 37) && (decide (colSq (shearU n i j (-c)) 2 ≤ 37) && (((List.range n).any fun a => decide (sq3 ((shearU n i j c).getD a []) ≤ 5)) && ((shearU n i j c).all fun r => decide (sq3 r ≤ 37))))))
theorem chk_shear : ((List.range 4).all fun n => (List.range n).all fun i => (List.range n).all fun j => decide (i = j) || (rng (-6) 7).all fun c => chkS n i j c) = true := by decide +kernel
end K24
set_option Elab.async false
set_option linter.all false
set_option maxRecDepth 100000
set_option maxHeartbeats 4000000
set_option autoImplicit false
namespace K24
open PySem PySem.Spec PyProof.Rows L2
open PySem.W (Datum DatumOrd Holds HoldAll Tup)
/-! ### the law's matrices -/
structure BasisFacts (n : Nat) (U V : Mx) : Prop where
  RU : Rect U n n
  RV : Rect V n n
  uv : mul3 (fn2 U) (fn2 V) = dl n
  vu : mul3 (fn2 V) (fn2 U) = dl n
  c : ∀ i, colSq V i ≤ 37
  r5 : ∃ a, a < n ∧ sq3 (U.getD a []) ≤ 5
  r : ∀ r ∈ U, sq3 r ≤ 37
theorem shear_rect {n i j : Nat} {c : Int} (hi : i < n) : Rect (shearU n i j c) n n := (unit_rect n).set (by rw [List.length_set]; exact (row_in (unit_rect n) hi).2)
theorem basis_facts {n : Nat} {U : Mx} (n1 : 1 ≤ n) (n3 : n ≤ 3) (h : BasisOk n U) : ∃ V, BasisFacts n U V := by
  rcases h with ⟨k, k3, h⟩ | ⟨i, j, c, hi, hj, hij, c0, c1, rfl⟩
  · obtain ⟨V, B⟩ := uni_ub n3 h
    have bd : (pf k).1 * (pf k).1 ≤ 25 ∧ (pf k).2 * (pf k).2 ≤ 25 := by
      have c : k = 0 ∨ k = 1 ∨ k = 2 ∨ k = 3 := by omega
      rcases c with rfl | rfl | rfl | rfl <;> decide
    refine ⟨V, B.RU, B.RV, B.uv, B.vu, fun i => ?_, uni_row n1 n3 k3 h, fun r hr => ?_⟩
    · obtain ⟨i0, hN⟩ := B.nc
      have : sqv (tp (fn2 V) i) ≤ 25 := by
        have := hN i
        split at this <;> omega
      show sqv (tp (fn2 V) i) ≤ 37
      omega
    · obtain ⟨i0, hN⟩ := B.nr
      obtain ⟨i, hi, e⟩ := List.mem_iff_getElem.mp hr
      have e2 : sq3 r = sqv (fn2 U i) := by
        have hg : U[i]? = some r := by rw [List.getElem?_eq_getElem hi, e]
        unfold sq3 sqv fn2
        rw [at_row hg, at_row hg, at_row hg]
      have := hN i
      rw [e2]
      split at this <;> omega
  · have chk : ∀ c : Int, -6 ≤ c → c ≤ 6 → chkS n i j c = true := fun c c0 c1 => by
      have h := chk_shear
      rw [List.all_eq_true] at h
      have h := h n (List.mem_range.mpr (by omega))
      rw [List.all_eq_true] at h
      have h := h i (List.mem_range.mpr hi)
      rw [List.all_eq_true] at h
      have h := h j (List.mem_range.mpr hj)
      rw [Bool.or_eq_true, decide_eq_true_eq, List.all_eq_true] at h
      exact (h.resolve_left hij) c (mem_rng.mpr ⟨c0, by omega⟩)
    have h1 := chk c c0 c1
    have h2 := chk (-c) (by omega) (by omega)
    unfold chkS at h1 h2
    rw [Int.neg_neg] at h2
    simp only [Bool.and_eq_true, decide_eq_true_eq] at h1 h2
    have fe : ∀ a b : Int, mulM (shearU n i j a) (shearU n i j b) n = unitM n → mul3 (fn2 (shearU n i j a)) (fn2 (shearU n i j b)) = dl n := fun a b e => by
      rw [mulM_act (shear_rect hi) (shear_rect hi) n1 n3] at e
      rw [← fn2_act (shear_rect hi), e, unit_fn]
    obtain ⟨q1, q2, q3, q4, q5, q6⟩ := h1
    refine ⟨shearU n i j (-c), shear_rect hi, shear_rect hi, fe _ _ q1, fe _ _ h2.1, fun l => ?_, ?_, fun r hr => ?_⟩
    · by_cases hl : l < 3
      · have : l = 0 ∨ l = 1 ∨ l = 2 := by omega
        rcases this with rfl | rfl | rfl <;> assumption
      · unfold colSq
        have z : ∀ k : Nat, at2 (shearU n i j (-c)) k l = 0 := fun k => at_out (shear_rect hi) (by omega)
        rw [z, z, z]
        decide
    · obtain ⟨a, ha, h⟩ := List.any_eq_true.mp q5
      exact ⟨a, List.mem_range.mp ha, of_decide_eq_true h⟩
    · exact of_decide_eq_true (List.all_eq_true.mp q6 r hr)
structure GramFacts (g : Mx) (n : Nat) : Prop where
  d : Dk g n
  b : BdM g 8
  u0 : at2 g 0 0 + ab (at2 g 0 1) + ab (at2 g 0 2) ≤ 7
  u1 : 1 < n → at2 g 1 1 + ab (at2 g 0 1) + ab (at2 g 1 2) ≤ 7
  u2 : 2 < n → at2 g 2 2 + ab (at2 g 0 2) + ab (at2 g 1 2) ≤ 7
theorem bdm_of {m : Mx} {h w B : Nat} (R : Rect m h w) (q : ∀ i k : Nat, i < h → k < w → (at2 m i k).natAbs ≤ B) : BdM m B := fun r hr x hx => by
  obtain ⟨i, hi, rfl⟩ := List.mem_iff_getElem.mp hr
  obtain ⟨k, hk, rfl⟩ := cf_mem hx
  have := q i k (by rw [← R.h]; exact hi) (by rw [← R.w _ hr]; exact hk)
  rw [at_row (List.getElem?_eq_getElem hi)] at this
  exact this
theorem gram_facts {g : Mx} {n : Nat} (G : GramOk g n) : GramFacts g n := by
  obtain ⟨R, n1, n3, sy, off, dg⟩ := G
  have a1 : ∀ i k : Nat, i ≠ k → 0 ≤ ab (at2 g i k) ∧ ab (at2 g i k) ≤ 1 := fun i k h => by
    have := off i k h
    unfold ab
    omega
  have a01 : 0 ≤ ab (at2 g 0 1) ∧ ab (at2 g 0 1) ≤ 1 := a1 0 1 (by decide)
  have a02 : 0 ≤ ab (at2 g 0 2) ∧ ab (at2 g 0 2) ≤ 1 := a1 0 2 (by decide)
  have a12 : 0 ≤ ab (at2 g 1 2) ∧ ab (at2 g 1 2) ≤ 1 := a1 1 2 (by decide)
  have key : (∃ t : Int, 0 ≤ t ∧ t ≤ 2 ∧ at2 g 0 0 = 1 + t + (ab (at2 g 0 1) + ab (at2 g 0 2))) ∧ (1 < n → ∃ t : Int, 0 ≤ t ∧ t ≤ 2 ∧ at2 g 1 1 = 1 + t + (ab (at2 g 0 1) + ab (at2 g 1 2))) ∧ (2 < n → ∃ t : Int, 0 ≤ t ∧ t ≤ 2 ∧ at2 g 2 2 = 1 + t + (ab (at2 g 0 2) + ab (at2 g 1 2))) := by
    have c : n = 1 ∨ n = 2 ∨ n = 3 := by omega
    rcases c with rfl | rfl | rfl
    · obtain ⟨a, rfl⟩ := rect1 R
      refine ⟨?_, fun h => by omega, fun h => by omega⟩
      obtain ⟨t, h0, h2, e⟩ := dg 0 (by omega)
      exact ⟨t, h0, h2, e⟩
    · obtain ⟨a, b, b', c, rfl⟩ := rect2 R
      have hb : b = b' := sy 0 1
      subst hb
      refine ⟨?_, fun _ => ?_, fun h => by omega⟩
      · obtain ⟨t, h0, h2, e⟩ := dg 0 (by omega)
        refine ⟨t, h0, h2, e.trans ?_⟩
        simp [rowAbs, ab, at2]
      · obtain ⟨t, h0, h2, e⟩ := dg 1 (by omega)
        refine ⟨t, h0, h2, e.trans ?_⟩
        simp [rowAbs, ab, at2]
    · obtain ⟨a, b, c, b', d, e, c', e', f, rfl⟩ := rect3 R
      have hb : b = b' := sy 0 1
      subst hb
      have hc : c = c' := sy 0 2
      subst hc
      have he : e = e' := sy 1 2
      subst he
      refine ⟨?_, fun _ => ?_, fun _ => ?_⟩
      · obtain ⟨t, h0, h2, e⟩ := dg 0 (by omega)
        refine ⟨t, h0, h2, e.trans ?_⟩
        simp [rowAbs, ab, at2]
      · obtain ⟨t, h0, h2, e⟩ := dg 1 (by omega)
        refine ⟨t, h0, h2, e.trans ?_⟩
        simp [rowAbs, ab, at2]
      · obtain ⟨t, h0, h2, e⟩ := dg 2 (by omega)
        refine ⟨t, h0, h2, e.trans ?_⟩
        simp [rowAbs, ab, at2]
  obtain ⟨⟨t0, p0, p1, e0⟩, k1, k2⟩ := key
  have diag : ∀ i : Nat, i < n → 1 ≤ at2 g i i ∧ at2 g i i ≤ 5 := fun i hi => by
    have c : i = 0 ∨ i = 1 ∨ i = 2 := by omega
    rcases c with rfl | rfl | rfl
    · show 1 ≤ at2 g 0 0 ∧ at2 g 0 0 ≤ 5
      omega
    · obtain ⟨t, q0, q1, e⟩ := k1 hi
      show 1 ≤ at2 g 1 1 ∧ at2 g 1 1 ≤ 5
      omega
    · obtain ⟨t, q0, q1, e⟩ := k2 hi
      show 1 ≤ at2 g 2 2 ∧ at2 g 2 2 ≤ 5
      omega
  refine ⟨⟨R, n1, n3, sy, off, by omega, fun h => ?_, fun h => ?_, fun i hi => by have := diag i hi; omega⟩, bdm_of R fun i k hi hk => ?_, by omega, fun h => ?_, fun h => ?_⟩
  · obtain ⟨t, q0, q1, e⟩ := k1 h; omega
  · obtain ⟨t, q0, q1, e⟩ := k2 h; omega
  · by_cases c : i = k
    · subst c; have := diag i hi; omega
    · have := off i k c; omega
  · obtain ⟨t, q0, q1, e⟩ := k1 h; omega
  · obtain ⟨t, q0, q1, e⟩ := k2 h; omega
theorem law_mv {g U V : Mx} {n : Nat} (G : GramFacts g n) (B : BasisFacts n U V) : Mv (movedL g U) n g U V := by
  have n1 := G.d.n1
  have n3 := G.d.n3
  have fe := fn2_moved G.d.R B.RU n1 n3
  have Lg := (G.d.mv fun r hr x hx => Nat.le_trans (G.b r hr x hx) (by decide)).lt
  have ub : ∀ v : List Int, v.length = n → pad g v v ≤ 7 * sq3 v := fun v hv => by
    rw [pad_nm G.d.sy]
    refine domU (G.d.off 0 1 (by decide)) (G.d.off 0 2 (by decide)) (G.d.off 1 2 (by decide)) (.inr G.u0) ?_ ?_
    · by_cases c : 1 < n
      · exact .inr (G.u1 c)
      · exact .inl (cf_out (by omega))
    · by_cases c : 2 < n
      · exact .inr (G.u2 c)
      · exact .inl (cf_out (by omega))
  refine ⟨G.d.gd, moved_rect B.RU, B.RU, B.RV, fun i k => ?_, fun v hv => act_inv B.RU B.RV n3 B.uv hv, fun v hv => act_inv B.RV B.RU n3 B.vu hv, fun v w hv hw => ?_, B.c, ?_, bdm_of (moved_rect B.RU) fun i k hi hk => ?_⟩
  · have := conj_sym (X := U) G.d.sy
    rw [← fe] at this
    exact congrFun (congrFun this k) i
  · rw [prod_pad (moved_rect B.RU) n1 n3 hv hw, pad_conj B.RU fe, ← prod_pad G.d.R n1 n3 (act_len ..) (act_len ..)]
  · obtain ⟨a, ha, h5⟩ := B.r5
    refine ⟨a, ha, ?_⟩
    show fn2 (movedL g U) a a ≤ 35
    rw [fe, ← rows_mul]
    have := ub _ (row_in B.RU ha).2
    omega
  · show (fn2 (movedL g U) i k).natAbs ≤ 1000
    rw [fe, ← rows_mul]
    have ri := row_in B.RU hi
    have rk := row_in B.RU hk
    have h1 := ub _ ri.2
    have h2 := ub _ rk.2
    have h3 := B.r _ ri.1
    have h4 := B.r _ rk.1
    have := Lg.prodB (c := 259) ri.2 rk.2 (by omega) (by omega)
    omega
theorem third_at {g : Mx} {n : Nat} (R : Rect g n n) (n1 : 1 ≤ n) (i k : Nat) : at2 (thirdM g) i k = if i = 0 ∧ k = 0 then at2 g 0 0 + 1 else at2 g i k := by
  have r0 := row_in R (i := 0) (by omega)
  unfold thirdM
  rw [set_at (by rw [R.h]; omega)]
  by_cases c : i = 0
  · subst c
    rw [if_pos rfl, List.getD_eq_getElem?_getD, List.getElem?_set]
    by_cases c2 : k = 0
    · subst c2
      rw [if_pos rfl, if_pos (by rw [r0.2]; omega), if_pos ⟨rfl, rfl⟩]
      rfl
    · rw [if_neg (by omega), if_neg (by omega), at2_nat, List.getD_eq_getElem?_getD (l := g.getD 0 [])]
  · rw [if_neg c, if_neg (by omega)]
theorem third_facts {g : Mx} {n : Nat} (G : GramFacts g n) : Dk (thirdM g) n ∧ BdM (thirdM g) 1000 := by
  have n1 := G.d.n1
  have R : Rect (thirdM g) n n := by
    unfold thirdM
    exact G.d.R.set (by rw [List.length_set]; exact (row_in G.d.R (by omega)).2)
  have ta := third_at G.d.R n1
  have t00 : at2 (thirdM g) 0 0 = at2 g 0 0 + 1 := ta 0 0
  have t01 : at2 (thirdM g) 0 1 = at2 g 0 1 := ta 0 1
  have t02 : at2 (thirdM g) 0 2 = at2 g 0 2 := ta 0 2
  have t11 : at2 (thirdM g) 1 1 = at2 g 1 1 := ta 1 1
  have t12 : at2 (thirdM g) 1 2 = at2 g 1 2 := ta 1 2
  have t22 : at2 (thirdM g) 2 2 = at2 g 2 2 := ta 2 2
  have ge := G.d.d0
  have u0 := G.u0
  have := ab_nn (at2 g 0 1)
  have := ab_nn (at2 g 0 2)
  refine ⟨⟨R, n1, G.d.n3, fun i k => ?_, fun i k h => ?_, by rw [t00, t01, t02]; omega, fun h => by rw [t01, t11, t12]; exact G.d.d1 h, fun h => by rw [t02, t12, t22]; exact G.d.d2 h, fun i hi => ?_⟩, bdm_of R fun i k hi hk => ?_⟩
  · rw [ta, ta]
    by_cases c : i = 0 ∧ k = 0
    · rw [if_pos c, if_pos ⟨c.2, c.1⟩]
    · rw [if_neg c, if_neg (by omega)]; exact G.d.sy i k
  · rw [ta, if_neg (by omega)]; exact G.d.off i k h
  · rw [ta]
    split
    · omega
    · exact G.d.u i hi
  · rw [ta]
    split
    · omega
    · exact Nat.le_trans (G.b.at i k) (by decide)
theorem dtL_tp {A : NN} {n : Nat} : dtL (tp A) n = dtL A n := by
  match n with
  | 0 => rfl
  | 1 => rfl
  | 2 => show A 0 0 * A 1 1 - A 0 1 * A 1 0 = A 0 0 * A 1 1 - A 1 0 * A 0 1; rw [Int.mul_comm (A 0 1)]
  | _ + 3 =>
    show det3 (A 0 0) (A 1 0) (A 2 0) (A 0 1) (A 1 1) (A 2 1) (A 0 2) (A 1 2) (A 2 2) = det3 (A 0 0) (A 0 1) (A 0 2) (A 1 0) (A 1 1) (A 1 2) (A 2 0) (A 2 1) (A 2 2)
    unfold det3
    generalize A 0 0 = a0; generalize A 0 1 = a1; generalize A 0 2 = a2; generalize A 1 0 = a3; generalize A 1 1 = a4; generalize A 1 2 = a5; generalize A 2 0 = a6; generalize A 2 1 = a7; generalize A 2 2 = a8
    grind
/-- the determinant does not depend on the basis -/
theorem det_gram {m g U V : Mx} {n : Nat} (M : Mv m n g U V) {out : List Lv} {fs : List Mx} (F : Fin m n out fs) : dtL (fn2 (gramM (out.map (·.1)) n)) n = dtL (fn2 m) n := by
  obtain ⟨X, hX⟩ := List.exists_mem_of_ne_nil fs F.ne
  have n1 := M.gd.n1
  have n3 := M.gd.n3
  have f := F.x X hX
  have R : Rect X n n := ⟨f.l, f.r⟩
  have hd := det_unit R n1 n3 f.s
  rw [det_fn] at hd
  rw [F.gram M hX, dtL_mul n1 n3, dtL_mul n1 n3, dtL_tp]
  · have : dtL (fn2 X) n = 1 ∨ dtL (fn2 X) n = -1 := by omega
    rcases this with h | h <;> rw [h] <;> omega
  · exact fun i k h => at_out R (by omega)
  · intro i k h
    unfold mul3
    have z : ∀ j, fn2 m j k = 0 := fun j => at_out M.R (by omega)
    rw [z, z, z]; simp
theorem det_third {g : Mx} {n : Nat} (G : GramFacts g n) : dtL (fn2 (thirdM g)) n ≠ dtL (fn2 g) n := by
  have n1 := G.d.n1
  have n3 := G.d.n3
  have ta := third_at G.d.R n1
  have t : ∀ i k, fn2 (thirdM g) i k = if i = 0 ∧ k = 0 then at2 g 0 0 + 1 else fn2 g i k := ta
  have t00 : fn2 (thirdM g) 0 0 = at2 g 0 0 + 1 := t 0 0
  have t01 : fn2 (thirdM g) 0 1 = at2 g 0 1 := t 0 1
  have t02 : fn2 (thirdM g) 0 2 = at2 g 0 2 := t 0 2
  have t10 : fn2 (thirdM g) 1 0 = at2 g 1 0 := t 1 0
  have t11 : fn2 (thirdM g) 1 1 = at2 g 1 1 := t 1 1
  have t12 : fn2 (thirdM g) 1 2 = at2 g 1 2 := t 1 2
  have t20 : fn2 (thirdM g) 2 0 = at2 g 2 0 := t 2 0
  have t21 : fn2 (thirdM g) 2 1 = at2 g 2 1 := t 2 1
  have t22 : fn2 (thirdM g) 2 2 = at2 g 2 2 := t 2 2
  have c : n = 1 ∨ n = 2 ∨ n = 3 := by omega
  rcases c with rfl | rfl | rfl
  · show fn2 (thirdM g) 0 0 ≠ at2 g 0 0
    rw [t00]; omega
  · show fn2 (thirdM g) 0 0 * fn2 (thirdM g) 1 1 - fn2 (thirdM g) 1 0 * fn2 (thirdM g) 0 1 ≠ at2 g 0 0 * at2 g 1 1 - at2 g 1 0 * at2 g 0 1
    rw [t00, t11, t10, t01, Int.add_mul, Int.one_mul]
    have := G.d.d1 (by omega)
    have := ab_nn (at2 g 0 1)
    have := ab_nn (at2 g 1 2)
    omega
  · show det3 (fn2 (thirdM g) 0 0) (fn2 (thirdM g) 0 1) (fn2 (thirdM g) 0 2) (fn2 (thirdM g) 1 0) (fn2 (thirdM g) 1 1) (fn2 (thirdM g) 1 2) (fn2 (thirdM g) 2 0) (fn2 (thirdM g) 2 1) (fn2 (thirdM g) 2 2) ≠ det3 (at2 g 0 0) (at2 g 0 1) (at2 g 0 2) (at2 g 1 0) (at2 g 1 1) (at2 g 1 2) (at2 g 2 0) (at2 g 2 1) (at2 g 2 2)
    rw [t00, t01, t02, t10, t11, t12, t20, t21, t22]
    have h1 := G.d.d1 (by omega)
    have h2 := G.d.d2 (by omega)
    have := ab_nn (at2 g 0 1)
    have := ab_nn (at2 g 0 2)
    have := ab_nn (at2 g 1 2)
    have s21 : at2 g 2 1 = at2 g 1 2 := G.d.sy 2 1
    have pm : (1 + ab (at2 g 1 2)) * (1 + ab (at2 g 1 2)) ≤ at2 g 1 1 * at2 g 2 2 := Int.mul_le_mul (by omega) (by omega) (by omega) (by omega)
    have ee : at2 g 1 2 * at2 g 2 1 = ab (at2 g 1 2) * ab (at2 g 1 2) := by rw [s21]; unfold ab; rw [Int.natAbs_mul_self']
    have ex : (1 + ab (at2 g 1 2)) * (1 + ab (at2 g 1 2)) = 1 + 2 * ab (at2 g 1 2) + ab (at2 g 1 2) * ab (at2 g 1 2) := by grind
    unfold det3
    rw [Int.add_mul, Int.one_mul]
    omega
end K24
set_option Elab.async false
set_option linter.all false
set_option maxRecDepth 100000
set_option maxHeartbeats 4000000
set_option autoImplicit false
namespace K24
open PySem PySem.Spec PyProof.Rows L2
open PySem.W (Datum DatumOrd Holds HoldAll Tup)
/-! ### what the law asks of its maps -/
theorem moved_by_map {g m P X Pi Y : Mx} {n : Nat} {ms : Mx} (n1 : 1 ≤ n) (n3 : n ≤ 3) (Rm : Rect m n n) (gr : fn2 (gramM ms n) = mul3 (mul3 (fn2 Y) (fn2 g)) (tp (fn2 Y))) (gp : fn2 (gramM ms n) = mul3 (mul3 (fn2 P) (fn2 m)) (tp (fn2 P))) (v1 : mul3 (fn2 Pi) (fn2 P) = dl n) (ex : fn2 X = mul3 (fn2 Pi) (fn2 Y)) : mul3 (mul3 (fn2 X) (fn2 g)) (tp (fn2 X)) = fn2 m := by
  have e1 : mul3 (mul3 (fn2 X) (fn2 g)) (tp (fn2 X)) = mul3 (mul3 (fn2 Pi) (mul3 (mul3 (fn2 Y) (fn2 g)) (tp (fn2 Y)))) (tp (fn2 Pi)) := by
    rw [ex, tp_mul]
    simp only [mul3_assoc]
  have e2 : mul3 (mul3 (fn2 Pi) (mul3 (mul3 (fn2 P) (fn2 m)) (tp (fn2 P)))) (tp (fn2 Pi)) = mul3 (mul3 (mul3 (fn2 Pi) (fn2 P)) (fn2 m)) (tp (mul3 (fn2 Pi) (fn2 P))) := by
    rw [tp_mul]
    simp only [mul3_assoc]
  rw [e1, ← gr, gp, e2, v1, tp_dl, dl_mul Rm n3, mul_dl Rm n3]
theorem law_all : LawAll := fun n g U hg hU => by
  have G := gram_facts hg
  have n1 := G.d.n1
  have n3 := G.d.n3
  obtain ⟨V, B⟩ := basis_facts n1 n3 hU
  have Mm := law_mv G B
  have Mg := G.d.mv fun r hr x hx => Nat.le_trans (G.b r hr x hx) (by decide)
  obtain ⟨Dt, bt⟩ := third_facts G
  have Mt := Dt.mv bt
  obtain ⟨om, fm, Fm⟩ := Mm.levels
  obtain ⟨og, fg, Fg⟩ := Mg.levels
  obtain ⟨ot, ft, Ft⟩ := Mt.levels
  obtain ⟨em, corr, el⟩ := Mm.fin_corr Fm Fg
  obtain ⟨P, M, K⟩ := maps_gen Mm Mg Fm Fg em
  obtain ⟨P2, M2, K2⟩ := maps_gen Mg Mm Fg Fm em.symm
  have fe := fn2_moved G.d.R B.RU n1 n3
  have fP := Fm.x P K.p
  have RP : Rect P n n := ⟨fP.l, fP.r⟩
  have RY : ∀ Y ∈ fg, Rect Y n n := fun Y hY => ⟨(Fg.x Y hY).l, (Fg.x Y hY).r⟩
  have Ri := inv_rect P n
  have mapR : ∀ Y : Mx, Rect ((invM P n).map (act Y n)) n n := fun Y => ⟨by rw [List.length_map, Ri.h], rows_act _ _ _⟩
  refine ⟨fun r hr x hx => ?_, B.RU, Mg.lat, Mm.lat, ⟨M, K.i, ?_, by rw [K.l]; exact Fg.c, fun X hX => ?_, K.o, ⟨fg, Fg.bases, K.l.symm⟩, ⟨fm, Fm.bases, by rw [el, K.l]⟩, M2, K2.i, by rw [K2.l, K.l, el]⟩, Mt.lat, ⟨_, _, Mg.form Fg, ?_, Mt.form Ft, fun e => ?_⟩⟩
  · have h := B.r r hr
    obtain ⟨i, hi, rfl⟩ := cf_mem hx
    unfold sq3 at h
    have s0 := sqn (cf r 0)
    have s1 := sqn (cf r 1)
    have s2 := sqn (cf r 2)
    have rl := B.RU.w r hr
    have : cf r i * cf r i ≤ 37 := by
      have c : i = 0 ∨ i = 1 ∨ i = 2 := by omega
      rcases c with rfl | rfl | rfl <;> omega
    have : (cf r i).natAbs ≤ 35 := sq35 (K := 0) (by omega)
    omega
  · refine (K.m U).mpr ⟨P.map (act U n), (corr P fP.r).mp K.p, ?_⟩
    have hY := (corr P fP.r).mp K.p
    refine rect_ext2 B.RU (mapR _) ?_
    rw [fn2_act (RY _ hY), fn2_act B.RU, ← mul3_assoc, K.v1, dl_mul B.RU n3]
  · obtain ⟨Y, hY, rfl⟩ := (K.m X).mp hX
    refine ⟨mapR Y, fun r hr x hx => ?_, ?_⟩
    · obtain ⟨q, hq, rfl⟩ := List.mem_map.mp hr
      obtain ⟨j, hj, rfl⟩ := cf_mem hx
      rw [cf_act (RY Y hY)]
      have by17 : BdM Y 17 := fun r hr x hx => Mg.lt.small ((RY Y hY).w r hr) (Fg.b Y hY r hr) x hx
      have bq : ∀ k, (cf q k).natAbs ≤ 29478 := fun k => by
        by_cases h : k < q.length
        · exact K.vb q hq _ (mem_cf h)
        · rw [cf_out (by omega)]; exact Nat.zero_le _
      have h0 := mulB (bq 0) (by17.at 0 j)
      have h1 := mulB (bq 1) (by17.at 1 j)
      have h2 := mulB (bq 2) (by17.at 2 j)
      omega
    · refine rect_ext2 (moved_rect (mapR Y)) (moved_rect B.RU) ?_
      rw [fn2_moved G.d.R (mapR Y) n1 n3]
      refine moved_by_map n1 n3 Mm.R (Fg.gram Mg hY) ?_ K.v1 (fn2_act (RY Y hY) _)
      rw [← em]
      exact Fm.gram Mm K.p
  · rw [← em]
    exact Mm.form Fm
  · have h1 := det_gram Mg Fg
    have h2 := det_gram Mt Ft
    rw [← e, h1] at h2
    exact det_third G h2.symm
/-! ### the pair that is not alike -/
theorem at_3 {a b c d e f g h i : Int} : ∀ x y : Nat, at2 [[a, b, c], [d, e, f], [g, h, i]] x y = if x = 0 then (if y = 0 then a else if y = 1 then b else if y = 2 then c else 0) else if x = 1 then (if y = 0 then d else if y = 1 then e else if y = 2 then f else 0) else if x = 2 then (if y = 0 then g else if y = 1 then h else if y = 2 then i else 0) else 0 := fun x y => by
  have R : Rect [[a, b, c], [d, e, f], [g, h, i]] 3 3 := ⟨rfl, fun r hr => by
    simp only [List.mem_cons, List.not_mem_nil, or_false] at hr
    rcases hr with rfl | rfl | rfl <;> rfl⟩
  by_cases c : x < 3 ∧ y < 3
  · have cx : x = 0 ∨ x = 1 ∨ x = 2 := by omega
    have cy : y = 0 ∨ y = 1 ∨ y = 2 := by omega
    rcases cx with rfl | rfl | rfl <;> rcases cy with rfl | rfl | rfl <;> rfl
  · rw [at_out R c]
    (repeat' split) <;> first | rfl | omega
theorem un_dkA {p q : Int} (p0 : 2 ≤ p) (p1 : p ≤ 4) (q0 : 2 ≤ q) (q1 : q ≤ 4) : Dk (unA p q) 3 ∧ BdM (unA p q) 1000 := by
  have R : Rect (unA p q) 3 3 := ⟨rfl, fun r hr => by
    simp only [unA, List.mem_cons, List.not_mem_nil, or_false] at hr
    rcases hr with rfl | rfl | rfl <;> rfl⟩
  refine ⟨⟨R, by decide, by decide, fun i k => ?_, fun i k h => ?_, ?_, fun _ => ?_, fun _ => ?_, fun i hi => ?_⟩, bdm_of R fun i k hi hk => ?_⟩
  · unfold unA; rw [at_3, at_3]; by_cases a0 : i = 0 <;> by_cases a1 : i = 1 <;> by_cases a2 : i = 2 <;> by_cases b0 : k = 0 <;> by_cases b1 : k = 1 <;> by_cases b2 : k = 2 <;> simp_all
  · unfold unA; rw [at_3]; (repeat' split) <;> omega
  · show 1 + ab (-1) + ab 0 ≤ p
    have : ab (-1) = 1 := rfl
    have : ab 0 = 0 := rfl
    omega
  · show 1 + ab (-1) + ab 0 ≤ q
    have : ab (-1) = 1 := rfl
    have : ab 0 = 0 := rfl
    omega
  · show 1 + ab 0 + ab 0 ≤ p + q
    have : ab 0 = 0 := rfl
    omega
  · unfold unA; rw [at_3]; (repeat' split) <;> omega
  · unfold unA; rw [at_3]; (repeat' split) <;> omega
theorem un_dkB {p q : Int} (p0 : 2 ≤ p) (p1 : p ≤ 4) (q0 : 2 ≤ q) (q1 : q ≤ 4) : Dk (unB p q) 3 ∧ BdM (unB p q) 1000 := by
  have R : Rect (unB p q) 3 3 := ⟨rfl, fun r hr => by
    simp only [unB, List.mem_cons, List.not_mem_nil, or_false] at hr
    rcases hr with rfl | rfl | rfl <;> rfl⟩
  refine ⟨⟨R, by decide, by decide, fun i k => ?_, fun i k h => ?_, ?_, fun _ => ?_, fun _ => ?_, fun i hi => ?_⟩, bdm_of R fun i k hi hk => ?_⟩
  · unfold unB; rw [at_3, at_3]; by_cases a0 : i = 0 <;> by_cases a1 : i = 1 <;> by_cases a2 : i = 2 <;> by_cases b0 : k = 0 <;> by_cases b1 : k = 1 <;> by_cases b2 : k = 2 <;> simp_all
  · unfold unB; rw [at_3]; (repeat' split) <;> omega
  · show 1 + ab 0 + ab (-1) ≤ p
    have : ab (-1) = 1 := rfl
    have : ab 0 = 0 := rfl
    omega
  · show 1 + ab 0 + ab (-1) ≤ q
    have : ab (-1) = 1 := rfl
    have : ab 0 = 0 := rfl
    omega
  · show 1 + ab (-1) + ab (-1) ≤ p + q
    have : ab (-1) = 1 := rfl
    omega
  · unfold unB; rw [at_3]; (repeat' split) <;> omega
  · unfold unB; rw [at_3]; (repeat' split) <;> omega
/-- two orthogonal vectors of norms p and q are not in the first one -/
theorem un_core {p q x y z u v w : Int} (p0 : 2 ≤ p) (q0 : 2 ≤ q) (h1 : p * (x * x) + q * (y * y) + (p + q) * (z * z) - 2 * (x * y) = p) (h2 : p * (u * u) + q * (v * v) + (p + q) * (w * w) - 2 * (u * v) = q) (h3 : p * (x * u) + q * (y * v) + (p + q) * (z * w) - x * v - y * u = 0) : False := by
  have flat : ∀ a b c s : Int, p * (a * a) + q * (b * b) + (p + q) * (c * c) - 2 * (a * b) = s → s < p + q → c = 0 := fun a b c s h hs => by
    apply Classical.byContradiction
    intro n
    have c1 : 1 ≤ c * c := by
      have := sqn c
      have : c * c ≠ 0 := fun e => (Int.mul_eq_zero.mp e).elim n n
      omega
    have k1 : (p + q) * 1 ≤ (p + q) * (c * c) := Int.mul_le_mul_of_nonneg_left c1 (by omega)
    have k2 : 1 * (a * a) ≤ p * (a * a) := Int.mul_le_mul_of_nonneg_right (by omega) (sqn a)
    have k3 : 1 * (b * b) ≤ q * (b * b) := Int.mul_le_mul_of_nonneg_right (by omega) (sqn b)
    have k4 := sqn (a - b)
    have k5 : (a - b) * (a - b) = a * a - 2 * (a * b) + b * b := by grind
    omega
  have z0 := flat x y z p h1 (by omega)
  have w0 := flat u v w q h2 (by omega)
  subst z0 w0
  have e : (p * (x * x) + q * (y * y) + (p + q) * (0 * 0) - 2 * (x * y)) * (p * (u * u) + q * (v * v) + (p + q) * (0 * 0) - 2 * (u * v)) - (p * (x * u) + q * (y * v) + (p + q) * (0 * 0) - x * v - y * u) * (p * (x * u) + q * (y * v) + (p + q) * (0 * 0) - x * v - y * u) = (p * q - 1) * ((x * v - y * u) * (x * v - y * u)) := by grind
  rw [h1, h2, h3] at e
  have pq : 2 * 2 ≤ p * q := Int.mul_le_mul p0 q0 (by omega) (by omega)
  generalize hk : (x * v - y * u) * (x * v - y * u) = k at e
  have k0 : 0 ≤ k := by rw [← hk]; exact sqn _
  generalize p * q = d at *
  rcases Int.lt_or_le k 2 with c | c
  · have : k = 0 ∨ k = 1 := by omega
    rcases this with rfl | rfl <;> omega
  · have : (d - 1) * 2 ≤ (d - 1) * k := Int.mul_le_mul_of_nonneg_left c (by omega)
    omega
theorem un_ne {p q : Int} (p0 : 2 ≤ p) (p1 : p ≤ 4) (q0 : 2 ≤ q) (q1 : q ≤ 4) {oa ob : List Lv} {fa fb : List Mx} (A : Fin (unA p q) 3 oa fa) (B : Fin (unB p q) 3 ob fb) : gramM (oa.map (·.1)) 3 ≠ gramM (ob.map (·.1)) 3 := fun e => by
  obtain ⟨DA, bA⟩ := un_dkA p0 p1 q0 q1
  obtain ⟨DB, bB⟩ := un_dkB p0 p1 q0 q1
  have MA := DA.mv bA
  have MB := DB.mv bB
  obtain ⟨X, hX⟩ := List.exists_mem_of_ne_nil fa A.ne
  obtain ⟨Y, hY⟩ := List.exists_mem_of_ne_nil fb B.ne
  have fX := A.x X hX
  have fY := B.x Y hY
  have RX : Rect X 3 3 := ⟨fX.l, fX.r⟩
  have RY : Rect Y 3 3 := ⟨fY.l, fY.r⟩
  obtain ⟨v1, v2⟩ := inv_mul RY (by decide) (by decide) (det_unit RY (by decide) (by decide) fY.s)
  have gA := A.gram MA hX
  have gB := B.gram MB hY
  rw [← e] at gB
  have Rw : Rect ((invM Y 3).map (act X 3)) 3 3 := ⟨by rw [List.length_map, (inv_rect Y 3).h], rows_act _ _ _⟩
  have key := moved_by_map (X := (invM Y 3).map (act X 3)) (by decide) (by decide) MB.R gA gB v1 (fn2_act RX _)
  generalize hW : fn2 ((invM Y 3).map (act X 3)) = W at key
  have k : ∀ i j, mul3 (mul3 W (fn2 (unA p q))) (tp W) i j = fn2 (unB p q) i j := fun i j => by rw [key]
  have k00 := k 0 0
  have k11 := k 1 1
  have k01 := k 0 1
  have b00 : fn2 (unB p q) 0 0 = p := rfl
  have b11 : fn2 (unB p q) 1 1 = q := rfl
  have b01 : fn2 (unB p q) 0 1 = 0 := rfl
  have a00 : fn2 (unA p q) 0 0 = p := rfl
  have a01 : fn2 (unA p q) 0 1 = -1 := rfl
  have a02 : fn2 (unA p q) 0 2 = 0 := rfl
  have a10 : fn2 (unA p q) 1 0 = -1 := rfl
  have a11 : fn2 (unA p q) 1 1 = q := rfl
  have a12 : fn2 (unA p q) 1 2 = 0 := rfl
  have a20 : fn2 (unA p q) 2 0 = 0 := rfl
  have a21 : fn2 (unA p q) 2 1 = 0 := rfl
  have a22 : fn2 (unA p q) 2 2 = p + q := rfl
  unfold mul3 tp at k00 k11 k01
  rw [a00, a01, a02, a10, a11, a12, a20, a21, a22] at k00 k11 k01
  rw [b00] at k00
  rw [b11] at k11
  rw [b01] at k01
  generalize W 0 0 = x at *
  generalize W 0 1 = y at *
  generalize W 0 2 = z at *
  generalize W 1 0 = u at *
  generalize W 1 1 = v at *
  generalize W 1 2 = w at *
  refine un_core (x := x) (y := y) (z := z) (u := u) (v := v) (w := w) p0 q0 ?_ ?_ ?_
  · refine Eq.trans ?_ k00; grind
  · refine Eq.trans ?_ k11; grind
  · refine Eq.trans ?_ k01; grind
theorem un_all : UnAll := fun p q p0 p1 q0 q1 => by
  obtain ⟨DA, bA⟩ := un_dkA p0 p1 q0 q1
  obtain ⟨DB, bB⟩ := un_dkB p0 p1 q0 q1
  have MA := DA.mv bA
  have MB := DB.mv bB
  obtain ⟨oa, fa, A⟩ := MA.levels
  obtain ⟨ob, fb, B⟩ := MB.levels
  have ne := un_ne p0 p1 q0 q1 A B
  exact ⟨MA.lat, MB.lat, ⟨_, _, MA.form A, MB.form B, ne⟩, maps_none MA MB A B ne, maps_none MB MA B A (Ne.symm ne)⟩
end K24
set_option Elab.async false
set_option linter.all false
set_option maxRecDepth 100000
set_option maxHeartbeats 4000000
set_option autoImplicit false
namespace K24
open PySem PySem.Spec PyProof.Rows L2
/-- the law's promise, as the head wants it -/
theorem law_end (hU : UnAll) (hA : LawAll) {P : Program} {w : World} {mg : Str → Option Value} {fa' : Addr} {h : Heap} {K : PySem.W.Frag} (KX : K.In h) (c : He.SaysD fa fn K) (q : exQ K = true) (G : h.Ns mainGlobals mg) (hmg : mg "law" = some (.ref fa')) :
    ∃ (K : PySem.W.Frag) (fd : FuncData) (sp : Sp), K.In h ∧ (∀ (s : Shared) (u : Value), BindsTo s fd ⟨[u], []⟩ [("_law_script", u)]) ∧
      (∀ (H : Hp) (a : Addr) (ns : List Int), ns.length ≤ 63 → Only H → SqL K H a (ns.map V.int) → sp [.ref a] H (fun v _ => v = .bl true) fun _ _ _ => False) ∧
      ∀ base : Heap, K.In base → base.Ns mainGlobals mg → FnOk P w K mg base CX0 20 fa' fd ["_law_script"] sp := by
  have T : Tx K mg := ⟨c, q, h, KX, G⟩
  obtain ⟨fd, FF⟩ := T.c.def_ 45 (d := d_law) rfl
  have e2 : d_law.kws K = [] := rfl
  have e1 : d_law.dvs K = [] := rfl
  rw [e1, e2] at FF
  have hfa : He.fAd K d_law.at_ = fa' := by
    have := T.glo 45 (x := "law") rfl
    rw [hmg] at this
    have := Option.some.inj this
    injection this with this
    exact this.symm
  subst hfa
  refine ⟨K, fd, spP (c_law K), KX, fun s u => ?_, fun H a ns hl hO hS => ?_, fun base hb hn => ?_⟩
  · exact FF.bindsA (ps := ["_law_script"]) (fun _ _ _ _ _ _ us hl => match us, hl with | [_], _ => rfl) s [u] rfl
  · exact ⟨H, pB true, Same.refl _, ⟨.ref a, ns, rfl, ⟨a, rfl, hS⟩, hl, hU, hA, rfl⟩, fun v F' H' g p => p⟩
  · have ok : FnOk P w K mg base CX0 15 _ fd ["_law_script"] (spP (c_law K)) := FF.ok sc_law (fun vs H Q E ⟨F, R, _, ⟨_, _, e, _⟩, _⟩ => by rw [e]; rfl) fun cdv A outer s H vs Q E hr ⟨F, R, sm, hc, q⟩ => ⟨WSs (cxD P w K mg base lawN d_law cdv A outer s H E) d_law.body, PSs.nox pss_w,
      WSs.imp (body_law T cdv A outer s H E hr vs F R sm hc) (fun σ H' ⟨F', _, g, p⟩ => q _ F' H' g p) (fun v H' ⟨F', _, g, p⟩ => q v F' H' g p) (fun _ _ ⟨_, _, h⟩ => h.elim) (fun _ _ ⟨_, _, h⟩ => h.elim)⟩
    exact ok.mono (by decide)
end K24
set_option Elab.async false
set_option linter.all false
set_option maxRecDepth 100000
set_option maxHeartbeats 0
open PySem PySem.W PySem.Calls PyProof.Rows
theorem PySem.Challenge.cw_gridmetric_k24_whole_maps_by_witness_holds : PySem.Challenge.rw_gridmetric_k24_whole_maps_by_witness.Holds := by
  w_on; o_law
  refine HandSHeadRun.head_imp (r := OpenLaw.row PySem.Challenge.rw_gridmetric_k24_whole_maps_by_witness) (q := view (OpenLaw.row PySem.Challenge.rw_gridmetric_k24_whole_maps_by_witness).prog [0, 65]) (H := K24.hk) (ob := K24.ob) (M := 4000) (loose := K24.loose) (d := HandSHeadRun.topDef (OpenLaw.row PySem.Challenge.rw_gridmetric_k24_whole_maps_by_witness).prog 65) (kwd := []) K24.ob_eq
    K24.run (by kernel_rfl) (by kernel_rfl) (by kernel_rfl) (by rfl) (by first | assumption | decide +kernel) (by decide +kernel) ⟨rfl, rfl, rfl, rfl, rfl, by decide +kernel⟩ ?hw ?hc
  case hw => w_witness2
  case hc =>
    refine L2.walk_ofE (l := PySem.Challenge.rw_gridmetric_k24_whole_maps_by_witness) (n := 63) (k := 20) (x := "_law_script") (CX := L2.CX0) rfl (by decide) (by kernel_rfl) ⟨rfl, by decide, by decide⟩ ?F (fun _ _ _ _ z => z)
    intro w mg fa h Y G hmg0
    obtain ⟨K, KX, c, q⟩ := Y
    have hmg : mg ("law" : PySem.Str) = some (.ref fa) := by
      have e : (HandSHeadRun.topDef (OpenLaw.row PySem.Challenge.rw_gridmetric_k24_whole_maps_by_witness).prog 65).name = ("law" : PySem.Str) := by kernel_rfl
      rw [← e]
      exact hmg0
    exact K24.law_end K24.un_all K24.law_all KX c q G hmg
