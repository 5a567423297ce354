import PyProof.Rows.All
import Wide.All
import OpenK.AllK
import Wide.FinOn
import HandS.Base
import HandS.Call
import HandS.Ends
import HandS.More
import HandS.Words
import HandS.WordsExc
import HandS.Defaults
import HandS.Head0
import HandS.Head1
import HandS.Head2
import HandS.HeadEnd
import HandS.HeadHook1
import HandS.HeadHook2
import HandS.HeadHook4
import HandS.Head4
import HandS.EndTab
import PySem.Challenge.RW_onearrow_k79_whole_all_boards_in_order
import KE.DatumOrd
import HandS.ForMost
import HandS.ForExc
import HandS.TupAny
import HandS.Style
import HandS.Evl
import HandS.Lambda
import HandS.Conv
import HandS.Deep
import HandS.IsInst
import KE.SortData
import KE.SortKeyHeap
import KE.KDictKeyed
import HandS.SortOrd
import HandS.Dict
import HandS.Iter
import KE.KDictSum
import KE.KSortKey
import HandS.SetFor
import HandS.TryMany
import HandS.HeadWalk
set_option Elab.async false
set_option linter.all false
set_option maxRecDepth 100000
set_option maxHeartbeats 0
namespace Oa
open PySem PySem.Spec PyProof.Rows L2
def top (i : Nat) : Stmt := PySem.Challenge.pw_onearrow_k79_whole_all_boards_in_order.main.body.getD i (.Pass ⟨0, 0, 0, 0⟩)
abbrev S_is_integer : Stmt := top 4
abbrev S_is_between : Stmt := top 5
abbrev S_check_number : Stmt := top 6
abbrev S_divisor : Stmt := top 7
abbrev S_parting : Stmt := top 8
abbrev S_falling : Stmt := top 9
abbrev S_joined : Stmt := top 11
abbrev S_first_turn : Stmt := top 13
abbrev S_size_of : Stmt := top 15
abbrev S_turned_least : Stmt := top 16
abbrev S_from_kinds : Stmt := top 20
abbrev S_tree_counts : Stmt := top 21
abbrev S_convolved : Stmt := top 22
abbrev S_all_row_counts : Stmt := top 23
abbrev S_spread_out : Stmt := top 24
abbrev S_coprime_many : Stmt := top 25
abbrev S_piece_counts : Stmt := top 26
abbrev S_heaps_many : Stmt := top 27
abbrev S_lots_of : Stmt := top 28
abbrev S_trees_of_size : Stmt := top 29
abbrev S_rows_of_size : Stmt := top 30
abbrev S_pieces_of_size : Stmt := top 31
abbrev S_rows_of_pieces : Stmt := top 32
abbrev S_heaps_of_size : Stmt := top 33
abbrev S_all_heaps : Stmt := top 34
abbrev S_tests_to : Stmt := top 37
abbrev S_tests : Stmt := top 38
abbrev S_l_hand : Stmt := top 40
abbrev S_l_draw : Stmt := top 41
abbrev S_l_is_integer : Stmt := top 42
abbrev S_l_shuffled : Stmt := top 43
abbrev S_l_moved : Stmt := top 44
abbrev S_l_board : Stmt := top 45
abbrev S_l_ring_places : Stmt := top 46
abbrev S_l_row : Stmt := top 47
abbrev S_l_hanging : Stmt := top 48
abbrev S_l_least : Stmt := top 49
abbrev S_l_heap : Stmt := top 50
abbrev S_l_branches : Stmt := top 51
abbrev S_l_is_tree : Stmt := top 52
abbrev S_l_is_piece : Stmt := top 53
abbrev S_l_number_board : Stmt := top 54
abbrev S_l_falling : Stmt := top 55
abbrev S_l_is_heap : Stmt := top 56
abbrev S_l_ways : Stmt := top 57
abbrev S_l_selves : Stmt := top 58
abbrev S_l_all_rows : Stmt := top 59
abbrev S_l_tests : Stmt := top 60
abbrev S_l_word : Stmt := top 61
abbrev S_law : Stmt := top 62
def mkD (n : Str) (s : Stmt) : He.DefD := ⟨(n, none), n, n, defArgs s, defBody s, defScope s, [], []⟩
def fn : List He.DefD := [mkD "is_integer" S_is_integer, mkD "is_between" S_is_between, mkD "check_number" S_check_number, mkD "divisor" S_divisor, mkD "parting" S_parting, mkD "falling" S_falling, mkD "joined" S_joined, mkD "first_turn" S_first_turn, mkD "size_of" S_size_of, mkD "turned_least" S_turned_least, mkD "from_kinds" S_from_kinds, mkD "tree_counts" S_tree_counts, mkD "convolved" S_convolved, mkD "all_row_counts" S_all_row_counts, mkD "spread_out" S_spread_out, mkD "coprime_many" S_coprime_many, mkD "piece_counts" S_piece_counts, mkD "heaps_many" S_heaps_many, mkD "lots_of" S_lots_of, mkD "trees_of_size" S_trees_of_size, mkD "rows_of_size" S_rows_of_size, mkD "pieces_of_size" S_pieces_of_size, mkD "rows_of_pieces" S_rows_of_pieces, mkD "heaps_of_size" S_heaps_of_size, mkD "all_heaps" S_all_heaps, mkD "tests_to" S_tests_to, mkD "tests" S_tests, mkD "_law_hand" S_l_hand, mkD "_law_draw" S_l_draw, mkD "_law_is_integer" S_l_is_integer, mkD "_law_shuffled" S_l_shuffled, mkD "_law_moved" S_l_moved, mkD "_law_board" S_l_board, mkD "_law_ring_places" S_l_ring_places, mkD "_law_row" S_l_row, mkD "_law_hanging" S_l_hanging, mkD "_law_least" S_l_least, mkD "_law_heap" S_l_heap, mkD "_law_branches" S_l_branches, mkD "_law_is_tree" S_l_is_tree, mkD "_law_is_piece" S_l_is_piece, mkD "_law_number_board" S_l_number_board, mkD "_law_falling" S_l_falling, mkD "_law_is_heap" S_l_is_heap, mkD "_law_ways" S_l_ways, mkD "_law_selves" S_l_selves, mkD "_law_all_rows" S_l_all_rows, mkD "_law_tests" S_l_tests, mkD "_law_word" S_l_word, mkD "law" S_law]
def fa0 : List He.Fa := [.glo "is_integer", .glo "is_between", .glo "check_number", .glo "divisor", .glo "parting", .glo "falling", .glo "joined", .glo "first_turn", .glo "size_of", .glo "turned_least", .glo "from_kinds", .glo "tree_counts", .glo "convolved", .glo "all_row_counts", .glo "spread_out", .glo "coprime_many", .glo "piece_counts", .glo "heaps_many", .glo "lots_of", .glo "trees_of_size", .glo "rows_of_size", .glo "pieces_of_size", .glo "rows_of_pieces", .glo "heaps_of_size", .glo "all_heaps", .glo "tests_to", .glo "tests", .glo "_law_hand", .glo "_law_draw", .glo "_law_is_integer"]
def fa1 : List He.Fa := [.glo "_law_shuffled", .glo "_law_moved", .glo "_law_board", .glo "_law_ring_places", .glo "_law_row", .glo "_law_hanging", .glo "_law_least", .glo "_law_heap", .glo "_law_branches", .glo "_law_is_tree", .glo "_law_is_piece", .glo "_law_number_board", .glo "_law_falling", .glo "_law_is_heap", .glo "_law_ways", .glo "_law_selves", .glo "_law_all_rows", .glo "_law_tests", .glo "_law_word", .glo "law", .glo "ArrowError", .glo "NoNumber", .exc "ArrowError", .exc "NoNumber", .exm "NoNumber" "NoNumber" true, .int "MOST_COUNTED" 120, .int "MOST_LISTED" 7, .int "MOST_TESTED" 7, .free "isinstance", .free "int"]
def fa2 : List He.Fa := [.free "bool", .free "len", .free "range", .free "sorted", .free "tuple", .free "sum", .free "enumerate", .free "zip", .free "abs", .free "list", .free "min", .free "all", .free "dict"]
def fa : List He.Fa := fa0 ++ fa1 ++ fa2
def nm0 : List PySem.Str := ["__name__", "ArrowError", "NoNumber", "is_integer", "is_between", "check_number", "divisor", "parting", "falling", "joined", "first_turn", "size_of", "turned_least", "from_kinds", "tree_counts", "convolved", "all_row_counts", "spread_out", "coprime_many", "piece_counts", "heaps_many", "lots_of", "trees_of_size", "rows_of_size", "pieces_of_size", "rows_of_pieces", "heaps_of_size", "all_heaps", "tests_to", "tests"]
def nm1 : List PySem.Str := ["_law_hand", "_law_draw", "_law_is_integer", "_law_shuffled", "_law_moved", "_law_board", "_law_ring_places", "_law_row", "_law_hanging", "_law_least", "_law_heap", "_law_branches", "_law_is_tree", "_law_is_piece", "_law_number_board", "_law_falling", "_law_is_heap", "_law_ways", "_law_selves", "_law_all_rows", "_law_tests", "_law_word", "MOST_COUNTED", "MOST_LISTED", "MOST_TESTED"]
def names : List PySem.Str := nm0 ++ nm1
abbrev R : PySem.W.OpenRow := PySem.W.OpenLaw.row PySem.Challenge.rw_onearrow_k79_whole_all_boards_in_order
def tf : List He.Defn := [("trees_of_size", none)]
abbrev hk : PySem.W.Hook := He.hookX 4 fa fn [] tf (fun _ => true)
def ob (s : PySem.W.SharedT) : He.AlX := He.obsX 4 fa fn [] tf (fun _ => true) (HandSHeadRun.getT s)
theorem ob_eq (s : PySem.W.SharedT) : ob s = hk.obs s.abs := He.obsX_eq (HandSHeadRun.getT_eq s)
theorem run (w : World) : HandSHeadRun.RunEq R (PySem.W.view R.prog [62]) hk ob 4000 names w := by
  intro os
  kernel_rfl
end Oa
set_option Elab.async false
set_option maxRecDepth 100000
/-! Plain: insertion sort, strict total orders. -/
namespace Oa
/-- a strict total order as a Bool -/
structure Sto {α : Type} (lt : α → α → Bool) : Prop where
  irr : ∀ a, lt a a = false
  tr : ∀ a b c, lt a b = true → lt b c = true → lt a c = true
  tri : ∀ a b, lt a b = true ∨ a = b ∨ lt b a = true
section
variable {α : Type} {lt : α → α → Bool}
theorem Sto.asym (O : Sto lt) {a b : α} (h : lt a b = true) : lt b a = false := by
  cases q : lt b a with
  | false => rfl
  | true => rw [← O.irr a, O.tr a b a h q]
/-- x ahead of the first that is not less -/
def ins (lt : α → α → Bool) (x : α) : List α → List α
  | [] => [x]
  | y :: ys => if lt y x = true then y :: ins lt x ys else x :: y :: ys
def isort (lt : α → α → Bool) : List α → List α
  | [] => []
  | x :: xs => ins lt x (isort lt xs)
abbrev le (lt : α → α → Bool) : α → α → Bool := fun a b => !lt b a
abbrev Up (lt : α → α → Bool) (l : List α) : Prop := l.Pairwise fun a b => lt b a = false
theorem ins_perm (x : α) : ∀ l : List α, (ins lt x l).Perm (x :: l)
  | [] => .refl _
  | y :: ys => by
    unfold ins
    split
    · exact ((ins_perm x ys).cons y).trans (List.Perm.swap x y ys)
    · exact .refl _
theorem isort_perm : ∀ l : List α, (isort lt l).Perm l
  | [] => .refl _
  | x :: xs => (ins_perm x _).trans ((isort_perm xs).cons x)
theorem isort_len (l : List α) : (isort lt l).length = l.length := (isort_perm l).length_eq
theorem isort_mem {l : List α} {x : α} : x ∈ isort lt l ↔ x ∈ l := (isort_perm l).mem_iff
theorem ins_up (O : Sto lt) (x : α) : ∀ {l : List α}, Up lt l → Up lt (ins lt x l)
  | [], _ => List.pairwise_singleton _ _
  | y :: ys, h => by
    obtain ⟨h1, h2⟩ := List.pairwise_cons.mp h
    unfold ins
    split
    · rename_i q
      refine List.pairwise_cons.mpr ⟨fun z hz => ?_, ins_up O x h2⟩
      rcases List.mem_cons.mp ((ins_perm x ys).mem_iff.mp hz) with e | hz
      · rw [e]; exact O.asym q
      · exact h1 z hz
    · rename_i q
      have q' : lt y x = false := by simpa using q
      refine List.pairwise_cons.mpr ⟨fun z hz => ?_, h⟩
      rcases List.mem_cons.mp hz with e | hz
      · rw [e]; exact q'
      · have hy := h1 z hz
        cases k : lt z x with
        | false => rfl
        | true =>
          rcases O.tri y z with t | t | t
          · rw [O.tr y z x t k] at q'; cases q'
          · rw [t, k] at q'; cases q'
          · rw [t] at hy; cases hy
theorem isort_up (O : Sto lt) : ∀ l : List α, Up lt (isort lt l)
  | [] => List.Pairwise.nil
  | x :: xs => ins_up O x (isort_up O xs)
theorem up_unique (O : Sto lt) : ∀ {l m : List α}, Up lt l → Up lt m → l.Perm m → l = m
  | [], m, _, _, p => (List.Perm.nil_eq p)
  | x :: xs, m, hl, hm, p => by
    cases m with
    | nil => exact absurd p.length_eq (by simp)
    | cons y ys =>
      obtain ⟨h1, h2⟩ := List.pairwise_cons.mp hl
      obtain ⟨k1, k2⟩ := List.pairwise_cons.mp hm
      have e : x = y := by
        rcases List.mem_cons.mp (p.mem_iff.mp List.mem_cons_self) with e | hx
        · exact e
        · rcases List.mem_cons.mp (p.mem_iff.mpr List.mem_cons_self) with e | hy
          · exact e.symm
          · have a := h1 y hy
            have b := k1 x hx
            rcases O.tri x y with t | t | t
            · rw [t] at b; cases b
            · exact t
            · rw [t] at a; cases a
      subst e
      rw [up_unique O h2 k2 (List.perm_cons x |>.mp p)]
theorem le_trans' (O : Sto lt) (a b c : α) (h1 : le lt a b = true) (h2 : le lt b c = true) : le lt a c = true := by
  have h1' : lt b a = false := by simpa [le] using h1
  have h2' : lt c b = false := by simpa [le] using h2
  show (!lt c a) = true
  cases q : lt c a with
  | false => rfl
  | true =>
    rcases O.tri b c with t | t | t
    · rw [O.tr b c a t q] at h1'; cases h1'
    · subst t; rw [q] at h1'; cases h1'
    · rw [t] at h2'; cases h2'
theorem le_total' (O : Sto lt) (a b : α) : (le lt a b || le lt b a) = true := by
  show ((!lt b a) || (!lt a b)) = true
  cases q : lt b a with
  | false => rfl
  | true => rw [O.asym q]; rfl
theorem mergeSort_eq (O : Sto lt) (l : List α) : l.mergeSort (le lt) = isort lt l := by
  refine up_unique O ?_ (isort_up O l) ((List.mergeSort_perm l (le lt)).trans (isort_perm l).symm)
  have h := List.pairwise_mergeSort (le := le lt) (fun a b c => le_trans' O a b c) (fun a b => le_total' O a b) l
  refine h.imp fun {a b} h => ?_
  have h' : (!lt b a) = true := h
  simpa using h'
end
end Oa
open PySem.W
namespace Oa
theorem sto_int : Sto (DatumOrd.lt : Int → Int → Bool) where
  irr a := by show decide (a < a) = false; simp
  tr a b c h1 h2 := by
    have h1' : a < b := of_decide_eq_true h1
    have h2' : b < c := of_decide_eq_true h2
    exact decide_eq_true (by omega)
  tri a b := by
    rcases Int.lt_trichotomy a b with h | h | h
    · exact .inl (decide_eq_true h)
    · exact .inr (.inl h)
    · exact .inr (.inr (decide_eq_true h))
section
variable {α : Type} [DecidableEq α] [DatumOrd α]
theorem listLt_irr (O : Sto (DatumOrd.lt : α → α → Bool)) : ∀ a : List α, listLt a a = false
  | [] => rfl
  | x :: xs => by unfold listLt; rw [if_pos rfl]; exact listLt_irr O xs
theorem listLt_tr (O : Sto (DatumOrd.lt : α → α → Bool)) : ∀ a b c : List α, listLt a b = true → listLt b c = true → listLt a c = true
  | [], [], _, h, _ => by simp [listLt] at h
  | [], _ :: _, [], _, h => by simp [listLt] at h
  | [], _ :: _, _ :: _, _, _ => rfl
  | _ :: _, [], _, h, _ => by simp [listLt] at h
  | _ :: _, _ :: _, [], _, h => by simp [listLt] at h
  | x :: xs, y :: ys, z :: zs, h1, h2 => by
    unfold listLt at h1 h2 ⊢
    by_cases e1 : x = y
    · subst e1
      rw [if_pos rfl] at h1
      by_cases e2 : x = z
      · subst e2
        rw [if_pos rfl] at h2
        rw [if_pos rfl]
        exact listLt_tr O xs ys zs h1 h2
      · rw [if_neg e2] at h2
        rw [if_neg e2]
        exact h2
    · rw [if_neg e1] at h1
      by_cases e2 : y = z
      · subst e2
        rw [if_neg e1]
        exact h1
      · rw [if_neg e2] at h2
        have t := O.tr x y z h1 h2
        have ne : x ≠ z := by
          intro e
          subst e
          rw [O.irr] at t
          cases t
        rw [if_neg ne]
        exact t
theorem listLt_tri (O : Sto (DatumOrd.lt : α → α → Bool)) : ∀ a b : List α, listLt a b = true ∨ a = b ∨ listLt b a = true
  | [], [] => .inr (.inl rfl)
  | [], _ :: _ => .inl rfl
  | _ :: _, [] => .inr (.inr rfl)
  | x :: xs, y :: ys => by
    unfold listLt
    by_cases e : x = y
    · subst e
      rw [if_pos rfl, if_pos rfl]
      rcases listLt_tri O xs ys with t | t | t
      · exact .inl t
      · exact .inr (.inl (by rw [t]))
      · exact .inr (.inr t)
    · rw [if_neg e, if_neg (Ne.symm e)]
      rcases O.tri x y with t | t | t
      · exact .inl t
      · exact absurd t e
      · exact .inr (.inr t)
theorem sto_tup (O : Sto (DatumOrd.lt : α → α → Bool)) : Sto (DatumOrd.lt : Tup α → Tup α → Bool) where
  irr a := listLt_irr O a.items
  tr a b c := listLt_tr O a.items b.items c.items
  tri a b := by
    rcases listLt_tri O a.items b.items with t | t | t
    · exact .inl t
    · exact .inr (.inl (by cases a; cases b; exact congrArg Tup.mk t))
    · exact .inr (.inr t)
end
end Oa
set_option Elab.async false
set_option linter.all false
set_option maxRecDepth 100000
set_option maxHeartbeats 1000000
/-! The layer of values with a Lean type: what a value of the abstract heap stands for, and direct rules for expressions. -/
namespace Oa
open PySem PySem.Spec PyProof.Rows L2
abbrev St := L2.St

/-! ### what stays -/
/-- no table of code objects -/
def nT : HO → Bool
  | .tbl _ => false
  | _ => true
/-- the name of the one lambda of the text -/
def lamQ : Str := ("trees_of_size" : Str) ++ ".<locals>." ++ "<lambda>"
abbrev TabT (H : Hp) (P : Addr) : Prop := LamX.TabS H P lamQ
abbrev CodeO := LamX.CodeO
/-- what never changes -/
def Fix : HO → Prop
  | .tup _ => True
  | .frz _ _ => True
  | _ => False
theorem fix_nT {o : HO} (f : Fix o) : nT o = true := by
  cases o <;> first | rfl | exact f.elim
/-- all stays, but the tables, which may grow -/
structure Ex (H H' : Hp) : Prop where
  keep : ∀ a o, H a = some o → nT o = true → H' a = some o
  some' : ∀ a o, H a = some o → H' a ≠ none
  tab : ∀ P, TabT H P → TabT H' P
theorem Ex.at {H H' : Hp} (e : Ex H H') (a : Addr) (o : HO) (h : H a = some o) (nt : nT o = true := by rfl) : H' a = some o := e.keep a o h nt
instance {H H' : Hp} : CoeFun (Ex H H') fun _ => ∀ (a : Addr) (o : HO), H a = some o → (nt : nT o = true := by rfl) → H' a = some o := ⟨@Ex.at _ _⟩
theorem tab_of {H H' : Hp} {P : Addr} (h : TabT H P) (h1 : ∀ ps, H P = some (.tbl ps) → H' P = some (.tbl ps)) (h2 : ∀ c, H c = some (CodeO c lamQ) → H' c = some (CodeO c lamQ)) : TabT H' P := by
  obtain ⟨ps, a1, a2, a3⟩ := h
  refine ⟨ps, h1 ps a1, a2, fun pos cv hc => ?_⟩
  obtain ⟨c, e1, e2⟩ := a3 pos cv hc
  exact ⟨c, e1, h2 c e2⟩
/-- tuples stay -/
def Tx (H H' : Hp) : Prop := ∀ a o, Fix o → H a = some o → H' a = some o
/-- all but lists stays -/
def Lx (H H' : Hp) : Prop := ∀ a o, H a = some o → (∀ xs, o ≠ .lst xs) → nT o = true → H' a = some o
theorem Ex.tx {H H' : Hp} (e : Ex H H') : Tx H H' := fun a o f h => e.keep a o h (fix_nT f)
theorem Ex.lx {H H' : Hp} (e : Ex H H') : Lx H H' := fun a o h _ n => e.keep a o h n
theorem Lx.tx {H H' : Hp} (e : Lx H H') : Tx H H' := fun a o f h => e a o h (fun _ z => by subst z; exact f) (fix_nT f)
theorem Ex.rf (H : Hp) : Ex H H := ⟨fun _ _ h _ => h, (fun a o h z => by rw [h] at z; cases z), fun _ h => h⟩
theorem Ex.tr {H H1 H2 : Hp} (a : Ex H H1) (b : Ex H1 H2) : Ex H H2 := ⟨fun x o h n => b.keep x o (a.keep x o h n) n, (fun x o h z => by
  cases q : H1 x with
  | none => exact a.some' x o h q
  | some u => exact b.some' x u q z), fun P h => b.tab P (a.tab P h)⟩
theorem Ex.new {H : Hp} {p : Addr} {o : HO} (h : H p = none) : Ex H (upd H p o) := by
  have k : ∀ a u, H a = some u → upd H p o a = some u := fun a u e => by
    rw [upd_ne (fun z => by subst z; rw [h] at e; cases e)]
    exact e
  exact ⟨fun a u e _ => k a u e, fun a u e z => (by rw [k a u e] at z; cases z), fun P t => tab_of t (fun ps e => k _ _ e) fun c e => k _ _ e⟩
/-- a thing that is no table and no code object is another -/
theorem tab_upd {H : Hp} {d P : Addr} {o o' : HO} (h : TabT H P) (hd : H d = some o) (n : nT o = true) (nc : ∀ c q, o ≠ CodeO c q) : TabT (upd H d o') P :=
  tab_of h (fun ps e => by
    rw [upd_ne (fun z => by subst z; rw [hd] at e; cases e; cases n)]
    exact e) fun c e => by
    rw [upd_ne (fun z => by subst z; rw [hd] at e; exact nc _ _ (Option.some.inj e))]
    exact e
theorem lst_nc {xs : List V} : ∀ c q, (HO.lst xs) ≠ CodeO c q := fun c q z => by cases z
theorem Ex.mut {H H1 : Hp} {p : Addr} {vs : List V} {o : HO} (e : Ex H H1) (hp : H p = none) (h1 : H1 p = some (.lst vs)) : Ex H (upd H1 p o) := by
  have k : ∀ a u, H a = some u → a ≠ p := fun a u e z => by subst z; rw [hp] at e; cases e
  refine ⟨fun a u h n => ?_, fun a u h z => ?_, fun P t => tab_upd (e.tab P t) h1 rfl lst_nc⟩
  · rw [upd_ne (k a u h)]
    exact e.keep a u h n
  · rw [upd_ne (k a u h)] at z
    exact e.some' a u h z
theorem Tx.tr {H H1 H2 : Hp} (a : Tx H H1) (b : Tx H1 H2) : Tx H H2 := fun x o f h => b x o f (a x o f h)
theorem Lx.tr {H H1 H2 : Hp} (a : Lx H H1) (b : Lx H1 H2) : Lx H H2 := fun x o h n m => b x o (a x o h n m) n m
/-- all but what stands at P stays; no tuple stands there -/
structure Mx (P : List Addr) (H H' : Hp) : Prop where
  but' : ∀ a o, a ∉ P → H a = some o → nT o = true → H' a = some o
  nt : ∀ a ∈ P, ∀ o, Fix o → H a ≠ some o
  sm : ∀ a o, H a = some o → H' a ≠ none
  tab : ∀ Q, TabT H Q → TabT H' Q
theorem Mx.but {P : List Addr} {H H' : Hp} (m : Mx P H H') (a : Addr) (o : HO) (ha : a ∉ P) (h : H a = some o) (n : nT o = true := by rfl) : H' a = some o := m.but' a o ha h n
theorem sm_tr {H H1 H2 : Hp} (a : ∀ a o, H a = some o → H1 a ≠ none) (b : ∀ a o, H1 a = some o → H2 a ≠ none) : ∀ a o, H a = some o → H2 a ≠ none := fun x o h z => by
  cases q : H1 x with
  | none => exact a x o h q
  | some u => exact b x u q z
theorem Mx.tx {P : List Addr} {H H' : Hp} (m : Mx P H H') : Tx H H' := fun a o f h => by
  by_cases ha : a ∈ P
  · exact absurd h (m.nt a ha o f)
  · exact m.but a _ ha h (fix_nT f)
theorem Mx.tr {P : List Addr} {H H1 H2 : Hp} (a : Mx P H H1) (b : Mx P H1 H2) : Mx P H H2 := ⟨fun x o hx h n => b.but x o hx (a.but x o hx h n) n, a.nt, sm_tr a.sm b.sm, fun Q t => b.tab Q (a.tab Q t)⟩
theorem Mx.trE {P : List Addr} {H H1 H2 : Hp} (a : Mx P H H1) (b : Ex H1 H2) : Mx P H H2 := ⟨fun x o hx h n => b.keep x o (a.but x o hx h n) n, a.nt, sm_tr a.sm b.some', fun Q t => b.tab Q (a.tab Q t)⟩
theorem Mx.ofE {P : List Addr} {H H1 H2 : Hp} (a : Ex H H1) (b : Mx P H1 H2) : Mx P H H2 := ⟨fun x o hx h n => b.but x o hx (a.keep x o h n) n, fun x hx o f h => b.nt x hx o f (a.keep x _ h (fix_nT f)), sm_tr a.some' b.sm, fun Q t => b.tab Q (a.tab Q t)⟩
theorem Mx.rf {P : List Addr} {H : Hp} (n : ∀ a ∈ P, ∀ o, Fix o → H a ≠ some o) : Mx P H H := ⟨fun _ _ _ h _ => h, n, (Ex.rf H).some', fun _ t => t⟩
theorem Mx.wk {P P' : List Addr} {H H' : Hp} (m : Mx P H H') (hs : ∀ a ∈ P, a ∈ P') (n : ∀ a ∈ P', ∀ o, Fix o → H a ≠ some o) : Mx P' H H' := ⟨fun x o hx h nt => m.but x o (fun z => hx (hs x z)) h nt, n, m.sm, m.tab⟩
/-- relative to an elder heap that does not know P -/
theorem Ex.mx {P : List Addr} {H H1 H2 : Hp} (e : Ex H H1) (m : Mx P H1 H2) (n : ∀ a ∈ P, H a = none) : Ex H H2 := ⟨(fun a o h nt => by
    refine m.but a o (fun z => ?_) (e.keep a o h nt) nt
    rw [n a z] at h
    cases h), sm_tr e.some' m.sm, fun Q t => m.tab Q (e.tab Q t)⟩
theorem upd_some {H : Hp} {p : Addr} {o : HO} : ∀ a u, H a = some u → upd H p o a ≠ none := fun a u h z => by
  by_cases e : a = p
  · subst e
    rw [upd_same] at z
    cases z
  · rw [upd_ne e, h] at z
    cases z
theorem Mx.updO {H : Hp} {p : Addr} {o' o : HO} (h : H p = some o') (nf : ¬ Fix o') (n : nT o' = true) (nc : ∀ c q, o' ≠ CodeO c q) : Mx [p] H (upd H p o) := ⟨(fun a u ha e _ => by
    rw [upd_ne (by simpa using ha)]
    exact e), (fun a ha o f z => by
    have e : a = p := by simpa using ha
    subst e
    rw [h] at z
    cases z
    exact nf f), upd_some, fun Q t => tab_upd t h n nc⟩
theorem Mx.upd1 {H : Hp} {p : Addr} {xs : List V} {o : HO} (h : H p = some (.lst xs)) : Mx [p] H (upd H p o) := Mx.updO h (fun f => f) rfl lst_nc
theorem fresh_b {H H' : Hp} {p : Addr} (e : Ex H H') (h : H' p = none) : H p = none := by
  cases q : H p with
  | none => rfl
  | some o => exact absurd h (e.some' p o q)

/-! ### values with a type -/
class Rep (α : Type) where
  is : Hp → V → α → Prop
  up : ∀ {H H' : Hp} {v : V} {x : α}, Ex H H' → is H v x → is H' v x
class NoL (α : Type) [Rep α] : Prop where
  lx : ∀ {H H' : Hp} {v : V} {x : α}, Lx H H' → Rep.is H v x → Rep.is H' v x
class Imm (α : Type) [Rep α] : Prop where
  tx : ∀ {H H' : Hp} {v : V} {x : α}, Tx H H' → Rep.is H v x → Rep.is H' v x
abbrev is {α : Type} [Rep α] : Hp → V → α → Prop := Rep.is
abbrev AllIs {α : Type} [Rep α] (H : Hp) (vs : List V) (xs : List α) : Prop := Paired (Rep.is H) vs xs
instance (priority := 50) {α : Type} [Rep α] [i : Imm α] : NoL α := ⟨fun e h => i.tx e.tx h⟩

section
variable {α β : Type} [Rep α] [Rep β] {H H' : Hp} {vs ws : List V} {xs ys : List α}
theorem AllIs.up (e : Ex H H') (h : AllIs H vs xs) : AllIs H' vs xs := L2.Paired.mapP h fun _ _ r => Rep.up e r
theorem AllIs.tx [Imm α] (e : Tx H H') (h : AllIs H vs xs) : AllIs H' vs xs := L2.Paired.mapP h fun _ _ r => Imm.tx e r
theorem AllIs.lx [NoL α] (e : Lx H H') (h : AllIs H vs xs) : AllIs H' vs xs := L2.Paired.mapP h fun _ _ r => NoL.lx e r
theorem AllIs.len (h : AllIs H vs xs) : vs.length = xs.length := Paired.length h
theorem pget {α β : Type} {F : α → β → Prop} : ∀ {l : List α} {m : List β}, Paired F l m → ∀ {i : Nat} {x : α}, l[i]? = some x → ∃ y, m[i]? = some y ∧ F x y
  | _, _, .nil, i, x, h => by simp at h
  | _, _, .cons r t, 0, x, h => by
    simp only [List.getElem?_cons_zero, Option.some.injEq] at h
    subst h
    exact ⟨_, rfl, r⟩
  | _, _, .cons r t, i + 1, x, h => by
    simp only [List.getElem?_cons_succ] at h ⊢
    exact pget t h
theorem pget' {α β : Type} {F : α → β → Prop} : ∀ {l : List α} {m : List β}, Paired F l m → ∀ {i : Nat} {y : β}, m[i]? = some y → ∃ x, l[i]? = some x ∧ F x y
  | _, _, .nil, i, x, h => by simp at h
  | _, _, .cons r t, 0, x, h => by
    simp only [List.getElem?_cons_zero, Option.some.injEq] at h
    subst h
    exact ⟨_, rfl, r⟩
  | _, _, .cons r t, i + 1, x, h => by
    simp only [List.getElem?_cons_succ] at h ⊢
    exact pget' t h
theorem papp {α β : Type} {F : α → β → Prop} : ∀ {l l' : List α} {m m' : List β}, Paired F l m → Paired F l' m' → Paired F (l ++ l') (m ++ m')
  | _, _, _, _, .nil, h => h
  | _, _, _, _, .cons r t, h => .cons r (papp t h)
theorem ptake {α β : Type} {F : α → β → Prop} : ∀ {l : List α} {m : List β} (n : Nat), Paired F l m → Paired F (l.take n) (m.take n)
  | _, _, 0, _ => .nil
  | _, _, _ + 1, .nil => .nil
  | _, _, n + 1, .cons r t => .cons r (ptake n t)
theorem pdrop {α β : Type} {F : α → β → Prop} : ∀ {l : List α} {m : List β} (n : Nat), Paired F l m → Paired F (l.drop n) (m.drop n)
  | _, _, 0, h => h
  | _, _, _ + 1, .nil => .nil
  | _, _, n + 1, .cons r t => pdrop n t
theorem pset {α β : Type} {F : α → β → Prop} {x : α} {y : β} (r : F x y) : ∀ {l : List α} {m : List β} (i : Nat), Paired F l m → Paired F (l.set i x) (m.set i y)
  | _, _, _, .nil => .nil
  | _, _, 0, .cons _ t => .cons r t
  | _, _, i + 1, .cons q t => .cons q (pset r i t)
theorem prev {α β : Type} {F : α → β → Prop} : ∀ {l : List α} {m : List β}, Paired F l m → Paired F l.reverse m.reverse
  | _, _, .nil => .nil
  | _, _, .cons r t => by
    rw [List.reverse_cons, List.reverse_cons]
    exact papp (prev t) (.cons r .nil)
theorem perase {α β : Type} {F : α → β → Prop} : ∀ {l : List α} {m : List β} (i : Nat), Paired F l m → Paired F (l.eraseIdx i) (m.eraseIdx i)
  | _, _, _, .nil => .nil
  | _, _, 0, .cons _ t => t
  | _, _, i + 1, .cons q t => .cons q (perase i t)
theorem prep {α β : Type} {F : α → β → Prop} {l : List α} {m : List β} (h : Paired F l m) : ∀ k : Nat, Paired F (List.replicate k l).flatten (List.replicate k m).flatten
  | 0 => .nil
  | k + 1 => by
    rw [List.replicate_succ, List.replicate_succ, List.flatten_cons, List.flatten_cons]
    exact papp h (prep h k)
theorem pmap {α β γ : Type} {F : α → β → Prop} (f : γ → β) {l : List α} : ∀ {m : List γ}, Paired (fun x y => F x (f y)) l m → Paired F l (m.map f)
  | _, .nil => .nil
  | _, .cons r t => .cons r (pmap f t)
end

instance : Rep Int := ⟨fun _ v x => v = .int x, fun _ h => h⟩
instance : Rep Bool := ⟨fun _ v x => v = .bl x, fun _ h => h⟩
instance : Rep Unit := ⟨fun _ v _ => v = .non, fun _ h => h⟩
instance : Rep V := ⟨fun _ v x => v = x, fun _ h => h⟩
structure Adr where
  a : Addr
instance : Rep Adr := ⟨fun _ v x => v = .ref x.a, fun _ h => h⟩
instance : Imm Int := ⟨fun _ h => h⟩
instance : Imm Bool := ⟨fun _ h => h⟩
instance : Imm Unit := ⟨fun _ h => h⟩
instance : Imm V := ⟨fun _ h => h⟩
instance : Imm Adr := ⟨fun _ h => h⟩
abbrev Tup := PySem.W.Tup
/-- at a a list of xs stands -/
def Ls {α : Type} [Rep α] (H : Hp) (a : Addr) (xs : List α) : Prop := ∃ vs, H a = some (.lst vs) ∧ AllIs H vs xs
section
variable {α β : Type} [Rep α] [Rep β]
instance : Rep (Tup α) := ⟨fun H v x => ∃ a vs, v = .ref a ∧ H a = some (.tup vs) ∧ AllIs H vs x.items, fun e ⟨a, vs, h1, h2, h3⟩ => ⟨a, vs, h1, e a _ h2, h3.up e⟩⟩
instance : Rep (α × β) := ⟨fun H v x => ∃ a u w, v = .ref a ∧ H a = some (.tup [u, w]) ∧ Rep.is H u x.1 ∧ Rep.is H w x.2, fun e ⟨a, u, w, h1, h2, h3, h4⟩ => ⟨a, u, w, h1, e a _ h2, Rep.up e h3, Rep.up e h4⟩⟩
instance : Rep (List α) := ⟨fun H v x => ∃ a, v = .ref a ∧ Ls H a x, fun e ⟨a, h1, vs, h2, h3⟩ => ⟨a, h1, vs, e a _ h2, h3.up e⟩⟩
instance [Imm α] : Imm (Tup α) := ⟨fun e ⟨a, vs, h1, h2, h3⟩ => ⟨a, vs, h1, e a _ True.intro h2, h3.tx e⟩⟩
instance [Imm α] [Imm β] : Imm (α × β) := ⟨fun e ⟨a, u, w, h1, h2, h3, h4⟩ => ⟨a, u, w, h1, e a _ True.intro h2, Imm.tx e h3, Imm.tx e h4⟩⟩
theorem Ls.up {H H' : Hp} {a : Addr} {xs : List α} (e : Ex H H') (h : Ls H a xs) : Ls H' a xs := let ⟨vs, h1, h2⟩ := h; ⟨vs, e a _ h1, h2.up e⟩
end

/-- a tuple whose object is known (it has no dict of its own: its methods may be called) -/
structure FTup (α : Type) where
  items : List α
  deriving DecidableEq
section
variable {α : Type} [Rep α]
instance : Rep (FTup α) := ⟨fun H v x => ∃ (a : Addr) (o : Obj) (vs : List V), v = .ref a ∧ o.dict = none ∧ H a = some (.frz o (.tup vs)) ∧ AllIs H vs x.items, fun e ⟨a, o, vs, h1, h0, h2, h3⟩ => ⟨a, o, vs, h1, h0, e a _ h2, h3.up e⟩⟩
instance [Imm α] : Imm (FTup α) := ⟨fun e ⟨a, o, vs, h1, h0, h2, h3⟩ => ⟨a, o, vs, h1, h0, e a _ True.intro h2, h3.tx e⟩⟩
end

/-! ### data -/
class Dat (α : Type) [DecidableEq α] [Rep α] extends PySem.W.DatumOrd α where
  dp : ∀ {K : PySem.W.Frag} {H : Hp} {v : V} {x : α}, Rep.is H v x → Dp K H v (PySem.W.Datum.toD x)
theorem dpAll {α : Type} [DecidableEq α] [Rep α] [Dat α] {K : PySem.W.Frag} {H : Hp} : ∀ {vs : List V} {xs : List α}, AllIs H vs xs → DpAll K H vs (xs.map PySem.W.Datum.toD)
  | _, _, .nil => .nil
  | _, _, .cons r t => .cons (Dat.dp r) (dpAll t)
instance : Dat Int := { dp := fun h => by cases h; exact .int _ }
instance : Dat Bool := { dp := fun h => by cases h; exact .bl _ }
section
variable {α β : Type} [DecidableEq α] [DecidableEq β] [Rep α] [Rep β] [Dat α] [Dat β]
instance : Dat (Tup α) := { dp := fun ⟨a, vs, h1, h2, h3⟩ => by subst h1; exact .tup (SqT.of h2) (dpAll h3) }
instance : PySem.W.DatumOrd (FTup α) where
  toD x := PySem.W.Datum.toD (PySem.W.Tup.mk x.items)
  plain x := PySem.W.Datum.plain (PySem.W.Tup.mk x.items)
  eqv x y := by
    rw [PySem.W.Datum.eqv]
    exact decide_eq_decide.mpr ⟨fun e => by cases x; cases y; injection e with e; exact congrArg FTup.mk e, fun e => by rw [e]⟩
  depth := PySem.W.Datum.depth (Tup α)
  depth_le x := PySem.W.Datum.depth_le (PySem.W.Tup.mk x.items)
  lt x y := PySem.W.DatumOrd.lt (PySem.W.Tup.mk x.items) (PySem.W.Tup.mk y.items)
  alike x y := PySem.W.DatumOrd.alike _ _
  notNone x := PySem.W.DatumOrd.notNone _
  lt_eq x y := PySem.W.DatumOrd.lt_eq _ _
instance : Dat (FTup α) := { dp := fun ⟨a, o, vs, h1, h0, h2, h3⟩ => by subst h1; exact .tup (.inl (.inr ⟨o, h2⟩)) (dpAll h3) }
instance : Dat (α × β) := { dp := fun ⟨a, u, w, h1, h2, h3, h4⟩ => by subst h1; exact .tup (SqT.of h2) (.cons (Dat.dp h3) (.cons (Dat.dp h4) .nil)) }
instance : Dat (List α) := { dp := fun ⟨a, h1, vs, h2, h3⟩ => by subst h1; exact .lst (SqL.of h2) (dpAll h3) }
end

/-! ### direct readings -/
def we (X : Cx) (e : Expr) : TE := fun σ H Q => ∀ pins s, Inv X pins σ H s → wpAny (model X.prog X.w) X.A (eval e X.env) (EP X pins σ Q) X.xe s
def wt (X : Cx) (e : Expr) : TT := fun σ H Q => ∀ pins s, Inv X pins σ H s → wpAny (model X.prog X.w) X.A (isTrue e X.env (eval e X.env)) (TP X pins σ Q) X.xe s
def wp (X : Cx) (e : Expr) : TT := fun σ H Q => ∀ whole pins s, Inv X pins σ H s → wpAny (model X.prog X.w) X.A (isTrue e X.env whole) (TP X pins σ Q) X.xe s
def wa (X : Cx) (es : List Expr) : TA := fun σ H Q => ∀ pos pins s, Inv X pins σ H s → wpAny (model X.prog X.w) X.A (spliced (backTo pos (starEach es X.env))) (AP X pins σ Q) X.xe s
def wst (X : Cx) (st : Stmt) : TS := fun D σ H => ∀ pins s, Inv X pins σ H s → wpAny (model X.prog X.w) X.A (exec st X.env) (SP X pins D) X.xe s
def wss (X : Cx) (st : List Stmt) : TS := fun D σ H => ∀ pins s, Inv X pins σ H s → wpAny (model X.prog X.w) X.A (execs st X.env) (SP X pins D) X.xe s
section
variable {X : Cx} {e : Expr} {es : List Expr} {st : Stmt} {sts : List Stmt} {σ : St} {H : Hp}
theorem pe_we : PE X e (we X e) := ⟨fun pins s _ _ _ I h => h pins s I⟩
theorem pt_wt : PT X e (wt X e) := ⟨fun pins s _ _ _ I h => h pins s I⟩
theorem pw_wp : PW X e (wp X e) := ⟨fun wh pins s _ _ _ I h => h wh pins s I⟩
theorem pa_wa : PA X es (wa X es) := ⟨fun pos pins s _ _ _ I h => h pos pins s I⟩
theorem ps_wst : PS X st (wst X st) := ⟨fun pins s _ _ _ I h => h pins s I⟩
theorem pss_wss : PSs X sts (wss X sts) := ⟨fun pins s _ _ _ I h => h pins s I⟩
theorem we_of {t : TE} {Q : VK} (h : PE X e t) (q : t σ H Q) : we X e σ H Q := fun pins s I => h.run pins s σ H Q I q
theorem wt_of {t : TT} {Q : Bool → Hp → Prop} (h : PT X e t) (q : t σ H Q) : wt X e σ H Q := fun pins s I => h.run pins s σ H Q I q
theorem wp_of {t : TT} {Q : Bool → Hp → Prop} (h : PW X e t) (q : t σ H Q) : wp X e σ H Q := fun wh pins s I => h.run wh pins s σ H Q I q
theorem wa_of {t : TA} {Q : List V → Hp → Prop} (h : PA X es t) (q : t σ H Q) : wa X es σ H Q := fun pos pins s I => h.run pos pins s σ H Q I q
theorem wst_of {t : TS} {D : Ends} (h : PS X st t) (q : t D σ H) : wst X st D σ H := fun pins s I => h.run pins s σ H D I q
theorem wss_of {t : TS} {D : Ends} (h : PSs X sts t) (q : t D σ H) : wss X sts D σ H := fun pins s I => h.run pins s σ H D I q
end

/-- e evaluates to a value that R tells of (the heap ahead, the value, the heap behind); all stays -/
def ER (X : Cx) (σ : St) (H : Hp) (e : Expr) (R : Hp → V → Hp → Prop) : Prop := ∀ H1, Ex H H1 → ∀ Q : VK, (∀ v H2, Ex H1 H2 → R H1 v H2 → Q v H2) → we X e σ H1 Q
/-- .. to the data x -/
def ED {α : Type} [Rep α] (X : Cx) (σ : St) (H : Hp) (e : Expr) (x : α) : Prop := ∀ H1, Ex H H1 → ∀ Q : VK, (∀ v H2, Ex H1 H2 → Rep.is H2 v x → Q v H2) → we X e σ H1 Q
/-- .. to a new list of xs -/
def EL {α : Type} [Rep α] (X : Cx) (σ : St) (H : Hp) (e : Expr) (xs : List α) : Prop := ∀ H1, Ex H H1 → ∀ Q : VK, (∀ p H2, H1 p = none → Ex H1 H2 → Ls H2 p xs → Q (.ref p) H2) → we X e σ H1 Q
def EB (X : Cx) (σ : St) (H : Hp) (e : Expr) (b : Bool) : Prop := ∀ H1, Ex H H1 → ∀ Q : Bool → Hp → Prop, (∀ H2, Ex H1 H2 → Q b H2) → wt X e σ H1 Q
/-- a test whatever its whole is (and, or) -/
def EW (X : Cx) (σ : St) (H : Hp) (e : Expr) (b : Bool) : Prop := ∀ H1, Ex H H1 → ∀ Q : Bool → Hp → Prop, (∀ H2, Ex H1 H2 → Q b H2) → wp X e σ H1 Q
/-- arguments -/
def EA (X : Cx) (σ : St) (H : Hp) (es : List Expr) (R : List V → Hp → Prop) : Prop := ∀ H1, Ex H H1 → ∀ Q : List V → Hp → Prop, (∀ vs H2, Ex H1 H2 → R vs H2 → Q vs H2) → wa X es σ H1 Q
section
variable {α β γ : Type} [Rep α] [Rep β] [Rep γ] {X : Cx} {σ : St} {H H' : Hp} {e a b c : Expr} {es : List Expr} {pos : Pos} {x : α} {y : β} {z : γ}
theorem ED.mono (k : Ex H H') (h : ED X σ H e x) : ED X σ H' e x := fun H1 e1 => h H1 (Ex.tr k e1)
theorem EL.mono {xs : List α} (k : Ex H H') (h : EL X σ H e xs) : EL X σ H' e xs := fun H1 e1 => h H1 (Ex.tr k e1)
theorem EB.mono {q : Bool} (k : Ex H H') (h : EB X σ H e q) : EB X σ H' e q := fun H1 e1 => h H1 (Ex.tr k e1)
theorem EL.d {xs : List α} (h : EL X σ H e xs) : ED X σ H e xs := fun H1 e1 Q q => h H1 e1 Q fun p H2 _ e2 l => q _ H2 e2 ⟨p, rfl, l⟩
theorem ED.to {x' : α} (h : ED X σ H e x) (q : x = x') : ED X σ H e x' := q ▸ h
theorem EL.to {xs xs' : List α} (h : EL X σ H e xs) (q : xs = xs') : EL X σ H e xs' := q ▸ h
theorem EB.to {q q' : Bool} (h : EB X σ H e q) (k : q = q') : EB X σ H e q' := k ▸ h

/-! names, constants -/
theorem ed_var {i : Nat} {n : Str} {v : V} (hs : σ[i]? = some (some v)) (hv : Rep.is H v x) (hN : X.N[i]? = some n := by rfl) (hvs : Vis X.env.scope n := by first | exact Or.inl rfl | exact Or.inr (Or.inl rfl) | exact Or.inr (Or.inr rfl))
    (hd : (n == ("__debug__" : Str)) = false := by decide) (hcd : (n == ("__classdict__" : Str)) = false := by decide) : ED X σ H (.Name n pos) x :=
  fun H1 e1 Q q => we_of (pe_var hN hvs hd hcd) ⟨v, hs, q v H1 (Ex.rf _) (Rep.up e1 hv)⟩
theorem ed_int {i : Int} {j : Nat} : ED X σ H (.Constant (.int i) j pos) i := fun H1 e1 Q q => we_of pe_int (q (.int i) H1 (Ex.rf _) rfl)
theorem ed_bl {i : Bool} {j : Nat} : ED X σ H (.Constant (.bool i) j pos) i := fun H1 e1 Q q => we_of pe_bl (q (.bl i) H1 (Ex.rf _) rfl)
theorem ed_str {i : Str} {j : Nat} : ED X σ H (.Constant (.str i) j pos) (V.str i) := fun H1 e1 Q q => we_of pe_str (q (.str i) H1 (Ex.rf _) rfl)
theorem ed_glob {n : Str} {v : V} {u : Value} (hg : Gl X n) (hm : X.mg n = some u) (r : RelV v u) (hd : (n == ("__debug__" : Str)) = false := by decide) : ED X σ H (.Name n pos) v :=
  fun H1 e1 Q q => we_of (pe_glob hg hm r hd) (q v H1 (Ex.rf _) rfl)
theorem ed_globI {n : Str} {i : Int} (hg : Gl X n) (hm : ∃ t, X.mg n = some (.int i t)) (hd : (n == ("__debug__" : Str)) = false := by decide) : ED X σ H (.Name n pos) i := by
  obtain ⟨t, hm⟩ := hm
  exact fun H1 e1 Q q => we_of (pe_glob (v := .int i) hg hm ⟨t, rfl⟩ hd) (q _ H1 (Ex.rf _) rfl)

/-! operators -/
theorem ed_bin {op : Operator} {r : R2} (ho : OpR X (binaryOp op) r) (ha : ED X σ H a x) (hb : ED X σ H b y)
    (hr : ∀ H2 u v (Q : VK), Ex H H2 → Rep.is H2 u x → Rep.is H2 v y → (∀ w H3, Ex H2 H3 → Rep.is H3 w z → Q w H3) → r u v H2 Q) : ED X σ H (.BinOp a op b pos) z :=
  fun H1 e1 Q q => we_of (pe_op ho pe_we pe_we) (ha H1 e1 _ fun u H2 e2 hu => hb H2 (Ex.tr e1 e2) _ fun v H3 e3 hv =>
    hr H3 u v Q (Ex.tr (Ex.tr e1 e2) e3) (Rep.up e3 hu) hv fun w H4 e4 hw => q w H4 (Ex.tr (Ex.tr e2 e3) e4) hw)
theorem ed_binI {op : Operator} {C : Int → Int → Prop} {g : Int → Int → Int} {i j : Int} (ho : OpR X (binaryOp op) (rI C fun i j => .int (g i j))) (ha : ED X σ H a i) (hb : ED X σ H b j) (hc : C i j) : ED X σ H (.BinOp a op b pos) (g i j) :=
  ed_bin ho ha hb fun H2 u v Q _ hu hv q => ⟨i, j, hu, hv, hc, q _ H2 (Ex.rf _) rfl⟩
theorem ed_add {i j : Int} (ha : ED X σ H a i) (hb : ED X σ H b j) : ED X σ H (.BinOp a .Add b pos) (i + j) :=
  ed_bin op_add ha hb fun H2 u v Q _ hu hv q => ⟨i, j, hu, hv, q _ H2 (Ex.rf _) rfl⟩
theorem ed_sub {i j : Int} (ha : ED X σ H a i) (hb : ED X σ H b j) : ED X σ H (.BinOp a .Sub b pos) (i - j) :=
  ed_bin op_sub ha hb fun H2 u v Q _ hu hv q => ⟨i, j, hu, hv, q _ H2 (Ex.rf _) rfl⟩
theorem ed_mul {i j : Int} (ha : ED X σ H a i) (hb : ED X σ H b j) (hc : CMul i j) : ED X σ H (.BinOp a .Mult b pos) (i * j) := ed_binI op_mul ha hb hc
theorem ed_mod {i j : Int} (ha : ED X σ H a i) (hb : ED X σ H b j) (hc : 0 < j) : ED X σ H (.BinOp a .Mod b pos) (i % j) := ed_binI op_mod ha hb hc
theorem ed_fdiv {i j : Int} (ha : ED X σ H a i) (hb : ED X σ H b j) (hc : CDiv i j) : ED X σ H (.BinOp a .FloorDiv b pos) (i / j) := ed_binI op_fdiv ha hb hc
theorem ed_pow {i j : Int} (ha : ED X σ H a i) (hb : ED X σ H b j) (hc : CPow i j) : ED X σ H (.BinOp a .Pow b pos) (i ^ j.toNat) := ed_binI op_pow ha hb hc
theorem ed_neg {i : Int} (ha : ED X σ H a i) : ED X σ H (.UnaryOp .USub a pos) (-i) := fun H1 e1 Q q => we_of (pe_un un_neg pe_we) (ha H1 e1 _ fun u H2 e2 hu => ⟨i, hu, q _ H2 e2 rfl⟩)
theorem is_sq {H : Hp} {v : V} {t : Tup α} (h : Rep.is H v t) : ∃ p vs, v = .ref p ∧ H p = some (.tup vs) ∧ AllIs H vs t.items := h
/-- t + u of tuples -/
theorem ed_cat {t u : Tup α} (ha : ED X σ H a t) (hb : ED X σ H b u) (hz : t.items.length + u.items.length ≤ sizeLine) : ED X σ H (.BinOp a .Add b pos) (PySem.W.Tup.mk (t.items ++ u.items)) :=
  ed_bin op_catA ha hb fun H2 v w Q _ hv hw q => by
    obtain ⟨p, vs, rfl, hp, h1⟩ := is_sq hv
    obtain ⟨p', ws, rfl, hp', h2⟩ := is_sq hw
    refine ⟨p, p', vs, ws, rfl, rfl, SqT.of hp, SqT.of hp', by rw [h1.len, h2.len]; exact hz, fun e => ?_, fun _ e => ?_, fun _ _ r hr => ?_⟩
    · subst e
      have e2 : t.items = [] := List.eq_nil_of_length_eq_zero (by rw [← h1.len]; rfl)
      refine q _ H2 (Ex.rf _) ⟨p', ws, rfl, hp', ?_⟩
      rw [e2]
      exact h2
    · subst e
      have e2 : u.items = [] := List.eq_nil_of_length_eq_zero (by rw [← h2.len]; rfl)
      refine q _ H2 (Ex.rf _) ⟨p, vs, rfl, hp, ?_⟩
      rw [e2]
      simpa using h1
    · have k : Ex H2 (upd H2 r (.tup (vs ++ ws))) := Ex.new hr
      exact q _ _ k ⟨r, _, rfl, upd_same, papp (h1.up k) (h2.up k)⟩

/-! comparisons as values and as tests -/
theorem ed_cmp {op : CmpOp} {r : R2} {k : Bool} (ho : OpR X (compareOp op) r) (ha : ED X σ H a x) (hb : ED X σ H b y)
    (hr : ∀ H2 u v (Q : VK), Ex H H2 → Rep.is H2 u x → Rep.is H2 v y → Q (.bl k) H2 → r u v H2 Q) (hm : behindInMarks op b = false) : ED X σ H (.Compare a [op] [b] pos) k :=
  fun H1 e1 Q q => we_of (pe_cmpR ho pe_we pe_we hm) (ha H1 e1 _ fun u H2 e2 hu => hb H2 (Ex.tr e1 e2) _ fun v H3 e3 hv =>
    hr H3 u v Q (Ex.tr (Ex.tr e1 e2) e3) (Rep.up e3 hu) hv (q _ H3 (Ex.tr e2 e3) rfl))
theorem eb_cmp {op : CmpOp} {r : R2} {k : Bool} (ho : OpR X (compareOp op) r) (ha : ED X σ H a x) (hb : ED X σ H b y)
    (hr : ∀ H2 u v (Q : VK), Ex H H2 → Rep.is H2 u x → Rep.is H2 v y → Q (.bl k) H2 → r u v H2 Q) (hm : behindInMarks op b = false) : EB X σ H (.Compare a [op] [b] pos) k :=
  fun H1 e1 Q q => wt_of (pt_cmpR ho pe_we pe_we hm) (ha H1 e1 _ fun u H2 e2 hu => hb H2 (Ex.tr e1 e2) _ fun v H3 e3 hv =>
    hr H3 u v _ (Ex.tr (Ex.tr e1 e2) e3) (Rep.up e3 hu) hv ⟨k, rfl, q H3 (Ex.tr e2 e3)⟩)
/-- what a comparison's rule says of typed values -/
structure CmpIs (X : Cx) (op : CmpOp) (H : Hp) (x : α) (y : β) (k : Bool) : Prop where
  ok : ∃ r : R2, OpR X (compareOp op) r ∧ ∀ H2 u v (Q : VK), Ex H H2 → Rep.is H2 u x → Rep.is H2 v y → Q (.bl k) H2 → r u v H2 Q
theorem ed_cmpI {op : CmpOp} {k : Bool} (c : CmpIs X op H x y k) (ha : ED X σ H a x) (hb : ED X σ H b y) (hm : behindInMarks op b = false := by first | exact nomark _ | rfl) : ED X σ H (.Compare a [op] [b] pos) k := let ⟨r, ho, hr⟩ := c.ok; ed_cmp ho ha hb hr hm
theorem eb_cmpI {op : CmpOp} {k : Bool} (c : CmpIs X op H x y k) (ha : ED X σ H a x) (hb : ED X σ H b y) (hm : behindInMarks op b = false := by first | exact nomark _ | rfl) : EB X σ H (.Compare a [op] [b] pos) k := let ⟨r, ho, hr⟩ := c.ok; eb_cmp ho ha hb hr hm
theorem c_lt {i j : Int} : CmpIs X .Lt H i j (decide (i < j)) := ⟨_, op_lt, fun H2 u v Q _ hu hv q => ⟨i, j, hu, hv, q⟩⟩
theorem c_le {i j : Int} : CmpIs X .LtE H i j (decide (i ≤ j)) := ⟨_, op_le, fun H2 u v Q _ hu hv q => ⟨i, j, hu, hv, q⟩⟩
theorem c_gt {i j : Int} : CmpIs X .Gt H i j (decide (j < i)) := ⟨_, op_gt, fun H2 u v Q _ hu hv q => ⟨i, j, hu, hv, q⟩⟩
theorem c_ge {i j : Int} : CmpIs X .GtE H i j (decide (j ≤ i)) := ⟨_, op_ge, fun H2 u v Q _ hu hv q => ⟨i, j, hu, hv, q⟩⟩
theorem dec_intV {i j : Int} : decide (V.int i = V.int j) = decide (i = j) := by
  by_cases h : i = j
  · subst h; simp
  · rw [decide_eq_false h, decide_eq_false (fun e => h (V.int.inj e))]
theorem c_eq {i j : Int} : CmpIs X .Eq H i j (decide (i = j)) := ⟨_, op_eq, fun H2 u v Q _ hu hv q => by
  cases hu; cases hv
  exact ⟨rfl, by rw [dec_intV]; exact q⟩⟩
theorem c_ne {i j : Int} : CmpIs X .NotEq H i j (!decide (i = j)) := ⟨_, op_ne, fun H2 u v Q _ hu hv q => by
  cases hu; cases hv
  exact ⟨rfl, by rw [dec_intV]; exact q⟩⟩
theorem eb_val {k : Bool} (h : ED X σ H e k) (he : ∀ whole, isTrue e X.env whole = (do let v ← whole; standAt e.pos; holding [v] (truthy v)) := by intro _; rfl) : EB X σ H e k :=
  fun H1 e1 Q q => wt_of (pt_val pe_we he) (h H1 e1 _ fun u H2 e2 hu => ⟨k, hu, q H2 e2⟩)
theorem eb_not {k : Bool} (h : EB X σ H a k) : EB X σ H (.UnaryOp .Not a pos) (!k) := fun H1 e1 Q q => wt_of (pt_not pt_wt) (h H1 e1 _ fun H2 e2 => q H2 e2)
theorem ew_and1 {k : Bool} (h : EB X σ H a k) : EW X σ H (.BoolOp .And [a] pos) k := fun H1 e1 Q q => wp_of (pw_and1 pt_wt) (h H1 e1 _ q)
theorem ew_or1 {k : Bool} (h : EB X σ H a k) : EW X σ H (.BoolOp .Or [a] pos) k := fun H1 e1 Q q => wp_of (pw_or1 pt_wt) (h H1 e1 _ q)
theorem ew_and {k l : Bool} {rest : List Expr} (h : EB X σ H a k) (h' : k = true → EW X σ H (.BoolOp .And (b :: rest) pos) l) : EW X σ H (.BoolOp .And (a :: b :: rest) pos) (k && l) := fun H1 e1 Q q => wp_of (pw_and pt_wt pw_wp) (h H1 e1 _ fun H2 e2 => by
  cases k with
  | true => exact iteT (h' rfl H2 (Ex.tr e1 e2) Q fun H3 e3 => q H3 (Ex.tr e2 e3))
  | false => exact iteF (q H2 e2))
theorem ew_or {k l : Bool} {rest : List Expr} (h : EB X σ H a k) (h' : k = false → EW X σ H (.BoolOp .Or (b :: rest) pos) l) : EW X σ H (.BoolOp .Or (a :: b :: rest) pos) (k || l) := fun H1 e1 Q q => wp_of (pw_or pt_wt pw_wp) (h H1 e1 _ fun H2 e2 => by
  cases k with
  | true => exact iteT (q H2 e2)
  | false => exact iteF (h' rfl H2 (Ex.tr e1 e2) Q fun H3 e3 => q H3 (Ex.tr e2 e3)))
theorem eb_w {k : Bool} (h : EW X σ H e k) : EB X σ H e k := fun H1 e1 Q q => wt_of (PW.pt pw_wp) (h H1 e1 Q q)
theorem ed_and1 {op : BoolOp} (h : ED X σ H a x) : ED X σ H (.BoolOp op [a] pos) x := fun H1 e1 Q q => we_of (pe_one pe_we) (h H1 e1 Q q)
theorem ed_and {k l : Bool} {rest : List Expr} (h : ED X σ H a k) (h' : k = true → ED X σ H (.BoolOp .And (b :: rest) pos) l) : ED X σ H (.BoolOp .And (a :: b :: rest) pos) (k && l) := fun H1 e1 Q q => we_of (pe_and pe_we pe_we) (h H1 e1 _ fun u H2 e2 hu => ⟨k, hu, by
  cases k with
  | true => exact iteT (h' rfl H2 (Ex.tr e1 e2) Q fun v H3 e3 hv => q v H3 (Ex.tr e2 e3) hv)
  | false => exact iteF (q _ H2 e2 rfl)⟩)
theorem ed_not {k : Bool} (h : ED X σ H a k) : ED X σ H (.UnaryOp .Not a pos) (!k) := fun H1 e1 Q q => we_of (pe_not pe_we) (h H1 e1 _ fun u H2 e2 hu => ⟨k, hu, q _ H2 e2 rfl⟩)
/-- a < b < c -/
theorem eb_chain {op op' : CmpOp} {k l : Bool} (c1 : CmpIs X op H x y k) (c2 : CmpIs X op' H y z l) (ha : ED X σ H a x) (hb : ED X σ H b y) (hc : ED X σ H c z)
    (hm : lastMarks [op, op'] [b, c] = false := by with_unfolding_all rfl) : EB X σ H (.Compare a [op, op'] [b, c] pos) (k && l) := by
  obtain ⟨r, ho, hr⟩ := c1.ok
  obtain ⟨r', ho', hr'⟩ := c2.ok
  exact fun H1 e1 Q q => wt_of (pt_chain ho ho' pe_we pe_we pe_we hm) (ha H1 e1 _ fun u H2 e2 hu => hb H2 (Ex.tr e1 e2) _ fun v H3 e3 hv => hr H3 u v _ (Ex.tr (Ex.tr e1 e2) e3) (Rep.up e3 hu) hv ⟨k, rfl, by
    cases k with
    | true => exact iteT (hc H3 (Ex.tr (Ex.tr e1 e2) e3) _ fun w H4 e4 hw => hr' H4 v w _ (Ex.tr (Ex.tr (Ex.tr e1 e2) e3) e4) (Rep.up e4 hv) hw ⟨l, rfl, q H4 (Ex.tr (Ex.tr e2 e3) e4)⟩)
    | false => exact iteF ⟨false, rfl, q H3 (Ex.tr e2 e3)⟩⟩)
theorem ed_chain {op op' : CmpOp} {k l : Bool} (c1 : CmpIs X op H x y k) (c2 : CmpIs X op' H y z l) (ha : ED X σ H a x) (hb : ED X σ H b y) (hc : ED X σ H c z)
    (hm : lastMarks [op, op'] [b, c] = false := by with_unfolding_all rfl) : ED X σ H (.Compare a [op, op'] [b, c] pos) (k && l) := by
  obtain ⟨r, ho, hr⟩ := c1.ok
  obtain ⟨r', ho', hr'⟩ := c2.ok
  exact fun H1 e1 Q q => we_of (pe_chain ho ho' pe_we pe_we pe_we hm) (ha H1 e1 _ fun u H2 e2 hu => hb H2 (Ex.tr e1 e2) _ fun v H3 e3 hv => hr H3 u v _ (Ex.tr (Ex.tr e1 e2) e3) (Rep.up e3 hu) hv ⟨k, rfl, by
    cases k with
    | true => exact iteT (hc H3 (Ex.tr (Ex.tr e1 e2) e3) _ fun w H4 e4 hw => hr' H4 v w _ (Ex.tr (Ex.tr (Ex.tr e1 e2) e3) e4) (Rep.up e4 hv) hw (q _ H4 (Ex.tr (Ex.tr e2 e3) e4) rfl))
    | false => exact iteF (q _ H3 (Ex.tr e2 e3) rfl)⟩)
end
end Oa
set_option Elab.async false
set_option linter.all false
set_option maxRecDepth 100000
set_option maxHeartbeats 1000000
namespace Oa
open PySem PySem.Spec PyProof.Rows L2
section
variable {α β γ : Type} [Rep α] [Rep β] [Rep γ] {X : Cx} {σ : St} {H H' : Hp} {e a b c : Expr} {es : List Expr} {pos : Pos} {x : α} {y : β} {z : γ}
theorem ED.cast {v : V} (h : ED X σ H e v) (k : ∀ H', Ex H H' → Rep.is H' v x) : ED X σ H e x := fun H1 e1 Q q => h H1 e1 Q fun w H2 e2 hw => q w H2 e2 (by cases hw; exact k H2 (Ex.tr e1 e2))
theorem ED.retype (h : ED X σ H e x) (k : ∀ H' v, Ex H H' → Rep.is H' v x → Rep.is H' v y) : ED X σ H e y := fun H1 e1 Q q => h H1 e1 Q fun w H2 e2 hw => q w H2 e2 (k H2 w (Ex.tr e1 e2) hw)

/-! arguments -/
theorem ea_nil : EA X σ H [] (fun vs _ => vs = []) := fun H1 e1 Q q => wa_of pa_nil (q [] H1 (Ex.rf _) rfl)
theorem ea_cons {R : List V → Hp → Prop} (h : ED X σ H e x) (hr : EA X σ H es R) (hs : starEach (e :: es) X.env = (false, eval e X.env) :: starEach es X.env := by rfl) :
    EA X σ H (e :: es) (fun vs H' => ∃ v ws, vs = v :: ws ∧ Rep.is H' v x ∧ R ws H') := fun H1 e1 Q q =>
  wa_of (pa_cons pe_we pa_wa hs) (h H1 e1 _ fun v H2 e2 hv => hr H2 (Ex.tr e1 e2) _ fun ws H3 e3 hw => q _ H3 (Ex.tr e2 e3) ⟨v, ws, rfl, Rep.up e3 hv, hw⟩)
theorem EA.mono {R : List V → Hp → Prop} (k : Ex H H') (h : EA X σ H es R) : EA X σ H' es R := fun H1 e1 => h H1 (Ex.tr k e1)
theorem EA.imp {R R' : List V → Hp → Prop} (h : EA X σ H es R) (k : ∀ vs H', R vs H' → R' vs H') : EA X σ H es R' := fun H1 e1 Q q => h H1 e1 Q fun vs H2 e2 r => q vs H2 e2 (k vs H2 r)
/-- all of one type -/
theorem eal_nil : EA X σ H [] (fun vs H' => AllIs H' vs ([] : List α)) := ea_nil.imp fun vs H' e => by subst e; exact .nil
theorem eal_cons {xs : List α} (h : ED X σ H e x) (hr : EA X σ H es (fun vs H' => AllIs H' vs xs)) (hs : starEach (e :: es) X.env = (false, eval e X.env) :: starEach es X.env := by rfl) :
    EA X σ H (e :: es) (fun vs H' => AllIs H' vs (x :: xs)) := (ea_cons h hr hs).imp fun vs H' ⟨v, ws, e, hv, hw⟩ => by subst e; exact .cons hv hw

/-! displays -/
theorem el_lst {xs : List α} (h : EA X σ H es (fun vs H' => AllIs H' vs xs)) (hz : xs.length ≤ sizeLine) : EL X σ H (.List es pos) xs := fun H1 e1 Q q =>
  we_of (pe_lst pa_wa) (h H1 e1 _ fun vs H2 e2 hv => ⟨by rw [hv.len]; exact hz, fun p hp => q p _ (fresh_b e2 hp) (Ex.tr e2 (Ex.new hp)) ⟨vs, upd_same, hv.up (Ex.new hp)⟩⟩)
theorem ed_tup {xs : List α} {k : Nat} (h : EA X σ H es (fun vs H' => AllIs H' vs xs)) (hz : xs.length ≤ sizeLine) : ED X σ H (.Tuple es k pos) (PySem.W.Tup.mk xs) := fun H1 e1 Q q =>
  we_of (pe_tup pa_wa) (h H1 e1 _ fun vs H2 e2 hv => ⟨by rw [hv.len]; exact hz, fun p hp => q _ _ (Ex.tr e2 (Ex.new hp)) ⟨p, vs, rfl, upd_same, hv.up (Ex.new hp)⟩⟩)
theorem ed_pair {k : Nat} (ha : ED X σ H a x) (hb : ED X σ H b y) (hs : starEach [a, b] X.env = [(false, eval a X.env), (false, eval b X.env)] := by rfl) (hs2 : starEach [b] X.env = [(false, eval b X.env)] := by rfl) :
    ED X σ H (.Tuple [a, b] k pos) (x, y) := fun H1 e1 Q q =>
  we_of (pe_tup pa_wa) (ea_cons ha (ea_cons hb ea_nil (by rw [hs2] <;> rfl)) (by rw [hs, hs2]) H1 e1 _ fun vs H2 e2 ⟨u, ws, h1, hu, w, ws2, h2, hw, h3⟩ => by
    subst h1 h2 h3
    exact ⟨by show 2 ≤ sizeLine; decide, fun p hp => q _ _ (Ex.tr e2 (Ex.new hp)) ⟨p, u, w, rfl, upd_same, Rep.up (Ex.new hp) hu, Rep.up (Ex.new hp) hw⟩⟩)

/-! subscripts -/
theorem at_is {vs : List V} {xs : List α} {i : Int} (h : AllIs H vs xs) (hx : atI xs i = some x) : ∃ v, atI vs i = some v ∧ Rep.is H v x := by
  unfold atI at hx ⊢
  rw [h.len]
  cases q : ixN xs.length i with
  | none => rw [q] at hx; cases hx
  | some j =>
    rw [q] at hx
    exact pget' h hx
theorem at_nat {xs : List α} {i : Int} {j : Nat} (e : i = (j : Int)) (h : xs[j]? = some x) : atI xs i = some x := by subst e; exact atI_nat h
theorem at_int {xs : List α} {i : Int} (h0 : 0 ≤ i) (h : xs[i.toNat]? = some x) : atI xs i = some x := at_nat (by omega) h
theorem ed_ixL {l i : Expr} {xs : List α} {k : Int} (hl : ED X σ H l xs) (hi : ED X σ H i k) (hx : atI xs k = some x) (hs : PlainIx i := by exact fun _ _ => rfl) : ED X σ H (.Subscript l i pos) x := fun H1 e1 Q q =>
  we_of (pe_ix ix_list pe_we pe_we hs) (hl H1 e1 _ fun v H2 e2 ⟨p, hv, vs, hp, hA⟩ => hi H2 (Ex.tr e1 e2) _ fun w H3 e3 hw => by
    subst hv
    obtain ⟨u, hu, hux⟩ := at_is (hA.up e3) hx
    exact ⟨p, vs, k, u, rfl, hw, SqL.of (e3 p _ hp), hu, q u H3 (Ex.tr e2 e3) hux⟩)
theorem ed_ixT {l i : Expr} {t : Tup α} {k : Int} (hl : ED X σ H l t) (hi : ED X σ H i k) (hx : atI t.items k = some x) (hs : PlainIx i := by exact fun _ _ => rfl) : ED X σ H (.Subscript l i pos) x := fun H1 e1 Q q =>
  we_of (pe_ix ix_tup pe_we pe_we hs) (hl H1 e1 _ fun v H2 e2 ⟨p, vs, hv, hp, hA⟩ => hi H2 (Ex.tr e1 e2) _ fun w H3 e3 hw => by
    subst hv
    obtain ⟨u, hu, hux⟩ := at_is (hA.up e3) hx
    exact ⟨p, vs, k, u, rfl, hw, SqT.of (e3 p _ hp), hu, q u H3 (Ex.tr e2 e3) hux⟩)

/-! slices -/
def EO (X : Cx) (σ : St) (H : Hp) (o : Option Expr) (k : Option Int) : Prop := ∃ t, PO X o t ∧ ∀ H1, Ex H H1 → ∀ Q : Option Int → Hp → Prop, (∀ H2, Ex H1 H2 → Q k H2) → t σ H1 Q
theorem eo_none : EO X σ H none none := ⟨_, po_none, fun H1 _ Q q => q H1 (Ex.rf _)⟩
theorem eo_some {i : Int} (h : ED X σ H e i) : EO X σ H (some e) (some i) := ⟨_, po_some pe_we, fun H1 e1 Q q => h H1 e1 _ fun v H2 e2 hv => ⟨i, hv, q H2 e2⟩⟩
def cutD {α : Type} (xs : List α) (lo hi : Option Int) : List α := (xs.drop (HT.sIx xs.length 0 lo)).take (HT.sIx xs.length xs.length hi - HT.sIx xs.length 0 lo)
theorem cut_is {vs : List V} {xs : List α} (h : AllIs H vs xs) (lo hi : Option Int) : AllIs H (cutV vs lo hi) (cutD xs lo hi) := by
  unfold cutV cutD
  rw [h.len]
  exact ptake _ (pdrop _ h)
theorem sIx_int {n d : Nat} {k : Int} (h : 0 ≤ k) : HT.sIx n d (some k) = min k.toNat n := by
  have e := HT.sIx_nat n d k.toNat
  rwa [Int.toNat_of_nonneg h] at e
theorem cut_from {xs : List α} {k : Int} (h : 0 ≤ k) : cutD xs (some k) none = xs.drop k.toNat := by
  unfold cutD
  rw [sIx_int h, HT.sIx_none, List.take_of_length_le (by rw [List.length_drop]; omega)]
  by_cases q : k.toNat ≤ xs.length
  · rw [Nat.min_eq_left q]
  · rw [Nat.min_eq_right (by omega), List.drop_of_length_le (Nat.le_refl _), List.drop_of_length_le (by omega)]
theorem cut_to {xs : List α} {k : Int} (h : 0 ≤ k) : cutD xs none (some k) = xs.take k.toNat := by
  unfold cutD
  rw [sIx_int h, HT.sIx_none, List.drop_zero, Nat.sub_zero]
  by_cases q : k.toNat ≤ xs.length
  · rw [Nat.min_eq_left q]
  · rw [Nat.min_eq_right (by omega), List.take_of_length_le (Nat.le_refl _), List.take_of_length_le (by omega)]
theorem ed_slT {t : Tup α} {lo hi : Option Expr} {l h : Option Int} {p2 : Pos} (he : ED X σ H e t) (hl : EO X σ H lo l) (hh : EO X σ H hi h) : ED X σ H (.Subscript e (.Slice lo hi none p2) pos) (PySem.W.Tup.mk (cutD t.items l h)) := by
  obtain ⟨tl, pl, kl⟩ := hl
  obtain ⟨th, ph, kh⟩ := hh
  exact fun H1 e1 Q q => we_of (pe_slice sl_tupA pe_we pl ph) (he H1 e1 _ fun v H2 e2 ⟨p, vs, hv, hp, hA⟩ => kl H2 (Ex.tr e1 e2) _ fun H3 e3 => kh H3 (Ex.tr (Ex.tr e1 e2) e3) _ fun H4 e4 => by
    subst hv
    have k := Ex.tr e3 e4
    refine ⟨p, vs, rfl, SqT.of (k p _ hp), fun hw => ?_, fun hw r hr => ?_⟩
    · refine q _ H4 (Ex.tr e2 k) ⟨p, vs, rfl, k p _ hp, ?_⟩
      have z := cut_is (hA.up k) l h
      have z2 : cutV vs l h = vs := by unfold cutV; rw [hw.1, hw.2]; simp
      rwa [z2] at z
    · have k2 : Ex H4 (upd H4 r (.tup (cutV vs l h))) := Ex.new hr
      exact q _ _ (Ex.tr (Ex.tr e2 k) k2) ⟨r, _, rfl, upd_same, cut_is ((hA.up k).up k2) l h⟩)
theorem el_slL {xs : List α} {lo hi : Option Expr} {l h : Option Int} {p2 : Pos} (he : ED X σ H e xs) (hl : EO X σ H lo l) (hh : EO X σ H hi h) : EL X σ H (.Subscript e (.Slice lo hi none p2) pos) (cutD xs l h) := by
  obtain ⟨tl, pl, kl⟩ := hl
  obtain ⟨th, ph, kh⟩ := hh
  exact fun H1 e1 Q q => we_of (pe_slice sl_list pe_we pl ph) (he H1 e1 _ fun v H2 e2 ⟨p, hv, vs, hp, hA⟩ => kl H2 (Ex.tr e1 e2) _ fun H3 e3 => kh H3 (Ex.tr (Ex.tr e1 e2) e3) _ fun H4 e4 => by
    subst hv
    have k := Ex.tr e3 e4
    refine ⟨p, vs, rfl, SqL.of (k p _ hp), fun r hr => ?_⟩
    have k2 : Ex H4 (upd H4 r (.lst (cutV vs l h))) := Ex.new hr
    exact q r _ (fresh_b (Ex.tr e2 k) hr) (Ex.tr (Ex.tr e2 k) k2) ⟨_, upd_same, cut_is ((hA.up k).up k2) l h⟩)
theorem el_rev {xs : List α} {k : Nat} {p1 p2 p3 : Pos} (he : ED X σ H e xs) : EL X σ H (.Subscript e (.Slice none none (some (.UnaryOp .USub (.Constant (.int 1) k p1) p2)) p3) pos) xs.reverse := fun H1 e1 Q q =>
  we_of (pe_revL pe_we) (he H1 e1 _ fun v H2 e2 ⟨p, hv, vs, hp, hA⟩ => ⟨p, vs, hv, SqL.of hp, fun r hr => by
    have k2 : Ex H2 (upd H2 r (.lst vs.reverse)) := Ex.new hr
    exact q r _ (fresh_b e2 hr) (Ex.tr e2 k2) ⟨_, upd_same, prev (hA.up k2)⟩⟩)

/-! built-ins -/
theorem ed_cb1 {n : Str} {id : String} {p : Pos} {r : List V → Hp → VK → Prop} (hc : CallR X (.builtin id) r) (hg : Gl X n) (hm : X.mg n = none) (hv : bootBuiltins n = some (.builtin id)) (ha : ED X σ H a x)
    (hr : ∀ H2 u (Q : VK), Ex H H2 → Rep.is H2 u x → (∀ w H3, Ex H2 H3 → Rep.is H3 w z → Q w H3) → r [u] H2 Q) (hn : n ≠ "__name__" := by decide) (hdb : (n == ("__debug__" : Str)) = false := by decide)
    (he : starEach [a] X.env = [(false, eval a X.env)] := by rfl) : ED X σ H (.Call (.Name n p) [a] [] pos) z := fun H1 e1 Q q =>
  we_of (pe_callB hc hg hm hv (pa_cons pe_we pa_nil he) hn hdb he (by rfl)) (ha H1 e1 _ fun u H2 e2 hu => hr H2 u Q (Ex.tr e1 e2) hu fun w H3 e3 hw => q w H3 (Ex.tr e2 e3) hw)
theorem ed_ct1 {n : Str} {id : String} {p : Pos} {r : List V → Hp → VK → Prop} (hc : CallR X (.type id) r) (hg : Gl X n) (hm : X.mg n = none) (hv : bootBuiltins n = some (.type id)) (ha : ED X σ H a x)
    (hr : ∀ H2 u (Q : VK), Ex H H2 → Rep.is H2 u x → (∀ w H3, Ex H2 H3 → Rep.is H3 w z → Q w H3) → r [u] H2 Q) (hn : n ≠ "__name__" := by decide) (hdb : (n == ("__debug__" : Str)) = false := by decide)
    (he : starEach [a] X.env = [(false, eval a X.env)] := by rfl) : ED X σ H (.Call (.Name n p) [a] [] pos) z := fun H1 e1 Q q =>
  we_of (pe_callTy hc hg hm hv (pa_cons pe_we pa_nil he) hn hdb he (by rfl)) (ha H1 e1 _ fun u H2 e2 hu => hr H2 u Q (Ex.tr e1 e2) hu fun w H3 e3 hw => q w H3 (Ex.tr e2 e3) hw)
theorem ed_len {xs : List α} {p : Pos} (ha : ED X σ H a xs) (hg : Gl X "len") (hm : X.mg "len" = none) (he : starEach [a] X.env = [(false, eval a X.env)] := by rfl) : ED X σ H (.Call (.Name "len" p) [a] [] pos) (xs.length : Int) :=
  ed_cb1 call_len_seq hg hm PySem.boot_len ha (fun H2 u Q _ ⟨q, hv, vs, hp, hA⟩ k => ⟨q, vs, by rw [hv], .inl (SqL.of hp), by rw [hA.len]; exact k _ H2 (Ex.rf _) rfl⟩) (he := he)
theorem ed_lenT {t : Tup α} {p : Pos} (ha : ED X σ H a t) (hg : Gl X "len") (hm : X.mg "len" = none) (he : starEach [a] X.env = [(false, eval a X.env)] := by rfl) : ED X σ H (.Call (.Name "len" p) [a] [] pos) (t.items.length : Int) :=
  ed_cb1 call_len_seq hg hm PySem.boot_len ha (fun H2 u Q _ ⟨q, vs, hv, hp, hA⟩ k => ⟨q, vs, by rw [hv], .inr (SqT.of hp), by rw [hA.len]; exact k _ H2 (Ex.rf _) rfl⟩) (he := he)
theorem ed_tuple {xs : List α} {p : Pos} (ha : ED X σ H a xs) (hg : Gl X "tuple") (hm : X.mg "tuple" = none) (he : starEach [a] X.env = [(false, eval a X.env)] := by rfl) : ED X σ H (.Call (.Name "tuple" p) [a] [] pos) (PySem.W.Tup.mk xs) :=
  ed_ct1 call_tuple_of hg hm (by decide +kernel) ha (fun H2 u Q _ ⟨q, hv, vs, hp, hA⟩ k => ⟨q, vs, by rw [hv], .inl ⟨SqL.of hp, fun l hl => k _ _ (Ex.new hl) ⟨l, vs, rfl, upd_same, hA.up (Ex.new hl)⟩⟩⟩) (he := he)
theorem ints_is : ∀ {vs : List V} {ns : List Int}, AllIs H vs ns → vs = ns.map V.int
  | _, _, .nil => rfl
  | _, _, .cons r t => by rw [ints_is t, show _ = V.int _ from r, List.map_cons]
theorem is_ints : ∀ {ns : List Int}, AllIs H (ns.map V.int) ns
  | [] => .nil
  | _ :: _ => .cons rfl is_ints
theorem bools_is : ∀ {vs : List V} {ns : List Bool}, AllIs H vs ns → vs = ns.map V.bl
  | _, _, .nil => rfl
  | _, _, .cons r t => by rw [bools_is t, show _ = V.bl _ from r, List.map_cons]
theorem ed_sum {ns : List Int} {p : Pos} (hc : X.calm = true) (ha : ED X σ H a ns) (hg : Gl X "sum") (hm : X.mg "sum" = none) (he : starEach [a] X.env = [(false, eval a X.env)] := by rfl) : ED X σ H (.Call (.Name "sum" p) [a] [] pos) ns.sum :=
  ed_cb1 (cr_sum hc) hg hm (by decide +kernel) ha (fun H2 u Q _ ⟨q, hv, vs, hp, hA⟩ k => ⟨q, ns, by rw [hv], SqL.of (by rw [hp, ints_is hA]), k _ H2 (Ex.rf _) rfl⟩) (he := he)
theorem ed_all {bs : List Bool} {p : Pos} (hc : X.calm = true) (ha : ED X σ H a bs) (hg : Gl X "all") (hm : X.mg "all" = none) (he : starEach [a] X.env = [(false, eval a X.env)] := by rfl) : ED X σ H (.Call (.Name "all" p) [a] [] pos) (bs.all id) :=
  ed_cb1 (cr_all hc) hg hm (by decide +kernel) ha (fun H2 u Q _ ⟨q, hv, vs, hp, hA⟩ k => ⟨q, bs, by rw [hv], SqL.of (by rw [hp, bools_is hA]), k _ H2 (Ex.rf _) rfl⟩) (he := he)
theorem ed_abs {i : Int} {p : Pos} (ha : ED X σ H a i) (hg : Gl X "abs") (hm : X.mg "abs" = none) (he : starEach [a] X.env = [(false, eval a X.env)] := by rfl) : ED X σ H (.Call (.Name "abs" p) [a] [] pos) (if i < 0 then -i else i) :=
  ed_cb1 call_abs hg hm (by decide +kernel) ha (fun H2 u Q _ hv k => ⟨i, by rw [show u = V.int i from hv], k _ H2 (Ex.rf _) rfl⟩) (he := he)
theorem ed_intI {i : Int} {p : Pos} (ha : ED X σ H a i) (hg : Gl X "int") (hm : X.mg "int" = none) (he : starEach [a] X.env = [(false, eval a X.env)] := by rfl) : ED X σ H (.Call (.Name "int" p) [a] [] pos) i :=
  ed_ct1 call_int1 hg hm (by decide +kernel) ha (fun H2 u Q _ hv k => .inl ⟨i, by rw [show u = V.int i from hv], k _ H2 (Ex.rf _) rfl⟩) (he := he)
theorem ed_intB {i : Bool} {p : Pos} (ha : ED X σ H a i) (hg : Gl X "int") (hm : X.mg "int" = none) (he : starEach [a] X.env = [(false, eval a X.env)] := by rfl) : ED X σ H (.Call (.Name "int" p) [a] [] pos) (if i then (1 : Int) else 0) :=
  ed_ct1 call_int1 hg hm (by decide +kernel) ha (fun H2 u Q _ hv k => .inr ⟨i, by rw [show u = V.bl i from hv], k _ H2 (Ex.rf _) (by cases i <;> rfl)⟩) (he := he)
def rngI (n : Nat) : List Int := (List.range n).map Int.ofNat
/-- list(range(n)) -/
theorem el_listRg {n : Int} {p p1 p2 : Pos} (hc : X.calm = true) (ha : ED X σ H a n) (hn : 0 ≤ n ∧ n ≤ 100000) (hg : Gl X "list") (hm : X.mg "list" = none) (hg2 : Gl X "range") (hm2 : X.mg "range" = none) (he : starEach [a] X.env = (false, eval a X.env) :: starEach [] X.env := by rfl)
    (he2 : starEach [.Call (.Name "range" p1) [a] [] p2] X.env = (false, eval (.Call (.Name "range" p1) [a] [] p2) X.env) :: starEach [] X.env := by rfl) :
    EL X σ H (.Call (.Name "list" p) [.Call (.Name "range" p1) [a] [] p2] [] pos) (rngI n.toNat) := fun H1 e1 Q q =>
  we_of (pe_listRg hc hg hm (prg_1 hg2 hm2 pe_we he) he2) (ha H1 e1 _ fun u H2 e2 hu => ⟨n, hu, RgOk.of_le (by omega) (by omega) (by omega) (by omega), fun r hr => by
    have k2 : Ex H2 (upd H2 r (.lst (rgV 0 n))) := Ex.new hr
    refine q r _ (fresh_b e2 hr) (Ex.tr e2 k2) ⟨_, upd_same, ?_⟩
    unfold rgV
    rw [Int.sub_zero]
    have go : ∀ l : List Nat, AllIs (upd H2 r (.lst (rgV 0 n))) (l.map fun i => V.int (0 + (i : Nat))) (l.map Int.ofNat) := fun l => by
      induction l with
      | nil => exact .nil
      | cons i l ih => exact .cons (show V.int _ = V.int _ by rw [Int.zero_add] <;> rfl) ih
    exact go _⟩)
/-- list(xs) of a list -/
theorem el_list {xs : List α} {p : Pos} (ha : ED X σ H a xs) (hg : Gl X "list") (hm : X.mg "list" = none) (he : starEach [a] X.env = [(false, eval a X.env)] := by rfl) : EL X σ H (.Call (.Name "list" p) [a] [] pos) xs := fun H1 e1 Q q =>
  we_of (pe_callTy call_list_of hg hm (by decide +kernel) (pa_cons pe_we pa_nil he) (by decide) (by decide) he (by rfl)) (ha H1 e1 _ fun u H2 e2 ⟨p, hv, vs, hp, hA⟩ => ⟨p, vs, by rw [hv], .inl (SqL.of hp), fun l hl =>
    q l _ (fresh_b e2 hl) (Ex.tr e2 (Ex.new hl)) ⟨vs, upd_same, hA.up (Ex.new hl)⟩⟩)
/-- xs + ys, xs * k of new lists -/
theorem el_cat {xs ys : List α} (ha : EL X σ H a xs) (hb : EL X σ H b ys) (hz : xs.length + ys.length ≤ sizeLine) : EL X σ H (.BinOp a .Add b pos) (xs ++ ys) := fun H1 e1 Q q =>
  we_of (pe_op op_cat pe_we pe_we) (ha H1 e1 _ fun p H2 h1 e2 ⟨vs, hp, hA⟩ => hb H2 (Ex.tr e1 e2) _ fun r H3 h2 e3 ⟨ws, hr, hB⟩ => ⟨p, r, vs, ws, rfl, rfl, e3 p _ hp, hr, by rw [hA.len, hB.len]; exact hz, fun l hl =>
    q l _ (fresh_b (Ex.tr e2 e3) hl) (Ex.tr (Ex.tr e2 e3) (Ex.new hl)) ⟨_, upd_same, papp ((hA.up e3).up (Ex.new hl)) (hB.up (Ex.new hl))⟩⟩)
theorem el_rep {xs : List α} {k : Int} (ha : EL X σ H a xs) (hb : ED X σ H b k) (hk : 0 ≤ k ∧ k ≤ 100000) (hz : xs.length * k.toNat ≤ sizeLine) : EL X σ H (.BinOp a .Mult b pos) (List.replicate k.toNat xs).flatten := fun H1 e1 Q q =>
  we_of (pe_op op_rep pe_we pe_we) (ha H1 e1 _ fun p H2 h1 e2 ⟨vs, hp, hA⟩ => hb H2 (Ex.tr e1 e2) _ fun w H3 e3 hw => ⟨p, k, vs, rfl, hw, e3 p _ hp, by omega, by omega, by rw [hA.len]; exact hz, fun l hl =>
    q l _ (fresh_b (Ex.tr e2 e3) hl) (Ex.tr (Ex.tr e2 e3) (Ex.new hl)) ⟨_, upd_same, prep ((hA.up e3).up (Ex.new hl)) k.toNat⟩⟩)
theorem rep_one {x : α} : ∀ n : Nat, (List.replicate n [x]).flatten = List.replicate n x
  | 0 => rfl
  | n + 1 => by rw [List.replicate_succ, List.flatten_cons, rep_one n]; rfl
theorem el_rep1 {x : α} {k : Int} (ha : EL X σ H a [x]) (hb : ED X σ H b k) (hk : 0 ≤ k ∧ k ≤ 100000) : EL X σ H (.BinOp a .Mult b pos) (List.replicate k.toNat x) :=
  (el_rep ha hb hk (by rw [sizeLine_eq]; simp; omega)).to (rep_one _)

/-! data -/
theorem is_eqV {H : Hp} {v w : V} (h : v = w) : Rep.is H v w := h
end
section
variable {α β : Type} [DecidableEq α] [DecidableEq β] [Rep α] [Rep β] [Dat α] [Dat β] {X : Cx} {σ : St} {H H' : Hp} {e a b c : Expr} {es : List Expr} {pos : Pos} {x y : α}
open PySem.W (Datum DatumOrd HoldAll Holds)
theorem rd_is {pins : List (Addr × Obj)} {s : Shared} {v : V} {u : Value} (I : Inv X pins σ H s) (h : Rep.is H v x) (r : RelV v u) : Holds s.heap u x := Dp.reads I _ v u (Dat.dp (K := X.K) h) r
theorem rdAll_is {pins : List (Addr × Obj)} {s : Shared} {xs : List α} : ∀ {vs : List V} {us : List Value}, Inv X pins σ H s → AllIs H vs xs → Vals vs us → HoldAll s.heap us xs := fun {vs us} I h r => Dp.readsAll I _ vs us (dpAll (K := X.K) h) r
theorem c_eqD (hu : X.A.units + Datum.depth α < cLine) : CmpIs X .Eq H x y (decide (x = y)) := ⟨fun v w H Q => Rep.is H v x ∧ Rep.is H w y ∧ Q (.bl (decide (x = y))) H, fun pins s σ H v w uv uw Q I rv rw ⟨hv, hw, q⟩ =>
  PySem.W.eq_datum (rd_is I hv rv) (rd_is I hw rw) hu ⟨.bl _, H, I, rfl, q⟩, fun H2 u v Q _ hu hv q => ⟨hu, hv, q⟩⟩
theorem c_neD (hu : X.A.units + Datum.depth α < cLine) : CmpIs X .NotEq H x y (!decide (x = y)) := ⟨fun v w H Q => Rep.is H v x ∧ Rep.is H w y ∧ Q (.bl (!decide (x = y))) H, fun pins s σ H v w uv uw Q I rv rw ⟨hv, hw, q⟩ =>
  PySem.W.ne_datum (rd_is I hv rv) (rd_is I hw rw) hu ⟨.bl _, H, I, by rw [decide_not] <;> rfl, q⟩, fun H2 u v Q _ hu hv q => ⟨hu, hv, q⟩⟩
theorem c_ltD (hu : X.A.units + Datum.depth α < cLine) : CmpIs X .Lt H x y (DatumOrd.lt x y) := ⟨fun v w H Q => Rep.is H v x ∧ Rep.is H w y ∧ Q (.bl (DatumOrd.lt x y)) H, fun pins s σ H v w uv uw Q I rv rw ⟨hv, hw, q⟩ =>
  PySem.W.lt_datum (rd_is I hv rv) (rd_is I hw rw) hu ⟨.bl _, H, I, rfl, q⟩, fun H2 u v Q _ hu hv q => ⟨hu, hv, q⟩⟩
theorem c_inD {xs : List α} (hu : X.A.units + 1 + Datum.depth α < cLine) : CmpIs X .In H x xs (decide (x ∈ xs)) := ⟨fun v w H Q => Rep.is H v x ∧ Rep.is H w xs ∧ Q (.bl (decide (x ∈ xs))) H, fun pins s σ H v w uv uw Q I rv rw ⟨hv, ⟨p, e, vs, hp, hA⟩, q⟩ => by
  subst e
  cases rw
  obtain ⟨its, r, pl, hz⟩ := I.list (SqL.of hp)
  exact PySem.W.in_list_datum pl.isList (rdAll_is I hA r) (rd_is I hv rv) hu ⟨.bl _, H, I, rfl, q⟩, fun H2 u v Q _ hu hv q => ⟨hu, hv, q⟩⟩
theorem c_ninD {xs : List α} (hu : X.A.units + 1 + Datum.depth α < cLine) : CmpIs X .NotIn H x xs (!decide (x ∈ xs)) := ⟨fun v w H Q => Rep.is H v x ∧ Rep.is H w xs ∧ Q (.bl (!decide (x ∈ xs))) H, fun pins s σ H v w uv uw Q I rv rw ⟨hv, ⟨p, e, vs, hp, hA⟩, q⟩ => by
  subst e
  cases rw
  obtain ⟨its, r, pl, hz⟩ := I.list (SqL.of hp)
  exact PySem.W.notIn_list_datum pl.isList (rdAll_is I hA r) (rd_is I hv rv) hu ⟨.bl _, H, I, by rw [decide_not] <;> rfl, q⟩, fun H2 u v Q _ hu hv q => ⟨hu, hv, q⟩⟩
end
end Oa
set_option Elab.async false
set_option linter.all false
set_option maxRecDepth 100000
set_option maxHeartbeats 1000000
namespace Oa
open PySem PySem.Spec PyProof.Rows L2

/-! ### a def of the text, by its name -/
structure Dfn (P : Program) (w : World) (K : PySem.W.Frag) (mg : Str → Option Value) (base : Heap) (CX : CXT) (k : Nat) (n : Str) (ps : List Str) (sp : Sp) : Prop where
  ok : ∃ (f : Addr) (fd : FuncData), FnOk P w K mg base CX k f fd ps sp ∧ mg n = some (.ref f) ∧ PySem.W.keepIn K (.ref f) = true ∧ Binds K fd ps []
theorem Dfn.mono {P : Program} {w : World} {K : PySem.W.Frag} {mg : Str → Option Value} {base : Heap} {CX : CXT} {j k : Nat} {n : Str} {ps : List Str} {sp : Sp} (D : Dfn P w K mg base CX j n ps sp) (h : j ≤ k) : Dfn P w K mg base CX k n ps sp :=
  let ⟨f, fd, F, h1, h2, h3⟩ := D.ok
  ⟨f, fd, F.mono h, h1, h2, h3⟩
/-- what comes back: data | a new list -/
abbrev rD {α : Type} [Rep α] (z : α) : Hp → V → Hp → Prop := fun _ w H' => Rep.is H' w z
abbrev rL {α : Type} [Rep α] (zs : List α) : Hp → V → Hp → Prop := fun H w H' => ∃ p, w = .ref p ∧ H p = none ∧ Ls H' p zs
section
variable {α β γ δ : Type} [Rep α] [Rep β] [Rep γ] [Rep δ]
def S1 (pre : α → Prop) (R : α → Hp → V → Hp → Prop) : Sp := fun vs H Q _ => ∃ v x, vs = [v] ∧ Rep.is H v x ∧ pre x ∧ ∀ w H', Ex H H' → R x H w H' → Q w H'
def S2 (pre : α → β → Prop) (R : α → β → Hp → V → Hp → Prop) : Sp := fun vs H Q _ => ∃ v x u y, vs = [v, u] ∧ Rep.is H v x ∧ Rep.is H u y ∧ pre x y ∧ ∀ w H', Ex H H' → R x y H w H' → Q w H'
def S3 (pre : α → β → γ → Prop) (R : α → β → γ → Hp → V → Hp → Prop) : Sp := fun vs H Q _ => ∃ v x u y t z, vs = [v, u, t] ∧ Rep.is H v x ∧ Rep.is H u y ∧ Rep.is H t z ∧ pre x y z ∧ ∀ w H', Ex H H' → R x y z H w H' → Q w H'
variable {X : Cx} {σ : St} {H H' : Hp} {a b c : Expr} {pos p : Pos} {n : Str} {k : Nat} {ps : List Str} {CX : CXT}
theorem ec_call {e : Expr} {es : List Expr} {sp : Sp} {Rr : List V → Hp → Prop} {H1 : Hp} {Q : VK} (D : Dfn X.prog X.w X.K X.mg X.base CX k n ps sp) (hr : Room k X.A) (hg : Gl X n) (hx : Passes CX X E0) (ha : EA X σ H (e :: es) Rr) (e1 : Ex H H1)
    (q : ∀ vs H2, Ex H1 H2 → Rr vs H2 → sp vs H2 Q E0) (hdb : (n == ("__debug__" : Str)) = false := by decide) (he : starEach (e :: es) X.env = (false, eval e X.env) :: starEach es X.env := by rfl) (hpl : (backTo pos (starEach es X.env)).any (·.1) = false := by rfl) :
    we X (.Call (.Name n p) (e :: es) [] pos) σ H1 Q := by
  obtain ⟨f, fd, F, hm, hk, hb⟩ := D.ok
  exact we_of (pe_call F hr hg hm hk hb .nil hx pa_wa hdb he hpl) (ha H1 e1 _ fun vs H2 e2 r => by rw [List.append_nil]; exact q vs H2 e2 r)
theorem ed_call1 {x : α} {z : β} {pre : α → Prop} {f : α → β} (D : Dfn X.prog X.w X.K X.mg X.base CX k n ps (S1 pre fun x => rD (f x))) (ha : ED X σ H a x) (hp : pre x) (hr : Room k X.A) (hx : Passes CX X E0) (hg : Gl X n) (hdb : (n == ("__debug__" : Str)) = false := by decide)
    (he : starEach [a] X.env = [(false, eval a X.env)] := by rfl) : ED X σ H (.Call (.Name n p) [a] [] pos) (f x) := fun H1 e1 Q q =>
  ec_call D hr hg hx (ea_cons ha ea_nil he) e1 (fun vs H2 e2 ⟨v, ws, h1, hv, h2⟩ => by
    subst h1 h2
    exact ⟨v, x, rfl, hv, hp, fun w H3 e3 r => q w H3 (Ex.tr e2 e3) r⟩) hdb he (by rfl)
theorem el_call1 {x : α} {pre : α → Prop} {f : α → List β} (D : Dfn X.prog X.w X.K X.mg X.base CX k n ps (S1 pre fun x => rL (f x))) (ha : ED X σ H a x) (hp : pre x) (hr : Room k X.A) (hx : Passes CX X E0) (hg : Gl X n) (hdb : (n == ("__debug__" : Str)) = false := by decide)
    (he : starEach [a] X.env = [(false, eval a X.env)] := by rfl) : EL X σ H (.Call (.Name n p) [a] [] pos) (f x) := fun H1 e1 Q q =>
  ec_call D hr hg hx (ea_cons ha ea_nil he) e1 (fun vs H2 e2 ⟨v, ws, h1, hv, h2⟩ => by
    subst h1 h2
    exact ⟨v, x, rfl, hv, hp, fun w H3 e3 ⟨p, e, hn, l⟩ => by subst e; exact q p H3 (fresh_b e2 hn) (Ex.tr e2 e3) l⟩) hdb he (by rfl)
theorem ed_call2 {x : α} {y : β} {pre : α → β → Prop} {f : α → β → γ} (D : Dfn X.prog X.w X.K X.mg X.base CX k n ps (S2 pre fun x y => rD (f x y))) (ha : ED X σ H a x) (hb : ED X σ H b y) (hp : pre x y) (hr : Room k X.A) (hx : Passes CX X E0) (hg : Gl X n) (hdb : (n == ("__debug__" : Str)) = false := by decide)
    (he : starEach [a, b] X.env = (false, eval a X.env) :: starEach [b] X.env := by rfl) (he2 : starEach [b] X.env = [(false, eval b X.env)] := by rfl) : ED X σ H (.Call (.Name n p) [a, b] [] pos) (f x y) := fun H1 e1 Q q =>
  ec_call D hr hg hx (ea_cons ha (ea_cons hb ea_nil he2) he) e1 (fun vs H2 e2 ⟨v, ws, h1, hv, u, ws2, h2, hu, h3⟩ => by
    subst h1 h2 h3
    exact ⟨v, x, u, y, rfl, hv, hu, hp, fun w H3 e3 r => q w H3 (Ex.tr e2 e3) r⟩) hdb he (by rw [he2] <;> rfl)
theorem el_call2 {x : α} {y : β} {pre : α → β → Prop} {f : α → β → List γ} (D : Dfn X.prog X.w X.K X.mg X.base CX k n ps (S2 pre fun x y => rL (f x y))) (ha : ED X σ H a x) (hb : ED X σ H b y) (hp : pre x y) (hr : Room k X.A) (hx : Passes CX X E0) (hg : Gl X n) (hdb : (n == ("__debug__" : Str)) = false := by decide)
    (he : starEach [a, b] X.env = (false, eval a X.env) :: starEach [b] X.env := by rfl) (he2 : starEach [b] X.env = [(false, eval b X.env)] := by rfl) : EL X σ H (.Call (.Name n p) [a, b] [] pos) (f x y) := fun H1 e1 Q q =>
  ec_call D hr hg hx (ea_cons ha (ea_cons hb ea_nil he2) he) e1 (fun vs H2 e2 ⟨v, ws, h1, hv, u, ws2, h2, hu, h3⟩ => by
    subst h1 h2 h3
    exact ⟨v, x, u, y, rfl, hv, hu, hp, fun w H3 e3 ⟨p, e, hn, l⟩ => by subst e; exact q p H3 (fresh_b e2 hn) (Ex.tr e2 e3) l⟩) hdb he (by rw [he2] <;> rfl)
theorem ed_call3 {x : α} {y : β} {z : γ} {pre : α → β → γ → Prop} {f : α → β → γ → δ} (D : Dfn X.prog X.w X.K X.mg X.base CX k n ps (S3 pre fun x y z => rD (f x y z))) (ha : ED X σ H a x) (hb : ED X σ H b y) (hc : ED X σ H c z) (hp : pre x y z) (hr : Room k X.A) (hx : Passes CX X E0) (hg : Gl X n) (hdb : (n == ("__debug__" : Str)) = false := by decide)
    (he : starEach [a, b, c] X.env = (false, eval a X.env) :: starEach [b, c] X.env := by rfl) (he2 : starEach [b, c] X.env = (false, eval b X.env) :: starEach [c] X.env := by rfl) (he3 : starEach [c] X.env = [(false, eval c X.env)] := by rfl) : ED X σ H (.Call (.Name n p) [a, b, c] [] pos) (f x y z) := fun H1 e1 Q q =>
  ec_call D hr hg hx (ea_cons ha (ea_cons hb (ea_cons hc ea_nil he3) he2) he) e1 (fun vs H2 e2 ⟨v, ws, h1, hv, u, ws2, h2, hu, t, ws3, h3, ht, h4⟩ => by
    subst h1 h2 h3 h4
    exact ⟨v, x, u, y, t, z, rfl, hv, hu, ht, hp, fun w H3 e3 r => q w H3 (Ex.tr e2 e3) r⟩) hdb he (by rw [he2, he3] <;> rfl)
theorem el_call3 {x : α} {y : β} {z : γ} {pre : α → β → γ → Prop} {f : α → β → γ → List δ} (D : Dfn X.prog X.w X.K X.mg X.base CX k n ps (S3 pre fun x y z => rL (f x y z))) (ha : ED X σ H a x) (hb : ED X σ H b y) (hc : ED X σ H c z) (hp : pre x y z) (hr : Room k X.A) (hx : Passes CX X E0) (hg : Gl X n) (hdb : (n == ("__debug__" : Str)) = false := by decide)
    (he : starEach [a, b, c] X.env = (false, eval a X.env) :: starEach [b, c] X.env := by rfl) (he2 : starEach [b, c] X.env = (false, eval b X.env) :: starEach [c] X.env := by rfl) (he3 : starEach [c] X.env = [(false, eval c X.env)] := by rfl) : EL X σ H (.Call (.Name n p) [a, b, c] [] pos) (f x y z) := fun H1 e1 Q q =>
  ec_call D hr hg hx (ea_cons ha (ea_cons hb (ea_cons hc ea_nil he3) he2) he) e1 (fun vs H2 e2 ⟨v, ws, h1, hv, u, ws2, h2, hu, t, ws3, h3, ht, h4⟩ => by
    subst h1 h2 h3 h4
    exact ⟨v, x, u, y, t, z, rfl, hv, hu, ht, hp, fun w H3 e3 ⟨p, e, hn, l⟩ => by subst e; exact q p H3 (fresh_b e2 hn) (Ex.tr e2 e3) l⟩) hdb he (by rw [he2, he3] <;> rfl)
end

/-! ### what is walked -/
/-- an iterator that gives xs, whatever is changed at P meanwhile -/
structure JOk {α : Type} [Rep α] (P : List Addr) (J : It) (H : Hp) (xs : List α) : Prop where
  go : ∀ H' (i : Nat), Mx P H H' → i < xs.length → J.go i H'
  stop : ∀ H', Mx P H H' → J.stop xs.length H'
  yld : ∀ H' (i : Nat) v H'', Mx P H H' → J.yld i H' v H'' → Ex H' H'' ∧ ∀ x, xs[i]? = some x → Rep.is H'' v x
structure Src {α : Type} [Rep α] (X : Cx) (σ : St) (H : Hp) (P : List Addr) (tg l : Expr) (xs : List α) : Prop where
  ok : ∃ wi : TI, PI X tg l wi ∧ ∀ H1, Ex H H1 → ∀ R : It → Hp → Prop, (∀ J H2, Ex H1 H2 → JOk P J H2 xs → R J H2) → wi σ H1 R
/-- nothing that never changes stands at P -/
abbrev NoFix (P : List Addr) (H : Hp) : Prop := ∀ a ∈ P, ∀ o, Fix o → H a ≠ some o
theorem Mx.nil {H H' : Hp} (m : Mx [] H H') : Ex H H' := ⟨fun a o h nt => m.but a o (by simp) h nt, m.sm, m.tab⟩
theorem Mx.of {P : List Addr} {H H' : Hp} (e : Ex H H') (n : NoFix P H) : Mx P H H' := ⟨fun a o _ h nt => e.keep a o h nt, n, e.some', e.tab⟩
section
variable {α β : Type} [Rep α] [Rep β] {X : Cx} {σ : St} {H : Hp} {P : List Addr} {tg l a b : Expr} {xs : List α} {pos p : Pos}
theorem jok_list {K : PySem.W.Frag} {a : Addr} {H2 : Hp} [Imm α] (h : Ls H2 a xs) (ha : a ∉ P) : JOk P (Itl K a) H2 xs := by
  obtain ⟨vs, hp, hA⟩ := h
  refine ⟨fun H' i m hi => ?_, fun H' m => ⟨vs, SqL.of (m.but a _ ha hp), by rw [hA.len]; exact Nat.le_refl _⟩, fun H' i v H'' m y => ?_⟩
  · have hi' : i < vs.length := by rw [hA.len]; exact hi
    exact ⟨vs, vs[i], SqL.of (m.but a _ ha hp), by simp [hi']⟩
  · obtain ⟨e, y⟩ := y
    subst e
    refine ⟨Ex.rf _, fun x hx => ?_⟩
    obtain ⟨v', hv', r⟩ := pget' hA hx
    have e2 := y vs (SqL.of (m.but a _ ha hp))
    rw [hv'] at e2
    cases e2
    exact Imm.tx m.tx r
theorem jok_list0 {K : PySem.W.Frag} {a : Addr} {H2 : Hp} (h : Ls H2 a xs) : JOk [] (Itl K a) H2 xs := by
  obtain ⟨vs, hp, hA⟩ := h
  refine ⟨fun H' i m hi => ?_, fun H' m => ⟨vs, SqL.of (m.nil a _ hp), by rw [hA.len]; exact Nat.le_refl _⟩, fun H' i v H'' m y => ?_⟩
  · have hi' : i < vs.length := by rw [hA.len]; exact hi
    exact ⟨vs, vs[i], SqL.of (m.nil a _ hp), by simp [hi']⟩
  · obtain ⟨e, y⟩ := y
    subst e
    refine ⟨Ex.rf _, fun x hx => ?_⟩
    obtain ⟨v', hv', r⟩ := pget' hA hx
    have e2 := y vs (SqL.of (m.nil a _ hp))
    rw [hv'] at e2
    cases e2
    exact Rep.up m.nil r
theorem jok_tup {K : PySem.W.Frag} {a : Addr} {H2 : Hp} {vs : List V} [Imm α] (hp : H2 a = some (.tup vs)) (hA : AllIs H2 vs xs) : JOk P (Itt K a) H2 xs := by
  refine ⟨fun H' i m hi => ?_, fun H' m => ⟨vs, SqT.of (m.tx a _ True.intro hp), by rw [hA.len]; exact Nat.le_refl _⟩, fun H' i v H'' m y => ?_⟩
  · have hi' : i < vs.length := by rw [hA.len]; exact hi
    exact ⟨vs, vs[i], SqT.of (m.tx a _ True.intro hp), by simp [hi']⟩
  · obtain ⟨e, y⟩ := y
    subst e
    refine ⟨Ex.rf _, fun x hx => ?_⟩
    obtain ⟨v', hv', r⟩ := pget' hA hx
    have e2 := y vs (SqT.of (m.tx a _ True.intro hp))
    rw [hv'] at e2
    cases e2
    exact Imm.tx m.tx r
/-- over a new list -/
theorem src_new [Imm α] (h : EL X σ H l xs) (hP : ∀ q ∈ P, ∃ o, H q = some o) : Src X σ H P tg l xs := ⟨_, pi_list pe_we, fun H1 e1 R q => h H1 e1 _ fun a H2 ha e2 hl => ⟨a, rfl, let ⟨vs, hv, _⟩ := hl; ⟨vs, SqL.of hv⟩, q _ H2 e2 (jok_list hl fun hz => by
  obtain ⟨o, ho⟩ := hP a hz
  exact e1.some' a o ho ha)⟩⟩
/-- over a list that stands -/
theorem src_at [Imm α] {a : Addr} (h : ED X σ H l (Adr.mk a)) (hl : Ls H a xs) (hP : a ∉ P) : Src X σ H P tg l xs := ⟨_, pi_list pe_we, fun H1 e1 R q => h H1 e1 _ fun v H2 e2 hv => ⟨a, hv, let ⟨vs, hv, _⟩ := hl; ⟨vs, SqL.of (e2 a _ (e1 a _ hv))⟩, q _ H2 e2 (jok_list (hl.up (Ex.tr e1 e2)) hP)⟩⟩
/-- over a list, nothing being changed -/
theorem src_l (h : ED X σ H l xs) : Src X σ H [] tg l xs := ⟨_, pi_list pe_we, fun H1 e1 R q => h H1 e1 _ fun v H2 e2 ⟨a, hv, hl⟩ => ⟨a, hv, let ⟨vs, hv, _⟩ := hl; ⟨vs, SqL.of hv⟩, q _ H2 e2 (jok_list0 hl)⟩⟩
theorem src_t [Imm α] {t : Tup α} (h : ED X σ H l t) : Src X σ H P tg l t.items := ⟨_, pi_tup pe_we, fun H1 e1 R q => h H1 e1 _ fun v H2 e2 ⟨a, vs, hv, hp, hA⟩ => ⟨a, hv, ⟨vs, SqT.of hp⟩, q _ H2 e2 (jok_tup hp hA)⟩⟩
def rng (lo hi : Int) : List Int := (List.range (hi - lo).toNat).map fun i => lo + Int.ofNat i
theorem rng_len (lo hi : Int) : (rng lo hi).length = (hi - lo).toNat := by unfold rng; rw [List.length_map, List.length_range]
theorem rng_at {lo hi x : Int} {i : Nat} (h : (rng lo hi)[i]? = some x) : x = lo + (i : Int) ∧ i < (hi - lo).toNat := by
  unfold rng at h
  rw [List.getElem?_map] at h
  cases q : (List.range (hi - lo).toNat)[i]? with
  | none => rw [q] at h; cases h
  | some j =>
    rw [q] at h
    obtain ⟨hi', e⟩ := List.getElem?_eq_some_iff.mp q
    rw [List.getElem_range] at e
    rw [List.length_range] at hi'
    subst e
    exact ⟨(Option.some.inj h).symm, hi'⟩
theorem rng_mem {lo hi x : Int} : x ∈ rng lo hi ↔ lo ≤ x ∧ x < hi := by
  unfold rng
  rw [List.mem_map]
  constructor
  · rintro ⟨i, hi', rfl⟩
    rw [List.mem_range] at hi'
    show lo ≤ lo + (i : Int) ∧ lo + (i : Int) < hi
    omega
  · rintro ⟨h1, h2⟩
    refine ⟨(x - lo).toNat, by rw [List.mem_range]; omega, ?_⟩
    show lo + (((x - lo).toNat : Nat) : Int) = x
    omega
theorem jok_rng {lo : Int} {n : Nat} {hi : Int} {H2 : Hp} (hn : n = (hi - lo).toNat) : JOk P (Itr lo n) H2 (rng lo hi) := by
  subst hn
  refine ⟨fun H' i m hi' => ?_, fun H' m => ?_, fun H' i v H'' m y => ?_⟩
  · show i < _
    rwa [rng_len] at hi'
  · show _ ≤ _
    rw [rng_len]
    exact Nat.le_refl _
  · obtain ⟨e, y⟩ := y
    subst e
    refine ⟨Ex.rf _, fun x hx => ?_⟩
    rw [(rng_at hx).1]
    exact y
theorem src_rng1 {n : Int} (h : ED X σ H a n) (hn : -100000000 ≤ n ∧ n ≤ 100000000) (hg : Gl X "range") (hm : X.mg "range" = none) (he : starEach [a] X.env = [(false, eval a X.env)] := by rfl) : Src X σ H P tg (.Call (.Name "range" p) [a] [] pos) (rng 0 n) :=
  ⟨_, pi_range1 hg hm pa_wa he, fun H1 e1 R q => ea_cons h ea_nil he H1 e1 _ fun vs H2 e2 ⟨v, ws, h1, hv, h2⟩ => by
    subst h1 h2
    cases hv
    exact ⟨n, rfl, by omega, by omega, q _ H2 e2 (jok_rng (by rw [Int.sub_zero]))⟩⟩
theorem src_rng2 {n m : Int} (h : ED X σ H a m) (h' : ED X σ H b n) (hn : -100000000 ≤ n ∧ n ≤ 100000000 ∧ -100000000 ≤ m ∧ m ≤ 100000000) (hg : Gl X "range") (hm : X.mg "range" = none) (he : starEach [a, b] X.env = [(false, eval a X.env), (false, eval b X.env)] := by rfl) (he2 : starEach [b] X.env = [(false, eval b X.env)] := by rfl) : Src X σ H P tg (.Call (.Name "range" p) [a, b] [] pos) (rng m n) :=
  ⟨_, pi_range2 hg hm pa_wa he he2, fun H1 e1 R q => ea_cons h (ea_cons h' ea_nil he2) (by rw [he, he2]) H1 e1 _ fun vs H2 e2 ⟨v, ws, h1, hv, u, ws2, h2, hu, h3⟩ => by
    subst h1 h2 h3
    cases hv
    cases hu
    exact ⟨m, n, rfl, ⟨by omega, by omega, by omega, by omega⟩, q _ H2 e2 (jok_rng rfl)⟩⟩
end

/-! ### targets -/
theorem g_name {i : Nat} {v : V} {σ : St} {H : Hp} {Q : St → Hp → Prop} (h : Q (σ.set i (some v)) H) : gName i v σ H Q := h
abbrev gPair (K : PySem.W.Frag) (i j : Nat) : TG := gTup K 2 (gCons (gName i) (gCons (gName j) gNil))
theorem g_pair {α β : Type} [Rep α] [Rep β] {K : PySem.W.Frag} {i j : Nat} {v : V} {σ : St} {H : Hp} {Q : St → Hp → Prop} {x : α × β} (hv : Rep.is H v x) (h : ∀ u w, Rep.is H u x.1 → Rep.is H w x.2 → Q ((σ.set i (some u)).set j (some w)) H) : gPair K i j v σ H Q := by
  obtain ⟨a, u, w, e, ha, hu, hw⟩ := hv
  exact ⟨a, [u, w], e, SqT.of ha, rfl, u, [w], rfl, w, [], rfl, rfl, h u w hu hw⟩

/-! ### comprehensions -/
section
variable {α β : Type} [Rep α] [Rep β] {X : Cx} {σ : St} {H : Hp} {tg l elt c : Expr} {xs : List α} {pos p : Pos} {scope : Scope} {own : List (Str × Nat)} {g : TG}
/-- a block of X's -/
abbrev Blk (X : Cx) (scope : Scope) (s : Shared) (H : Hp) (C : Addr) (cl : List (Str × Addr)) (fp : List Addr) : Cx := X.blk s H scope (compEnvC scope cl C X.env) fp
def weB (X : Cx) (scope : Scope) (e : Expr) : TE := fun σ H Q => ∀ s H0 C cl fp, we (Blk X scope s H0 C cl fp) e σ H Q
def wtB (X : Cx) (scope : Scope) (e : Expr) : TT := fun σ H Q => ∀ s H0 C cl fp, wt (Blk X scope s H0 C cl fp) e σ H Q
theorem pe_weB {e : Expr} (s : Shared) (H0 : Hp) (C : Addr) (cl : List (Str × Addr)) (fp : List Addr) : PE (Blk X scope s H0 C cl fp) e (weB X scope e) := ⟨fun pins s' σ H Q I h => h s H0 C cl fp pins s' I⟩
theorem pt_wtB {e : Expr} (s : Shared) (H0 : Hp) (C : Addr) (cl : List (Str × Addr)) (fp : List Addr) : PT (Blk X scope s H0 C cl fp) e (wtB X scope e) := ⟨fun pins s' σ H Q I h => h s H0 C cl fp pins s' I⟩
/-- a turn: the target bound, the test, the element -/
structure LcTurn (X : Cx) (scope : Scope) (g : TG) (vs : List Nat) (σ : St) (H : Hp) (tt : TT) (elt : Expr) (v : V) (b : Bool) (y : β) : Prop where
  ok : ∃ σ2, (∀ Q : St → Hp → Prop, Q σ2 H → g v (wipe σ vs) H Q) ∧ wipe σ2 vs = wipe σ vs ∧ (∀ Q : Bool → Hp → Prop, (∀ H2, Ex H H2 → Q b H2) → tt σ2 H Q) ∧ (b = true → ∀ s H0 C cl fp, ED (Blk X scope s H0 C cl fp) σ2 H elt y)
theorem lc_read [NoL β] {wi : TI} {tt : TT} (f : α → β) (pr : α → Bool) (hs : ∀ H1, Ex H H1 → ∀ R : It → Hp → Prop, (∀ J H2, Ex H1 H2 → JOk [] J H2 xs → R J H2) → wi σ H1 R) (hz : xs.length ≤ 10000000) {vs : List Nat}
    (turn : ∀ x ∈ xs, ∀ v H', Ex H H' → Rep.is H' v x → LcTurn X scope g vs σ H' tt elt v (pr x) (f x)) {H1 : Hp} (e1 : Ex H H1) {Q : VK} (q : ∀ p H2, H1 p = none → Ex H1 H2 → Ls H2 p ((xs.filter pr).map f) → Q (.ref p) H2) :
    tLc wi g tt (weB X scope elt) vs σ H1 Q := by
  refine hs H1 e1 _ fun J H2 e2 jk => fun D hD => ?_
  have e12 := Ex.tr e1 e2
  refine ⟨fun i m H' => m = xs.length - i ∧ i ≤ xs.length ∧ Ex H2 H' ∧ ∃ acc, H' D = some (.lst acc) ∧ AllIs H' acc (((xs.take i).filter pr).map f), ⟨xs.length, by simp, Nat.zero_le _, Ex.new hD, [], upd_same, by simpa using (Paired.nil : AllIs _ [] [])⟩, ?_⟩
  rintro i m H' ⟨rfl, hi, e3, acc, hacc, hA⟩
  have mx : Mx [] H2 H' := Mx.of e3 (by intro a ha; simp at ha)
  by_cases hlt : i < xs.length
  · refine .inr ⟨jk.go H' i mx hlt, fun H' => i + 1 ≤ xs.length ∧ Ex H2 H' ∧ ∃ acc, H' D = some (.lst acc) ∧ AllIs H' acc (((xs.take (i + 1)).filter pr).map f), fun H'' hh => ⟨xs.length - (i + 1), by omega, rfl, hh⟩, fun v H4 y => ?_⟩
    obtain ⟨e4, hx⟩ := jk.yld H' i v H4 mx y
    have hgx : xs[i]? = some xs[i] := List.getElem?_eq_getElem hlt
    have hmem : xs[i] ∈ xs := List.getElem_mem hlt
    have hv := hx _ hgx
    obtain ⟨σ2, t1, t2, t3, t4⟩ := (turn _ hmem v H4 (Ex.tr e12 (Ex.tr e3 e4)) hv).ok
    refine t1 _ ⟨t2, t3 _ fun H5 e5 => ?_⟩
    have tk : xs.take (i + 1) = xs.take i ++ [xs[i]] := by rw [List.take_add_one, hgx]; rfl
    have hlen : acc.length ≤ xs.length := by
      rw [hA.len, List.length_map]
      exact Nat.le_trans (List.length_filter_le _ _) (by rw [List.length_take]; omega)
    cases hb : pr xs[i] with
    | false =>
      refine iteF ⟨hlt, Ex.tr e3 (Ex.tr e4 e5), acc, e5 D _ (e4 D _ hacc), ?_⟩
      rw [tk, List.filter_append, List.map_append]
      simp only [List.filter_cons, hb, Bool.false_eq_true, if_false, List.filter_nil, List.map_nil, List.append_nil]
      exact (hA.up e4).up e5
    | true =>
      refine iteT fun s H0 C cl fp => t4 hb s H0 C cl fp H5 e5 _ fun w H6 e6 hw => ?_
      have k6 : H6 D = some (.lst acc) := e6 D _ (e5 D _ (e4 D _ hacc))
      have lx : Lx H6 (upd H6 D (.lst (acc ++ [w]))) := fun a o ha hn _ => by
        rw [upd_ne (fun z => by subst z; rw [k6] at ha; exact hn acc (Option.some.inj ha).symm)]
        exact ha
      refine ⟨acc, k6, by rw [sizeLine_eq]; omega, hlt, ?_, acc ++ [w], upd_same, ?_⟩
      · exact Ex.mut (Ex.tr e3 (Ex.tr e4 (Ex.tr e5 e6))) hD k6
      · rw [tk, List.filter_append, List.map_append]
        refine papp ((((hA.up e4).up e5).up e6).lx lx) ?_
        simp only [List.filter_cons, hb, if_true, List.filter_nil, List.map_cons, List.map_nil]
        exact .cons (NoL.lx lx hw) .nil
  · have e : i = xs.length := by omega
    subst e
    refine .inl ⟨jk.stop H' mx, q D H' (fresh_b e2 hD) (Ex.tr e2 e3) ⟨acc, hacc, ?_⟩⟩
    rwa [List.take_length] at hA
/-- a comprehension, whatever becomes of it -/
structure Lc (X : Cx) (σ : St) (H : Hp) (elt tg l : Expr) (ifs : List Expr) (scope : Scope) (ys : List β) : Prop where
  ok : ∃ (own : List (Str × Nat)) (wi : TI) (g : TG) (tt : TT) (te : TE), PI X tg l wi ∧ BlkOk X.N X.env.scope scope own ∧ (∀ s H C cl fp, PG (Blk X scope s H C cl fp) tg g) ∧ (∀ s H C cl fp, PTs (Blk X scope s H C cl fp) ifs tt) ∧ (∀ s H C cl fp, PE (Blk X scope s H C cl fp) elt te) ∧
    ∀ H1, Ex H H1 → ∀ Q : VK, (∀ p H2, H1 p = none → Ex H1 H2 → Ls H2 p ys → Q (.ref p) H2) → tLc wi g tt te (own.map (·.2)) σ H1 Q
theorem Lc.to {ys ys' : List β} {ifs : List Expr} (h : Lc X σ H elt tg l ifs scope ys) (e : ys = ys') : Lc X σ H elt tg l ifs scope ys' := e ▸ h
theorem el_lc {ys : List β} {ifs : List Expr} (h : Lc X σ H elt tg l ifs scope ys) (hc : X.calm = true) (hN : X.N.Nodup) (hf : ∀ x, foldedSetIterable l X.env x = pure x := by intro _; rfl) : EL X σ H (.ListComp elt [⟨tg, l, ifs, 0⟩] scope pos) ys := by
  obtain ⟨own, wi, g, tt, te, h1, h2, h3, h4, h5, h6⟩ := h.ok
  exact fun H1 e1 Q q => we_of (pe_lc hc hN h1 h2 h3 h4 h5 hf) (h6 H1 e1 Q q)
/-- no test -/
theorem lc0 [NoL β] (f : α → β) (own : List (Str × Nat)) (g : TG) (hs : Src X σ H [] tg l xs) (hz : xs.length ≤ 10000000) (ok : BlkOk X.N X.env.scope scope own) (hg : ∀ s H C cl fp, PG (Blk X scope s H C cl fp) tg g)
    (turn : ∀ x ∈ xs, ∀ v H', Ex H H' → Rep.is H' v x → ∃ σ2, (∀ Q : St → Hp → Prop, Q σ2 H' → g v (wipe σ (own.map (·.2))) H' Q) ∧ wipe σ2 (own.map (·.2)) = wipe σ (own.map (·.2)) ∧ ∀ s H0 C cl fp, ED (Blk X scope s H0 C cl fp) σ2 H' elt (f x)) :
    Lc X σ H elt tg l [] scope (xs.map f) := by
  obtain ⟨wi, hw, hr⟩ := hs.ok
  refine ⟨own, wi, g, tYes, weB X scope elt, hw, ok, hg, fun _ _ _ _ _ => pts_nil, fun s H C cl fp => pe_weB s H C cl fp, fun H1 e1 Q q => lc_read f (fun _ => true) hr hz (fun x hx v H' e hv => ?_) e1 (fun p H2 hp e2 hl => q p H2 hp e2 ?_)⟩
  · obtain ⟨σ2, t1, t2, t3⟩ := turn x hx v H' e hv
    exact ⟨σ2, t1, t2, fun Q q => q H' (Ex.rf _), fun _ => t3⟩
  · rwa [List.filter_eq_self.mpr (fun _ _ => rfl)] at hl
/-- one test -/
theorem lc1 [NoL β] (f : α → β) (pr : α → Bool) (own : List (Str × Nat)) (g : TG) (hs : Src X σ H [] tg l xs) (hz : xs.length ≤ 10000000) (ok : BlkOk X.N X.env.scope scope own) (hg : ∀ s H C cl fp, PG (Blk X scope s H C cl fp) tg g)
    (turn : ∀ x ∈ xs, ∀ v H', Ex H H' → Rep.is H' v x → ∃ σ2, (∀ Q : St → Hp → Prop, Q σ2 H' → g v (wipe σ (own.map (·.2))) H' Q) ∧ wipe σ2 (own.map (·.2)) = wipe σ (own.map (·.2)) ∧
      (∀ s H0 C cl fp, EB (Blk X scope s H0 C cl fp) σ2 H' c (pr x)) ∧ (pr x = true → ∀ s H0 C cl fp, ED (Blk X scope s H0 C cl fp) σ2 H' elt (f x))) :
    Lc X σ H elt tg l [c] scope ((xs.filter pr).map f) := by
  obtain ⟨wi, hw, hr⟩ := hs.ok
  refine ⟨own, wi, g, wtB X scope c, weB X scope elt, hw, ok, hg, fun s H C cl fp => pts_one (pt_wtB s H C cl fp), fun s H C cl fp => pe_weB s H C cl fp, fun H1 e1 Q q => lc_read f pr hr hz (fun x hx v H' e hv => ?_) e1 q⟩
  obtain ⟨σ2, t1, t2, t3, t4⟩ := turn x hx v H' e hv
  exact ⟨σ2, t1, t2, fun Q q s H0 C cl fp => t3 s H0 C cl fp H' (Ex.rf _) Q q, t4⟩
end

/-! ### statements -/
section
variable {α β : Type} [Rep α] [Rep β] {X : Cx} {σ : St} {H : Hp} {D : Ends} {e a b c : Expr} {st : Stmt} {rest sts els : List Stmt} {pos : Pos} {x : α}
theorem w_seq (h : wst X st { D with nx := fun σ' H' => wss X rest D σ' H' } σ H) : wss X (st :: rest) D σ H := wss_of (pss_cons ps_wst pss_wss) h
theorem w_one (h : wst X st D σ H) : wss X [st] D σ H := wss_of (pss_one ps_wst) h
theorem w_nil (h : D.nx σ H) : wss X [] D σ H := wss_of pss_nil h
theorem w_ret (h : ED X σ H e x) (k : ∀ v H1, Ex H H1 → Rep.is H1 v x → D.rt v H1) : wst X (.Return (some e) pos) D σ H := wst_of (ps_ret pe_we) (h H (Ex.rf _) _ fun v H2 e2 hv => k v H2 e2 hv)
theorem w_retL {xs : List α} (h : EL X σ H e xs) (k : ∀ p H1, H p = none → Ex H H1 → Ls H1 p xs → D.rt (.ref p) H1) : wst X (.Return (some e) pos) D σ H := wst_of (ps_ret pe_we) (h H (Ex.rf _) _ fun p H2 hp e2 hv => k p H2 hp e2 hv)
theorem w_drop (h : ED X σ H e x) (k : ∀ v H1, Ex H H1 → Rep.is H1 v x → D.nx σ H1) (hs : swapsWith e none pos.line X.env = pure false := by rfl) : wst X (.Expr e pos) D σ H := wst_of (ps_expr pe_we hs) (h H (Ex.rf _) _ fun v H2 e2 hv => k v H2 e2 hv)
theorem w_set {i : Nat} {n : Str} {pos' : Pos} (hN : X.N.Nodup) (h : ED X σ H e x) (k : ∀ v H1, Ex H H1 → Rep.is H1 v x → D.nx (σ.set i (some v)) H1) (hi : X.N[i]? = some n := by rfl) (hx : Loc X.env.scope n := by first | exact Or.inl rfl | exact Or.inr rfl)
    (hs : swapsWith e (some (.Name n pos')) pos.line X.env = pure false := by rfl) (hf : X.fn n = true ∨ X.env.scope.names.lookup n = some .local := by first | exact .inl rfl | exact .inr rfl) : wst X (.Assign [.Name n pos'] e pos) D σ H :=
  wst_of (ps_set hN hi hx pe_we hs hf) (h H (Ex.rf _) _ fun v H2 e2 hv => k v H2 e2 hv)
theorem w_setL {i : Nat} {n : Str} {pos' : Pos} {xs : List α} (hN : X.N.Nodup) (h : EL X σ H e xs) (k : ∀ p H1, H p = none → Ex H H1 → Ls H1 p xs → D.nx (σ.set i (some (.ref p))) H1) (hi : X.N[i]? = some n := by rfl) (hx : Loc X.env.scope n := by first | exact Or.inl rfl | exact Or.inr rfl)
    (hs : swapsWith e (some (.Name n pos')) pos.line X.env = pure false := by rfl) (hf : X.fn n = true ∨ X.env.scope.names.lookup n = some .local := by first | exact .inl rfl | exact .inr rfl) : wst X (.Assign [.Name n pos'] e pos) D σ H :=
  wst_of (ps_set hN hi hx pe_we hs hf) (h H (Ex.rf _) _ fun p H2 hp e2 hv => k p H2 hp e2 hv)
/-- y = [..] -/
theorem w_setLc {i : Nat} {n : Str} {py : Pos} {elt tg l : Expr} {ifs : List Expr} {scope : Scope} {ppos : Pos} {ys : List β} (hN : X.N.Nodup) (hc : X.calm = true) (h : Lc X σ H elt tg l ifs scope ys) (k : ∀ p H1, H p = none → Ex H H1 → Ls H1 p ys → D.nx (σ.set i (some (.ref p))) H1) (hi : X.N[i]? = some n := by rfl)
    (hyl : X.env.scope.names.lookup n = some .local := by rfl) (hsw : swapsWith (.ListComp elt [⟨tg, l, ifs, 0⟩] scope ppos) (some (.Name n py)) pos.line X.env = pure true := by exact sw_true rfl rfl rfl (by decide +kernel))
    (hf : ∀ x, foldedSetIterable l X.env x = pure x := by intro _; rfl) : wst X (.Assign [.Name n py] (.ListComp elt [⟨tg, l, ifs, 0⟩] scope ppos) pos) D σ H := by
  obtain ⟨own, wi, g, tt, te, h1, h2, h3, h4, h5, h6⟩ := h.ok
  exact wst_of (ps_setLc hc hN hi hyl hsw h1 h2 h3 h4 h5 hf) (h6 H (Ex.rf _) _ fun p H2 hp e2 hv => k p H2 hp e2 hv)
theorem w_if {q : Bool} (h : EB X σ H c q) (h1 : q = true → ∀ H1, Ex H H1 → wss X sts D σ H1) (h2 : q = false → ∀ H1, Ex H H1 → wss X els D σ H1) : wst X (.If c sts els pos) D σ H :=
  wst_of (ps_if pt_wt pss_wss pss_wss) (h H (Ex.rf _) _ fun H2 e2 => by
    cases q with
    | true => exact iteT (h1 rfl H2 e2)
    | false => exact iteF (h2 rfl H2 e2))
/-- what stands at P may be changed -/
abbrev Muts (P : List Addr) (H : Hp) : Prop := ∀ a ∈ P, ∃ o, ¬ Fix o ∧ nT o = true ∧ H a = some o
theorem Muts.nf {P : List Addr} {H : Hp} (m : Muts P H) : NoFix P H := fun a ha o f h => by
  obtain ⟨u, nu, _, hu⟩ := m a ha
  rw [hu] at h
  cases h
  exact nu f
theorem Muts.up {P : List Addr} {H H' : Hp} (m : Muts P H) (e : Ex H H') : Muts P H' := fun a ha => let ⟨u, nu, nt, hu⟩ := m a ha; ⟨u, nu, nt, e.keep a u hu nt⟩
theorem Muts.ex {P : List Addr} {H : Hp} (m : Muts P H) : ∀ q ∈ P, ∃ o, H q = some o := fun a ha => let ⟨u, nu, _, hu⟩ := m a ha; ⟨u, hu⟩
theorem Muts.nil {H : Hp} : Muts [] H := fun a ha => by simp at ha
theorem Muts.cons {P : List Addr} {H : Hp} {p : Addr} {xs : List α} (h : Ls H p xs) (m : Muts P H) : Muts (p :: P) H := fun a ha => by
  rcases List.mem_cons.mp ha with e | ha
  · subst e
    obtain ⟨vs, hv, _⟩ := h
    exact ⟨.lst vs, fun f => f, rfl, hv⟩
  · exact m a ha
/-- for over what is walked; P: what the turns change -/
theorem w_for {P : List Addr} {tg l : Expr} {xs : List α} {body : List Stmt} {g : TG} (J : Nat → St → Hp → Prop) (hp : PassesOwn (model X.prog X.w) X.A X.env X.xe) (hc : X.calm = true) (src : Src X σ H P tg l xs) (hg : PG X tg g) (nf : Muts P H)
    (h0 : ∀ H1, Ex H H1 → J 0 σ H1)
    (turn : ∀ H1, Ex H H1 → ∀ (i : Nat) x v σ' H' H'', xs[i]? = some x → Mx P H1 H' → J i σ' H' → Ex H' H'' → Mx P H1 H'' → Rep.is H'' v x →
      g v σ' H'' fun σ2 H2 => wss X body { D with nx := fun σ3 H3 => Mx P H1 H3 ∧ J (i + 1) σ3 H3, ct := fun σ3 H3 => Mx P H1 H3 ∧ J (i + 1) σ3 H3, bk := D.nx } σ2 H2)
    (done : ∀ H1, Ex H H1 → ∀ σ' H', Mx P H1 H' → J xs.length σ' H' → D.nx σ' H') (hf : ∀ x, foldedSetIterable l X.env x = pure x := by intro _; rfl) : wst X (.For tg l body [] pos) D σ H := by
  obtain ⟨wi, hw, hr⟩ := src.ok
  refine wst_of (ps_for hp hc hw hg pss_wss hf) (hr H (Ex.rf _) _ fun Jt H1 e1 jk => ?_)
  refine ⟨fun i m σ' H' => m = xs.length - i ∧ i ≤ xs.length ∧ Mx P H1 H' ∧ J i σ' H', ⟨xs.length, by simp, Nat.zero_le _, Mx.rf (nf.up e1).nf, h0 H1 e1⟩, ?_⟩
  rintro i m σ' H' ⟨rfl, hi, mx, j⟩
  by_cases hlt : i < xs.length
  · refine .inr ⟨jk.go H' i mx hlt, fun σ3 H3 => Mx P H1 H3 ∧ J (i + 1) σ3 H3, fun σ3 H3 ⟨m3, j3⟩ => ⟨xs.length - (i + 1), by omega, rfl, hlt, m3, j3⟩, fun v H'' y => ?_⟩
    obtain ⟨e4, hx⟩ := jk.yld H' i v H'' mx y
    have hgx : xs[i]? = some xs[i] := List.getElem?_eq_getElem hlt
    exact turn H1 e1 i xs[i] v σ' H' H'' hgx mx j e4 (mx.trE e4) (hx _ hgx)
  · have e : i = xs.length := by omega
    subst e
    exact .inl ⟨jk.stop H' mx, done H1 e1 σ' H' mx j⟩
/-- while, by a word that falls -/
theorem w_while {body : List Stmt} (W : Nat → St → Hp → Prop) (m0 : Nat) (hp : PassesOwn (model X.prog X.w) X.A X.env X.xe) (h0 : W m0 σ H)
    (turn : ∀ m σ' H', W m σ' H' → ∃ q, EB X σ' H' c q ∧ (q = true → ∀ H1, Ex H' H1 → wss X body { D with nx := fun σ2 H2 => ∃ m', m' < m ∧ W m' σ2 H2, ct := fun σ2 H2 => ∃ m', m' < m ∧ W m' σ2 H2, bk := D.nx } σ' H1) ∧ (q = false → ∀ H1, Ex H' H1 → D.nx σ' H1)) :
    wst X (.While c body [] pos) D σ H := by
  refine wst_of (ps_while hp pt_wt pss_wss) ⟨W, ⟨m0, h0⟩, fun m σ' H' hw => ?_⟩
  obtain ⟨q, hq, t1, t2⟩ := turn m σ' H' hw
  refine hq H' (Ex.rf _) _ fun H1 e1 => ?_
  cases q with
  | true => exact iteT ⟨fun σ2 H2 => ∃ m', m' < m ∧ W m' σ2 H2, fun _ _ h => h, t1 rfl H1 e1⟩
  | false => exact iteF (t2 rfl H1 e1)

/-! lists changed -/
theorem lx_upd {H : Hp} {p : Addr} {vs ws : List V} (h : H p = some (.lst vs)) : Lx H (upd H p (.lst ws)) := fun a o ha hn _ => by
  rw [upd_ne (fun z => by subst z; rw [h] at ha; exact hn vs (Option.some.inj ha).symm)]
  exact ha
theorem w_app [NoL α] {o : Expr} {p : Addr} {xs : List α} {apos cpos : Pos} (ho : ED X σ H o (Adr.mk p)) (hl : Ls H p xs) (h : ED X σ H e x) (hz : xs.length < 10000000) (k : ∀ H1, Mx [p] H H1 → Lx H H1 → Ls H1 p (xs ++ [x]) → D.nx σ H1)
    (hs : swapsWith (.Call (.Attribute o "append" apos) [e] [] cpos) none pos.line X.env = pure false := by rfl) (hbase : attributeBase o "append" X.env (eval o X.env) = eval o X.env := by rfl)
    (hfew : ((backTo cpos (starEach [e] X.env)).all (fun x => !x.1) && (backToKw cpos (keywordEach [] X.env)).all (fun x => x.1.isSome) && decide (([e] : List Expr).length + ([] : List Keyword).length + (if ([] : List Keyword).isEmpty then 0 else 1) < 30)) = true := by rfl)
    (hline : (apos.endLine == cpos.line) = true := by rfl) (he : starEach [e] X.env = [(false, eval e X.env)] := by rfl) : wst X (.Expr (.Call (.Attribute o "append" apos) [e] [] cpos) pos) D σ H := by
  obtain ⟨vs, hv, hA⟩ := hl
  refine wst_of (ps_expr (pe_bm PySem.F.plainAttrs_list PySem.F.slot_list_append PySem.F.type_list_append mt_append pe_we (pa_cons pe_we pa_nil he) hbase hfew hline he (by rfl)) hs) ?_
  refine ho H (Ex.rf _) _ fun v H2 e2 hvv => ?_
  cases hvv
  refine ⟨.inl ⟨rfl, vs, SqL.of (e2 p _ hv)⟩, h H2 e2 _ fun w H3 e3 hw => ?_⟩
  have h3 : H3 p = some (.lst vs) := e3 p _ (e2 p _ hv)
  refine ⟨p, vs, w, rfl, rfl, h3, by rw [hA.len, sizeLine_eq]; omega, k _ (Mx.ofE (Ex.tr e2 e3) (Mx.upd1 h3)) (Lx.tr (Ex.tr e2 e3).lx (lx_upd h3)) ⟨_, upd_same, papp (((hA.up e2).up e3).lx (lx_upd h3)) (.cons (NoL.lx (lx_upd h3) hw) .nil)⟩⟩
theorem w_ext [NoL α] {o : Expr} {p : Addr} {xs ys : List α} {apos cpos : Pos} (ho : ED X σ H o (Adr.mk p)) (hl : Ls H p xs) (h : ED X σ H e ys) (hz : xs.length + ys.length ≤ 10000000) (k : ∀ H1, Mx [p] H H1 → Lx H H1 → Ls H1 p (xs ++ ys) → D.nx σ H1)
    (hs : swapsWith (.Call (.Attribute o "extend" apos) [e] [] cpos) none pos.line X.env = pure false := by rfl) (hbase : attributeBase o "extend" X.env (eval o X.env) = eval o X.env := by rfl)
    (hfew : ((backTo cpos (starEach [e] X.env)).all (fun x => !x.1) && (backToKw cpos (keywordEach [] X.env)).all (fun x => x.1.isSome) && decide (([e] : List Expr).length + ([] : List Keyword).length + (if ([] : List Keyword).isEmpty then 0 else 1) < 30)) = true := by rfl)
    (hline : (apos.endLine == cpos.line) = true := by rfl) (he : starEach [e] X.env = [(false, eval e X.env)] := by rfl) : wst X (.Expr (.Call (.Attribute o "extend" apos) [e] [] cpos) pos) D σ H := by
  obtain ⟨vs, hv, hA⟩ := hl
  refine wst_of (ps_expr (pe_bm PySem.F.plainAttrs_list PySem.F.slot_list_extend PySem.F.type_list_extend mt_extend pe_we (pa_cons pe_we pa_nil he) hbase hfew hline he (by rfl)) hs) ?_
  refine ho H (Ex.rf _) _ fun v H2 e2 hvv => ?_
  cases hvv
  refine ⟨.inl ⟨rfl, vs, SqL.of (e2 p _ hv)⟩, h H2 e2 _ fun w H3 e3 ⟨b, hb, ws, hw, hB⟩ => ?_⟩
  subst hb
  have h3 : H3 p = some (.lst vs) := e3 p _ (e2 p _ hv)
  refine ⟨p, b, vs, ws, rfl, rfl, h3, hw, by rw [hA.len, hB.len, sizeLine_eq]; omega, k _ (Mx.ofE (Ex.tr e2 e3) (Mx.upd1 h3)) (Lx.tr (Ex.tr e2 e3).lx (lx_upd h3)) ⟨_, upd_same, papp (((hA.up e2).up e3).lx (lx_upd h3)) (hB.lx (lx_upd h3))⟩⟩
/-- xs[i] = e -/
theorem w_put [NoL α] {o i : Expr} {p : Addr} {xs : List α} {kk : Int} {j : Nat} {tpos : Pos} (ho : ED X σ H o (Adr.mk p)) (hl : Ls H p xs) (hi : ED X σ H i kk) (h : ED X σ H e x) (hk : kk = (j : Int)) (hj : j < xs.length) (k : ∀ H1, Mx [p] H H1 → Lx H H1 → Ls H1 p (xs.set j x) → D.nx σ H1)
    (ha : ∀ v, assign (.Subscript o i tpos) X.env v = (do
      let ov ← holding [v] (eval o X.env)
      let iv ← holding [v, ov] (eval i X.env)
      standAt tpos
      holding [v, ov, iv] (setItem ov iv v)
      release [v, ov, iv] []) := by intro _; rfl)
    (hs : swapsWithSole [.Subscript o i tpos] e pos.line X.env = pure false := by rfl) (hw : swappedStores [.Subscript o i tpos] e X.env = pure none := by rfl) (h1 : (assignEach [.Subscript o i tpos] X.env).map (·.2) = [assign (.Subscript o i tpos) X.env] := by rfl) : wst X (.Assign [.Subscript o i tpos] e pos) D σ H := by
  obtain ⟨vs, hv, hA⟩ := hl
  refine wst_of (ps_asg pe_we (pg_sub pe_we pe_we set_list ha) hs hw h1) ?_
  refine h H (Ex.rf _) _ fun w H2 e2 hw => ho H2 e2 _ fun v H3 e3 hvv => hi H3 (Ex.tr e2 e3) _ fun u H4 e4 hu => ?_
  cases hvv
  cases hu
  have h4 : H4 p = some (.lst vs) := e4 p _ (e3 p _ (e2 p _ hv))
  subst hk
  exact ⟨p, vs, (j : Int), j, rfl, rfl, h4, Evl.ixN_nat (by rw [hA.len]; exact hj), k _ (Mx.ofE (Ex.tr e2 (Ex.tr e3 e4)) (Mx.upd1 h4)) (Lx.tr (Ex.tr e2 (Ex.tr e3 e4)).lx (lx_upd h4)) ⟨_, upd_same, pset (NoL.lx (lx_upd h4) (Rep.up (Ex.tr e3 e4) hw)) j ((hA.up (Ex.tr e2 (Ex.tr e3 e4))).lx (lx_upd h4))⟩⟩
theorem get_list : PGet X (fun o i H Q => ∃ p xs k v, o = .ref p ∧ i = .int k ∧ H p = some (.lst xs) ∧ 0 ≤ k ∧ xs[k.toNat]? = some v ∧ Q v H) := by
  intro pins s σ H o i ov iv Q I ro ri h
  obtain ⟨p, xs, k, v, rfl, rfl, hp, h0, hx, q⟩ := h
  cases ro
  obtain ⟨t, rfl⟩ := ri
  obtain ⟨its, r, pl, hz⟩ := I.list (SqL.of hp)
  obtain ⟨w, ew, rw'⟩ := r.get hx
  have hl := r.length
  have hn := line63
  have hk : k.toNat < xs.length := (List.getElem?_eq_some_iff.mp hx).1
  exact wpAny_getItem_list pl.isList h0 (by omega) (x := w) (by simpa using ew) ⟨v, H, I, rw', q⟩
/-- xs[i] += e, ints -/
theorem w_inc {o i : Expr} {p : Addr} {xs : List Int} {kk z y : Int} {j : Nat} {tpos : Pos} (ho : ED X σ H o (Adr.mk p)) (hl : Ls H p xs) (hi : ED X σ H i kk) (h : ED X σ H e y) (hk : kk = (j : Int)) (hj : xs[j]? = some z) (k : ∀ H1, Mx [p] H H1 → Lx H H1 → Ls H1 p (xs.set j (z + y)) → D.nx σ H1)
    (ha : ∀ ov iv new, augStore i ov iv new = (do holding [new, ov, iv] (setItem ov iv new); release [new, ov, iv] []; pure .next) := by intros; rfl) : wst X (.AugAssign (.Subscript o i tpos) .Add e pos) D σ H := by
  obtain ⟨vs, hv, hA⟩ := hl
  have hvs := ints_is hA
  refine wst_of (ps_augS pe_we pe_we get_list pe_we ip_add set_list ha) ?_
  refine ho H (Ex.rf _) _ fun v H2 e2 hvv => hi H2 e2 _ fun u H3 e3 hu => ?_
  cases hvv
  cases hu
  subst hk
  have hjl : j < xs.length := (List.getElem?_eq_some_iff.mp hj).1
  refine ⟨p, vs, (j : Int), .int z, rfl, rfl, e3 p _ (e2 p _ hv), by omega, ?_, h H3 (Ex.tr e2 e3) _ fun w H4 e4 hw => ?_⟩
  · rw [hvs, Int.toNat_natCast, List.getElem?_map, hj]
    rfl
  · cases hw
    have h4 : H4 p = some (.lst vs) := e4 p _ (e3 p _ (e2 p _ hv))
    refine ⟨z, y, rfl, rfl, p, vs, (j : Int), j, rfl, rfl, h4, Evl.ixN_nat (by rw [hA.len]; exact hjl), ?_⟩
    exact k _ (Mx.ofE (Ex.tr e2 (Ex.tr e3 e4)) (Mx.upd1 h4)) (Lx.tr (Ex.tr e2 (Ex.tr e3 e4)).lx (lx_upd h4)) ⟨_, upd_same, pset (F := Rep.is _) (show Rep.is _ (V.int (z + y)) (z + y) from rfl) j ((hA.up (Ex.tr e2 (Ex.tr e3 e4))).lx (lx_upd h4))⟩
/-- n = n + e by += -/
theorem w_augN {i : Nat} {n : Str} {pos' : Pos} {z y : Int} (hN : X.N.Nodup) (hz : σ[i]? = some (some (.int z))) (h : ED X σ H e y) (k : ∀ H1, Ex H H1 → D.nx (σ.set i (some (.int (z + y)))) H1) (hi : X.N[i]? = some n := by rfl) (hx : Loc X.env.scope n := by first | exact Or.inl rfl | exact Or.inr rfl)
    (hf : X.fn n = true ∨ X.env.scope.names.lookup n = some .local := by first | exact .inl rfl | exact .inr rfl) : wst X (.AugAssign (.Name n pos') .Add e pos) D σ H :=
  wst_of (ps_aug hN hi hx pe_we ip_add hf) ⟨.int z, hz, h H (Ex.rf _) _ fun w H2 e2 hw => ⟨z, y, rfl, hw, k H2 e2⟩⟩
end
end Oa
set_option Elab.async false
set_option linter.all false
set_option maxRecDepth 100000
set_option maxHeartbeats 1000000
namespace Oa
open PySem PySem.Spec PyProof.Rows L2
/-! ### a def as it stands behind the top, and the rule for it -/
abbrev FnP (K : PySem.W.Frag) (mg : Str → Option Value) (x : Str) (st : Stmt) : Prop := ∃ f fd, FunD K x x (defArgs st) (defBody st) (defScope st) [] [] f fd ∧ mg x = some (.ref f)
section
variable {P : Program} {w : World} {K : PySem.W.Frag} {mg : Str → Option Value} {base : Heap}
abbrev cxN (P : Program) (w : World) (K : PySem.W.Frag) (mg : Str → Option Value) (base : Heap) (N : List Str) (x : Str) (st : Stmt) (f : Addr) (cdv : Value) (A : Around) (outer : List Env) (s : Shared) (H : Hp) (E : XK) : Cx :=
  (cxOf CX0 P w K mg base N x (defScope st) f cdv A outer s H E).nox
theorem dfn_of {st : Stmt} {x : Str} {N ps : List Str} {k : Nat} {sp : Sp} (F : FnP K mg x st) (S : FnScope N ps (defScope st)) (len : ∀ vs H Q E, sp vs H Q E → vs.length = ps.length)
    (hb : ∀ (kV doc pm : Value) (an : Option Addr) (cdv ct : Value) (us : List Value), us.length = ps.length → bindArgs (PySem.W.fnOf x x (defArgs st) (defBody st) (defScope st) .none kV doc pm an cdv ct) ⟨us, []⟩ = pure (ps.zip us))
    (body : ∀ (f : Addr) (cdv : Value) (A : Around) (outer : List Env) (s : Shared) (H : Hp) (vs : List V) (Q : VK) (E : XK), Room k (A.deeper (envOfC x (defScope st) s.heap.objs.size f cdv)) → sp vs H Q E →
      wss (cxN P w K mg base N x st f cdv A outer s H E) (defBody st) { nx := fun _ H' => Q .non H', rt := Q } (start N vs) H) : Dfn P w K mg base CX0 (k + 1) x ps sp := by
  obtain ⟨f, fd, F, hm⟩ := F
  exact ⟨f, fd, F.ok S len fun cdv A outer s H vs Q E hr hsp => ⟨_, pss_wss.nox, body f cdv A outer s H vs Q E hr hsp⟩, hm, F.kp, F.bindsN hb⟩
section
variable {α β γ : Type} [Rep α] [Rep β] [Rep γ]
theorem S1.len {pre : α → Prop} {R : α → Hp → V → Hp → Prop} (vs H Q E) (h : S1 pre R vs H Q E) : vs.length = 1 := by
  obtain ⟨_, _, rfl, _⟩ := h
  rfl
theorem S2.len {pre : α → β → Prop} {R : α → β → Hp → V → Hp → Prop} (vs H Q E) (h : S2 pre R vs H Q E) : vs.length = 2 := by
  obtain ⟨_, _, _, _, rfl, _⟩ := h
  rfl
theorem S3.len {pre : α → β → γ → Prop} {R : α → β → γ → Hp → V → Hp → Prop} (vs H Q E) (h : S3 pre R vs H Q E) : vs.length = 3 := by
  obtain ⟨_, _, _, _, _, _, rfl, _⟩ := h
  rfl
variable {X : Cx} {σ : St} {H : Hp} {D : Ends} {a b : Expr} {pos : Pos} {v1 : α} {v2 : β}
/-- a, b = e1, e2 -/
theorem w_par {i j : Nat} {x y : Str} {px py pt : Pos} {kt k2 : Nat} {pt2 : Pos} (hc : X.calm = true) (hN : X.N.Nodup) (ha : ED X σ H a v1) (hb : ED X σ H b v2) (k : ∀ u w H1, Ex H H1 → Rep.is H1 u v1 → Rep.is H1 w v2 → D.nx ((σ.set i (some u)).set j (some w)) H1)
    (hij : i ≠ j) (hi : X.N[i]? = some x := by rfl) (hj : X.N[j]? = some y := by rfl)
    (hx : X.env.scope.names.lookup x = some .local := by rfl) (hy : X.env.scope.names.lookup y = some .local := by rfl) (he : starEach [a, b] X.env = (false, eval a X.env) :: starEach [b] X.env := by rfl) (he2 : starEach [b] X.env = [(false, eval b X.env)] := by rfl)
    (hw : swappedStores [.Tuple [.Name x px, .Name y py] kt pt] (.Tuple [a, b] k2 pt2) X.env = pure (some [x, y]) := by rfl)
    (hs : swapsWithSole [.Tuple [.Name x px, .Name y py] kt pt] (.Tuple [a, b] k2 pt2) pos.line X.env = pure false := by rfl) :
    wst X (.Assign [.Tuple [.Name x px, .Name y py] kt pt] (.Tuple [a, b] k2 pt2) pos) D σ H :=
  wst_of (ps_par hc hN hi hj hij hx hy pa_wa hw hs) (ea_cons ha (ea_cons hb ea_nil he2) he H (Ex.rf _) _ fun vs H2 e2 ⟨v, ws, h1, hv, u, ws2, h2, hu, h3⟩ => by
    subst h1 h2 h3
    exact ⟨v, u, rfl, k v u H2 e2 hv hu⟩)
end
end
end Oa
set_option Elab.async false
set_option linter.all false
set_option maxRecDepth 100000
set_option maxHeartbeats 1000000
namespace Oa
open PySem PySem.W PyProof.Rows
section
variable {prog : Program} {w : World} {A : Around} {E : Value → Shared → Prop} {s : Shared}
theorem len2_cases {α : Type} {l : List α} (h : l.length < 2) : l = [] ∨ ∃ x, l = [x] := by
  match l, h with
  | [], _ => exact .inl rfl
  | [x], _ => exact .inr ⟨x, rfl⟩
  | _ :: _ :: _, h => exact absurd h (by rw [List.length_cons, List.length_cons]; omega)
/-- sorted(..) of what is gathered -/
theorem sorted_from {v : Value} {vs : List Value} {β : Type} {enc : β → PyData} {bs : List β} {R : Value → β → Prop} {Q : Value → Shared → Prop}
    (hc : ∀ (E' : Value → Shared → Prop) (Q' : List Value → Shared → Prop), (∀ h' tk, (∀ b o, s.heap.get? b = some o → h'.get? b = some o) → Q' vs { s with heap := h', toks := tk }) → wpAny (model prog w) A.in1 (collect v) Q' E' s)
    (e : EachIs R vs bs) (er : EachIs (fun v b => ∃ as, Reads s.heap v (enc b) as) vs bs) (hal : AllAlike (bs.map enc)) (hk : bs.length < 2 ∨ Sortable (bs.map enc)) (hL : bs.length ≤ sizeLine) (hu : ∀ b, b ∈ bs → A.units + 2 + (enc b).depth < cLine)
    (h : ∀ (h1 h' : Heap) tk out c, (∀ b o, s.heap.get? b = some o → h1.get? b = some o) → (∀ b o, h1.get? b = some o → h'.get? b = some o) → h'.get? h1.objs.size = some (seqObj "list" (List.toArray out) c) → out.length = bs.length → EachIs R out (bs.mergeSort (dataLe false enc)) → Q (.ref h1.objs.size) { s with heap := h', toks := tk }) :
    wpAny (model prog w) A (call (.builtin "sorted") [v]) Q E s := by
  refine Calls.call_function_entry kind_sorted plain_sorted entry_sorted (args_sorted1 _) ?_
  unfold Builtin.«sorted»
  refine wpAny_bind (m := checkCount "sorted" 1 1 _) (wpAny_pure ?_)
  refine wpAny_bind (hc _ _ fun h1 tk k1 => ?_)
  have hL' : vs.length ≤ sizeLine := by rw [e.length]; exact hL
  refine wpAny_bind (wpAny_newList ?_ hL')
  have ho : (h1.push (seqObj "list" vs.toArray 0)).get? h1.objs.size = some (seqObj "list" vs.toArray 0) := Heap.get?_push_size _ rfl
  show wpAny _ _ _ _ _ { s with heap := h1.push (seqObj "list" vs.toArray 0), toks := tk }
  have old : ∀ (out : Array Value), ∀ b o, h1.get? b = some o → (sortedHeap (h1.push (seqObj "list" vs.toArray 0)) h1.objs.size vs out).get? b = some o := fun out b o q => by
    have hlt : b < h1.objs.size := Heap.lt_size q
    rw [sortedHeap_old (Nat.ne_of_lt hlt) (by rw [size_push']; exact Nat.lt_succ_of_lt hlt)]
    exact Heap.get?_push_of_some _ q
  have fin : ∀ out : List Value, out.length = bs.length → EachIs R out (bs.mergeSort (dataLe false enc)) → Q (.ref h1.objs.size) { s with heap := sortedHeap (h1.push (seqObj "list" vs.toArray 0)) h1.objs.size vs out.toArray, toks := tk } := fun out h2 h3 => by
    obtain ⟨c, hc⟩ := sortedHeap_at (vs := vs) (out := out.toArray) ho
    exact h h1 _ tk out c k1 (old _) hc h2 h3
  refine wpAny_bind (wpAny_holding (wpAny_call_entry slot_list_sort ⟨_, ho, rfl⟩ entry_list_sort ?body (args_list_sort _)))
  case body =>
    by_cases h2 : bs.length < 2
    · refine SrtO.list_sort_ord (n := 0) (ltv := fun _ _ => false) ⟨fun _ _ h => (by cases h), fun _ _ _ _ _ => rfl⟩ ho hL' (fun q => absurd q (by rw [e.length]; omega)) fun out g1 g2 => ⟨_, rfl, wpAny_pure ⟨_, rfl, ?_⟩⟩
      refine fin out (g2.len.trans e.length) ?_
      rcases len2_cases h2 with hb | ⟨b, hb⟩
      · subst hb
        cases e
        have := List.eq_nil_of_length_eq_zero (g2.len)
        subst this
        rw [List.mergeSort_nil]
        exact .nil
      · subst hb
        cases e with
        | cons r t =>
          cases t
          rw [List.perm_singleton.mp g2.perm, List.mergeSort_singleton]
          exact .cons r .nil
    · have hk' : Sortable (bs.map enc) := hk.resolve_left h2
      have er' : EachIs (fun v b => ∃ as, Reads (sortingHeap (h1.push (seqObj "list" vs.toArray 0)) h1.objs.size vs) v (enc b) as) vs bs := er.mono fun _ _ ⟨as, r⟩ => ⟨as, PyProof.Rows.Reads.keeps (fun b o q => sortingHeap_old (Nat.ne_of_lt (Heap.lt_size (k1 b o q))) (Heap.get?_push_of_some _ (k1 b o q))) r⟩
      refine list_sort_vals (κ := dataKind (sortingHeap (h1.push (seqObj "list" vs.toArray 0)) h1.objs.size vs) (bs.map enc)) (s := { s with heap := h1.push (seqObj "list" vs.toArray 0), toks := tk }) ho
        (SortsAt.data (s := { s with heap := sortingHeap (h1.push (seqObj "list" vs.toArray 0)) h1.objs.size vs, toks := tk }) (each_map (R := fun v d => ∃ as, Reads (sortingHeap (h1.push (seqObj "list" vs.toArray 0)) h1.objs.size vs) v d as) enc er') hal hk' (bound_map (A := A.in1.in1) hu)) hL' ⟨_, rfl, wpAny_pure ⟨_, rfl, ?_⟩⟩
      exact fin _ (by rw [sortVals_length false rfl]; exact e.length) (sortVals_data false e er' hal)
end
end Oa
namespace Oa
open PySem PySem.Spec PyProof.Rows L2
open PySem.W (Datum DatumOrd HoldAll Holds EachIs)
section
variable {α β : Type} [DecidableEq α] [Rep α] [Dat α] {X : Cx} {σ : St} {H : Hp} {a e : Expr} {pos p : Pos} {xs : List α}
theorem toD_inj {x y : α} (h : Datum.toD x = Datum.toD y) : x = y := by
  have e := Datum.eqv x y
  rw [h, Datum.eqv y y] at e
  simpa using e.symm
theorem holds_inj {h : Heap} {u : Value} {x y : α} (h1 : Holds h u x) (h2 : Holds h u y) : x = y := by
  obtain ⟨as, r1⟩ := h1
  obtain ⟨bs, r2⟩ := h2
  exact toD_inj ((PySem.SeqAt.readOf_plain (Datum.plain x) r1).symm.trans (PySem.SeqAt.readOf_plain (Datum.plain y) r2))
theorem each_zip {R : Value → V × α → Prop} : ∀ {us : List Value} {vs : List V} {ys : List α}, Vals vs us → AllIs H vs ys → (∀ u v y, RelV v u → Rep.is H v y → R u (v, y)) → EachIs R us (vs.zip ys)
  | _, _, _, .nil, .nil, _ => .nil
  | _, _, _, .cons r t, .cons r' t', k => .cons (k _ _ _ r r') (each_zip t t' k)
theorem each_of_zip : ∀ {us : List Value} {ps : List (V × α)}, EachIs (fun u p => RelV p.1 u ∧ Rep.is H p.1 p.2) us ps → Vals (ps.map (·.1)) us ∧ AllIs H (ps.map (·.1)) (ps.map (·.2))
  | _, _, .nil => ⟨.nil, .nil⟩
  | _, _, .cons h t => ⟨.cons h.1 (each_of_zip t).1, .cons h.2 (each_of_zip t).2⟩
theorem zip_snd {A B : Type} : ∀ {l : List A} {m : List B}, l.length = m.length → (l.zip m).map (·.2) = m
  | [], [], _ => rfl
  | [], _ :: _, h => by simp at h
  | _ :: _, [], h => by simp at h
  | x :: l, y :: m, h => by
    rw [List.zip_cons_cons, List.map_cons, zip_snd (by simpa using h)]
theorem sort_snd (O : Sto (DatumOrd.lt : α → α → Bool)) (ps : List (V × α)) : (ps.mergeSort (PySem.W.dataLe false fun p : V × α => Datum.toD p.2)).map (·.2) = isort DatumOrd.lt (ps.map (·.2)) := by
  rw [← mergeSort_eq O]
  refine List.map_mergeSort fun a _ b _ => ?_
  show (!PySem.W.dataLt (Datum.toD b.2) (Datum.toD a.2)) = (!DatumOrd.lt b.2 a.2)
  rw [DatumOrd.lt_eq]
/-- what sorted asks of the items' make -/
def Srtb (xs : List α) : Prop := xs.length < 2 ∨ PySem.W.Sortable (xs.map Datum.toD)
def rSrt (α : Type) [DecidableEq α] [Rep α] [Dat α] : List V → Hp → VK → Prop := fun vs H Q => ∃ (v : V) (xs : List α), vs = [v] ∧ (Rep.is H v xs ∨ Rep.is H v (PySem.W.Tup.mk xs)) ∧ Srtb xs ∧ xs.length ≤ 10000000 ∧
  ∀ p ws, H p = none → AllIs H ws (isort DatumOrd.lt xs) → Q (.ref p) (upd H p (.lst ws))
theorem sorted_end {pins : List (Addr × Obj)} {s : Shared} {Q : VK} {v : Value} {vs : List V} {us : List Value} (O : Sto (DatumOrd.lt : α → α → Bool)) (hu : X.A.units + 2 + Datum.depth α < cLine) (I : Inv X pins σ H s) (hA : AllIs H vs xs) (r : Vals vs us) (hs : Srtb xs) (hz : xs.length ≤ 10000000)
    (hc : ∀ (E' : Value → Shared → Prop) (Q' : List Value → Shared → Prop), (∀ h' tk, (∀ b o, s.heap.get? b = some o → h'.get? b = some o) → Q' us { s with heap := h', toks := tk }) → wpAny (model X.prog X.w) X.A.in1 (collect v) Q' E' s)
    (q : ∀ p ws, H p = none → AllIs H ws (isort DatumOrd.lt xs) → Q (.ref p) (upd H p (.lst ws))) :
    wpAny (model X.prog X.w) X.A (call (.builtin "sorted") [v]) (EP X pins σ Q) X.xe s := by
  have hl := hA.len
  have hzs : (vs.zip xs).map (·.2) = xs := zip_snd hl
  have hmap : (vs.zip xs).map (fun p : V × α => Datum.toD p.2) = xs.map Datum.toD := by
    rw [← hzs, List.map_map, hzs]
    rfl
  have hzl : (vs.zip xs).length = xs.length := by rw [← List.length_map (f := (·.2)), hzs]
  have hR : EachIs (fun u (p : V × α) => RelV p.1 u ∧ Rep.is H p.1 p.2) us (vs.zip xs) := each_zip r hA fun u v y a b => ⟨a, b⟩
  refine sorted_from (bs := vs.zip xs) (enc := fun p : V × α => Datum.toD p.2) hc hR (hR.mono fun u p h => rd_is I h.2 h.1) ?_ ?_ (by rw [hzl, sizeLine_eq]; omega) (fun b _ => Nat.lt_of_le_of_lt (Nat.add_le_add_left (Datum.depth_le b.2) _) hu) fun h1 h' tk out c k1 k2 ha hlen hout => ?_
  · exact PySem.W.AllAlike.of fun b b' => DatumOrd.alike b.2 b'.2
  · rcases hs with h | h
    · exact .inl (by rw [hzl]; exact h)
    · exact .inr (by rw [hmap]; exact h)
  · obtain ⟨r1, a1⟩ := each_of_zip hout
    rw [sort_snd O, hzs] at a1
    have I1 : Inv X pins σ H { s with heap := h1, toks := tk } := I.kept k1
    have I2 : Inv X pins σ (upd H h1.objs.size (.lst _)) { s with heap := h', toks := tk } := I1.laid (t' := tk) (o := .lst (((vs.zip xs).mergeSort (PySem.W.dataLe false fun p : V × α => Datum.toD p.2)).map (·.1))) k2 (Nat.le_refl _) ⟨by rw [a1.len, isort_len, sizeLine_eq]; omega, out, c, r1, ha⟩
    exact ⟨.ref h1.objs.size, _, I2, rfl, q _ _ (I1.hok.fresh (Nat.le_refl _)) a1⟩
theorem cr_sorted (O : Sto (DatumOrd.lt : α → α → Bool)) (hu : X.A.units + 2 + Datum.depth α < cLine) : CallR X (.builtin "sorted") (rSrt α) := by
  intro pins s σ H vs us Q I r h
  obtain ⟨v, xs, rfl, hv, hs, hz, q⟩ := h
  obtain ⟨u, rfl, rx⟩ := vals1 r
  rcases hv with ⟨p, e, ws, hp, hA⟩ | ⟨p, ws, e, hp, hA⟩
  · subst e
    cases rx
    obtain ⟨its, rv, pl, hzz⟩ := I.list (SqL.of hp)
    refine sorted_end O hu I hA rv hs hz (fun E' Q' k => ?_) q
    obtain ⟨o, ho, hc, n, hd⟩ := pl.isList
    have hl := rv.length
    have hz2 := hA.len
    have := wpAny_collect_seq (prog := X.prog) (w := X.w) (A := X.A.in1) (E := E') (Q := Q') (s := s) p (.inl rfl) ho hc hd (fun h' hk => k h' s.toks hk) (by rw [List.size_toArray]; omega)
    exact this
  · subst e
    cases rx
    obtain ⟨its, rv, pl, hzz⟩ := I.tuple (SqT.of hp)
    refine sorted_end O hu I hA rv hs hz (fun E' Q' k => ?_) q
    obtain ⟨o, ho, hc, n, hd⟩ := pl
    have hl := rv.length
    have := wpAny_collect_seq (prog := X.prog) (w := X.w) (A := X.A.in1) (E := E') (Q := Q') (s := s) p (.inr rfl) ho hc hd (fun h' hk => k h' s.toks hk) (by rw [List.size_toArray]; omega)
    exact this
theorem el_sorted (O : Sto (DatumOrd.lt : α → α → Bool)) (hu : X.A.units + 2 + Datum.depth α < cLine) (ha : ED X σ H a xs) (hs : Srtb xs) (hz : xs.length ≤ 10000000) (hg : Gl X "sorted") (hm : X.mg "sorted" = none) (he : starEach [a] X.env = [(false, eval a X.env)] := by rfl) : EL X σ H (.Call (.Name "sorted" p) [a] [] pos) (isort DatumOrd.lt xs) := fun H1 e1 Q q =>
  we_of (pe_callB (cr_sorted O hu) hg hm (by decide +kernel) (pa_cons pe_we pa_nil he) (by decide) (by decide) he (by rfl)) (ha H1 e1 _ fun u H2 e2 hv => ⟨u, xs, rfl, .inl hv, hs, hz, fun p ws hp hA =>
    q p _ (fresh_b e2 hp) (Ex.tr e2 (Ex.new hp)) ⟨ws, upd_same, hA.up (Ex.new hp)⟩⟩)
theorem el_sortedT {t : Tup α} (O : Sto (DatumOrd.lt : α → α → Bool)) (hu : X.A.units + 2 + Datum.depth α < cLine) (ha : ED X σ H a t) (hs : Srtb t.items) (hz : t.items.length ≤ 10000000) (hg : Gl X "sorted") (hm : X.mg "sorted" = none) (he : starEach [a] X.env = [(false, eval a X.env)] := by rfl) : EL X σ H (.Call (.Name "sorted" p) [a] [] pos) (isort DatumOrd.lt t.items) := fun H1 e1 Q q =>
  we_of (pe_callB (cr_sorted O hu) hg hm (by decide +kernel) (pa_cons pe_we pa_nil he) (by decide) (by decide) he (by rfl)) (ha H1 e1 _ fun u H2 e2 hv => ⟨u, t.items, rfl, .inr hv, hs, hz, fun p ws hp hA =>
    q p _ (fresh_b e2 hp) (Ex.tr e2 (Ex.new hp)) ⟨ws, upd_same, hA.up (Ex.new hp)⟩⟩)
/-- min of a list -/
theorem cr_minD (hc : X.calm = true) (hu : X.A.units + 1 + Datum.depth α < cLine) : CallR X (.builtin "min") (fun vs H Q => ∃ (v : V) (x : α) (xs : List α), vs = [v] ∧ Rep.is H v (x :: xs) ∧ ∀ u, Rep.is H u (PySem.W.minOf x xs) → Q u H) := by
  intro pins s σ H vs us Q I r h
  obtain ⟨v, x, xs, rfl, ⟨p, e, ws, hp, hA⟩, q⟩ := h
  obtain ⟨u, rfl, rx⟩ := vals1 r
  subst e
  cases rx
  obtain ⟨its, rv, pl, hzz⟩ := I.list (SqL.of hp)
  refine PySem.W.min_list_datum (I.ok.hd hc) pl.isList (rdAll_is I hA rv) hu fun i v h' tk hi hv k => ?_
  have hi' : its[i]? = some v := by simpa using hi
  obtain ⟨w1, hw1, rw1⟩ := pget' rv hi'
  obtain ⟨y, hy, hyw⟩ := pget hA hw1
  have e : y = PySem.W.minOf x xs := holds_inj ((rd_is I hyw rw1).keeps k) hv
  subst e
  exact ⟨w1, H, I.kept k, rw1, q w1 hyw⟩
theorem ed_min {x : α} (hc : X.calm = true) (hu : X.A.units + 1 + Datum.depth α < cLine) (ha : ED X σ H a (x :: xs)) (hg : Gl X "min") (hm : X.mg "min" = none) (he : starEach [a] X.env = [(false, eval a X.env)] := by rfl) : ED X σ H (.Call (.Name "min" p) [a] [] pos) (PySem.W.minOf x xs) :=
  ed_cb1 (cr_minD hc hu) hg hm (by decide +kernel) ha (fun H2 u Q _ hv k => ⟨u, x, xs, rfl, hv, fun w hw => k w H2 (Ex.rf _) hw⟩) (he := he)
/-- xs.count(y) -/
theorem ed_count {o y : Expr} {z : α} {apos : Pos} (hu : X.A.units + 1 + Datum.depth α < cLine) (ho : ED X σ H o xs) (hy : ED X σ H y z)
    (hbase : attributeBase o "count" X.env (eval o X.env) = eval o X.env := by rfl)
    (hfew : ((backTo pos (starEach [y] X.env)).all (fun x => !x.1) && (backToKw pos (keywordEach [] X.env)).all (fun x => x.1.isSome) && decide (([y] : List Expr).length + ([] : List Keyword).length + (if ([] : List Keyword).isEmpty then 0 else 1) < 30)) = true := by rfl)
    (hline : (apos.endLine == pos.line) = true := by rfl) (he : starEach [y] X.env = [(false, eval y X.env)] := by rfl) : ED X σ H (.Call (.Attribute o "count" apos) [y] [] pos) ((xs.countP fun w => decide (w = z) : Nat) : Int) := fun H1 e1 Q q => by
  have mt : MtR X "list.count" (fun v vs H Q => ∃ (u : V) (xs : List α) (z : α), vs = [u] ∧ Rep.is H v xs ∧ Rep.is H u z ∧ Q (.int ((xs.countP fun w => decide (w = z) : Nat) : Int)) H) := by
    intro pins s σ H v vs uv us Q I rv rs h
    obtain ⟨u, xs, z, rfl, ⟨p, e, ws, hp, hA⟩, hz, q⟩ := h
    obtain ⟨uu, rfl, ru⟩ := vals1 rs
    subst e
    cases rv
    obtain ⟨its, r, pl, hzz⟩ := I.list (SqL.of hp)
    exact PySem.W.count_list_datum pl.isList (rdAll_is I hA r) (rd_is I hz ru) hu ⟨.int _, H, I.tok _, ⟨_, rfl⟩, q⟩
  refine we_of (pe_bm PySem.F.plainAttrs_list PySem.F.slot_list_count PySem.F.type_list_count mt pe_we (pa_cons pe_we pa_nil he) hbase hfew hline he (by rfl)) ?_
  refine ho H1 e1 _ fun v H2 e2 hv => ?_
  obtain ⟨p, e, ws, hp, hA⟩ := id hv
  subst e
  refine ⟨.inl ⟨rfl, ws, SqL.of hp⟩, hy H2 (Ex.tr e1 e2) _ fun w H3 e3 hw => ⟨w, xs, z, rfl, Rep.up e3 hv, hw, q _ H3 (Ex.tr e2 e3) rfl⟩⟩
end

/-! ### isinstance -/
section
variable {α : Type} [Rep α] {X : Cx} {σ : St} {H : Hp} {a e : Expr} {pos p p2 : Pos}
/-- v's built-in type, at every heap behind -/
def Typ (K : PySem.W.Frag) (H : Hp) (v : V) (T : String) : Prop := TyX K H v (.type T)
theorem ed_isi {x : α} {n : Str} {TT : String} {b : Bool} (ha : ED X σ H a x) (ty : ∀ H' v, Ex H H' → Rep.is H' v x → ∃ T0, TyX X.K H' v (.type T0) ∧ PySem.W.kitOne X.K (.type T0) (.type TT) = some b) (hg : Gl X "isinstance") (hm : X.mg "isinstance" = none)
    (hg2 : Gl X n) (hm2 : X.mg n = none) (hv2 : bootBuiltins n = some (.type TT)) (hn2 : n ≠ "__name__" := by decide) (hdb2 : (n == ("__debug__" : Str)) = false := by decide)
    (he : starEach [a, .Name n p2] X.env = (false, eval a X.env) :: starEach [.Name n p2] X.env := by rfl) (he2 : starEach [.Name n p2] X.env = [(false, eval (.Name n p2) X.env)] := by rfl) :
    ED X σ H (.Call (.Name "isinstance" p) [a, .Name n p2] [] pos) b := fun H1 e1 Q q =>
  we_of (pe_callB call_isi hg hm (by decide +kernel) (pa_cons pe_we (pa_cons (pe_bltn (v := .ty TT) hg2 hm2 hv2 rfl hn2 hdb2) pa_nil he2) he) (by decide) (by decide) he (by rw [he2] <;> rfl)) (ha H1 e1 _ fun u H2 e2 hu => by
    obtain ⟨T0, h1, h2⟩ := ty H2 u (Ex.tr e1 e2) hu
    exact ⟨u, .ty TT, .type T0, .type TT, b, rfl, .ty TT, h1, h2, q _ H2 e2 rfl⟩)
end
end Oa
set_option Elab.async false
set_option linter.all false
set_option maxRecDepth 100000
set_option maxHeartbeats 1000000
namespace Oa
open PySem PySem.Spec PyProof.Rows L2
/-! ### keys: pieces -/
abbrev T0 := Tup Int
abbrev P0 := Tup T0
abbrev R0 := Tup P0
def tk (t : T0) : NestedKey := .tup (t.items.map .num)
def pk (p : P0) : NestedKey := .tup (p.items.map tk)
theorem nums_inj : ∀ {a b : List Int}, a.map NestedKey.num = b.map NestedKey.num → a = b
  | [], [], _ => rfl
  | [], _ :: _, h => by simp at h
  | _ :: _, [], h => by simp at h
  | x :: a, y :: b, h => by
    rw [List.map_cons, List.map_cons] at h
    obtain ⟨h1, h2⟩ := List.cons.inj h
    rw [NestedKey.num.inj h1, nums_inj h2]
theorem tk_inj {a b : T0} (h : tk a = tk b) : a = b := by
  cases a; cases b
  exact congrArg PySem.W.Tup.mk (nums_inj (NestedKey.tup.inj h))
theorem tks_inj : ∀ {a b : List T0}, a.map tk = b.map tk → a = b
  | [], [], _ => rfl
  | [], _ :: _, h => by simp at h
  | _ :: _, [], h => by simp at h
  | x :: a, y :: b, h => by
    rw [List.map_cons, List.map_cons] at h
    obtain ⟨h1, h2⟩ := List.cons.inj h
    rw [tk_inj h1, tks_inj h2]
theorem pk_inj {a b : P0} (h : pk a = pk b) : a = b := by
  cases a; cases b
  exact congrArg PySem.W.Tup.mk (tks_inj (NestedKey.tup.inj h))
theorem dep_nums : ∀ l : List Int, NestedKey.depthAll (l.map .num) = 0
  | [] => by simp [NestedKey.depthAll]
  | x :: l => by rw [List.map_cons, NestedKey.depthAll, dep_nums l]; simp [NestedKey.depth]
theorem dep_tk (t : T0) : (tk t).depth = 1 := by unfold tk; rw [NestedKey.depth, dep_nums]
theorem dep_tks : ∀ l : List T0, NestedKey.depthAll (l.map tk) ≤ 1
  | [] => by simp [NestedKey.depthAll]
  | x :: l => by
    rw [List.map_cons, NestedKey.depthAll, dep_tk]
    have := dep_tks l
    omega
theorem dep_pk (p : P0) : (pk p).depth ≤ 8 := by
  unfold pk
  rw [NestedKey.depth]
  have := dep_tks p.items
  omega
section
variable {X : Cx} {pins : List (Addr × Obj)} {σ : St} {H : Hp} {s : Shared}
theorem nest_ints : ∀ {vs : List V} {us : List Value} {l : List Int}, AllIs H vs l → Vals vs us → NestedAll s.heap (l.map .num) us
  | _, _, _, .nil, .nil => .nil
  | _, _, _, .cons r t, .cons r' t' => by
    cases r
    obtain ⟨tt, rfl⟩ := r'
    exact .cons (.int _ _) (nest_ints t t')
theorem nest_tree (I : Inv X pins σ H s) {v : V} {u : Value} {t : T0} (h : Rep.is H v t) (r : RelV v u) : NestedIs s.heap (tk t) u := by
  obtain ⟨a, vs, rfl, hp, hA⟩ := h
  cases r
  obtain ⟨its, rv, ⟨o, ho, hc, n, hd⟩, _⟩ := I.tuple (SqT.of hp)
  exact .tup ho hc hd (by simpa using nest_ints hA rv)
theorem nest_trees (I : Inv X pins σ H s) : ∀ {vs : List V} {us : List Value} {l : List T0}, AllIs H vs l → Vals vs us → NestedAll s.heap (l.map tk) us
  | _, _, _, .nil, .nil => .nil
  | _, _, _, .cons r t, .cons r' t' => .cons (nest_tree I r r') (nest_trees I t t')
theorem nest_piece (I : Inv X pins σ H s) {v : V} {u : Value} {t : P0} (h : Rep.is H v t) (r : RelV v u) : NestedIs s.heap (pk t) u := by
  obtain ⟨a, vs, rfl, hp, hA⟩ := h
  cases r
  obtain ⟨its, rv, ⟨o, ho, hc, n, hd⟩, _⟩ := I.tuple (SqT.of hp)
  exact .tup ho hc hd (by simpa using nest_trees I hA rv)
end
/-! ### dicts from pieces -/
abbrev Xs := List (NestedKey × Addr × V)
abbrev Ys := List (NestedKey × Addr × Value)
def relX (q : NestedKey × Addr × V) (y : NestedKey × Addr × Value) : Prop := q.1 = y.1 ∧ q.2.1 = y.2.1 ∧ RelV q.2.2 y.2.2
def ent (w : World) (y : NestedKey × Addr × Value) : DictEntry := ⟨y.1.hash w, .ref y.2.1, y.2.2⟩
def dicP (w : World) (d : Addr) (xs : Xs) (ep : Nat) (h : Heap) : Prop := ∃ (ys : Ys) (o : Obj) (es : Array DictEntry), Paired relX xs ys ∧ h.get? d = some o ∧ o.ExactDict ∧ o.data = .dict es ep ∧ es.toList = ys.map (ent w)
def DicO (w : World) (d : Addr) (xs : Xs) (ep : Nat) : HO := .ext (dicP w d xs ep)
section
variable {β : Type} [Rep β]
abbrev AllKv (H : Hp) (xs : Xs) (kvs : List (P0 × β)) : Prop := Paired (fun (q : NestedKey × Addr × V) (p : P0 × β) => q.1 = pk p.1 ∧ Rep.is H (.ref q.2.1) p.1 ∧ Rep.is H q.2.2 p.2) xs kvs
structure DAt (w : World) (H : Hp) (a : Addr) (kvs : List (P0 × β)) : Prop where
  ok : ∃ xs ep, H a = some (DicO w a xs ep) ∧ AllKv H xs kvs
  nd : (kvs.map (·.1)).Nodup
  ns : (a == sysModules) = false
structure Dic (w : World) (β : Type) where
  kvs : List (P0 × β)
theorem dic_nc {w : World} {d : Addr} {xs : Xs} {ep : Nat} : ∀ c q, DicO w d xs ep ≠ CodeO c q := fun c q e => by
  have e2 : dicP w d xs ep = fun h => ∃ (oc : Obj) (vs : Array Value) (t : Tok), h.get? c = some oc ∧ oc.data = .fields vs ∧ vs[1]? = some (.str q t) := by
    unfold DicO CodeO LamX.CodeO at e
    injection e
  have gt : ∀ b, b < c + 1 → (Heap.mk (Array.replicate (c + 1) (⟨.none, none, .fields #[.none, .str q 0], #[]⟩ : Obj)) {}).get? b = some ⟨.none, none, .fields #[.none, .str q 0], #[]⟩ := fun b hb => by
    unfold Heap.get?
    rw [Array.getElem?_replicate, if_pos hb]
  have gn : ∀ b, ¬ b < c + 1 → (Heap.mk (Array.replicate (c + 1) (⟨.none, none, .fields #[.none, .str q 0], #[]⟩ : Obj)) {}).get? b = none := fun b hb => by
    unfold Heap.get?
    rw [Array.getElem?_replicate, if_neg hb]
  have p1 : dicP w d xs ep (Heap.mk (Array.replicate (c + 1) (⟨.none, none, .fields #[.none, .str q 0], #[]⟩ : Obj)) {}) := by
    rw [e2]
    exact ⟨_, _, 0, gt c (Nat.lt_succ_self c), rfl, rfl⟩
  obtain ⟨ys, o, es, _, ho, _, hd, _⟩ := p1
  by_cases hb : d < c + 1
  · rw [gt d hb] at ho
    cases ho
    cases hd
  · rw [gn d hb] at ho
    cases ho
theorem AllKv.up {H H' : Hp} (e : Ex H H') {xs : Xs} {kvs : List (P0 × β)} (h : AllKv H xs kvs) : AllKv H' xs kvs := L2.Paired.mapP h fun _ _ r => ⟨r.1, Rep.up e r.2.1, Rep.up e r.2.2⟩
theorem AllKv.tx [Imm β] {H H' : Hp} (e : Tx H H') {xs : Xs} {kvs : List (P0 × β)} (h : AllKv H xs kvs) : AllKv H' xs kvs := L2.Paired.mapP h fun _ _ r => ⟨r.1, Imm.tx e r.2.1, Imm.tx e r.2.2⟩
theorem DAt.up {w : World} {H H' : Hp} (e : Ex H H') {a : Addr} {kvs : List (P0 × β)} (h : DAt w H a kvs) : DAt w H' a kvs := let ⟨xs, ep, h1, h2⟩ := h.ok; ⟨⟨xs, ep, e a _ h1, h2.up e⟩, h.nd, h.ns⟩
theorem DAt.lx {w : World} [Imm β] {H H' : Hp} (e : Lx H H') {a : Addr} {kvs : List (P0 × β)} (h : DAt w H a kvs) : DAt w H' a kvs := let ⟨xs, ep, h1, h2⟩ := h.ok; ⟨⟨xs, ep, e a _ h1 (fun _ z => by cases z) rfl, h2.tx e.tx⟩, h.nd, h.ns⟩
instance {w : World} : Rep (Dic w β) := ⟨fun H v D => ∃ a, v = .ref a ∧ DAt w H a D.kvs, fun e ⟨a, h1, h2⟩ => ⟨a, h1, h2.up e⟩⟩
instance {w : World} [Imm β] : NoL (Dic w β) := ⟨fun e ⟨a, h1, h2⟩ => ⟨a, h1, h2.lx e⟩⟩
def lookD (kvs : List (P0 × β)) (k : P0) : Option β := (kvs.find? fun p => decide (p.1 = k)).map (·.2)
def putD (kvs : List (P0 × β)) (k : P0) (x : β) : List (P0 × β) := if (lookD kvs k).isSome then kvs.map (fun p => if p.1 = k then (p.1, x) else p) else kvs ++ [(k, x)]
theorem look_is {H : Hp} {k : P0} : ∀ {xs : Xs} {ys : Ys} {kvs : List (P0 × β)}, AllKv H xs kvs → Paired relX xs ys → (lookD kvs k = none ∧ atKey ys (pk k) = none) ∨ ∃ x b v u, lookD kvs k = some x ∧ atKey ys (pk k) = some (b, u) ∧ RelV v u ∧ Rep.is H v x
  | _, _, _, .nil, .nil => .inl ⟨rfl, rfl⟩
  | _, _, _, .cons (a := q) (b := p) r t, .cons (b := y) r' t' => by
    by_cases e : p.1 = k
    · have e2 : y.1 = pk k := by rw [← r'.1, r.1, e]
      refine .inr ⟨p.2, y.2.1, q.2.2, y.2.2, ?_, ?_, r'.2.2, r.2.2⟩
      · simp [lookD, e]
      · simp [atKey, e2]
    · have e2 : ¬ y.1 = pk k := fun z => e (pk_inj (by rw [← r.1, r'.1, z]))
      have ih := look_is (k := k) t t'
      simp only [lookD, atKey, List.find?_cons, e, e2, decide_false] at ih ⊢
      exact ih
theorem put_keys (kvs : List (P0 × β)) (k : P0) (x : β) (hn : (kvs.map (·.1)).Nodup) : ((putD kvs k x).map (·.1)).Nodup := by
  unfold putD
  split
  · rw [List.map_map]
    have : ((fun p : P0 × β => p.1) ∘ fun p => if p.1 = k then (p.1, x) else p) = fun p => p.1 := by
      funext p
      show (if p.1 = k then (p.1, x) else p).1 = p.1
      split <;> rfl
    rw [this]
    exact hn
  · rename_i h
    rw [List.map_append, List.nodup_append]
    refine ⟨hn, by simp, ?_⟩
    intro a ha b hb e
    simp only [List.map_cons, List.map_nil, List.mem_singleton] at hb
    subst hb
    subst e
    obtain ⟨p, hp, hpe⟩ := List.mem_map.mp ha
    apply h
    unfold lookD
    rw [Option.isSome_map, List.find?_isSome]
    exact ⟨p, hp, by simpa using hpe⟩
/-- what storing makes of the entries -/
def putX (xs : Xs) (k : P0) (b : Addr) (v : V) : Xs := if (xs.find? fun q => decide (q.1 = pk k)).isSome then xs.map (fun q => if q.1 = pk k then (q.1, q.2.1, v) else q) else xs ++ [(pk k, b, v)]
theorem find_eq {k : P0} {H : Hp} : ∀ {xs : Xs} {kvs : List (P0 × β)}, AllKv H xs kvs → (xs.find? fun q => decide (q.1 = pk k)).isSome = (lookD kvs k).isSome
  | _, _, .nil => rfl
  | _, _, .cons (a := q) (b := p) r t => by
    by_cases e : p.1 = k
    · have e2 : q.1 = pk k := by rw [r.1, e]
      simp [lookD, List.find?_cons, e, e2]
    · have e2 : ¬ q.1 = pk k := fun z => e (pk_inj (by rw [← r.1, z]))
      have ih := find_eq (k := k) t
      simp only [lookD, List.find?_cons, e, e2, decide_false] at ih ⊢
      exact ih
theorem put_is {H : Hp} {k : P0} {b : Addr} {v : V} {x : β} {xs : Xs} {kvs : List (P0 × β)} (h : AllKv H xs kvs) (hk : Rep.is H (.ref b) k) (hv : Rep.is H v x) : AllKv H (putX xs k b v) (putD kvs k x) := by
  unfold putX putD
  rw [find_eq h]
  split
  · have go : ∀ {xs : Xs} {kvs : List (P0 × β)}, AllKv H xs kvs → AllKv H (xs.map (fun q => if q.1 = pk k then (q.1, q.2.1, v) else q)) (kvs.map (fun p => if p.1 = k then (p.1, x) else p)) := by
      intro xs kvs h
      induction h with
      | nil => exact .nil
      | cons r t ih =>
        rename_i q p _ _
        rw [List.map_cons, List.map_cons]
        refine .cons ?_ ih
        by_cases e : p.1 = k
        · have e2 : q.1 = pk k := by rw [r.1, e]
          rw [if_pos e, if_pos e2]
          exact ⟨r.1, r.2.1, hv⟩
        · have e2 : ¬ q.1 = pk k := fun z => e (pk_inj (by rw [← r.1, z]))
          rw [if_neg e, if_neg e2]
          exact r
    exact go h
  · exact papp h (.cons ⟨rfl, hk, hv⟩ .nil)
theorem put_rel {k : P0} {b : Addr} {v : V} {u : Value} (r : RelV v u) {xs : Xs} {ys : Ys} (h : Paired relX xs ys) : Paired relX (putX xs k b v) (storedH ys (pk k) b u) := by
  have hf : ∀ {xs : Xs} {ys : Ys}, Paired relX xs ys → (xs.find? fun q => decide (q.1 = pk k)).isSome = (atKey ys (pk k)).isSome := by
    intro xs ys h
    induction h with
    | nil => rfl
    | cons r t ih =>
      rename_i q y _ _
      by_cases e : q.1 = pk k
      · have e2 : y.1 = pk k := by rw [← r.1, e]
        simp [atKey, List.find?_cons, e, e2]
      · have e2 : ¬ y.1 = pk k := fun z => e (by rw [r.1, z])
        simp only [atKey, List.find?_cons, e, e2, decide_false] at ih ⊢
        exact ih
  unfold putX storedH
  rw [hf h]
  split
  · have go : ∀ {xs : Xs} {ys : Ys}, Paired relX xs ys → Paired relX (xs.map (fun q => if q.1 = pk k then (q.1, q.2.1, v) else q)) (ys.map (putAt (pk k) u)) := by
      intro xs ys h
      induction h with
      | nil => exact .nil
      | cons r' t ih =>
        rename_i q y _ _
        rw [List.map_cons, List.map_cons]
        refine .cons ?_ ih
        unfold putAt
        by_cases e : q.1 = pk k
        · have e2 : y.1 = pk k := by rw [← r'.1, e]
          rw [if_pos e, if_pos e2]
          exact ⟨r'.1, r'.2.1, r⟩
        · have e2 : ¬ y.1 = pk k := fun z => e (by rw [r'.1, z])
          rw [if_neg e, if_neg e2]
          exact r'
    exact go h
  · exact papp h (.cons ⟨rfl, rfl, r⟩ .nil)
end
section
variable {β : Type} [Rep β] {X : Cx} {pins : List (Addr × Obj)} {σ : St} {H : Hp} {s : Shared} {d : Addr} {kvs : List (P0 × β)}
theorem dicP.ok {w : World} {xs : Xs} {ep : Nat} {h : Heap} {P : Program} {H : Hp} (x : dicP w d xs ep h) : ObjOk P w H h d (DicO w d xs ep) := ⟨x, let ⟨_, o, _, _, e, _⟩ := x; ⟨o, e⟩, fun h1 h2 ⟨ys, o, es, r, e, c⟩ k => ⟨ys, o, es, r, k o e, c⟩⟩
/-- the library's dict -/
theorem dat_of (I : Inv X pins σ H s) {xs : Xs} {ep : Nat} (hd : H d = some (DicO X.w d xs ep)) (hA : AllKv H xs kvs) (hn : (kvs.map (·.1)).Nodup) : ∃ ys : Ys, Paired relX xs ys ∧ s.heap.DictOfH (nestedKind X.prog X.w) d ys := by
  obtain ⟨⟨ys, o, es, r, e, hx, hdat, he⟩, _⟩ := I.hok d _ hd
  refine ⟨ys, r, o, es, ep, e, hx, hdat, he, ?_, ?_⟩
  · intro y hy
    obtain ⟨i, hi, ey⟩ := List.getElem_of_mem hy
    obtain ⟨q, hq, rq⟩ := pget' r (List.getElem?_eq_getElem hi)
    obtain ⟨p, hp, h1, h2, _⟩ := pget hA hq
    rw [← ey, ← rq.1, ← rq.2.1, h1]
    exact ⟨nest_piece I h2 rfl, dep_pk _⟩
  · have e1 : ys.map (·.1) = kvs.map fun p => pk p.1 := by
      have go : ∀ {xs : Xs} {ys : Ys} {kvs : List (P0 × β)}, AllKv H xs kvs → Paired relX xs ys → ys.map (·.1) = kvs.map fun p => pk p.1 := by
        intro xs ys kvs h
        induction h generalizing ys with
        | nil => intro h'; cases h'; rfl
        | cons r t ih =>
          intro h'
          cases h' with
          | cons r' t' => rw [List.map_cons, List.map_cons, ih t', ← r'.1, r.1]
      exact go hA r
    rw [e1, show (fun p : P0 × β => pk p.1) = pk ∘ fun p => p.1 from rfl, ← List.map_map]
    exact List.Pairwise.map _ (fun a b h e => h (pk_inj e)) hn
theorem nest_room {A : Around} {k : Nat} (hr : Room k A) : (nestedKind X.prog X.w).room A.in1 := by
  have := hr.units
  show A.units + 1 + 8 < cLine
  omega
theorem nest_is (I : Inv X pins σ H s) {b : Addr} {k : P0} (h : Rep.is H (.ref b) k) : (nestedKind X.prog X.w).is s.heap (pk k) b := ⟨nest_piece I h rfl, dep_pk _⟩
theorem piece_ref {v : V} {k : P0} (h : Rep.is H v k) : ∃ b, v = .ref b := let ⟨a, _, e, _⟩ := h; ⟨a, e⟩
/-- behind a store: the dict is another -/
theorem dic_upd (I : Inv X pins σ H s) {xs xs' : Xs} {ep : Nat} (hd : H d = some (DicO X.w d xs ep)) {ys' : Ys} (r' : Paired relX xs' ys') {h' : Heap} {tk' : Nat} (D : h'.DictOfH (nestedKind X.prog X.w) d ys') (sb : Heap.SameBut d s.heap h') :
    ∃ ep', Inv X pins σ (upd H d (DicO X.w d xs' ep')) { s with heap := h', toks := tk' } := by
  obtain ⟨o, es, ep', ho, hx, hdat, he, _⟩ := D
  refine ⟨ep', I.write (x := d) (e := d) (t' := tk') (by rw [hd]; exact True.intro) (.inl rfl) (fun b u hb e => (sb.2 b hb).trans e) ⟨o, ho⟩ (dicP.ok ⟨ys', o, es, r', ho, hx, hdat, he⟩)⟩
theorem tx_dic {xs : Xs} {ep : Nat} {w : World} {u : HO} (hd : H d = some (DicO w d xs ep)) : Tx H (upd H d u) := fun a o f h => by
  rw [upd_ne (fun z => by subst z; rw [hd] at h; cases h; exact f)]
  exact h
/-- {} -/
theorem we_dnew {pos : Pos} {H1 : Hp} {Q : VK} (q : ∀ p H2, H1 p = none → Ex H1 H2 → DAt X.w H2 p ([] : List (P0 × β)) → Q (.ref p) H2) : we X (.Dict [] [] pos) σ H1 Q := fun pins s I =>
  wpAny_Dict_empty (by
    have ns : (s.heap.objs.size == sysModules) = false := (dk_empty (P := X.prog) (w := X.w) s.heap I.big (H := upd H1 s.heap.objs.size (.dK []))).2.1
    have ok : dicP X.w s.heap.objs.size [] 0 (s.heap.push { cls := .type "dict", data := .dict #[] }) := ⟨[], _, #[], .nil, Heap.get?_push_size _ rfl, ⟨rfl, rfl, rfl⟩, rfl, rfl⟩
    have hn := I.hok.fresh (Nat.le_refl s.heap.objs.size)
    exact ⟨.ref s.heap.objs.size, _, I.laid (a := s.heap.objs.size) (o := DicO X.w s.heap.objs.size [] 0) (t' := s.toks) (fun _ _ q => Heap.get?_push_of_some _ q) (Nat.le_refl _) (dicP.ok ok), rfl,
      q _ _ hn (Ex.new hn) ⟨⟨[], 0, upd_same, .nil⟩, List.nodup_nil, ns⟩⟩)
/-- d[k] = v -/
theorem set_dic {j : Nat} [Imm β] (hr : Room j X.A) : PSet X (fun o i v H Q => ∃ (d : Addr) (kvs : List (P0 × β)) (k : P0) (x : β), o = .ref d ∧ DAt X.w H d kvs ∧ Rep.is H i k ∧ Rep.is H v x ∧ kvs.length ≤ 10000000 ∧ ∀ u, Mx [d] H (upd H d u) → DAt X.w (upd H d u) d (putD kvs k x) → Q (upd H d u)) := by
  intro pins s σ H o i v ov iv u Q I ro ri rv h
  obtain ⟨d, kvs, k, x, rfl, ⟨⟨xs, ep, hd, hA⟩, hn, hns⟩, hi, hv, hz, q⟩ := h
  obtain ⟨b, rfl⟩ := piece_ref hi
  cases ro
  cases ri
  obtain ⟨ys, r, D⟩ := dat_of I hd hA hn
  have l1 := Paired.length r
  have l2 := Paired.length hA
  refine wpAny_setItem_heap (nest_room hr) (nest_is I hi) D (fun h' D' sb => ?_) (by rw [← l1, l2, sizeLine_eq]; omega)
  obtain ⟨ep', I'⟩ := dic_upd (tk' := s.toks + (nestedKind X.prog X.w).draws (pk k)) I hd (put_rel (k := k) (b := b) rv r) D' sb
  refine ⟨_, I', q _ (Mx.updO hd (fun f => f) rfl dic_nc) ⟨⟨_, ep', upd_same, (put_is hA hi hv).tx (tx_dic hd)⟩, put_keys kvs k x hn, hns⟩⟩
theorem dat_type (I : Inv X pins σ H s) (h : DAt X.w H d kvs) : s.TypeIs (.ref d) "dict" ∧ ∀ a, Value.ref d = .ref a → ∃ ob, s.heap.get? a = some ob ∧ ob.dict = none := by
  obtain ⟨⟨xs, ep, hd, hA⟩, hn, hns⟩ := h
  obtain ⟨⟨ys, o, es, r, e, hx, hdat, he⟩, _⟩ := I.hok d _ hd
  refine ⟨⟨o, e, hx.1⟩, fun a q => ?_⟩
  cases q
  exact ⟨o, e, hx.2.1⟩
/-- d[k] -/
theorem ed_dix {j : Nat} (hr : Room j X.A) {a b : Expr} {k : P0} {x : β} {pos : Pos} {Dd : Dic X.w β} (hl : ED X σ H a Dd) (hi : ED X σ H b k) (hx : lookD Dd.kvs k = some x) (hs : NoSl b := by exact fun _ _ => rfl) : ED X σ H (.Subscript a b pos) x := fun H1 e1 Q q pins s I =>
  subD_of PySem.F.slot_dict_getitem.lookup hs (thn (hl H1 e1 (fun v H2 => Ex H1 H2 ∧ Rep.is H2 v Dd) (fun v H2 e2 hv => ⟨e2, hv⟩) pins s I) fun u s1 ⟨v, H2, I2, rv, e2, hv⟩ => thn (hi H2 (Ex.tr e1 e2) (fun w H3 => Ex H2 H3 ∧ Rep.is H3 w k) (fun w H3 e3 hw => ⟨e3, hw⟩) pins s1 I2) fun iv s2 ⟨w, H3, I3, rw', e3, hw⟩ => by
    obtain ⟨d, ev, hD⟩ := hv
    subst ev
    cases rv
    have hD3 := hD.up e3
    refine ⟨(dat_type I3 hD3).1, ?_⟩
    obtain ⟨b', rfl⟩ := piece_ref hw
    cases rw'
    obtain ⟨⟨xs, ep, hd, hA⟩, hn, hns⟩ := hD3
    obtain ⟨ys, r, D⟩ := dat_of I3 hd hA hn
    rcases look_is (k := k) hA r with ⟨e1, _⟩ | ⟨y, b2, v, u, e1, e4, ru, hu⟩
    · rw [hx] at e1; cases e1
    · rw [hx] at e1
      cases e1
      exact wpAny_getItem_heap (nest_room hr) (nest_is I3 hw) D e4 ⟨v, H3, I3.tok _, ru, q v H3 (Ex.tr e2 e3) hu⟩)
/-- d.get(k, x) -/
theorem ed_dget {j : Nat} (hr : Room j X.A) {o a b : Expr} {k : P0} {x : β} {apos cpos : Pos} {Dd : Dic X.w β} (ho : ED X σ H o Dd) (ha : ED X σ H a k) (hb : ED X σ H b x)
    (hbase : attributeBase o "get" X.env (eval o X.env) = eval o X.env := by rfl)
    (hfew : ((backTo cpos (starEach [a, b] X.env)).all (fun x => !x.1) && (backToKw cpos (keywordEach [] X.env)).all (fun x => x.1.isSome) && decide (([a, b] : List Expr).length + ([] : List Keyword).length + (if ([] : List Keyword).isEmpty then 0 else 1) < 30)) = true := by rfl)
    (hline : (apos.endLine == cpos.line) = true := by rfl) (htr : backTo cpos (starEach [a, b] X.env) = [(false, eval a X.env), (false, eval b X.env)] := by rfl) :
    ED X σ H (.Call (.Attribute o "get" apos) [a, b] [] cpos) ((lookD Dd.kvs k).getD x) := fun H1 e1 Q q pins s I => by
  refine wpAny_Call_method hbase hfew hline PySem.F.plainAttrs_dict PySem.F.slot_dict_get PySem.F.type_dict_get (thn (ho H1 e1 (fun v H2 => Ex H1 H2 ∧ Rep.is H2 v Dd) (fun v H2 e2 hv => ⟨e2, hv⟩) pins s I) fun u s1 ⟨v, H2, I2, rv, e2, hv⟩ => ?_)
  obtain ⟨d, ev, hD⟩ := hv
  subst ev
  cases rv
  obtain ⟨t1, t2⟩ := dat_type I2 hD
  refine ⟨t1, t2, ?_⟩
  rw [htr]
  refine Calls.callWith_builtin rfl (Calls.evalArgs_plain (Calls.spliced_cons (thn (ha H2 (Ex.tr e1 e2) (fun w H3 => Ex H2 H3 ∧ Rep.is H3 w k) (fun w H3 e3 hw => ⟨e3, hw⟩) pins s1 I2) fun iv s2 ⟨w, H3, I3, rw', e3, hw⟩ =>
    Calls.spliced_cons (thn (hb H3 (Ex.tr (Ex.tr e1 e2) e3) (fun z H4 => Ex H3 H4 ∧ Rep.is H4 z x) (fun z H4 e4 hz => ⟨e4, hz⟩) pins s2 I3) fun fv s3 ⟨z, H4, I4, rz, e4, hz⟩ => Calls.spliced_nil ?_))))
  obtain ⟨b', rfl⟩ := piece_ref hw
  cases rw'
  have k4 := Ex.tr e3 e4
  obtain ⟨⟨xs, ep, hd, hA⟩, hn, hns⟩ := hD.up k4
  obtain ⟨ys, r, D⟩ := dat_of I4 hd hA hn
  refine call_meetsIn PySem.F.slot_dict_get D.typeIs PySem.F.entry_dict_get (PySem.F.args_dict_get_3 _ _ _) (meetsH_dict_get_default (nestedKind X.prog X.w) d b' hns fv) ⟨nest_room hr, pk k, ys, nest_is I4 (Rep.up e4 hw), D, ?_⟩
  rcases look_is (k := k) hA r with ⟨e1', e2'⟩ | ⟨y, b2, v, u, e1', e2', ru, hu⟩
  · rw [e2']
    exact ⟨z, H4, I4.tok _, rz, q z H4 (Ex.tr e2 k4) (by rw [e1']; exact hz)⟩
  · rw [e2']
    exact ⟨v, H4, I4.tok _, ru, q v H4 (Ex.tr e2 k4) (by rw [e1']; exact hu)⟩
/-- d[k] = v, a statement -/
theorem w_dput [Imm β] {j : Nat} (hr : Room j X.A) {D : Ends} {o i e : Expr} {k : P0} {x : β} {pos tpos : Pos} (ho : ED X σ H o (Adr.mk d)) (hD : DAt X.w H d kvs) (hi : ED X σ H i k) (h : ED X σ H e x) (hz : kvs.length ≤ 10000000) (k' : ∀ H1, Mx [d] H H1 → DAt X.w H1 d (putD kvs k x) → D.nx σ H1)
    (ha : ∀ v, assign (.Subscript o i tpos) X.env v = (do
      let ov ← holding [v] (eval o X.env)
      let iv ← holding [v, ov] (eval i X.env)
      standAt tpos
      holding [v, ov, iv] (setItem ov iv v)
      release [v, ov, iv] []) := by intro _; rfl)
    (hs : swapsWithSole [.Subscript o i tpos] e pos.line X.env = pure false := by rfl) (hw : swappedStores [.Subscript o i tpos] e X.env = pure none := by rfl) (h1 : (assignEach [.Subscript o i tpos] X.env).map (·.2) = [assign (.Subscript o i tpos) X.env] := by rfl) : wst X (.Assign [.Subscript o i tpos] e pos) D σ H := by
  refine wst_of (ps_asg pe_we (pg_sub pe_we pe_we (set_dic (β := β) hr) ha) hs hw h1) ?_
  refine h H (Ex.rf _) _ fun w H2 e2 hw => ho H2 e2 _ fun v H3 e3 hvv => hi H3 (Ex.tr e2 e3) _ fun u H4 e4 hu => ?_
  have e24 := Ex.tr e2 (Ex.tr e3 e4)
  exact ⟨d, kvs, k, x, hvv, hD.up e24, hu, Rep.up (Ex.tr e3 e4) hw, hz, fun u m D' => k' _ (Mx.ofE e24 m) D'⟩
/-- list(d) -/
theorem keys_items {ys : Ys} {es : Array DictEntry} {acc : Array Value} (he : es.toList = ys.map (ent X.w)) (it : ItemsOf (fun i v => ∃ en : DictEntry, es[i]? = some en ∧ v = en.key) acc es.size) : acc.toList = (ys.map fun y => y.2.1).map Value.ref := by
  have l1 : es.size = ys.length := by rw [← Array.length_toList, he, List.length_map]
  have hl : acc.toList.length = ys.length := by rw [Array.length_toList, it.1]; exact l1
  rw [List.map_map]
  apply List.ext_getElem?
  intro j
  rw [List.getElem?_map]
  cases hj : acc.toList[j]? with
  | none =>
    have h1 := List.getElem?_eq_none_iff.mp hj
    rw [List.getElem?_eq_none (by omega)]
    rfl
  | some v =>
    obtain ⟨en, hen, hv⟩ := it.2 j v (by rw [← Array.getElem?_toList]; exact hj)
    have qe : es[j]? = (ys[j]?).map (ent X.w) := by rw [← Array.getElem?_toList, he, List.getElem?_map]
    rw [hen] at qe
    cases hb : ys[j]? with
    | none =>
      rw [hb] at qe
      cases qe
    | some b =>
      rw [hb] at qe
      rw [hv, Option.some.inj qe]
      rfl
theorem keys_is {xs : Xs} {ys : Ys} {kvs : List (P0 × β)} (hA : AllKv H xs kvs) (r : Paired relX xs ys) : AllIs H ((ys.map fun y => y.2.1).map V.ref) (kvs.map (·.1)) := by
  induction hA generalizing ys with
  | nil => cases r; exact .nil
  | cons a t ih =>
    cases r with
    | cons b t' =>
      rw [List.map_cons, List.map_cons, List.map_cons]
      refine .cons ?_ (ih t')
      rw [← b.2.1]
      exact a.2.1
theorem el_listD (hc : X.calm = true) {a : Expr} {pos p : Pos} {Dd : Dic X.w β} (ha : ED X σ H a Dd) (hz : Dd.kvs.length ≤ 10000000) (hg : Gl X "list") (hm : X.mg "list" = none) (he : starEach [a] X.env = [(false, eval a X.env)] := by rfl) : EL X σ H (.Call (.Name "list" p) [a] [] pos) (Dd.kvs.map (·.1)) := by
  have cr : CallR X (.type "list") (fun vs H Q => ∃ (v : V) (D : Dic X.w β), vs = [v] ∧ Rep.is H v D ∧ D.kvs.length ≤ 10000000 ∧ ∀ p ws, H p = none → AllIs H ws (D.kvs.map (·.1)) → Q (.ref p) (upd H p (.lst ws))) := by
    intro pins s σ H vs us Q I r h
    obtain ⟨v, D, rfl, ⟨d, rfl, ⟨xs, ep, hd, hA⟩, hn, hns⟩, hz, q⟩ := h
    obtain ⟨u, rfl, rx⟩ := vals1 r
    cases rx
    obtain ⟨⟨ys, o, es, r', e, hx, hdat, he⟩, _⟩ := I.hok d _ hd
    have l1 : es.size = ys.length := by rw [← Array.length_toList, he, List.length_map]
    have l2 := Paired.length r'
    have l3 := Paired.length hA
    refine PySem.W.kdl_call (kdl_raw hns hx hdat) (I.ok.hd hc) e (by rw [sizeLine_eq]; omega) fun h' tk acc' c' kp e' it => ?_
    have ea := keys_items (X := X) he it
    have rv : Vals ((ys.map fun y => y.2.1).map V.ref) acc'.toList := by rw [ea]; exact vals_refs _
    refine ⟨.ref s.heap.objs.size, _, I.laid (t' := tk) (o := .lst ((ys.map fun y => y.2.1).map V.ref)) kp (Nat.le_refl _) ?_, rfl, q _ _ (I.hok.fresh (Nat.le_refl _)) (keys_is hA r')⟩
    exact ⟨by rw [List.length_map, List.length_map, sizeLine_eq]; omega, acc'.toList, c', rv, by rw [Array.toArray_toList]; exact e'⟩
  exact fun H1 e1 Q q => we_of (pe_callTy cr hg hm (by decide +kernel) (pa_cons pe_we pa_nil he) (by decide) (by decide) he (by rfl)) (ha H1 e1 _ fun u H2 e2 hv => ⟨u, Dd, rfl, hv, hz, fun l ws hl hA =>
    q l _ (fresh_b e2 hl) (Ex.tr e2 (Ex.new hl)) ⟨ws, upd_same, hA.up (Ex.new hl)⟩⟩)
end
section
variable {β : Type} [Rep β] {X : Cx} {pins : List (Addr × Obj)} {σ : St} {H : Hp} {s : Shared} {d : Addr} {kvs : List (P0 × β)}
open PySem.W (Datum DatumOrd)
/-- sorted(d) -/
theorem el_sortedD (hc : X.calm = true) (hu : X.A.units + 2 + Datum.depth P0 < cLine) {a : Expr} {pos p : Pos} {Dd : Dic X.w β} (ha : ED X σ H a Dd) (hs : Srtb (Dd.kvs.map (·.1))) (hz : Dd.kvs.length ≤ 10000000) (hg : Gl X "sorted") (hm : X.mg "sorted" = none) (he : starEach [a] X.env = [(false, eval a X.env)] := by rfl) :
    EL X σ H (.Call (.Name "sorted" p) [a] [] pos) (isort DatumOrd.lt (Dd.kvs.map (·.1))) := by
  have cr : CallR X (.builtin "sorted") (fun vs H Q => ∃ (v : V) (D : Dic X.w β), vs = [v] ∧ Rep.is H v D ∧ Srtb (D.kvs.map (·.1)) ∧ D.kvs.length ≤ 10000000 ∧ ∀ p ws, H p = none → AllIs H ws (isort DatumOrd.lt (D.kvs.map (·.1))) → Q (.ref p) (upd H p (.lst ws))) := by
    intro pins s σ H vs us Q I r h
    obtain ⟨v, D, rfl, ⟨d, rfl, ⟨xs, ep, hd, hA⟩, hn, hns⟩, hs, hz, q⟩ := h
    obtain ⟨u, rfl, rx⟩ := vals1 r
    cases rx
    obtain ⟨⟨ys, o, es, r', e, hx, hdat, he⟩, _⟩ := I.hok d _ hd
    have l1 : es.size = ys.length := by rw [← Array.length_toList, he, List.length_map]
    have l2 := Paired.length r'
    have l3 := Paired.length hA
    refine sorted_end (sto_tup (sto_tup sto_int)) hu I (keys_is hA r') (vals_refs _) hs (by rw [List.length_map]; exact hz) (fun E' Q' k => ?_) q
    refine PySem.W.kdu_collect (A := X.A.in1) (kdl_raw hns hx hdat) (I.ok.hd hc) e (by rw [sizeLine_eq]; omega) fun h' tk acc kp it => ?_
    have ea := keys_items (X := X) he it
    rw [ea]
    exact k h' tk kp
  exact fun H1 e1 Q q => we_of (pe_callB cr hg hm (by decide +kernel) (pa_cons pe_we pa_nil he) (by decide) (by decide) he (by rfl)) (ha H1 e1 _ fun u H2 e2 hv => ⟨u, Dd, rfl, hv, hs, hz, fun l ws hl hA =>
    q l _ (fresh_b e2 hl) (Ex.tr e2 (Ex.new hl)) ⟨ws, upd_same, hA.up (Ex.new hl)⟩⟩)
/-- d.clear() -/
theorem w_dclear [Imm β] {D : Ends} {o : Expr} {apos cpos pos : Pos} (ho : ED X σ H o (Adr.mk d)) (hD : DAt X.w H d kvs) (hz : kvs.length ≤ 10000000) (k' : ∀ H1, Mx [d] H H1 → DAt X.w H1 d ([] : List (P0 × β)) → D.nx σ H1)
    (hs : swapsWith (.Call (.Attribute o "clear" apos) [] [] cpos) none pos.line X.env = pure false := by rfl) (hbase : attributeBase o "clear" X.env (eval o X.env) = eval o X.env := by rfl) (hline : (apos.endLine == cpos.line) = true := by rfl) : wst X (.Expr (.Call (.Attribute o "clear" apos) [] [] cpos) pos) D σ H := by
  have pe : PE X (.Call (.Attribute o "clear" apos) [] [] cpos) (fun σ H Q => we X o σ H fun v H2 => ∃ (d : Addr) (kvs : List (P0 × β)), v = .ref d ∧ DAt X.w H2 d kvs ∧ kvs.length ≤ 10000000 ∧ ∀ u, Mx [d] H2 (upd H2 d u) → DAt X.w (upd H2 d u) d ([] : List (P0 × β)) → Q .non (upd H2 d u)) := by
    refine ⟨fun pins s σ H Q I h => ?_⟩
    refine wpAny_Call_method0_late hbase hline (thn (h pins s I) fun v s1 ⟨x, H1, I1, r1, d, kvs, ex, hD, hz, q⟩ => ?_)
    subst ex
    cases r1
    obtain ⟨t1, t2⟩ := dat_type I1 hD
    refine ⟨"dict", "dict.clear", PySem.F.plainAttrs_dict, PySem.F.slot_dict_clear, PySem.F.type_dict_clear, t1, t2, Calls.callWith_builtin rfl (PySem.evalArgs_none ?_)⟩
    obtain ⟨⟨xs, ep, hd, hA⟩, hn, hns⟩ := hD
    obtain ⟨ys, r, D⟩ := dat_of I1 hd hA hn
    have l1 := Paired.length r
    have l2 := Paired.length hA
    refine clear_keyed (kvs := pairsH ys) ⟨ys, D, rfl⟩ (fun h' hD' sb => ?_) (by rw [pairsH_length, ← l1, l2, sizeLine_eq]; omega)
    obtain ⟨zs, D', e⟩ := hD'
    have ez : zs = [] := by
      have := congrArg List.length e
      rw [pairsH_length] at this
      exact List.eq_nil_of_length_eq_zero (by simpa using this)
    subst ez
    obtain ⟨ep', I'⟩ := dic_upd (tk' := s1.toks) (xs' := []) I1 hd .nil D' sb
    refine ⟨.non, _, I', rfl, q _ (Mx.updO hd (fun f => f) rfl dic_nc) ⟨⟨[], ep', upd_same, .nil⟩, List.nodup_nil, hns⟩⟩
  refine wst_of (ps_expr pe hs) (ho H (Ex.rf _) _ fun v H2 e2 hv => ⟨d, kvs, hv, hD.up e2, hz, fun u m D' => k' _ (Mx.ofE e2 m) D'⟩)
/-- isinstance(d, T) -/
theorem ed_isiD {a : Expr} {n : Str} {TT : String} {pos p p2 : Pos} {b : Bool} {Dd : Dic X.w β} (ha : ED X σ H a Dd) (hk : PySem.W.kitOne X.K (.type "dict") (.type TT) = some b) (hg : Gl X "isinstance") (hm : X.mg "isinstance" = none)
    (hg2 : Gl X n) (hm2 : X.mg n = none) (hv2 : bootBuiltins n = some (.type TT)) (hn2 : n ≠ "__name__" := by decide) (hdb2 : (n == ("__debug__" : Str)) = false := by decide)
    (he : starEach [a, .Name n p2] X.env = (false, eval a X.env) :: starEach [.Name n p2] X.env := by rfl) (he2 : starEach [.Name n p2] X.env = [(false, eval (.Name n p2) X.env)] := by rfl) :
    ED X σ H (.Call (.Name "isinstance" p) [a, .Name n p2] [] pos) b := by
  have cr : CallR X (.builtin "isinstance") (fun vs H Q => ∃ (v : V) (D : Dic X.w β), vs = [v, .ty TT] ∧ Rep.is H v D ∧ Q (.bl b) H) := by
    intro pins s σ H vs us Q I r h
    obtain ⟨v, D, rfl, ⟨d, rfl, hD⟩, q⟩ := h
    obtain ⟨u1, u2, rfl, r1, r2⟩ := vals2 r
    cases r1
    cases r2
    obtain ⟨ob, t1, t2⟩ := (dat_type I hD).1
    exact PySem.W.kia_one PySem.W.kitx_dict I.kIn ⟨ob, t1, t2⟩ hk (fun z => nomatch z) fun tk => ⟨.bl b, H, I.tok tk, rfl, q⟩
  exact fun H1 e1 Q q => we_of (pe_callB cr hg hm (by decide +kernel) (pa_cons pe_we (pa_cons (pe_bltn (v := .ty TT) hg2 hm2 hv2 rfl hn2 hdb2) pa_nil he2) he) (by decide) (by decide) he (by rw [he2] <;> rfl)) (ha H1 e1 _ fun u H2 e2 hu => ⟨u, Dd, rfl, hu, q _ H2 e2 rfl⟩)
/-- for k in d -/
def ItD (w : World) (d : Addr) (xs : Xs) (ep : Nat) : It := ⟨fun i H => H d = some (DicO w d xs ep) ∧ i < xs.length, fun i H v H' => H' = H ∧ ∃ q, xs[i]? = some q ∧ v = .ref q.2.1, fun i H => H d = some (DicO w d xs ep) ∧ xs.length ≤ i⟩
theorem turn_dic {P : Program} {w : World} {K : PySem.W.Frag} {tg : Expr} {xs : Xs} {ep : Nat} (it d : Addr) : Turn P w K tg (ItD w d xs ep) [it] it (fun i h => h.IsKeyIter it d i xs.length ep) where
  mem := by simp
  obj := fun i h st b hb => by
    have e : b = it := by simpa using hb
    subst e
    obtain ⟨oi, e, c, dd⟩ := st
    exact ⟨oi, e, fun v z => by rw [dd] at z; cases z⟩
  keep := fun i h h' st k => st.at fun oi e => k it (by simp) oi e
  item := by
    intro X hP hw hK hc i pins s σ H E I hf st hg
    subst hP hw hK
    obtain ⟨hd, hi⟩ := hg
    obtain ⟨f0, f1, f2, f3, f4, f5⟩ := hf it (by simp)
    obtain ⟨⟨ys, o, es, r', e, hx, hdat, he⟩, _⟩ := I.hok d _ hd
    have l1 : es.size = ys.length := by rw [← Array.length_toList, he, List.length_map]
    have l2 := Paired.length r'
    have hq : xs[i]? = some xs[i] := List.getElem?_eq_getElem hi
    obtain ⟨y, hy, rq⟩ := pget r' hq
    have hen : es[i]? = some (ent X.w y) := by rw [← Array.getElem?_toList, he, List.getElem?_map, hy]; rfl
    refine next_key_item st e hdat (by omega) hen fun h' st' sb => ?_
    have I1 : Inv X pins σ H { s with heap := h' } := I.turned (t' := s.toks) (fun b ob hb e => (sb.2 b hb).trans e) f0 f1 f3 f4 f5
    obtain ⟨oi, e', c, dd⟩ := id st'
    exact ⟨(ent X.w y).key, rfl, go_of (s := { s with heap := h' }) e' c dd (by decide) ⟨.ref xs[i].2.1, H, I1, (by show Value.ref _ = Value.ref _; rw [rq.2.1]), ⟨rfl, _, hq, rfl⟩, st', fun b hb => (hf b hb).1⟩⟩
  done := by
    intro X hP hw hK hc i pins s σ H E I hf st hg
    subst hP hw hK
    obtain ⟨hd, hi⟩ := hg
    obtain ⟨f0, f1, f2, f3, f4, f5⟩ := hf it (by simp)
    obtain ⟨⟨ys, o, es, r', e, hx, hdat, he⟩, _⟩ := I.hok d _ hd
    have l1 : es.size = ys.length := by rw [← Array.length_toList, he, List.length_map]
    have l2 := Paired.length r'
    exact next_key_end (I.ok.hd hc) st e hdat (by omega) hi fun h' eb => ⟨rfl, I.turned (t' := s.toks) (fun b ob hb e => eb b ob hb e) f0 f1 f3 f4 f5⟩
  self := fun A i s Q E st h => by
    refine wpAny_pyIter_slot st.typeIs PySem.F.slot_dict_keyiterator_iter (wpAny_call_entry PySem.F.slot_dict_keyiterator_iter st.typeIs PySem.F.entry_dict_keyiterator_iter ?_ (PySem.F.args_dict_keyiterator_iter_1 _))
    show wpAny _ _ (ret (.ref it)) _ _ s
    exact wpAny_pure ⟨_, rfl, "dict_keyiterator", _, st.typeIs, PySem.F.slot_dict_keyiterator_next.lookup, h⟩
theorem src_d {l tg : Expr} {Dd : Dic X.w β} (h : ED X σ H l Dd) : Src X σ H [] tg l (Dd.kvs.map (·.1)) := by
  refine ⟨fun σ H R => we X l σ H fun v H2 => ∃ (d : Addr) (xs : Xs) (ep : Nat), v = .ref d ∧ (d == sysModules) = false ∧ H2 d = some (DicO X.w d xs ep) ∧ R (ItD X.w d xs ep) H2, ⟨fun pins s σ H R I hw => ?_⟩, fun H1 e1 R q => h H1 e1 _ fun v H2 e2 ⟨d, hv, ⟨xs, ep, hd, hA⟩, hn, hns⟩ => ⟨d, xs, ep, hv, hns, hd, q _ H2 e2 ?_⟩⟩
  · refine thn (hw pins s I) fun u s1 ⟨x, H1, I1, rx, d, xs, ep, ex, hns, hd, q⟩ => ?_
    subst ex
    cases rx
    obtain ⟨⟨ys, o, es, r', e, hx, hdat, he⟩, _⟩ := I1.hok d _ hd
    have l1 : es.size = ys.length := by rw [← Array.length_toList, he, List.length_map]
    have l2 := Paired.length r'
    refine iter_keys hns e hx hdat (pi_one (tk := s1.toks) I1 _ (turn_dic _ d) ⟨_, Heap.get?_push_size _ rfl, rfl, ?_⟩ q)
    rw [l1, l2] <;> rfl
  · have l3 := Paired.length hA
    refine ⟨fun H' i m hi => ⟨m.nil d _ hd, by rw [List.length_map] at hi; omega⟩, fun H' m => ⟨m.nil d _ hd, by rw [List.length_map]; omega⟩, fun H' i v H'' m y => ?_⟩
    obtain ⟨e, q, hq, ev⟩ := y
    subst e ev
    refine ⟨Ex.rf _, fun x hx => ?_⟩
    obtain ⟨p, hp, r1, r2, _⟩ := pget hA hq
    rw [List.getElem?_map, hp] at hx
    cases hx
    exact Rep.up m.nil r2
end
end Oa
set_option Elab.async false
set_option linter.all false
set_option maxRecDepth 100000
namespace Oa
open PySem PySem.Spec PyProof.Rows L2
abbrev N_is_integer : List Str := ["thing"]
theorem sc_is_integer : FnScope N_is_integer ["thing"] (defScope S_is_integer) := ⟨rfl, rfl, rfl, by decide +kernel, rfl, by decide +kernel, by decide +kernel⟩
abbrev N_is_between : List Str := ["thing", "least", "most"]
theorem sc_is_between : FnScope N_is_between ["thing", "least", "most"] (defScope S_is_between) := ⟨rfl, rfl, rfl, by decide +kernel, rfl, by decide +kernel, by decide +kernel⟩
abbrev N_check_number : List Str := ["thing", "least", "most"]
theorem sc_check_number : FnScope N_check_number ["thing", "least", "most"] (defScope S_check_number) := ⟨rfl, rfl, rfl, by decide +kernel, rfl, by decide +kernel, by decide +kernel⟩
abbrev N_divisor : List Str := ["one", "other"]
theorem sc_divisor : FnScope N_divisor ["one", "other"] (defScope S_divisor) := ⟨rfl, rfl, rfl, by decide +kernel, rfl, by decide +kernel, by decide +kernel⟩
abbrev N_parting : List Str := ["number", "part"]
theorem sc_parting : FnScope N_parting ["number"] (defScope S_parting) := ⟨rfl, rfl, rfl, by decide +kernel, rfl, by decide +kernel, by decide +kernel⟩
abbrev N_falling : List Str := ["things"]
theorem sc_falling : FnScope N_falling ["things"] (defScope S_falling) := ⟨rfl, rfl, rfl, by decide +kernel, rfl, by decide +kernel, by decide +kernel⟩
abbrev N_joined : List Str := ["rows", "found", "row", "depth"]
theorem sc_joined : FnScope N_joined ["rows"] (defScope S_joined) := ⟨rfl, rfl, rfl, by decide +kernel, rfl, by decide +kernel, by decide +kernel⟩
abbrev N_first_turn : List Str := ["row", "best", "turn"]
theorem sc_first_turn : FnScope N_first_turn ["row"] (defScope S_first_turn) := ⟨rfl, rfl, rfl, by decide +kernel, rfl, by decide +kernel, by decide +kernel⟩
abbrev N_size_of : List Str := ["row", "tree"]
theorem sc_size_of : FnScope N_size_of ["row"] (defScope S_size_of) := ⟨rfl, rfl, rfl, by decide +kernel, rfl, by decide +kernel, by decide +kernel⟩
abbrev N_turned_least : List Str := ["row", "turn"]
theorem sc_turned_least : FnScope N_turned_least ["row"] (defScope S_turned_least) := ⟨rfl, rfl, rfl, by decide +kernel, rfl, by decide +kernel, by decide +kernel⟩
abbrev N_from_kinds : List Str := ["kinds", "most", "found", "sums", "size", "times", "total", "part"]
theorem sc_from_kinds : FnScope N_from_kinds ["kinds", "most"] (defScope S_from_kinds) := ⟨rfl, rfl, rfl, by decide +kernel, rfl, by decide +kernel, by decide +kernel⟩
abbrev N_tree_counts : List Str := ["most", "kinds", "size"]
theorem sc_tree_counts : FnScope N_tree_counts ["most"] (defScope S_tree_counts) := ⟨rfl, rfl, rfl, by decide +kernel, rfl, by decide +kernel, by decide +kernel⟩
abbrev N_convolved : List Str := ["one", "other", "most", "found", "at", "number", "there"]
theorem sc_convolved : FnScope N_convolved ["one", "other", "most"] (defScope S_convolved) := ⟨rfl, rfl, rfl, by decide +kernel, rfl, by decide +kernel, by decide +kernel⟩
abbrev N_all_row_counts : List Str := ["trees", "most", "found", "_"]
theorem sc_all_row_counts : FnScope N_all_row_counts ["trees", "most"] (defScope S_all_row_counts) := ⟨rfl, rfl, rfl, by decide +kernel, rfl, by decide +kernel, by decide +kernel⟩
abbrev N_spread_out : List Str := ["row", "step", "most", "found", "at"]
theorem sc_spread_out : FnScope N_spread_out ["row", "step", "most"] (defScope S_spread_out) := ⟨rfl, rfl, rfl, by decide +kernel, rfl, by decide +kernel, by decide +kernel⟩
abbrev N_coprime_many : List Str := ["number", "other"]
theorem sc_coprime_many : FnScope N_coprime_many ["number"] (defScope S_coprime_many) := ⟨rfl, rfl, rfl, by decide +kernel, rfl, by decide +kernel, by decide +kernel⟩
abbrev N_piece_counts : List Str := ["rows_many", "ring", "most", "found", "part", "rows", "size", "number"]
theorem sc_piece_counts : FnScope N_piece_counts ["rows_many", "ring", "most"] (defScope S_piece_counts) := ⟨rfl, rfl, rfl, by decide +kernel, rfl, by decide +kernel, by decide +kernel⟩
abbrev N_heaps_many : List Str := ["number", "rows_many", "kinds", "ring", "size", "many"]
theorem sc_heaps_many : FnScope N_heaps_many ["number"] (defScope S_heaps_many) := ⟨rfl, rfl, rfl, by decide +kernel, rfl, by decide +kernel, by decide +kernel⟩
abbrev N_lots_of : List Str := ["things", "number", "found", "at", "size", "thing", "rest"]
theorem sc_lots_of : FnScope N_lots_of ["things", "number"] (defScope S_lots_of) := ⟨rfl, rfl, rfl, by decide +kernel, rfl, by decide +kernel, by decide +kernel⟩
abbrev N_trees_of_size : List Str := ["number", "known", "size", "falling", "rows", "tree"]
theorem sc_trees_of_size : FnScope N_trees_of_size ["number"] (defScope S_trees_of_size) := ⟨rfl, rfl, rfl, by decide +kernel, rfl, by decide +kernel, by decide +kernel⟩
abbrev N_rows_of_size : List Str := ["trees", "ring", "number", "found", "size", "tree", "rest"]
theorem sc_rows_of_size : FnScope N_rows_of_size ["trees", "ring", "number"] (defScope S_rows_of_size) := ⟨rfl, rfl, rfl, by decide +kernel, rfl, by decide +kernel, by decide +kernel⟩
abbrev N_pieces_of_size : List Str := ["number", "trees", "size", "found", "ring", "row", "tree"]
theorem sc_pieces_of_size : FnScope N_pieces_of_size ["number"] (defScope S_pieces_of_size) := ⟨rfl, rfl, rfl, by decide +kernel, rfl, by decide +kernel, by decide +kernel⟩
abbrev N_rows_of_pieces : List Str := ["number", "pieces", "size", "falling", "piece"]
theorem sc_rows_of_pieces : FnScope N_rows_of_pieces ["number"] (defScope S_rows_of_pieces) := ⟨rfl, rfl, rfl, by decide +kernel, rfl, by decide +kernel, by decide +kernel⟩
abbrev N_heaps_of_size : List Str := ["number", "found", "row", "heap", "piece"]
theorem sc_heaps_of_size : FnScope N_heaps_of_size ["number"] (defScope S_heaps_of_size) := ⟨rfl, rfl, rfl, by decide +kernel, rfl, by decide +kernel, by decide +kernel⟩
abbrev N_all_heaps : List Str := ["number"]
theorem sc_all_heaps : FnScope N_all_heaps ["number"] (defScope S_all_heaps) := ⟨rfl, rfl, rfl, by decide +kernel, rfl, by decide +kernel, by decide +kernel⟩
abbrev N_tests_to : List Str := ["most", "found", "size"]
theorem sc_tests_to : FnScope N_tests_to ["most"] (defScope S_tests_to) := ⟨rfl, rfl, rfl, by decide +kernel, rfl, by decide +kernel, by decide +kernel⟩
abbrev N_tests : List Str := ["most"]
theorem sc_tests : FnScope N_tests ["most"] (defScope S_tests) := ⟨rfl, rfl, rfl, by decide +kernel, rfl, by decide +kernel, by decide +kernel⟩
abbrev N_l_hand : List Str := ["_law_script", "_law_cells", "_law_cell"]
theorem sc_l_hand : FnScope N_l_hand ["_law_script"] (defScope S_l_hand) := ⟨rfl, rfl, rfl, by decide +kernel, rfl, by decide +kernel, by decide +kernel⟩
abbrev N_l_draw : List Str := ["_law_hand_here", "_law_many", "_law_cell", "_law_digit", "_law_number"]
theorem sc_l_draw : FnScope N_l_draw ["_law_hand_here", "_law_many"] (defScope S_l_draw) := ⟨rfl, rfl, rfl, by decide +kernel, rfl, by decide +kernel, by decide +kernel⟩
abbrev N_l_is_integer : List Str := ["_law_thing"]
theorem sc_l_is_integer : FnScope N_l_is_integer ["_law_thing"] (defScope S_l_is_integer) := ⟨rfl, rfl, rfl, by decide +kernel, rfl, by decide +kernel, by decide +kernel⟩
abbrev N_l_shuffled : List Str := ["_law_hand_here", "_law_things", "_law_pool", "_law_found"]
theorem sc_l_shuffled : FnScope N_l_shuffled ["_law_hand_here", "_law_things"] (defScope S_l_shuffled) := ⟨rfl, rfl, rfl, by decide +kernel, rfl, by decide +kernel, by decide +kernel⟩
abbrev N_l_moved : List Str := ["_law_hand_here", "_law_arrows", "_law_number", "_law_found", "_law_place"]
theorem sc_l_moved : FnScope N_l_moved ["_law_hand_here", "_law_arrows"] (defScope S_l_moved) := ⟨rfl, rfl, rfl, by decide +kernel, rfl, by decide +kernel, by decide +kernel⟩
abbrev N_l_board : List Str := ["_law_hand_here", "_law_least_here", "_law_most", "_law_many", "_law_way", "_law_arrows", "_law_place"]
theorem sc_l_board : FnScope N_l_board ["_law_hand_here", "_law_least_here", "_law_most"] (defScope S_l_board) := ⟨rfl, rfl, rfl, by decide +kernel, rfl, by decide +kernel, by decide +kernel⟩
abbrev N_l_ring_places : List Str := ["_law_arrows", "_law_here", "_law_turn", "_law_place"]
theorem sc_l_ring_places : FnScope N_l_ring_places ["_law_arrows"] (defScope S_l_ring_places) := ⟨rfl, rfl, rfl, by decide +kernel, rfl, by decide +kernel, by decide +kernel⟩
abbrev N_l_row : List Str := ["_law_rows", "_law_found", "_law_row_here", "_law_depth"]
theorem sc_l_row : FnScope N_l_row ["_law_rows"] (defScope S_l_row) := ⟨rfl, rfl, rfl, by decide +kernel, rfl, by decide +kernel, by decide +kernel⟩
abbrev N_l_hanging : List Str := ["_law_ahead", "_law_place", "_law_other"]
theorem sc_l_hanging : FnScope N_l_hanging ["_law_ahead", "_law_place"] (defScope S_l_hanging) := ⟨rfl, rfl, rfl, by decide +kernel, rfl, by decide +kernel, by decide +kernel⟩
abbrev N_l_least : List Str := ["_law_row_here", "_law_k"]
theorem sc_l_least : FnScope N_l_least ["_law_row_here"] (defScope S_l_least) := ⟨rfl, rfl, rfl, by decide +kernel, rfl, by decide +kernel, by decide +kernel⟩
abbrev N_l_heap : List Str := ["_law_arrows", "_law_rest", "_law_ahead", "_law_place", "_law_heap_here", "_law_row_here", "_law_piece"]
theorem sc_l_heap : FnScope N_l_heap ["_law_arrows"] (defScope S_l_heap) := ⟨rfl, rfl, rfl, by decide +kernel, rfl, by decide +kernel, by decide +kernel⟩
abbrev N_l_branches : List Str := ["_law_tree", "_law_found", "_law_depth", "_law_row_here"]
theorem sc_l_branches : FnScope N_l_branches ["_law_tree"] (defScope S_l_branches) := ⟨rfl, rfl, rfl, by decide +kernel, rfl, by decide +kernel, by decide +kernel⟩
abbrev N_l_is_tree : List Str := ["_law_thing", "_law_at", "_law_rows", "_law_row_here"]
theorem sc_l_is_tree : FnScope N_l_is_tree ["_law_thing"] (defScope S_l_is_tree) := ⟨rfl, rfl, rfl, by decide +kernel, rfl, by decide +kernel, by decide +kernel⟩
abbrev N_l_is_piece : List Str := ["_law_thing", "_law_tree"]
theorem sc_l_is_piece : FnScope N_l_is_piece ["_law_thing"] (defScope S_l_is_piece) := ⟨rfl, rfl, rfl, by decide +kernel, rfl, by decide +kernel, by decide +kernel⟩
abbrev N_l_number_board : List Str := ["_law_many", "_law_number", "_law_found", "_law_place"]
theorem sc_l_number_board : FnScope N_l_number_board ["_law_many", "_law_number"] (defScope S_l_number_board) := ⟨rfl, rfl, rfl, by decide +kernel, rfl, by decide +kernel, by decide +kernel⟩
abbrev N_l_falling : List Str := ["_law_heap_here", "_law_found", "_law_piece"]
theorem sc_l_falling : FnScope N_l_falling ["_law_heap_here"] (defScope S_l_falling) := ⟨rfl, rfl, rfl, by decide +kernel, rfl, by decide +kernel, by decide +kernel⟩
abbrev N_l_is_heap : List Str := ["_law_thing", "_law_places", "_law_size", "_law_piece", "_law_tree"]
theorem sc_l_is_heap : FnScope N_l_is_heap ["_law_thing", "_law_places"] (defScope S_l_is_heap) := ⟨rfl, rfl, rfl, by decide +kernel, rfl, by decide +kernel, by decide +kernel⟩
abbrev N_l_ways : List Str := ["_law_tree", "_law_rows", "_law_found", "_law_at"]
theorem sc_l_ways : FnScope N_l_ways ["_law_tree"] (defScope S_l_ways) := ⟨rfl, rfl, rfl, by decide +kernel, rfl, by decide +kernel, by decide +kernel⟩
abbrev N_l_selves : List Str := ["_law_row_here", "_law_found", "_law_at", "_law_piece", "_law_tree", "_law_k"]
theorem sc_l_selves : FnScope N_l_selves ["_law_row_here"] (defScope S_l_selves) := ⟨rfl, rfl, rfl, by decide +kernel, rfl, by decide +kernel, by decide +kernel⟩
abbrev N_l_all_rows : List Str := ["_law_places", "_law_found", "_law_number", "_law_row_here"]
theorem sc_l_all_rows : FnScope N_l_all_rows ["_law_places"] (defScope S_l_all_rows) := ⟨rfl, rfl, rfl, by decide +kernel, rfl, by decide +kernel, by decide +kernel⟩
abbrev N_l_tests : List Str := ["_law_places", "_law_test", "_law_tree"]
theorem sc_l_tests : FnScope N_l_tests ["_law_places"] (defScope S_l_tests) := ⟨rfl, rfl, rfl, by decide +kernel, rfl, by decide +kernel, by decide +kernel⟩
abbrev N_l_word : List Str := ["_law_number", "_law_word_here"]
theorem sc_l_word : FnScope N_l_word ["_law_number"] (defScope S_l_word) := ⟨rfl, rfl, rfl, by decide +kernel, rfl, by decide +kernel, by decide +kernel⟩
abbrev N_law : List Str := ["_law_script", "_law_hand_here", "_law_places", "_law_told", "_law_rows", "_law_orders", "_law_boards", "_law_k", "_law_turn", "_law_due", "_law_bad", "_law_heap_here", "_law_one", "_law_other", "_law_row_here"]
theorem sc_law : FnScope N_law ["_law_script"] (defScope S_law) := ⟨rfl, rfl, rfl, by decide +kernel, rfl, by decide +kernel, by decide +kernel⟩
end Oa
set_option Elab.async false
set_option linter.all false
set_option maxRecDepth 100000
set_option maxHeartbeats 1000000
/-! What the defs compute, with their own checks (none: a check failed). -/
namespace Oa
open PySem.W (DatumOrd)
def ck (b : Bool) : Option Unit := if b then some () else none
def foldO {σ α : Type} (f : σ → α → Option σ) : σ → List α → Option σ
  | s, [] => some s
  | s, x :: xs => match f s x with
    | none => none
    | some s' => foldO f s' xs
def mapO {α β : Type} (f : α → Option β) : List α → Option (List β)
  | [] => some []
  | x :: xs => match f x with
    | none => none
    | some y => match mapO f xs with
      | none => none
      | some ys => some (y :: ys)
def getI {α : Type} (xs : List α) (i : Int) : Option α := if 0 ≤ i then xs[i.toNat]? else none
def setI {α : Type} (xs : List α) (i : Int) (x : α) : Option (List α) := if 0 ≤ i ∧ i.toNat < xs.length then some (xs.set i.toNat x) else none
def small (n : Int) : Bool := decide (-50000 ≤ n ∧ n ≤ 50000)
def cmul (i j : Int) : Bool := decide ((-(2 ^ 64) < i ∧ i < 2 ^ 64) ∨ (-(2 ^ 64) < j ∧ j < 2 ^ 64))
def mulO (i j : Int) : Option Int := if cmul i j then some (i * j) else none
def divO (i j : Int) : Option Int := if 0 < j ∧ j < 1073741824 then some (i / j) else none
def few {α : Type} (xs : List α) : Bool := decide (xs.length ≤ 5000000)
def srtb {α : Type} (xs : List (Tup α)) : Bool := decide (xs.length < 2) || xs.all fun t => !t.items.isEmpty
def sortO {α : Type} (lt : Tup α → Tup α → Bool) (xs : List (Tup α)) : Option (List (Tup α)) := if srtb xs && few xs then some (isort lt xs) else none

/-! checks -/
def m_div (a b : Int) : Int := (Nat.gcd a.toNat b.toNat : Nat)
def m_parting (n : Int) : Option (List Int) := if small n then some ((rng 1 (n + 1)).filter fun p => decide (n % p = 0)) else none
def m_falling (t : R0) : Option (List P0) := (sortO DatumOrd.lt t.items).map List.reverse
def fallT (t : P0) : Option (List T0) := (sortO DatumOrd.lt t.items).map List.reverse
def extO {α : Type} (acc xs : List α) : Option (List α) := if few acc && few xs then some (acc ++ xs) else none
def appO {α : Type} (acc : List α) (x : α) : Option (List α) := if few acc then some (acc ++ [x]) else none
def m_joined (t : P0) : Option T0 := do
  let rows ← fallT t
  let f ← foldO (fun acc (r : T0) => extO acc (r.items.map (· + 1))) [0] rows
  some ⟨f⟩
def rot {α : Type} (t : Tup α) (k : Int) : Tup α := ⟨t.items.drop k.toNat ++ t.items.take k.toNat⟩
def m_first (row : P0) : Int := (rng 1 row.items.length).foldl (fun best turn => if DatumOrd.lt (rot row turn) (rot row best) then turn else best) 0
def m_turned (row : P0) : P0 := rot row (m_first row)
def m_size (row : P0) : Int := (row.items.map fun t => (t.items.length : Int)).sum

/-! numbers -/
def m_kinds (kinds : List Int) (most : Int) : Option (List Int) := do
  let _ ← ck (small most && decide (0 ≤ most))
  let sums ← foldO (fun sums size => foldO (fun sums times => do
      let k ← getI kinds size
      let m ← mulO size k
      let i ← mulO size times
      let z ← getI sums i
      setI sums i (z + m)) sums (rng 1 (most / size + 1))) (List.replicate (most + 1).toNat 0) (rng 1 (most + 1))
  foldO (fun found size => do
      let ts ← mapO (fun part => do
        let s ← getI sums part
        let f ← getI found (size - part)
        mulO s f) (rng 1 (size + 1))
      setI found size (ts.sum / size)) (1 :: List.replicate most.toNat 0) (rng 1 (most + 1))
def m_trees (most : Int) : Option (List Int) := do
  let _ ← ck (small most && decide (0 ≤ most))
  foldO (fun kinds size => do
    let ks ← m_kinds kinds (size - 1)
    let k ← getI ks (size - 1)
    setI kinds size k) (List.replicate (most + 1).toNat 0) (rng 1 (most + 1))
def enumI {α : Type} (xs : List α) : List (Int × α) := (List.range xs.length).zipWith (fun i x => (((i : Nat) : Int), x)) xs
def m_conv (one other : List Int) (most : Int) : Option (List Int) := do
  let _ ← ck (small most && decide (0 ≤ most))
  foldO (fun found (p : Int × Int) => if p.2 > 0 then do
      let _ ← ck (small p.1)
      foldO (fun found there => do
        let o ← getI other there
        let m ← mulO p.2 o
        let z ← getI found (p.1 + there)
        setI found (p.1 + there) (z + m)) found (rng 0 (most + 1 - p.1))
    else some found) (List.replicate (most + 1).toNat 0) (enumI one)
def lastO {α : Type} (xs : List α) : Option α := if xs.length = 0 then none else xs[xs.length - 1]?
def m_rowcounts (trees : List Int) (most : Int) : Option (List (List Int)) := do
  let _ ← ck (small most && decide (0 ≤ most))
  foldO (fun found _ => do
    let l ← lastO found
    let c ← m_conv l trees most
    appO found c) [1 :: List.replicate most.toNat 0] (rng 0 most)
def m_spread (row : List Int) (step most : Int) : Option (List Int) := do
  let _ ← ck (small most && decide (0 ≤ most) && decide (0 < step) && small step)
  foldO (fun found at' => do
    let i ← mulO at' step
    let r ← getI row at'
    setI found i r) (List.replicate (most + 1).toNat 0) (rng 0 (most / step + 1))
def m_coprime (n : Int) : Option Int := if small n && decide (0 ≤ n) then some ((((rng 1 (n + 1)).filter fun o => decide (m_div n o = 1)).map fun _ => (1 : Int)).length : Int) else none
def m_pieces (rows : List (List Int)) (ring most : Int) : Option (List Int) := do
  let _ ← ck (small most && decide (0 ≤ most) && small ring && decide (0 < ring))
  let ps ← m_parting ring
  let found ← foldO (fun found part => do
    let d ← divO ring part
    let r ← getI rows d
    let rs ← m_spread r part most
    foldO (fun found size => do
      let c ← m_coprime part
      let x ← getI rs size
      let m ← mulO c x
      let z ← getI found size
      setI found size (z + m)) found (rng 0 (most + 1))) (List.replicate (most + 1).toNat 0) ps
  let _ ← ck (few found)
  mapO (fun number => divO number ring) found
def m_many (n : Int) : Option Int := do
  let _ ← ck (decide (0 ≤ n ∧ n ≤ 120))
  let t ← m_trees n
  let rows ← m_rowcounts t n
  let kinds ← foldO (fun kinds ring => do
    let pc ← m_pieces rows ring n
    foldO (fun kinds (p : Int × Int) => do
      let z ← getI kinds p.1
      setI kinds p.1 (z + p.2)) kinds (enumI pc)) (List.replicate (n + 1).toNat 0) (rng 1 (n + 1))
  let f ← m_kinds kinds n
  getI f n

/-! lists -/
def m_lots {α : Type} : Nat → List (Int × α) → Int → Option (List (Tup α))
  | 0, _, _ => none
  | k + 1, things, n => if n = 0 then some [⟨[]⟩] else
    foldO (fun found (p : Int × (Int × α)) => if p.2.1 ≤ n then do
        let rest ← m_lots k (things.drop p.1.toNat) (n - p.2.1)
        let _ ← ck (few rest && rest.all fun r => few r.items)
        extO found (rest.map fun r => ⟨p.2.2 :: r.items⟩)
      else some found) [] (enumI things)
def keyed (known : List (Int × T0)) : Option (List (Int × T0)) :=
  if few known && known.all (fun p => decide (p.1 = (p.2.items.length : Int)) && !p.2.items.isEmpty) then some ((isort DatumOrd.lt (known.map (·.2))).map fun t => ((t.items.length : Int), t)) else none
def m_treesOf (n : Int) : Option (List T0) := do
  let _ ← ck (small n)
  let known ← foldO (fun known size => do
    let f ← keyed known
    let ls ← m_lots 9 f.reverse (size - 1)
    let _ ← ck (few ls)
    let js ← mapO m_joined ls
    extO known (js.map fun j => (size, j))) [] (rng 1 (n + 1))
  let _ ← ck (few known)
  sortO DatumOrd.lt ((known.filter fun p => decide (p.1 = n)).map (·.2))
def m_rowsOf : Nat → List (Int × T0) → Int → Int → Option (List P0)
  | 0, _, _, _ => none
  | k + 1, trees, ring, n => if ring = 0 then some (List.replicate (if n = 0 then 1 else 0) ⟨[]⟩) else
    foldO (fun found (p : Int × T0) => if p.1 + ring - 1 ≤ n then do
        let rest ← m_rowsOf k trees (ring - 1) (n - p.1)
        let _ ← ck (few rest && rest.all fun r => few r.items)
        extO found (rest.map fun r => ⟨p.2 :: r.items⟩)
      else some found) [] trees
def m_piecesOf (n : Int) : Option (List P0) := do
  let _ ← ck (small n)
  let trees ← foldO (fun trees size => do
    let ts ← m_treesOf size
    let _ ← ck (few ts)
    extO trees (ts.map fun t => (size, t))) [] (rng 1 (n + 1))
  let found ← foldO (fun found ring => do
    let rows ← m_rowsOf 9 trees ring n
    foldO (fun found row => do
      let _ ← ck (few found && few row.items && decide (row.items.length < 100000))
      some (putD found (m_turned row) true)) found rows) ([] : List (P0 × Bool)) (rng 1 (n + 1))
  let _ ← ck (few found)
  sortO DatumOrd.lt (found.map (·.1))
def m_rowsOfPieces (n : Int) : Option (List R0) := do
  let _ ← ck (small n)
  let pieces ← foldO (fun pieces size => do
    let ps ← m_piecesOf size
    extO pieces ps) [] (rng 1 (n + 1))
  let s ← sortO DatumOrd.lt pieces
  let _ ← ck (s.all fun p => few p.items)
  let ls ← m_lots 9 (s.reverse.map fun p => (m_size p, p)) n
  sortO DatumOrd.lt ls
abbrev Kvs := List (P0 × Int)
def m_count (row : R0) : Option Kvs := foldO (fun h p => do
  let _ ← ck (few h)
  some (putD h p ((lookD h p).getD 0 + 1))) [] row.items
def m_heapsOf (n : Int) : Option (List Kvs) := do
  let rows ← m_rowsOfPieces n
  foldO (fun found row => do
    let h ← m_count row
    appO found h) [] rows
def m_allHeaps (n : Int) : Option (List Kvs) := do
  let _ ← ck (decide (0 ≤ n ∧ n ≤ 7))
  m_heapsOf n
def m_testsTo (n : Int) : Option (List P0) := if 0 ≤ n ∧ n ≤ 7 then foldO (fun found size => do
    let ps ← m_piecesOf size
    extO found ps) [] (rng 1 (n + 1)) else none
end Oa
set_option Elab.async false
set_option linter.all false
set_option maxRecDepth 100000
set_option maxHeartbeats 1000000
namespace Oa
open PySem PySem.Spec PyProof.Rows L2
/-! ### the mirrors' words -/
theorem bs {α β : Type} {o : Option α} {f : α → Option β} {z : β} (h : (o >>= f) = some z) : ∃ a, o = some a ∧ f a = some z := by
  cases o with
  | none => cases h
  | some a => exact ⟨a, rfl, h⟩
theorem ck_t {b : Bool} {u : Unit} (h : ck b = some u) : b = true := by
  unfold ck at h
  split at h
  · assumption
  · cases h
theorem if_t {α : Type} {c : Prop} [Decidable c] {a b : α} (h : (if c then some a else none) = some b) : c ∧ a = b := by
  split at h
  · exact ⟨by assumption, Option.some.inj h⟩
  · cases h
theorem foldO_take {σ α : Type} {f : σ → α → Option σ} : ∀ {xs : List α} {s s1 : σ}, foldO f s xs = some s1 → ∀ i, i ≤ xs.length → ∃ t, foldO f s (xs.take i) = some t ∧ (i = xs.length → t = s1) ∧ ∀ x, xs[i]? = some x → ∃ t2, f t x = some t2 ∧ foldO f s (xs.take (i + 1)) = some t2
  | [], s, s1, h, i, hi => by
    have : i = 0 := by simpa using hi
    subst this
    exact ⟨s, rfl, fun _ => Option.some.inj h, fun x hx => by simp at hx⟩
  | x :: xs, s, s1, h, 0, hi => by
    refine ⟨s, rfl, fun e => by simp at e, fun y hy => ?_⟩
    simp only [List.getElem?_cons_zero, Option.some.injEq] at hy
    subst hy
    unfold foldO at h
    cases q : f s x with
    | none => rw [q] at h; cases h
    | some s' =>
      refine ⟨s', rfl, ?_⟩
      show foldO f s [x] = some s'
      unfold foldO
      rw [q] <;> rfl
  | x :: xs, s, s1, h, i + 1, hi => by
    unfold foldO at h
    cases q : f s x with
    | none => rw [q] at h; cases h
    | some s' =>
      rw [q] at h
      obtain ⟨t, h1, h2, h3⟩ := foldO_take (f := f) (xs := xs) (s := s') (s1 := s1) h i (by simpa using hi)
      have e : ∀ j, foldO f s ((x :: xs).take (j + 1)) = foldO f s' (xs.take j) := fun j => by
        rw [List.take_succ_cons]
        conv => lhs; unfold foldO
        rw [q]
      refine ⟨t, by rw [e]; exact h1, fun z => h2 (by simpa using z), fun y hy => ?_⟩
      rw [List.getElem?_cons_succ] at hy
      obtain ⟨t2, k1, k2⟩ := h3 y hy
      exact ⟨t2, k1, by rw [e]; exact k2⟩
theorem mapO_map {α β : Type} [Inhabited β] {g : α → Option β} : ∀ {xs : List α} {ys : List β}, mapO g xs = some ys → ys = xs.map (fun x => (g x).getD default) ∧ ∀ x ∈ xs, g x = some ((g x).getD default)
  | [], ys, h => by
    cases h
    exact ⟨rfl, fun x hx => by simp at hx⟩
  | x :: xs, ys, h => by
    unfold mapO at h
    cases q : g x with
    | none => rw [q] at h; cases h
    | some y =>
      rw [q] at h
      cases r : mapO g xs with
      | none => rw [r] at h; cases h
      | some zs =>
        rw [r] at h
        cases h
        obtain ⟨h1, h2⟩ := mapO_map r
        refine ⟨by rw [List.map_cons, q, ← h1] <;> rfl, fun z hz => ?_⟩
        rcases List.mem_cons.mp hz with e | hz
        · subst e
          rw [q] <;> rfl
        · exact h2 z hz
instance {α : Type} : Inhabited (Tup α) := ⟨⟨[]⟩⟩
theorem foldl_O {σ α : Type} (f : σ → α → σ) : ∀ (xs : List α) (s : σ), foldO (fun s x => some (f s x)) s xs = some (xs.foldl f s)
  | [], s => rfl
  | x :: xs, s => foldl_O f xs (f s x)
theorem getI_at {α : Type} [Rep α] {xs : List α} {i : Int} {x : α} (h : getI xs i = some x) : atI xs i = some x := by
  unfold getI at h
  split at h
  · exact at_int (by assumption) h
  · cases h
theorem getI_nat {α : Type} {xs : List α} {i : Int} {x : α} (h : getI xs i = some x) : ∃ j : Nat, i = (j : Int) ∧ xs[j]? = some x ∧ j < xs.length := by
  unfold getI at h
  split at h
  · exact ⟨i.toNat, by omega, h, (List.getElem?_eq_some_iff.mp h).1⟩
  · cases h
theorem setI_nat {α : Type} {xs ys : List α} {i : Int} {x : α} (h : setI xs i x = some ys) : ∃ j : Nat, i = (j : Int) ∧ j < xs.length ∧ ys = xs.set j x := by
  unfold setI at h
  obtain ⟨⟨h1, h2⟩, e⟩ := if_t h
  exact ⟨i.toNat, by omega, h2, e.symm⟩
theorem mulO_is {i j z : Int} (h : mulO i j = some z) : CMul i j ∧ i * j = z := by
  unfold mulO at h
  split at h
  · rename_i h1
    unfold cmul at h1
    have h2 := of_decide_eq_true h1
    exact ⟨h2, Option.some.inj h⟩
  · cases h
theorem divO_is {i j z : Int} (h : divO i j = some z) : CDiv i j ∧ i / j = z := by
  unfold divO at h
  split at h
  · rename_i h1
    exact ⟨h1, Option.some.inj h⟩
  · cases h
theorem small_is {n : Int} (h : small n = true) : -50000 ≤ n ∧ n ≤ 50000 := of_decide_eq_true h
theorem few_is {α : Type} {xs : List α} (h : few xs = true) : xs.length ≤ 5000000 := of_decide_eq_true h
theorem lastO_is {α : Type} {xs : List α} {x : α} (h : lastO xs = some x) : atI xs (-1) = some x ∧ xs[xs.length - 1]? = some x ∧ 0 < xs.length := by
  unfold lastO at h
  split at h
  · cases h
  · rename_i hn
    refine ⟨?_, h, by omega⟩
    unfold atI ixN
    rw [if_neg (by decide), if_pos (by omega), show ((-1 + (xs.length : Int)).toNat) = xs.length - 1 by omega]
    exact h
theorem extO_is {α : Type} {xs ys zs : List α} (h : extO xs ys = some zs) : few xs = true ∧ few ys = true ∧ xs ++ ys = zs := by
  obtain ⟨h1, h2⟩ := if_t h
  rw [Bool.and_eq_true] at h1
  exact ⟨h1.1, h1.2, h2⟩
theorem appO_is {α : Type} {xs zs : List α} {y : α} (h : appO xs y = some zs) : few xs = true ∧ xs ++ [y] = zs := if_t h
theorem srtb_is {α : Type} [DecidableEq α] [Rep α] [Dat α] {xs : List (Tup α)} (h : srtb xs = true) : Srtb xs := by
  unfold srtb at h
  rw [Bool.or_eq_true] at h
  rcases h with h | h
  · exact .inl (of_decide_eq_true h)
  · refine .inr (.inl fun d hd => ?_)
    obtain ⟨t, ht, e⟩ := List.mem_map.mp hd
    have := List.all_eq_true.mp h t ht
    obtain ⟨l⟩ := t
    cases l with
    | nil => simp at this
    | cons x r => exact ⟨_, _, e.symm⟩
theorem sortO_is {α : Type} [DecidableEq α] [Rep α] [Dat α] {lt : Tup α → Tup α → Bool} {xs ys : List (Tup α)} (h : sortO lt xs = some ys) : Srtb xs ∧ xs.length ≤ 5000000 ∧ isort lt xs = ys := by
  obtain ⟨h1, h2⟩ := if_t h
  rw [Bool.and_eq_true] at h1
  exact ⟨srtb_is h1.1, few_is h1.2, h2⟩
theorem sto0 : Sto (PySem.W.DatumOrd.lt : T0 → T0 → Bool) := sto_tup sto_int
theorem sto1 : Sto (PySem.W.DatumOrd.lt : P0 → P0 → Bool) := sto_tup sto0
theorem sto2 : Sto (PySem.W.DatumOrd.lt : R0 → R0 → Bool) := sto_tup sto1

/-! ### promises by a mirror -/
section
variable {α β γ δ : Type} [Rep α] [Rep β] [Rep γ] [Rep δ]
def O1 (f : α → Option δ) (R : δ → Hp → V → Hp → Prop) : Sp := fun vs H Q _ => ∃ v x z, vs = [v] ∧ Rep.is H v x ∧ f x = some z ∧ ∀ w H', Ex H H' → R z H w H' → Q w H'
def O2 (f : α → β → Option δ) (R : δ → Hp → V → Hp → Prop) : Sp := fun vs H Q _ => ∃ v x u y z, vs = [v, u] ∧ Rep.is H v x ∧ Rep.is H u y ∧ f x y = some z ∧ ∀ w H', Ex H H' → R z H w H' → Q w H'
def O3 (f : α → β → γ → Option δ) (R : δ → Hp → V → Hp → Prop) : Sp := fun vs H Q _ => ∃ v x u y t r z, vs = [v, u, t] ∧ Rep.is H v x ∧ Rep.is H u y ∧ Rep.is H t r ∧ f x y r = some z ∧ ∀ w H', Ex H H' → R z H w H' → Q w H'
theorem O1.len {f : α → Option δ} {R : δ → Hp → V → Hp → Prop} (vs H Q E) (h : O1 f R vs H Q E) : vs.length = 1 := by
  obtain ⟨_, _, _, rfl, _⟩ := h
  rfl
theorem O2.len {f : α → β → Option δ} {R : δ → Hp → V → Hp → Prop} (vs H Q E) (h : O2 f R vs H Q E) : vs.length = 2 := by
  obtain ⟨_, _, _, _, _, rfl, _⟩ := h
  rfl
theorem O3.len {f : α → β → γ → Option δ} {R : δ → Hp → V → Hp → Prop} (vs H Q E) (h : O3 f R vs H Q E) : vs.length = 3 := by
  obtain ⟨_, _, _, _, _, _, _, rfl, _⟩ := h
  rfl
theorem bind1 (K : Value) : True := trivial
variable {X : Cx} {σ : St} {H H' : Hp} {a b c : Expr} {pos p : Pos} {n : Str} {k : Nat} {ps : List Str}
theorem ed_o1 {x : α} {z : δ} {f : α → Option δ} (D : Dfn X.prog X.w X.K X.mg X.base CX0 k n ps (O1 f rD)) (hr : Room k X.A) (ha : ED X σ H a x) (hf : f x = some z) (hg : Gl X n := by rfl) (hdb : (n == ("__debug__" : Str)) = false := by decide)
    (he : starEach [a] X.env = [(false, eval a X.env)] := by rfl) : ED X σ H (.Call (.Name n p) [a] [] pos) z := fun H1 e1 Q q =>
  ec_call D hr hg pass0 (ea_cons ha ea_nil he) e1 (fun vs H2 e2 ⟨v, ws, h1, hv, h2⟩ => by
    subst h1 h2
    exact ⟨v, x, z, rfl, hv, hf, fun w H3 e3 r => q w H3 (Ex.tr e2 e3) r⟩) hdb he (by rfl)
theorem el_o1 {x : α} {z : List δ} {f : α → Option (List δ)} (D : Dfn X.prog X.w X.K X.mg X.base CX0 k n ps (O1 f rL)) (hr : Room k X.A) (ha : ED X σ H a x) (hf : f x = some z) (hg : Gl X n := by rfl) (hdb : (n == ("__debug__" : Str)) = false := by decide)
    (he : starEach [a] X.env = [(false, eval a X.env)] := by rfl) : EL X σ H (.Call (.Name n p) [a] [] pos) z := fun H1 e1 Q q =>
  ec_call D hr hg pass0 (ea_cons ha ea_nil he) e1 (fun vs H2 e2 ⟨v, ws, h1, hv, h2⟩ => by
    subst h1 h2
    exact ⟨v, x, z, rfl, hv, hf, fun w H3 e3 ⟨p, e, hn, l⟩ => by subst e; exact q p H3 (fresh_b e2 hn) (Ex.tr e2 e3) l⟩) hdb he (by rfl)
theorem ed_o2 {x : α} {y : β} {z : δ} {f : α → β → Option δ} (D : Dfn X.prog X.w X.K X.mg X.base CX0 k n ps (O2 f rD)) (hr : Room k X.A) (ha : ED X σ H a x) (hb : ED X σ H b y) (hf : f x y = some z) (hg : Gl X n := by rfl) (hdb : (n == ("__debug__" : Str)) = false := by decide)
    (he : starEach [a, b] X.env = (false, eval a X.env) :: starEach [b] X.env := by rfl) (he2 : starEach [b] X.env = [(false, eval b X.env)] := by rfl) : ED X σ H (.Call (.Name n p) [a, b] [] pos) z := fun H1 e1 Q q =>
  ec_call D hr hg pass0 (ea_cons ha (ea_cons hb ea_nil he2) he) e1 (fun vs H2 e2 ⟨v, ws, h1, hv, u, ws2, h2, hu, h3⟩ => by
    subst h1 h2 h3
    exact ⟨v, x, u, y, z, rfl, hv, hu, hf, fun w H3 e3 r => q w H3 (Ex.tr e2 e3) r⟩) hdb he (by rw [he2] <;> rfl)
theorem el_o2 {x : α} {y : β} {z : List δ} {f : α → β → Option (List δ)} (D : Dfn X.prog X.w X.K X.mg X.base CX0 k n ps (O2 f rL)) (hr : Room k X.A) (ha : ED X σ H a x) (hb : ED X σ H b y) (hf : f x y = some z) (hg : Gl X n := by rfl) (hdb : (n == ("__debug__" : Str)) = false := by decide)
    (he : starEach [a, b] X.env = (false, eval a X.env) :: starEach [b] X.env := by rfl) (he2 : starEach [b] X.env = [(false, eval b X.env)] := by rfl) : EL X σ H (.Call (.Name n p) [a, b] [] pos) z := fun H1 e1 Q q =>
  ec_call D hr hg pass0 (ea_cons ha (ea_cons hb ea_nil he2) he) e1 (fun vs H2 e2 ⟨v, ws, h1, hv, u, ws2, h2, hu, h3⟩ => by
    subst h1 h2 h3
    exact ⟨v, x, u, y, z, rfl, hv, hu, hf, fun w H3 e3 ⟨p, e, hn, l⟩ => by subst e; exact q p H3 (fresh_b e2 hn) (Ex.tr e2 e3) l⟩) hdb he (by rw [he2] <;> rfl)
theorem ed_o3 {x : α} {y : β} {r : γ} {z : δ} {f : α → β → γ → Option δ} (D : Dfn X.prog X.w X.K X.mg X.base CX0 k n ps (O3 f rD)) (hr : Room k X.A) (ha : ED X σ H a x) (hb : ED X σ H b y) (hc : ED X σ H c r) (hf : f x y r = some z) (hg : Gl X n := by rfl) (hdb : (n == ("__debug__" : Str)) = false := by decide)
    (he : starEach [a, b, c] X.env = (false, eval a X.env) :: starEach [b, c] X.env := by rfl) (he2 : starEach [b, c] X.env = (false, eval b X.env) :: starEach [c] X.env := by rfl) (he3 : starEach [c] X.env = [(false, eval c X.env)] := by rfl) : ED X σ H (.Call (.Name n p) [a, b, c] [] pos) z := fun H1 e1 Q q =>
  ec_call D hr hg pass0 (ea_cons ha (ea_cons hb (ea_cons hc ea_nil he3) he2) he) e1 (fun vs H2 e2 ⟨v, ws, h1, hv, u, ws2, h2, hu, t, ws3, h3, ht, h4⟩ => by
    subst h1 h2 h3 h4
    exact ⟨v, x, u, y, t, r, z, rfl, hv, hu, ht, hf, fun w H3 e3 q' => q w H3 (Ex.tr e2 e3) q'⟩) hdb he (by rw [he2, he3] <;> rfl)
theorem el_o3 {x : α} {y : β} {r : γ} {z : List δ} {f : α → β → γ → Option (List δ)} (D : Dfn X.prog X.w X.K X.mg X.base CX0 k n ps (O3 f rL)) (hr : Room k X.A) (ha : ED X σ H a x) (hb : ED X σ H b y) (hc : ED X σ H c r) (hf : f x y r = some z) (hg : Gl X n := by rfl) (hdb : (n == ("__debug__" : Str)) = false := by decide)
    (he : starEach [a, b, c] X.env = (false, eval a X.env) :: starEach [b, c] X.env := by rfl) (he2 : starEach [b, c] X.env = (false, eval b X.env) :: starEach [c] X.env := by rfl) (he3 : starEach [c] X.env = [(false, eval c X.env)] := by rfl) : EL X σ H (.Call (.Name n p) [a, b, c] [] pos) z := fun H1 e1 Q q =>
  ec_call D hr hg pass0 (ea_cons ha (ea_cons hb (ea_cons hc ea_nil he3) he2) he) e1 (fun vs H2 e2 ⟨v, ws, h1, hv, u, ws2, h2, hu, t, ws3, h3, ht, h4⟩ => by
    subst h1 h2 h3 h4
    exact ⟨v, x, u, y, t, r, z, rfl, hv, hu, ht, hf, fun w H3 e3 ⟨p, e, hn, l⟩ => by subst e; exact q p H3 (fresh_b e2 hn) (Ex.tr e2 e3) l⟩) hdb he (by rw [he2, he3] <;> rfl)
end

/-! ### loops by a mirror -/
section
variable {α β : Type} [Rep α] [Rep β] {X : Cx} {σ : St} {H : Hp} {D : Ends} {pos : Pos}
theorem w_fold {S : Type} {P : List Addr} {tg l : Expr} {xs : List α} {body : List Stmt} {g : TG} (f : S → α → Option S) {s0 s1 : S} (I : Hp → S → St → Hp → Prop) (hf : foldO f s0 xs = some s1) (hp : PassesOwn (model X.prog X.w) X.A X.env X.xe) (hc : X.calm = true) (src : Src X σ H P tg l xs) (hg : PG X tg g) (nf : Muts P H)
    (h0 : ∀ H1, Ex H H1 → I H1 s0 σ H1)
    (turn : ∀ H1, Ex H H1 → ∀ s s2 x v σ' H' H'', x ∈ xs → f s x = some s2 → Mx P H1 H' → I H1 s σ' H' → Ex H' H'' → Mx P H1 H'' → Rep.is H'' v x →
      g v σ' H'' fun σ2 H2 => wss X body { D with nx := fun σ3 H3 => Mx P H1 H3 ∧ I H1 s2 σ3 H3, ct := fun σ3 H3 => Mx P H1 H3 ∧ I H1 s2 σ3 H3, bk := D.nx } σ2 H2)
    (done : ∀ H1, Ex H H1 → ∀ σ' H', Mx P H1 H' → I H1 s1 σ' H' → D.nx σ' H') (hfl : ∀ x, foldedSetIterable l X.env x = pure x := by intro _; rfl) : wst X (.For tg l body [] pos) D σ H := by
  obtain ⟨wi, hw, hr⟩ := src.ok
  refine wst_of (ps_for hp hc hw hg pss_wss hfl) (hr H (Ex.rf _) _ fun Jt H1 e1 jk => ?_)
  refine ⟨fun i m σ' H' => m = xs.length - i ∧ i ≤ xs.length ∧ Mx P H1 H' ∧ ∃ t, foldO f s0 (xs.take i) = some t ∧ I H1 t σ' H', ⟨xs.length, by simp, Nat.zero_le _, Mx.rf (nf.up e1).nf, s0, rfl, h0 H1 e1⟩, ?_⟩
  rintro i m σ' H' ⟨rfl, hi, mx, t, ht, j⟩
  obtain ⟨t', k1, k2, k3⟩ := foldO_take hf i hi
  rw [ht] at k1
  cases k1
  by_cases hlt : i < xs.length
  · have hgx : xs[i]? = some xs[i] := List.getElem?_eq_getElem hlt
    obtain ⟨t2, a1, a2⟩ := k3 _ hgx
    refine .inr ⟨jk.go H' i mx hlt, fun σ3 H3 => Mx P H1 H3 ∧ I H1 t2 σ3 H3, fun σ3 H3 ⟨m3, j3⟩ => ⟨xs.length - (i + 1), by omega, rfl, hlt, m3, t2, a2, j3⟩, fun v H'' y => ?_⟩
    obtain ⟨e4, hx⟩ := jk.yld H' i v H'' mx y
    exact turn H1 e1 t t2 xs[i] v σ' H' H'' (List.getElem_mem hlt) a1 mx j e4 (mx.trE e4) (hx _ hgx)
  · have e : i = xs.length := by omega
    have e2 := k2 e
    subst e2
    subst e
    exact .inl ⟨jk.stop H' mx, done H1 e1 σ' H' mx j⟩
theorem Mx.ls [Imm α] {P : List Addr} {H H' : Hp} {a : Addr} {xs : List α} (m : Mx P H H') (h : Ls H a xs) (ha : a ∉ P) : Ls H' a xs := let ⟨vs, h1, h2⟩ := h; ⟨vs, m.but a _ ha h1, h2.tx m.tx⟩
theorem Muts.one {H : Hp} {p : Addr} {xs : List α} (h : Ls H p xs) : Muts [p] H := Muts.cons h Muts.nil
theorem ls_ne {H : Hp} {p q : Addr} {xs : List α} (h : Ls H p xs) (hq : H q = none) : p ≠ q := fun e => by
  subst e
  obtain ⟨vs, h1, _⟩ := h
  rw [h1] at hq
  cases hq
theorem ls_nm {H : Hp} {p q : Addr} {xs : List α} (h : Ls H p xs) (hq : H q = none) : p ∉ [q] := fun e => ls_ne h hq (by simpa using e)
theorem nn1 {p : Addr} (h : H p = none) : ∀ a ∈ [p], H a = none := fun a ha => by
  have e : a = p := by simpa using ha
  rw [e]
  exact h
theorem ed_adr {a : Addr} (i : Nat) {n : Str} {pos : Pos} (hs : σ[i]? = some (some (.ref a)) := by rfl) (hN : X.N[i]? = some n := by rfl) (hvs : Vis X.env.scope n := by first | exact Or.inl rfl | exact Or.inr (Or.inl rfl) | exact Or.inr (Or.inr rfl))
    (hd : (n == ("__debug__" : Str)) = false := by decide) (hcd : (n == ("__classdict__" : Str)) = false := by decide) : ED X σ H (.Name n pos) (Adr.mk a) := ed_var (v := .ref a) hs rfl hN hvs hd hcd
theorem ed_ls {a : Addr} (i : Nat) {n : Str} {pos : Pos} {xs : List α} (h : Ls H a xs) (hs : σ[i]? = some (some (.ref a)) := by rfl) (hN : X.N[i]? = some n := by rfl) (hvs : Vis X.env.scope n := by first | exact Or.inl rfl | exact Or.inr (Or.inl rfl) | exact Or.inr (Or.inr rfl))
    (hd : (n == ("__debug__" : Str)) = false := by decide) (hcd : (n == ("__classdict__" : Str)) = false := by decide) : ED X σ H (.Name n pos) xs := ed_var (v := .ref a) hs ⟨a, rfl, h⟩ hN hvs hd hcd
/-- a variable that holds an int -/
theorem ed_iv (i : Nat) {n : Str} {z : Int} {pos : Pos} (hs : σ[i]? = some (some (.int z)) := by rfl) (hN : X.N[i]? = some n := by rfl) (hvs : Vis X.env.scope n := by first | exact Or.inl rfl | exact Or.inr (Or.inl rfl) | exact Or.inr (Or.inr rfl))
    (hd : (n == ("__debug__" : Str)) = false := by decide) (hcd : (n == ("__classdict__" : Str)) = false := by decide) : ED X σ H (.Name n pos) z := ed_var (v := .int z) hs rfl hN hvs hd hcd
/-- .. any data -/
theorem ed_v (i : Nat) {n : Str} {v : V} {x : α} {pos : Pos} (hv : Rep.is H v x) (hs : σ[i]? = some (some v) := by rfl) (hN : X.N[i]? = some n := by rfl) (hvs : Vis X.env.scope n := by first | exact Or.inl rfl | exact Or.inr (Or.inl rfl) | exact Or.inr (Or.inr rfl))
    (hd : (n == ("__debug__" : Str)) = false := by decide) (hcd : (n == ("__classdict__" : Str)) = false := by decide) : ED X σ H (.Name n pos) x := ed_var (v := v) hs hv hN hvs hd hcd
theorem blk_of {N : List Str} {sc scope : Scope} {own : List (Str × Nat)} (h : blkC N sc scope own = true) (hN : X.N = N := by rfl) (hs : X.env.scope = sc := by rfl) : BlkOk X.N X.env.scope scope own := by
  rw [hN, hs]
  exact blkOk_by h
theorem pgl (i : Nat) {x : Str} {pos : Pos} (hN : X.N.Nodup) (hi : X.N[i]? = some x := by rfl) (hx : Loc X.env.scope x := by first | exact Or.inl rfl | exact Or.inr rfl) (hf : X.fn x = true ∨ X.env.scope.names.lookup x = some .local := by first | exact .inr rfl | exact .inl rfl) : PG X (.Name x pos) (gName i) := pg_name hN hi hx hf
theorem pgn {scope : Scope} (i : Nat) {x : Str} {pos : Pos} (hN : X.N.Nodup) (hi : X.N[i]? = some x := by rfl) (hx : Loc (relabel scope X.env) x := by first | exact Or.inl rfl | exact Or.inr rfl) (hf : (scope.names.lookup x == some .cell) = true ∨ (relabel scope X.env).names.lookup x = some .local := by first | exact .inr rfl | exact .inl rfl) :
    ∀ s H C cl fp, PG (Blk X scope s H C cl fp) (.Name x pos) (gName i) := fun s H C cl fp => pg_name hN hi hx hf
end
end Oa
set_option Elab.async false
set_option linter.all false
set_option maxRecDepth 100000
set_option maxHeartbeats 1000000
namespace Oa
open PySem PySem.Spec PyProof.Rows L2
section
variable {P : Program} {w : World} {K : PySem.W.Frag} {mg : Str → Option Value} {base : Heap}
abbrev D0 (P : Program) (w : World) (K : PySem.W.Frag) (mg : Str → Option Value) (base : Heap) (k : Nat) (n : Str) (ps : List Str) (sp : Sp) : Prop := Dfn P w K mg base CX0 k n ps sp
theorem gcd_step {a b : Int} (ha : 0 ≤ a) (hb : 0 < b) : m_div b (a % b) = m_div a b := by
  unfold m_div
  obtain ⟨x, rfl⟩ := Int.eq_ofNat_of_zero_le ha
  obtain ⟨y, rfl⟩ := Int.eq_ofNat_of_zero_le (Int.le_of_lt hb)
  have e : ((x : Int) % (y : Int)).toNat = x % y := by omega
  rw [e, Int.toNat_natCast, Int.toNat_natCast, Nat.gcd_comm y (x % y), ← Nat.gcd_rec, Nat.gcd_comm]
theorem ok_divisor (F : FnP K mg "divisor" S_divisor) : D0 P w K mg base 1 "divisor" ["one", "other"] (O2 (fun (a b : Int) => if 0 ≤ a ∧ 0 ≤ b then some (m_div a b) else none) rD) := by
  refine dfn_of F sc_divisor O2.len (fun _ _ _ _ _ _ us hl => match us, hl with | [_, _], _ => rfl) fun f cdv A outer s H vs Q E hr ⟨v, a, u, b, z, h1, hv, hu, hz, k⟩ => ?_
  obtain ⟨⟨h0, h0'⟩, hz⟩ := if_t hz
  subst h1
  cases hv
  cases hu
  refine w_seq (w_while (fun m σ H' => ∃ a' b' : Int, σ = [some (.int a'), some (.int b')] ∧ m = b'.toNat ∧ 0 ≤ a' ∧ 0 ≤ b' ∧ Ex H H' ∧ m_div a' b' = z) b.toNat PassesOwn.never ⟨a, b, rfl, rfl, h0, h0', Ex.rf _, hz⟩ ?_)
  rintro m σ H' ⟨a', b', rfl, rfl, ha', hb', e, hg⟩
  refine ⟨_, eb_cmpI (c_gt (i := b') (j := 0)) (ed_iv 1) ed_int, fun q H1 e1 => ?_, fun q H1 e1 => ?_⟩
  · have q' : 0 < b' := of_decide_eq_true q
    refine w_one (w_par (i := 0) (j := 1) rfl sc_divisor.nd (ed_iv 1) (ed_mod (ed_iv 0) (ed_iv 1) q') (fun u w H2 e2 hu hw => ?_) (by decide))
    cases hu
    cases hw
    have m1 := Int.emod_lt_of_pos a' q'
    have m2 := Int.emod_nonneg a' (by omega : b' ≠ 0)
    exact ⟨_, by omega, b', a' % b', rfl, rfl, hb', m2, Ex.tr e (Ex.tr e1 e2), (gcd_step ha' q').trans hg⟩
  · have q' : ¬ 0 < b' := of_decide_eq_false q
    have e0 : b' = 0 := by omega
    refine w_one (w_ret (ed_iv 0) fun v H2 e2 hv => ?_)
    cases hv
    refine k _ _ (Ex.tr e (Ex.tr e1 e2)) ?_
    rw [← hg]
    show V.int a' = V.int _
    unfold m_div
    rw [e0, show Int.toNat 0 = 0 from rfl, Nat.gcd_zero_right, Int.toNat_of_nonneg ha']
theorem ok_parting (F : FnP K mg "parting" S_parting) (gr : mg "range" = none) : D0 P w K mg base 1 "parting" ["number"] (O1 m_parting rL) := by
  refine dfn_of F sc_parting O1.len (fun _ _ _ _ _ _ us hl => match us, hl with | [_], _ => rfl) fun f cdv A outer s H vs Q E hr ⟨v, a, z, h1, hv, hz, k⟩ => ?_
  obtain ⟨hs, hz⟩ := if_t hz
  have hs' := small_is hs
  subst h1
  cases hv
  refine w_one (w_retL (el_lc ((lc1 (fun x => x) (fun p => decide (a % p = 0)) [("part", 1)] (gName 1) (src_rng2 ed_int (ed_add (ed_iv 0) ed_int) (by omega) (by rfl) gr) ?_ (blk_of (N := N_parting) (sc := defScope S_parting) (by decide +kernel)) (pgn 1 sc_parting.nd) ?_).to ?_) rfl sc_parting.nd) fun p H2 hp e2 hl => k _ _ e2 ⟨p, rfl, hp, hl⟩)
  · rw [rng_len]
    omega
  · intro x hx v H' e' hv
    have hx' := rng_mem.mp hx
    cases hv
    refine ⟨_, fun Q q => q, rfl, fun s H0 C cl fp => ?_, fun _ s H0 C cl fp => ed_iv 1⟩
    exact eb_cmpI c_eq (ed_mod (ed_iv 0) (ed_iv 1) (by omega)) ed_int
  · rw [List.map_id']
    exact hz
theorem units_of {X : Cx} {k d : Nat} (hr : Room k X.A) (h : d ≤ 100 := by decide) : X.A.units + 2 + d < cLine := by
  have := hr.un
  omega
theorem map_some {α β : Type} {f : α → β} {o : Option α} {z : β} (h : o.map f = some z) : ∃ a, o = some a ∧ f a = z := by
  cases o with
  | none => cases h
  | some a => exact ⟨a, rfl, Option.some.inj h⟩
theorem ok_falling (F : FnP K mg "falling" S_falling) (gs : mg "sorted" = none) : D0 P w K mg base 1 "falling" ["things"] (O1 fallT rL) := by
  refine dfn_of F sc_falling O1.len (fun _ _ _ _ _ _ us hl => match us, hl with | [_], _ => rfl) fun f cdv A outer s H vs Q E hr ⟨v, a, z, h1, hv, hz, k⟩ => ?_
  obtain ⟨zs, hz1, rfl⟩ := map_some hz
  obtain ⟨h1', h2, rfl⟩ := sortO_is hz1
  subst h1
  exact w_one (w_retL (el_rev (el_sortedT sto0 (units_of hr) (ed_v 0 hv) h1' (by omega) (by rfl) gs).d) fun p H2 hp e2 hl => k _ _ e2 ⟨p, rfl, hp, hl⟩)
theorem ok_joined (F : FnP K mg "joined" S_joined) (D : D0 P w K mg base 1 "falling" ["things"] (O1 fallT rL)) (gt : mg "tuple" = none) : D0 P w K mg base 2 "joined" ["rows"] (O1 m_joined rD) := by
  refine dfn_of F sc_joined O1.len (fun _ _ _ _ _ _ us hl => match us, hl with | [_], _ => rfl) fun f cdv A outer s H vs Q E hr ⟨v, a, z, h1, hv, hz, k⟩ => ?_
  obtain ⟨rows, hrows, hz⟩ := bs hz
  obtain ⟨fs, hf, hz⟩ := bs hz
  cases hz
  subst h1
  refine w_seq (w_setL (i := 1) sc_joined.nd (el_lst (eal_cons ed_int eal_nil) (by decide)) fun p H1 hp e1 hl => ?_)
  refine w_seq (w_fold (P := [p]) _ (fun H0 s σ' H' => (∃ a b, σ' = [some v, some (.ref p), a, b]) ∧ Ls H' p s) hf PassesOwn.never rfl (src_new (el_o1 D hr (ed_v 0 (Rep.up e1 hv)) hrows) (Muts.one hl).ex) (pg_name (i := 2) sc_joined.nd rfl (Or.inl rfl)) (Muts.one hl) (fun H2 e2 => ⟨⟨_, _, rfl⟩, hl.up e2⟩) ?_ fun H2 e2 σ' H' m ⟨⟨a', b', e⟩, hs⟩ => ?_)
  · rintro H2 e2 s s2 x v' σ' H' H'' hx hst mx ⟨⟨a', b', rfl⟩, hs⟩ e3 mx2 hv'
    obtain ⟨f1, f2, rfl⟩ := extO_is hst
    have f1' := few_is f1
    have f2' := few_is f2
    rw [List.length_map] at f2'
    refine g_name (w_one (w_ext (ed_adr 1) (hs.up e3) (el_lc (lc0 (fun d : Int => d + 1) [("depth", 3)] (gName 3) (src_t (ed_v 2 hv')) (by omega) (blk_of (N := N_joined) (sc := defScope S_joined) (by decide +kernel)) (pgn 3 sc_joined.nd) ?_) rfl sc_joined.nd).d ?_ fun H4 m4 _ hl4 => ?_))
    · intro x' hx' u H5 e5 hu
      cases hu
      exact ⟨_, fun Q q => q, rfl, fun s H0 C cl fp => ed_add (ed_iv 3) ed_int⟩
    · rw [List.length_map]
      omega
    · exact ⟨mx2.tr m4, ⟨_, _, rfl⟩, hl4⟩
  · subst e
    exact w_one (w_ret (ed_tuple (ed_ls 1 hs) (by rfl) gt) fun v H5 e5 hv => k _ _ (Ex.tr (Ex.mx (Ex.tr e1 e2) m (nn1 hp)) e5) hv)
end
end Oa
set_option Elab.async false
set_option linter.all false
set_option maxRecDepth 100000
set_option maxHeartbeats 1000000
namespace Oa
open PySem PySem.Spec PyProof.Rows L2
theorem un0 {X : Cx} {k d : Nat} (hr : Room k X.A) (h : d ≤ 100 := by decide) : X.A.units + d < cLine := by
  have := hr.un
  omega
theorem un1 {X : Cx} {k d : Nat} (hr : Room k X.A) (h : d ≤ 100 := by decide) : X.A.units + 1 + d < cLine := by
  have := hr.un
  omega
section
variable {α : Type} [Rep α] {X : Cx} {σ : St} {H : Hp} {a a' b b' : Expr} {pos : Pos}
theorem ed_rot {p1 p2 p3 p4 : Pos} {t : Tup α} {k : Int} (h1 : ED X σ H a t) (h2 : ED X σ H b k) (h3 : ED X σ H a' t) (h4 : ED X σ H b' k) (hk : 0 ≤ k) (hz : t.items.length ≤ 5000000) :
    ED X σ H (.BinOp (.Subscript a (.Slice (some b) none none p1) p2) .Add (.Subscript a' (.Slice none (some b') none p3) p4) pos) (rot t k) :=
  (ed_cat (ed_slT h1 (eo_some h2) eo_none) (ed_slT h3 eo_none (eo_some h4)) (by
    rw [cut_from hk, cut_to hk, List.length_drop, List.length_take, sizeLine_eq]
    omega)).to (by rw [cut_from hk, cut_to hk] <;> rfl)
end
section
variable {P : Program} {w : World} {K : PySem.W.Frag} {mg : Str → Option Value} {base : Heap}
def firstO (row : P0) : Option Int := if row.items.length ≤ 5000000 then some (m_first row) else none
theorem ok_first_turn (F : FnP K mg "first_turn" S_first_turn) (gr : mg "range" = none) (gl : mg "len" = none) : D0 P w K mg base 1 "first_turn" ["row"] (O1 firstO rD) := by
  refine dfn_of F sc_first_turn O1.len (fun _ _ _ _ _ _ us hl => match us, hl with | [_], _ => rfl) fun f cdv A outer s H vs Q E hr ⟨v, a, z, h1, hv, hz, k⟩ => ?_
  obtain ⟨hs, hz1⟩ := if_t hz
  subst h1
  have hf := foldl_O (fun (best turn : Int) => if PySem.W.DatumOrd.lt (rot a turn) (rot a best) then turn else best) (rng 1 a.items.length) 0
  refine w_seq (w_set (i := 1) (x := (0 : Int)) sc_first_turn.nd ed_int fun u H1 e1 hu => ?_)
  cases hu
  refine w_seq (w_fold (P := []) _ (fun H0 s σ' H' => (∃ b, σ' = [some v, some (.int s), b]) ∧ 0 ≤ s) hf PassesOwn.never rfl (src_rng2 ed_int (ed_lenT (ed_v 0 (Rep.up e1 hv)) (by rfl) gl) (by omega) (by rfl) gr) (pg_name (i := 2) sc_first_turn.nd rfl (Or.inl rfl)) Muts.nil (fun H2 e2 => ⟨⟨_, rfl⟩, by decide⟩) ?_ fun H2 e2 σ' H' m ⟨⟨b', e⟩, hs⟩ => ?_)
  · rintro H2 e2 s s2 x v' σ' H' H'' hx hst mx ⟨⟨b', rfl⟩, hs'⟩ e3 mx2 hv'
    have hx' := rng_mem.mp hx
    cases hv'
    have hv2 := Rep.up mx2.nil (Rep.up (Ex.tr e1 e2) hv)
    have hst' := Option.some.inj hst
    refine g_name (w_one (w_if (eb_cmpI (c_ltD (un0 hr)) (ed_rot (ed_v 0 hv2) (ed_iv 2) (ed_v 0 hv2) (ed_iv 2) (by omega) hs) (ed_rot (ed_v 0 hv2) (ed_iv 1) (ed_v 0 hv2) (ed_iv 1) hs' hs)) (fun q H3 e3 => ?_) fun q H3 e3 => ?_))
    · rw [if_pos q] at hst'
      subst hst'
      refine w_one (w_set (i := 1) sc_first_turn.nd (ed_iv 2) fun u H4 e4 hu => ?_)
      cases hu
      exact ⟨mx2.trE (Ex.tr e3 e4), ⟨_, rfl⟩, by omega⟩
    · rw [if_neg (by rw [q]; decide)] at hst'
      subst hst'
      exact w_nil ⟨mx2.trE e3, ⟨_, rfl⟩, hs'⟩
  · subst e
    refine w_one (w_ret (ed_iv 1) fun u H5 e5 hu => k _ _ (Ex.tr e1 (Ex.tr e2 (Ex.tr m.nil e5))) ?_)
    cases hu
    rw [← hz1]
    rfl
theorem ok_size_of (F : FnP K mg "size_of" S_size_of) (gl : mg "len" = none) (gs : mg "sum" = none) : D0 P w K mg base 1 "size_of" ["row"] (O1 (fun p : P0 => if few p.items then some (m_size p) else none) rD) := by
  refine dfn_of F sc_size_of O1.len (fun _ _ _ _ _ _ us hl => match us, hl with | [_], _ => rfl) fun f cdv A outer s H vs Q E hr ⟨v, a, z, h1, hv, hz, k⟩ => ?_
  obtain ⟨hs, rfl⟩ := if_t hz
  have hs' := few_is hs
  subst h1
  refine w_one (w_ret (ed_sum rfl (el_lc (lc0 (fun t : T0 => (t.items.length : Int)) [("tree", 1)] (gName 1) (src_t (ed_v 0 hv)) (by omega) (blk_of (N := N_size_of) (sc := defScope S_size_of) (by decide +kernel)) (pgn 1 sc_size_of.nd) ?_) rfl sc_size_of.nd).d (by rfl) gs) fun u H5 e5 hu => k _ _ e5 hu)
  intro x' hx' u H5 e5 hu
  exact ⟨_, fun Q q => q, rfl, fun s H0 C cl fp => ed_lenT (ed_v 1 hu) (by rfl) gl⟩
def turnO (row : P0) : Option P0 := if row.items.length ≤ 5000000 then some (m_turned row) else none
theorem m_first_nn (row : P0) : 0 ≤ m_first row := by
  unfold m_first
  have go : ∀ (l : List Int) (b : Int), (∀ x ∈ l, 1 ≤ x) → 0 ≤ b → 0 ≤ l.foldl (fun best turn => if PySem.W.DatumOrd.lt (rot row turn) (rot row best) then turn else best) b := by
    intro l
    induction l with
    | nil => intro b _ hb; exact hb
    | cons x l ih =>
      intro b hl hb
      rw [List.foldl_cons]
      have h1 := hl x (List.mem_cons_self ..)
      refine ih _ (fun y hy => hl y (List.mem_cons_of_mem _ hy)) ?_
      split <;> omega
  exact go _ _ (fun x hx => (rng_mem.mp hx).1) (Int.le_refl _)
theorem ok_turned_least (F : FnP K mg "turned_least" S_turned_least) (D : D0 P w K mg base 1 "first_turn" ["row"] (O1 firstO rD)) : D0 P w K mg base 2 "turned_least" ["row"] (O1 turnO rD) := by
  refine dfn_of F sc_turned_least O1.len (fun _ _ _ _ _ _ us hl => match us, hl with | [_], _ => rfl) fun f cdv A outer s H vs Q E hr ⟨v, a, z, h1, hv, hz, k⟩ => ?_
  obtain ⟨hs, rfl⟩ := if_t hz
  subst h1
  refine w_seq (w_set (i := 1) sc_turned_least.nd (ed_o1 D hr (ed_v 0 hv) (if_pos hs)) fun u H1 e1 hu => ?_)
  cases hu
  have hv1 := Rep.up e1 hv
  exact w_one (w_ret (ed_rot (ed_v 0 hv1) (ed_iv 1) (ed_v 0 hv1) (ed_iv 1) (m_first_nn a) hs) fun u H5 e5 hu => k _ _ (Ex.tr e1 e5) hu)
end
end Oa
set_option Elab.async false
set_option linter.all false
set_option maxRecDepth 100000
set_option maxHeartbeats 1000000
namespace Oa
open PySem PySem.Spec PyProof.Rows L2
/-! ### enumerate, zip -/
theorem enumI_len {α : Type} (xs : List α) : (enumI xs).length = xs.length := by
  unfold enumI
  rw [List.length_zipWith, List.length_range, Nat.min_self]
theorem enumI_at {α : Type} {xs : List α} {i : Nat} {p : Int × α} (h : (enumI xs)[i]? = some p) : p.1 = (i : Int) ∧ xs[i]? = some p.2 := by
  unfold enumI at h
  rw [List.getElem?_zipWith] at h
  have hi : i < xs.length := by
    cases q : xs[i]? with
    | none => rw [q] at h; simp at h
    | some x => exact (List.getElem?_eq_some_iff.mp q).1
  rw [List.getElem?_eq_getElem (by rw [List.length_range]; exact hi), List.getElem_range, List.getElem?_eq_getElem hi] at h
  cases h
  exact ⟨rfl, List.getElem?_eq_getElem hi⟩
theorem enumI_mem {α : Type} {xs : List α} {p : Int × α} (h : p ∈ enumI xs) : ∃ i : Nat, p.1 = (i : Int) ∧ xs[i]? = some p.2 := by
  obtain ⟨i, hi, e⟩ := List.getElem_of_mem h
  exact ⟨i, enumI_at (by rw [List.getElem?_eq_getElem hi, e])⟩
section
variable {α β : Type} [Rep α] [Rep β] {X : Cx} {σ : St} {H : Hp} {P : List Addr} {tg l l2 a b : Expr} {xs : List α} {ys : List β} {pos p tpos : Pos} {elts : List Expr} {kk : Nat}
theorem jok_enum [Imm α] {K : PySem.W.Frag} {a : Addr} {H2 : Hp} (h : Ls H2 a xs) (ha : a ∉ P) : JOk P (Ite K a) H2 (enumI xs) := by
  obtain ⟨vs, hp, hA⟩ := h
  refine ⟨fun H' i m hi => ?_, fun H' m => ⟨vs, SqL.of (m.but a _ ha hp), by rw [enumI_len, hA.len]; exact Nat.le_refl _⟩, fun H' i v H'' m y => ?_⟩
  · rw [enumI_len] at hi
    have hi' : i < vs.length := by rw [hA.len]; exact hi
    exact ⟨vs, vs[i], SqL.of (m.but a _ ha hp), by simp [hi']⟩
  · obtain ⟨T, x, e, hT, eH, y⟩ := y
    subst e eH
    have e : Ex H' (upd H' T (.tup [.int (i : Nat), x])) := Ex.new hT
    refine ⟨e, fun q hq => ?_⟩
    obtain ⟨q1, q2⟩ := enumI_at hq
    obtain ⟨v', hv', r⟩ := pget' hA q2
    have e2 := y vs (SqL.of (m.but a _ ha hp))
    rw [hv'] at e2
    cases e2
    exact ⟨T, .int (i : Nat), x, rfl, upd_same, by rw [q1] <;> rfl, Rep.up e (Imm.tx m.tx r)⟩
theorem src_enum_new [Imm α] (h : EL X σ H l xs) (hP : ∀ q ∈ P, ∃ o, H q = some o) (hg : Gl X "enumerate" := by rfl) (hm : X.mg "enumerate" = none) (he : starEach [l] X.env = [(false, eval l X.env)] := by rfl) : Src X σ H P (.Tuple elts kk tpos) (.Call (.Name "enumerate" p) [l] [] pos) (enumI xs) :=
  ⟨_, pi_enum hg hm (pa_cons pe_we pa_nil he) he, fun H1 e1 R q => h H1 e1 _ fun a H2 ha e2 hl => ⟨a, hl.choose, rfl, SqL.of hl.choose_spec.1, q _ H2 e2 (jok_enum hl fun hz => by
    obtain ⟨o, ho⟩ := hP a hz
    exact e1.some' a o ho ha)⟩⟩
theorem src_enum_at [Imm α] {a : Addr} (h : ED X σ H l (Adr.mk a)) (hl : Ls H a xs) (hP : a ∉ P) (hg : Gl X "enumerate" := by rfl) (hm : X.mg "enumerate" = none) (he : starEach [l] X.env = [(false, eval l X.env)] := by rfl) : Src X σ H P (.Tuple elts kk tpos) (.Call (.Name "enumerate" p) [l] [] pos) (enumI xs) :=
  ⟨_, pi_enum hg hm (pa_cons pe_we pa_nil he) he, fun H1 e1 R q => h H1 e1 _ fun v H2 e2 hv => by
    have hl2 := hl.up (Ex.tr e1 e2)
    exact ⟨a, hl2.choose, by rw [show v = V.ref a from hv], SqL.of hl2.choose_spec.1, q _ H2 e2 (jok_enum hl2 hP)⟩⟩
/-- over a list, nothing being changed -/
theorem jok_zip {K : PySem.W.Frag} {a b : Addr} {H2 : Hp} (h : Ls H2 a xs) (h' : Ls H2 b ys) : JOk [] (Itz K a b) H2 (xs.zip ys) := by
  obtain ⟨vs, hp, hA⟩ := h
  obtain ⟨us, hq, hB⟩ := h'
  refine ⟨fun H' i m hi => ?_, fun H' m => ⟨vs, us, SqL.of (m.nil a _ hp), SqL.of (m.nil b _ hq), ?_⟩, fun H' i v H'' m y => ?_⟩
  · rw [List.length_zip] at hi
    have h1 : i < vs.length := by rw [hA.len]; omega
    have h2 : i < us.length := by rw [hB.len]; omega
    exact ⟨vs, us, vs[i], us[i], SqL.of (m.nil a _ hp), SqL.of (m.nil b _ hq), by simp [h1], by simp [h2]⟩
  · rw [List.length_zip, hA.len, hB.len]
    omega
  · obtain ⟨T, x, z, e, hT, eH, y1, y2⟩ := y
    subst e eH
    have e : Ex H' (upd H' T (.tup [x, z])) := Ex.new hT
    refine ⟨e, fun q hq' => ?_⟩
    rw [List.getElem?_zip_eq_some] at hq'
    obtain ⟨v1, hv1, r1⟩ := pget' hA hq'.1
    obtain ⟨v2, hv2, r2⟩ := pget' hB hq'.2
    have e1 := y1 vs (SqL.of (m.nil a _ hp))
    have e2 := y2 us (SqL.of (m.nil b _ hq))
    rw [hv1] at e1
    rw [hv2] at e2
    cases e1
    cases e2
    exact ⟨T, x, z, rfl, upd_same, Rep.up e (Rep.up m.nil r1), Rep.up e (Rep.up m.nil r2)⟩
theorem src_zip (h : ED X σ H l xs) (h' : ED X σ H l2 ys) (hg : Gl X "zip" := by rfl) (hm : X.mg "zip" = none) (he : starEach [l, l2] X.env = (false, eval l X.env) :: starEach [l2] X.env := by rfl) (he2 : starEach [l2] X.env = [(false, eval l2 X.env)] := by rfl) : Src X σ H [] (.Tuple elts kk tpos) (.Call (.Name "zip" p) [l, l2] [] pos) (xs.zip ys) :=
  ⟨_, pi_zip hg hm (pa_cons pe_we (pa_cons pe_we pa_nil he2) he) he (by rw [he2] <;> rfl), fun H1 e1 R q => h H1 e1 _ fun v H2 e2 ⟨a, hv, hl⟩ => h' H2 (Ex.tr e1 e2) _ fun u H3 e3 ⟨b, hu, hl'⟩ => by
    subst hv hu
    have hl3 := hl.up e3
    exact ⟨a, b, hl3.choose, hl'.choose, rfl, SqL.of hl3.choose_spec.1, SqL.of hl'.choose_spec.1, q _ H3 (Ex.tr e2 e3) (jok_zip hl3 hl')⟩⟩
/-! targets -/
theorem pg_pair {i j : Nat} {x y : Str} {px py pt : Pos} {k : Nat} (hc : X.calm = true) (hN : X.N.Nodup) (hi : X.N[i]? = some x := by rfl) (hj : X.N[j]? = some y := by rfl) (hx : Loc X.env.scope x := by first | exact Or.inl rfl | exact Or.inr rfl) (hy : Loc X.env.scope y := by first | exact Or.inl rfl | exact Or.inr rfl)
    (hfx : X.fn x = true ∨ X.env.scope.names.lookup x = some .local := by first | exact .inr rfl | exact .inl rfl) (hfy : X.fn y = true ∨ X.env.scope.names.lookup y = some .local := by first | exact .inr rfl | exact .inl rfl) : PG X (.Tuple [.Name x px, .Name y py] k pt) (gPair X.K i j) :=
  pg_tup hc (pgs_cons (pg_name hN hi hx hfx) (pgs_cons (pg_name hN hj hy hfy) pgs_nil))
abbrev gNest (K : PySem.W.Frag) (i j l : Nat) : TG := gTup K 2 (gCons (gName i) (gCons (gPair K j l) gNil))
theorem pg_nest {i j l : Nat} {x y z : Str} {px py pz pt pt2 : Pos} {k k2 : Nat} (hc : X.calm = true) (hN : X.N.Nodup) (hi : X.N[i]? = some x := by rfl) (hj : X.N[j]? = some y := by rfl) (hl : X.N[l]? = some z := by rfl) (hx : Loc X.env.scope x := by first | exact Or.inl rfl | exact Or.inr rfl) (hy : Loc X.env.scope y := by first | exact Or.inl rfl | exact Or.inr rfl) (hz : Loc X.env.scope z := by first | exact Or.inl rfl | exact Or.inr rfl)
    (hfx : X.fn x = true ∨ X.env.scope.names.lookup x = some .local := by first | exact .inr rfl | exact .inl rfl) (hfy : X.fn y = true ∨ X.env.scope.names.lookup y = some .local := by first | exact .inr rfl | exact .inl rfl) (hfz : X.fn z = true ∨ X.env.scope.names.lookup z = some .local := by first | exact .inr rfl | exact .inl rfl) : PG X (.Tuple [.Name x px, .Tuple [.Name y py, .Name z pz] k2 pt2] k pt) (gNest X.K i j l) :=
  pg_tup hc (pgs_cons (pg_name hN hi hx hfx) (pgs_cons (pg_pair hc hN hj hl hy hz hfy hfz) pgs_nil))
theorem g_nest {γ : Type} [Rep γ] {K : PySem.W.Frag} {i j l : Nat} {v : V} {σ : St} {H : Hp} {Q : St → Hp → Prop} {x : α × (β × γ)} (hv : Rep.is H v x) (h : ∀ u w z, Rep.is H u x.1 → Rep.is H w x.2.1 → Rep.is H z x.2.2 → Q (((σ.set i (some u)).set j (some w)).set l (some z)) H) : gNest K i j l v σ H Q := by
  obtain ⟨a, u, w, e, ha, hu, hw⟩ := hv
  exact ⟨a, [u, w], e, SqT.of ha, rfl, u, [w], rfl, w, [], rfl, g_pair hw fun u' w' h1 h2 => ⟨rfl, h u u' w' hu h1 h2⟩⟩
theorem pgp {scope : Scope} (i j : Nat) {x y : Str} {px py pt : Pos} {k : Nat} (hc : X.calm = true) (hN : X.N.Nodup) (hi : X.N[i]? = some x := by rfl) (hj : X.N[j]? = some y := by rfl) (hx : Loc (relabel scope X.env) x := by first | exact Or.inl rfl | exact Or.inr rfl) (hy : Loc (relabel scope X.env) y := by first | exact Or.inl rfl | exact Or.inr rfl)
    (hfx : (scope.names.lookup x == some .cell) = true ∨ (relabel scope X.env).names.lookup x = some .local := by first | exact .inr rfl | exact .inl rfl) (hfy : (scope.names.lookup y == some .cell) = true ∨ (relabel scope X.env).names.lookup y = some .local := by first | exact .inr rfl | exact .inl rfl) :
    ∀ s H C cl fp, PG (Blk X scope s H C cl fp) (.Tuple [.Name x px, .Name y py] k pt) (gPair X.K i j) := fun s H C cl fp => pg_pair hc hN hi hj hx hy hfx hfy
end

/-! ### lists of lists -/
structure LL {α : Type} [Rep α] (H : Hp) (p : Addr) (as : List Addr) (xss : List (List α)) : Prop where
  loc : H p = some (.lst (as.map V.ref))
  nd : as.Nodup
  np : p ∉ as
  ok : Paired (fun a xs => Ls H a xs) as xss
section
variable {α : Type} [Rep α] {X : Cx} {σ : St} {H H' : Hp} {D : Ends} {P : List Addr} {p : Addr} {as : List Addr} {xss : List (List α)}
theorem LL.all (h : LL H p as xss) : AllIs H (as.map V.ref) xss := by
  have go : ∀ {as : List Addr} {xss : List (List α)}, Paired (fun a xs => Ls H a xs) as xss → AllIs H (as.map V.ref) xss := by
    intro as xss h
    induction h with
    | nil => exact .nil
    | cons r t ih => exact .cons ⟨_, rfl, r⟩ ih
  exact go h.ok
theorem LL.ls (h : LL H p as xss) : Ls H p xss := ⟨_, h.loc, h.all⟩
theorem LL.len (h : LL H p as xss) : as.length = xss.length := Paired.length h.ok
theorem LL.up (e : Ex H H') (h : LL H p as xss) : LL H' p as xss := ⟨e p _ h.loc, h.nd, h.np, L2.Paired.mapP h.ok fun _ _ r => r.up e⟩
theorem paired_mem {A B : Type} {F : A → B → Prop} {G : A → B → Prop} : ∀ {l : List A} {m : List B}, Paired F l m → (∀ a b, a ∈ l → F a b → G a b) → Paired G l m
  | _, _, .nil, _ => .nil
  | _, _, .cons r t, k => .cons (k _ _ (List.mem_cons_self ..) r) (paired_mem t fun a b ha => k a b (List.mem_cons_of_mem _ ha))
theorem LL.mx [Imm α] (m : Mx P H H') (hp : p ∉ P) (ha : ∀ a ∈ as, a ∉ P) (h : LL H p as xss) : LL H' p as xss := ⟨m.but p _ hp h.loc, h.nd, h.np, paired_mem h.ok fun a xs ha' r => m.ls r (ha a ha')⟩
theorem LL.mem (h : LL H p as xss) {a : Addr} (ha : a ∈ as) : ∃ xs : List α, Ls H a xs := by
  obtain ⟨i, hi, e⟩ := List.getElem_of_mem ha
  obtain ⟨xs, _, r⟩ := pget h.ok (List.getElem?_eq_getElem hi)
  exact ⟨xs, by rw [← e]; exact r⟩
theorem ed_of_adr {e : Expr} {xs : List α} (h : ED X σ H e (Adr.mk p)) (hl : Ls H p xs) : ED X σ H e xs := ED.retype h fun H' v e1 hv => ⟨p, hv, hl.up e1⟩
theorem vals_self {H : Hp} : ∀ vs : List V, AllIs H vs vs
  | [] => .nil
  | _ :: vs => .cons rfl (vals_self vs)
/-- o[i], the address of an inner list -/
theorem ed_ixA {o i : Expr} {k : Int} {a : Addr} {pos : Pos} (h : LL H p as xss) (ho : ED X σ H o (Adr.mk p)) (hi : ED X σ H i k) (hx : atI as k = some a) (hs : PlainIx i := by exact fun _ _ => rfl) : ED X σ H (.Subscript o i pos) (Adr.mk a) := by
  have hv : Ls H p (as.map V.ref) := ⟨_, h.loc, vals_self _⟩
  have h2 : atI (as.map V.ref) k = some (V.ref a) := by
    unfold atI at hx ⊢
    rw [List.length_map]
    cases q : ixN as.length k with
    | none => rw [q] at hx; cases hx
    | some j =>
      rw [q] at hx
      show (as.map V.ref)[j]? = _
      rw [List.getElem?_map, show as[j]? = some a from hx] <;> rfl
  exact ED.cast (v := V.ref a) (ed_ixL (ed_of_adr ho hv) hi h2 hs) fun H' _ => rfl
theorem nodup_app {l : List Addr} {a : Addr} (h : l.Nodup) (ha : a ∉ l) : (l ++ [a]).Nodup := by
  rw [List.nodup_append]
  exact ⟨h, by simp, fun x hx y hy e => ha (by rw [← (show y = a by simpa using hy), ← e]; exact hx)⟩
/-- o.append(a new list) -/
theorem w_appLL [Imm α] {o e : Expr} {xs : List α} {apos cpos pos : Pos} (ho : ED X σ H o (Adr.mk p)) (hl : LL H p as xss) (h : EL X σ H e xs) (hz : xss.length < 10000000) (k : ∀ H1 a, Mx [p] H H1 → H a = none → LL H1 p (as ++ [a]) (xss ++ [xs]) → D.nx σ H1)
    (hs : swapsWith (.Call (.Attribute o "append" apos) [e] [] cpos) none pos.line X.env = pure false := by rfl) (hbase : attributeBase o "append" X.env (eval o X.env) = eval o X.env := by rfl)
    (hfew : ((backTo cpos (starEach [e] X.env)).all (fun x => !x.1) && (backToKw cpos (keywordEach [] X.env)).all (fun x => x.1.isSome) && decide (([e] : List Expr).length + ([] : List Keyword).length + (if ([] : List Keyword).isEmpty then 0 else 1) < 30)) = true := by rfl)
    (hline : (apos.endLine == cpos.line) = true := by rfl) (he : starEach [e] X.env = [(false, eval e X.env)] := by rfl) : wst X (.Expr (.Call (.Attribute o "append" apos) [e] [] cpos) pos) D σ H := by
  refine wst_of (ps_expr (pe_bm PySem.F.plainAttrs_list PySem.F.slot_list_append PySem.F.type_list_append mt_append pe_we (pa_cons pe_we pa_nil he) hbase hfew hline he (by rfl)) hs) ?_
  refine ho H (Ex.rf _) _ fun v H2 e2 hvv => ?_
  cases hvv
  have hl2 := hl.up e2
  refine ⟨.inl ⟨rfl, _, SqL.of hl2.loc⟩, h H2 e2 _ fun a H3 ha e3 hw => ?_⟩
  have hl3 := hl2.up e3
  have nap : a ≠ p := fun z => by rw [z, hl2.loc] at ha; cases ha
  have naa : ∀ b ∈ as, b ≠ a := fun b hb z => by
    obtain ⟨ys, vs, q, _⟩ := hl2.mem hb
    rw [z, ha] at q
    cases q
  have m1 : Mx [p] H3 (upd H3 p (.lst (as.map V.ref ++ [V.ref a]))) := Mx.upd1 hl3.loc
  refine ⟨p, _, .ref a, rfl, rfl, hl3.loc, by rw [List.length_map, hl3.len, sizeLine_eq]; omega, k _ a (Mx.ofE (Ex.tr e2 e3) m1) (fresh_b e2 ha) ⟨by rw [List.map_append]; exact upd_same, nodup_app hl.nd fun z => naa a z rfl, ?_, ?_⟩⟩
  · rw [List.mem_append]
    rintro (z | z)
    · exact hl.np z
    · have e : p = a := by simpa using z
      exact nap e.symm
  · refine papp (paired_mem hl3.ok fun b ys hb r => m1.ls r ?_) (.cons (m1.ls hw ?_) .nil)
    · intro z
      have : b = p := by simpa using z
      rw [this] at hb
      exact hl.np hb
    · intro z
      exact nap (by simpa using z)
theorem LL.set [Imm α] {j : Nat} {a : Addr} {ys : List α} (h : LL H p as xss) (hj : as[j]? = some a) (m : Mx [a] H H') (hl : Ls H' a ys) : LL H' p as (xss.set j ys) := by
  have hja : j < as.length := (List.getElem?_eq_some_iff.mp hj).1
  have ej : as[j] = a := (List.getElem?_eq_some_iff.mp hj).2
  have np : p ∉ [a] := fun z => by
    have : p = a := by simpa using z
    exact h.np (by rw [this, ← ej]; exact List.getElem_mem hja)
  refine ⟨m.but p _ np h.loc, h.nd, h.np, ?_⟩
  have go : ∀ {as : List Addr} {xss : List (List α)} {j : Nat}, Paired (fun a xs => Ls H a xs) as xss → as.Nodup → as[j]? = some a → Paired (fun a xs => Ls H' a xs) as (xss.set j ys) := by
    intro as xss j hp
    induction hp generalizing j with
    | nil => intro _ hj; simp at hj
    | @cons b xs as' xss' r t ih =>
      intro hn hj
      rw [List.nodup_cons] at hn
      cases j with
      | zero =>
        simp only [List.getElem?_cons_zero, Option.some.injEq] at hj
        subst hj
        refine .cons hl (paired_mem t fun c zs hc q => m.ls q fun z => ?_)
        have : c = b := by simpa using z
        rw [this] at hc
        exact hn.1 hc
      | succ j =>
        rw [List.getElem?_cons_succ] at hj
        refine .cons (m.ls r fun z => ?_) (ih hn.2 hj)
        have : b = a := by simpa using z
        rw [this] at hn
        exact hn.1 (List.mem_of_getElem? hj)
  exact go h.ok h.nd hj
theorem atI_addr {A B : Type} {l : List A} {m : List B} {k : Int} {x : B} (hl : l.length = m.length) (h : atI m k = some x) : ∃ (j : Nat) (a : A), ixN m.length k = some j ∧ l[j]? = some a ∧ m[j]? = some x ∧ atI l k = some a := by
  unfold atI at h ⊢
  rw [hl]
  cases q : ixN m.length k with
  | none => rw [q] at h; cases h
  | some j =>
    rw [q] at h
    have hx : m[j]? = some x := h
    have hj := (List.getElem?_eq_some_iff.mp hx).1
    exact ⟨j, l[j]'(by omega), rfl, List.getElem?_eq_getElem (by omega), hx, List.getElem?_eq_getElem (by omega)⟩
/-- o[i].append(x) -/
theorem w_appIn [Imm α] {o i e : Expr} {kk : Int} {xs : List α} {x : α} {apos cpos pos ipos : Pos} (ho : ED X σ H o (Adr.mk p)) (hl : LL H p as xss) (hi : ED X σ H i kk) (hk : atI xss kk = some xs) (h : ED X σ H e x) (hz : xs.length < 10000000) (k : ∀ H1 a, a ∈ as → Mx [a] H H1 → (∀ j, ixN xss.length kk = some j → LL H1 p as (xss.set j (xs ++ [x]))) → D.nx σ H1) (hix : PlainIx i := by exact fun _ _ => rfl)
    (hs : swapsWith (.Call (.Attribute (.Subscript o i ipos) "append" apos) [e] [] cpos) none pos.line X.env = pure false := by rfl) (hbase : attributeBase (.Subscript o i ipos) "append" X.env (eval (.Subscript o i ipos) X.env) = eval (.Subscript o i ipos) X.env := by rfl)
    (hfew : ((backTo cpos (starEach [e] X.env)).all (fun x => !x.1) && (backToKw cpos (keywordEach [] X.env)).all (fun x => x.1.isSome) && decide (([e] : List Expr).length + ([] : List Keyword).length + (if ([] : List Keyword).isEmpty then 0 else 1) < 30)) = true := by rfl)
    (hline : (apos.endLine == cpos.line) = true := by rfl) (he : starEach [e] X.env = [(false, eval e X.env)] := by rfl) : wst X (.Expr (.Call (.Attribute (.Subscript o i ipos) "append" apos) [e] [] cpos) pos) D σ H := by
  obtain ⟨j, a, h1, h2, h3, h4⟩ := atI_addr hl.len hk
  obtain ⟨xs', hx', r⟩ := pget hl.ok h2
  rw [h3] at hx'
  cases hx'
  refine w_app (ed_ixA hl ho hi h4 hix) r h hz (fun H1 m _ l1 => k H1 a (List.mem_of_getElem? h2) m fun j' hj' => ?_) hs hbase hfew hline he
  rw [h1] at hj'
  cases hj'
  exact hl.set h2 m l1
end
end Oa
set_option Elab.async false
set_option linter.all false
set_option maxRecDepth 100000
set_option maxHeartbeats 1000000
namespace Oa
open PySem PySem.Spec PyProof.Rows L2
/-! ### tuples whose object is known -/
instance {α : Type} : Inhabited (FTup α) := ⟨⟨[]⟩⟩
abbrev tupO (its : List Value) : Obj := { cls := .type "tuple", data := .seq its.toArray }
section
variable {α : Type} [Rep α] {X : Cx} {σ : St} {H : Hp} {a b e : Expr} {pos p : Pos}
theorem frz_sq {K : PySem.W.Frag} {q : Addr} {o : Obj} {vs : List V} (h : H q = some (.frz o (.tup vs))) : SqT K H q vs := .inl (.inr ⟨o, h⟩)
theorem ftup_new {pins : List (Addr × Obj)} {s : Shared} {xs : List V} {its : List Value} {Q : VK} (I : Inv X pins σ H s) (r : Vals xs its) (hz : xs.length ≤ sizeLine) (q : ∀ l o, H l = none → o.dict = none → Q (.ref l) (upd H l (.frz o (.tup xs)))) :
    EP X pins σ Q (.ref s.heap.objs.size) { s with heap := s.heap.push (tupO its) } :=
  ⟨.ref s.heap.objs.size, _, I.laid (t' := s.toks) (o := .frz (tupO its) (.tup xs)) (fun b ob q => Heap.get?_push_of_some _ q) (Nat.le_refl _) ⟨Heap.get?_push_size _ rfl, hz, its, r, IsTup.new _ _⟩, rfl, q _ _ (I.hok.fresh (Nat.le_refl _)) rfl⟩
theorem call_tupleF : CallR X (.type "tuple") (fun xs H Q => ∃ p ys, xs = [.ref p] ∧ SqL X.K H p ys ∧ ∀ l o, H l = none → o.dict = none → Q (.ref l) (upd H l (.frz o (.tup ys)))) := by
  intro pins s σ H xs us Q I r h
  obtain ⟨p, ys, rfl, hq, q⟩ := h
  obtain ⟨u, rfl, rx⟩ := vals1 r
  cases rx
  obtain ⟨its, r', pl, hz⟩ := I.list hq
  have hlen := r'.length
  refine call_tuple_list pl.isList (fun h' kp => ?_) (by simp only [List.size_toArray] <;> omega)
  exact ftup_new (s := { s with heap := h' }) (I.kept (t' := s.toks) kp) r' hz q
theorem ed_tupleF {xs : List α} {p : Pos} (ha : ED X σ H a xs) (hg : Gl X "tuple") (hm : X.mg "tuple" = none) (he : starEach [a] X.env = [(false, eval a X.env)] := by rfl) : ED X σ H (.Call (.Name "tuple" p) [a] [] pos) (FTup.mk xs) :=
  ed_ct1 call_tupleF hg hm (by decide +kernel) ha (fun H2 u Q _ ⟨q, hv, vs, hp, hA⟩ k => ⟨q, vs, by rw [hv], SqL.of hp, fun l o hl hd => k _ _ (Ex.new hl) ⟨l, o, vs, rfl, hd, upd_same, hA.up (Ex.new hl)⟩⟩) (he := he)
theorem ed_lenF {t : FTup α} {p : Pos} (ha : ED X σ H a t) (hg : Gl X "len") (hm : X.mg "len" = none) (he : starEach [a] X.env = [(false, eval a X.env)] := by rfl) : ED X σ H (.Call (.Name "len" p) [a] [] pos) (t.items.length : Int) :=
  ed_cb1 call_len_seq hg hm PySem.boot_len ha (fun H2 u Q _ ⟨q, o, vs, hv, hd, hp, hA⟩ k => ⟨q, vs, by rw [hv], .inr (frz_sq hp), by rw [hA.len]; exact k _ H2 (Ex.rf _) rfl⟩) (he := he)
theorem ed_ixF {l i : Expr} {t : FTup α} {k : Int} (hl : ED X σ H l t) (hi : ED X σ H i k) {x : α} (hx : atI t.items k = some x) (hs : PlainIx i := by exact fun _ _ => rfl) : ED X σ H (.Subscript l i pos) x := fun H1 e1 Q q =>
  we_of (pe_ix ix_tup pe_we pe_we hs) (hl H1 e1 _ fun v H2 e2 ⟨p, o, vs, hv, hd, hp, hA⟩ => hi H2 (Ex.tr e1 e2) _ fun w H3 e3 hw => by
    subst hv
    obtain ⟨u, hu, hux⟩ := at_is (hA.up e3) hx
    exact ⟨p, vs, k, u, rfl, hw, frz_sq (e3 p _ hp), hu, q u H3 (Ex.tr e2 e3) hux⟩)
theorem sl_F : SlR X (fun x lo hi H Q => ∃ a o xs, x = .ref a ∧ H a = some (.frz o (.tup xs)) ∧ (HT.sIx xs.length 0 lo = 0 ∧ HT.sIx xs.length xs.length hi = xs.length → Q (.ref a) H) ∧ ∀ l o, H l = none → o.dict = none → Q (.ref l) (upd H l (.frz o (.tup (cutV xs lo hi))))) := by
  intro pins s σ H x v vl vu lo hi sl Q I rx hs pl pu h
  obtain ⟨a, o, xs, rfl, hx, q1, q2⟩ := h
  cases rx
  obtain ⟨its, r, ht, hz⟩ := I.tuple (frz_sq hx)
  have hlen : its.toArray.size = xs.length := by rw [List.size_toArray]; exact r.length.symm
  refine ⟨"tuple", _, PyProof.Rows.slot_tuple_getitem.lookup, ht.typeIs, ?_⟩
  by_cases hw : HT.sIx xs.length 0 lo = 0 ∧ HT.sIx xs.length xs.length hi = xs.length
  · exact getItem_tuple_whole ht hs pl pu (by rw [hlen]; exact hw) ⟨.ref a, H, I, rfl, q1 hw⟩
  · refine HT.getItem_tuple_cut ht hs pl pu (by rw [hlen]; exact hw) ?_ (by rw [hlen]; exact hz)
    rw [hlen]
    exact ftup_new I ((r.drop (HT.sIx xs.length 0 lo)).take (HT.sIx xs.length xs.length hi - HT.sIx xs.length 0 lo)) (Nat.le_trans (cutV_length xs lo hi) hz) q2
theorem ed_slF {t : FTup α} {lo hi : Option Expr} {l h : Option Int} {p2 : Pos} (he : ED X σ H e t) (hl : EO X σ H lo l) (hh : EO X σ H hi h) : ED X σ H (.Subscript e (.Slice lo hi none p2) pos) (FTup.mk (cutD t.items l h)) := by
  obtain ⟨tl, pl, kl⟩ := hl
  obtain ⟨th, ph, kh⟩ := hh
  exact fun H1 e1 Q q => we_of (pe_slice sl_F pe_we pl ph) (he H1 e1 _ fun v H2 e2 ⟨p, o, vs, hv, hd, hp, hA⟩ => kl H2 (Ex.tr e1 e2) _ fun H3 e3 => kh H3 (Ex.tr (Ex.tr e1 e2) e3) _ fun H4 e4 => by
    subst hv
    have k := Ex.tr e3 e4
    refine ⟨p, o, vs, rfl, k p _ hp, fun hw => ?_, fun r o' hr ho => ?_⟩
    · refine q _ H4 (Ex.tr e2 k) ⟨p, o, vs, rfl, hd, k p _ hp, ?_⟩
      have z := cut_is (hA.up k) l h
      have z2 : cutV vs l h = vs := by unfold cutV; rw [hw.1, hw.2]; simp
      rwa [z2] at z
    · have k2 : Ex H4 (upd H4 r (.frz o' (.tup (cutV vs l h)))) := Ex.new hr
      exact q _ _ (Ex.tr (Ex.tr e2 k) k2) ⟨r, o', _, rfl, ho, upd_same, cut_is ((hA.up k).up k2) l h⟩)
/-- for x in t -/
theorem src_F [Imm α] {P : List Addr} {tg l : Expr} {t : FTup α} (h : ED X σ H l t) : Src X σ H P tg l t.items := ⟨_, pi_tup pe_we, fun H1 e1 R q => h H1 e1 _ fun v H2 e2 ⟨a, o, vs, hv, hd, hp, hA⟩ => ⟨a, hv, ⟨vs, frz_sq hp⟩, q _ H2 e2 (by
  refine ⟨fun H' i m hi => ?_, fun H' m => ⟨vs, frz_sq (m.tx a _ True.intro hp), by rw [hA.len]; exact Nat.le_refl _⟩, fun H' i v H'' m y => ?_⟩
  · have hi' : i < vs.length := by rw [hA.len]; exact hi
    exact ⟨vs, vs[i], frz_sq (m.tx a _ True.intro hp), by simp [hi']⟩
  · obtain ⟨e, y⟩ := y
    subst e
    refine ⟨Ex.rf _, fun x hx => ?_⟩
    obtain ⟨v', hv', r⟩ := pget' hA hx
    have e2 := y vs (frz_sq (m.tx a _ True.intro hp))
    rw [hv'] at e2
    cases e2
    exact Imm.tx m.tx r)⟩⟩
end
section
variable {α : Type} [DecidableEq α] [Rep α] [Dat α] {X : Cx} {σ : St} {H : Hp} {a e : Expr} {pos p : Pos}
open PySem.W (Datum DatumOrd)
/-- t.count(y) -/
theorem ed_countF {o y : Expr} {t : FTup α} {z : α} {apos : Pos} (hu : X.A.units + 1 + Datum.depth α < cLine) (ho : ED X σ H o t) (hy : ED X σ H y z)
    (hbase : attributeBase o "count" X.env (eval o X.env) = eval o X.env := by rfl)
    (hfew : ((backTo pos (starEach [y] X.env)).all (fun x => !x.1) && (backToKw pos (keywordEach [] X.env)).all (fun x => x.1.isSome) && decide (([y] : List Expr).length + ([] : List Keyword).length + (if ([] : List Keyword).isEmpty then 0 else 1) < 30)) = true := by rfl)
    (hline : (apos.endLine == pos.line) = true := by rfl) (htr : backTo pos (starEach [y] X.env) = [(false, eval y X.env)] := by rfl) : ED X σ H (.Call (.Attribute o "count" apos) [y] [] pos) ((t.items.countP fun w => decide (w = z) : Nat) : Int) := fun H1 e1 Q q pins s I => by
  refine wpAny_Call_method hbase hfew hline PySem.F.plainAttrs_tuple PySem.F.slot_tuple_count PySem.F.type_tuple_count (thn (ho H1 e1 (fun v H2 => Ex H1 H2 ∧ Rep.is H2 v t) (fun v H2 e2 hv => ⟨e2, hv⟩) pins s I) fun u s1 ⟨v, H2, I2, rv, e2, hv⟩ => ?_)
  obtain ⟨d, ob, vs, ev, hd, hp, hA⟩ := id hv
  subst ev
  cases rv
  obtain ⟨its, rvs, it, _⟩ := I2.tuple (frz_sq hp)
  refine ⟨it.typeIs, fun a' e' => ?_, ?_⟩
  · cases e'
    obtain ⟨k1, _⟩ := I2.hok d _ hp
    exact ⟨ob, k1, hd⟩
  rw [htr]
  refine Calls.callWith_builtin rfl (Calls.evalArgs_plain (Calls.spliced_cons (thn (hy H2 (Ex.tr e1 e2) (fun w H3 => Ex H2 H3 ∧ Rep.is H3 w z) (fun w H3 e3 hw => ⟨e3, hw⟩) pins s1 I2) fun iv s2 ⟨w, H3, I3, rw', e3, hw⟩ => Calls.spliced_nil ?_)))
  obtain ⟨its3, rvs3, it3, _⟩ := I3.tuple (frz_sq (e3 d _ hp))
  have hl := it3
  obtain ⟨oo, o1, o2, n, o3⟩ := hl
  refine PySem.W.count_tuple_datum (xs := t.items) (vs := its3.toArray) ⟨oo, o1, o2, n, o3⟩ (by simpa using rdAll_is I3 (hA.up e3) rvs3) (rd_is I3 hw rw') hu ?_
  exact ⟨.int _, H3, I3.tok _, ⟨_, rfl⟩, q _ H3 (Ex.tr e2 e3) rfl⟩
end
/-! order of known tuples -/
open PySem.W (DatumOrd) in
theorem sto_F {α : Type} [DecidableEq α] [Rep α] [Dat α] (O : Sto (DatumOrd.lt : Tup α → Tup α → Bool)) : Sto (DatumOrd.lt : FTup α → FTup α → Bool) where
  irr a := O.irr ⟨a.items⟩
  tr a b c := O.tr ⟨a.items⟩ ⟨b.items⟩ ⟨c.items⟩
  tri a b := by
    rcases O.tri ⟨a.items⟩ ⟨b.items⟩ with h | h | h
    · exact .inl h
    · refine .inr (.inl ?_)
      cases a; cases b
      injection h with h
      exact congrArg FTup.mk h
    · exact .inr (.inr h)
end Oa
set_option Elab.async false
set_option linter.all false
set_option maxRecDepth 100000
set_option maxHeartbeats 1000000
/-! What the law's helpers compute, with their own checks. -/
namespace Oa
open PySem.W (DatumOrd)
def short {α : Type} (xs : List α) : Bool := decide (xs.length ≤ 50000)
def m_ring (t : T0) : Option (List Int) := do
  let _ ← ck (short t.items)
  let here ← foldO (fun here _ => do
    let _ ← ck (few here)
    mapO (getI t.items) here) (rngI t.items.length) (rng 0 t.items.length)
  some ((rng 0 t.items.length).filter fun p => decide (p ∈ here))
def m_row (rows : List T0) : Option T0 := do
  let s ← sortO DatumOrd.lt rows
  let f ← foldO (fun acc (r : T0) => extO acc (r.items.map (· + 1))) [0] s.reverse
  some ⟨f⟩
def m_hang : Nat → List (List Int) → Int → Option T0
  | 0, _, _ => none
  | k + 1, ahead, place => do
    let l ← getI ahead place
    let _ ← ck (few l)
    let ts ← mapO (m_hang k ahead) l
    m_row ts
def m_least (row : P0) : Option P0 := if short row.items then (match (rng 0 row.items.length).map (rot row) with
  | [] => none
  | x :: xs => some (PySem.W.minOf x xs)) else none
def m_ahead (t : T0) (rest : List Int) : Option (List (List Int)) := do
  let _ ← ck (short t.items)
  foldO (fun ahead p => if p ∈ rest then some ahead else do
    let q ← getI t.items p
    let l ← getI ahead q
    let l' ← appO l p
    setI ahead q l') (t.items.map fun _ => ([] : List Int)) (rng 0 t.items.length)
def m_walk (t : T0) (ahead : List (List Int)) : Nat → List Int → List T0 → Int → Option (List Int × List T0)
  | 0, _, _, _ => none
  | k + 1, rest, row, place => if place ∈ rest then do
      let h ← m_hang 9 ahead place
      let row' ← appO row h
      let q ← getI t.items place
      m_walk t ahead k (rest.erase place) row' q
    else some (rest, row)
def m_cycles (t : T0) (ahead : List (List Int)) : Nat → List Int → Kvs → Option Kvs
  | 0, _, _ => none
  | k + 1, rest, h => match rest with
    | [] => some h
    | p :: _ => do
      let w ← m_walk t ahead (rest.length + 1) rest [] p
      let pc ← m_least ⟨w.2⟩
      let _ ← ck (few h)
      m_cycles t ahead k w.1 (putD h pc ((lookD h pc).getD 0 + 1))
def m_heap (t : T0) : Option Kvs := do
  let rest ← m_ring t
  let ahead ← m_ahead t rest
  m_cycles t ahead (rest.length + 1) rest []
def m_branches (t : T0) : Option (List T0) := do
  let f ← foldO (fun found d => if d = 1 then appO found [0] else do
    let l ← lastO found
    let l' ← appO l (d - 1)
    some (found.set (found.length - 1) l')) ([] : List (List Int)) (t.items.drop 1)
  let _ ← ck (few f)
  some (f.map PySem.W.Tup.mk)
def m_isTree : Nat → T0 → Option Unit
  | 0, _ => none
  | k + 1, t => do
    let h ← getI t.items 0
    let _ ← ck (decide (h = 0) && short t.items)
    let _ ← foldO (fun (_ : Unit) at' => do
      let x ← getI t.items at'
      let y ← getI t.items (at' - 1)
      ck (decide (1 ≤ x) && decide (x ≤ y + 1))) () (rng 1 t.items.length)
    let rows ← m_branches t
    let _ ← ck (short rows)
    let _ ← foldO (fun (_ : Unit) at' => do
      let x ← getI rows (at' - 1)
      let y ← getI rows at'
      ck (!DatumOrd.lt x y)) () (rng 1 rows.length)
    foldO (fun (_ : Unit) r => m_isTree k r) () rows
def m_isPiece (p : P0) : Option Unit := do
  let _ ← ck (!p.items.isEmpty && few p.items)
  let _ ← foldO (fun (_ : Unit) r => m_isTree 9 r) () p.items
  let l ← m_least p
  ck (decide (l = p))
def m_nboard (many number : Int) : Option T0 := do
  let _ ← ck (small many)
  let f ← foldO (fun (st : List Int × Int) _ => do
    let d ← divO st.2 many
    let l ← appO st.1 (st.2 % many)
    some (l, d)) ([], number) (rng 0 many)
  some ⟨f.1⟩
def m_fall (h : Kvs) : Option (FTup P0) := do
  let _ ← ck (few h)
  let s ← sortO DatumOrd.lt (h.map (·.1))
  let f ← foldO (fun found p => do
    let k ← lookD h p
    let _ ← ck (decide (0 ≤ k ∧ k ≤ 50000))
    extO found (List.replicate k.toNat p)) [] s.reverse
  some ⟨f⟩
def m_isHeap (h : Kvs) (places : Int) : Option Unit := do
  let size ← foldO (fun size p => do
    let _ ← m_isPiece p
    let k ← lookD h p
    let _ ← ck (decide (1 ≤ k))
    let m ← mulO k (m_size p)
    some (size + m)) 0 (h.map (·.1))
  ck (decide (size = places))
def m_ways : Nat → T0 → Option Int
  | 0, _ => none
  | k + 1, t => do
    let rows ← m_branches t
    let _ ← ck (short rows)
    foldO (fun found at' => do
      let r ← getI rows at'
      let w ← m_ways k r
      let m ← mulO found w
      mulO m (((rows.take (at' + 1).toNat).countP fun y => decide (y = r) : Nat) : Int)) 1 (rng 0 rows.length)
def m_selves (row : FTup P0) : Option Int := do
  let _ ← ck (short row.items)
  foldO (fun found at' => do
    let p ← getI row.items at'
    let _ ← ck (short p.items)
    let m1 ← mulO found (((row.items.take (at' + 1).toNat).countP fun y => decide (y = p) : Nat) : Int)
    let m2 ← mulO m1 (((rng 0 p.items.length).filter fun k => decide (rot p k = p)).length : Int)
    foldO (fun f t => do
      let w ← m_ways 9 t
      mulO f w) m2 p.items) 1 (rng 0 row.items.length)
def ftO (xs : List (FTup P0)) : Option (List (FTup P0)) := if (decide (xs.length < 2) || xs.all fun t => !t.items.isEmpty) && few xs then some (isort DatumOrd.lt xs) else none
def m_allRows (places : Int) : Option (List (FTup P0)) := do
  let c ← getI [1, 1, 4, 27, 256] places
  let f ← foldO (fun found number => do
    let b ← m_nboard places number
    let h ← m_heap b
    let r ← m_fall h
    if r ∈ found then some found else appO found r) [] (rng 0 c)
  ftO f
def m_lawTests (places : Int) : Option (List P0) := do
  let ts ← m_testsTo places
  let _ ← ck (few ts && ts.all fun t => few t.items)
  some (ts.filter fun t => decide (m_size t = places))
/-- all that the law asks of what is told, before the boards -/
def m_law1 (n : Int) (told : List Kvs) : Option (List (FTup P0)) := do
  let _ ← ck (few told)
  let _ ← foldO (fun (_ : Unit) h => m_isHeap h n) () told
  let rows ← mapO m_fall told
  let _ ← ck (((rows.zip (rows.drop 1)).map fun p => DatumOrd.lt p.1 p.2).all id)
  let many ← m_many n
  let _ ← ck (decide (many = (rows.length : Int)))
  let _ ← (if n < 5 then do
    let a ← m_allRows n
    ck (decide (rows = a)) else some ())
  let ob ← foldO (fun (s : Int × Int) k => do
    let a ← mulO s.1 (k + 1)
    let b ← mulO s.2 n
    some (a, b)) (1, 1) (rng 0 n)
  let ss ← mapO (fun r => do
    let s ← m_selves r
    divO ob.1 s) rows
  let _ ← ck (decide (ss.sum = ob.2))
  let _ ← (if 0 < n then do
    let t ← m_lawTests n
    let fs ← mapO (fun (r : FTup P0) => getI r.items 0) (rows.filter fun r => decide ((r.items.length : Int) = 1))
    ck (decide (fs = t)) else some ())
  some rows
end Oa
set_option Elab.async false
set_option linter.all false
set_option maxRecDepth 100000
set_option maxHeartbeats 1000000
namespace Oa
open PySem PySem.Spec PyProof.Rows L2
/-! ### sorted(pairs, key=lambda p: p[1]) -/
section
variable {prog : Program} {w : World} {A : Around} {s : Shared}
theorem key_turn {f c' T : Addr} {q x : Str} {params : Arguments} {scope : Scope} {cl : List (Str × Addr)} {pm ctv u : Value} {p1 p2 p3 : Pos} {j : Nat} {its : Array Value} {k : PyData} (hroom : A.depth < recursionLimit) (lim : s.heap.NoLimit)
    (hf : s.heap.get? f = some (PySem.W.kla_obj "<lambda>" q params (.Subscript (.Name x p1) (.Constant (.int 1) j p2) p3) scope cl pm c' ctv)) (hcd : s.heap.CodeRec (.ref c') q)
    (hbind : bindArgs (PySem.W.kla_fn "<lambda>" q params (.Subscript (.Name x p1) (.Constant (.int 1) j p2) p3) scope cl pm (.ref c') ctv) ⟨[.ref T], []⟩ = pure [(x, .ref T)])
    (co : scope.isCoroutine = false) (gen : scope.isGenerator = false) (kind : scope.kind = .function) (nc : ∀ y ∈ scope.names, y.2 ≠ .cell) (hx : scope.names.lookup x = some .local) (hd : (x == ("__debug__" : Str)) = false)
    (ht : PyProof.Rows.IsTup s.heap T its) (hu : its[1]? = some u) (hk : Reads s.heap u k []) :
    wpAny (model prog w) A (call (.ref f) [.ref T]) (PySem.W.KeyPure k s) (fun _ _ => False) s := by
  refine wpAny_call ?_
  refine PySem.W.kla_callFunE hroom hf rfl co gen rfl hcd ?_
  rw [hbind]
  refine wpAny_pure (wpAny_newFunctionEnv nc (fun y hy => ?_) (fun h₁ hns hsb => ⟨lim.fresh _ hsb, ?_⟩) kind)
  · have e : y = (x, .ref T) := by simpa using hy
    rw [e]
    exact hx
  · have kp : ∀ b o, s.heap.get? b = some o → h₁.get? b = some o := fun b o e => hsb.extBut b o (Nat.ne_of_lt (Heap.lt_size e)) (Heap.get?_push_of_some _ e)
    have hfin : ∀ tk, PySem.W.KeyPure k s u { s with heap := h₁, toks := tk } := fun tk => ⟨h₁, tk, rfl, kp, PyProof.Rows.Reads.keeps kp hk⟩
    have ht1 : PyProof.Rows.IsTup h₁ T its := ht.keeps kp
    have hlt : 1 < its.size := (Array.getElem?_eq_some_iff.mp hu).1
    refine PySem.W.kla_codeExpr ?_
    refine wpAny_Subscript_Constant_late (wpAny_Name (wpAny_loadName_local (m := fun y => ([(x, Value.ref T)] : List (Str × Value)).reverse.lookup y) (v := .ref T) kind hx hns ?_ ?_) hd)
    · show ([(x, Value.ref T)] : List (Str × Value)).lookup x = _
      rw [List.lookup_cons, beq_self_eq_true]
    · refine wpAny_Constant_int ⟨"tuple", "tuple.__getitem__", slot_tuple_getitem.lookup, ht1.typeIs, ?_⟩
      exact PyProof.Rows.getItem_tuple (j := 1) ht1 (by omega) (by omega) (by
        unfold seqIndex?
        simp
        omega) hu (hfin _)
end
section
variable {X : Cx} {pins : List (Addr × Obj)} {σ : St} {H : Hp} {s : Shared}
/-- the lambda is made -/
theorem lam_make {c P : Addr} {params : Arguments} {body : Expr} {scope : Scope} {pos : Pos} {E : Value → Shared → Prop} {Q : Value → Shared → Prop} (I : Inv X pins σ H s) (TB : LamX.TabB X.base X.mg c P) (hcode : X.env.code = .ref c) (hq : X.env.qual ++ "<lambda>" = lamQ) (hT : TabT H P)
    (hdef : defaultsOf params X.env = ([], [])) (hfree : ∀ y ∈ scope.names, y.2 = .free → ∃ c, X.env.cells.lookup y.1 = some c)
    (h : ∀ (f c' : Addr) (pm ctv : Value) (H1 : Hp) (s' : Shared), Inv X pins σ H1 s' → Ex H H1 → s'.heap.get? f = some (PySem.W.kla_obj "<lambda>" lamQ params body scope (cloFrom X.env.cells scope.names []) pm c' ctv) → H1 c' = some (CodeO c' lamQ) → Q (.ref f) s') :
    wpAny (model X.prog X.w) X.A (eval (.Lambda params body scope pos) X.env) Q E s := by
  obtain ⟨ps, hP, ht, ha⟩ := id hT
  refine PySem.W.kla_eval hdef ?_
  rw [hq]
  have bP : s.heap.BuiltinsAt X.mg P := TB.bm.keeps I.bk
  have hP' : s.heap.get? P = some { cls := .none, data := .fields ps } := I.hok P _ hP
  cases hc : codeAmong pos ps.toList with
  | none =>
    refine PySem.W.kla_makeFunction (mg := X.mg) (c := c) (P := P) (ps := ps) (closure_ok hfree) I.ok.glob (I.mod.glob.keeps I.bk) hcode (TB.code.keeps I.bk) hP' ht hc TB.gP bP fun c' ctv h' tk hx hge hlt hrec htb => ?_
    obtain ⟨c2, oc, vs, t, e2, hoc, hd, hv⟩ := hrec
    cases e2
    have nC : H c' = none := I.hok.fresh hge
    have I1 := LamX.inv_table (t' := tk) (q := lamQ) (more := #[rawInt pos.line, rawInt pos.col, .ref c']) (h' := h'.push (PySem.W.kla_obj "<lambda>" lamQ params body scope (cloFrom X.env.cells scope.names []) ((X.mg "__name__").getD .none) c' ctv)) I hP
      (fun b o hb e => Heap.get?_push_of_some _ (hx b o hb e)) (Heap.get?_push_of_some _ htb) hge ⟨oc, vs, t, Heap.get?_push_of_some _ hoc, hd, hv⟩
    have nPc : P ≠ c' := fun z => by
      rw [z, nC] at hP
      cases hP
    have kk : ∀ a o, H a = some o → a ≠ P → upd (upd H P (.tbl (ps ++ #[rawInt pos.line, rawInt pos.col, .ref c']))) c' (CodeO c' lamQ) a = some o := fun a o e n => by
      rw [upd_ne (fun z => by rw [z, nC] at e; cases e), upd_ne n]
      exact e
    have cP : ∀ c0, H c0 = some (CodeO c0 lamQ) → c0 ≠ P := fun c0 e z => by
      rw [z, hP] at e
      cases e
    have hE : Ex H (upd (upd H P (.tbl (ps ++ #[rawInt pos.line, rawInt pos.col, .ref c']))) c' (CodeO c' lamQ)) := by
      refine ⟨fun a o e n => kk a o e fun z => ?_, fun a o e => ?_, fun P2 t2 => ?_⟩
      · rw [z, hP] at e
        cases e
        cases n
      · by_cases z : a = P
        · rw [z, upd_ne nPc, upd_same]
          exact fun y => nomatch y
        · rw [kk a o e z]
          exact fun y => nomatch y
      · by_cases z : P2 = P
        · rw [z]
          refine ⟨_, by rw [upd_ne nPc, upd_same], ?_, fun p' cv hcv => ?_⟩
          · rw [show (ps ++ #[rawInt pos.line, rawInt pos.col, .ref c']).toList = ps.toList ++ [rawInt pos.line, rawInt pos.col, .ref c'] by simp]
            exact PySem.TriplesOk_snoc _ _ _ _ ht
          · rw [show (ps ++ #[rawInt pos.line, rawInt pos.col, .ref c']).toList = ps.toList ++ [rawInt pos.line, rawInt pos.col, .ref c'] by simp] at hcv
            rcases LamX.among_app _ ht hcv with y | y
            · obtain ⟨c0, e1, e2⟩ := ha p' cv y
              exact ⟨c0, e1, kk _ _ e2 (cP c0 e2)⟩
            · exact ⟨c', y, upd_same⟩
        · obtain ⟨ps', a1, a2, a3⟩ := t2
          refine ⟨ps', kk _ _ a1 z, a2, fun p' cv hcv => ?_⟩
          obtain ⟨c0, e1, e2⟩ := a3 p' cv hcv
          exact ⟨c0, e1, kk _ _ e2 (cP c0 e2)⟩
    exact h h'.objs.size c' ((X.mg "__name__").getD .none) ctv _ _ I1 hE (Heap.get?_push_size _ rfl) upd_same
  | some cv =>
    obtain ⟨c', e, hco⟩ := ha pos cv hc
    subst e
    refine PySem.W.kla_makeFunctionHit (mg := X.mg) (c := c) (P := P) (ps := ps) (closure_ok hfree) I.ok.glob (I.mod.glob.keeps I.bk) hcode (TB.code.keeps I.bk) hP' ht hc bP fun ctv h' tk hx hsz => ?_
    have I1 : Inv X pins σ H { s with heap := h'.push (PySem.W.kla_obj "<lambda>" lamQ params body scope (cloFrom X.env.cells scope.names []) ((X.mg "__name__").getD .none) c' ctv), toks := tk } := I.kept fun b o e => Heap.get?_push_of_some _ (hx b o e)
    exact h h'.objs.size c' ((X.mg "__name__").getD .none) ctv H _ I1 (Ex.rf H) (Heap.get?_push_size _ rfl) hco
end
section
variable {X : Cx} {σ : St} {H : Hp} {a : Expr} {pos p : Pos}
open PySem.W (Datum DatumOrd EachIs)
theorem each_zip2 {β : Type} {R : Value → V × β → Prop} {F : V → β → Prop} : ∀ {us : List Value} {vs : List V} {ys : List β}, Vals vs us → Paired F vs ys → (∀ u v y, RelV v u → F v y → R u (v, y)) → EachIs R us (vs.zip ys)
  | _, _, _, .nil, .nil, _ => .nil
  | _, _, _, .cons r t, .cons r' t', k => .cons (k _ _ _ r r') (each_zip2 t t' k)
theorem each_of_zip2 {β : Type} {F : V → β → Prop} : ∀ {us : List Value} {ps : List (V × β)}, EachIs (fun u p => RelV p.1 u ∧ F p.1 p.2) us ps → Vals (ps.map (·.1)) us ∧ Paired F (ps.map (·.1)) (ps.map (·.2))
  | _, _, .nil => ⟨.nil, .nil⟩
  | _, _, .cons h t => ⟨.cons h.1 (each_of_zip2 t).1, .cons h.2 (each_of_zip2 t).2⟩
theorem reads_ints {h : Heap} : ∀ {us : List Value} {l : List Int}, Vals (l.map V.int) us → ReadsAll h us (l.map Datum.toD) []
  | _, [], .nil => .nil
  | _, x :: l, .cons r t => by
    obtain ⟨tk, rfl⟩ := r
    exact ReadsAll.cons (as := []) (bs := []) (.int _ _) (reads_ints t)
theorem pair_len {z : Int} {t : T0} : True := trivial
theorem sort_pairs (ps : List (V × (Int × T0))) : (ps.mergeSort (PySem.W.dataLe false fun p : V × (Int × T0) => Datum.toD p.2.2)).map (fun p => p.2.2) = isort DatumOrd.lt (ps.map fun p => p.2.2) := by
  rw [← mergeSort_eq sto0]
  refine List.map_mergeSort fun a _ b _ => ?_
  show (!PySem.W.dataLt (Datum.toD b.2.2) (Datum.toD a.2.2)) = (!DatumOrd.lt b.2.2 a.2.2)
  rw [DatumOrd.lt_eq]
/-- sorted(known, key=lambda x: x[1]); the first of each pair is the second's length -/
theorem el_sortKey {c P : Addr} {params : Arguments} {scope : Scope} {lpos kpos p1 p2 p3 : Pos} {j k : Nat} {x : Str} {known ys : List (Int × T0)} (hr : Room (k + 1) X.A) (hc : X.calm = true) (TB : LamX.TabB X.base X.mg c P) (hcode : X.env.code = .ref c) (hT : TabT H P) (ha : ED X σ H a known) (hk : keyed known = some ys) (hg : Gl X "sorted") (hm : X.mg "sorted" = none)
    (hq : X.env.qual ++ "<lambda>" = lamQ := by rfl) (hdef : defaultsOf params X.env = ([], []) := by rfl)
    (hbind : ∀ (q : Str) (cl : List (Str × Addr)) (pm cv ctv v : Value), bindArgs (PySem.W.kla_fn "<lambda>" q params (.Subscript (.Name x p1) (.Constant (.int 1) j p2) p3) scope cl pm cv ctv) ⟨[v], []⟩ = pure [(x, v)] := by intros; rfl)
    (co : scope.isCoroutine = false := by rfl) (gen : scope.isGenerator = false := by rfl) (kind : scope.kind = .function := by rfl) (nc : ∀ y ∈ scope.names, y.2 = .local := by decide) (hx : scope.names.lookup x = some .local := by rfl) (hd : (x == ("__debug__" : Str)) = false := by decide)
    (htr : backTo pos (starEach [a] X.env) = [(false, eval a X.env)] := by rfl) (hst : starEach [a] X.env = [(false, eval a X.env)] := by rfl)
    (hkw : (backToKw pos (keywordEach [⟨some "key", .Lambda params (.Subscript (.Name x p1) (.Constant (.int 1) j p2) p3) scope lpos, kpos⟩] X.env)).filterMap (·.1) = [Str.ofString "key"] := by rfl)
    (hall : (backToKw pos (keywordEach [⟨some "key", .Lambda params (.Subscript (.Name x p1) (.Constant (.int 1) j p2) p3) scope lpos, kpos⟩] X.env)).all (·.1.isSome) = true := by rfl) (hnone : (backToKw pos (keywordEach [⟨some "key", .Lambda params (.Subscript (.Name x p1) (.Constant (.int 1) j p2) p3) scope lpos, kpos⟩] X.env)).any (·.1.isNone) = false := by rfl) :
    EL X σ H (.Call (.Name "sorted" p) [a] [⟨some "key", .Lambda params (.Subscript (.Name x p1) (.Constant (.int 1) j p2) p3) scope lpos, kpos⟩] pos) ys := fun H1 e1 Q q pins s I => by
  unfold keyed at hk
  split at hk
  · rename_i hlen
    rw [Bool.and_eq_true] at hlen
    have hkl := few_is hlen.1
    have hall2 : ∀ p ∈ known, p.1 = (p.2.items.length : Int) ∧ ∃ y r, p.2.items = y :: r := fun p hp => by
      have z := List.all_eq_true.mp hlen.2 p hp
      rw [Bool.and_eq_true] at z
      refine ⟨of_decide_eq_true z.1, ?_⟩
      cases q : p.2.items with
      | nil => rw [q] at z; simp at z
      | cons y r => exact ⟨y, r, rfl⟩
    have ey := Option.some.inj hk
    refine wpAny_Call_Name_kw (ld_blt (u := .builtin "sorted") I hg hm (by decide +kernel) ?_ (by decide) (by decide))
    refine PyProof.Rows.callWith_kw ?_ (by rw [htr] <;> rfl) (by rw [htr] <;> rfl) hall hnone
    rw [htr]
    refine Calls.spliced_cons (thn (ha H1 e1 (fun v H2 => Ex H1 H2 ∧ Rep.is H2 v known) (fun v H2 e2 hv => ⟨e2, hv⟩) pins s I) fun u s1 ⟨v, H2, I2, rv, e2, hv⟩ => Calls.spliced_nil ?_)
    rw [hkw]
    show wpAny _ _ (evalAll ((do let v ← eval (.Lambda params (.Subscript (.Name x p1) (.Constant (.int 1) j p2) p3) scope lpos) X.env; standAt pos; pure v) :: [])) _ _ s1
    refine wpAny_evalAll_cons (wpAny_bind (lam_make I2 TB hcode hq ((e1.tr e2).tab P hT) hdef (fun y hy e => by rw [nc y hy] at e; cases e) fun f c' pm ctv H3 s3 I3 e3 hf hco => wpAny_bind (wpAny_standAt (wpAny_pure (wpAny_evalAll_nil ?_)))))
    obtain ⟨pl, ev, vs, hp, hA⟩ := Rep.up e3 hv
    subst ev
    cases rv
    obtain ⟨its, rvs, hpl, hzz⟩ := I3.list (SqL.of hp)
    have hzl : (vs.zip known).length = known.length := by rw [List.length_zip, hA.len, Nat.min_self]
    have hzs : (vs.zip known).map (·.2) = known := zip_snd hA.len
    have hmap : (vs.zip known).map (fun p : V × (Int × T0) => Datum.toD p.2.2) = (known.map (·.2)).map Datum.toD := by
      rw [← hzs, List.map_map, List.map_map, hzs]
      rfl
    have hmem : ∀ p ∈ vs.zip known, p.2 ∈ known := fun p hp => (List.of_mem_zip hp).2
    have hR : EachIs (fun u (p : V × (Int × T0)) => RelV p.1 u ∧ Rep.is H3 p.1 p.2) its (vs.zip known) := each_zip2 rvs hA fun u v y a b => ⟨a, b⟩
    have room := hr.un
    obtain ⟨⟨oc, fvs, tq, hoc, hdc, hvc⟩, _, _⟩ := I3.hok c' _ hco
    have hz2 : (vs.zip known).map (fun p => p.2.2) = known.map (·.2) := by
      rw [← hzs, List.map_map, hzs]
      rfl
    have hsrt : PySem.W.Sortable ((vs.zip known).map fun p : V × (Int × T0) => Datum.toD p.2.2) := .inl fun d hd => by
      obtain ⟨b, hb, e⟩ := List.mem_map.mp hd
      obtain ⟨_, y, r, ey⟩ := hall2 _ (hmem b hb)
      refine ⟨Datum.toD y, r.map Datum.toD, ?_⟩
      rw [← e]
      show PyData.tuple (b.2.2.items.map Datum.toD) = _
      rw [ey] <;> rfl
    refine PySem.W.sorted_key_data (b := false) (vs := its) (bs := vs.zip known) (fun p : V × (Int × T0) => Datum.toD p.2.2) hpl.isList hR (PySem.W.AllAlike.of fun b b' => DatumOrd.alike b.2.2 b'.2.2) hsrt (by rw [hzl, sizeLine_eq]; omega) (fun b _ => ?_) (ksk_s1 _ _) (fun _ => ksk_l1 _ _) (fun _ => ksk_t1 _ _)
      (fun v b hvb hb h tk kp => ?_) fun out co' h' tk kp hn hD hlen' eo => ?_
    · have := Datum.depth_le b.2.2
      have h0 : Datum.depth T0 ≤ 50 := by decide
      show X.A.units + 2 + _ < cLine
      omega
    · obtain ⟨rb, T, u1, w1, e1', ht, h1, h2⟩ := hvb
      rw [e1'] at rb
      cases rb
      obtain ⟨its2, rr, it2, _⟩ := I3.tuple (SqT.of ht)
      obtain ⟨y1, y2, ey2, ry1, ry2⟩ := vals2 rr
      obtain ⟨tp, tvs, et, htp, htA⟩ := h2
      rw [et] at ry2
      cases ry2
      obtain ⟨its3, r3, it3, _⟩ := I3.tuple (SqT.of htp)
      obtain ⟨o3, ho3, hc3, n3, hd3⟩ := it3
      rw [ints_is htA] at r3
      refine key_turn (s := { s3 with heap := h, toks := tk }) (T := T) (its := its2.toArray) (u := .ref tp) (by have := hr.dp; show X.A.depth < _; omega) (I3.nolimit.keeps kp) (kp _ _ hf) ⟨c', oc, fvs, tq, rfl, kp _ _ hoc, hdc, hvc⟩ (hbind _ _ _ _ _ _) co gen kind (fun y hy => by rw [nc y hy]; decide) hx hd (it2.keeps kp) (by rw [ey2] <;> rfl) ?_
      · exact .tuple (kp _ _ ho3) hc3 hd3 (reads_ints r3)
    · obtain ⟨r1, a1⟩ := each_of_zip2 eo
      have hws : (((vs.zip known).mergeSort (PySem.W.dataLe false fun p : V × (Int × T0) => Datum.toD p.2.2)).map (·.2)) = ys := by
        have h1 : ∀ p ∈ (vs.zip known).mergeSort (PySem.W.dataLe false fun p : V × (Int × T0) => Datum.toD p.2.2), p.2 = ((p.2.2.items.length : Int), p.2.2) := fun p hp => by
          have hp' := hmem p ((List.mergeSort_perm _ _).mem_iff.mp hp)
          exact Prod.ext (hall2 _ hp').1 rfl
        rw [← ey, ← hz2, ← sort_pairs, List.map_map]
        exact List.map_congr_left fun p hp => h1 p hp
      rw [hws] at a1
      have I4 : Inv X pins σ (upd H3 (s3.heap.objs.size + 1) (.lst _)) { s3 with heap := h', toks := tk } := I3.laid (t' := tk) (o := .lst (((vs.zip known).mergeSort (PySem.W.dataLe false fun p : V × (Int × T0) => Datum.toD p.2.2)).map (·.1))) kp (Nat.le_succ _) ⟨by rw [List.length_map, List.length_mergeSort, hzl, sizeLine_eq]; omega, out, co', r1, hD⟩
      have fr := I3.hok.fresh (Nat.le_succ s3.heap.objs.size)
      exact ⟨.ref (s3.heap.objs.size + 1), _, I4, rfl, q _ _ (fresh_b (e2.tr e3) fr) ((e2.tr e3).tr (Ex.new fr)) ⟨_, upd_same, AllIs.up (Ex.new fr) a1⟩⟩
  · cases hk
end
end Oa
set_option Elab.async false
set_option linter.all false
set_option maxRecDepth 100000
set_option maxHeartbeats 1000000
namespace Oa
open PySem PySem.Spec PyProof.Rows L2
theorem incO {xs ys : List Int} {i z m : Int} (h : getI xs i = some z) (h' : setI xs i m = some ys) : ∃ j : Nat, i = (j : Int) ∧ xs[j]? = some z ∧ ys = xs.set j m := by
  obtain ⟨j, e, h1, _⟩ := getI_nat h
  obtain ⟨j', e', _, h2⟩ := setI_nat h'
  have : j = j' := by omega
  subst this
  exact ⟨j, e, h1, h2⟩
theorem mx_ls {P : List Addr} {H H' : Hp} {v : V} {xs : List Int} (m : Mx P H H') (h : Rep.is H v xs) (hP : ∀ a ∈ P, H a = none ∨ v ≠ .ref a) : Rep.is H' v xs := by
  obtain ⟨a, e, hl⟩ := h
  refine ⟨a, e, m.ls hl fun ha => ?_⟩
  rcases hP a ha with q | q
  · obtain ⟨vs, h1, _⟩ := hl
    rw [h1] at q
    cases q
  · exact q e
theorem ref_ne {H : Hp} {v : V} {xs : List Int} {p : Addr} (h : Rep.is H v xs) (hp : H p = none) : v ≠ .ref p := fun e => by
  obtain ⟨a, e', vs, h1, _⟩ := h
  rw [e] at e'
  cases e'
  rw [h1] at hp
  cases hp
theorem nmem1 {a p : Addr} (h : a ≠ p) : a ∉ [p] := fun e => h (by simpa using e)
theorem ne1 {v : V} {p : Addr} (h : v ≠ .ref p) {H : Hp} : ∀ a ∈ [p], H a = none ∨ v ≠ .ref a := fun a ha => by
  have e : a = p := by simpa using ha
  exact .inr (by rw [e]; exact h)
section
variable {P : Program} {w : World} {K : PySem.W.Frag} {mg : Str → Option Value} {base : Heap}
theorem ok_from_kinds (F : FnP K mg "from_kinds" S_from_kinds) (gr : mg "range" = none) (gs : mg "sum" = none) : D0 P w K mg base 1 "from_kinds" ["kinds", "most"] (O2 m_kinds rL) := by
  refine dfn_of F sc_from_kinds O2.len (fun _ _ _ _ _ _ us hl => match us, hl with | [_, _], _ => rfl) fun f cdv A outer s H vs Q E hr ⟨v, ks, u, n, z, h1, hv, hu, hz, k⟩ => ?_
  obtain ⟨_, hc, hz⟩ := bs hz
  have hc := ck_t hc
  rw [Bool.and_eq_true] at hc
  have hn := small_is hc.1
  have hn0 : 0 ≤ n := of_decide_eq_true hc.2
  obtain ⟨sums, hsums, hz⟩ := bs hz
  subst h1
  cases hu
  refine w_seq (w_setL (i := 2) sc_from_kinds.nd (el_cat (el_lst (eal_cons ed_int eal_nil) (by decide)) (el_rep1 (el_lst (eal_cons ed_int eal_nil) (by decide)) (ed_iv 1) (by omega)) ?_) fun pf H1 hpf e1 hlf => ?_)
  · rw [List.length_replicate, sizeLine_eq, List.length_singleton]
    omega
  refine w_seq (w_setL (i := 3) sc_from_kinds.nd (el_rep1 (el_lst (eal_cons ed_int eal_nil) (by decide)) (ed_add (ed_iv 1) ed_int) (by omega)) fun ps H2 hps e2 hls => ?_)
  have hlf2 := hlf.up e2
  have hv2 := Rep.up (Ex.tr e1 e2) hv
  have nfs := ls_ne hlf hps
  have nkf := ref_ne hv hpf
  have nks := ref_ne (Rep.up e1 hv) hps
  refine w_seq (w_fold (P := [ps]) _ (fun H0 s σ' H' => (∃ a b c d, σ' = [some v, some (.int n), some (.ref pf), some (.ref ps), a, b, c, d]) ∧ Ls H' ps s) hsums PassesOwn.never rfl (src_rng2 ed_int (ed_add (ed_iv 1) ed_int) (by omega) (by rfl) gr) (pgl 4 sc_from_kinds.nd) (Muts.one hls) (fun H3 e3 => ⟨⟨_, _, _, _, rfl⟩, hls.up e3⟩) ?_ ?_)
  · rintro H3 e3 s s2 x v' σ' H' H'' hx hst mx ⟨⟨a', b', c', d', rfl⟩, hs⟩ e4 mx2 hv'
    have hx' := rng_mem.mp hx
    cases hv'
    have d1 : 0 ≤ n / x := Int.ediv_nonneg hn0 (by omega)
    have d2 : n / x ≤ n := Int.ediv_le_self _ hn0
    refine g_name (w_one (w_fold (P := [ps]) _ (fun H0 s σ' H' => (∃ b c d, σ' = [some v, some (.int n), some (.ref pf), some (.ref ps), some (.int x), b, c, d]) ∧ Ls H' ps s) hst PassesOwn.never rfl (src_rng2 ed_int (ed_add (ed_fdiv (ed_iv 1) (ed_iv 4) ⟨by omega, by omega⟩) ed_int) (by omega) (by rfl) gr) (pgl 5 sc_from_kinds.nd) (Muts.one (hs.up e4)) (fun H4 e4' => ⟨⟨_, _, _, rfl⟩, (hs.up e4).up e4'⟩) ?_ ?_))
    · rintro H4 e4' s s2 y v' σ' H' H5 hy hst mx3 ⟨⟨b', c', d', rfl⟩, hs⟩ e5 mx4 hv'
      cases hv'
      obtain ⟨kz, hk, hst⟩ := bs hst
      obtain ⟨m, hm, hst⟩ := bs hst
      obtain ⟨i, hi, hst⟩ := bs hst
      obtain ⟨z0, hz0, hst⟩ := bs hst
      obtain ⟨j, ej, hj, es⟩ := incO hz0 hst
      subst es
      obtain ⟨m1, m2⟩ := mulO_is hm
      obtain ⟨i1, i2⟩ := mulO_is hi
      subst m2 i2
      have hv5 := mx_ls ((mx2.trE e4').tr mx4) (Rep.up e3 hv2) (ne1 nks)
      exact g_name (w_one (w_inc (ed_adr 3) (hs.up e5) (ed_mul (ed_iv 4) (ed_iv 5) i1) (ed_mul (ed_iv 4) (ed_ixL (ed_v 0 hv5) (ed_iv 4) (getI_at hk)) m1) ej hj fun H6 m6 _ hl6 => ⟨mx4.tr m6, ⟨_, _, _, rfl⟩, hl6⟩))
    · rintro H4 e4' σ' H' m ⟨⟨b', c', d', rfl⟩, hs⟩
      exact ⟨(mx2.trE e4').tr m, ⟨_, _, _, _, rfl⟩, hs⟩
  · rintro H3 e3 σ' H' mx ⟨⟨a', b', c', d', rfl⟩, hs⟩
    have hlf' := mx.ls (hlf2.up e3) (nmem1 nfs)
    refine w_seq (w_fold (P := [pf]) _ (fun H0 s σ' H' => (∃ a b c d, σ' = [some v, some (.int n), some (.ref pf), some (.ref ps), a, b, c, d]) ∧ Ls H' pf s) hz PassesOwn.never rfl (src_rng2 ed_int (ed_add (ed_iv 1) ed_int) (by omega) (by rfl) gr) (pgl 4 sc_from_kinds.nd) (Muts.one hlf') (fun H4 e4 => ⟨⟨_, _, _, _, rfl⟩, hlf'.up e4⟩) ?_ ?_)
    · rintro H4 e4 s s2 x v' σ' H5 H6 hx hst mx3 ⟨⟨a', b', c', d', rfl⟩, hs2⟩ e5 mx4 hv'
      have hx' := rng_mem.mp hx
      cases hv'
      obtain ⟨ts, hts, hst⟩ := bs hst
      obtain ⟨ts1, ts2⟩ := mapO_map hts
      obtain ⟨j, ej, hj, es⟩ := setI_nat hst
      subst es
      have hs6 : Ls H6 ps sums := mx4.ls (hs.up e4) (nmem1 nfs.symm)
      refine g_name (w_seq (w_set (i := 6) (x := ts.sum) sc_from_kinds.nd (ed_sum rfl (el_lc ((lc0 (β := Int) _ [("part", 7)] (gName 7) (src_rng2 ed_int (ed_add (ed_iv 4) ed_int) (by omega) (by rfl) gr) ?_ (blk_of (N := N_from_kinds) (sc := defScope S_from_kinds) (by decide +kernel)) (pgn 7 sc_from_kinds.nd) ?_).to ts1.symm) rfl sc_from_kinds.nd).d (by rfl) gs) fun w H7 e7 hw => ?_))
      · rw [rng_len]
        omega
      · intro y hy v' H7 e7 hv'
        cases hv'
        have hg := ts2 y hy
        obtain ⟨sv, hsv, hg⟩ := bs hg
        obtain ⟨fv, hfv, hg⟩ := bs hg
        obtain ⟨g1, g2⟩ := mulO_is hg
        refine ⟨_, fun Q q => q, rfl, fun s H0 C cl fp => (ed_mul (ed_ixL (ed_ls 3 (hs6.up e7)) (ed_iv 7) (getI_at hsv)) (ed_ixL (ed_ls 2 ((hs2.up e5).up e7)) (ed_sub (ed_iv 4) (ed_iv 7)) (getI_at hfv)) g1).to g2⟩
      · cases hw
        refine w_one (w_put (x := ts.sum / x) (ed_adr 2) ((hs2.up e5).up e7) (ed_iv 4) (ed_fdiv (ed_iv 6) (ed_iv 4) ⟨by omega, by omega⟩) ej hj fun H8 m8 _ hl8 => ⟨(mx4.trE e7).tr m8, ⟨_, _, _, _, rfl⟩, hl8⟩)
    · rintro H4 e4 σ' H5 m ⟨⟨a', b', c', d', rfl⟩, hs2⟩
      have E2 : Ex H1 H' := Ex.mx (Ex.tr e2 e3) mx (nn1 hps)
      have E3 : Ex H H5 := Ex.mx (Ex.tr e1 (Ex.tr E2 e4)) m (nn1 hpf)
      exact w_one (w_ret (ed_adr 2) fun w H6 e6 hw => by
        cases hw
        exact k _ _ (Ex.tr E3 e6) ⟨pf, rfl, hpf, hs2.up e6⟩)
end
end Oa
set_option Elab.async false
set_option linter.all false
set_option maxRecDepth 100000
set_option maxHeartbeats 1000000
namespace Oa
open PySem PySem.Spec PyProof.Rows L2
section
variable {P : Program} {w : World} {K : PySem.W.Frag} {mg : Str → Option Value} {base : Heap}
theorem ok_tree_counts (F : FnP K mg "tree_counts" S_tree_counts) (D : D0 P w K mg base 1 "from_kinds" ["kinds", "most"] (O2 m_kinds rL)) (gr : mg "range" = none) : D0 P w K mg base 2 "tree_counts" ["most"] (O1 m_trees rL) := by
  refine dfn_of F sc_tree_counts O1.len (fun _ _ _ _ _ _ us hl => match us, hl with | [_], _ => rfl) fun f cdv A outer s H vs Q E hr ⟨v, n, z, h1, hv, hz, k⟩ => ?_
  obtain ⟨_, hc, hz⟩ := bs hz
  have hc := ck_t hc
  rw [Bool.and_eq_true] at hc
  have hn := small_is hc.1
  have hn0 : 0 ≤ n := of_decide_eq_true hc.2
  subst h1
  cases hv
  refine w_seq (w_setL (i := 1) sc_tree_counts.nd (el_rep1 (el_lst (eal_cons ed_int eal_nil) (by decide)) (ed_add (ed_iv 0) ed_int) (by omega)) fun p H1 hp e1 hl => ?_)
  refine w_seq (w_fold (P := [p]) _ (fun H0 s σ' H' => (∃ a, σ' = [some (.int n), some (.ref p), a]) ∧ Ls H' p s) hz PassesOwn.never rfl (src_rng2 ed_int (ed_add (ed_iv 0) ed_int) (by omega) (by rfl) gr) (pgl 2 sc_tree_counts.nd) (Muts.one hl) (fun H3 e3 => ⟨⟨_, rfl⟩, hl.up e3⟩) ?_ ?_)
  · rintro H3 e3 s s2 x v' σ' H' H'' hx hst mx ⟨⟨a', rfl⟩, hs⟩ e4 mx2 hv'
    have hx' := rng_mem.mp hx
    cases hv'
    obtain ⟨ks, hks, hst⟩ := bs hst
    obtain ⟨kv, hkv, hst⟩ := bs hst
    obtain ⟨j, ej, hj, es⟩ := setI_nat hst
    subst es
    exact g_name (w_one (w_put (x := kv) (ed_adr 1) (hs.up e4) (ed_iv 2) (ed_ixL (el_o2 D hr (ed_ls 1 (hs.up e4)) (ed_sub (ed_iv 2) ed_int) hks).d (ed_sub (ed_iv 2) ed_int) (getI_at hkv)) ej hj fun H6 m6 _ hl6 => ⟨mx2.tr m6, ⟨_, rfl⟩, hl6⟩))
  · rintro H3 e3 σ' H' mx ⟨⟨a', rfl⟩, hs⟩
    exact w_one (w_ret (ed_adr 1) fun w H6 e6 hw => by
      cases hw
      exact k _ _ (Ex.tr (Ex.mx (Ex.tr e1 e3) mx (nn1 hp)) e6) ⟨p, rfl, hp, hs.up e6⟩)
theorem ok_convolved (F : FnP K mg "convolved" S_convolved) (gr : mg "range" = none) (ge : mg "enumerate" = none) : D0 P w K mg base 1 "convolved" ["one", "other", "most"] (O3 m_conv rL) := by
  refine dfn_of F sc_convolved O3.len (fun _ _ _ _ _ _ us hl => match us, hl with | [_, _, _], _ => rfl) fun f cdv A outer s H vs Q E hr ⟨v, xs, u, ys, t, n, z, h1, hv, hu, ht, hz, k⟩ => ?_
  obtain ⟨_, hc, hz⟩ := bs hz
  have hc := ck_t hc
  rw [Bool.and_eq_true] at hc
  have hn := small_is hc.1
  have hn0 : 0 ≤ n := of_decide_eq_true hc.2
  subst h1
  cases ht
  refine w_seq (w_setL (i := 3) sc_convolved.nd (el_rep1 (el_lst (eal_cons ed_int eal_nil) (by decide)) (ed_add (ed_iv 2) ed_int) (by omega)) fun p H1 hp e1 hl => ?_)
  obtain ⟨a, ea, hla⟩ := id hv
  subst ea
  have nap := ls_ne hla hp
  have nup := ref_ne hu hp
  refine w_seq (w_fold (P := [p]) _ (fun H0 s σ' H' => (∃ b c d, σ' = [some (.ref a), some u, some (.int n), some (.ref p), b, c, d]) ∧ Ls H' p s) hz PassesOwn.never rfl (src_enum_at (ed_adr 0) (hla.up e1) (nmem1 nap) (by rfl) ge) (pg_pair (i := 4) (j := 5) rfl sc_convolved.nd) (Muts.one hl) (fun H3 e3 => ⟨⟨_, _, _, rfl⟩, hl.up e3⟩) ?_ ?_)
  · rintro H3 e3 s s2 ⟨x, y⟩ v' σ' H' H'' hx hst mx ⟨⟨b', c', d', rfl⟩, hs⟩ e4 mx2 hv'
    obtain ⟨ii, hi1, hi2⟩ := enumI_mem hx
    refine g_pair hv' fun u1 u2 hu1 hu2 => ?_
    cases hu1
    cases hu2
    refine w_one (w_if (eb_cmpI (c_gt (i := y) (j := 0)) (ed_iv 5) ed_int) (fun q H4 e4' => ?_) fun q H4 e4' => ?_)
    · rw [if_pos (of_decide_eq_true q)] at hst
      obtain ⟨_, hc2, hst⟩ := bs hst
      have hn2 := small_is (ck_t hc2)
      have hu4 := mx_ls (mx2.trE e4') (Rep.up (Ex.tr e1 e3) hu) (ne1 nup)
      have hs4 := (hs.up e4).up e4'
      refine w_one (w_fold (P := [p]) _ (fun H0 s σ' H' => (∃ d, σ' = [some (.ref a), some u, some (.int n), some (.ref p), some (.int x), some (.int y), d]) ∧ Ls H' p s) hst PassesOwn.never rfl (src_rng1 (ed_sub (ed_add (ed_iv 2) ed_int) (ed_iv 4)) (by show _ ∧ _; dsimp only at hn2; omega) (by rfl) gr) (pgl 6 sc_convolved.nd) (Muts.one hs4) (fun H5 e5 => ⟨⟨_, rfl⟩, hs4.up e5⟩) ?_ ?_)
      · rintro H5 e5 s s2 tt v' σ' H6 H7 hx2 hst mx3 ⟨⟨d', rfl⟩, hs2⟩ e6 mx4 hv'
        cases hv'
        obtain ⟨o, ho, hst⟩ := bs hst
        obtain ⟨m, hm, hst⟩ := bs hst
        obtain ⟨z0, hz0, hst⟩ := bs hst
        obtain ⟨j, ej, hj, es⟩ := incO hz0 hst
        subst es
        obtain ⟨m1, m2⟩ := mulO_is hm
        subst m2
        have hu7 := mx_ls mx4 (Rep.up e5 hu4) (ne1 nup)
        exact g_name (w_one (w_inc (ed_adr 3) (hs2.up e6) (ed_add (ed_iv 4) (ed_iv 6)) (ed_mul (ed_iv 5) (ed_ixL (ed_v 1 hu7) (ed_iv 6) (getI_at ho)) m1) ej hj fun H8 m8 _ hl8 => ⟨mx4.tr m8, ⟨_, rfl⟩, hl8⟩))
      · rintro H5 e5 σ' H6 m ⟨⟨d', rfl⟩, hs2⟩
        exact ⟨((mx2.trE e4').trE e5).tr m, ⟨_, _, _, rfl⟩, hs2⟩
    · rw [if_neg (of_decide_eq_false q)] at hst
      cases hst
      exact w_nil ⟨mx2.trE e4', ⟨_, _, _, rfl⟩, (hs.up e4).up e4'⟩
  · rintro H3 e3 σ' H' mx ⟨⟨b', c', d', rfl⟩, hs⟩
    exact w_one (w_ret (ed_adr 3) fun w H6 e6 hw => by
      cases hw
      exact k _ _ (Ex.tr (Ex.mx (Ex.tr e1 e3) mx (nn1 hp)) e6) ⟨p, rfl, hp, hs.up e6⟩)
theorem ok_spread_out (F : FnP K mg "spread_out" S_spread_out) (gr : mg "range" = none) : D0 P w K mg base 1 "spread_out" ["row", "step", "most"] (O3 m_spread rL) := by
  refine dfn_of F sc_spread_out O3.len (fun _ _ _ _ _ _ us hl => match us, hl with | [_, _, _], _ => rfl) fun f cdv A outer s H vs Q E hr ⟨v, xs, u, st, t, n, z, h1, hv, hu, ht, hz, k⟩ => ?_
  obtain ⟨_, hc, hz⟩ := bs hz
  have hc := ck_t hc
  simp only [Bool.and_eq_true] at hc
  have hn := small_is hc.1.1.1
  have hn0 : 0 ≤ n := of_decide_eq_true hc.1.1.2
  have hs0 : 0 < st := of_decide_eq_true hc.1.2
  have hs1 := small_is hc.2
  subst h1
  cases ht
  cases hu
  refine w_seq (w_setL (i := 3) sc_spread_out.nd (el_rep1 (el_lst (eal_cons ed_int eal_nil) (by decide)) (ed_add (ed_iv 2) ed_int) (by omega)) fun p H1 hp e1 hl => ?_)
  have nvp := ref_ne hv hp
  have d1 : 0 ≤ n / st := Int.ediv_nonneg hn0 (by omega)
  have d2 : n / st ≤ n := Int.ediv_le_self _ hn0
  refine w_seq (w_fold (P := [p]) _ (fun H0 s σ' H' => (∃ b, σ' = [some v, some (.int st), some (.int n), some (.ref p), b]) ∧ Ls H' p s) hz PassesOwn.never rfl (src_rng1 (ed_add (ed_fdiv (ed_iv 2) (ed_iv 1) ⟨hs0, by omega⟩) ed_int) (by omega) (by rfl) gr) (pgl 4 sc_spread_out.nd) (Muts.one hl) (fun H3 e3 => ⟨⟨_, rfl⟩, hl.up e3⟩) ?_ ?_)
  · rintro H3 e3 s s2 x v' σ' H' H'' hx hst mx ⟨⟨a', rfl⟩, hs⟩ e4 mx2 hv'
    cases hv'
    obtain ⟨i, hi, hst⟩ := bs hst
    obtain ⟨r, hr', hst⟩ := bs hst
    obtain ⟨j, ej, hj, es⟩ := setI_nat hst
    subst es
    obtain ⟨i1, i2⟩ := mulO_is hi
    subst i2
    have hv4 := mx_ls mx2 (Rep.up (Ex.tr e1 e3) hv) (ne1 nvp)
    exact g_name (w_one (w_put (x := r) (ed_adr 3) (hs.up e4) (ed_mul (ed_iv 4) (ed_iv 1) i1) (ed_ixL (ed_v 0 hv4) (ed_iv 4) (getI_at hr')) ej hj fun H6 m6 _ hl6 => ⟨mx2.tr m6, ⟨_, rfl⟩, hl6⟩))
  · rintro H3 e3 σ' H' mx ⟨⟨b', rfl⟩, hs⟩
    exact w_one (w_ret (ed_adr 3) fun w H6 e6 hw => by
      cases hw
      exact k _ _ (Ex.tr (Ex.mx (Ex.tr e1 e3) mx (nn1 hp)) e6) ⟨p, rfl, hp, hs.up e6⟩)
theorem ok_coprime_many (F : FnP K mg "coprime_many" S_coprime_many) (D : D0 P w K mg base 1 "divisor" ["one", "other"] (O2 (fun (a b : Int) => if 0 ≤ a ∧ 0 ≤ b then some (m_div a b) else none) rD)) (gr : mg "range" = none) (gl : mg "len" = none) : D0 P w K mg base 2 "coprime_many" ["number"] (O1 m_coprime rD) := by
  refine dfn_of F sc_coprime_many O1.len (fun _ _ _ _ _ _ us hl => match us, hl with | [_], _ => rfl) fun f cdv A outer s H vs Q E hr ⟨v, n, z, h1, hv, hz, k⟩ => ?_
  obtain ⟨hc, hz⟩ := if_t hz
  rw [Bool.and_eq_true] at hc
  have hn := small_is hc.1
  have hn0 : 0 ≤ n := of_decide_eq_true hc.2
  subst h1
  cases hv
  refine w_one (w_ret (ed_len (el_lc (lc1 (fun _ => (1 : Int)) (fun o => decide (m_div n o = 1)) [("other", 1)] (gName 1) (src_rng2 ed_int (ed_add (ed_iv 0) ed_int) (by omega) (by rfl) gr) ?_ (blk_of (N := N_coprime_many) (sc := defScope S_coprime_many) (by decide +kernel)) (pgn 1 sc_coprime_many.nd) ?_) rfl sc_coprime_many.nd).d (by rfl) gl) fun w H6 e6 hw => k _ _ e6 (by rw [← hz]; exact hw))
  · rw [rng_len]
    omega
  · intro x hx v H' e' hv
    have hx' := rng_mem.mp hx
    cases hv
    exact ⟨_, fun Q q => q, rfl, fun s H0 C cl fp => eb_cmpI c_eq (ed_o2 D hr (ed_iv 0) (ed_iv 1) (if_pos ⟨hn0, by omega⟩)) ed_int, fun _ s H0 C cl fp => ed_int⟩
end
end Oa
set_option Elab.async false
set_option linter.all false
set_option maxRecDepth 100000
set_option maxHeartbeats 1000000
namespace Oa
open PySem PySem.Spec PyProof.Rows L2
/-! ### numbers and what is none -/
theorem tyOf_up {K : PySem.W.Frag} {H H' : Hp} {v : V} {t : Value} (e : Ex H H') (h : TyOf K H v t) : TyOf K H' v t := by
  cases h with
  | non => exact .non
  | bl x => exact .bl x
  | int i => exact .int i
  | str x => exact .str x
  | flt x => exact .flt x
  | lst q => exact .lst (e _ _ q)
  | frz q => exact .frz (e _ _ q)
  | tup q => exact .tup (e _ _ q)
  | dK q => exact .dK (e _ _ q)
  | dT q => exact .dT (e _ _ q)
  | ins q c a n t m => exact .ins (e _ _ q) c a n t m
theorem tyX_up {K : PySem.W.Frag} {H H' : Hp} {v : V} {t : Value} (e : Ex H H') (h : TyX K H v t) : TyX K H' v t := by
  cases h with
  | base q => exact .base (tyOf_up e q)
  | byt b => exact .byt b
  | set q => exact .set (e _ _ q)
  | kList q c => exact .kList q c
  | kTuple q c => exact .kTuple q c
  | kDict q c => exact .kDict q c
  | fTuple q => exact .fTuple (e _ _ q)
  | fDict q => exact .fDict (e _ _ q)
def Num (K : PySem.W.Frag) (H : Hp) (v : V) : Option Int → Prop
  | some i => v = .int i
  | none => ∃ T b1 b2, TyX K H v (.type T) ∧ kitB T "int" = some b1 ∧ kitB T "bool" = some b2 ∧ (b1 && !b2) = false
structure Nu (K : PySem.W.Frag) where
  n : Option Int
instance {K : PySem.W.Frag} : Rep (Nu K) := ⟨fun H v x => Num K H v x.n, fun {H H' v x} e h => by
  obtain ⟨n⟩ := x
  cases n with
  | some i => exact h
  | none =>
    obtain ⟨T, b1, b2, h1, h2⟩ := h
    exact ⟨T, b1, b2, tyX_up e h1, h2⟩⟩
theorem nu_ty {K : PySem.W.Frag} {H : Hp} {v : V} {x : Nu K} (h : Rep.is H v x) : ∃ T b1 b2, TyX K H v (.type T) ∧ kitB T "int" = some b1 ∧ kitB T "bool" = some b2 ∧ (b1 && !b2) = x.n.isSome := by
  obtain ⟨n⟩ := x
  cases n with
  | some i =>
    cases (show v = .int i from h)
    exact ⟨"int", true, false, .base (.int i), by decide +kernel, by decide +kernel, rfl⟩
  | none => exact h
def betw (n : Option Int) (lo hi : Int) : Bool := match n with
  | some i => decide (lo ≤ i) && decide (i ≤ hi)
  | none => false
section
variable {P : Program} {w : World} {K : PySem.W.Frag} {mg : Str → Option Value} {base : Heap}
theorem ok_is_integer (F : FnP K mg "is_integer" S_is_integer) (gi : mg "isinstance" = none) (g1 : mg "int" = none) (g2 : mg "bool" = none) : D0 P w K mg base 1 "is_integer" ["thing"] (O1 (fun x : Nu K => some x.n.isSome) rD) := by
  refine dfn_of F sc_is_integer O1.len (fun _ _ _ _ _ _ us hl => match us, hl with | [_], _ => rfl) fun f cdv A outer s H vs Q E hr ⟨v, x, z, h1, hv, hz, k⟩ => ?_
  cases hz
  subst h1
  obtain ⟨T, b1, b2, t1, t2, t3, t4⟩ := nu_ty hv
  refine w_one (w_ret (x := b1 && !b2) (ed_and (ed_isi (TT := "int") (x := v) (ed_v 0 rfl) (fun H' v' e hv' => ?_) (by rfl) gi (by rfl) g1 (by decide +kernel)) fun _ => ed_and1 (ed_not (ed_isi (TT := "bool") (x := v) (ed_v 0 rfl) (fun H' v' e hv' => ?_) (by rfl) gi (by rfl) g2 (by decide +kernel)))) fun u H5 e5 hu => k _ _ e5 ?_)
  · cases (show v' = v from hv')
    exact ⟨T, tyX_up e t1, kit_ty t2⟩
  · cases (show v' = v from hv')
    exact ⟨T, tyX_up e t1, kit_ty t3⟩
  · rw [← t4]
    exact hu
theorem ok_is_between (F : FnP K mg "is_between" S_is_between) (D : D0 P w K mg base 1 "is_integer" ["thing"] (O1 (fun x : Nu K => some x.n.isSome) rD)) : D0 P w K mg base 2 "is_between" ["thing", "least", "most"] (O3 (fun (x : Nu K) (lo hi : Int) => some (betw x.n lo hi)) rD) := by
  refine dfn_of F sc_is_between O3.len (fun _ _ _ _ _ _ us hl => match us, hl with | [_, _, _], _ => rfl) fun f cdv A outer s H vs Q E hr ⟨v, x, u, lo, t, hi, z, h1, hv, hu, ht, hz, k⟩ => ?_
  cases hz
  subst h1
  cases hu
  cases ht
  obtain ⟨n⟩ := x
  cases n with
  | none =>
    exact w_one (w_ret (x := false && false) (ed_and (ed_o1 (x := (⟨none⟩ : Nu K)) D hr (ed_v 0 hv) rfl) (fun q => by cases q)) fun u H5 e5 hu => k _ _ e5 hu)
  | some i =>
    have hv' : v = .int i := hv
    subst hv'
    exact w_one (w_ret (x := true && (decide (lo ≤ i) && decide (i ≤ hi))) (ed_and (ed_o1 (x := (⟨some i⟩ : Nu K)) D hr (ed_v 0 hv) rfl) (fun _ => ed_and1 (ed_chain c_le c_le (ed_iv 1) (ed_iv 0) (ed_iv 2)))) fun u H5 e5 hu => k _ _ e5 hu)
/-- NoNumber's class and what is known of it -/
structure Exn (K : PySem.W.Frag) (mg : Str → Option Value) (x : Str) (C : Addr) : Prop where
  g : mg x = some (.ref C)
  e1 : PySem.W.excIn K C He.veBase "ValueError.__new__" = true
  e2 : PySem.W.keepIn K (.ref C) = true
  e3 : PySem.W.subIn K (.ref C) (.type "BaseException") = some true
  e4 : PySem.W.typeIn K (.ref C) = some (.type "type")
theorem pmk_own0 {X : Cx} {x : Str} {C : Addr} {p pos : Pos} (N : Exn X.K X.mg x C) (hg : Gl X x) (hdb : (x == ("__debug__" : Str)) = false := by decide) : PMk X (.Call (.Name x p) [] [] pos) (fun _ H Q => Q (.ref C) none H) := by
  intro pins s σ H Q I h
  refine wpAny_Call_Name_kw (ld_glob I hg N.g ?_ hdb)
  refine PySem.W.callWith_K0 I.kIn N.e2 ?_
  show wpAny _ _ (call (.ref C) []) _ _ _
  obtain ⟨bm, N', nm, qn, bs, hdct, sn, sub, ab, col, dd, k0, k1, k2, k3, k5, mN, hC, hN, hni, T⟩ := exc_obj I.kIn N.e1
  refine wpAny_call_exc_subT PySem.F.excBase_ValueError T hC hN hni (fun h' e hm => ?_) (Nat.zero_le _)
  exact mk_of I hm (raises_own N.e3 N.e4) h (I.hok.gone hm.new)
/-- check_number: nothing, or NoNumber -/
def spChk (K : PySem.W.Frag) (C : Addr) : Sp := fun vs H Q E => ∃ (v : V) (x : Nu K) (lo hi : Int), vs = [v, .int lo, .int hi] ∧ Rep.is H v x ∧ (betw x.n lo hi = true → ∀ H', Ex H H' → Q .non H') ∧ (betw x.n lo hi = false → ∀ H', Ex H H' → E (.ref C) none H')
abbrev cxX (P : Program) (w : World) (K : PySem.W.Frag) (mg : Str → Option Value) (base : Heap) (N : List Str) (x : Str) (st : Stmt) (f : Addr) (cdv : Value) (A : Around) (outer : List Env) (s : Shared) (H : Hp) (E : XK) : Cx :=
  cxOf (L2.CX P w) P w K mg base N x (defScope st) f cdv A outer s H E
theorem dfn_ofX {st : Stmt} {x : Str} {N ps : List Str} {k : Nat} {sp : Sp} (F : FnP K mg x st) (S : FnScope N ps (defScope st)) (len : ∀ vs H Q E, sp vs H Q E → vs.length = ps.length)
    (hb : ∀ (kV doc pm : Value) (an : Option Addr) (cdv ct : Value) (us : List Value), us.length = ps.length → bindArgs (PySem.W.fnOf x x (defArgs st) (defBody st) (defScope st) .none kV doc pm an cdv ct) ⟨us, []⟩ = pure (ps.zip us))
    (body : ∀ (f : Addr) (cdv : Value) (A : Around) (outer : List Env) (s : Shared) (H : Hp) (vs : List V) (Q : VK) (E : XK), Room k (A.deeper (envOfC x (defScope st) s.heap.objs.size f cdv)) → sp vs H Q E →
      wss (cxX P w K mg base N x st f cdv A outer s H E) (defBody st) { nx := fun _ H' => Q .non H', rt := Q } (start N vs) H) : Dfn P w K mg base (L2.CX P w) (k + 1) x ps sp := by
  obtain ⟨f, fd, F, hm⟩ := F
  exact ⟨f, fd, F.ok S len fun cdv A outer s H vs Q E hr hsp => ⟨_, pss_wss, body f cdv A outer s H vs Q E hr hsp⟩, hm, F.kp, F.bindsN hb⟩
theorem ok_check_number {C : Addr} (F : FnP K mg "check_number" S_check_number) (D : D0 P w K mg base 2 "is_between" ["thing", "least", "most"] (O3 (fun (x : Nu K) (lo hi : Int) => some (betw x.n lo hi)) rD)) (N : Exn K mg "NoNumber" C) :
    Dfn P w K mg base (L2.CX P w) 3 "check_number" ["thing", "least", "most"] (spChk K C) := by
  refine dfn_ofX F sc_check_number (fun vs H Q E ⟨_, _, _, _, e, _⟩ => by rw [e]; rfl) (fun _ _ _ _ _ _ us hl => match us, hl with | [_, _, _], _ => rfl) fun f cdv A outer s H vs Q E hr ⟨v, x, lo, hi, h1, hv, k1, k2⟩ => ?_
  subst h1
  refine w_one (w_if (eb_not (eb_val (ed_o3 D hr (ed_v 0 hv) (ed_iv 1) (ed_iv 2) rfl))) (fun q H1 e1 => ?_) fun q H1 e1 => ?_)
  · refine w_one (wst_of (ps_raise rfl (takes_of rfl rfl rfl rfl) (pmk_own0 (x := "NoNumber") N (by rfl))) (k2 ?_ H1 e1))
    cases h : betw x.n lo hi with
    | false => rfl
    | true => rw [h] at q; cases q
  · refine w_nil (k1 ?_ H1 e1)
    cases h : betw x.n lo hi with
    | true => rfl
    | false => rw [h] at q; cases q
end
end Oa
set_option Elab.async false
set_option linter.all false
set_option maxRecDepth 100000
set_option maxHeartbeats 1000000
namespace Oa
open PySem PySem.Spec PyProof.Rows L2
section
variable {α : Type} [Rep α] {X : Cx} {σ : St} {H : Hp} {D : Ends} {a b c : Expr} {pos p : Pos}
/-- check_number(..) that is content -/
theorem w_chk {C : Addr} {k : Nat} {n : Str} {ps : List Str} {x : Nu X.K} {lo hi : Int} (Df : Dfn X.prog X.w X.K X.mg X.base (L2.CX X.prog X.w) k n ps (spChk X.K C)) (hr : Room k X.A) (ha : ED X σ H a x) (hb : ED X σ H b lo) (hc : ED X σ H c hi) (hok : betw x.n lo hi = true) (kk : ∀ H1, Ex H H1 → D.nx σ H1) (hg : Gl X n := by rfl) (hdb : (n == ("__debug__" : Str)) = false := by decide)
    (he : starEach [a, b, c] X.env = (false, eval a X.env) :: starEach [b, c] X.env := by rfl) (he2 : starEach [b, c] X.env = (false, eval b X.env) :: starEach [c] X.env := by rfl) (he3 : starEach [c] X.env = [(false, eval c X.env)] := by rfl)
    (hs : swapsWith (.Call (.Name n p) [a, b, c] [] pos) none pos.line X.env = pure false := by rfl) : wst X (.Expr (.Call (.Name n p) [a, b, c] [] pos) pos) D σ H :=
  wst_of (ps_expr pe_we hs) (ec_call Df hr hg passL (ea_cons ha (ea_cons hb (ea_cons hc ea_nil he3) he2) he) (Ex.rf _) (fun vs H2 e2 ⟨v, ws, h1, hv, u, ws2, h2, hu, t, ws3, h3, ht, h4⟩ => by
    subst h1 h2 h3 h4
    cases hu
    cases ht
    exact ⟨v, x, lo, hi, rfl, hv, fun _ H3 e3 => kk H3 (Ex.tr e2 e3), fun z => by rw [hok] at z; cases z⟩) hdb he (by rw [he2, he3] <;> rfl))
/-- x = [a new list] -/
theorem w_set1L {i : Nat} {n : Str} {pos' : Pos} {xs : List α} {e : Expr} {lpos : Pos} (hN : X.N.Nodup) (h : EL X σ H e xs) (k : ∀ p q H1, H p = none → H q = none → Ex H H1 → LL H1 p [q] [xs] → D.nx (σ.set i (some (.ref p))) H1) (hi : X.N[i]? = some n := by rfl) (hx : Loc X.env.scope n := by first | exact Or.inl rfl | exact Or.inr rfl)
    (hs : swapsWith (.List [e] lpos) (some (.Name n pos')) pos.line X.env = pure false := by rfl) (hf : X.fn n = true ∨ X.env.scope.names.lookup n = some .local := by first | exact .inl rfl | exact .inr rfl) (he : starEach [e] X.env = [(false, eval e X.env)] := by rfl) : wst X (.Assign [.Name n pos'] (.List [e] lpos) pos) D σ H :=
  wst_of (ps_set hN hi hx (pe_lst (pa_cons pe_we pa_nil he)) hs hf) (h H (Ex.rf _) _ fun q H2 hq e2 hl => ⟨by show 1 ≤ sizeLine; decide, fun p hp => by
    have e3 : Ex H2 (upd H2 p (.lst [V.ref q])) := Ex.new hp
    have hpq : p ≠ q := fun z => by
      obtain ⟨vs, h1, _⟩ := hl
      rw [z, h1] at hp
      cases hp
    exact k p q _ (fresh_b e2 hp) hq (Ex.tr e2 e3) ⟨upd_same, by simp, by simpa using hpq, .cons (hl.up e3) .nil⟩⟩)
end
section
variable {P : Program} {w : World} {K : PySem.W.Frag} {mg : Str → Option Value} {base : Heap}
theorem ok_all_row_counts (F : FnP K mg "all_row_counts" S_all_row_counts) (D : D0 P w K mg base 1 "convolved" ["one", "other", "most"] (O3 m_conv rL)) (gr : mg "range" = none) : D0 P w K mg base 2 "all_row_counts" ["trees", "most"] (O2 m_rowcounts rL) := by
  refine dfn_of F sc_all_row_counts O2.len (fun _ _ _ _ _ _ us hl => match us, hl with | [_, _], _ => rfl) fun f cdv A outer s H vs Q E hr ⟨v, xs, u, n, z, h1, hv, hu, hz, k⟩ => ?_
  obtain ⟨_, hc, hz⟩ := bs hz
  have hc := ck_t hc
  rw [Bool.and_eq_true] at hc
  have hn := small_is hc.1
  have hn0 : 0 ≤ n := of_decide_eq_true hc.2
  subst h1
  cases hu
  refine w_seq (w_set1L (i := 2) sc_all_row_counts.nd (el_cat (el_lst (eal_cons ed_int eal_nil) (by decide)) (el_rep1 (el_lst (eal_cons ed_int eal_nil) (by decide)) (ed_iv 1) (by omega)) ?_) fun p q H1 hp hq e1 hl => ?_)
  · rw [List.length_replicate, sizeLine_eq, List.length_singleton]
    omega
  refine w_seq (w_fold (P := [p]) _ (fun H0 s σ' H' => (∃ a, σ' = [some v, some (.int n), some (.ref p), a]) ∧ ∃ as, LL H' p as s) hz PassesOwn.never rfl (src_rng1 (ed_iv 1) (by omega) (by rfl) gr) (pgl 3 sc_all_row_counts.nd) (Muts.one hl.ls) (fun H3 e3 => ⟨⟨_, rfl⟩, _, hl.up e3⟩) ?_ ?_)
  · rintro H3 e3 s s2 x v' σ' H' H'' hx hst mx ⟨⟨a', rfl⟩, as, hs⟩ e4 mx2 hv'
    obtain ⟨l, hl', hst⟩ := bs hst
    obtain ⟨c, hc', hst⟩ := bs hst
    obtain ⟨l1, l2, l3⟩ := lastO_is hl'
    obtain ⟨c1, rfl⟩ := appO_is hst
    have c1' := few_is c1
    have hs' := hs.up e4
    have hv2 := Rep.up (Ex.mx (Ex.tr e1 e3) mx2 (nn1 hp)) hv
    exact g_name (w_one (w_appLL (ed_adr 2) hs' (el_o3 D hr (ed_ixL (ed_of_adr (ed_adr 2) hs'.ls) (ed_neg ed_int) l1) (ed_v 0 hv2) (ed_iv 1) hc') (by omega) fun H6 a m6 _ hl6 => ⟨mx2.tr m6, ⟨_, rfl⟩, _, hl6⟩))
  · rintro H3 e3 σ' H' mx ⟨⟨a', rfl⟩, as, hs⟩
    exact w_one (w_ret (ed_adr 2) fun w H6 e6 hw => by
      cases hw
      exact k _ _ (Ex.tr (Ex.mx (Ex.tr e1 e3) mx (nn1 hp)) e6) ⟨p, rfl, hp, (hs.up e6).ls⟩)
theorem ok_piece_counts (F : FnP K mg "piece_counts" S_piece_counts) (D1 : D0 P w K mg base 1 "parting" ["number"] (O1 m_parting rL)) (D2 : D0 P w K mg base 1 "spread_out" ["row", "step", "most"] (O3 m_spread rL)) (D3 : D0 P w K mg base 2 "coprime_many" ["number"] (O1 m_coprime rD)) (gr : mg "range" = none) :
    D0 P w K mg base 3 "piece_counts" ["rows_many", "ring", "most"] (O3 m_pieces rL) := by
  refine dfn_of F sc_piece_counts O3.len (fun _ _ _ _ _ _ us hl => match us, hl with | [_, _, _], _ => rfl) fun f cdv A outer s H vs Q E hr ⟨v, rows, u, ring, t, n, z, h1, hv, hu, ht, hz, k⟩ => ?_
  obtain ⟨_, hc, hz⟩ := bs hz
  have hc := ck_t hc
  simp only [Bool.and_eq_true] at hc
  have hn := small_is hc.1.1.1
  have hn0 : 0 ≤ n := of_decide_eq_true hc.1.1.2
  have hr1 := small_is hc.1.2
  have hr0 : 0 < ring := of_decide_eq_true hc.2
  obtain ⟨parts, hparts, hz⟩ := bs hz
  obtain ⟨found, hfound, hz⟩ := bs hz
  subst h1
  cases hu
  cases ht
  refine w_seq (w_setL (i := 3) sc_piece_counts.nd (el_rep1 (el_lst (eal_cons ed_int eal_nil) (by decide)) (ed_add (ed_iv 2) ed_int) (by omega)) fun p H1 hp e1 hl => ?_)
  refine w_seq (w_fold (P := [p]) _ (fun H0 s σ' H' => (∃ a b c d, σ' = [some v, some (.int ring), some (.int n), some (.ref p), a, b, c, d]) ∧ Ls H' p s) hfound PassesOwn.never rfl (src_new (el_o1 D1 (hr.mono (by decide)) (ed_iv 1) hparts) (Muts.one hl).ex) (pgl 4 sc_piece_counts.nd) (Muts.one hl) (fun H3 e3 => ⟨⟨_, _, _, _, rfl⟩, hl.up e3⟩) ?_ ?_)
  · rintro H3 e3 s s2 part v' σ' H' H'' hx hst mx ⟨⟨a', b', c', d', rfl⟩, hs⟩ e4 mx2 hv'
    cases hv'
    obtain ⟨d, hd, hst⟩ := bs hst
    obtain ⟨r, hr', hst⟩ := bs hst
    obtain ⟨rs, hrs, hst⟩ := bs hst
    obtain ⟨d1, ed⟩ := divO_is hd
    rw [← ed] at hr'
    have hv2 := Rep.up (Ex.mx (Ex.tr e1 e3) mx2 (nn1 hp)) hv
    refine g_name (w_seq (w_setL (i := 5) sc_piece_counts.nd (el_o3 D2 (hr.mono (by decide)) (ed_ixL (ed_v 0 hv2) (ed_fdiv (ed_iv 1) (ed_iv 4) d1) (getI_at hr')) (ed_iv 4) (ed_iv 2) hrs) fun q H4 hq e4' hlq => ?_))
    have hs4 := (hs.up e4).up e4'
    have npq := ls_ne (hs.up e4) hq
    refine w_one (w_fold (P := [p]) _ (fun H0 s σ' H' => (∃ c d, σ' = [some v, some (.int ring), some (.int n), some (.ref p), some (.int part), some (.ref q), c, d]) ∧ Ls H' p s) hst PassesOwn.never rfl (src_rng1 (ed_add (ed_iv 2) ed_int) (by omega) (by rfl) gr) (pgl 6 sc_piece_counts.nd) (Muts.one hs4) (fun H5 e5 => ⟨⟨_, _, rfl⟩, hs4.up e5⟩) ?_ ?_)
    · rintro H5 e5 s s2 tt v' σ' H6 H7 hx2 hst mx3 ⟨⟨c', d', rfl⟩, hs2⟩ e6 mx4 hv'
      cases hv'
      obtain ⟨cc, hcc, hst⟩ := bs hst
      obtain ⟨xx, hxx, hst⟩ := bs hst
      obtain ⟨m, hm, hst⟩ := bs hst
      obtain ⟨z0, hz0, hst⟩ := bs hst
      obtain ⟨j, ej, hj, es⟩ := incO hz0 hst
      subst es
      obtain ⟨m1, m2⟩ := mulO_is hm
      subst m2
      have hq7 := mx4.ls (hlq.up e5) (nmem1 npq.symm)
      exact g_name (w_one (w_inc (ed_adr 3) (hs2.up e6) (ed_iv 6) (ed_mul (ed_o1 D3 hr (ed_iv 4) hcc) (ed_ixL (ed_ls 5 hq7) (ed_iv 6) (getI_at hxx)) m1) ej hj fun H8 m8 _ hl8 => ⟨mx4.tr m8, ⟨_, _, rfl⟩, hl8⟩))
    · rintro H5 e5 σ' H6 m ⟨⟨c', d', rfl⟩, hs2⟩
      exact ⟨((mx2.trE e4').trE e5).tr m, ⟨_, _, _, _, rfl⟩, hs2⟩
  · rintro H3 e3 σ' H' mx ⟨⟨a', b', c', d', rfl⟩, hs⟩
    obtain ⟨_, hfw, hz2⟩ := bs hz
    have hfw := few_is (ck_t hfw)
    obtain ⟨z1, z2⟩ := mapO_map hz2
    have hE := Ex.mx (Ex.tr e1 e3) mx (nn1 hp)
    refine w_one (w_retL (el_lc ((lc0 (β := Int) _ [("number", 7)] (gName 7) (src_l (ed_ls 3 hs)) (by omega) (blk_of (N := N_piece_counts) (sc := defScope S_piece_counts) (by decide +kernel)) (pgn 7 sc_piece_counts.nd) ?_).to z1.symm) rfl sc_piece_counts.nd) fun q H6 hq e6 hl6 => k _ _ (Ex.tr hE e6) ⟨q, rfl, fresh_b hE hq, hl6⟩)
    · intro x hx v' H7 e7 hv'
      cases hv'
      obtain ⟨g1, g2⟩ := divO_is (z2 x hx)
      exact ⟨_, fun Q q => q, rfl, fun s H0 C cl fp => (ed_fdiv (ed_iv 7) (ed_iv 1) g1).to g2⟩
end
end Oa
set_option Elab.async false
set_option linter.all false
set_option maxRecDepth 100000
set_option maxHeartbeats 1000000
namespace Oa
open PySem PySem.Spec PyProof.Rows L2
/-! ### dicts as loops' states -/
theorem one_line {α : Type} {x : α} : [x].length ≤ sizeLine := by show 1 ≤ sizeLine; decide
section
variable {β : Type} [Rep β] {X : Cx} {σ : St} {H H' : Hp} {D : Ends} {pos : Pos}
theorem Muts.dic {w : World} {d : Addr} {kvs : List (P0 × β)} (h : DAt w H d kvs) : Muts [d] H := fun a ha => by
  have e : a = d := by simpa using ha
  subst e
  obtain ⟨xs, ep, h1, _⟩ := h.ok
  exact ⟨DicO w a xs ep, fun f => f, rfl, h1⟩
theorem w_setD {i : Nat} {n : Str} {pos' dpos : Pos} (hN : X.N.Nodup) (k : ∀ p H1, H p = none → Ex H H1 → DAt X.w H1 p ([] : List (P0 × β)) → D.nx (σ.set i (some (.ref p))) H1) (hi : X.N[i]? = some n := by rfl) (hx : Loc X.env.scope n := by first | exact Or.inl rfl | exact Or.inr rfl)
    (hs : swapsWith (.Dict [] [] dpos) (some (.Name n pos')) pos.line X.env = pure false := by rfl) (hf : X.fn n = true ∨ X.env.scope.names.lookup n = some .local := by first | exact .inl rfl | exact .inr rfl) : wst X (.Assign [.Name n pos'] (.Dict [] [] dpos) pos) D σ H :=
  wst_of (ps_set hN hi hx pe_we hs hf) (we_dnew fun p H2 hp e2 hD => k p H2 hp e2 hD)
theorem ed_dic {w : World} {d : Addr} {kvs : List (P0 × β)} (i : Nat) {n : Str} {pos : Pos} (h : DAt w H d kvs) (hs : σ[i]? = some (some (.ref d)) := by rfl) (hN : X.N[i]? = some n := by rfl) (hvs : Vis X.env.scope n := by first | exact Or.inl rfl | exact Or.inr (Or.inl rfl) | exact Or.inr (Or.inr rfl))
    (hd : (n == ("__debug__" : Str)) = false := by decide) (hcd : (n == ("__classdict__" : Str)) = false := by decide) : ED X σ H (.Name n pos) (Dic.mk (w := w) kvs) := ed_var (v := .ref d) hs ⟨d, rfl, h⟩ hN hvs hd hcd
end
section
variable {P : Program} {w : World} {K : PySem.W.Frag} {mg : Str → Option Value} {base : Heap}
theorem ok_heaps_many {C : Addr} (F : FnP K mg "heaps_many" S_heaps_many) (DC : Dfn P w K mg base (L2.CX P w) 3 "check_number" ["thing", "least", "most"] (spChk K C)) (D1 : D0 P w K mg base 2 "tree_counts" ["most"] (O1 m_trees rL)) (D2 : D0 P w K mg base 2 "all_row_counts" ["trees", "most"] (O2 m_rowcounts rL))
    (D3 : D0 P w K mg base 3 "piece_counts" ["rows_many", "ring", "most"] (O3 m_pieces rL)) (D4 : D0 P w K mg base 1 "from_kinds" ["kinds", "most"] (O2 m_kinds rL)) (gm : ∃ t, mg "MOST_COUNTED" = some (.int 120 t)) (gr : mg "range" = none) (ge : mg "enumerate" = none) :
    D0 P w K mg base 4 "heaps_many" ["number"] (O1 m_many rD) := by
  refine dfn_of F sc_heaps_many O1.len (fun _ _ _ _ _ _ us hl => match us, hl with | [_], _ => rfl) fun f cdv A outer s H vs Q E hr ⟨v, n, z, h1, hv, hz, k⟩ => ?_
  obtain ⟨_, hc, hz1⟩ := bs hz
  have hn := of_decide_eq_true (ck_t hc)
  obtain ⟨ts, hts, hz2⟩ := bs hz1
  obtain ⟨rows, hrows, hz3⟩ := bs hz2
  obtain ⟨kinds, hkinds, hz4⟩ := bs hz3
  obtain ⟨fk, hfk, hz5⟩ := bs hz4
  subst h1
  cases hv
  refine w_seq (w_chk (x := ⟨some n⟩) DC hr (ed_v 0 (v := .int n) (x := (⟨some n⟩ : Nu K)) rfl) ed_int (ed_globI (by rfl) gm) ?_ fun H1 e1 => ?_)
  · show (decide (0 ≤ n) && decide (n ≤ 120)) = true
    rw [decide_eq_true hn.1, decide_eq_true hn.2] <;> rfl
  refine w_seq (w_setL (i := 1) sc_heaps_many.nd (el_o2 D2 (hr.mono (by decide)) (el_o1 D1 (hr.mono (by decide)) (ed_iv 0) hts).d (ed_iv 0) hrows) fun pr H2 hpr e2 hlr => ?_)
  refine w_seq (w_setL (i := 2) sc_heaps_many.nd (el_rep1 (el_lst (eal_cons ed_int eal_nil) (by decide)) (ed_add (ed_iv 0) ed_int) (by omega)) fun p H3 hp e3 hl => ?_)
  refine w_seq (w_fold (P := [p]) _ (fun H0 s σ' H' => (∃ a b c, σ' = [some (.int n), some (.ref pr), some (.ref p), a, b, c]) ∧ Ls H' p s) hkinds PassesOwn.never rfl (src_rng2 ed_int (ed_add (ed_iv 0) ed_int) (by omega) (by rfl) gr) (pgl 3 sc_heaps_many.nd) (Muts.one hl) (fun H3 e3 => ⟨⟨_, _, _, rfl⟩, hl.up e3⟩) ?_ ?_)
  · rintro H4 e4 s s2 ring v' σ' H' H'' hx hst mx ⟨⟨a', b', c', rfl⟩, hs⟩ e5 mx2 hv'
    cases hv'
    obtain ⟨pc, hpc, hst1⟩ := bs hst
    have hE := Ex.mx (Ex.tr e3 e4) mx2 (nn1 hp)
    have hs4 := hs.up e5
    refine g_name (w_one (w_fold (P := [p]) _ (fun H0 s σ' H' => (∃ b c, σ' = [some (.int n), some (.ref pr), some (.ref p), some (.int ring), b, c]) ∧ Ls H' p s) hst1 PassesOwn.never rfl (src_enum_new (el_o3 D3 hr (ed_ls 1 (hlr.up hE)) (ed_iv 3) (ed_iv 0) hpc) (Muts.one hs4).ex (by rfl) ge) (pg_pair (i := 4) (j := 5) rfl sc_heaps_many.nd) (Muts.one hs4) (fun H5 e5 => ⟨⟨_, _, rfl⟩, hs4.up e5⟩) ?_ ?_))
    · rintro H5 e6 s s2 ⟨i, m⟩ v' σ' H6 H7 hx2 hst2 mx3 ⟨⟨c', d', rfl⟩, hs2⟩ e7 mx4 hv'
      obtain ⟨z0, hz0, hst3⟩ := bs hst2
      obtain ⟨j, ej, hj, es⟩ := incO hz0 hst3
      subst es
      refine g_pair hv' fun u1 u2 hu1 hu2 => ?_
      cases hu1
      cases hu2
      exact w_one (w_inc (ed_adr 2) (hs2.up e7) (ed_iv 4) (ed_iv 5) ej hj fun H8 m8 _ hl8 => ⟨mx4.tr m8, ⟨_, _, rfl⟩, hl8⟩)
    · rintro H5 e6 σ' H6 m ⟨⟨c', d', rfl⟩, hs2⟩
      exact ⟨(mx2.trE e6).tr m, ⟨_, _, _, rfl⟩, hs2⟩
  · rintro H4 e4 σ' H' mx ⟨⟨a', b', c', rfl⟩, hs⟩
    refine w_one (w_ret (ed_ixL (el_o2 D4 (hr.mono (by decide)) (ed_ls 2 hs) (ed_iv 0) hfk).d (ed_iv 0) (getI_at hz5)) fun w H6 e6 hw => ?_)
    cases hw
    exact k _ _ (Ex.tr (Ex.tr e1 e2) (Ex.tr (Ex.mx (Ex.tr e3 e4) mx (nn1 hp)) e6)) rfl
theorem ok_lots_of {α : Type} [Rep α] [Imm α] (F : FnP K mg "lots_of" S_lots_of) (ge : mg "enumerate" = none) : ∀ n : Nat, D0 P w K mg base (n + 1) "lots_of" ["things", "number"] (O2 (m_lots (α := α) n) rL) := by
  intro n
  induction n with
  | zero =>
    refine dfn_of F sc_lots_of O2.len (fun _ _ _ _ _ _ us hl => match us, hl with | [_, _], _ => rfl) fun f cdv A outer s H vs Q E hr ⟨v, things, u, n, z, h1, hv, hu, hz, k⟩ => ?_
    cases hz
  | succ fuel IH =>
    refine dfn_of F sc_lots_of O2.len (fun _ _ _ _ _ _ us hl => match us, hl with | [_, _], _ => rfl) fun f cdv A outer s H vs Q E hr ⟨v, things, u, n, z, h1, hv, hu, hz, k⟩ => ?_
    subst h1
    cases hu
    unfold m_lots at hz
    refine w_seq (w_if (eb_cmpI c_eq (ed_iv 1) ed_int) (fun q H1 e1 => ?_) fun q H1 e1 => w_nil ?_)
    · rw [if_pos (of_decide_eq_true q)] at hz
      cases hz
      exact w_one (w_retL (el_lst (eal_cons (ed_tup (xs := ([] : List α)) eal_nil (Nat.zero_le _)) eal_nil) one_line) fun p H2 hp e2 hl => k _ _ (Ex.tr e1 e2) ⟨p, rfl, fresh_b e1 hp, hl⟩)
    · rw [if_neg (of_decide_eq_false q)] at hz
      refine w_seq (w_setL (xs := ([] : List (Tup α))) (i := 2) sc_lots_of.nd (el_lst eal_nil (Nat.zero_le _)) fun p H2 hp e2 hl => ?_)
      obtain ⟨a, ea, hla⟩ := id (Rep.up e1 hv)
      subst ea
      have nap := ls_ne hla hp
      refine w_seq (w_fold (P := [p]) _ (fun H0 s σ' H' => (∃ b c d e, σ' = [some (.ref a), some (.int n), some (.ref p), b, c, d, e]) ∧ Ls H' p s) hz PassesOwn.never rfl (src_enum_at (ed_adr 0) (hla.up e2) (nmem1 nap) (by rfl) ge) (pg_nest (i := 3) (j := 4) (l := 5) rfl sc_lots_of.nd) (Muts.one hl) (fun H3 e3 => ⟨⟨_, _, _, _, rfl⟩, hl.up e3⟩) ?_ ?_)
      · rintro H3 e3 s s2 ⟨x, y, t⟩ v' σ' H' H'' hx hst mx ⟨⟨b', c', d', e', rfl⟩, hs⟩ e4 mx2 hv'
        obtain ⟨ii, hi1, hi2⟩ := enumI_mem hx
        dsimp only at hi1
        refine g_nest hv' fun u1 u2 u3 hu1 hu2 hu3 => ?_
        cases hu1
        cases hu2
        dsimp only at hst
        refine w_one (w_if (eb_cmpI (c_le (i := y) (j := n)) (ed_iv 4) (ed_iv 1)) (fun q H4 e4' => ?_) fun q H4 e4' => ?_)
        · rw [if_pos (of_decide_eq_true q)] at hst
          obtain ⟨rest, hrest, hst1⟩ := bs hst
          obtain ⟨_, hck, hst2⟩ := bs hst1
          obtain ⟨x1, x2, rfl⟩ := extO_is hst2
          have hck := ck_t hck
          rw [Bool.and_eq_true] at hck
          have k1 := few_is hck.1
          have x1' := few_is x1
          have hs4 := (hs.up e4).up e4'
          have hla4 := (mx2.trE e4').ls (hla.up (Ex.tr e2 e3)) (nmem1 nap)
          refine w_one (w_ext (ed_adr 2) hs4 (el_lc (lc0 (fun r : Tup α => (⟨t :: r.items⟩ : Tup α)) [("rest", 6)] (gName 6) (src_l (el_o2 IH hr (ED.to (el_slL (ed_ls 0 hla4) (eo_some (ed_iv 3)) eo_none).d (cut_from (by omega))) (ed_sub (ed_iv 1) (ed_iv 4)) hrest).d) (by omega) (blk_of (N := N_lots_of) (sc := defScope S_lots_of) (by decide +kernel)) (pgn 6 sc_lots_of.nd) ?_) rfl sc_lots_of.nd).d ?_ fun H5 m5 _ hl5 => ?_)
          · intro r hr' v5 H5 e5 hv5
            have kr := few_is (List.all_eq_true.mp hck.2 r hr')
            have hu3' := Rep.up (Ex.tr e4' e5) hu3
            exact ⟨_, fun Q q => q, rfl, fun s H0 C cl fp => ed_cat (t := (⟨[t]⟩ : Tup α)) (ed_tup (eal_cons (ed_v 5 hu3') eal_nil) (by show 1 ≤ sizeLine; decide)) (ed_v 6 hv5) (by rw [sizeLine_eq]; show 1 + _ ≤ _; omega)⟩
          · rw [List.length_map]
            omega
          · exact ⟨(mx2.trE e4').tr m5, ⟨_, _, _, _, rfl⟩, hl5⟩
        · rw [if_neg (of_decide_eq_false q)] at hst
          cases hst
          exact w_nil ⟨mx2.trE e4', ⟨_, _, _, _, rfl⟩, (hs.up e4).up e4'⟩
      · rintro H3 e3 σ' H' mx ⟨⟨b', c', d', e', rfl⟩, hs⟩
        exact w_one (w_ret (ed_adr 2) fun w H6 e6 hw => by
          cases hw
          exact k _ _ (Ex.tr e1 (Ex.tr (Ex.mx (Ex.tr e2 e3) mx (nn1 hp)) e6)) ⟨p, rfl, fresh_b e1 hp, hs.up e6⟩)
end
end Oa
set_option Elab.async false
set_option linter.all false
set_option maxRecDepth 100000
set_option maxHeartbeats 1000000
namespace Oa
open PySem PySem.Spec PyProof.Rows L2
/-! ### promises under the table -/
section
variable {α β γ δ : Type} [Rep α] [Rep β] [Rep γ] [Rep δ]
def Und (Pt : Addr) (sp : Sp) : Sp := fun vs H Q E => TabT H Pt ∧ sp vs H Q E
theorem Und.len {Pt : Addr} {sp : Sp} {n : Nat} (h : ∀ vs H Q E, sp vs H Q E → vs.length = n) (vs H Q E) (k : Und Pt sp vs H Q E) : vs.length = n := h vs H Q E k.2
variable {X : Cx} {σ : St} {H H' : Hp} {a b c : Expr} {pos p : Pos} {n : Str} {k : Nat} {ps : List Str} {Pt : Addr}
theorem el_t1 {x : α} {z : List δ} {f : α → Option (List δ)} (D : Dfn X.prog X.w X.K X.mg X.base CX0 k n ps (Und Pt (O1 f rL))) (hT : TabT H Pt) (hr : Room k X.A) (ha : ED X σ H a x) (hf : f x = some z) (hg : Gl X n := by rfl) (hdb : (n == ("__debug__" : Str)) = false := by decide)
    (he : starEach [a] X.env = [(false, eval a X.env)] := by rfl) : EL X σ H (.Call (.Name n p) [a] [] pos) z := fun H1 e1 Q q =>
  ec_call D hr hg pass0 (ea_cons ha ea_nil he) e1 (fun vs H2 e2 ⟨v, ws, h1, hv, h2⟩ => by
    subst h1 h2
    exact ⟨(e1.tr e2).tab Pt hT, v, x, z, rfl, hv, hf, fun w H3 e3 ⟨p, e, hn, l⟩ => by subst e; exact q p H3 (fresh_b e2 hn) (Ex.tr e2 e3) l⟩) hdb he (by rfl)
theorem ed_t1 {x : α} {z : δ} {f : α → Option δ} (D : Dfn X.prog X.w X.K X.mg X.base CX0 k n ps (Und Pt (O1 f rD))) (hT : TabT H Pt) (hr : Room k X.A) (ha : ED X σ H a x) (hf : f x = some z) (hg : Gl X n := by rfl) (hdb : (n == ("__debug__" : Str)) = false := by decide)
    (he : starEach [a] X.env = [(false, eval a X.env)] := by rfl) : ED X σ H (.Call (.Name n p) [a] [] pos) z := fun H1 e1 Q q =>
  ec_call D hr hg pass0 (ea_cons ha ea_nil he) e1 (fun vs H2 e2 ⟨v, ws, h1, hv, h2⟩ => by
    subst h1 h2
    exact ⟨(e1.tr e2).tab Pt hT, v, x, z, rfl, hv, hf, fun w H3 e3 r => q w H3 (Ex.tr e2 e3) r⟩) hdb he (by rfl)
theorem pairG {K : PySem.W.Frag} {i j : Nat} {v : V} {σ : St} {H : Hp} {x : α × β} (hv : Rep.is H v x) : ∃ u w, Rep.is H u x.1 ∧ Rep.is H w x.2 ∧ ∀ Q : St → Hp → Prop, Q ((σ.set i (some u)).set j (some w)) H → gPair K i j v σ H Q := by
  obtain ⟨a, u, w, e, ha, hu, hw⟩ := hv
  exact ⟨u, w, hu, hw, fun Q h => ⟨a, [u, w], e, SqT.of ha, rfl, u, [w], rfl, w, [], rfl, rfl, h⟩⟩
end
section
variable {P : Program} {w : World} {K : PySem.W.Frag} {mg : Str → Option Value} {base : Heap}
/-- a def whose code object is at c -/
abbrev FnT (K : PySem.W.Frag) (mg : Str → Option Value) (x : Str) (st : Stmt) (c : Addr) : Prop := ∃ f fd, FunD K x x (defArgs st) (defBody st) (defScope st) [] [] f fd ∧ mg x = some (.ref f) ∧ fd.code = .ref c
theorem dfn_ofT {st : Stmt} {x : Str} {N ps : List Str} {k : Nat} {sp : Sp} {c : Addr} (F : FnT K mg x st c) (S : FnScope N ps (defScope st)) (len : ∀ vs H Q E, sp vs H Q E → vs.length = ps.length)
    (hb : ∀ (kV doc pm : Value) (an : Option Addr) (cdv ct : Value) (us : List Value), us.length = ps.length → bindArgs (PySem.W.fnOf x x (defArgs st) (defBody st) (defScope st) .none kV doc pm an cdv ct) ⟨us, []⟩ = pure (ps.zip us))
    (body : ∀ (f : Addr) (A : Around) (outer : List Env) (s : Shared) (H : Hp) (vs : List V) (Q : VK) (E : XK), Room k (A.deeper (envOfC x (defScope st) s.heap.objs.size f (.ref c))) → sp vs H Q E →
      wss (cxN P w K mg base N x st f (.ref c) A outer s H E) (defBody st) { nx := fun _ H' => Q .non H', rt := Q } (start N vs) H) : Dfn P w K mg base CX0 (k + 1) x ps sp := by
  obtain ⟨f, fd, F, hm, hc⟩ := F
  obtain ⟨oc, od, dV, kV, doc, pm, an, cdv, ct, osl, e, lk, hcd, _, _⟩ := id F.ex
  subst e
  have ec : cdv = .ref c := hc
  subst ec
  exact ⟨f, _, fn_of lk hcd S len fun A outer s H vs Q E hr hsp => ⟨_, pss_wss.nox, body f A outer s H vs Q E hr hsp⟩, hm, F.kp, F.bindsN hb⟩
theorem ok_trees_of_size {c Pt : Addr} (F : FnT K mg "trees_of_size" S_trees_of_size c) (TB : LamX.TabB base mg c Pt) (D1 : D0 P w K mg base 10 "lots_of" ["things", "number"] (O2 (m_lots (α := T0) 9) rL)) (D2 : D0 P w K mg base 2 "joined" ["rows"] (O1 m_joined rD)) (gr : mg "range" = none) (gs : mg "sorted" = none) :
    D0 P w K mg base 11 "trees_of_size" ["number"] (Und Pt (O1 m_treesOf rL)) := by
  refine dfn_ofT F sc_trees_of_size (Und.len O1.len) (fun _ _ _ _ _ _ us hl => match us, hl with | [_], _ => rfl) fun f A outer s H vs Q E hr ⟨hT, v, n, z, h1, hv, hz, k⟩ => ?_
  obtain ⟨_, hc, hz⟩ := bs hz
  have hn := small_is (ck_t hc)
  obtain ⟨known, hknown, hz1⟩ := bs hz
  obtain ⟨_, hfk, hz2⟩ := bs hz1
  have hfk := few_is (ck_t hfk)
  obtain ⟨s1, s2, s3⟩ := sortO_is hz2
  subst h1
  cases hv
  refine w_seq (w_setL (xs := ([] : List (Int × T0))) (i := 1) sc_trees_of_size.nd (el_lst eal_nil (Nat.zero_le _)) fun p H1 hp e1 hl => ?_)
  refine w_seq (w_fold (P := [p]) _ (fun H0 s σ' H' => (∃ a b c d, σ' = [some (.int n), some (.ref p), a, b, c, d]) ∧ Ls H' p s) hknown PassesOwn.never rfl (src_rng2 ed_int (ed_add (ed_iv 0) ed_int) (by omega) (by rfl) gr) (pgl 2 sc_trees_of_size.nd) (Muts.one hl) (fun H3 e3 => ⟨⟨_, _, _, _, rfl⟩, hl.up e3⟩) ?_ ?_)
  · rintro H3 e3 s s2 size v' σ' H' H'' hx hst mx ⟨⟨a', b', c', d', rfl⟩, hs⟩ e4 mx2 hv'
    cases hv'
    obtain ⟨fl, hfl, hst1⟩ := bs hst
    obtain ⟨ls, hls, hst2⟩ := bs hst1
    obtain ⟨_, hfw, hst3⟩ := bs hst2
    have hfw := few_is (ck_t hfw)
    obtain ⟨js, hjs, hst4⟩ := bs hst3
    obtain ⟨x1, x2, es⟩ := extO_is hst4
    subst es
    have x1 := few_is x1
    have x2 := few_is x2
    obtain ⟨j1, j2⟩ := mapO_map hjs
    have hT2 : TabT H'' Pt := mx2.tab Pt ((e1.tr e3).tab Pt hT)
    refine g_name (w_seq (w_setL (i := 3) sc_trees_of_size.nd (el_rev (el_sortKey (k := 9) hr rfl TB rfl hT2 (ed_ls 1 (hs.up e4)) hfl (by rfl) gs).d) fun q H4 hq e4' hlq => ?_))
    have hs4 := (hs.up e4).up e4'
    refine w_one (w_ext (ed_adr 1) hs4 (el_lc ((lc0 (fun r : P0 => (size, (m_joined r).getD default)) [("rows", 4)] (gName 4) (src_l (el_o2 D1 hr (ed_ls 3 hlq) (ed_sub (ed_iv 2) ed_int) hls).d) (by omega) (blk_of (N := N_trees_of_size) (sc := defScope S_trees_of_size) (by decide +kernel)) (pgn 4 sc_trees_of_size.nd) ?_).to (ys' := js.map fun j => (size, j)) ?_) rfl sc_trees_of_size.nd).d (by omega) fun H5 m5 _ hl5 => ?_)
    · intro r hr' v5 H5 e5 hv5
      exact ⟨_, fun Q q => q, rfl, fun s H0 C cl fp => ed_pair (ed_iv 2) (ed_o1 D2 (hr.mono (by decide)) (ed_v 4 hv5) (j2 r hr'))⟩
    · rw [j1, List.map_map]
      rfl
    · exact ⟨(mx2.trE e4').tr m5, ⟨_, _, _, _, rfl⟩, hl5⟩
  · rintro H3 e3 σ' H' mx ⟨⟨a', b', c', d', rfl⟩, hs⟩
    have hE := Ex.mx (Ex.tr e1 e3) mx (nn1 hp)
    refine w_one (w_retL ((el_sorted sto0 (units_of hr) (el_lc (lc1 (fun p : Int × T0 => p.2) (fun p => decide (p.1 = n)) [("size", 2), ("tree", 5)] (gPair K 2 5) (src_l (ed_ls 1 hs)) (by omega) (blk_of (N := N_trees_of_size) (sc := defScope S_trees_of_size) (by decide +kernel)) (pgp 2 5 rfl sc_trees_of_size.nd) ?_) rfl sc_trees_of_size.nd).d s1 (by omega) (by rfl) gs).to s3) fun q H6 hq e6 hl6 => k _ _ (hE.tr e6) ⟨q, rfl, fresh_b hE hq, hl6⟩)
    intro x hx v' H7 e7 hv'
    obtain ⟨u, t, hu, ht, hg⟩ := pairG (K := K) (i := 2) (j := 5) (σ := wipe [some (V.int n), some (.ref p), a', b', c', d'] [2, 5]) hv'
    refine ⟨_, hg, rfl, fun s H0 C cl fp => ?_, fun _ s H0 C cl fp => ed_v 5 ht⟩
    exact eb_cmpI c_eq (ed_v 2 hu) (ed_iv 0)
end
end Oa
set_option Elab.async false
set_option linter.all false
set_option maxRecDepth 100000
set_option maxHeartbeats 1000000
namespace Oa
open PySem PySem.Spec PyProof.Rows L2
section
variable {P : Program} {w : World} {K : PySem.W.Frag} {mg : Str → Option Value} {base : Heap}
theorem ok_rows_of_size (F : FnP K mg "rows_of_size" S_rows_of_size) (gi : mg "int" = none) : ∀ n : Nat, D0 P w K mg base (n + 1) "rows_of_size" ["trees", "ring", "number"] (O3 (m_rowsOf n) rL) := by
  intro n
  induction n with
  | zero =>
    refine dfn_of F sc_rows_of_size O3.len (fun _ _ _ _ _ _ us hl => match us, hl with | [_, _, _], _ => rfl) fun f cdv A outer s H vs Q E hr ⟨v, trees, u, ring, t, n, z, h1, hv, hu, ht, hz, k⟩ => ?_
    cases hz
  | succ fuel IH =>
    refine dfn_of F sc_rows_of_size O3.len (fun _ _ _ _ _ _ us hl => match us, hl with | [_, _, _], _ => rfl) fun f cdv A outer s H vs Q E hr ⟨v, trees, u, ring, t, n, z, h1, hv, hu, ht, hz, k⟩ => ?_
    subst h1
    cases hu
    cases ht
    unfold m_rowsOf at hz
    refine w_seq (w_if (eb_cmpI c_eq (ed_iv 1) ed_int) (fun q H1 e1 => ?_) fun q H1 e1 => w_nil ?_)
    · rw [if_pos (of_decide_eq_true q)] at hz
      refine w_one (w_retL ((el_rep1 (el_lst (eal_cons (ed_tup (xs := ([] : List T0)) eal_nil (Nat.zero_le _)) eal_nil) one_line) (ed_intB (ed_cmpI c_eq (ed_iv 2) ed_int) (by rfl) gi) ?_).to (xs' := z) ?_) fun p H2 hp e2 hl => k _ _ (Ex.tr e1 e2) ⟨p, rfl, fresh_b e1 hp, hl⟩)
      · by_cases h0 : n = 0
        · rw [if_pos (decide_eq_true h0)]
          omega
        · rw [if_neg (by rw [decide_eq_false h0]; decide)]
          omega
      · have hz' := Option.some.inj hz
        rw [← hz']
        by_cases h0 : n = 0
        · rw [if_pos (decide_eq_true h0), if_pos h0] <;> rfl
        · rw [if_neg (by rw [decide_eq_false h0]; decide), if_neg h0] <;> rfl
    · rw [if_neg (of_decide_eq_false q)] at hz
      refine w_seq (w_setL (xs := ([] : List P0)) (i := 3) sc_rows_of_size.nd (el_lst eal_nil (Nat.zero_le _)) fun p H2 hp e2 hl => ?_)
      obtain ⟨a, ea, hla⟩ := id (Rep.up e1 hv)
      subst ea
      have nap := ls_ne hla hp
      refine w_seq (w_fold (P := [p]) _ (fun H0 s σ' H' => (∃ c d e, σ' = [some (.ref a), some (.int ring), some (.int n), some (.ref p), c, d, e]) ∧ Ls H' p s) hz PassesOwn.never rfl (src_at (ed_adr 0) (hla.up e2) (nmem1 nap)) (pg_pair (i := 4) (j := 5) rfl sc_rows_of_size.nd) (Muts.one hl) (fun H3 e3 => ⟨⟨_, _, _, rfl⟩, hl.up e3⟩) ?_ ?_)
      · rintro H3 e3 s s2 ⟨y, t⟩ v' σ' H' H'' hx hst mx ⟨⟨c', d', e', rfl⟩, hs⟩ e4 mx2 hv'
        refine g_pair hv' fun u1 u2 hu1 hu2 => ?_
        cases hu1
        dsimp only at hst
        refine w_one (w_if (eb_cmpI (c_le (i := y + ring - 1) (j := n)) (ed_sub (ed_add (ed_iv 4) (ed_iv 1)) ed_int) (ed_iv 2)) (fun q H4 e4' => ?_) fun q H4 e4' => ?_)
        · rw [if_pos (of_decide_eq_true q)] at hst
          obtain ⟨rest, hrest, hst1⟩ := bs hst
          obtain ⟨_, hck, hst2⟩ := bs hst1
          obtain ⟨x1, x2, es⟩ := extO_is hst2
          subst es
          have hck := ck_t hck
          rw [Bool.and_eq_true] at hck
          have k1 := few_is hck.1
          have x1' := few_is x1
          have hs4 := (hs.up e4).up e4'
          have hla4 := (mx2.trE e4').ls (hla.up (Ex.tr e2 e3)) (nmem1 nap)
          refine w_one (w_ext (ed_adr 3) hs4 (el_lc (lc0 (fun r : P0 => (⟨t :: r.items⟩ : P0)) [("rest", 6)] (gName 6) (src_l (el_o3 IH hr (ed_ls 0 hla4) (ed_sub (ed_iv 1) ed_int) (ed_sub (ed_iv 2) (ed_iv 4)) hrest).d) (by omega) (blk_of (N := N_rows_of_size) (sc := defScope S_rows_of_size) (by decide +kernel)) (pgn 6 sc_rows_of_size.nd) ?_) rfl sc_rows_of_size.nd).d ?_ fun H5 m5 _ hl5 => ?_)
          · intro r hr' v5 H5 e5 hv5
            have kr := few_is (List.all_eq_true.mp hck.2 r hr')
            have hu3' := Rep.up (Ex.tr e4' e5) hu2
            exact ⟨_, fun Q q => q, rfl, fun s H0 C cl fp => ed_cat (t := (⟨[t]⟩ : P0)) (ed_tup (eal_cons (ed_v 5 hu3') eal_nil) one_line) (ed_v 6 hv5) (by rw [sizeLine_eq]; show 1 + _ ≤ _; omega)⟩
          · rw [List.length_map]
            omega
          · exact ⟨(mx2.trE e4').tr m5, ⟨_, _, _, rfl⟩, hl5⟩
        · rw [if_neg (of_decide_eq_false q)] at hst
          cases hst
          exact w_nil ⟨mx2.trE e4', ⟨_, _, _, rfl⟩, (hs.up e4).up e4'⟩
      · rintro H3 e3 σ' H' mx ⟨⟨c', d', e', rfl⟩, hs⟩
        exact w_one (w_ret (ed_adr 3) fun w H6 e6 hw => by
          cases hw
          exact k _ _ (Ex.tr e1 (Ex.tr (Ex.mx (Ex.tr e2 e3) mx (nn1 hp)) e6)) ⟨p, rfl, fresh_b e1 hp, hs.up e6⟩)
theorem ok_pieces_of_size {Pt : Addr} (F : FnP K mg "pieces_of_size" S_pieces_of_size) (D1 : D0 P w K mg base 11 "trees_of_size" ["number"] (Und Pt (O1 m_treesOf rL))) (D2 : D0 P w K mg base 10 "rows_of_size" ["trees", "ring", "number"] (O3 (m_rowsOf 9) rL)) (D3 : D0 P w K mg base 2 "turned_least" ["row"] (O1 turnO rD)) (gr : mg "range" = none) (gs : mg "sorted" = none) :
    D0 P w K mg base 12 "pieces_of_size" ["number"] (Und Pt (O1 m_piecesOf rL)) := by
  refine dfn_of F sc_pieces_of_size (Und.len O1.len) (fun _ _ _ _ _ _ us hl => match us, hl with | [_], _ => rfl) fun f cdv A outer s H vs Q E hr ⟨hT, v, n, z, h1, hv, hz, k⟩ => ?_
  obtain ⟨_, hc, hz⟩ := bs hz
  have hn := small_is (ck_t hc)
  obtain ⟨trees, htrees, hz1⟩ := bs hz
  obtain ⟨found, hfound, hz2⟩ := bs hz1
  obtain ⟨_, hff, hz3⟩ := bs hz2
  have hff := few_is (ck_t hff)
  obtain ⟨s1, s2, s3⟩ := sortO_is hz3
  subst h1
  cases hv
  refine w_seq (w_setL (xs := ([] : List (Int × T0))) (i := 1) sc_pieces_of_size.nd (el_lst eal_nil (Nat.zero_le _)) fun p H1 hp e1 hl => ?_)
  refine w_seq (w_fold (P := [p]) _ (fun H0 s σ' H' => (∃ a b c d e, σ' = [some (.int n), some (.ref p), a, b, c, d, e]) ∧ Ls H' p s) htrees PassesOwn.never rfl (src_rng2 ed_int (ed_add (ed_iv 0) ed_int) (by omega) (by rfl) gr) (pgl 2 sc_pieces_of_size.nd) (Muts.one hl) (fun H3 e3 => ⟨⟨_, _, _, _, _, rfl⟩, hl.up e3⟩) ?_ ?_)
  · rintro H3 e3 s s2 size v' σ' H' H'' hx hst mx ⟨⟨a', b', c', d', e', rfl⟩, hs⟩ e4 mx2 hv'
    cases hv'
    obtain ⟨ts, hts, hst1⟩ := bs hst
    obtain ⟨_, hfw, hst2⟩ := bs hst1
    obtain ⟨x1, x2, es⟩ := extO_is hst2
    subst es
    have hfw := few_is (ck_t hfw)
    have x1 := few_is x1
    have x2 := few_is x2
    have hT2 : TabT H'' Pt := mx2.tab Pt ((e1.tr e3).tab Pt hT)
    refine g_name (w_one (w_ext (ed_adr 1) (hs.up e4) (el_lc (lc0 (fun t : T0 => (size, t)) [("tree", 6)] (gName 6) (src_l (el_t1 D1 hT2 hr (ed_iv 2) hts).d) (by omega) (blk_of (N := N_pieces_of_size) (sc := defScope S_pieces_of_size) (by decide +kernel)) (pgn 6 sc_pieces_of_size.nd) ?_) rfl sc_pieces_of_size.nd).d (by omega) fun H5 m5 _ hl5 => ?_))
    · intro r hr' v5 H5 e5 hv5
      exact ⟨_, fun Q q => q, rfl, fun s H0 C cl fp => ed_pair (ed_iv 2) (ed_v 6 hv5)⟩
    · exact ⟨mx2.tr m5, ⟨_, _, _, _, _, rfl⟩, hl5⟩
  · rintro H3 e3 σ' H' mx ⟨⟨a', b', c', d', e', rfl⟩, hs⟩
    have hE := Ex.mx (Ex.tr e1 e3) mx (nn1 hp)
    refine w_seq (w_setD (β := Bool) (i := 3) sc_pieces_of_size.nd fun d H4 hd e4 hD => ?_)
    have npd := ls_ne hs hd
    refine w_seq (w_fold (P := [d]) _ (fun H0 s σ' H' => (∃ a c d' e, σ' = [some (.int n), some (.ref p), a, some (.ref d), c, d', e]) ∧ DAt w H' d s) hfound PassesOwn.never rfl (src_rng2 ed_int (ed_add (ed_iv 0) ed_int) (by omega) (by rfl) gr) (pgl 4 sc_pieces_of_size.nd) (Muts.dic hD) (fun H3 e3 => ⟨⟨_, _, _, _, rfl⟩, hD.up e3⟩) ?_ ?_)
    · rintro H5 e5 s s2 ring v' σ' H6 H7 hx hst mx3 ⟨⟨a', c', d', e', rfl⟩, hs2⟩ e6 mx4 hv'
      cases hv'
      obtain ⟨rows, hrows, hst1⟩ := bs hst
      have hs7 := hs2.up e6
      have hsp := Ls.up (Ex.mx (e4.tr e5) mx4 (nn1 hd)) hs
      refine g_name (w_one (w_fold (P := [d]) _ (fun H0 s σ' H' => (∃ d' e, σ' = [some (.int n), some (.ref p), a', some (.ref d), some (.int ring), d', e]) ∧ DAt w H' d s) hst1 PassesOwn.never rfl (src_new (el_o3 D2 (hr.mono (by decide)) (ed_ls 1 hsp) (ed_iv 4) (ed_iv 0) hrows) (Muts.dic hs7).ex) (pgl 5 sc_pieces_of_size.nd) (Muts.dic hs7) (fun H3 e3 => ⟨⟨_, _, rfl⟩, hs7.up e3⟩) ?_ ?_))
      · rintro H8 e8 s s2 row v' σ' H9 H10 hx hst2 mx5 ⟨⟨d'', e'', rfl⟩, hs3⟩ e10 mx6 hv'
        obtain ⟨_, hck, hst3⟩ := bs hst2
        cases hst3
        have hck := ck_t hck
        simp only [Bool.and_eq_true] at hck
        have y1 := few_is hck.1.1
        have y2 := few_is hck.1.2
        exact g_name (w_one (w_dput (β := Bool) (x := true) hr (ed_adr 3) (hs3.up e10) (ed_o1 D3 (hr.mono (by decide)) (ed_v 5 hv') (if_pos y2)) ed_bl (by omega) fun H11 m11 hD11 => ⟨mx6.tr m11, ⟨_, _, rfl⟩, hD11⟩))
      · rintro H8 e8 σ' H9 m9 ⟨⟨d'', e'', rfl⟩, hs3⟩
        exact ⟨(mx4.trE e8).tr m9, ⟨_, _, _, _, rfl⟩, hs3⟩
    · rintro H5 e5 σ' H6 m6 ⟨⟨a', c', d', e', rfl⟩, hs2⟩
      have hE2 := Ex.mx (e4.tr e5) m6 (nn1 hd)
      exact w_one (w_retL ((el_sortedD rfl (units_of hr) (ed_dic 3 hs2) s1 (by show found.length ≤ _; omega) (by rfl) gs).to s3) fun q H7 hq e7 hl7 => k _ _ ((hE.tr hE2).tr e7) ⟨q, rfl, fresh_b (hE.tr hE2) hq, hl7⟩)
end
end Oa
set_option Elab.async false
set_option linter.all false
set_option maxRecDepth 100000
set_option maxHeartbeats 1000000
namespace Oa
open PySem PySem.Spec PyProof.Rows L2
section
variable {P : Program} {w : World} {K : PySem.W.Frag} {mg : Str → Option Value} {base : Heap}
theorem ok_rows_of_pieces {Pt : Addr} (F : FnP K mg "rows_of_pieces" S_rows_of_pieces) (D1 : D0 P w K mg base 12 "pieces_of_size" ["number"] (Und Pt (O1 m_piecesOf rL))) (D2 : D0 P w K mg base 1 "size_of" ["row"] (O1 (fun p : P0 => if few p.items then some (m_size p) else none) rD)) (D3 : D0 P w K mg base 10 "lots_of" ["things", "number"] (O2 (m_lots (α := P0) 9) rL)) (gr : mg "range" = none) (gs : mg "sorted" = none) :
    D0 P w K mg base 13 "rows_of_pieces" ["number"] (Und Pt (O1 m_rowsOfPieces rL)) := by
  refine dfn_of F sc_rows_of_pieces (Und.len O1.len) (fun _ _ _ _ _ _ us hl => match us, hl with | [_], _ => rfl) fun f cdv A outer s H vs Q E hr ⟨hT, v, n, z, h1, hv, hz, k⟩ => ?_
  obtain ⟨_, hc, hz⟩ := bs hz
  have hn := small_is (ck_t hc)
  obtain ⟨pieces, hpieces, hz1⟩ := bs hz
  obtain ⟨srt, hsrt, hz2⟩ := bs hz1
  obtain ⟨_, hck, hz3⟩ := bs hz2
  have hck := ck_t hck
  obtain ⟨ls, hls, hz4⟩ := bs hz3
  obtain ⟨s1, s2, s3⟩ := sortO_is hsrt
  obtain ⟨t1, t2, t3⟩ := sortO_is hz4
  subst h1
  cases hv
  refine w_seq (w_setL (xs := ([] : List P0)) (i := 1) sc_rows_of_pieces.nd (el_lst eal_nil (Nat.zero_le _)) fun p H1 hp e1 hl => ?_)
  refine w_seq (w_fold (P := [p]) _ (fun H0 s σ' H' => (∃ a b c, σ' = [some (.int n), some (.ref p), a, b, c]) ∧ Ls H' p s) hpieces PassesOwn.never rfl (src_rng2 ed_int (ed_add (ed_iv 0) ed_int) (by omega) (by rfl) gr) (pgl 2 sc_rows_of_pieces.nd) (Muts.one hl) (fun H3 e3 => ⟨⟨_, _, _, rfl⟩, hl.up e3⟩) ?_ ?_)
  · rintro H3 e3 s s2 size v' σ' H' H'' hx hst mx ⟨⟨a', b', c', rfl⟩, hs⟩ e4 mx2 hv'
    cases hv'
    obtain ⟨ps, hps, hst1⟩ := bs hst
    obtain ⟨x1, x2, es⟩ := extO_is hst1
    subst es
    have x1 := few_is x1
    have x2 := few_is x2
    have hT2 : TabT H'' Pt := mx2.tab Pt ((e1.tr e3).tab Pt hT)
    exact g_name (w_one (w_ext (ed_adr 1) (hs.up e4) (el_t1 D1 hT2 hr (ed_iv 2) hps).d (by omega) fun H5 m5 _ hl5 => ⟨mx2.tr m5, ⟨_, _, _, rfl⟩, hl5⟩))
  · rintro H3 e3 σ' H' mx ⟨⟨a', b', c', rfl⟩, hs⟩
    have hE := Ex.mx (Ex.tr e1 e3) mx (nn1 hp)
    have hl3 : srt.length ≤ 5000000 := by
      rw [← s3, isort_len]
      exact s2
    refine w_seq (w_setLc (i := 3) sc_rows_of_pieces.nd rfl (lc0 (fun p : P0 => (m_size p, p)) [("piece", 4)] (gName 4) (src_l (el_rev ((el_sorted sto1 (units_of hr) (ed_ls 1 hs) s1 (by omega) (by rfl) gs).to s3).d).d) (by rw [List.length_reverse]; omega) (blk_of (N := N_rows_of_pieces) (sc := defScope S_rows_of_pieces) (by decide +kernel)) (pgn 4 sc_rows_of_pieces.nd) ?_) fun q H4 hq e4 hl4 => ?_)
    · intro r hr' v5 H5 e5 hv5
      have kr := List.all_eq_true.mp hck r (List.mem_reverse.mp hr')
      exact ⟨_, fun Q q => q, rfl, fun s H0 C cl fp => ed_pair (ed_o1 D2 (hr.mono (by decide)) (ed_v 4 hv5) (if_pos kr)) (ed_v 4 hv5)⟩
    · exact w_one (w_retL ((el_sorted sto2 (units_of hr) (el_o2 D3 (hr.mono (by decide)) (ed_ls 3 hl4) (ed_iv 0) hls).d t1 (by omega) (by rfl) gs).to t3) fun q H7 hq e7 hl7 => k _ _ ((hE.tr e4).tr e7) ⟨q, rfl, fresh_b (hE.tr e4) hq, hl7⟩)
theorem ok_heaps_of_size {Pt : Addr} (F : FnP K mg "heaps_of_size" S_heaps_of_size) (D1 : D0 P w K mg base 13 "rows_of_pieces" ["number"] (Und Pt (O1 m_rowsOfPieces rL))) :
    D0 P w K mg base 14 "heaps_of_size" ["number"] (Und Pt (O1 (fun n => (m_heapsOf n).map (List.map (Dic.mk (w := w)))) rL)) := by
  refine dfn_of F sc_heaps_of_size (Und.len O1.len) (fun _ _ _ _ _ _ us hl => match us, hl with | [_], _ => rfl) fun f cdv A outer s H vs Q E hr ⟨hT, v, n, z, h1, hv, hz, k⟩ => ?_
  obtain ⟨zs, hz0, ez⟩ := map_some hz
  subst ez
  obtain ⟨rows, hrows, hz1⟩ := bs hz0
  subst h1
  cases hv
  refine w_seq (w_setL (xs := ([] : List (Dic w Int))) (i := 1) sc_heaps_of_size.nd (el_lst eal_nil (Nat.zero_le _)) fun p H1 hp e1 hl => ?_)
  refine w_seq (w_fold (P := [p]) _ (fun H0 s σ' H' => (∃ a b c, σ' = [some (.int n), some (.ref p), a, b, c]) ∧ Ls H' p (s.map (Dic.mk (w := w)))) hz1 PassesOwn.never rfl (src_new (el_t1 D1 (e1.tab Pt hT) hr (ed_iv 0) hrows) (Muts.one hl).ex) (pgl 2 sc_heaps_of_size.nd) (Muts.one hl) (fun H3 e3 => ⟨⟨_, _, _, rfl⟩, hl.up e3⟩) ?_ ?_)
  · rintro H3 e3 s s2 row v' σ' H' H'' hx hst mx ⟨⟨a', b', c', rfl⟩, hs⟩ e4 mx2 hv'
    obtain ⟨hh, hhh, hst1⟩ := bs hst
    obtain ⟨x1, es⟩ := appO_is hst1
    subst es
    have x1 := few_is x1
    refine g_name (w_seq (w_setD (β := Int) (i := 3) sc_heaps_of_size.nd fun d H4 hd e4' hD => ?_))
    have hv4 := Rep.up e4' hv'
    have hs4 := (hs.up e4).up e4'
    refine w_seq (w_fold (P := [d]) _ (fun H0 s σ' H' => (∃ c, σ' = [some (.int n), some (.ref p), some v', some (.ref d), c]) ∧ DAt w H' d s) hhh PassesOwn.never rfl (src_t (ed_v 2 hv4)) (pgl 4 sc_heaps_of_size.nd) (Muts.dic hD) (fun H3 e3 => ⟨⟨_, rfl⟩, hD.up e3⟩) ?_ ?_)
    · rintro H5 e5 s s2 piece v5 σ' H6 H7 hx hst mx3 ⟨⟨c', rfl⟩, hs2⟩ e6 mx4 hv5
      obtain ⟨_, hck, hst2⟩ := bs hst
      cases hst2
      have hck := few_is (ck_t hck)
      have hD7 := hs2.up e6
      exact g_name (w_one (w_dput (β := Int) hr (ed_adr 3) hD7 (ed_v 4 hv5) (ed_add (ed_dget hr (ed_dic 3 hD7) (ed_v 4 hv5) ed_int) ed_int) (by omega) fun H11 m11 hD11 => ⟨mx4.tr m11, ⟨_, rfl⟩, hD11⟩))
    · rintro H5 e5 σ' H6 m6 ⟨⟨c', rfl⟩, hs2⟩
      have hE2 := Ex.mx (e4'.tr e5) m6 (nn1 hd)
      refine w_one (w_app (ed_adr 1) (Ls.up hE2 (hs.up e4)) (ed_dic 3 hs2) (by rw [List.length_map]; omega) fun H7 m7 _ hl7 => ⟨(mx2.trE hE2).tr m7, ⟨_, _, _, rfl⟩, ?_⟩)
      rw [List.map_append]
      exact hl7
  · rintro H3 e3 σ' H' mx ⟨⟨a', b', c', rfl⟩, hs⟩
    have hE := Ex.mx (Ex.tr e1 e3) mx (nn1 hp)
    exact w_one (w_ret (ed_adr 1) fun w' H6 e6 hw => by
      cases hw
      exact k _ _ (hE.tr e6) ⟨p, rfl, hp, hs.up e6⟩)
abbrev heapsW (w : World) (n : Int) : Option (List (Dic w Int)) := (m_allHeaps n).map (List.map (Dic.mk (w := w)))
theorem ok_all_heaps {C Pt : Addr} (F : FnP K mg "all_heaps" S_all_heaps) (DC : Dfn P w K mg base (L2.CX P w) 3 "check_number" ["thing", "least", "most"] (spChk K C)) (D1 : D0 P w K mg base 14 "heaps_of_size" ["number"] (Und Pt (O1 (fun n => (m_heapsOf n).map (List.map (Dic.mk (w := w)))) rL))) (gm : ∃ t, mg "MOST_LISTED" = some (.int 7 t)) :
    D0 P w K mg base 15 "all_heaps" ["number"] (Und Pt (O1 (heapsW w) rL)) := by
  refine dfn_of F sc_all_heaps (Und.len O1.len) (fun _ _ _ _ _ _ us hl => match us, hl with | [_], _ => rfl) fun f cdv A outer s H vs Q E hr ⟨hT, v, n, z, h1, hv, hz, k⟩ => ?_
  obtain ⟨zs, hz0, ez⟩ := map_some hz
  obtain ⟨_, hc, hz1⟩ := bs hz0
  have hn := of_decide_eq_true (ck_t hc)
  subst h1
  cases hv
  refine w_seq (w_chk (x := ⟨some n⟩) DC (hr.mono (by decide)) (ed_v 0 (v := .int n) (x := (⟨some n⟩ : Nu K)) rfl) ed_int (ed_globI (by rfl) gm) ?_ fun H1 e1 => ?_)
  · show (decide (0 ≤ n) && decide (n ≤ 7)) = true
    rw [decide_eq_true hn.1, decide_eq_true hn.2] <;> rfl
  exact w_one (w_retL (el_t1 (z := z) D1 (e1.tab Pt hT) hr (ed_iv 0) (by show (m_heapsOf n).map _ = _; rw [hz1, ← ez] <;> rfl)) fun q H7 hq e7 hl7 => k _ _ (e1.tr e7) ⟨q, rfl, fresh_b e1 hq, hl7⟩)
theorem ok_tests_to {Pt : Addr} (F : FnP K mg "tests_to" S_tests_to) (D1 : D0 P w K mg base 12 "pieces_of_size" ["number"] (Und Pt (O1 m_piecesOf rL))) (gr : mg "range" = none) :
    D0 P w K mg base 13 "tests_to" ["most"] (Und Pt (O1 m_testsTo rL)) := by
  refine dfn_of F sc_tests_to (Und.len O1.len) (fun _ _ _ _ _ _ us hl => match us, hl with | [_], _ => rfl) fun f cdv A outer s H vs Q E hr ⟨hT, v, n, z, h1, hv, hz, k⟩ => ?_
  unfold m_testsTo at hz
  split at hz
  · rename_i hn
    subst h1
    cases hv
    refine w_seq (w_setL (xs := ([] : List P0)) (i := 1) sc_tests_to.nd (el_lst eal_nil (Nat.zero_le _)) fun p H1 hp e1 hl => ?_)
    refine w_seq (w_fold (P := [p]) _ (fun H0 s σ' H' => (∃ a, σ' = [some (.int n), some (.ref p), a]) ∧ Ls H' p s) hz PassesOwn.never rfl (src_rng2 ed_int (ed_add (ed_iv 0) ed_int) (by omega) (by rfl) gr) (pgl 2 sc_tests_to.nd) (Muts.one hl) (fun H3 e3 => ⟨⟨_, rfl⟩, hl.up e3⟩) ?_ ?_)
    · rintro H3 e3 s s2 size v' σ' H' H'' hx hst mx ⟨⟨a', rfl⟩, hs⟩ e4 mx2 hv'
      cases hv'
      obtain ⟨ps, hps, hst1⟩ := bs hst
      obtain ⟨x1, x2, es⟩ := extO_is hst1
      subst es
      have x1 := few_is x1
      have x2 := few_is x2
      have hT2 : TabT H'' Pt := mx2.tab Pt ((e1.tr e3).tab Pt hT)
      exact g_name (w_one (w_ext (ed_adr 1) (hs.up e4) (el_t1 D1 hT2 hr (ed_iv 2) hps).d (by omega) fun H5 m5 _ hl5 => ⟨mx2.tr m5, ⟨_, rfl⟩, hl5⟩))
    · rintro H3 e3 σ' H' mx ⟨⟨a', rfl⟩, hs⟩
      have hE := Ex.mx (Ex.tr e1 e3) mx (nn1 hp)
      exact w_one (w_ret (ed_adr 1) fun w' H6 e6 hw => by
        cases hw
        exact k _ _ (hE.tr e6) ⟨p, rfl, hp, hs.up e6⟩)
  · cases hz
theorem ok_tests {C Pt : Addr} (F : FnP K mg "tests" S_tests) (DC : Dfn P w K mg base (L2.CX P w) 3 "check_number" ["thing", "least", "most"] (spChk K C)) (D1 : D0 P w K mg base 13 "tests_to" ["most"] (Und Pt (O1 m_testsTo rL))) (gm : ∃ t, mg "MOST_TESTED" = some (.int 7 t)) :
    D0 P w K mg base 14 "tests" ["most"] (Und Pt (O1 m_testsTo rL)) := by
  refine dfn_of F sc_tests (Und.len O1.len) (fun _ _ _ _ _ _ us hl => match us, hl with | [_], _ => rfl) fun f cdv A outer s H vs Q E hr ⟨hT, v, n, z, h1, hv, hz, k⟩ => ?_
  have hn : 0 ≤ n ∧ n ≤ 7 := by
    unfold m_testsTo at hz
    split at hz
    · assumption
    · cases hz
  subst h1
  cases hv
  refine w_seq (w_chk (x := ⟨some n⟩) DC (hr.mono (by decide)) (ed_v 0 (v := .int n) (x := (⟨some n⟩ : Nu K)) rfl) ed_int (ed_globI (by rfl) gm) ?_ fun H1 e1 => ?_)
  · show (decide (0 ≤ n) && decide (n ≤ 7)) = true
    rw [decide_eq_true hn.1, decide_eq_true hn.2] <;> rfl
  exact w_one (w_retL (el_t1 (z := z) D1 (e1.tab Pt hT) hr (ed_iv 0) hz) fun q H7 hq e7 hl7 => k _ _ (e1.tr e7) ⟨q, rfl, fresh_b e1 hq, hl7⟩)
end
end Oa
set_option Elab.async false
set_option linter.all false
set_option maxRecDepth 100000
set_option maxHeartbeats 1000000
namespace Oa
open PySem PySem.Spec PyProof.Rows L2
section
variable {P : Program} {w : World} {K : PySem.W.Frag} {mg : Str → Option Value} {base : Heap}
theorem ok_l_is_integer (F : FnP K mg "_law_is_integer" S_l_is_integer) (gi : mg "isinstance" = none) (g1 : mg "int" = none) (g2 : mg "bool" = none) : D0 P w K mg base 1 "_law_is_integer" ["_law_thing"] (O1 (fun _ : Int => some true) rD) := by
  refine dfn_of F sc_l_is_integer O1.len (fun _ _ _ _ _ _ us hl => match us, hl with | [_], _ => rfl) fun f cdv A outer s H vs Q E hr ⟨v, x, z, h1, hv, hz, k⟩ => ?_
  cases hz
  subst h1
  refine w_one (w_ret (x := true && !false) (ed_and (ed_isi (TT := "int") (b := true) (x := x) (ed_v 0 hv) (fun H' v' e hv' => ?_) (by rfl) gi (by rfl) g1 (by decide +kernel)) fun _ => ed_and1 (ed_not (ed_isi (TT := "bool") (b := false) (x := x) (ed_v 0 hv) (fun H' v' e hv' => ?_) (by rfl) gi (by rfl) g2 (by decide +kernel)))) fun u H5 e5 hu => k _ _ e5 hu)
  · cases hv'
    exact ⟨"int", .base (.int x), kit_ty (by decide +kernel)⟩
  · cases hv'
    exact ⟨"int", .base (.int x), kit_ty (by decide +kernel)⟩
theorem ok_l_row (F : FnP K mg "_law_row" S_l_row) (gs : mg "sorted" = none) (gt : mg "tuple" = none) : D0 P w K mg base 1 "_law_row" ["_law_rows"] (O1 m_row rD) := by
  refine dfn_of F sc_l_row O1.len (fun _ _ _ _ _ _ us hl => match us, hl with | [_], _ => rfl) fun f cdv A outer s H vs Q E hr ⟨v, a, z, h1, hv, hz, k⟩ => ?_
  obtain ⟨rows, hrows, hz1⟩ := bs hz
  obtain ⟨fs, hf, hz2⟩ := bs hz1
  cases hz2
  obtain ⟨s1, s2, s3⟩ := sortO_is hrows
  subst h1
  refine w_seq (w_setL (i := 1) sc_l_row.nd (el_lst (eal_cons ed_int eal_nil) (by decide)) fun p H1 hp e1 hl => ?_)
  refine w_seq (w_fold (P := [p]) _ (fun H0 s σ' H' => (∃ a b, σ' = [some v, some (.ref p), a, b]) ∧ Ls H' p s) hf PassesOwn.never rfl (src_new (el_rev ((el_sorted sto0 (units_of hr) (ed_v 0 (Rep.up e1 hv)) s1 (by omega) (by rfl) gs).to s3).d) (Muts.one hl).ex) (pgl 2 sc_l_row.nd) (Muts.one hl) (fun H2 e2 => ⟨⟨_, _, rfl⟩, hl.up e2⟩) ?_ fun H2 e2 σ' H' m ⟨⟨a', b', e⟩, hs⟩ => ?_)
  · rintro H2 e2 s s2 x v' σ' H' H'' hx hst mx ⟨⟨a', b', rfl⟩, hs⟩ e3 mx2 hv'
    obtain ⟨f1, f2, rfl⟩ := extO_is hst
    have f1' := few_is f1
    have f2' := few_is f2
    rw [List.length_map] at f2'
    refine g_name (w_one (w_ext (ed_adr 1) (hs.up e3) (el_lc (lc0 (fun d : Int => d + 1) [("_law_depth", 3)] (gName 3) (src_t (ed_v 2 hv')) (by omega) (blk_of (N := N_l_row) (sc := defScope S_l_row) (by decide +kernel)) (pgn 3 sc_l_row.nd) ?_) rfl sc_l_row.nd).d ?_ fun H4 m4 _ hl4 => ?_))
    · intro x' hx' u H5 e5 hu
      cases hu
      exact ⟨_, fun Q q => q, rfl, fun s H0 C cl fp => ed_add (ed_iv 3) ed_int⟩
    · rw [List.length_map]
      omega
    · exact ⟨mx2.tr m4, ⟨_, _, rfl⟩, hl4⟩
  · subst e
    exact w_one (w_ret (ed_tuple (ed_ls 1 hs) (by rfl) gt) fun v H5 e5 hv => k _ _ (Ex.tr (Ex.mx (Ex.tr e1 e2) m (nn1 hp)) e5) hv)
theorem ok_l_hanging (F : FnP K mg "_law_hanging" S_l_hanging) (D : D0 P w K mg base 1 "_law_row" ["_law_rows"] (O1 m_row rD)) : ∀ n : Nat, D0 P w K mg base (n + 2) "_law_hanging" ["_law_ahead", "_law_place"] (O2 (m_hang n) rD) := by
  intro n
  induction n with
  | zero =>
    refine dfn_of F sc_l_hanging O2.len (fun _ _ _ _ _ _ us hl => match us, hl with | [_, _], _ => rfl) fun f cdv A outer s H vs Q E hr ⟨v, ah, u, pl, z, h1, hv, hu, hz, k⟩ => ?_
    cases hz
  | succ fuel IH =>
    refine dfn_of F sc_l_hanging O2.len (fun _ _ _ _ _ _ us hl => match us, hl with | [_, _], _ => rfl) fun f cdv A outer s H vs Q E hr ⟨v, ah, u, pl, z, h1, hv, hu, hz, k⟩ => ?_
    unfold m_hang at hz
    obtain ⟨l, hl, hz1⟩ := bs hz
    obtain ⟨_, hfw, hz2⟩ := bs hz1
    have hfw := few_is (ck_t hfw)
    obtain ⟨ts, hts, hz3⟩ := bs hz2
    obtain ⟨t1, t2⟩ := mapO_map hts
    subst h1
    cases hu
    refine w_one (w_ret (ed_o1 D (hr.mono (by omega)) (EL.d ((el_lc (lc0 (β := T0) _ [("_law_other", 2)] (gName 2) (src_l (ed_ixL (ed_v 0 hv) (ed_iv 1) (getI_at hl))) (by omega) (blk_of (N := N_l_hanging) (sc := defScope S_l_hanging) (by decide +kernel)) (pgn 2 sc_l_hanging.nd) ?_) rfl sc_l_hanging.nd).to t1.symm)) hz3) fun v' H5 e5 hv' => k _ _ e5 hv')
    intro x hx u' H5 e5 hu'
    cases hu'
    exact ⟨_, fun Q q => q, rfl, fun s H0 C cl fp => ed_o2 IH hr (ed_v 0 (Rep.up e5 hv)) (ed_iv 2) (t2 x hx)⟩
theorem ok_l_least (F : FnP K mg "_law_least" S_l_least) (gm : mg "min" = none) (gr : mg "range" = none) (gl : mg "len" = none) : D0 P w K mg base 1 "_law_least" ["_law_row_here"] (O1 m_least rD) := by
  refine dfn_of F sc_l_least O1.len (fun _ _ _ _ _ _ us hl => match us, hl with | [_], _ => rfl) fun f cdv A outer s H vs Q E hr ⟨v, row, z, h1, hv, hz, k⟩ => ?_
  unfold m_least at hz
  split at hz
  · rename_i hsh
    have hsh : row.items.length ≤ 50000 := of_decide_eq_true hsh
    subst h1
    split at hz
    · cases hz
    · rename_i x xs hxs
      cases hz
      refine w_one (w_ret (ed_min rfl (un1 hr) ((el_lc (lc0 (fun k => rot row k) [("_law_k", 1)] (gName 1) (src_rng1 (ed_lenT (ed_v 0 hv) (by rfl) gl) (by omega) (by rfl) gr) ?_ (blk_of (N := N_l_least) (sc := defScope S_l_least) (by decide +kernel)) (pgn 1 sc_l_least.nd) ?_) rfl sc_l_least.nd).to hxs).d (by rfl) gm) fun v' H5 e5 hv' => k _ _ e5 hv')
      · rw [rng_len]
        omega
      · intro kk hk u' H5 e5 hu'
        have hk' := rng_mem.mp hk
        cases hu'
        exact ⟨_, fun Q q => q, rfl, fun s H0 C cl fp => ed_rot (ed_v 0 (Rep.up e5 hv)) (ed_iv 1) (ed_v 0 (Rep.up e5 hv)) (ed_iv 1) hk'.1 (by omega)⟩
  · cases hz
theorem ok_l_ring_places (F : FnP K mg "_law_ring_places" S_l_ring_places) (gr : mg "range" = none) (gl : mg "len" = none) (gL : mg "list" = none) : D0 P w K mg base 1 "_law_ring_places" ["_law_arrows"] (O1 m_ring rL) := by
  refine dfn_of F sc_l_ring_places O1.len (fun _ _ _ _ _ _ us hl => match us, hl with | [_], _ => rfl) fun f cdv A outer s H vs Q E hr ⟨v, t, z, h1, hv, hz, k⟩ => ?_
  obtain ⟨_, hc, hz1⟩ := bs hz
  have hsh : t.items.length ≤ 50000 := of_decide_eq_true (ck_t hc)
  obtain ⟨here, hhere, hz2⟩ := bs hz1
  have hz3 := Option.some.inj hz2
  subst h1
  refine w_seq (w_setL (i := 1) sc_l_ring_places.nd (el_listRg rfl (ed_lenT (ed_v 0 hv) (by rfl) gl) (by omega) (by rfl) gL (by rfl) gr) fun p H1 hp e1 hl => ?_)
  have hhere' : foldO (fun here (_ : Int) => do
    let _ ← ck (few here)
    mapO (getI t.items) here) (rngI (t.items.length : Int).toNat) (rng 0 t.items.length) = some here := by
    rw [Int.toNat_natCast]
    exact hhere
  refine w_seq (w_fold (P := []) _ (fun H0 s σ' H' => (∃ q a b, σ' = [some v, some (.ref q), a, b] ∧ Ls H' q s)) hhere' PassesOwn.never rfl (src_rng1 (ed_lenT (ed_v 0 (Rep.up e1 hv)) (by rfl) gl) (by omega) (by rfl) gr) (pgl 2 sc_l_ring_places.nd) Muts.nil (fun H2 e2 => ⟨_, _, _, rfl, hl.up e2⟩) ?_ ?_)
  · rintro H2 e2 s s2 x v' σ' H' H'' hx hst mx ⟨q, a', b', rfl, hs⟩ e3 mx2 hv'
    cases hv'
    obtain ⟨_, hfw, hst1⟩ := bs hst
    have hfw := few_is (ck_t hfw)
    obtain ⟨t1, t2⟩ := mapO_map hst1
    have hv2 := Rep.up mx2.nil (Rep.up (e1.tr e2) hv)
    refine g_name (w_one (w_setL (i := 1) sc_l_ring_places.nd (el_lc ((lc0 (β := Int) _ [("_law_place", 3)] (gName 3) (src_l (ed_ls 1 (hs.up e3))) (by omega) (blk_of (N := N_l_ring_places) (sc := defScope S_l_ring_places) (by decide +kernel)) (pgn 3 sc_l_ring_places.nd) ?_).to t1.symm) rfl sc_l_ring_places.nd) fun q2 H4 hq2 e4 hl4 => ⟨mx2.trE e4, _, _, _, rfl, hl4⟩))
    intro y hy u' H5 e5 hu'
    cases hu'
    exact ⟨_, fun Q q => q, rfl, fun s H0 C cl fp => ed_ixT (ed_v 0 (Rep.up e5 hv2)) (ed_iv 3) (getI_at (t2 y hy))⟩
  · rintro H2 e2 σ' H' mx ⟨q, a', b', rfl, hs⟩
    have hE := (e1.tr e2).tr mx.nil
    refine w_one (w_retL ((el_lc (lc1 (fun p : Int => p) (fun p => decide (p ∈ here)) [("_law_place", 3)] (gName 3) (src_rng1 (ed_lenT (ed_v 0 (Rep.up hE hv)) (by rfl) gl) (by omega) (by rfl) gr) ?_ (blk_of (N := N_l_ring_places) (sc := defScope S_l_ring_places) (by decide +kernel)) (pgn 3 sc_l_ring_places.nd) ?_) rfl sc_l_ring_places.nd).to (xs' := z) ?_) fun q2 H4 hq2 e4 hl4 => k _ _ (hE.tr e4) ⟨q2, rfl, fresh_b hE hq2, hl4⟩)
    · rw [rng_len]
      omega
    · intro y hy u' H5 e5 hu'
      cases hu'
      exact ⟨_, fun Q q => q, rfl, fun s H0 C cl fp => eb_cmpI (c_inD (un1 hr)) (ed_iv 3) (ed_ls 1 (hs.up e5)), fun _ s H0 C cl fp => ed_iv 3⟩
    · rw [List.map_id']
      exact hz3
end
end Oa
set_option Elab.async false
set_option linter.all false
set_option maxRecDepth 100000
set_option maxHeartbeats 1000000
namespace Oa
open PySem PySem.Spec PyProof.Rows L2
theorem Mx.trN {P : List Addr} {H H1 H2 : Hp} {a : Addr} (m : Mx P H H1) (m2 : Mx [a] H1 H2) (n : H a = none) : Mx P H H2 := ⟨fun x o hx h nt => m2.but x o (nmem1 fun z => by rw [z, n] at h; cases h) (m.but x o hx h nt) nt, m.nt, sm_tr m.sm m2.sm, fun Q t => m2.tab Q (m.tab Q t)⟩
theorem Mx.fr {P : List Addr} {H H1 : Hp} {a : Addr} (m : Mx P H H1) (n : H1 a = none) : H a = none := by
  cases q : H a with
  | none => rfl
  | some o => exact absurd n (m.sm a o q)
theorem LL.nil {α : Type} [Rep α] {H : Hp} {p : Addr} (h : Ls H p ([] : List (List α))) : LL H p [] ([] : List (List α)) := by
  obtain ⟨vs, h1, h2⟩ := h
  cases h2
  exact ⟨h1, List.nodup_nil, by simp, .nil⟩
theorem last_ix {α : Type} {xs : List α} (h : 0 < xs.length) : ixN xs.length (-1) = some (xs.length - 1) := by
  unfold ixN
  rw [if_neg (by decide), if_pos (by omega), show ((-1 + (xs.length : Int)).toNat) = xs.length - 1 by omega]
section
variable {P : Program} {w : World} {K : PySem.W.Frag} {mg : Str → Option Value} {base : Heap}
theorem ok_l_branches (F : FnP K mg "_law_branches" S_l_branches) (gt : mg "tuple" = none) : D0 P w K mg base 1 "_law_branches" ["_law_tree"] (O1 m_branches rL) := by
  refine dfn_of F sc_l_branches O1.len (fun _ _ _ _ _ _ us hl => match us, hl with | [_], _ => rfl) fun f cdv A outer s H vs Q E hr ⟨v, t, z, h1, hv, hz, k⟩ => ?_
  obtain ⟨ff, hf, hz1⟩ := bs hz
  obtain ⟨_, hfw, hz2⟩ := bs hz1
  have hfw := few_is (ck_t hfw)
  have hz3 := Option.some.inj hz2
  subst h1
  refine w_seq (w_setL (xs := ([] : List (List Int))) (i := 1) sc_l_branches.nd (el_lst eal_nil (Nat.zero_le _)) fun p H1 hp e1 hl => ?_)
  have hf' : foldO (fun found d => if d = 1 then appO found [0] else do
    let l ← lastO found
    let l' ← appO l (d - 1)
    some (found.set (found.length - 1) l')) ([] : List (List Int)) (cutD t.items (some 1) none) = some ff := by
    rw [cut_from (by decide)]
    exact hf
  refine w_seq (w_fold (P := [p]) _ (fun H0 s σ' H' => (∃ a b, σ' = [some v, some (.ref p), a, b]) ∧ ∃ as, LL H' p as s ∧ ∀ a ∈ as, H0 a = none) hf' PassesOwn.never rfl (src_t (ed_slT (ed_v 0 (Rep.up e1 hv)) (eo_some ed_int) eo_none)) (pgl 2 sc_l_branches.nd) (Muts.one hl) (fun H2 e2 => ⟨⟨_, _, rfl⟩, [], (LL.nil hl).up e2, fun a ha => by simp at ha⟩) ?_ ?_)
  · rintro H2 e2 s s2 d v' σ' H' H'' hx hst mx ⟨⟨a', b', rfl⟩, as, hs, hn⟩ e3 mx2 hv'
    cases hv'
    refine g_name (w_one (w_if (eb_cmpI c_eq (ed_iv 2) ed_int) (fun q H3 e3' => ?_) fun q H3 e3' => ?_))
    · rw [if_pos (of_decide_eq_true q)] at hst
      obtain ⟨x1, es⟩ := appO_is hst
      subst es
      have x1 := few_is x1
      exact w_one (w_appLL (ed_adr 1) ((hs.up e3).up e3') (el_lst (eal_cons ed_int eal_nil) one_line) (by omega) fun H4 a m4 ha hl4 => ⟨(mx2.trE e3').tr m4, ⟨_, _, rfl⟩, _, hl4, fun b hb => by
        rcases List.mem_append.mp hb with y | y
        · exact hn b y
        · have e : b = a := by simpa using y
          rw [e]
          exact (mx2.trE e3').fr ha⟩)
    · rw [if_neg (of_decide_eq_false q)] at hst
      obtain ⟨l, hl', hst1⟩ := bs hst
      obtain ⟨l2, hl2, hst2⟩ := bs hst1
      cases hst2
      obtain ⟨y1, y2, y3⟩ := lastO_is hl'
      obtain ⟨x1, es⟩ := appO_is hl2
      subst es
      have x1 := few_is x1
      exact w_one (w_appIn (ed_adr 1) ((hs.up e3).up e3') (ed_neg ed_int) y1 (ed_sub (ed_iv 2) ed_int) (by omega) fun H4 a ha m4 hl4 => ⟨(mx2.trE e3').trN m4 (hn a ha), ⟨_, _, rfl⟩, as, hl4 _ (last_ix y3), hn⟩)
  · rintro H2 e2 σ' H' mx ⟨⟨a', b', rfl⟩, as, hs, hn⟩
    have hE := Ex.mx (e1.tr e2) mx (nn1 hp)
    refine w_one (w_retL ((el_lc (lc0 (fun r : List Int => PySem.W.Tup.mk r) [("_law_row_here", 3)] (gName 3) (src_l (ed_ls 1 hs.ls)) (by omega) (blk_of (N := N_l_branches) (sc := defScope S_l_branches) (by decide +kernel)) (pgn 3 sc_l_branches.nd) ?_) rfl sc_l_branches.nd).to (xs' := z) hz3) fun q2 H4 hq2 e4 hl4 => k _ _ (hE.tr e4) ⟨q2, rfl, fresh_b hE hq2, hl4⟩)
    intro y hy u' H5 e5 hu'
    exact ⟨_, fun Q q => q, rfl, fun s H0 C cl fp => ed_tuple (ed_v 3 hu') (by rfl) gt⟩
theorem ok_l_number_board (F : FnP K mg "_law_number_board" S_l_number_board) (gr : mg "range" = none) (gi : mg "int" = none) (gt : mg "tuple" = none) : D0 P w K mg base 1 "_law_number_board" ["_law_many", "_law_number"] (O2 m_nboard rD) := by
  refine dfn_of F sc_l_number_board O2.len (fun _ _ _ _ _ _ us hl => match us, hl with | [_, _], _ => rfl) fun f cdv A outer s H vs Q E hr ⟨v, many, u, num, z, h1, hv, hu, hz, k⟩ => ?_
  obtain ⟨_, hc, hz1⟩ := bs hz
  have hsm := small_is (ck_t hc)
  obtain ⟨ff, hf, hz2⟩ := bs hz1
  have hz3 := Option.some.inj hz2
  subst h1
  cases hv
  cases hu
  refine w_seq (w_setL (xs := ([] : List Int)) (i := 2) sc_l_number_board.nd (el_lst eal_nil (Nat.zero_le _)) fun p H1 hp e1 hl => ?_)
  refine w_seq (w_fold (P := [p]) _ (fun H0 (s : List Int × Int) σ' H' => (∃ a, σ' = [some (.int many), some (.int s.2), some (.ref p), a]) ∧ Ls H' p s.1) hf PassesOwn.never rfl (src_rng1 (ed_iv 0) (by omega) (by rfl) gr) (pgl 3 sc_l_number_board.nd) (Muts.one hl) (fun H2 e2 => ⟨⟨_, rfl⟩, hl.up e2⟩) ?_ ?_)
  · rintro H2 e2 s s2 d v' σ' H' H'' hx hst mx ⟨⟨a', rfl⟩, hs⟩ e3 mx2 hv'
    have hx' := rng_mem.mp hx
    cases hv'
    obtain ⟨dd, hdd, hst1⟩ := bs hst
    obtain ⟨l, hl', hst2⟩ := bs hst1
    cases hst2
    obtain ⟨d1, d2⟩ := divO_is hdd
    obtain ⟨x1, es⟩ := appO_is hl'
    subst es
    have x1 := few_is x1
    refine g_name (w_seq (w_app (ed_adr 2) (hs.up e3) (ed_mod (ed_intI (ed_iv 1) (by rfl) gi) (ed_iv 0) (by omega)) (by omega) fun H4 m4 _ hl4 => ?_))
    refine w_one (w_set (i := 1) (x := s.2 / many) sc_l_number_board.nd (ed_fdiv (ed_iv 1) (ed_iv 0) d1) fun u' H5 e5 hu' => ?_)
    cases hu'
    exact ⟨(mx2.tr m4).trE e5, ⟨_, by rw [← d2] <;> rfl⟩, hl4.up e5⟩
  · rintro H2 e2 σ' H' mx ⟨⟨a', rfl⟩, hs⟩
    exact w_one (w_ret (ed_tuple (ed_ls 2 hs) (by rfl) gt) fun v' H5 e5 hv' => k _ _ (Ex.tr (Ex.mx (Ex.tr e1 e2) mx (nn1 hp)) e5) (by rw [← hz3]; exact hv'))
theorem ok_l_falling (F : FnP K mg "_law_falling" S_l_falling) (gs : mg "sorted" = none) (gL : mg "list" = none) (gt : mg "tuple" = none) : D0 P w K mg base 1 "_law_falling" ["_law_heap_here"] (O1 (fun h : Dic w Int => m_fall h.kvs) rD) := by
  refine dfn_of F sc_l_falling O1.len (fun _ _ _ _ _ _ us hl => match us, hl with | [_], _ => rfl) fun f cdv A outer s H vs Q E hr ⟨v, h, z, h1, hv, hz, k⟩ => ?_
  obtain ⟨_, hc, hz1⟩ := bs hz
  have hfw := few_is (ck_t hc)
  obtain ⟨srt, hsrt, hz2⟩ := bs hz1
  obtain ⟨ff, hf, hz3⟩ := bs hz2
  have hz4 := Option.some.inj hz3
  obtain ⟨s1, s2, s3⟩ := sortO_is hsrt
  subst h1
  refine w_seq (w_setL (xs := ([] : List P0)) (i := 1) sc_l_falling.nd (el_lst eal_nil (Nat.zero_le _)) fun p H1 hp e1 hl => ?_)
  refine w_seq (w_fold (P := [p]) _ (fun H0 s σ' H' => (∃ a, σ' = [some v, some (.ref p), a]) ∧ Ls H' p s) hf PassesOwn.never rfl (src_new (el_rev ((el_sorted sto1 (units_of hr) (el_listD rfl (ed_v 0 (Rep.up e1 hv)) (by omega) (by rfl) gL).d s1 (by omega) (by rfl) gs).to s3).d) (Muts.one hl).ex) (pgl 2 sc_l_falling.nd) (Muts.one hl) (fun H2 e2 => ⟨⟨_, rfl⟩, hl.up e2⟩) ?_ ?_)
  · rintro H2 e2 s s2 d v' σ' H' H'' hx hst mx ⟨⟨a', rfl⟩, hs⟩ e3 mx2 hv'
    obtain ⟨kk, hkk, hst1⟩ := bs hst
    obtain ⟨_, hck, hst2⟩ := bs hst1
    have hck := of_decide_eq_true (ck_t hck)
    obtain ⟨x1, x2, es⟩ := extO_is hst2
    subst es
    have x1 := few_is x1
    have x2 := few_is x2
    have hvh := Rep.up (Ex.mx (e1.tr e2) mx2 (nn1 hp)) hv
    exact g_name (w_one (w_ext (ed_adr 1) (hs.up e3) (el_rep1 (el_lst (eal_cons (ed_v 2 hv') eal_nil) one_line) (ed_dix hr (ed_v 0 hvh) (ed_v 2 hv') hkk) (by omega)).d (by omega) fun H4 m4 _ hl4 => ⟨mx2.tr m4, ⟨_, rfl⟩, hl4⟩))
  · rintro H2 e2 σ' H' mx ⟨⟨a', rfl⟩, hs⟩
    exact w_one (w_ret (ed_tupleF (ed_ls 1 hs) (by rfl) gt) fun v' H5 e5 hv' => k _ _ (Ex.tr (Ex.mx (Ex.tr e1 e2) mx (nn1 hp)) e5) (by rw [← hz4]; exact hv'))
end
end Oa
set_option Elab.async false
set_option linter.all false
set_option maxRecDepth 100000
set_option maxHeartbeats 1000000
namespace Oa
open PySem PySem.Spec PyProof.Rows L2
def yes (o : Option Unit) : Option Bool := o.map fun _ => true
theorem yes_is {o : Option Unit} {b : Bool} (h : yes o = some b) : (∃ u, o = some u) ∧ b = true := by
  obtain ⟨u, h1, h2⟩ := map_some h
  exact ⟨⟨u, h1⟩, h2.symm⟩
theorem is_yes {o : Option Unit} {u : Unit} (h : o = some u) : yes o = some true := by rw [h] <;> rfl
theorem foldU {α : Type} {f : α → Option Unit} : ∀ {xs : List α} {u u2 : Unit}, foldO (fun (_ : Unit) x => f x) u xs = some u2 → ∀ x ∈ xs, f x = some ()
  | [], _, _, _, x, hx => by simp at hx
  | y :: ys, u, u2, h, x, hx => by
    unfold foldO at h
    cases q : f y with
    | none => rw [q] at h; cases h
    | some t =>
      rw [q] at h
      rcases List.mem_cons.mp hx with e | hx
      · rw [e]
        exact q
      · exact foldU h x hx
section
variable {P : Program} {w : World} {K : PySem.W.Frag} {mg : Str → Option Value} {base : Heap}
theorem ok_l_is_tree (F : FnP K mg "_law_is_tree" S_l_is_tree) (D1 : D0 P w K mg base 1 "_law_is_integer" ["_law_thing"] (O1 (fun _ : Int => some true) rD)) (D2 : D0 P w K mg base 1 "_law_branches" ["_law_tree"] (O1 m_branches rL)) (gr : mg "range" = none) (gl : mg "len" = none) (gi : mg "isinstance" = none) (gt : mg "tuple" = none) (ga : mg "all" = none) :
    ∀ n : Nat, D0 P w K mg base (n + 2) "_law_is_tree" ["_law_thing"] (O1 (fun t => yes (m_isTree n t)) rD) := by
  intro n
  induction n with
  | zero =>
    refine dfn_of F sc_l_is_tree O1.len (fun _ _ _ _ _ _ us hl => match us, hl with | [_], _ => rfl) fun f cdv A outer s H vs Q E hr ⟨v, t, z, h1, hv, hz, k⟩ => ?_
    cases hz
  | succ fuel IH =>
    refine dfn_of F sc_l_is_tree O1.len (fun _ _ _ _ _ _ us hl => match us, hl with | [_], _ => rfl) fun f cdv A outer s H vs Q E hr ⟨v, t, z, h1, hv, hz, k⟩ => ?_
    obtain ⟨⟨u0, hz0⟩, ez⟩ := yes_is hz
    subst ez
    unfold m_isTree at hz0
    obtain ⟨x0, hx0, hz1⟩ := bs hz0
    obtain ⟨_, hc, hz2⟩ := bs hz1
    have hc := ck_t hc
    rw [Bool.and_eq_true] at hc
    have e0 : x0 = 0 := of_decide_eq_true hc.1
    have hsh : t.items.length ≤ 50000 := of_decide_eq_true hc.2
    obtain ⟨_, hloop, hz3⟩ := bs hz2
    obtain ⟨rows, hrows, hz4⟩ := bs hz3
    obtain ⟨_, hc2, hz5⟩ := bs hz4
    have hsh2 : rows.length ≤ 50000 := of_decide_eq_true (ck_t hc2)
    obtain ⟨_, hasc, hall⟩ := bs hz5
    have hall := foldU hall
    have hasc := foldU hasc
    have hpos : 0 < t.items.length := by
      obtain ⟨j, ej, hj, hl⟩ := getI_nat hx0
      omega
    subst h1
    refine w_seq (w_if (q := false) (EB.to (eb_w (ew_or (k := !true) (eb_not (eb_val (ed_isi (TT := "tuple") (b := true) (x := t) (ed_v 0 hv) (fun H' v' e hv' => ?_) (by rfl) gi (by rfl) gt (by decide +kernel)))) fun _ =>
      ew_or (k := decide ((t.items.length : Int) = 0)) (eb_cmpI c_eq (ed_lenT (ed_v 0 hv) (by rfl) gl) ed_int) fun _ =>
      ew_or (k := !true) (eb_not (eb_val (ed_o1 D1 (hr.mono (by omega)) (ed_ixT (ed_v 0 hv) ed_int (getI_at hx0)) rfl))) fun _ =>
      ew_or1 (k := !decide (x0 = 0)) (eb_cmpI c_ne (ed_ixT (ed_v 0 hv) ed_int (getI_at hx0)) ed_int))) ?_) (fun q => by cases q) fun _ H1 e1 => w_nil ?_)
    · obtain ⟨a, vs, e1, e2, _⟩ := hv'
      subst e1
      exact ⟨"tuple", .base (.tup e2), kit_ty (by decide +kernel)⟩
    · rw [decide_eq_true e0, decide_eq_false (by omega)] <;> rfl
    have hv1 := Rep.up e1 hv
    refine w_seq (w_fold (P := []) _ (fun H0 (s : Unit) σ' H' => (∃ a, σ' = [some v, a, none, none])) hloop PassesOwn.never rfl (src_rng2 ed_int (ed_lenT (ed_v 0 hv1) (by rfl) gl) (by omega) (by rfl) gr) (pgl 1 sc_l_is_tree.nd) Muts.nil (fun H2 e2 => ⟨_, rfl⟩) ?_ ?_)
    · rintro H2 e2 s s2 d v' σ' H' H'' hx hst mx ⟨a', rfl⟩ e3 mx2 hv'
      cases hv'
      obtain ⟨x, hx1, hst1⟩ := bs hst
      obtain ⟨y, hy1, hst2⟩ := bs hst1
      have hst2 := ck_t hst2
      rw [Bool.and_eq_true] at hst2
      have hv2 := Rep.up (e2.tr mx2.nil) hv1
      refine g_name (w_one (w_if (q := false) (EB.to (eb_w (ew_or (k := !true) (eb_not (eb_val (ed_o1 D1 (hr.mono (by omega)) (ed_ixT (ed_v 0 hv2) (ed_iv 1) (getI_at hx1)) rfl))) fun _ => ew_or1 (k := !(decide (1 ≤ x) && decide (x ≤ y + 1))) (eb_not (eb_chain c_le c_le ed_int (ed_ixT (ed_v 0 hv2) (ed_iv 1) (getI_at hx1)) (ed_add (ed_ixT (ed_v 0 hv2) (ed_sub (ed_iv 1) ed_int) (getI_at hy1)) ed_int))))) ?_) (fun q => by cases q) fun _ H3 e3' => w_nil ⟨mx2.trE e3', _, rfl⟩))
      rw [hst2.1, hst2.2] <;> rfl
    · rintro H2 e2 σ' H' mx ⟨a', rfl⟩
      have hE := (e1.tr e2).tr mx.nil
      refine w_seq (w_setL (i := 2) sc_l_is_tree.nd (el_o1 D2 (hr.mono (by omega)) (ed_v 0 (Rep.up hE hv)) hrows) fun q H3 hq e3 hl => ?_)
      refine w_seq (w_if (q := false) (EB.to (eb_cmpI (c_gt (i := (0 : Int)) (j := 0)) (ED.to (ed_len (el_lc ((lc1 (fun p : Int => p) (fun at' => PySem.W.DatumOrd.lt ((getI rows (at' - 1)).getD default) ((getI rows at').getD default)) [("_law_at", 1)] (gName 1) (src_rng2 ed_int (ed_len (ed_ls 2 hl) (by rfl) gl) (by omega) (by rfl) gr) ?_ (blk_of (N := N_l_is_tree) (sc := defScope S_l_is_tree) (by decide +kernel)) (pgn 1 sc_l_is_tree.nd) ?_).to (ys' := []) ?_) rfl sc_l_is_tree.nd).d (by rfl) gl) rfl) ed_int) rfl) (fun q => by cases q) fun _ H4 e4 => w_nil ?_)
      · rw [rng_len]
        omega
      · intro y hy u' H5 e5 hu'
        have hy' := hasc y hy
        obtain ⟨x1, hx1, hy1⟩ := bs hy'
        obtain ⟨x2, hx2, hy2⟩ := bs hy1
        cases hu'
        refine ⟨_, fun Q q => q, rfl, fun s H0 C cl fp => ?_, fun _ s H0 C cl fp => ed_iv 1⟩
        rw [hx1, hx2]
        exact eb_cmpI (c_ltD (un0 hr)) (ed_ixL (ed_ls 2 (hl.up e5)) (ed_sub (ed_iv 1) ed_int) (getI_at hx1)) (ed_ixL (ed_ls 2 (hl.up e5)) (ed_iv 1) (getI_at hx2))
      · rw [List.map_eq_nil_iff, List.filter_eq_nil_iff]
        intro y hy
        obtain ⟨x1, hx1, hy1⟩ := bs (hasc y hy)
        obtain ⟨x2, hx2, hy2⟩ := bs hy1
        rw [hx1, hx2]
        have := ck_t hy2
        simp only [Option.getD_some]
        intro z
        rw [z] at this
        cases this
      · refine w_one (w_ret (x := (rows.map fun _ => true).all id) (ed_all rfl (el_lc (lc0 (fun r : T0 => true) [("_law_row_here", 3)] (gName 3) (src_l (ed_ls 2 (hl.up e4))) (by omega) (blk_of (N := N_l_is_tree) (sc := defScope S_l_is_tree) (by decide +kernel)) (pgn 3 sc_l_is_tree.nd) ?_) rfl sc_l_is_tree.nd).d (by rfl) ga) fun v' H5 e5 hv' => k _ _ (((hE.tr e3).tr e4).tr e5) ?_)
        · intro r hr' u' H6 e6 hu'
          exact ⟨_, fun Q q => q, rfl, fun s H0 C cl fp => ed_o1 IH hr (ed_v 3 hu') (is_yes (hall r hr'))⟩
        · have e : (rows.map fun _ => true).all id = true := by
            rw [List.all_eq_true]
            intro b hb
            obtain ⟨_, _, e⟩ := List.mem_map.mp hb
            rw [← e] <;> rfl
          rw [e] at hv'
          exact hv'
end
end Oa
set_option Elab.async false
set_option linter.all false
set_option maxRecDepth 100000
set_option maxHeartbeats 1000000
namespace Oa
open PySem PySem.Spec PyProof.Rows L2
theorem all_true {α : Type} (xs : List α) : (xs.map fun _ => true).all id = true := by
  rw [List.all_eq_true]
  intro b hb
  obtain ⟨_, _, e⟩ := List.mem_map.mp hb
  rw [← e] <;> rfl
section
variable {P : Program} {w : World} {K : PySem.W.Frag} {mg : Str → Option Value} {base : Heap}
theorem ok_l_is_piece (F : FnP K mg "_law_is_piece" S_l_is_piece) (D1 : D0 P w K mg base 11 "_law_is_tree" ["_law_thing"] (O1 (fun t => yes (m_isTree 9 t)) rD)) (D2 : D0 P w K mg base 1 "_law_least" ["_law_row_here"] (O1 m_least rD)) (gl : mg "len" = none) (gi : mg "isinstance" = none) (gt : mg "tuple" = none) (ga : mg "all" = none) :
    D0 P w K mg base 12 "_law_is_piece" ["_law_thing"] (O1 (fun t => yes (m_isPiece t)) rD) := by
  refine dfn_of F sc_l_is_piece O1.len (fun _ _ _ _ _ _ us hl => match us, hl with | [_], _ => rfl) fun f cdv A outer s H vs Q E hr ⟨v, t, z, h1, hv, hz, k⟩ => ?_
  obtain ⟨⟨u0, hz0⟩, ez⟩ := yes_is hz
  subst ez
  obtain ⟨_, hc, hz1⟩ := bs hz0
  have hc := ck_t hc
  rw [Bool.and_eq_true] at hc
  have hfw := few_is hc.2
  obtain ⟨_, hall, hz2⟩ := bs hz1
  obtain ⟨l, hl, hz3⟩ := bs hz2
  have el : l = t := of_decide_eq_true (ck_t hz3)
  have hall := foldU hall
  have hne : t.items.length ≠ 0 := by
    intro e
    have e2 := List.eq_nil_of_length_eq_zero e
    rw [e2] at hc
    simp at hc
  subst h1
  refine w_seq (w_if (q := false) (EB.to (eb_w (ew_or (k := !true) (eb_not (eb_val (ed_isi (TT := "tuple") (b := true) (x := t) (ed_v 0 hv) (fun H' v' e hv' => ?_) (by rfl) gi (by rfl) gt (by decide +kernel)))) fun _ =>
    ew_or (k := decide ((t.items.length : Int) = 0)) (eb_cmpI c_eq (ed_lenT (ed_v 0 hv) (by rfl) gl) ed_int) fun _ =>
    ew_or1 (k := !true) (eb_not (eb_val (ED.to (ed_all rfl (el_lc (lc0 (fun r : T0 => true) [("_law_tree", 1)] (gName 1) (src_t (ed_v 0 hv)) (by omega) (blk_of (N := N_l_is_piece) (sc := defScope S_l_is_piece) (by decide +kernel)) (pgn 1 sc_l_is_piece.nd) ?_) rfl sc_l_is_piece.nd).d (by rfl) ga) (all_true _)))))) ?_) (fun q => by cases q) fun _ H1 e1 => w_nil ?_)
  · obtain ⟨a, vs, e1, e2, _⟩ := hv'
    subst e1
    exact ⟨"tuple", .base (.tup e2), kit_ty (by decide +kernel)⟩
  · intro r hr' u' H6 e6 hu'
    exact ⟨_, fun Q q => q, rfl, fun s H0 C cl fp => ed_o1 D1 hr (ed_v 1 hu') (is_yes (hall r hr'))⟩
  · rw [decide_eq_false (by omega)] <;> rfl
  · have hv1 := Rep.up e1 hv
    refine w_one (w_ret (x := decide (l = t)) (ed_cmpI (c_eqD (un0 hr)) (ed_o1 D2 (hr.mono (by decide)) (ed_v 0 hv1) hl) (ed_v 0 hv1)) fun v' H5 e5 hv' => k _ _ (e1.tr e5) ?_)
    rw [decide_eq_true el] at hv'
    exact hv'
theorem ok_l_is_heap (F : FnP K mg "_law_is_heap" S_l_is_heap) (D1 : D0 P w K mg base 12 "_law_is_piece" ["_law_thing"] (O1 (fun t => yes (m_isPiece t)) rD)) (D2 : D0 P w K mg base 1 "_law_is_integer" ["_law_thing"] (O1 (fun _ : Int => some true) rD)) (gl : mg "len" = none) (gi : mg "isinstance" = none) (gd : mg "dict" = none) (gs : mg "sum" = none) :
    D0 P w K mg base 13 "_law_is_heap" ["_law_thing", "_law_places"] (O2 (fun (h : Dic w Int) n => yes (m_isHeap h.kvs n)) rD) := by
  refine dfn_of F sc_l_is_heap O2.len (fun _ _ _ _ _ _ us hl => match us, hl with | [_, _], _ => rfl) fun f cdv A outer s H vs Q E hr ⟨v, h, u, n, z, h1, hv, hu, hz, k⟩ => ?_
  obtain ⟨⟨u0, hz0⟩, ez⟩ := yes_is hz
  subst ez
  obtain ⟨sz, hsz, hz1⟩ := bs hz0
  have esz : sz = n := of_decide_eq_true (ck_t hz1)
  subst h1
  cases hu
  refine w_seq (w_if (q := false) (EB.to (eb_not (eb_val (ed_isiD (Dd := h) (TT := "dict") (b := true) (ed_v 0 hv) (kit_ty (by decide +kernel)) (by rfl) gi (by rfl) gd (by decide +kernel)))) rfl) (fun q => by cases q) fun _ H1 e1 => w_nil ?_)
  have hv1 := Rep.up e1 hv
  refine w_seq (w_set (i := 2) (x := (0 : Int)) sc_l_is_heap.nd ed_int fun u H2 e2 hu => ?_)
  cases hu
  have hv2 := Rep.up e2 hv1
  refine w_seq (w_fold (P := []) _ (fun H0 s σ' H' => ∃ a b, σ' = [some v, some (.int n), some (.int s), a, b]) hsz PassesOwn.never rfl (src_d (ed_v 0 hv2)) (pgl 3 sc_l_is_heap.nd) Muts.nil (fun H3 e3 => ⟨_, _, rfl⟩) ?_ ?_)
  · rintro H3 e3 s s2 p v' σ' H' H'' hx hst mx ⟨a', b', rfl⟩ e4 mx2 hv'
    obtain ⟨_, hpc, hst1⟩ := bs hst
    obtain ⟨kk, hkk, hst2⟩ := bs hst1
    obtain ⟨_, hck, hst3⟩ := bs hst2
    have hck : 1 ≤ kk := of_decide_eq_true (ck_t hck)
    obtain ⟨m, hm, hst4⟩ := bs hst3
    have es := Option.some.inj hst4
    subst es
    obtain ⟨m1, m2⟩ := mulO_is hm
    have hv3 := Rep.up (e3.tr mx2.nil) hv2
    have hfw : p.items.length ≤ 5000000 := by
      obtain ⟨_, y, _⟩ := bs hpc
      have y := ck_t y
      rw [Bool.and_eq_true] at y
      exact few_is y.2
    refine g_name (w_seq (w_if (q := false) (EB.to (eb_w (ew_or (k := !true) (eb_not (eb_val (ed_o1 D1 hr (ed_v 3 hv') (is_yes hpc)))) fun _ => ew_or (k := !true) (eb_not (eb_val (ed_o1 D2 (hr.mono (by decide)) (ed_dix hr (ed_v 0 hv3) (ed_v 3 hv') hkk) rfl))) fun _ => ew_or1 (k := decide (kk < 1)) (eb_cmpI c_lt (ed_dix hr (ed_v 0 hv3) (ed_v 3 hv') hkk) ed_int))) ?_) (fun q => by cases q) fun _ H4 e4' => w_nil ?_))
    · rw [decide_eq_false (by omega)] <;> rfl
    have hv4 := Rep.up e4' hv'
    refine w_one (w_set (i := 2) (x := s + m) sc_l_is_heap.nd (ed_add (ed_iv 2) (ED.to (ed_mul (ed_dix hr (ed_v 0 (Rep.up e4' hv3)) (ed_v 3 hv4) hkk) (ed_sum rfl (el_lc (lc0 (fun t : T0 => (t.items.length : Int)) [("_law_tree", 4)] (gName 4) (src_t (ed_v 3 hv4)) (by omega) (blk_of (N := N_l_is_heap) (sc := defScope S_l_is_heap) (by decide +kernel)) (pgn 4 sc_l_is_heap.nd) ?_) rfl sc_l_is_heap.nd).d (by rfl) gs) m1) m2)) fun u H5 e5 hu => ?_)
    · intro r hr' u' H6 e6 hu'
      exact ⟨_, fun Q q => q, rfl, fun s H0 C cl fp => ed_lenT (ed_v 4 hu') (by rfl) gl⟩
    · cases hu
      exact ⟨mx2.trE (e4'.tr e5), _, _, rfl⟩
  · rintro H3 e3 σ' H' mx ⟨a', b', rfl⟩
    refine w_one (w_ret (x := decide (sz = n)) (ed_cmpI c_eq (ed_iv 2) (ed_iv 1)) fun v' H5 e5 hv' => k _ _ (((e1.tr e2).tr (e3.tr mx.nil)).tr e5) ?_)
    rw [decide_eq_true esz] at hv'
    exact hv'
theorem ok_l_ways (F : FnP K mg "_law_ways" S_l_ways) (D2 : D0 P w K mg base 1 "_law_branches" ["_law_tree"] (O1 m_branches rL)) (gr : mg "range" = none) (gl : mg "len" = none) :
    ∀ n : Nat, D0 P w K mg base (n + 2) "_law_ways" ["_law_tree"] (O1 (m_ways n) rD) := by
  intro n
  induction n with
  | zero =>
    refine dfn_of F sc_l_ways O1.len (fun _ _ _ _ _ _ us hl => match us, hl with | [_], _ => rfl) fun f cdv A outer s H vs Q E hr ⟨v, t, z, h1, hv, hz, k⟩ => ?_
    cases hz
  | succ fuel IH =>
    refine dfn_of F sc_l_ways O1.len (fun _ _ _ _ _ _ us hl => match us, hl with | [_], _ => rfl) fun f cdv A outer s H vs Q E hr ⟨v, t, z, h1, hv, hz, k⟩ => ?_
    unfold m_ways at hz
    obtain ⟨rows, hrows, hz1⟩ := bs hz
    obtain ⟨_, hc, hz2⟩ := bs hz1
    have hsh : rows.length ≤ 50000 := of_decide_eq_true (ck_t hc)
    subst h1
    refine w_seq (w_setL (i := 1) sc_l_ways.nd (el_o1 D2 (hr.mono (by omega)) (ed_v 0 hv) hrows) fun q H1 hq e1 hl => ?_)
    refine w_seq (w_set (i := 2) (x := (1 : Int)) sc_l_ways.nd ed_int fun u H2 e2 hu => ?_)
    cases hu
    have hl2 := hl.up e2
    refine w_seq (w_fold (P := []) _ (fun H0 s σ' H' => ∃ a, σ' = [some v, some (.ref q), some (.int s), a]) hz2 PassesOwn.never rfl (src_rng1 (ed_len (ed_ls 1 hl2) (by rfl) gl) (by omega) (by rfl) gr) (pgl 3 sc_l_ways.nd) Muts.nil (fun H3 e3 => ⟨_, rfl⟩) ?_ ?_)
    · rintro H3 e3 s s2 p v' σ' H' H'' hx hst mx ⟨a', rfl⟩ e4 mx2 hv'
      have hx' := rng_mem.mp hx
      cases hv'
      obtain ⟨r, hr', hst1⟩ := bs hst
      obtain ⟨ww, hww, hst2⟩ := bs hst1
      obtain ⟨m, hm, hst3⟩ := bs hst2
      obtain ⟨m1, m2⟩ := mulO_is hm
      obtain ⟨m3, m4⟩ := mulO_is hst3
      subst m2 m4
      have hl3 := hl2.up (e3.tr mx2.nil)
      refine g_name (w_one (w_set (i := 2) sc_l_ways.nd (ed_mul (ed_mul (ed_iv 2) (ed_o1 IH hr (ed_ixL (ed_ls 1 hl3) (ed_iv 3) (getI_at hr')) hww) m1) (ED.to (ed_count (un1 hr) (EL.d ((el_slL (ed_ls 1 hl3) eo_none (eo_some (ed_add (ed_iv 3) ed_int))).to (cut_to (by omega)))) (ed_ixL (ed_ls 1 hl3) (ed_iv 3) (getI_at hr'))) rfl) m3) fun u H5 e5 hu => ?_))
      cases hu
      exact ⟨mx2.trE e5, _, rfl⟩
    · rintro H3 e3 σ' H' mx ⟨a', rfl⟩
      refine w_one (w_ret (ed_iv 2) fun v' H5 e5 hv' => k _ _ (((e1.tr e2).tr (e3.tr mx.nil)).tr e5) hv')
end
end Oa
set_option Elab.async false
set_option linter.all false
set_option maxRecDepth 100000
set_option maxHeartbeats 1000000
namespace Oa
open PySem PySem.Spec PyProof.Rows L2
section
variable {P : Program} {w : World} {K : PySem.W.Frag} {mg : Str → Option Value} {base : Heap}
theorem ok_l_selves (F : FnP K mg "_law_selves" S_l_selves) (D2 : D0 P w K mg base 11 "_law_ways" ["_law_tree"] (O1 (m_ways 9) rD)) (gr : mg "range" = none) (gl : mg "len" = none) : D0 P w K mg base 12 "_law_selves" ["_law_row_here"] (O1 m_selves rD) := by
  refine dfn_of F sc_l_selves O1.len (fun _ _ _ _ _ _ us hl => match us, hl with | [_], _ => rfl) fun f cdv A outer s H vs Q E hr ⟨v, row, z, h1, hv, hz, k⟩ => ?_
  obtain ⟨_, hc, hz2⟩ := bs hz
  have hsh : row.items.length ≤ 50000 := of_decide_eq_true (ck_t hc)
  subst h1
  refine w_seq (w_set (i := 1) (x := (1 : Int)) sc_l_selves.nd ed_int fun u H2 e2 hu => ?_)
  cases hu
  have hv2 := Rep.up e2 hv
  refine w_seq (w_fold (P := []) _ (fun H0 s σ' H' => ∃ a b c, σ' = [some v, some (.int s), a, b, c, none]) hz2 PassesOwn.never rfl (src_rng1 (ed_lenF (ed_v 0 hv2) (by rfl) gl) (by omega) (by rfl) gr) (pgl 2 sc_l_selves.nd) Muts.nil (fun H3 e3 => ⟨_, _, _, rfl⟩) ?_ ?_)
  · rintro H3 e3 s s2 at' v' σ' H' H'' hx hst mx ⟨a', b', c', rfl⟩ e4 mx2 hv'
    have hx' := rng_mem.mp hx
    cases hv'
    obtain ⟨p, hp, hst1⟩ := bs hst
    obtain ⟨_, hps, hst2⟩ := bs hst1
    have hps : p.items.length ≤ 50000 := of_decide_eq_true (ck_t hps)
    obtain ⟨m1, hm1, hst3⟩ := bs hst2
    obtain ⟨m2, hm2, hst4⟩ := bs hst3
    obtain ⟨c1, c2⟩ := mulO_is hm1
    obtain ⟨d1, d2⟩ := mulO_is hm2
    have hv3 := Rep.up (e3.tr mx2.nil) hv2
    refine g_name (w_seq (w_set (i := 3) sc_l_selves.nd (ed_ixF (ed_v 0 hv3) (ed_iv 2) (getI_at hp)) fun vp H5 e5 hvp => ?_))
    have hv5 := Rep.up e5 hv3
    refine w_seq (w_set (i := 1) (x := m1) sc_l_selves.nd (ED.to (ed_mul (ed_iv 1) (ED.to (ed_countF (t := (⟨row.items.take (at' + 1).toNat⟩ : FTup P0)) (un1 hr) (ED.to (ed_slF (ed_v 0 hv5) eo_none (eo_some (ed_add (ed_iv 2) ed_int))) (congrArg FTup.mk (cut_to (by omega)))) (ed_v 3 hvp)) rfl) c1) c2) fun u H6 e6 hu => ?_)
    cases hu
    have hvp6 := Rep.up e6 hvp
    refine w_seq (w_set (i := 1) (x := m2) sc_l_selves.nd (ED.to (ed_mul (ed_iv 1) (ED.to (ed_len (el_lc ((lc1 (fun k : Int => k) (fun k => decide (rot p k = p)) [("_law_k", 5)] (gName 5) (src_rng1 (ed_lenT (ed_v 3 hvp6) (by rfl) gl) (by omega) (by rfl) gr) ?_ (blk_of (N := N_l_selves) (sc := defScope S_l_selves) (by decide +kernel)) (pgn 5 sc_l_selves.nd) ?_).to (List.map_id' _)) rfl sc_l_selves.nd).d (by rfl) gl) rfl) d1) d2) fun u H7 e7 hu => ?_)
    · rw [rng_len]
      omega
    · intro y hy u' H8 e8 hu'
      have hy' := rng_mem.mp hy
      cases hu'
      have hvp8 := Rep.up e8 hvp6
      exact ⟨_, fun Q q => q, rfl, fun s H0 C cl fp => eb_cmpI (c_eqD (un0 hr)) (ed_rot (ed_v 3 hvp8) (ed_iv 5) (ed_v 3 hvp8) (ed_iv 5) hy'.1 (by omega)) (ed_v 3 hvp8), fun _ s H0 C cl fp => ed_iv 5⟩
    · cases hu
      have hvp7 := Rep.up e7 hvp6
      refine w_one (w_fold (P := []) _ (fun H0 s σ' H' => ∃ c, σ' = [some v, some (.int s), some (.int at'), some vp, c, none]) hst4 PassesOwn.never rfl (src_t (ed_v 3 hvp7)) (pgl 4 sc_l_selves.nd) Muts.nil (fun H3 e3 => ⟨_, rfl⟩) ?_ ?_)
      · rintro H8 e8 s s2 tr v' σ' H9 H10 hx hst mx3 ⟨c', rfl⟩ e10 mx4 hv'
        obtain ⟨ww, hww, hst5⟩ := bs hst
        obtain ⟨f1, f2⟩ := mulO_is hst5
        subst f2
        refine g_name (w_one (w_set (i := 1) sc_l_selves.nd (ed_mul (ed_iv 1) (ed_o1 D2 hr (ed_v 4 hv') hww) f1) fun u H11 e11 hu => ?_))
        cases hu
        exact ⟨mx4.trE e11, _, rfl⟩
      · rintro H8 e8 σ' H9 m9 ⟨c', rfl⟩
        exact ⟨((mx2.trE ((e5.tr e6).tr (e7.tr e8))).trE m9.nil), _, _, _, rfl⟩
  · rintro H3 e3 σ' H' mx ⟨a', b', c', rfl⟩
    exact w_one (w_ret (ed_iv 1) fun v' H5 e5 hv' => k _ _ ((e2.tr (e3.tr mx.nil)).tr e5) hv')
theorem ok_l_tests {Pt : Addr} (F : FnP K mg "_law_tests" S_l_tests) (D1 : D0 P w K mg base 14 "tests" ["most"] (Und Pt (O1 m_testsTo rL))) (gl : mg "len" = none) (gs : mg "sum" = none) : D0 P w K mg base 15 "_law_tests" ["_law_places"] (Und Pt (O1 m_lawTests rL)) := by
  refine dfn_of F sc_l_tests (Und.len O1.len) (fun _ _ _ _ _ _ us hl => match us, hl with | [_], _ => rfl) fun f cdv A outer s H vs Q E hr ⟨hT, v, n, z, h1, hv, hz, k⟩ => ?_
  obtain ⟨ts, hts, hz1⟩ := bs hz
  obtain ⟨_, hc, hz2⟩ := bs hz1
  have hc := ck_t hc
  rw [Bool.and_eq_true] at hc
  have hfw := few_is hc.1
  have hz3 := Option.some.inj hz2
  subst h1
  cases hv
  refine w_one (w_retL ((el_lc (lc1 (fun t : P0 => t) (fun t => decide (m_size t = n)) [("_law_test", 1)] (gName 1) (src_l (el_t1 D1 hT hr (ed_iv 0) hts).d) (by omega) (blk_of (N := N_l_tests) (sc := defScope S_l_tests) (by decide +kernel)) (pgn 1 sc_l_tests.nd) ?_) rfl sc_l_tests.nd).to (xs' := z) ?_) fun q2 H4 hq2 e4 hl4 => k _ _ e4 ⟨q2, rfl, hq2, hl4⟩)
  · intro y hy u' H8 e8 hu'
    have hy2 := few_is (List.all_eq_true.mp hc.2 y hy)
    refine ⟨_, fun Q q => q, rfl, fun s H0 C cl fp => ?_, fun _ s H0 C cl fp => ed_v 1 hu'⟩
    refine eb_cmpI (x := m_size y) c_eq (ed_sum rfl (el_lc (lc0 (fun t : T0 => (t.items.length : Int)) [("_law_tree", 2)] (gName 2) (src_t (ed_v 1 hu')) (by omega) (blkOk_by (by rfl)) (pgn 2 sc_l_tests.nd) ?_) rfl sc_l_tests.nd).d (by rfl) gs) (ed_iv 0)
    intro r hr' u' H6 e6 hu'
    exact ⟨_, fun Q q => q, rfl, fun s H0 C cl fp => ed_lenT (ed_v 2 hu') (by rfl) gl⟩
  · rw [List.map_id']
    exact hz3
end
end Oa
set_option Elab.async false
set_option linter.all false
set_option maxRecDepth 100000
set_option maxHeartbeats 1000000
namespace Oa
open PySem PySem.Spec PyProof.Rows L2
/-! ### [[] for x in xs], xs.remove(n) -/
section
variable {α β : Type} [Rep α] [Rep β] {X : Cx} {σ : St} {H : Hp} {D : Ends} {tg l : Expr} {xs : List α} {pos : Pos} {scope : Scope} {own : List (Str × Nat)} {g : TG}
theorem lc_new {wi : TI} {epos : Pos} (hs : ∀ H1, Ex H H1 → ∀ R : It → Hp → Prop, (∀ J H2, Ex H1 H2 → JOk [] J H2 xs → R J H2) → wi σ H1 R) (hz : xs.length ≤ 10000000) {vs : List Nat}
    (turn : ∀ x ∈ xs, ∀ v H', Ex H H' → Rep.is H' v x → ∃ σ2, (∀ Q : St → Hp → Prop, Q σ2 H' → g v (wipe σ vs) H' Q) ∧ wipe σ2 vs = wipe σ vs) {H1 : Hp} (e1 : Ex H H1) {Q : VK} (q : ∀ p as H2, H1 p = none → Ex H1 H2 → (∀ a ∈ as, H1 a = none) → LL H2 p as (xs.map fun _ => ([] : List β)) → Q (.ref p) H2) :
    tLc wi g tYes (weB X scope (.List [] epos)) vs σ H1 Q := by
  refine hs H1 e1 _ fun J H2 e2 jk => fun D hD => ?_
  have e12 := Ex.tr e1 e2
  refine ⟨fun i m H' => m = xs.length - i ∧ i ≤ xs.length ∧ Ex H2 H' ∧ ∃ as, LL H' D as ((xs.take i).map fun _ => ([] : List β)) ∧ ∀ a ∈ as, H2 a = none, ⟨xs.length, by simp, Nat.zero_le _, Ex.new hD, [], ⟨upd_same, List.nodup_nil, by simp, by simpa using (Paired.nil : Paired (fun a xs => Ls (upd H2 D (.lst [])) a xs) [] ([] : List (List β)))⟩, fun a ha => by simp at ha⟩, ?_⟩
  rintro i m H' ⟨rfl, hi, e3, as, hL, hn⟩
  have mx : Mx [] H2 H' := Mx.of e3 (by intro a ha; simp at ha)
  by_cases hlt : i < xs.length
  · refine .inr ⟨jk.go H' i mx hlt, fun H' => i + 1 ≤ xs.length ∧ Ex H2 H' ∧ ∃ as, LL H' D as ((xs.take (i + 1)).map fun _ => ([] : List β)) ∧ ∀ a ∈ as, H2 a = none, fun H'' hh => ⟨xs.length - (i + 1), by omega, rfl, hh⟩, fun v H4 y => ?_⟩
    obtain ⟨e4, hx⟩ := jk.yld H' i v H4 mx y
    have hgx : xs[i]? = some xs[i] := List.getElem?_eq_getElem hlt
    obtain ⟨σ2, t1, t2⟩ := turn _ (List.getElem_mem hlt) v H4 (Ex.tr e12 (Ex.tr e3 e4)) (hx _ hgx)
    refine t1 _ ⟨t2, ?_⟩
    unfold tYes
    dsimp only
    rw [if_pos rfl]
    intro s H0 C cl fp
    refine el_lst (X := Blk X scope s H0 C cl fp) (σ := σ2) (xs := ([] : List β)) eal_nil (Nat.zero_le _) H4 (Ex.rf _) _ fun a H6 ha e6 hw => ?_
    have tk : xs.take (i + 1) = xs.take i ++ [xs[i]] := by rw [List.take_add_one, hgx]; rfl
    have hL6 := (hL.up e4).up e6
    have hlen : as.length ≤ xs.length := by
      rw [hL.len, List.length_map, List.length_take]
      omega
    have h4 := (hL.up e4)
    have nap : a ≠ D := fun z => by rw [z, h4.loc] at ha; cases ha
    have naa : a ∉ as := fun z => by
      obtain ⟨ys, vs, q, _⟩ := h4.mem z
      rw [ha] at q
      cases q
    have m1 : Mx [D] H6 (upd H6 D (.lst (as.map V.ref ++ [V.ref a]))) := Mx.upd1 hL6.loc
    refine ⟨as.map V.ref, hL6.loc, by rw [List.length_map, sizeLine_eq]; omega, hlt, ?_, as ++ [a], ⟨by rw [List.map_append]; exact upd_same, nodup_app hL.nd naa, ?_, ?_⟩, ?_⟩
    · exact Ex.mut (Ex.tr e3 (Ex.tr e4 e6)) hD hL6.loc
    · rw [List.mem_append]
      rintro (z | z)
      · exact hL.np z
      · have e : D = a := by simpa using z
        exact nap e.symm
    · rw [tk, List.map_append]
      refine papp (paired_mem hL6.ok fun b ys hb r => ?_) (.cons ?_ .nil)
      · obtain ⟨vs, r1, r2⟩ := r
        have nb : b ∉ [D] := nmem1 fun z => by rw [z] at hb; exact hL.np hb
        obtain ⟨j, hj, ej⟩ := List.getElem_of_mem hb
        obtain ⟨zs, hzs, rz⟩ := pget hL6.ok (List.getElem?_eq_getElem hj)
        rw [ej] at rz
        have ee : zs = [] := by
          rw [List.getElem?_map] at hzs
          cases q : (xs.take i)[j]? with
          | none => rw [q] at hzs; cases hzs
          | some _ => rw [q] at hzs; exact (Option.some.inj hzs).symm
        subst ee
        obtain ⟨vs2, q1, q2⟩ := rz
        cases q2
        rw [r1] at q1
        cases q1
        have ey : ys = [] := by cases r2; rfl
        subst ey
        exact ⟨[], m1.but b _ nb r1, .nil⟩
      · obtain ⟨vs, r1, r2⟩ := hw
        cases r2
        exact ⟨[], m1.but a _ (nmem1 nap) r1, .nil⟩
    · intro b hb
      rcases List.mem_append.mp hb with z | z
      · exact hn b z
      · have e : b = a := by simpa using z
        rw [e]
        exact fresh_b (Ex.tr e3 e4) ha
  · have e : i = xs.length := by omega
    subst e
    rw [List.take_length] at hL
    exact .inl ⟨jk.stop H' mx, q D as H' (fresh_b e2 hD) (Ex.tr e2 e3) (fun a ha => fresh_b e2 (hn a ha)) hL⟩
/-- y = [[] for x in xs] -/
theorem w_setN {i : Nat} {n : Str} {py epos : Pos} {ppos : Pos} (own : List (Str × Nat)) (g : TG) (hN : X.N.Nodup) (hc : X.calm = true) (hs : Src X σ H [] tg l xs) (hz : xs.length ≤ 10000000) (ok : BlkOk X.N X.env.scope scope own) (hg : ∀ s H C cl fp, PG (Blk X scope s H C cl fp) tg g)
    (turn : ∀ x ∈ xs, ∀ v H', Ex H H' → Rep.is H' v x → ∃ σ2, (∀ Q : St → Hp → Prop, Q σ2 H' → g v (wipe σ (own.map (·.2))) H' Q) ∧ wipe σ2 (own.map (·.2)) = wipe σ (own.map (·.2)))
    (k : ∀ p as H1, H p = none → Ex H H1 → (∀ a ∈ as, H a = none) → LL H1 p as (xs.map fun _ => ([] : List β)) → D.nx (σ.set i (some (.ref p))) H1) (hi : X.N[i]? = some n := by rfl)
    (hyl : X.env.scope.names.lookup n = some .local := by rfl) (hsw : swapsWith (.ListComp (.List [] epos) [⟨tg, l, [], 0⟩] scope ppos) (some (.Name n py)) pos.line X.env = pure true := by exact sw_true rfl rfl rfl (by decide +kernel))
    (hf : ∀ x, foldedSetIterable l X.env x = pure x := by intro _; rfl) : wst X (.Assign [.Name n py] (.ListComp (.List [] epos) [⟨tg, l, [], 0⟩] scope ppos) pos) D σ H := by
  obtain ⟨wi, hw, hr⟩ := hs.ok
  exact wst_of (ps_setLc hc hN hi hyl hsw hw ok hg (fun _ _ _ _ _ => pts_nil) (fun s H C cl fp => pe_weB s H C cl fp) hf) (lc_new (β := β) hr hz turn (Ex.rf _) fun p as H2 hp e2 hn hL => k p as H2 hp e2 hn hL)
theorem erase_at {xs : List Int} {x : Int} : x ∈ xs → ∃ j : Nat, xs[j]? = some x ∧ (∀ m : Nat, m < j → xs[m]? ≠ some x) ∧ xs.eraseIdx j = xs.erase x := by
  induction xs with
  | nil => intro h; simp at h
  | cons y ys ih =>
    intro h
    by_cases e : y = x
    · subst e
      exact ⟨0, rfl, fun m hm => absurd hm (Nat.not_lt_zero _), by simp⟩
    · have hy : x ∈ ys := by
        rcases List.mem_cons.mp h with z | z
        · exact absurd z.symm e
        · exact z
      obtain ⟨j, h1, h2, h3⟩ := ih hy
      refine ⟨j + 1, by rw [List.getElem?_cons_succ]; exact h1, fun m hm => ?_, ?_⟩
      · cases m with
        | zero =>
          rw [List.getElem?_cons_zero]
          exact fun z => e (Option.some.inj z)
        | succ m =>
          rw [List.getElem?_cons_succ]
          exact h2 m (by omega)
      · rw [List.eraseIdx_cons_succ, h3, List.erase_cons_tail (by simpa using e)]
theorem is_map_ints {H : Hp} (ns : List Int) : AllIs H (ns.map V.int) ns := is_ints
/-- xs.remove(n) -/
theorem w_rem {o e : Expr} {p : Addr} {ns : List Int} {x : Int} {apos cpos : Pos} (ho : ED X σ H o (Adr.mk p)) (hl : Ls H p ns) (h : ED X σ H e x) (hx : x ∈ ns) (k : ∀ H1, Mx [p] H H1 → Lx H H1 → Ls H1 p (ns.erase x) → D.nx σ H1)
    (hs : swapsWith (.Call (.Attribute o "remove" apos) [e] [] cpos) none pos.line X.env = pure false := by rfl) (hbase : attributeBase o "remove" X.env (eval o X.env) = eval o X.env := by rfl)
    (hfew : ((backTo cpos (starEach [e] X.env)).all (fun x => !x.1) && (backToKw cpos (keywordEach [] X.env)).all (fun x => x.1.isSome) && decide (([e] : List Expr).length + ([] : List Keyword).length + (if ([] : List Keyword).isEmpty then 0 else 1) < 30)) = true := by rfl)
    (hline : (apos.endLine == cpos.line) = true := by rfl) (he : starEach [e] X.env = [(false, eval e X.env)] := by rfl) : wst X (.Expr (.Call (.Attribute o "remove" apos) [e] [] cpos) pos) D σ H := by
  obtain ⟨vs, hv, hA⟩ := hl
  have ev := ints_is hA
  subst ev
  obtain ⟨j, j1, j2, j3⟩ := erase_at hx
  refine wst_of (ps_expr (pe_bm PySem.F.plainAttrs_list PySem.F.slot_list_remove PySem.F.type_list_remove mt_remove pe_we (pa_cons pe_we pa_nil he) hbase hfew hline he (by rfl)) hs) ?_
  refine ho H (Ex.rf _) _ fun v H2 e2 hvv => ?_
  cases hvv
  refine ⟨.inl ⟨rfl, _, SqL.of (e2 p _ hv)⟩, h H2 e2 _ fun w H3 e3 hw => ?_⟩
  cases hw
  have h3 : H3 p = some (.lst (ns.map V.int)) := e3 p _ (e2 p _ hv)
  refine ⟨p, ns, x, j, rfl, rfl, h3, j1, j2, ?_⟩
  rw [j3]
  exact k _ (Mx.ofE (Ex.tr e2 e3) (Mx.upd1 h3)) (Lx.tr (Ex.tr e2 e3).lx (lx_upd h3)) ⟨_, upd_same, is_ints⟩
end
end Oa
set_option Elab.async false
set_option linter.all false
set_option maxRecDepth 100000
set_option maxHeartbeats 1000000
namespace Oa
open PySem PySem.Spec PyProof.Rows L2
theorem Muts.ll {α : Type} [Rep α] {H : Hp} {p : Addr} {as : List Addr} {xss : List (List α)} (h : LL H p as xss) : Muts as H := fun a ha => by
  obtain ⟨xs, vs, h1, _⟩ := h.mem ha
  exact ⟨.lst vs, fun f => f, rfl, h1⟩
theorem ll_ne {α : Type} [Rep α] {H : Hp} {p q : Addr} {as : List Addr} {xss : List (List α)} (h : LL H p as xss) (hq : H q = none) : p ≠ q ∧ ∀ a ∈ as, a ≠ q := by
  refine ⟨ls_ne h.ls hq, fun a ha => ?_⟩
  obtain ⟨xs, r⟩ := h.mem ha
  exact ls_ne r hq
section
variable {P : Program} {w : World} {K : PySem.W.Frag} {mg : Str → Option Value} {base : Heap}
abbrev heapW (w : World) (t : T0) : Option (Dic w Int) := (m_heap t).map (Dic.mk (w := w))
theorem ok_l_heap (F : FnP K mg "_law_heap" S_l_heap) (D1 : D0 P w K mg base 1 "_law_ring_places" ["_law_arrows"] (O1 m_ring rL)) (D2 : D0 P w K mg base 11 "_law_hanging" ["_law_ahead", "_law_place"] (O2 (m_hang 9) rD)) (D3 : D0 P w K mg base 1 "_law_least" ["_law_row_here"] (O1 m_least rD)) (gr : mg "range" = none) (gl : mg "len" = none) (gt : mg "tuple" = none) :
    D0 P w K mg base 12 "_law_heap" ["_law_arrows"] (O1 (heapW w) rD) := by
  refine dfn_of F sc_l_heap O1.len (fun _ _ _ _ _ _ us hl => match us, hl with | [_], _ => rfl) fun f cdv A outer s H vs Q E hr ⟨v, t, zz, h1, hv, hz, k⟩ => ?_
  obtain ⟨z, hz0, ez⟩ := map_some hz
  subst ez
  obtain ⟨rest, hrest, hz1⟩ := bs hz0
  obtain ⟨ahead, hahead, hcyc⟩ := bs hz1
  obtain ⟨_, hc, hahead⟩ := bs hahead
  have hsh : t.items.length ≤ 50000 := of_decide_eq_true (ck_t hc)
  subst h1
  refine w_seq (w_setL (i := 1) sc_l_heap.nd (el_o1 D1 (hr.mono (by decide)) (ed_v 0 hv) hrest) fun pr H1 hpr e1 hlr => ?_)
  have hv1 := Rep.up e1 hv
  refine w_seq (w_setN (β := Int) (i := 2) [("_law_place", 3)] (gName 3) sc_l_heap.nd rfl (src_t (ed_v 0 hv1)) (by omega) (blk_of (N := N_l_heap) (sc := defScope S_l_heap) (by decide +kernel)) (pgn 3 sc_l_heap.nd) (fun x hx v H' e hv => ⟨_, fun Q q => q, rfl⟩) fun pa as H2 hpa e2 hna hL => ?_)
  have nra := ls_ne hlr hpa
  have nras : pr ∉ as := fun z => by
    have := hna pr z
    obtain ⟨vs, h1, _⟩ := hlr
    rw [h1] at this
    cases this
  have nasr : ∀ a ∈ as, a ≠ pr := fun a ha e => nras (e ▸ ha)
  have hlr2 := hlr.up e2
  have hv2 := Rep.up e2 hv1
  have hpaH := fresh_b e1 hpa
  have hnaH : ∀ a ∈ as, H a = none := fun a ha => fresh_b e1 (hna a ha)
  refine w_seq (w_fold (P := as) _ (fun H0 s σ' H' => (∃ b c d e, σ' = [some v, some (.ref pr), some (.ref pa), b, c, d, e]) ∧ LL H' pa as s) hahead PassesOwn.never rfl (src_rng1 (ed_lenT (ed_v 0 hv2) (by rfl) gl) (by omega) (by rfl) gr) (pgl 3 sc_l_heap.nd) (Muts.ll hL) (fun H3 e3 => ⟨⟨_, _, _, _, rfl⟩, hL.up e3⟩) ?_ ?_)
  · rintro H3 e3 s s2 p v' σ' H' H'' hx hst mx ⟨⟨b', c', d', e', rfl⟩, hs⟩ e4 mx2 hv'
    cases hv'
    have hlr4 := mx2.ls (hlr2.up e3) nras
    have hv4 : Rep.is H'' v t := Imm.tx mx2.tx (Rep.up e3 hv2)
    refine g_name (w_one (w_if (eb_cmpI (c_ninD (un1 hr)) (ed_iv 3) (ed_ls 1 hlr4)) (fun q H4 e4' => ?_) fun q H4 e4' => ?_))
    · have hnp : ¬ p ∈ rest := fun z => by rw [decide_eq_true z] at q; cases q
      rw [if_neg hnp] at hst
      obtain ⟨qq, hq, hst1⟩ := bs hst
      obtain ⟨l, hl, hst2⟩ := bs hst1
      obtain ⟨l2, hl2, hst3⟩ := bs hst2
      obtain ⟨x1, es⟩ := appO_is hl2
      subst es
      have x1 := few_is x1
      obtain ⟨j, ej, hj, es2⟩ := setI_nat hst3
      subst es2
      refine w_one (w_appIn (ed_adr 2) ((hs.up e4).up e4') (ed_ixT (ed_v 0 (Rep.up e4' hv4)) (ed_iv 3) (getI_at hq)) (getI_at hl) (ed_iv 3) (by omega) fun H5 a ha m5 hl5 => ⟨?_, ⟨_, _, _, _, rfl⟩, hl5 j (by rw [ej]; exact Evl.ixN_nat hj)⟩)
      exact (mx2.trE e4').tr (m5.wk (fun b hb => by rw [show b = a by simpa using hb]; exact ha) (Muts.ll ((hs.up e4).up e4')).nf)
    · have hnp : p ∈ rest := by
        by_cases z : p ∈ rest
        · exact z
        · rw [decide_eq_false z] at q
          cases q
      rw [if_pos hnp] at hst
      cases hst
      exact w_nil ⟨mx2.trE e4', ⟨_, _, _, _, rfl⟩, (hs.up e4).up e4'⟩
  · rintro H3 e3 σ' H' mx ⟨⟨b', c', d', e', rfl⟩, hs⟩
    have hlr4 := mx.ls (hlr2.up e3) nras
    have hE : Ex H H' := Ex.mx ((e1.tr e2).tr e3) mx hnaH
    refine w_seq (w_setD (β := Int) (i := 4) sc_l_heap.nd fun pd H4 hpd e4 hD => ?_)
    have hpdH := fresh_b hE hpd
    have hE4 := hE.tr e4
    refine w_seq (w_while (fun m σ H' => ∃ rest kvs b c d, σ = [some v, some (.ref pr), some (.ref pa), b, some (.ref pd), c, d] ∧ m_cycles t ahead m rest kvs = some z ∧ Ls H' pr rest ∧ LL H' pa as ahead ∧ DAt w H' pd kvs ∧ Ex H H') (rest.length + 1) PassesOwn.never ⟨rest, [], b', d', e', rfl, hcyc, hlr4.up e4, hs.up e4, hD, hE4⟩ ?_)
    rintro m σ H5 ⟨rest, kvs, b', c', d', rfl, hcy, hr5, hL5, hD5, hE5⟩
    refine ⟨_, eb_cmpI (c_gt (i := (rest.length : Int)) (j := 0)) (ed_len (ed_ls 1 hr5) (by rfl) gl) ed_int, fun q H6 e6 => ?_, fun q H6 e6 => ?_⟩
    · cases m with
      | zero => cases hcy
      | succ m =>
        cases rest with
        | nil => cases q
        | cons p0 tl =>
          obtain ⟨ww, hww, hcy1⟩ := bs hcy
          obtain ⟨pc, hpc, hcy2⟩ := bs hcy1
          obtain ⟨_, hck, hcy3⟩ := bs hcy2
          have hck := few_is (ck_t hck)
          refine w_seq (w_setL (xs := ([] : List T0)) (i := 5) sc_l_heap.nd (el_lst eal_nil (Nat.zero_le _)) fun pw H7 hpw e7 hlw => ?_)
          have hr7 := (hr5.up e6).up e7
          have hL7 := (hL5.up e6).up e7
          have hD7 := (hD5.up e6).up e7
          have hE7 := (hE5.tr e6).tr e7
          have nrw := ls_ne (hr5.up e6) hpw
          obtain ⟨naw, nasw⟩ := ll_ne (hL5.up e6) hpw
          have hpwH := fresh_b (hE5.tr e6) hpw
          refine w_seq (w_set (i := 3) sc_l_heap.nd (ed_ixL (x := p0) (ed_ls 1 hr7) ed_int (at_nat (j := 0) rfl rfl)) fun u H8 e8 hu => ?_)
          cases hu
          refine w_seq (w_while (fun m σ H' => ∃ rest row place c, σ = [some v, some (.ref pr), some (.ref pa), some (.int place), some (.ref pd), some (.ref pw), c] ∧ m_walk t ahead m rest row place = some ww ∧ Ls H' pr rest ∧ Ls H' pw row ∧ LL H' pa as ahead ∧ DAt w H' pd kvs ∧ Ex H H') ((p0 :: tl).length + 1) PassesOwn.never ⟨_, _, _, _, rfl, hww, hr7.up e8, hlw.up e8, hL7.up e8, hD7.up e8, hE7.tr e8⟩ ?_)
          rintro m2 σ H9 ⟨rest, row, place, c', rfl, hwk, hr9, hw9, hL9, hD9, hE9⟩
          refine ⟨_, eb_cmpI (c_inD (un1 hr)) (ed_iv 3) (ed_ls 1 hr9), fun q H10 e10 => ?_, fun q H10 e10 => ?_⟩
          · cases m2 with
            | zero => cases hwk
            | succ m2 =>
              have hin := of_decide_eq_true q
              unfold m_walk at hwk
              rw [if_pos hin] at hwk
              obtain ⟨hh, hhh, hwk1⟩ := bs hwk
              obtain ⟨row2, hrow2, hwk2⟩ := bs hwk1
              obtain ⟨qq, hqq, hwk3⟩ := bs hwk2
              obtain ⟨x1, es⟩ := appO_is hrow2
              subst es
              have x1 := few_is x1
              refine w_seq (w_rem (ed_adr 1) (hr9.up e10) (ed_iv 3) hin fun H11 m11 l11 hr11 => ?_)
              have hw11 := m11.ls (hw9.up e10) (nmem1 nrw.symm)
              have hL11 := LL.mx m11 (nmem1 nra.symm) (fun a ha => nmem1 (nasr a ha)) (hL9.up e10)
              have hD11 := (hD9.up e10).lx l11
              have hE11 := Ex.mx (hE9.tr e10) m11 (nn1 hpr)
              refine w_seq (w_app (ed_adr 5) hw11 (ed_o2 D2 hr (ed_v 2 (v := .ref pa) (x := ahead) ⟨pa, rfl, hL11.ls⟩) (ed_iv 3) hhh) (by omega) fun H12 m12 l12 hw12 => ?_)
              have hr12 := m12.ls hr11 (nmem1 nrw)
              have hL12 := LL.mx m12 (nmem1 naw) (fun a ha => nmem1 (nasw a ha)) hL11
              have hD12 := hD11.lx l12
              have hE12 := Ex.mx hE11 m12 (nn1 hpwH)
              refine w_one (w_set (i := 3) sc_l_heap.nd (ed_ixT (ed_v 0 (Rep.up hE12 hv)) (ed_iv 3) (getI_at hqq)) fun u H13 e13 hu => ?_)
              cases hu
              exact ⟨m2, Nat.lt_succ_self m2, _, _, _, _, rfl, hwk3, hr12.up e13, hw12.up e13, hL12.up e13, hD12.up e13, hE12.tr e13⟩
          · have hin : ¬ place ∈ rest := of_decide_eq_false q
            have eww : (rest, row) = ww := by
              cases m2 with
              | zero => cases hwk
              | succ m2 =>
                unfold m_walk at hwk
                rw [if_neg hin] at hwk
                exact Option.some.inj hwk
            subst eww
            refine w_seq (w_set (i := 6) sc_l_heap.nd (ed_o1 D3 (hr.mono (by decide)) (ed_tuple (ed_ls 5 (hw9.up e10)) (by rfl) gt) hpc) fun vp H11 e11 hvp => ?_)
            have hD11 := (hD9.up e10).up e11
            refine w_one (w_dput (β := Int) hr (ed_adr 4) hD11 (ed_v 6 hvp) (ed_add (ed_dget hr (ed_dic 4 hD11) (ed_v 6 hvp) ed_int) ed_int) (by omega) fun H12 m12 hD12 => ?_)
            have ndr : pr ≠ pd := fun z => by
              obtain ⟨vs, y1, _⟩ := (hr9.up e10).up e11
              obtain ⟨xs, ep, y2, _⟩ := hD11.ok
              rw [z, y2] at y1
              cases y1
            have nda : pa ≠ pd ∧ ∀ a ∈ as, a ≠ pd := by
              have hLx := (hL9.up e10).up e11
              obtain ⟨xs, ep, y2, _⟩ := hD11.ok
              refine ⟨fun z => ?_, fun a ha z => ?_⟩
              · have y1 := hLx.loc
                rw [z, y2] at y1
                cases y1
              · obtain ⟨ys, vs, y1, _⟩ := hLx.mem ha
                rw [z, y2] at y1
                cases y1
            exact ⟨m, Nat.lt_succ_self m, _, _, _, _, _, rfl, hcy3, m12.ls ((hr9.up e10).up e11) (nmem1 ndr), LL.mx m12 (nmem1 nda.1) (fun a ha => nmem1 (nda.2 a ha)) ((hL9.up e10).up e11), hD12, Ex.mx ((hE9.tr e10).tr e11) m12 (nn1 hpdH)⟩
    · cases m with
      | zero => cases hcy
      | succ m =>
        cases rest with
        | cons p0 tl =>
          have := of_decide_eq_false q
          exact absurd (show (0 : Int) < (((p0 :: tl).length : Nat) : Int) by rw [List.length_cons]; omega) this
        | nil =>
          have ek : kvs = z := Option.some.inj hcy
          subst ek
          exact w_one (w_ret (ed_dic 4 (hD5.up e6)) fun v' H7 e7 hv' => k _ _ ((hE5.tr e6).tr e7) hv')
end
end Oa
set_option Elab.async false
set_option linter.all false
set_option maxRecDepth 100000
set_option maxHeartbeats 1000000
namespace Oa
open PySem PySem.Spec PyProof.Rows L2
theorem ftO_is {xs ys : List (FTup P0)} (h : ftO xs = some ys) : Srtb xs ∧ xs.length ≤ 5000000 ∧ isort PySem.W.DatumOrd.lt xs = ys := by
  obtain ⟨h1, h2⟩ := if_t h
  rw [Bool.and_eq_true, Bool.or_eq_true] at h1
  refine ⟨?_, few_is h1.2, h2⟩
  rcases h1.1 with h | h
  · exact .inl (of_decide_eq_true h)
  · refine .inr (.inl fun d hd => ?_)
    obtain ⟨t, ht, e⟩ := List.mem_map.mp hd
    have := List.all_eq_true.mp h t ht
    obtain ⟨l⟩ := t
    cases l with
    | nil => simp at this
    | cons x r => exact ⟨_, _, e.symm⟩
theorem stoR : Sto (PySem.W.DatumOrd.lt : FTup P0 → FTup P0 → Bool) := sto_F sto2
section
variable {P : Program} {w : World} {K : PySem.W.Frag} {mg : Str → Option Value} {base : Heap}
theorem ok_l_all_rows (F : FnP K mg "_law_all_rows" S_l_all_rows) (D1 : D0 P w K mg base 1 "_law_number_board" ["_law_many", "_law_number"] (O2 m_nboard rD)) (D2 : D0 P w K mg base 12 "_law_heap" ["_law_arrows"] (O1 (heapW w) rD)) (D3 : D0 P w K mg base 1 "_law_falling" ["_law_heap_here"] (O1 (fun h : Dic w Int => m_fall h.kvs) rD)) (gr : mg "range" = none) (gs : mg "sorted" = none) :
    D0 P w K mg base 13 "_law_all_rows" ["_law_places"] (O1 m_allRows rL) := by
  refine dfn_of F sc_l_all_rows O1.len (fun _ _ _ _ _ _ us hl => match us, hl with | [_], _ => rfl) fun f cdv A outer s H vs Q E hr ⟨v, n, z, h1, hv, hz, k⟩ => ?_
  obtain ⟨c, hc, hz1⟩ := bs hz
  obtain ⟨ff, hf, hz2⟩ := bs hz1
  obtain ⟨s1, s2, s3⟩ := ftO_is hz2
  have hcb : 0 ≤ c ∧ c ≤ 256 := by
    obtain ⟨j, _, hj, _⟩ := getI_nat hc
    have hm := List.mem_of_getElem? hj
    simp only [List.mem_cons, List.not_mem_nil, or_false] at hm
    omega
  subst h1
  cases hv
  refine w_seq (w_setL (xs := ([] : List (FTup P0))) (i := 1) sc_l_all_rows.nd (el_lst eal_nil (Nat.zero_le _)) fun p H1 hp e1 hl => ?_)
  refine w_seq (w_fold (P := [p]) _ (fun H0 s σ' H' => (∃ a b, σ' = [some (.int n), some (.ref p), a, b]) ∧ Ls H' p s) hf PassesOwn.never rfl (src_rng1 (ed_ixL (el_lst (eal_cons ed_int (eal_cons ed_int (eal_cons ed_int (eal_cons ed_int (eal_cons ed_int eal_nil))))) (by show 5 ≤ sizeLine; decide)).d (ed_iv 0) (getI_at hc)) (by omega) (by rfl) gr) (pgl 2 sc_l_all_rows.nd) (Muts.one hl) (fun H2 e2 => ⟨⟨_, _, rfl⟩, hl.up e2⟩) ?_ ?_)
  · rintro H2 e2 s s2 d v' σ' H' H'' hx hst mx ⟨⟨a', b', rfl⟩, hs⟩ e3 mx2 hv'
    cases hv'
    obtain ⟨b, hb, hst1⟩ := bs hst
    obtain ⟨h, hh, hst2⟩ := bs hst1
    obtain ⟨r, hr', hst3⟩ := bs hst2
    refine g_name (w_seq (w_set (i := 3) sc_l_all_rows.nd (ed_o1 (x := (⟨h⟩ : Dic w Int)) D3 (hr.mono (by decide)) (ed_o1 D2 hr (ed_o2 D1 (hr.mono (by decide)) (ed_iv 0) (ed_iv 2) hb) (by show (m_heap b).map _ = _; rw [hh] <;> rfl)) hr') fun vr H4 e4 hvr => ?_))
    have hs4 := (hs.up e3).up e4
    refine w_one (w_if (eb_cmpI (c_ninD (un1 hr)) (ed_v 3 hvr) (ed_ls 1 hs4)) (fun q H5 e5 => ?_) fun q H5 e5 => ?_)
    · have hnp : ¬ r ∈ s := fun z => by rw [decide_eq_true z] at q; cases q
      rw [if_neg hnp] at hst3
      obtain ⟨x1, es⟩ := appO_is hst3
      subst es
      have x1 := few_is x1
      exact w_one (w_app (ed_adr 1) (hs4.up e5) (ed_v 3 (Rep.up e5 hvr)) (by omega) fun H6 m6 _ hl6 => ⟨(mx2.trE (e4.tr e5)).tr m6, ⟨_, _, rfl⟩, hl6⟩)
    · have hnp : r ∈ s := by
        by_cases z : r ∈ s
        · exact z
        · rw [decide_eq_false z] at q
          cases q
      rw [if_pos hnp] at hst3
      cases hst3
      exact w_nil ⟨mx2.trE (e4.tr e5), ⟨_, _, rfl⟩, hs4.up e5⟩
  · rintro H2 e2 σ' H' mx ⟨⟨a', b', rfl⟩, hs⟩
    have hE := Ex.mx (e1.tr e2) mx (nn1 hp)
    exact w_one (w_retL ((el_sorted stoR (units_of hr) (ed_ls 1 hs) s1 (by omega) (by rfl) gs).to s3) fun q H7 hq e7 hl7 => k _ _ (hE.tr e7) ⟨q, rfl, fresh_b hE hq, hl7⟩)
end
/-! ### going on behind a statement -/
section
variable {X : Cx} {σ : St} {H : Hp} {D : Ends} {st : Stmt} {rest : List Stmt}
theorem sp_mono {D D' : Ends} {pins : List (Addr × Obj)} (h1 : ∀ σ H, D.nx σ H → D'.nx σ H) (h2 : ∀ v H, D.rt v H → D'.rt v H) (h3 : ∀ σ H, D.bk σ H → D'.bk σ H) (h4 : ∀ σ H, D.ct σ H → D'.ct σ H) : ∀ f s, SP X pins D f s → SP X pins D' f s := by
  intro f s h
  cases f with
  | next =>
    obtain ⟨σ, H, J, q⟩ := h
    exact ⟨σ, H, J, h1 _ _ q⟩
  | brk =>
    obtain ⟨σ, H, J, q⟩ := h
    exact ⟨σ, H, J, h3 _ _ q⟩
  | cont =>
    obtain ⟨σ, H, J, q⟩ := h
    exact ⟨σ, H, J, h4 _ _ q⟩
  | ret u =>
    obtain ⟨v, σ, H, J, r, q⟩ := h
    exact ⟨v, σ, H, J, r, h2 _ _ q⟩
theorem w_seqJ (J : St → Hp → Prop) (h : wst X st { D with nx := J } σ H) (k : ∀ σ' H', J σ' H' → wss X rest D σ' H') : wss X (st :: rest) D σ H :=
  w_seq fun pins s I => wpAny_mono (h pins s I) (sp_mono k (fun _ _ q => q) (fun _ _ q => q) fun _ _ q => q) fun _ _ z => z
/-- an int as a bare value, and back -/
theorem ed_V {e : Expr} {i : Int} (h : ED X σ H e i) : ED X σ H e (V.int i) := ED.retype h fun H' v _ hv => hv
theorem ed_I {e : Expr} {i : Int} (h : ED X σ H e (V.int i)) : ED X σ H e i := ED.retype h fun H' v _ hv => hv
end
end Oa
set_option Elab.async false
set_option linter.all false
set_option maxRecDepth 100000
set_option maxHeartbeats 1000000
namespace Oa
open PySem PySem.Spec PyProof.Rows L2
/-! ### the hand -/
abbrev hl (c : Addr) (a b s k : Int) : List V := [.ref c, .int a, .int b, .int s, .int k]
structure HandIs (H : Hp) (h c : Addr) (cells : List Int) (a b s k : Int) : Prop where
  ld : Ls H h (hl c a b s k)
  cd : Ls H c cells
  a0 : 0 ≤ a
  ne : c ≠ h
def Hand (H : Hp) (h c : Addr) : Prop := ∃ cells a b s k, HandIs H h c cells a b s k
section
variable {H H' : Hp} {h c : Addr}
theorem HandIs.up {cells : List Int} {a b s k : Int} (e : Ex H H') (x : HandIs H h c cells a b s k) : HandIs H' h c cells a b s k := ⟨x.ld.up e, x.cd.up e, x.a0, x.ne⟩
theorem Hand.up (e : Ex H H') (x : Hand H h c) : Hand H' h c := let ⟨cells, a, b, s, k, y⟩ := x; ⟨cells, a, b, s, k, y.up e⟩
theorem Hand.mx {P : List Addr} (m : Mx P H H') (hh : h ∉ P) (hc : c ∉ P) (x : Hand H h c) : Hand H' h c := let ⟨cells, a, b, s, k, y⟩ := x; ⟨cells, a, b, s, k, m.ls y.ld hh, m.ls y.cd hc, y.a0, y.ne⟩
theorem Hand.ne {p : Addr} (x : Hand H h c) (hp : H p = none) : h ≠ p ∧ c ≠ p := let ⟨_, _, _, _, _, y⟩ := x; ⟨ls_ne y.ld hp, ls_ne y.cd hp⟩
theorem Hand.mut (x : Hand H h c) : Muts [h] H := let ⟨_, _, _, _, _, y⟩ := x; Muts.one y.ld
end
def spDraw : Sp := fun vs H Q _ => ∃ h c many, vs = [.ref h, .int many] ∧ Hand H h c ∧ 0 < many ∧ many < 1073741824 ∧ ∀ d H', 0 ≤ d → d < many → Mx [h] H H' → Hand H' h c → Q (.int d) H'
section
variable {X : Cx} {σ : St} {H : Hp} {o e : Expr} {pos p : Pos} {h c : Addr}
theorem we_draw {n : Str} {k : Nat} {ps : List Str} {many : Int} (D : Dfn X.prog X.w X.K X.mg X.base CX0 k n ps spDraw) (hr : Room k X.A) (ho : ED X σ H o (Adr.mk h)) (he : ED X σ H e many) (hh : Hand H h c) (h0 : 0 < many) (h1 : many < 1073741824) {Q : VK} (q : ∀ d H', 0 ≤ d → d < many → Mx [h] H H' → Hand H' h c → Q (.int d) H')
    (hg : Gl X n := by rfl) (hdb : (n == ("__debug__" : Str)) = false := by decide) (hs : starEach [o, e] X.env = (false, eval o X.env) :: starEach [e] X.env := by rfl) (hs2 : starEach [e] X.env = [(false, eval e X.env)] := by rfl) : we X (.Call (.Name n p) [o, e] [] pos) σ H Q :=
  ec_call D hr hg pass0 (ea_cons ho (ea_cons he ea_nil hs2) hs) (Ex.rf _) (fun vs H2 e2 ⟨v, ws, x1, hv, u, ws2, x2, hu, x3⟩ => by
    subst x1 x2 x3
    cases hv
    cases hu
    exact ⟨h, c, many, rfl, hh.up e2, h0, h1, fun d H' d0 d1 m x => q d H' d0 d1 (Mx.ofE e2 m) x⟩) hdb hs (by rw [hs2] <;> rfl)
theorem ed_h (i : Nat) {n : Str} {cells : List Int} {a b s k : Int} {j : Nat} {x : V} {p1 p2 : Pos} {q : Int} {m : Nat} (x1 : HandIs H h c cells a b s k) (hx : (hl c a b s k)[j]? = some x) (hq : q = (j : Int)) (hs : σ[i]? = some (some (.ref h)) := by rfl) (hN : X.N[i]? = some n := by rfl) (hvs : Vis X.env.scope n := by first | exact Or.inl rfl | exact Or.inr (Or.inl rfl) | exact Or.inr (Or.inr rfl))
    (hd : (n == ("__debug__" : Str)) = false := by decide) (hcd : (n == ("__classdict__" : Str)) = false := by decide) : ED X σ H (.Subscript (.Name n p1) (.Constant (.int q) m p2) pos) x := ed_ixL (ed_ls i x1.ld hs hN hvs hd hcd) ed_int (at_nat hq hx)
end
section
variable {P : Program} {w : World} {K : PySem.W.Frag} {mg : Str → Option Value} {base : Heap}
theorem ok_l_draw (F : FnP K mg "_law_draw" S_l_draw) (gi : mg "int" = none) (gl : mg "len" = none) : D0 P w K mg base 1 "_law_draw" ["_law_hand_here", "_law_many"] spDraw := by
  refine dfn_of F sc_l_draw (fun vs H Q E ⟨_, _, _, e, _⟩ => by rw [e]; rfl) (fun _ _ _ _ _ _ us hl => match us, hl with | [_, _], _ => rfl) fun f cdv A outer s H vs Q E hr ⟨h, c, many, e1, hh, h0, h1, k⟩ => ?_
  subst e1
  obtain ⟨cells, a, b, s, kk, x⟩ := hh
  refine w_seqJ (fun σ' H' => ∃ cv a b s k, σ' = [some (.ref h), some (.int many), cv, none, none] ∧ Mx [h] H H' ∧ HandIs H' h c cells a b s k) ?_ ?_
  · refine w_if (eb_w (ew_and (k := decide (b = 0)) (l := decide (a < (cells.length : Int))) (eb_cmpI c_eq (ed_I (ed_h 0 (j := 2) x rfl rfl)) ed_int) fun _ => ew_and1 (eb_cmpI c_lt (ed_I (ed_h 0 (j := 1) x rfl rfl)) (ed_len (ED.retype (x := V.ref c) (y := cells) (ed_h 0 (j := 0) x rfl rfl) fun H' v e hv => ⟨c, hv, x.cd.up e⟩) (by rfl) gl)))) (fun q H2 e2 => ?_) fun q H2 e2 => ?_
    · rw [Bool.and_eq_true] at q
      have hb := of_decide_eq_true q.1
      have ha := of_decide_eq_true q.2
      have x2 := x.up e2
      have hat : a.toNat < cells.length := by
        have := x.a0
        omega
      refine w_seq (w_set (i := 2) sc_l_draw.nd (ed_ixL (ED.retype (x := V.ref c) (y := cells) (ed_h 0 (j := 0) x2 rfl rfl) fun H' v e hv => ⟨c, hv, x2.cd.up e⟩) (ed_I (ed_h 0 (j := 1) x2 rfl rfl)) (at_int (x := cells[a.toNat]) x.a0 (List.getElem?_eq_getElem hat))) fun u H3 e3 hu => ?_)
      cases hu
      have x3 := x2.up e3
      refine w_seq (w_put (x := V.int (a + 1)) (ed_adr 0) x3.ld ed_int (ed_V (ed_add (ed_I (ed_h 0 (j := 1) x3 rfl rfl)) ed_int)) (j := 1) rfl (by show _ < 5; decide) fun H4 m4 _ l4 => ?_)
      have x4 : HandIs H4 h c cells (a + 1) b s kk := ⟨l4, m4.ls x3.cd (nmem1 x.ne), by have := x.a0; omega, x.ne⟩
      refine w_seq (w_put (x := V.int ((s * 69621 + cells[a.toNat] + 11) % 2147483629)) (ed_adr 0) x4.ld ed_int (ed_V (ed_mod (ed_intI (ed_add (ed_add (ed_mul (ed_I (ed_h 0 (j := 3) x4 rfl rfl)) ed_int (.inr ⟨by decide, by decide⟩)) (ed_iv 2)) ed_int) (by rfl) gi) ed_int (by decide))) (j := 3) rfl (by show _ < 5; decide) fun H5 m5 _ l5 => ?_)
      have x5 : HandIs H5 h c cells (a + 1) b ((s * 69621 + cells[a.toNat] + 11) % 2147483629) kk := ⟨l5, m5.ls x4.cd (nmem1 x.ne), x4.a0, x.ne⟩
      have m5' : Mx [h] H H5 := Mx.tr (Mx.ofE (Ex.tr e2 e3) m4) m5
      refine w_one (w_if (eb_cmpI c_ge (ed_iv 2) (ed_pow ed_int ed_int ⟨by decide, by decide, by decide⟩)) (fun q H6 e6 => ?_) fun q H6 e6 => ?_)
      · exact w_one (w_put (x := V.int cells[a.toNat]) (ed_adr 0) (x5.up e6).ld ed_int (ed_V (ed_iv 2)) (j := 2) rfl (by show _ < 5; decide) fun H7 m7 _ l7 => ⟨_, _, _, _, _, rfl, (m5'.trE e6).tr m7, l7, m7.ls (x5.up e6).cd (nmem1 x.ne), x5.a0, x.ne⟩)
      · exact w_nil ⟨_, _, _, _, _, rfl, m5'.trE e6, x5.up e6⟩
    · exact w_nil ⟨_, _, _, _, _, rfl, Mx.of e2 (Muts.one x.ld).nf, x.up e2⟩
  · rintro σ' H' ⟨cv, a, b, s, kk, rfl, m, x⟩
    refine w_seq (w_if (eb_cmpI c_gt (ed_I (ed_h 0 (j := 2) x rfl rfl)) ed_int) (fun q H2 e2 => ?_) fun q H2 e2 => w_nil ?_)
    · have x2 := x.up e2
      refine w_seq (w_set (i := 3) sc_l_draw.nd (ed_mod (ed_intI (ed_I (ed_h 0 (j := 2) x2 rfl rfl)) (by rfl) gi) (ed_iv 1) h0) fun u H3 e3 hu => ?_)
      cases hu
      have x3 := x2.up e3
      refine w_seq (w_put (x := V.int (b / many)) (ed_adr 0) x3.ld ed_int (ed_V (ed_fdiv (ed_I (ed_h 0 (j := 2) x3 rfl rfl)) (ed_iv 1) ⟨h0, h1⟩)) (j := 2) rfl (by show _ < 5; decide) fun H4 m4 _ l4 => ?_)
      refine w_one (w_ret (ed_iv 3) fun v H5 e5 hv => ?_)
      cases hv
      have x4 : HandIs H4 h c cells a (b / many) s kk := ⟨l4, m4.ls x3.cd (nmem1 x.ne), x.a0, x.ne⟩
      exact k _ _ (Int.emod_nonneg _ (by omega)) (Int.emod_lt_of_pos _ h0) (Mx.trE (Mx.tr (m.trE (Ex.tr e2 e3)) m4) e5) ⟨_, _, _, _, _, x4.up e5⟩
    · have x2 := x.up e2
      refine w_seq (w_put (x := V.int (kk + 1)) (ed_adr 0) x2.ld ed_int (ed_V (ed_add (ed_I (ed_h 0 (j := 4) x2 rfl rfl)) ed_int)) (j := 4) rfl (by show _ < 5; decide) fun H4 m4 _ l4 => ?_)
      have x4 : HandIs H4 h c cells a b s (kk + 1) := ⟨l4, m4.ls x2.cd (nmem1 x.ne), x.a0, x.ne⟩
      refine w_seq (w_set (i := 4) sc_l_draw.nd (ed_mod (ed_intI (ed_mul (ed_intI (ed_add (ed_I (ed_h 0 (j := 3) x4 rfl rfl)) (ed_mul ed_int (ed_I (ed_h 0 (j := 4) x4 rfl rfl)) (.inl ⟨by decide, by decide⟩))) (by rfl) gi) ed_int (.inr ⟨by decide, by decide⟩)) (by rfl) gi) ed_int (by decide)) fun u H5 e5 hu => ?_)
      cases hu
      have b1 := Int.emod_nonneg ((s + 7919 * (kk + 1)) * 48271) (show (2147483647 : Int) ≠ 0 by decide)
      have b2 := Int.emod_lt_of_pos ((s + 7919 * (kk + 1)) * 48271) (show (0 : Int) < 2147483647 by decide)
      refine w_seq (w_set (i := 4) sc_l_draw.nd (ed_mod (ed_intI (ed_mul (ed_iv 4) (ed_add (ed_fdiv (ed_iv 4) ed_int ⟨by decide, by decide⟩) ed_int) (.inl ⟨by omega, by omega⟩)) (by rfl) gi) ed_int (by decide)) fun u H6 e6 hu => ?_)
      cases hu
      generalize (s + 7919 * (kk + 1)) * 48271 % 2147483647 = n1 at b1 b2 ⊢
      have b3 := Int.emod_nonneg (n1 * (n1 / 1009 + 69621)) (show (2147483647 : Int) ≠ 0 by decide)
      have b4 := Int.emod_lt_of_pos (n1 * (n1 / 1009 + 69621)) (show (0 : Int) < 2147483647 by decide)
      refine w_seq (w_set (i := 4) sc_l_draw.nd (ed_mod (ed_intI (ed_mul (ed_iv 4) (ed_add (ed_fdiv (ed_iv 4) ed_int ⟨by decide, by decide⟩) ed_int) (.inl ⟨by omega, by omega⟩)) (by rfl) gi) ed_int (by decide)) fun u H7 e7 hu => ?_)
      cases hu
      refine w_one (w_ret (ed_mod (ed_intI (ed_fdiv (ed_iv 4) ed_int ⟨by decide, by decide⟩) (by rfl) gi) (ed_iv 1) h0) fun v H8 e8 hv => ?_)
      cases hv
      have e58 := (e5.tr e6).tr (e7.tr e8)
      exact k _ _ (Int.emod_nonneg _ (by omega)) (Int.emod_lt_of_pos _ h0) (((m.trE e2).tr m4).trE e58) ⟨_, _, _, _, _, x4.up e58⟩
end
end Oa
set_option Elab.async false
set_option linter.all false
set_option maxRecDepth 100000
set_option maxHeartbeats 1000000
namespace Oa
open PySem PySem.Spec PyProof.Rows L2
theorem erase_perm {α : Type} : ∀ {l : List α} {i : Nat} {x : α}, l[i]? = some x → (x :: l.eraseIdx i).Perm l
  | [], i, x, h => by simp at h
  | y :: l, 0, x, h => by
    simp only [List.getElem?_cons_zero, Option.some.injEq] at h
    subst h
    exact .refl _
  | y :: l, i + 1, x, h => by
    rw [List.getElem?_cons_succ] at h
    rw [List.eraseIdx_cons_succ]
    exact (List.Perm.swap y x _).trans ((erase_perm h).cons y)
section
variable {X : Cx} {σ : St} {H : Hp} {D : Ends} {o e e2 : Expr} {pos p : Pos} {h c : Addr}
/-- o.append(e), whatever e does on its way -/
theorem w_appR {α : Type} [Rep α] [NoL α] {pp : Addr} {apos cpos : Pos} (ho : ED X σ H o (Adr.mk pp)) (hl : ∃ vs, H pp = some (.lst vs)) (k : ∀ H2, Ex H H2 → we X e σ H2 fun w H3 => ∃ (x : α) (xs : List α), Rep.is H3 w x ∧ Ls H3 pp xs ∧ xs.length < 10000000 ∧ ∀ H4, Mx [pp] H3 H4 → Lx H3 H4 → Ls H4 pp (xs ++ [x]) → D.nx σ H4)
    (hs : swapsWith (.Call (.Attribute o "append" apos) [e] [] cpos) none pos.line X.env = pure false := by rfl) (hbase : attributeBase o "append" X.env (eval o X.env) = eval o X.env := by rfl)
    (hfew : ((backTo cpos (starEach [e] X.env)).all (fun x => !x.1) && (backToKw cpos (keywordEach [] X.env)).all (fun x => x.1.isSome) && decide (([e] : List Expr).length + ([] : List Keyword).length + (if ([] : List Keyword).isEmpty then 0 else 1) < 30)) = true := by rfl)
    (hline : (apos.endLine == cpos.line) = true := by rfl) (he : starEach [e] X.env = [(false, eval e X.env)] := by rfl) : wst X (.Expr (.Call (.Attribute o "append" apos) [e] [] cpos) pos) D σ H := by
  obtain ⟨vs, hv⟩ := hl
  refine wst_of (ps_expr (pe_bm PySem.F.plainAttrs_list PySem.F.slot_list_append PySem.F.type_list_append mt_append pe_we (pa_cons pe_we pa_nil he) hbase hfew hline he (by rfl)) hs) ?_
  refine ho H (Ex.rf _) _ fun v H2 e2 hvv => ?_
  cases hvv
  refine ⟨.inl ⟨rfl, vs, SqL.of (e2 pp _ hv)⟩, fun pins s I => wpAny_mono (k H2 e2 pins s I) (fun u s' hq => ?_) fun _ _ z => z⟩
  obtain ⟨w, H3, I3, rw', x, xs, hx, ⟨ws, h3, hA⟩, hz, kk⟩ := hq
  exact ⟨w, H3, I3, rw', pp, ws, w, rfl, rfl, h3, by rw [hA.len, sizeLine_eq]; omega, kk _ (Mx.upd1 h3) (lx_upd h3) ⟨_, upd_same, papp (hA.lx (lx_upd h3)) (.cons (NoL.lx (lx_upd h3) hx) .nil)⟩⟩
/-- o.pop(e), an int of it -/
theorem we_pop {pp : Addr} {apos : Pos} (ho : ED X σ H o (Adr.mk pp)) (hl : ∃ vs, H pp = some (.lst vs)) {Q : VK} (k : ∀ H2, Ex H H2 → we X e σ H2 fun w H3 => ∃ (d : Int) (xs : List Int) (x : Int), w = .int d ∧ Ls H3 pp xs ∧ 0 ≤ d ∧ xs.length ≤ 10000000 ∧ xs[d.toNat]? = some x ∧ ∀ H4, Mx [pp] H3 H4 → Lx H3 H4 → Ls H4 pp (xs.eraseIdx d.toNat) → Q (.int x) H4)
    (hbase : attributeBase o "pop" X.env (eval o X.env) = eval o X.env := by rfl)
    (hfew : ((backTo pos (starEach [e] X.env)).all (fun x => !x.1) && (backToKw pos (keywordEach [] X.env)).all (fun x => x.1.isSome) && decide (([e] : List Expr).length + ([] : List Keyword).length + (if ([] : List Keyword).isEmpty then 0 else 1) < 30)) = true := by rfl)
    (hline : (apos.endLine == pos.line) = true := by rfl) (he : starEach [e] X.env = [(false, eval e X.env)] := by rfl) : we X (.Call (.Attribute o "pop" apos) [e] [] pos) σ H Q := by
  obtain ⟨vs, hv⟩ := hl
  refine we_of (pe_bm PySem.F.plainAttrs_list PySem.F.slot_list_pop PySem.F.type_list_pop mt_popAt pe_we (pa_cons pe_we pa_nil he) hbase hfew hline he (by rfl)) ?_
  refine ho H (Ex.rf _) _ fun v H2 e2 hvv => ?_
  cases hvv
  refine ⟨.inl ⟨rfl, vs, SqL.of (e2 pp _ hv)⟩, fun pins s I => wpAny_mono (k H2 e2 pins s I) (fun u s' hq => ?_) fun _ _ z => z⟩
  obtain ⟨w, H3, I3, rw', d, xs, x, ew, ⟨ws, h3, hA⟩, d0, hz, hx, kk⟩ := hq
  subst ew
  have hlt := (List.getElem?_eq_some_iff.mp hx).1
  obtain ⟨y, hy, ry⟩ := pget' hA hx
  cases ry
  have b1 : -(2 ^ 63 : Int) ≤ d := by omega
  have b2 : d < (2 ^ 63 : Int) := by omega
  refine ⟨.int d, H3, I3, rw', pp, ws, d, d.toNat, .int x, rfl, rfl, h3, b1, b2, ?_, hy, kk _ (Mx.upd1 h3) (lx_upd h3) ⟨_, upd_same, perase _ (hA.lx (lx_upd h3))⟩⟩
  rw [hA.len]
  unfold seqIndex?
  rw [if_neg (show ¬ d < 0 by omega), if_pos]
  rw [Bool.and_eq_true]
  exact ⟨decide_eq_true d0, decide_eq_true (by omega)⟩
end
def spShuf : Sp := fun vs H Q _ => ∃ (h c : Addr) (v : V) (xs : List Int), vs = [.ref h, v] ∧ Hand H h c ∧ Rep.is H v xs ∧ xs.length ≤ 1000 ∧ ∀ p ys H', ys.Perm xs → Mx [h] H H' → H p = none → Ls H' p ys → Hand H' h c → Q (.ref p) H'
section
variable {P : Program} {w : World} {K : PySem.W.Frag} {mg : Str → Option Value} {base : Heap}
theorem ok_l_shuffled (F : FnP K mg "_law_shuffled" S_l_shuffled) (D : D0 P w K mg base 1 "_law_draw" ["_law_hand_here", "_law_many"] spDraw) (gl : mg "len" = none) (gL : mg "list" = none) : D0 P w K mg base 2 "_law_shuffled" ["_law_hand_here", "_law_things"] spShuf := by
  refine dfn_of F sc_l_shuffled (fun vs H Q E ⟨_, _, _, _, e, _⟩ => by rw [e]; rfl) (fun _ _ _ _ _ _ us hl => match us, hl with | [_, _], _ => rfl) fun f cdv A outer s H vs Q E hr ⟨h, c, v, xs, e0, hh, hv, hz, k⟩ => ?_
  subst e0
  refine w_seq (w_setL (i := 2) sc_l_shuffled.nd (el_list (ed_v 1 hv) (by rfl) gL) fun pp H1 hpp e1 hlp => ?_)
  refine w_seq (w_setL (xs := ([] : List Int)) (i := 3) sc_l_shuffled.nd (el_lst eal_nil (Nat.zero_le _)) fun pf H2 hpf e2 hlf => ?_)
  have npf := ls_ne hlp hpf
  obtain ⟨nhp, ncp⟩ := hh.ne hpp
  obtain ⟨nhf, ncf⟩ := (hh.up e1).ne hpf
  have hpfH := fresh_b e1 hpf
  refine w_seq (w_while (fun m σ H' => ∃ pl fl, σ = [some (.ref h), some v, some (.ref pp), some (.ref pf)] ∧ m = pl.length ∧ Ls H' pp pl ∧ Ls H' pf fl ∧ (pl ++ fl).Perm xs ∧ Hand H' h c ∧ Mx [h] H H') xs.length PassesOwn.never ⟨xs, [], rfl, rfl, hlp.up e2, hlf, by rw [List.append_nil], hh.up (e1.tr e2), Mx.of (e1.tr e2) hh.mut.nf⟩ ?_)
  rintro m σ H3 ⟨pl, fl, rfl, rfl, hp3, hf3, hperm, hh3, m3⟩
  have hlen := hperm.length_eq
  rw [List.length_append] at hlen
  refine ⟨_, eb_cmpI (c_gt (i := (pl.length : Int)) (j := 0)) (ed_len (ed_ls 2 hp3) (by rfl) gl) ed_int, fun q H4 e4 => ?_, fun q H4 e4 => ?_⟩
  · have q := of_decide_eq_true q
    have hf4 := hf3.up e4
    refine w_one (w_appR (α := Int) (ed_adr 3) (let ⟨vs, y, _⟩ := hf4; ⟨vs, y⟩) fun H5 e5 => ?_)
    have hp5 := (hp3.up e4).up e5
    refine we_pop (ed_adr 2) (let ⟨vs, y, _⟩ := hp5; ⟨vs, y⟩) fun H6 e6 => ?_
    have e46 := (e4.tr e5).tr e6
    refine we_draw D hr (ed_adr 0) (ed_len (ed_ls 2 (hp5.up e6)) (by rfl) gl) (hh3.up e46) q (by omega) fun d H7 d0 d1 m7 hh7 => ?_
    have hp7 := m7.ls (hp5.up e6) (nmem1 nhp.symm)
    have hf7 := m7.ls ((hf4.up e5).up e6) (nmem1 nhf.symm)
    have hdl : d.toNat < pl.length := by omega
    refine ⟨d, pl, pl[d.toNat], rfl, hp7, d0, by omega, List.getElem?_eq_getElem hdl, fun H8 m8 _ hp8 => ?_⟩
    have hf8 := m8.ls hf7 (nmem1 npf.symm)
    refine ⟨pl[d.toNat], fl, rfl, hf8, by omega, fun H9 m9 _ hf9 => ?_⟩
    have hE : Mx [h] H H9 := (((m3.trE e46).tr m7).trN m8 hpp).trN m9 hpfH
    refine ⟨(pl.eraseIdx d.toNat).length, ?_, _, _, rfl, rfl, m9.ls hp8 (nmem1 npf), hf9, ?_, (hh7.mx m8 (nmem1 nhp) (nmem1 ncp)).mx m9 (nmem1 nhf) (nmem1 ncf), hE⟩
    · rw [List.length_eraseIdx]
      split <;> omega
    · refine List.Perm.trans ?_ hperm
      have y := erase_perm (List.getElem?_eq_getElem hdl)
      have y2 : (pl.eraseIdx d.toNat ++ (fl ++ [pl[d.toNat]])).Perm ([pl[d.toNat]] ++ pl.eraseIdx d.toNat ++ fl) := by
        rw [← List.append_assoc]
        exact (List.perm_append_comm).trans (by rw [List.append_assoc])
      exact y2.trans (y.append_right fl)
  · have q := of_decide_eq_false q
    have e0 : pl = [] := List.eq_nil_of_length_eq_zero (by omega)
    subst e0
    refine w_one (w_ret (ed_adr 3) fun v' H5 e5 hv' => ?_)
    cases hv'
    exact k pf fl H5 hperm (m3.trE (e4.tr e5)) hpfH ((hf3.up e4).up e5) (hh3.up (e4.tr e5))
end
end Oa
set_option Elab.async false
set_option linter.all false
set_option maxRecDepth 100000
set_option maxHeartbeats 1000000
namespace Oa
open PySem PySem.Spec PyProof.Rows L2
theorem sqL_up {K : PySem.W.Frag} {H H' : Hp} {a : Addr} {xs : List V} (e : Ex H H') (h : SqL K H a xs) : SqL K H' a xs := by
  rcases h with h | h
  · rcases h with h | ⟨ob, h⟩
    · exact .inl (.inl (e a _ h))
    · exact .inl (.inr ⟨ob, e a _ h⟩)
  · exact .inr h
section
variable {X : Cx} {σ : St} {H : Hp} {o e : Expr} {pos p : Pos} {h c : Addr}
/-- a slice of the script -/
theorem el_slQ {ns : List Int} {a : Addr} {lo hi : Option Expr} {l u : Option Int} {p2 : Pos} (he : ED X σ H e (Adr.mk a)) (hq : SqL X.K H a (ns.map V.int)) (hl : EO X σ H lo l) (hh : EO X σ H hi u) : EL X σ H (.Subscript e (.Slice lo hi none p2) pos) (cutD ns l u) := by
  obtain ⟨tl, pl, kl⟩ := hl
  obtain ⟨th, ph, kh⟩ := hh
  exact fun H1 e1 Q q => we_of (pe_slice sl_list pe_we pl ph) (he H1 e1 _ fun v H2 e2 hv => kl H2 (Ex.tr e1 e2) _ fun H3 e3 => kh H3 (Ex.tr (Ex.tr e1 e2) e3) _ fun H4 e4 => by
    cases hv
    have k := Ex.tr e3 e4
    refine ⟨a, ns.map V.int, rfl, sqL_up ((e1.tr e2).tr k) hq, fun r hr => ?_⟩
    have k2 : Ex H4 (upd H4 r (.lst (cutV (ns.map V.int) l u))) := Ex.new hr
    exact q r _ (fresh_b (Ex.tr e2 k) hr) (Ex.tr (Ex.tr e2 k) k2) ⟨_, upd_same, cut_is is_ints l u⟩)
theorem we_shuf {n : Str} {k : Nat} {ps : List Str} {xs : List Int} (D : Dfn X.prog X.w X.K X.mg X.base CX0 k n ps spShuf) (hr : Room k X.A) (ho : ED X σ H o (Adr.mk h)) (he : ED X σ H e xs) (hh : Hand H h c) (hz : xs.length ≤ 1000) {Q : VK} (q : ∀ p ys H', ys.Perm xs → Mx [h] H H' → H p = none → Ls H' p ys → Hand H' h c → Q (.ref p) H')
    (hg : Gl X n := by rfl) (hdb : (n == ("__debug__" : Str)) = false := by decide) (hs : starEach [o, e] X.env = (false, eval o X.env) :: starEach [e] X.env := by rfl) (hs2 : starEach [e] X.env = [(false, eval e X.env)] := by rfl) : we X (.Call (.Name n p) [o, e] [] pos) σ H Q :=
  ec_call D hr hg pass0 (ea_cons ho (ea_cons he ea_nil hs2) hs) (Ex.rf _) (fun vs H2 e2 ⟨v, ws, x1, hv, u, ws2, x2, hu, x3⟩ => by
    subst x1 x2 x3
    cases hv
    exact ⟨h, c, u, xs, rfl, hh.up e2, hu, hz, fun p ys H' d m hp l x => q p ys H' d (Mx.ofE e2 m) (fresh_b e2 hp) l x⟩) hdb hs (by rw [hs2] <;> rfl)
end
def spHand (K : PySem.W.Frag) : Sp := fun vs H Q _ => ∃ (a : Addr) (ns : List Int), vs = [.ref a] ∧ SqL K H a (ns.map V.int) ∧ ns.length ≤ 1000 ∧ ∀ p c H', Ex H H' → H p = none → Hand H' p c → Q (.ref p) H'
def okB (n : Int) (xs : List Int) : Prop := ∀ x ∈ xs, 0 ≤ x ∧ x < n
def spMoved : Sp := fun vs H Q _ => ∃ (h c a : Addr) (ar : List Int), vs = [.ref h, .ref a] ∧ Hand H h c ∧ Ls H a ar ∧ a ≠ h ∧ ar.length ≤ 1000 ∧ okB ar.length ar ∧ ∀ w (t : T0) H', Rep.is H' w t → t.items.length = ar.length → okB ar.length t.items → Mx [h] H H' → Hand H' h c → Q w H'
section
variable {P : Program} {w : World} {K : PySem.W.Frag} {mg : Str → Option Value} {base : Heap}
theorem ok_l_hand (F : FnP K mg "_law_hand" S_l_hand) (ga : mg "abs" = none) (gi : mg "int" = none) (gl : mg "len" = none) : D0 P w K mg base 1 "_law_hand" ["_law_script"] (spHand K) := by
  refine dfn_of F sc_l_hand (fun vs H Q E ⟨_, _, e, _⟩ => by rw [e]; rfl) (fun _ _ _ _ _ _ us hl => match us, hl with | [_], _ => rfl) fun f cdv A outer s H vs Q E hr ⟨a, ns, e0, hq, hz, k⟩ => ?_
  subst e0
  have hcl : (cutD ns none (some 63)).length ≤ 1000 := by
    rw [cut_to (by decide), List.length_take]
    omega
  refine w_seq (w_setLc (i := 1) sc_l_hand.nd rfl (lc0 (fun x : Int => if x < 0 then -x else x) [("_law_cell", 2)] (gName 2) (src_l (el_slQ (ed_adr 0) hq eo_none (eo_some ed_int)).d) (by omega) (blk_of (N := N_l_hand) (sc := defScope S_l_hand) (by decide +kernel)) (pgn 2 sc_l_hand.nd) ?_) fun c H1 hc e1 hl => ?_)
  · intro x hx v H' e' hv
    cases hv
    exact ⟨_, fun Q q => q, rfl, fun s H0 C cl fp => ed_abs (ed_intI (ed_iv 2) (by rfl) gi) (by rfl) ga⟩
  · refine w_one (w_retL (el_lst (xs := Oa.hl c 0 0 (1 + ((cutD ns none (some 63)).map fun x : Int => if x < 0 then -x else x).length) 0) (eal_cons (ed_v 1 (v := .ref c) (x := V.ref c) rfl) (eal_cons (ed_V ed_int) (eal_cons (ed_V ed_int) (eal_cons (ed_V (ed_add ed_int (ed_len (ed_ls 1 hl) (by rfl) gl))) (eal_cons (ed_V ed_int) eal_nil))))) (by show 5 ≤ sizeLine; decide)) fun p H2 hp e2 hl2 => ?_)
    exact k p c H2 (e1.tr e2) (fresh_b e1 hp) ⟨_, _, _, _, _, hl2, hl.up e2, by decide, ls_ne hl hp⟩
theorem ok_l_moved (F : FnP K mg "_law_moved" S_l_moved) (D : D0 P w K mg base 2 "_law_shuffled" ["_law_hand_here", "_law_things"] spShuf) (gr : mg "range" = none) (gl : mg "len" = none) (gL : mg "list" = none) (gt : mg "tuple" = none) : D0 P w K mg base 3 "_law_moved" ["_law_hand_here", "_law_arrows"] spMoved := by
  refine dfn_of F sc_l_moved (fun vs H Q E ⟨_, _, _, _, e, _⟩ => by rw [e]; rfl) (fun _ _ _ _ _ _ us hl => match us, hl with | [_, _], _ => rfl) fun f cdv A outer s H vs Q E hr ⟨h, c, a, ar, e0, hh, hla, hne, hz, hok, k⟩ => ?_
  subst e0
  refine w_seq (wst_of (ps_set (i := 2) sc_l_moved.nd rfl (Or.inl rfl) pe_we rfl (.inr rfl)) (we_shuf D hr (ed_adr 0) (el_listRg rfl (ed_len (ed_ls 1 hla) (by rfl) gl) (by omega) (by rfl) gL (by rfl) gr).d hh (by unfold rngI; rw [List.length_map, List.length_range]; omega) fun pn nb H1 hperm m1 hpn hln hh1 => ?_))
  have hla1 := m1.ls hla (nmem1 hne)
  have hnl : nb.length = ar.length := by
    rw [hperm.length_eq]
    unfold rngI
    rw [List.length_map, List.length_range]
    omega
  have hnb : ∀ x ∈ nb, 0 ≤ x ∧ x < ar.length := fun x hx => by
    have := hperm.mem_iff.mp hx
    unfold rngI at this
    obtain ⟨i, hi, e⟩ := List.mem_map.mp this
    rw [List.mem_range] at hi
    subst e
    constructor
    · exact Int.natCast_nonneg i
    · show ((i : Nat) : Int) < _
      omega
  have nap : a ≠ pn := ls_ne hla hpn
  refine w_seq (w_setL (i := 3) sc_l_moved.nd (el_rep1 (el_lst (eal_cons ed_int eal_nil) (by decide)) (ed_len (ed_ls 1 hla1) (by rfl) gl) (by omega)) fun pf H2 hpf e2 hlf => ?_)
  have npf := ls_ne hln hpf
  have naf := ls_ne hla1 hpf
  have hpfH := m1.fr hpf
  obtain ⟨nhf, ncf⟩ := hh1.ne hpf
  refine w_seq (w_for (P := [pf]) (fun i σ' H' => (∃ fs b, σ' = [some (.ref h), some (.ref a), some (.ref pn), some (.ref pf), b] ∧ Ls H' pf fs ∧ fs.length = ar.length ∧ okB ar.length fs) ∧ Mx [pf] H2 H') PassesOwn.never rfl (src_rng1 (ed_len (ed_ls 1 (hla1.up e2)) (by rfl) gl) (by omega) (by rfl) gr) (pgl 4 sc_l_moved.nd) (Muts.one hlf) (fun H3 e3 => ⟨⟨_, _, rfl, hlf.up e3, by rw [List.length_replicate]; omega, fun x hx => ?_⟩, Mx.of e3 (Muts.one hlf).nf⟩) ?_ ?_)
  · by_cases h0 : ar.length = 0
    · rw [h0] at hx
      simp at hx
    · have := List.eq_of_mem_replicate hx
      omega
  · rintro H3 e3 i x v' σ' H' H'' hx mx ⟨⟨fs, b', rfl, hfs, hfl, hfo⟩, mm⟩ e4 mx2 hv'
    obtain ⟨ex, hi⟩ := rng_at hx
    cases hv'
    have mm2 := mm.trE e4
    have hla2 := mm2.ls (hla1.up e2) (nmem1 naf)
    have hln2 := mm2.ls (hln.up e2) (nmem1 npf)
    have hxi : x.toNat = i := by omega
    have hia : i < ar.length := by omega
    have h1 : atI ar x = some ar[i] := at_int (by omega) (by rw [hxi]; exact List.getElem?_eq_getElem hia)
    obtain ⟨q1, q2⟩ := hok ar[i] (List.getElem_mem hia)
    have hj : ar[i].toNat < nb.length := by omega
    have h2 : atI nb ar[i] = some nb[ar[i].toNat] := at_int q1 (List.getElem?_eq_getElem hj)
    have hin : i < nb.length := by omega
    have h3 : atI nb x = some nb[i] := at_int (by omega) (by rw [hxi]; exact List.getElem?_eq_getElem hin)
    obtain ⟨q3, q4⟩ := hnb nb[i] (List.getElem_mem hin)
    refine g_name (w_one (w_put (x := nb[ar[i].toNat]) (ed_adr 3) (hfs.up e4) (ed_ixL (ed_ls 2 hln2) (ed_iv 4) h3) (ed_ixL (ed_ls 2 hln2) (ed_ixL (ed_ls 1 hla2) (ed_iv 4) h1) h2) (j := nb[i].toNat) (by omega) (by omega) fun H5 m5 _ hl5 => ⟨mx2.tr m5, ⟨_, _, rfl, hl5, by rw [List.length_set]; exact hfl, fun y hy => ?_⟩, mm2.tr m5⟩))
    rcases List.mem_or_eq_of_mem_set hy with y1 | y1
    · exact hfo y y1
    · rw [y1]
      exact hnb _ (List.getElem_mem hj)
  · rintro H3 e3 σ' H' mx ⟨⟨fs, b', rfl, hfs, hfl, hfo⟩, mm⟩
    have m4 : Mx [h] H H' := (m1.trE e2).trN mm hpfH
    refine w_one (w_ret (ed_tuple (ed_ls 3 hfs) (by rfl) gt) fun v' H5 e5 hv' => k _ _ _ hv' hfl hfo (m4.trE e5) (((hh1.up e2).mx mm (nmem1 nhf) (nmem1 ncf)).up e5))
end
end Oa
set_option Elab.async false
set_option linter.all false
set_option maxRecDepth 100000
set_option maxHeartbeats 1000000
namespace Oa
open PySem PySem.Spec PyProof.Rows L2
def spBoard : Sp := fun vs H Q _ => ∃ (h c : Addr) (n : Int), vs = [.ref h, .int n, .int n] ∧ Hand H h c ∧ 0 ≤ n ∧ n ≤ 7 ∧ ∀ w (t : T0) H', Rep.is H' w t → t.items.length = n.toNat → okB n t.items → Mx [h] H H' → Hand H' h c → Q w H'
section
variable {X : Cx} {σ : St} {H : Hp} {o e : Expr} {pos p : Pos} {h c : Addr}
theorem we_moved {n : Str} {k : Nat} {ps : List Str} {a : Addr} {ar : List Int} (D : Dfn X.prog X.w X.K X.mg X.base CX0 k n ps spMoved) (hr : Room k X.A) (ho : ED X σ H o (Adr.mk h)) (he : ED X σ H e (Adr.mk a)) (hh : Hand H h c) (hl : Ls H a ar) (hne : a ≠ h) (hz : ar.length ≤ 1000) (hb : okB ar.length ar) {Q : VK} (q : ∀ w (t : T0) H', Rep.is H' w t → t.items.length = ar.length → okB ar.length t.items → Mx [h] H H' → Hand H' h c → Q w H')
    (hg : Gl X n := by rfl) (hdb : (n == ("__debug__" : Str)) = false := by decide) (hs : starEach [o, e] X.env = (false, eval o X.env) :: starEach [e] X.env := by rfl) (hs2 : starEach [e] X.env = [(false, eval e X.env)] := by rfl) : we X (.Call (.Name n p) [o, e] [] pos) σ H Q :=
  ec_call D hr hg pass0 (ea_cons ho (ea_cons he ea_nil hs2) hs) (Ex.rf _) (fun vs H2 e2 ⟨v, ws, x1, hv, u, ws2, x2, hu, x3⟩ => by
    subst x1 x2 x3
    cases hv
    cases hu
    exact ⟨h, c, a, ar, rfl, hh.up e2, hl.up e2, hne, hz, hb, fun w t H' d l b m x => q w t H' d l b (Mx.ofE e2 m) x⟩) hdb hs (by rw [hs2] <;> rfl)
end
section
variable {P : Program} {w : World} {K : PySem.W.Frag} {mg : Str → Option Value} {base : Heap}
theorem ok_l_board (F : FnP K mg "_law_board" S_l_board) (D1 : D0 P w K mg base 1 "_law_draw" ["_law_hand_here", "_law_many"] spDraw) (D2 : D0 P w K mg base 3 "_law_moved" ["_law_hand_here", "_law_arrows"] spMoved) (gr : mg "range" = none) (gi : mg "int" = none) : D0 P w K mg base 4 "_law_board" ["_law_hand_here", "_law_least_here", "_law_most"] spBoard := by
  refine dfn_of F sc_l_board (fun vs H Q E ⟨_, _, _, e, _⟩ => by rw [e]; rfl) (fun _ _ _ _ _ _ us hl => match us, hl with | [_, _, _], _ => rfl) fun f cdv A outer s H vs Q E hr ⟨h, c, n, e0, hh, hn0, hn7, k⟩ => ?_
  subst e0
  have hr1 : Room 1 (A.deeper (envOfC "_law_board" (defScope S_l_board) s.heap.objs.size f cdv)) := hr.mono (by decide)
  refine w_seq (wst_of (ps_set (i := 3) sc_l_board.nd rfl (Or.inl rfl) (pe_op op_add pe_we pe_we) rfl (.inr rfl)) ((ed_iv 1 (z := n)) H (Ex.rf _) _ fun u H1 e1 hu => we_draw (many := n - n + 1) D1 hr1 (ed_adr 0) (ed_add (ed_sub (ed_iv 2) (ed_iv 1)) ed_int) (hh.up e1) (by omega) (by omega) fun d H2 d0 d1 m2 hh2 => ⟨n, d, hu, rfl, ?_⟩))
  have ed : n + d = n := by omega
  dsimp only
  rw [ed]
  refine w_seq (wst_of (ps_set (i := 4) sc_l_board.nd rfl (Or.inl rfl) pe_we rfl (.inr rfl)) (we_draw (many := 3) D1 hr1 (ed_adr 0) ed_int hh2 (by decide) (by decide) fun way H3 w0 w1 m3 hh3 => ?_))
  refine w_seq (w_setL (xs := ([] : List Int)) (i := 5) sc_l_board.nd (el_lst eal_nil (Nat.zero_le _)) fun pa H4 hpa e4 hla => ?_)
  obtain ⟨nha, nca⟩ := hh3.ne hpa
  have hh4 := hh3.up e4
  have m4 : Mx [h] H H4 := ((Mx.ofE e1 m2).tr m3).trE e4
  have hpaH := ((Mx.ofE e1 m2).tr m3).fr hpa
  refine w_seq (w_for (P := [h, pa]) (fun i σ' H' => ∃ ar b, σ' = [some (.ref h), some (.int n), some (.int n), some (.int n), some (.int way), some (.ref pa), b] ∧ Ls H' pa ar ∧ ar.length = i ∧ okB n ar ∧ Hand H' h c ∧ Mx [h] H H') PassesOwn.never rfl (src_rng1 (ed_iv 3) (by omega) (by rfl) gr) (pgl 6 sc_l_board.nd) (fun a ha => by
    rcases List.mem_cons.mp ha with e | ha
    · exact hh4.mut a (by rw [e]; simp)
    · exact Muts.one hla a ha) (fun H5 e5 => ⟨_, _, rfl, hla.up e5, rfl, (fun x hx => by simp at hx), hh4.up e5, m4.trE e5⟩) ?_ ?_)
  · rintro H5 e5 i x v' σ' H6 H7 hx mx ⟨ar, b', rfl, hla6, hal, hao, hh6, m6⟩ e7 mx2 hv'
    obtain ⟨ex, hi⟩ := rng_at hx
    cases hv'
    have hla7 := hla6.up e7
    have hh7 := hh6.up e7
    have m7 := m6.trE e7
    have key : ∀ (y : Int) (H8 H9 : Hp), 0 ≤ y → y < n → Mx [h] H7 H8 → Hand H8 h c → Mx [pa] H8 H9 → Ls H9 pa (ar ++ [y]) → Mx [h, pa] H5 H9 ∧ ∃ ar2 b, ([some (.ref h), some (.int n), some (.int n), some (.int n), some (.int way), some (.ref pa), some (.int x)] : St) = [some (.ref h), some (.int n), some (.int n), some (.int n), some (.int way), some (.ref pa), b] ∧ Ls H9 pa ar2 ∧ ar2.length = i + 1 ∧ okB n ar2 ∧ Hand H9 h c ∧ Mx [h] H H9 := by
      intro y H8 H9 y0 y1 m8 hh8 m9 hl9
      have nf8 : NoFix [h, pa] H8 := fun a ha o fo ho => by
        rcases List.mem_cons.mp ha with e | ha
        · exact hh8.mut.nf a (by rw [e]; simp) o fo ho
        · exact m9.nt a ha o fo ho
      have nf7 : NoFix [h, pa] H7 := fun a ha o fo ho => by
        rcases List.mem_cons.mp ha with e | ha
        · exact hh7.mut.nf a (by rw [e]; simp) o fo ho
        · exact (Muts.one hla7).nf a ha o fo ho
      refine ⟨(mx2.tr (m8.wk (fun a ha => by rw [show a = h by simpa using ha]; simp) nf7)).tr (m9.wk (fun a ha => by rw [show a = pa by simpa using ha]; simp) nf8), _, _, rfl, hl9, by rw [List.length_append, hal]; rfl, ?_, hh8.mx m9 (nmem1 nha) (nmem1 nca), (m7.tr m8).trN m9 hpaH⟩
      intro z hz
      rcases List.mem_append.mp hz with q | q
      · exact hao z q
      · rw [show z = y by simpa using q]
        exact ⟨y0, y1⟩
    have hxn : x < n := by omega
    have hx0 : 0 ≤ x := by omega
    refine g_name (w_one (w_if (eb_w (ew_or (eb_cmpI (c_eq (i := way) (j := 0)) (ed_iv 4) ed_int) fun _ => ew_or1 (eb_cmpI (c_eq (i := x) (j := 0)) (ed_iv 6) ed_int))) (fun q H8 e8 => ?_) fun q H8 e8 => ?_))
    · refine w_one (w_appR (α := Int) (ed_adr 5) (let ⟨vs, y, _⟩ := hla7.up e8; ⟨vs, y⟩) fun H9 e9 => we_draw D1 hr1 (ed_adr 0) (ed_iv 3) (hh7.up (e8.tr e9)) (by omega) (by omega) fun d H10 d0 d1 m10 hh10 => ⟨d, ar, rfl, m10.ls (hla7.up (e8.tr e9)) (nmem1 nha.symm), by omega, fun H11 m11 _ hl11 => ?_⟩)
      exact key d H10 H11 d0 d1 (Mx.ofE (e8.tr e9) m10) hh10 m11 hl11
    · rw [Bool.or_eq_false_iff] at q
      have q2 := of_decide_eq_false q.2
      refine w_one (w_if (eb_cmpI (c_eq (i := way) (j := 1)) (ed_iv 4) ed_int) (fun q' H9 e9 => ?_) fun q' H9 e9 => ?_)
      · have e89 := e8.tr e9
        refine w_one (w_appR (α := Int) (ed_adr 5) (let ⟨vs, y, _⟩ := hla7.up e89; ⟨vs, y⟩) fun H10 e10 => we_draw D1 hr1 (ed_adr 0) (ed_iv 6) (hh7.up (e89.tr e10)) (by omega) (by omega) fun d H11 d0 d1 m11 hh11 => ⟨d, ar, rfl, m11.ls (hla7.up (e89.tr e10)) (nmem1 nha.symm), by omega, fun H12 m12 _ hl12 => ?_⟩)
        exact key d H11 H12 d0 (by omega) (Mx.ofE (e89.tr e10) m11) hh11 m12 hl12
      · have e89 := e8.tr e9
        refine w_one (w_appR (α := Int) (ed_adr 5) (let ⟨vs, y, _⟩ := hla7.up e89; ⟨vs, y⟩) fun H10 e10 => ?_)
        have e810 := e89.tr e10
        refine we_of (pe_op op_add pe_we pe_we) ((ed_sub (ed_iv 6 (z := x)) ed_int) H10 (Ex.rf _) _ fun u1 H11 e11 hu1 => ?_)
        refine we_of (pe_op op_mul pe_we pe_we) (ed_int H11 (Ex.rf _) _ fun u2 H12 e12 hu2 => ?_)
        have e812 := (e810.tr e11).tr e12
        refine we_of (pe_callTy call_int1 (by rfl) gi (by decide +kernel) (pa_cons pe_we pa_nil rfl) (by decide) (by decide) rfl (by rfl)) ?_
        refine we_of (pe_and pe_we pe_we) ?_
        refine we_of (pe_cmpR op_eq pe_we pe_we (nomark _)) ?_
        refine we_draw (many := 4) D1 hr1 (ed_adr 0) ed_int (hh7.up e812) (by decide) (by decide) fun d H13 d0 d1 m13 hh13 => ?_
        refine ed_int H13 (Ex.rf _) _ fun u3 H14 e14 hu3 => ?_
        cases hu1
        cases hu2
        cases hu3
        have fin : ∀ (b : Bool) (H15 : Hp), Ex H13 H15 → (b = true → x + 1 < n) → ∃ (y : Int) (xs : List Int), Rep.is H15 (V.int (x - 1 + 2 * (if b then (1 : Int) else 0))) y ∧ Ls H15 pa xs ∧ xs.length < 10000000 ∧ ∀ H16, Mx [pa] H15 H16 → Lx H15 H16 → Ls H16 pa (xs ++ [y]) → Mx [h, pa] H5 H16 ∧ ∃ ar2 b, ([some (.ref h), some (.int n), some (.int n), some (.int n), some (.int way), some (.ref pa), some (.int x)] : St) = [some (.ref h), some (.int n), some (.int n), some (.int n), some (.int way), some (.ref pa), b] ∧ Ls H16 pa ar2 ∧ ar2.length = i + 1 ∧ okB n ar2 ∧ Hand H16 h c ∧ Mx [h] H H16 := by
          intro b H15 e15 hb
          refine ⟨_, ar, rfl, (m13.ls (hla7.up e812) (nmem1 nha.symm)).up e15, by omega, fun H16 m16 _ hl16 => ?_⟩
          refine key _ H15 H16 ?_ ?_ ((Mx.ofE e812 m13).trE e15) (hh13.up e15) m16 hl16
          · split <;> omega
          · split
            · have := hb (by assumption)
              omega
            · omega
        refine ⟨rfl, decide (d = 0), by rw [dec_intV], ?_⟩
        cases decide (d = 0) with
        | true =>
          refine iteT (we_of (pe_one pe_we) ((ed_cmpI (c_lt (i := x + 1) (j := n)) (ed_add (ed_iv 6) ed_int) (ed_iv 3)) H14 (Ex.rf _) _ fun u4 H15 e15 hu4 => ?_))
          cases hu4
          exact .inr ⟨decide (x + 1 < n), rfl, 2, _, rfl, rfl, .inl ⟨by decide, by decide⟩, x - 1, _, rfl, rfl, fin _ H15 (e14.tr e15) fun hb => of_decide_eq_true hb⟩
        | false => exact iteF (.inr ⟨false, rfl, 2, _, rfl, rfl, .inl ⟨by decide, by decide⟩, x - 1, _, rfl, rfl, fin false H14 e14 fun h => by cases h⟩)
  · rintro H5 e5 σ' H6 mx ⟨ar, b', rfl, hla6, hal, hao, hh6, m6⟩
    have hal2 : ar.length = n.toNat := by
      rw [hal, rng_len, Int.sub_zero]
    have hln : ((ar.length : Nat) : Int) = n := by omega
    refine w_one (wst_of (ps_ret pe_we) (we_moved D2 hr (ed_adr 0) (ed_adr 5) hh6 hla6 nha.symm (by omega) (by rw [hln]; exact hao) fun w t H7 ht hl hb m7 hh7 => k w t H7 ht (by rw [hl]; exact hal2) (by rw [← hln]; exact hb) (m6.tr m7) hh7))
end
end Oa
set_option Elab.async false
set_option linter.all false
set_option maxRecDepth 100000
set_option maxHeartbeats 1000000
namespace Oa
open PySem PySem.Spec PyProof.Rows L2
section
variable {X : Cx} {σ : St} {H : Hp} {pos p : Pos}
theorem ec_callE {CX : CXT} {n : Str} {k : Nat} {ps : List Str} {e : Expr} {es : List Expr} {sp : Sp} {E : XK} {Rr : List V → Hp → Prop} {H1 : Hp} {Q : VK} (D : Dfn X.prog X.w X.K X.mg X.base CX k n ps sp) (hr : Room k X.A) (hg : Gl X n) (hx : Passes CX X E) (ha : EA X σ H (e :: es) Rr) (e1 : Ex H H1)
    (q : ∀ vs H2, Ex H1 H2 → Rr vs H2 → sp vs H2 Q E) (hdb : (n == ("__debug__" : Str)) = false := by decide) (he : starEach (e :: es) X.env = (false, eval e X.env) :: starEach es X.env := by rfl) (hpl : (backTo pos (starEach es X.env)).any (·.1) = false := by rfl) :
    we X (.Call (.Name n p) (e :: es) [] pos) σ H1 Q := by
  obtain ⟨f, fd, F, hm, hk, hb⟩ := D.ok
  exact we_of (pe_call F hr hg hm hk hb .nil hx pa_wa hdb he hpl) (ha H1 e1 _ fun vs H2 e2 r => by rw [List.append_nil]; exact q vs H2 e2 r)
theorem ec_callS {n : Str} {k : Nat} {ps : List Str} {e : Expr} {es : List Expr} {sp : Sp} {E : St → XK} {Rr : List V → Hp → Prop} {H1 : Hp} {Q : VK} (D : Dfn X.prog X.w X.K X.mg X.base (L2.CX X.prog X.w) k n ps sp) (hr : Room k X.A) (hg : Gl X n) (hx : ∀ σ, PassesAt (L2.CX X.prog X.w) X σ (E σ)) (ha : EA X σ H (e :: es) Rr) (e1 : Ex H H1)
    (q : ∀ vs H2, Ex H1 H2 → Rr vs H2 → sp vs H2 Q (E σ)) (hdb : (n == ("__debug__" : Str)) = false := by decide) (he : starEach (e :: es) X.env = (false, eval e X.env) :: starEach es X.env := by rfl) (hpl : (backTo pos (starEach es X.env)).any (·.1) = false := by rfl) :
    we X (.Call (.Name n p) (e :: es) [] pos) σ H1 Q := by
  obtain ⟨f, fd, F, hm, hk, hb⟩ := D.ok
  exact we_of (pe_callS F hr hg hm hk hb hx pa_wa hdb he hpl) (ha H1 e1 _ fun vs H2 e2 r => q vs H2 e2 r)
end
def spBad (K : PySem.W.Frag) (C : Addr) : Sp := fun vs H Q E => ∃ (v : V) (x : Nu K), vs = [v] ∧ Rep.is H v x ∧ betw x.n 0 7 = false ∧ ∀ H', Ex H H' → E (.ref C) none H'
/-- what is told of a number: a text -/
def spWord (K : PySem.W.Frag) (Pt : Addr) : Sp := fun vs H Q _ => ∃ (v : V) (x : Nu K), vs = [v] ∧ Rep.is H v x ∧ TabT H Pt ∧ (betw x.n 0 7 = false ∨ x.n = some 0) ∧ ∀ H', Ex H H' → Q (.str (if betw x.n 0 7 then "told" else "number")) H'
section
variable {P : Program} {w : World} {K : PySem.W.Frag} {mg : Str → Option Value} {base : Heap}
theorem ok_all_heaps_bad {C : Addr} (F : FnP K mg "all_heaps" S_all_heaps) (DC : Dfn P w K mg base (L2.CX P w) 3 "check_number" ["thing", "least", "most"] (spChk K C)) (gm : ∃ t, mg "MOST_LISTED" = some (.int 7 t)) : Dfn P w K mg base (L2.CX P w) 4 "all_heaps" ["number"] (spBad K C) := by
  refine dfn_ofX F sc_all_heaps (fun vs H Q E ⟨_, _, e, _⟩ => by rw [e]; rfl) (fun _ _ _ _ _ _ us hl => match us, hl with | [_], _ => rfl) fun f cdv A outer s H vs Q E hr ⟨v, x, e0, hv, hb, k⟩ => ?_
  subst e0
  exact w_seq (wst_of (ps_expr pe_we rfl) (ec_callE DC hr (by rfl) (passes_call (takes_of rfl rfl rfl rfl) (fun _ _ _ _ h => h)) (ea_cons (ed_v 0 hv) (ea_cons ed_int (ea_cons (ed_globI (by rfl) gm) ea_nil))) (Ex.rf _) fun vs H2 e2 ⟨v', ws, y1, hv', u, ws2, y2, hu, t, ws3, y3, ht, y4⟩ => by
    subst y1 y2 y3 y4
    cases hu
    cases ht
    exact ⟨v', x, 0, 7, rfl, hv', (fun z => by rw [hb] at z; cases z), fun _ H' e => k H' (e2.tr e)⟩))
theorem ok_l_word {C C2 Pt : Addr} (F : FnP K mg "_law_word" S_l_word) (D1 : D0 P w K mg base 15 "all_heaps" ["number"] (Und Pt (O1 (heapsW w) rL))) (D2 : Dfn P w K mg base (L2.CX P w) 4 "all_heaps" ["number"] (spBad K C)) (gC : mg "NoNumber" = some (.ref C)) (gC2 : mg "ArrowError" = some (.ref C2)) (hex : PySem.W.exmOne K (.ref C) (.ref C) = some true) :
    D0 P w K mg base 16 "_law_word" ["_law_number"] (spWord K Pt) := by
  refine dfn_of F sc_l_word (fun vs H Q E ⟨_, _, e, _⟩ => by rw [e]; rfl) (fun _ _ _ _ _ _ us hl => match us, hl with | [_], _ => rfl) fun f cdv A outer s H vs Q E hr ⟨v, x, e0, hv, hT, hb, k⟩ => ?_
  subst e0
  refine w_seq (w_set (i := 1) (x := V.str "other") sc_l_word.nd ed_str fun u H1 e1 hu => ?_)
  cases hu
  have hv1 := Rep.up e1 hv
  have hT1 := e1.tab Pt hT
  refine w_seqJ (fun σ' H' => ∃ tk, σ' = [some v, some (.str tk)] ∧ tk = (if betw x.n 0 7 then "told" else "number" : Str) ∧ Ex H H') ?_ ?_
  · refine wst_of (ps_try_many (Wout := fun _ _ _ _ => False) (l := [(.ref C, fun a cls d D σ H => ∀ oe pn, wss ((cxN P w K mg base N_l_word "_law_word" S_l_word f cdv A outer s _ E).suite a ((a, oe) :: pn)) _ D σ H), (.ref C2, fun a cls d D σ H => ∀ oe pn, wss ((cxN P w K mg base N_l_word "_law_word" S_l_word f cdv A outer s _ E).suite a ((a, oe) :: pn)) _ D σ H)])
      (tb := fun W D σ H => ∀ pn xe, Takes ((cxN P w K mg base N_l_word "_law_word" S_l_word f cdv A outer s _ E).tr pn xe) W → wss ((cxN P w K mg base N_l_word "_law_word" S_l_word f cdv A outer s _ E).tr pn xe) _ D σ H) rfl rfl takes_none5 (fun W pn xe tk _ => ⟨fun pins s σ H D I h => h pn xe tk pins s I⟩) (.cons ⟨by rfl, by decide, .inl gC⟩ (fun a oe cls d pn _ _ => ⟨fun pins s σ H D I h => h oe pn pins s I⟩) (.cons ⟨by rfl, by decide, .inl gC2⟩ (fun a oe cls d pn _ _ => ⟨fun pins s σ H D I h => h oe pn pins s I⟩) .nil))) ?_
    intro pn xe tk
    rcases hb with hb | hb
    · refine w_seq (wst_of (ps_expr pe_we rfl) (ec_callS (E := WE _) D2 (hr.mono (by decide)) (by rfl) (fun σ => passAt tk σ) (ea_cons (ed_v 0 hv1) ea_nil) (Ex.rf _) fun vs H2 e2 ⟨v', ws, y1, hv', y4⟩ => ?_))
      subst y1 y4
      refine ⟨v', x, rfl, hv', hb, fun H3 e3 => ⟨true, hex, fun _ a ha oe pn => ?_, fun z => by cases z⟩⟩
      refine w_one (w_set (i := 1) (x := V.str "number") sc_l_word.nd ed_str fun u H4 e4 hu => ?_)
      cases hu
      exact ⟨_, rfl, by rw [hb] <;> rfl, (e1.tr e2).tr (e3.tr e4)⟩
    · have hbt : betw x.n 0 7 = true := by rw [hb] <;> rfl
      have hv0 : v = .int 0 := by
        have z : Num K H v x.n := hv
        rw [hb] at z
        exact z
      have h0 : heapsW w 0 = some [⟨[]⟩] := by
        have y : m_allHeaps 0 = some [[]] := by decide +kernel
        show (m_allHeaps 0).map _ = _
        rw [y] <;> rfl
      refine w_seq (w_drop (EL.d (el_t1 D1 hT1 hr (ed_v 0 (v := v) (x := (0 : Int)) hv0) h0)) fun u H2 e2 hu => ?_)
      refine w_one (w_set (i := 1) (x := V.str "told") sc_l_word.nd ed_str fun u H4 e4 hu => ?_)
      cases hu
      exact ⟨_, rfl, by rw [hbt] <;> rfl, (e1.tr e2).tr e4⟩
  · rintro σ' H' ⟨tk, rfl, rfl, eH⟩
    exact w_one (w_ret (ed_v 1 (v := .str _) (x := V.str _) rfl) fun u H5 e5 hu => by
      cases hu
      exact k H5 (eH.tr e5))
end
end Oa
set_option Elab.async false
set_option linter.all false
set_option maxRecDepth 100000
set_option maxHeartbeats 1000000
namespace Oa
open PySem PySem.Spec PyProof.Rows L2
/-! ### what the law's own text needs -/
theorem seq0 (n : Nat) : seqIndex? 0 (n + 1) = some 0 := by
  have e : seqIndex? 0 (n + 1) = if (decide ((0 : Int) ≤ 0) && decide ((0 : Int) < ((n + 1 : Nat) : Int))) = true then some (0 : Int).toNat else none := rfl
  rw [e, if_pos]
  · rfl
  · rw [Bool.and_eq_true]
    exact ⟨by decide, decide_eq_true (by omega)⟩
section
variable {X : Cx} {σ : St} {H H' : Hp} {D : Ends} {o e : Expr} {pos p : Pos} {h c : Addr} {xs : List V}
/-- lists are changed into lists -/
theorem num_mx {K : PySem.W.Frag} {v : V} {n : Option Int} (m : Mx [h] H H') (h1 : ∃ vs, H h = some (.lst vs)) (h2 : ∃ vs, H' h = some (.lst vs)) (x : Num K H v n) : Num K H' v n := by
  obtain ⟨vs1, h1⟩ := h1
  obtain ⟨vs2, h2⟩ := h2
  have go : ∀ {a : Addr} {o : HO}, H a = some o → nT o = true → (∀ vs, o ≠ .lst vs) → H' a = some o := fun {a o} q n z => by
    refine m.but a o (nmem1 fun e => ?_) q n
    rw [e, h1] at q
    exact z _ (Option.some.inj q).symm
  cases n with
  | some i => exact x
  | none =>
    obtain ⟨T, b1, b2, ty, r⟩ := x
    refine ⟨T, b1, b2, ?_, r⟩
    have lstc : ∀ {a : Addr} {ws : List V}, H a = some (.lst ws) → ∃ us, H' a = some (.lst us) := fun {a ws} q => by
      by_cases e : a = h
      · exact ⟨vs2, by rw [e]; exact h2⟩
      · exact ⟨ws, m.but a _ (nmem1 e) q⟩
    cases ty with
    | base t =>
      refine .base ?_
      cases t with
      | non => exact .non
      | bl y => exact .bl y
      | int i => exact .int i
      | str y => exact .str y
      | flt y => exact .flt y
      | lst q =>
        obtain ⟨us, q2⟩ := lstc q
        exact .lst q2
      | frz q => exact .frz (go q rfl fun _ z => by cases z)
      | tup q => exact .tup (go q rfl fun _ z => by cases z)
      | dK q => exact .dK (go q rfl fun _ z => by cases z)
      | dT q => exact .dT (go q rfl fun _ z => by cases z)
    | byt b => exact .byt b
    | set q => exact .set (go q rfl fun _ z => by cases z)
    | kList q c => exact .kList q c
    | kTuple q c => exact .kTuple q c
    | kDict q c => exact .kDict q c
    | fTuple q => exact .fTuple (go q rfl fun _ z => by cases z)
    | fDict q => exact .fDict (go q rfl fun _ z => by cases z)
theorem dat_mx {β : Type} [Rep β] [Imm β] {w : World} {d : Addr} {kvs : List (P0 × β)} (m : Mx [h] H H') (h1 : ∃ vs, H h = some (.lst vs)) (x : DAt w H d kvs) : DAt w H' d kvs := by
  obtain ⟨vs1, h1⟩ := h1
  obtain ⟨ys, ep, y1, y2⟩ := x.ok
  exact ⟨⟨ys, ep, m.but d _ (nmem1 fun e => by rw [e, h1] at y1; cases y1) y1, y2.tx m.tx⟩, x.nd, x.ns⟩
theorem told_mx {w : World} {a : Addr} {ds : List (Dic w Int)} (m : Mx [h] H H') (h1 : ∃ vs, H h = some (.lst vs)) (na : a ≠ h) (x : Ls H a ds) : Ls H' a ds := by
  obtain ⟨vs, y1, y2⟩ := x
  refine ⟨vs, m.but a _ (nmem1 na) y1, L2.Paired.mapP y2 fun v d ⟨q, e, r⟩ => ⟨q, e, dat_mx m h1 r⟩⟩
/-- f(e), whatever e does on its way -/
theorem we_o1 {α δ : Type} [Rep α] [Rep δ] {n : Str} {k : Nat} {ps : List Str} {f : α → Option δ} {Q : VK} (D : Dfn X.prog X.w X.K X.mg X.base CX0 k n ps (O1 f rD)) (hr : Room k X.A) (kk : we X e σ H fun w H2 => ∃ (x : α) (z : δ), Rep.is H2 w x ∧ f x = some z ∧ ∀ v H3, Ex H2 H3 → Rep.is H3 v z → Q v H3) (hg : Gl X n := by rfl) (hdb : (n == ("__debug__" : Str)) = false := by decide)
    (he : starEach [e] X.env = [(false, eval e X.env)] := by rfl) : we X (.Call (.Name n p) [e] [] pos) σ H Q := by
  obtain ⟨ff, fd, F, hm, hk, hb⟩ := D.ok
  refine we_of (pe_call F hr hg hm hk hb .nil pass0 (pa_cons pe_we pa_nil he) hdb he (by rfl)) ?_
  intro pins s I
  refine wpAny_mono (kk pins s I) (fun u s' hq => ?_) fun _ _ z => z
  obtain ⟨w, H2, I2, rw', x, z, hx, hz, q⟩ := hq
  exact ⟨w, H2, I2, rw', w, x, z, rfl, hx, hz, fun v H3 e3 r => q v H3 e3 r⟩
theorem we_board {n : Str} {k : Nat} {ps : List Str} {a1 a2 : Expr} {m : Int} (D : Dfn X.prog X.w X.K X.mg X.base CX0 k n ps spBoard) (hr : Room k X.A) (ho : ED X σ H o (Adr.mk h)) (h1 : ED X σ H a1 m) (h2 : ED X σ H a2 m) (hh : Hand H h c) (m0 : 0 ≤ m) (m7 : m ≤ 7) {Q : VK} (q : ∀ w (t : T0) H', Rep.is H' w t → t.items.length = m.toNat → okB m t.items → Mx [h] H H' → Hand H' h c → Q w H')
    (hg : Gl X n := by rfl) (hdb : (n == ("__debug__" : Str)) = false := by decide) (hs : starEach [o, a1, a2] X.env = (false, eval o X.env) :: starEach [a1, a2] X.env := by rfl) (hs2 : starEach [a1, a2] X.env = (false, eval a1 X.env) :: starEach [a2] X.env := by rfl) (hs3 : starEach [a2] X.env = [(false, eval a2 X.env)] := by rfl) : we X (.Call (.Name n p) [o, a1, a2] [] pos) σ H Q :=
  ec_call D hr hg pass0 (ea_cons ho (ea_cons h1 (ea_cons h2 ea_nil hs3) hs2) hs) (Ex.rf _) (fun vs H2 e2 ⟨v, ws, x1, hv, u, ws2, x2, hu, u2, ws3, x3, hu2, x4⟩ => by
    subst x1 x2 x3 x4
    cases hv
    cases hu
    cases hu2
    exact ⟨h, c, m, rfl, hh.up e2, m0, m7, fun w t H' d l b mm x => q w t H' d l b (Mx.ofE e2 mm) x⟩) hdb hs (by rw [hs2, hs3] <;> rfl)
/-- o.pop(0) of bare values -/
theorem w_pop0 {pp : Addr} {x : V} {apos cpos kpos : Pos} {j : Nat} (ho : ED X σ H o (Adr.mk pp)) (hl : H pp = some (.lst (x :: xs))) (hz : xs.length ≤ 10000000) (k : ∀ H1, Mx [pp] H H1 → D.nx σ H1)
    (hs : swapsWith (.Call (.Attribute o "pop" apos) [.Constant (.int 0) j kpos] [] cpos) none pos.line X.env = pure false := by rfl)
    (hbase : attributeBase o "pop" X.env (eval o X.env) = eval o X.env := by rfl)
    (hfew : ((backTo cpos (starEach [.Constant (.int 0) j kpos] X.env)).all (fun x => !x.1) && (backToKw cpos (keywordEach [] X.env)).all (fun x => x.1.isSome) && decide (([.Constant (.int 0) j kpos] : List Expr).length + ([] : List Keyword).length + (if ([] : List Keyword).isEmpty then 0 else 1) < 30)) = true := by rfl)
    (hline : (apos.endLine == cpos.line) = true := by rfl) (he : starEach [.Constant (.int 0) j kpos] X.env = [(false, eval (.Constant (.int 0) j kpos) X.env)] := by rfl) : wst X (.Expr (.Call (.Attribute o "pop" apos) [.Constant (.int 0) j kpos] [] cpos) pos) D σ H := by
  refine wst_of (ps_expr (pe_bm PySem.F.plainAttrs_list PySem.F.slot_list_pop PySem.F.type_list_pop mt_popAt pe_we (pa_cons pe_we pa_nil he) hbase hfew hline he (by rfl)) hs) ?_
  refine ho H (Ex.rf _) _ fun v H2 e2 hvv => ?_
  cases hvv
  refine ⟨.inl ⟨rfl, _, SqL.of (e2 pp _ hl)⟩, ed_int H2 (Ex.rf _) _ fun w H3 e3 hw => ?_⟩
  cases hw
  have h3 := e3 pp _ (e2 pp _ hl)
  exact ⟨pp, x :: xs, 0, 0, x, rfl, rfl, h3, by decide, by decide, seq0 xs.length, rfl, k _ (Mx.ofE (e2.tr e3) (Mx.upd1 h3))⟩
/-! the menu -/
theorem nu_int {i : Int} (he : ED X σ H e i) : ED X σ H e (⟨some i⟩ : Nu X.K) := ED.retype he fun H' v _ hv => hv
theorem nu_bl {b : Bool} (he : ED X σ H e b) : ED X σ H e (⟨none⟩ : Nu X.K) := ED.retype he fun H' v _ hv => by
  cases hv
  exact ⟨"bool", true, true, .base (.bl b), by decide +kernel, by decide +kernel, rfl⟩
theorem nu_non {j : Nat} : ED X σ H (.Constant .none j pos) (⟨none⟩ : Nu X.K) := fun H1 e1 Q q => we_of pe_non (q .non H1 (Ex.rf _) ⟨"NoneType", false, false, .base .non, by decide +kernel, by decide +kernel, rfl⟩)
theorem nu_str {z : Str} (he : ED X σ H e (V.str z)) : ED X σ H e (⟨none⟩ : Nu X.K) := ED.retype he fun H' v _ hv => by
  cases hv
  exact ⟨"str", false, false, .base (.str z), by decide +kernel, by decide +kernel, rfl⟩
theorem nu_tup {t : T0} (he : ED X σ H e t) : ED X σ H e (⟨none⟩ : Nu X.K) := ED.retype he fun H' v _ ⟨a, vs, e1, e2, _⟩ => by
  subst e1
  exact ⟨"tuple", false, false, .base (.tup e2), by decide +kernel, by decide +kernel, rfl⟩
theorem nu_lst {t : List Int} (he : ED X σ H e t) : ED X σ H e (⟨none⟩ : Nu X.K) := ED.retype he fun H' v _ ⟨a, e1, vs, e2, _⟩ => by
  subst e1
  exact ⟨"list", false, false, .base (.lst e2), by decide +kernel, by decide +kernel, rfl⟩
theorem nu_dict : ED X σ H (.Dict [] [] pos) (⟨none⟩ : Nu X.K) := fun H1 e1 Q q => we_of pe_dnewK fun d hd => q (.ref d) _ (Ex.new hd) ⟨"dict", false, false, .base (.dK upd_same), by decide +kernel, by decide +kernel, rfl⟩
end
end Oa
set_option Elab.async false
set_option linter.all false
set_option maxRecDepth 100000
set_option maxHeartbeats 2000000
namespace Oa
open PySem PySem.Spec PyProof.Rows L2
section
variable {X : Cx} {σ : St} {H : Hp} {D : Ends} {e : Expr} {pos : Pos}
theorem w_setW {i : Nat} {n : Str} {pos' : Pos} (hN : X.N.Nodup) (h : we X e σ H fun v H1 => D.nx (σ.set i (some v)) H1) (hi : X.N[i]? = some n := by rfl) (hx : Loc X.env.scope n := by first | exact Or.inl rfl | exact Or.inr rfl)
    (hs : swapsWith e (some (.Name n pos')) pos.line X.env = pure false := by rfl) (hf : X.fn n = true ∨ X.env.scope.names.lookup n = some .local := by first | exact .inl rfl | exact .inr rfl) : wst X (.Assign [.Name n pos'] e pos) D σ H := wst_of (ps_set hN hi hx pe_we hs hf) h
theorem we_hand {n : Str} {p : Pos} {k : Nat} {ps : List Str} {a : Addr} {ns : List Int} {Q : VK} (Df : Dfn X.prog X.w X.K X.mg X.base CX0 k n ps (spHand X.K)) (hr : Room k X.A) (he : ED X σ H e (Adr.mk a)) (hq : SqL X.K H a (ns.map V.int)) (hz : ns.length ≤ 1000) (q : ∀ p c H', Ex H H' → H p = none → Hand H' p c → Q (.ref p) H')
    (hg : Gl X n := by rfl) (hdb : (n == ("__debug__" : Str)) = false := by decide) (hs : starEach [e] X.env = [(false, eval e X.env)] := by rfl) : we X (.Call (.Name n p) [e] [] pos) σ H Q :=
  ec_call Df hr hg pass0 (ea_cons he ea_nil hs) (Ex.rf _) (fun vs H1 e1 ⟨v, ws, y1, hv, y2⟩ => by
    subst y1 y2
    cases hv
    exact ⟨a, ns, rfl, sqL_up e1 hq, hz, fun p c H2 e2 hp hh => q p c H2 (e1.tr e2) (fresh_b e1 hp) hh⟩) hdb hs (by rfl)
theorem ed_word {n : Str} {p : Pos} {k : Nat} {ps : List Str} {Pt : Addr} {x : Nu X.K} (Df : Dfn X.prog X.w X.K X.mg X.base CX0 k n ps (spWord X.K Pt)) (hr : Room k X.A) (hT : TabT H Pt) (he : ED X σ H e x) (hb : betw x.n 0 7 = false ∨ x.n = some 0)
    (hg : Gl X n := by rfl) (hdb : (n == ("__debug__" : Str)) = false := by decide) (hs : starEach [e] X.env = [(false, eval e X.env)] := by rfl) : ED X σ H (.Call (.Name n p) [e] [] pos) (V.str (if betw x.n 0 7 then "told" else "number")) := fun H1 e1 Q q =>
  ec_call Df hr hg pass0 (ea_cons he ea_nil hs) e1 (fun vs H2 e2 ⟨v, ws, y1, hv, y2⟩ => by
    subst y1 y2
    exact ⟨v, x, rfl, hv, (e1.tr e2).tab Pt hT, hb, fun H3 e3 => q _ H3 (e2.tr e3) rfl⟩) hdb hs (by rfl)
theorem c_eqS {x y : Str} : CmpIs X .Eq H (V.str x) (V.str y) (decide (V.str x = V.str y)) := ⟨_, op_eq, fun H2 u v Q _ hu hv q => by
  cases hu; cases hv
  exact ⟨rfl, q⟩⟩
end
def spLaw (K : PySem.W.Frag) (Pt : Addr) : Sp := fun vs H Q _ => ∃ (a : Addr) (ns : List Int), vs = [.ref a] ∧ SqL K H a (ns.map V.int) ∧ ns.length ≤ 1000 ∧ TabT H Pt ∧ ∀ H', Q (.bl true) H'
/-- what is left of plain mathematics -/
def Plain : Prop := ∀ n : Int, 0 ≤ n → n ≤ 7 → ∃ (hs : List Kvs) (rows : List (FTup P0)), m_allHeaps n = some hs ∧ m_law1 n hs = some rows ∧ hs ≠ [] ∧
  ∀ t : T0, t.items.length = n.toNat → okB n t.items → ∃ h r, m_heap t = some h ∧ m_fall h = some r ∧ rows.countP (fun y => decide (y = r)) = 1
theorem map_mk {w : World} {rows : List (FTup P0)} {hs : List Kvs} (h : rows = hs.map fun x => (m_fall x).getD default) : (hs.map (Dic.mk (w := w))).map (fun d => (m_fall d.kvs).getD default) = rows := by
  rw [h, List.map_map]
  rfl
section
variable {P : Program} {w : World} {K : PySem.W.Frag} {mg : Str → Option Value} {base : Heap}
theorem ok_law {Pt f0 : Addr} {fd0 : FuncData} (pl : Plain) (F : FunD K "law" "law" (defArgs S_law) (defBody S_law) (defScope S_law) [] [] f0 fd0) (Dhand : D0 P w K mg base 1 "_law_hand" ["_law_script"] (spHand K)) (Ddraw : D0 P w K mg base 1 "_law_draw" ["_law_hand_here", "_law_many"] spDraw) (Dall : D0 P w K mg base 15 "all_heaps" ["number"] (Und Pt (O1 (heapsW w) rL)))
    (Dish : D0 P w K mg base 13 "_law_is_heap" ["_law_thing", "_law_places"] (O2 (fun (h : Dic w Int) n => yes (m_isHeap h.kvs n)) rD)) (Dfall : D0 P w K mg base 1 "_law_falling" ["_law_heap_here"] (O1 (fun h : Dic w Int => m_fall h.kvs) rD)) (Dmany : D0 P w K mg base 4 "heaps_many" ["number"] (O1 m_many rD)) (Drows : D0 P w K mg base 13 "_law_all_rows" ["_law_places"] (O1 m_allRows rL))
    (Dsel : D0 P w K mg base 12 "_law_selves" ["_law_row_here"] (O1 m_selves rD)) (Dtst : D0 P w K mg base 15 "_law_tests" ["_law_places"] (Und Pt (O1 m_lawTests rL))) (Dheap : D0 P w K mg base 12 "_law_heap" ["_law_arrows"] (O1 (heapW w) rD)) (Dbrd : D0 P w K mg base 4 "_law_board" ["_law_hand_here", "_law_least_here", "_law_most"] spBoard) (Dword : D0 P w K mg base 16 "_law_word" ["_law_number"] (spWord K Pt))
    (gi : mg "isinstance" = none) (gL : mg "list" = none) (ga : mg "all" = none) (gl : mg "len" = none) (gz : mg "zip" = none) (gr : mg "range" = none) (gs : mg "sum" = none) : FnOk P w K mg base CX0 17 f0 fd0 ["_law_script"] (spLaw K Pt) := by
  refine F.ok sc_law (fun vs H Q E ⟨_, _, e, _⟩ => by rw [e]; rfl) fun cdv A outer s H vs Q E hr ⟨a, ns, e0, hq, hz, hT, k⟩ => ⟨_, pss_wss.nox, ?_⟩
  change wss (cxN P w K mg base N_law "law" S_law f0 cdv A outer s H E) _ _ _ _
  subst e0
  refine w_seq (w_setW (i := 1) sc_law.nd (we_hand Dhand (hr.mono (by decide)) (ed_adr 0) hq hz fun h c H1 e1 hh0 hh1 => ?_))
  refine w_seq (w_setW (i := 2) sc_law.nd (we_draw (many := 8) Ddraw (hr.mono (by decide)) (ed_adr 1) ed_int hh1 (by decide) (by decide) fun n H2 n0 n8 m2 hh2 => ?_))
  have hT2 : TabT H2 Pt := m2.tab Pt (e1.tab Pt hT)
  obtain ⟨hs, rows, p1, p2, p3, p4⟩ := pl n n0 (by omega)
  refine w_seq (w_setL (i := 3) (xs := hs.map (Dic.mk (w := w))) sc_law.nd (el_t1 Dall hT2 (hr.mono (by decide)) (ed_iv 2) (by show (m_allHeaps n).map _ = _; rw [p1] <;> rfl)) fun pt H3 hpt e3 hlt => ?_)
  obtain ⟨_, c1, p2⟩ := bs p2
  have c1 := few_is (ck_t c1)
  obtain ⟨_, c2, p2⟩ := bs p2
  have c2 := foldU c2
  obtain ⟨rows', c3, p2⟩ := bs p2
  obtain ⟨_, c4, p2⟩ := bs p2
  have c4 := ck_t c4
  obtain ⟨many, c5, p2⟩ := bs p2
  obtain ⟨_, c6, p2⟩ := bs p2
  have c6 : many = (rows'.length : Int) := of_decide_eq_true (ck_t c6)
  obtain ⟨_, c7, p2⟩ := bs p2
  obtain ⟨ob, c8, p2⟩ := bs p2
  obtain ⟨ss, c9, p2⟩ := bs p2
  obtain ⟨_, c10, p2⟩ := bs p2
  have c10 : ss.sum = ob.2 := of_decide_eq_true (ck_t c10)
  obtain ⟨_, c11, p2⟩ := bs p2
  have er : rows' = rows := Option.some.inj p2
  subst er
  obtain ⟨f1, f2⟩ := mapO_map c3
  obtain ⟨nht, nct⟩ := hh2.ne hpt
  have hh3 := hh2.up e3
  have hlen : (hs.map (Dic.mk (w := w))).length ≤ 5000000 := by rw [List.length_map]; exact c1
  have hrl : rows'.length ≤ 5000000 := by rw [f1, List.length_map]; exact c1
  refine w_seq (w_if (q := false) (EB.to (eb_w (ew_or (k := !true) (eb_not (eb_val (ed_isi (TT := "list") (b := true) (x := hs.map (Dic.mk (w := w))) (ed_ls 3 hlt) (fun H' v' e hv' => ?_) (by rfl) gi (by rfl) gL (by decide +kernel)))) fun _ =>
    ew_or1 (k := !true) (eb_not (eb_val (ED.to (ed_all rfl (el_lc (lc0 (fun _ => true) [("_law_heap_here", 11)] (gName 11) (src_l (ed_ls 3 hlt)) (by omega) (blk_of (N := N_law) (sc := defScope S_law) (by decide +kernel)) (pgn 11 sc_law.nd) ?_) rfl sc_law.nd).d (by rfl) ga) (all_true _)))))) rfl) (fun q => by cases q) fun _ H4 e4 => w_nil ?_)
  · obtain ⟨a', e1', vs', e2', _⟩ := hv'
    subst e1'
    exact ⟨"list", .base (.lst e2'), kit_ty (by decide +kernel)⟩
  · intro x hx u' H6 e6 hu'
    obtain ⟨h0, hh0', ex⟩ := List.mem_map.mp hx
    subst ex
    exact ⟨_, fun Q q => q, rfl, fun s H0 C cl fp => ed_o2 Dish (hr.mono (by decide)) (ed_v 11 hu') (ed_iv 2) (is_yes (c2 h0 hh0'))⟩
  have hlt4 := hlt.up e4
  refine w_seq (w_setLc (i := 4) sc_law.nd rfl ((lc0 (β := FTup P0) (fun d : Dic w Int => (m_fall d.kvs).getD default) [("_law_heap_here", 11)] (gName 11) (src_l (ed_ls 3 hlt4)) (by omega) (blk_of (N := N_law) (sc := defScope S_law) (by decide +kernel)) (pgn 11 sc_law.nd) ?_).to (map_mk f1)) fun pr H5 hpr e5 hlr => ?_)
  · intro x hx u' H6 e6 hu'
    obtain ⟨h0, hh0', ex⟩ := List.mem_map.mp hx
    subst ex
    exact ⟨_, fun Q q => q, rfl, fun s H0 C cl fp => ed_o1 Dfall (hr.mono (by decide)) (ed_v 11 hu') (f2 h0 hh0')⟩
  have ntr := ls_ne hlt4 hpr
  have hlt5 := hlt4.up e5
  have hh5 := (hh3.up e4).up e5
  obtain ⟨nhr, ncr⟩ := (hh3.up e4).ne hpr
  refine w_seq (w_if (q := false) (EB.to (eb_w (ew_or (k := !true) (eb_not (eb_val (ED.to (ed_all rfl (el_lc (lc0 (fun p : FTup P0 × FTup P0 => PySem.W.DatumOrd.lt p.1 p.2) [("_law_one", 12), ("_law_other", 13)] (gPair K 12 13) (src_zip (ed_ls 4 hlr) (EL.d ((el_slL (ed_ls 4 hlr) (eo_some ed_int) eo_none).to (cut_from (by decide)))) (by rfl) gz) ?_ (blk_of (N := N_law) (sc := defScope S_law) (by decide +kernel)) (pgp 12 13 rfl sc_law.nd) ?_) rfl sc_law.nd).d (by rfl) ga) c4))) fun _ =>
    ew_or1 (k := !decide (many = (rows'.length : Int))) (eb_cmpI c_ne (ed_o1 Dmany (hr.mono (by decide)) (ed_iv 2) c5) (ed_len (ed_ls 4 hlr) (by rfl) gl)))) ?_) (fun q => by cases q) fun _ H6 e6 => w_nil ?_)
  · rw [List.length_zip]
    omega
  · intro x hx u' H7 e7 hu'
    obtain ⟨u1, u2, hu1, hu2, hg⟩ := pairG (K := K) (i := 12) (j := 13) (σ := wipe _ _) hu'
    exact ⟨_, hg, rfl, fun s H0 C cl fp => ed_cmpI (c_ltD (un0 hr)) (ed_v 12 hu1) (ed_v 13 hu2)⟩
  · rw [decide_eq_true c6] <;> rfl
  have hlr6 := hlr.up e6
  refine w_seq (w_if (q := false) (EB.to (eb_w (ew_and (k := decide (n < 5)) (l := false) (eb_cmpI c_lt (ed_iv 2) ed_int) fun q => ?_)) (Bool.and_false _)) (fun q => by cases q) fun _ H7 e7 => w_nil ?_)
  · rw [if_pos (of_decide_eq_true q)] at c7
    obtain ⟨ar, d1, d2⟩ := bs c7
    have d2 : rows' = ar := of_decide_eq_true (ck_t d2)
    exact ew_and1 (EB.to (eb_cmpI (x := rows') (y := ar) (c_neD (un0 hr)) (ed_ls 4 hlr6) (el_o1 Drows (hr.mono (by decide)) (ed_iv 2) d1).d) (by rw [decide_eq_true d2] <;> rfl))
  have hlr7 := hlr6.up e7
  refine w_seq (w_set (i := 5) (x := (1 : Int)) sc_law.nd ed_int fun u H8 e8 hu => ?_)
  cases hu
  refine w_seq (w_set (i := 6) (x := (1 : Int)) sc_law.nd ed_int fun u H9 e9 hu => ?_)
  cases hu
  refine w_seq (w_fold (P := []) _ (fun H0 (s : Int × Int) σ' H' => ∃ kk, σ' = [some (.ref a), some (.ref h), some (.int n), some (.ref pt), some (.ref pr), some (.int s.1), some (.int s.2), kk, none, none, none, none, none, none, none]) c8 PassesOwn.never rfl (src_rng1 (ed_iv 2) (by omega) (by rfl) gr) (pgl 7 sc_law.nd) Muts.nil (fun H10 e10 => ⟨_, rfl⟩) ?_ ?_)
  · rintro H10 e10 s s2 x v' σ' H' H'' hx hst mx ⟨kk, rfl⟩ e11 mx2 hv'
    cases hv'
    obtain ⟨q1, r1, hst1⟩ := bs hst
    obtain ⟨q2, r2, hst2⟩ := bs hst1
    cases hst2
    obtain ⟨m1, m1'⟩ := mulO_is r1
    obtain ⟨m2, m2'⟩ := mulO_is r2
    refine g_name (w_seq (w_set (i := 5) (x := q1) sc_law.nd (ED.to (ed_mul (ed_iv 5) (ed_add (ed_iv 7) ed_int) m1) m1') fun u H12 e12 hu => ?_))
    cases hu
    refine w_one (w_set (i := 6) (x := q2) sc_law.nd (ED.to (ed_mul (ed_iv 6) (ed_iv 2) m2) m2') fun u H13 e13 hu => ?_)
    cases hu
    exact ⟨mx2.trE (e12.tr e13), _, rfl⟩
  rintro H10 e10 σ' H11 mx11 ⟨kk, rfl⟩
  have e7b := (e8.tr e9).tr (e10.tr mx11.nil)
  have hlr11 := hlr7.up e7b
  obtain ⟨g1, g2⟩ := mapO_map c9
  refine w_seq (w_if (q := false) (EB.to (eb_cmpI (x := ss.sum) (y := ob.2) c_ne (ed_sum rfl (el_lc ((lc0 (β := Int) _ [("_law_row_here", 14)] (gName 14) (src_l (ed_ls 4 hlr11)) (by omega) (blk_of (N := N_law) (sc := defScope S_law) (by decide +kernel)) (pgn 14 sc_law.nd) ?_).to g1.symm) rfl sc_law.nd).d (by rfl) gs) (ed_iv 6)) ?_) (fun q => by cases q) fun _ H12 e12 => w_nil ?_)
  · intro x hx u' H6 e6 hu'
    obtain ⟨sv, w1, w2⟩ := bs (g2 x hx)
    obtain ⟨w3, w4⟩ := divO_is w2
    exact ⟨_, fun Q q => q, rfl, fun s H0 C cl fp => ED.to (ed_fdiv (ed_iv 5) (ed_o1 Dsel (hr.mono (by decide)) (ed_v 14 hu') w1) w3) w4⟩
  · rw [decide_eq_true c10] <;> rfl
  have hlr12 := hlr11.up e12
  have e3b := ((e4.tr e5).tr (e6.tr e7)).tr (e7b.tr e12)
  have hT12 : TabT H12 Pt := e3b.tab Pt (e3.tab Pt hT2)
  refine w_seq (w_if (q := false) (EB.to (eb_w (ew_and (k := decide (0 < n)) (l := false) (eb_cmpI (c_gt (i := n) (j := 0)) (ed_iv 2) ed_int) fun q => ?_)) (Bool.and_false _)) (fun q => by cases q) fun _ H13 e13 => w_nil ?_)
  · rw [if_pos (of_decide_eq_true q)] at c11
    obtain ⟨tst, d1, d2⟩ := bs c11
    obtain ⟨fs, d3, d4⟩ := bs d2
    have d4 : fs = tst := of_decide_eq_true (ck_t d4)
    obtain ⟨j1, j2⟩ := mapO_map d3
    refine ew_and1 (EB.to (eb_cmpI (x := fs) (y := tst) (c_neD (un0 hr)) (el_lc ((lc1 (β := P0) _ (fun r : FTup P0 => decide ((r.items.length : Int) = 1)) [("_law_row_here", 14)] (gName 14) (src_l (ed_ls 4 hlr12)) (by omega) (blk_of (N := N_law) (sc := defScope S_law) (by decide +kernel)) (pgn 14 sc_law.nd) ?_).to j1.symm) rfl sc_law.nd).d (el_t1 Dtst hT12 (hr.mono (by decide)) (ed_iv 2) d1).d) (by rw [decide_eq_true d4] <;> rfl))
    intro x hx u' H6 e6 hu'
    refine ⟨_, fun Q q => q, rfl, fun s H0 C cl fp => eb_cmpI c_eq (ed_lenF (ed_v 14 hu') (by rfl) gl) ed_int, fun hp s H0 C cl fp => ?_⟩
    exact ed_ixF (ed_v 14 hu') ed_int (getI_at (j2 x (List.mem_filter.mpr ⟨hx, hp⟩)))
  have hlr13 := hlr12.up e13
  have e5b := (e6.tr e7).tr ((e7b.tr e12).tr e13)
  have hh13 := hh5.up e5b
  have hlt13 := hlt5.up e5b
  have hT13 := e13.tab Pt hT12
  refine w_seq (w_for (P := [h]) (fun i σ' H' => (∃ k' t' d', σ' = [some (.ref a), some (.ref h), some (.int n), some (.ref pt), some (.ref pr), some (.int ob.1), some (.int ob.2), k', t', d', none, none, none, none, none]) ∧ Hand H' h c ∧ Ls H' pr rows' ∧ Ls H' pt (hs.map (Dic.mk (w := w))) ∧ TabT H' Pt) PassesOwn.never rfl (src_rng1 ed_int (by omega) (by rfl) gr) (pgl 8 sc_law.nd) hh13.mut (fun H14 e14 => ⟨⟨_, _, _, rfl⟩, hh13.up e14, hlr13.up e14, hlt13.up e14, e14.tab Pt hT13⟩) ?_ ?_)
  · rintro H14 e14 i x v' σ' H15 H16 hx mx ⟨⟨k', t', d', rfl⟩, hh15, hlr15, hlt15, hT15⟩ e16 mx2 hv'
    have hh16 := hh15.up e16
    refine g_name (w_seq (w_setW (i := 9) sc_law.nd (we_o1 Dfall (hr.mono (by decide)) (we_o1 Dheap (hr.mono (by decide)) (we_board Dbrd (hr.mono (by decide)) (ed_adr 1) (ed_iv 2) (ed_iv 2) hh16 n0 (by omega) fun wv t H17 ht htl hto m17 hh17 => ?_)))))
    obtain ⟨hp, rr, y1, y2, y3⟩ := p4 t htl hto
    refine ⟨t, ⟨hp⟩, ht, by show (m_heap t).map _ = _; rw [y1] <;> rfl, fun v2 H18 e18 hv2 => ⟨⟨hp⟩, rr, hv2, y2, fun v3 H19 e19 hv3 => ?_⟩⟩
    have m19 := m17.trE (e18.tr e19)
    have hlst : ∃ vs, H16 h = some (.lst vs) := by
      obtain ⟨_, _, _, _, _, z⟩ := hh16
      obtain ⟨vs, z1, _⟩ := z.ld
      exact ⟨vs, z1⟩
    have hlr19 := m19.ls (hlr15.up e16) (nmem1 nhr.symm)
    have hlt19 := told_mx m19 hlst nht.symm (hlt15.up e16)
    refine w_one (w_if (q := false) (EB.to (eb_cmpI (x := ((rows'.countP fun y => decide (y = rr) : Nat) : Int)) (y := 1) c_ne (ed_count (un1 hr) (ed_ls 4 hlr19) (ed_v 9 hv3)) ed_int) ?_) (fun q => by cases q) fun _ H20 e20 => w_nil ?_)
    · rw [y3] <;> rfl
    · exact ⟨(mx2.tr m19).trE e20, ⟨_, _, _, rfl⟩, (hh17.up (e18.tr e19)).up e20, hlr19.up e20, hlt19.up e20, e20.tab Pt (m19.tab Pt (e16.tab Pt hT15))⟩
  · rintro H14 e14 σ' H15 mx15 ⟨⟨k', t', d', rfl⟩, hh15, hlr15, hlt15, hT15⟩
    obtain ⟨vs, hvs, hA⟩ := id hlt15
    have hne : (hs.map (Dic.mk (w := w))).length ≠ 0 := by
      rw [List.length_map]
      exact fun z => p3 (List.eq_nil_of_length_eq_zero z)
    have hvl := hA.len
    have hla : atI (hs.map (Dic.mk (w := w))) (-1) = some ((hs.map (Dic.mk (w := w)))[(hs.map (Dic.mk (w := w))).length - 1]'(by omega)) := by
      unfold atI
      rw [last_ix (by omega)]
      exact List.getElem?_eq_getElem (by omega)
    obtain ⟨lv, hlv, dl, edl, hdl⟩ := at_is hA hla
    subst edl
    have hmem := List.getElem_mem (l := hs.map (Dic.mk (w := w))) (n := (hs.map (Dic.mk (w := w))).length - 1) (by omega)
    obtain ⟨kv, hkv, ekv⟩ := List.mem_map.mp hmem
    have hfewk : kv.length ≤ 5000000 := by
      have y := f2 kv hkv
      obtain ⟨_, y1, _⟩ := bs y
      exact few_is (ck_t y1)
    rw [← ekv] at hdl
    have nrd : pr ≠ dl := fun z => by
      obtain ⟨us, z1, _⟩ := hlr15
      obtain ⟨ys, ep, z2, _⟩ := hdl.ok
      rw [z, z2] at z1
      cases z1
    have ntd : pt ≠ dl := fun z => by
      obtain ⟨ys, ep, z2, _⟩ := hdl.ok
      rw [z, z2] at hvs
      cases hvs
    refine w_seq (w_dclear (ED.cast (v := V.ref dl) (ed_ixL (x := V.ref dl) (ed_of_adr (ed_adr 3) ⟨vs, hvs, vals_self vs⟩) (ed_neg ed_int) hlv) fun H' _ => rfl) hdl (by show kv.length ≤ _; omega) fun H16 m16 _ => ?_)
    have hvs16 := m16.but pt _ (nmem1 ntd) hvs
    have hlr16 := m16.ls hlr15 (nmem1 nrd)
    cases vs with
    | nil => rw [List.length_nil] at hvl; omega
    | cons v0 vr =>
      refine w_seq (w_pop0 (ed_adr 3) hvs16 (by rw [List.length_cons] at hvl; omega) fun H17 m17 => ?_)
      have hlr17 := m17.ls hlr16 (nmem1 ntr.symm)
      have hT17 : TabT H17 Pt := m17.tab Pt (m16.tab Pt hT15)
      have hh17 : Hand H17 h c := by
        have nhd : h ≠ dl ∧ c ≠ dl := by
          obtain ⟨_, _, _, _, _, z⟩ := hh15
          obtain ⟨us, z1, _⟩ := z.ld
          obtain ⟨us2, z2, _⟩ := z.cd
          obtain ⟨ys, ep, z3, _⟩ := hdl.ok
          exact ⟨(fun e => by rw [e, z3] at z1; cases z1), (fun e => by rw [e, z3] at z2; cases z2)⟩
        exact (hh15.mx m16 (nmem1 nhd.1) (nmem1 nhd.2)).mx m17 (nmem1 nht) (nmem1 nct)
      refine w_seq (w_if (q := false) (EB.to (eb_cmpI (x := rows') (y := rows') (c_neD (un0 hr)) (el_lc ((lc0 (β := FTup P0) (fun d : Dic w Int => (m_fall d.kvs).getD default) [("_law_heap_here", 11)] (gName 11) (src_l (el_t1 Dall hT17 (hr.mono (by decide)) (ed_iv 2) (by show (m_allHeaps n).map _ = some (hs.map (Dic.mk (w := w))); rw [p1] <;> rfl)).d) (by omega) (blk_of (N := N_law) (sc := defScope S_law) (by decide +kernel)) (pgn 11 sc_law.nd) ?_).to (map_mk f1)) rfl sc_law.nd).d (ed_ls 4 hlr17)) (by rw [decide_eq_true rfl] <;> rfl)) (fun q => by cases q) fun _ H18 e18 => w_nil ?_)
      · intro x hx u' H6 e6 hu'
        obtain ⟨h0, hh0', ex⟩ := List.mem_map.mp hx
        subst ex
        exact ⟨_, fun Q q => q, rfl, fun s H0 C cl fp => ed_o1 Dfall (hr.mono (by decide)) (ed_v 11 hu') (f2 h0 hh0')⟩
      have hh18 := hh17.up e18
      have hT18 := e18.tab Pt hT17
      refine w_seq (w_setW (i := 10) sc_law.nd (we_of (pe_ix ix_list pe_we pe_we (by exact fun _ _ => rfl)) ?_))
      refine (el_lst (xs := ([⟨some (-1)⟩, ⟨some 8⟩, ⟨some 120⟩, ⟨some (10 ^ (30 : Int).toNat)⟩, ⟨none⟩, ⟨none⟩, ⟨none⟩, ⟨none⟩, ⟨none⟩, ⟨none⟩, ⟨none⟩] : List (Nu K))) (eal_cons (nu_int (ed_neg ed_int)) (eal_cons (nu_int ed_int) (eal_cons (nu_int ed_int) (eal_cons (nu_int (ed_pow ed_int ed_int ⟨by decide, by decide, by decide⟩)) (eal_cons (nu_bl ed_bl) (eal_cons (nu_bl ed_bl) (eal_cons nu_non (eal_cons (nu_str ed_str) (eal_cons (nu_tup (ed_tup (xs := [(3 : Int)]) (eal_cons ed_int eal_nil) one_line)) (eal_cons (nu_lst (el_lst (xs := ([] : List Int)) eal_nil (Nat.zero_le _)).d) (eal_cons nu_dict eal_nil))))))))))) (by show 11 ≤ sizeLine; decide)) H18 (Ex.rf _) _ fun pm H19 hpm e19 hlm => ?_
      have hh19 := hh18.up e19
      refine we_draw (many := 11) Ddraw (hr.mono (by decide)) (ed_adr 1) ed_int hh19 (by decide) (by decide) fun d H20 d0 d1 m20 hh20 => ?_
      obtain ⟨us, hus, hU⟩ := hlm
      have nhm := hh18.ne hpm
      have hul := hU.len
      have hdu : d.toNat < us.length := by
        rw [hul]
        show d.toNat < 11
        omega
      refine ⟨pm, us, d, us[d.toNat], rfl, rfl, SqL.of (m20.but pm _ (nmem1 nhm.1.symm) hus), at_int d0 (List.getElem?_eq_getElem hdu), ?_⟩
      obtain ⟨xn, hxn, rxn⟩ := pget hU (List.getElem?_eq_getElem hdu)
      have hbad : betw xn.n 0 7 = false := by
        have hm := List.mem_of_getElem? hxn
        simp only [List.mem_cons, List.not_mem_nil, or_false] at hm
        rcases hm with e | e | e | e | e | e | e | e | e | e | e <;> rw [e] <;> first | rfl | decide
      have l19 : ∃ vs, H19 h = some (.lst vs) := by
        obtain ⟨_, _, _, _, _, z⟩ := hh19
        obtain ⟨vs, z1, _⟩ := z.ld
        exact ⟨vs, z1⟩
      have l20 : ∃ vs, H20 h = some (.lst vs) := by
        obtain ⟨_, _, _, _, _, z⟩ := hh20
        obtain ⟨vs, z1, _⟩ := z.ld
        exact ⟨vs, z1⟩
      have rx20 : Rep.is H20 us[d.toNat] xn := num_mx m20 l19 l20 rxn
      have hT20 : TabT H20 Pt := m20.tab Pt (e19.tab Pt hT18)
      refine w_one (w_ret (x := true && true) (ed_and (k := true) (ED.to (ed_cmpI c_eqS (ed_word Dword hr hT20 (ed_v 10 rx20) (.inl hbad)) ed_str) (by rw [hbad] <;> rfl)) fun _ => ed_and1 (ED.to (ed_cmpI c_eqS (ed_word (x := (⟨some 0⟩ : Nu K)) Dword hr hT20 (nu_int ed_int) (.inr rfl)) ed_str) rfl)) fun v' H21 e21 hv' => ?_)
      cases hv'
      exact k H21
end
end Oa
set_option Elab.async false
set_option linter.all false
set_option maxRecDepth 100000
/-! tables (printed by gen_tab.py) -/
namespace Oa
def dt (l : List Nat) : T0 := ⟨l.map Int.ofNat⟩
def dp (l : List (List Nat)) : P0 := ⟨l.map dt⟩
def TL1 : List T0 := [⟨[.ofNat 0]⟩]
def TL2 : List T0 := [⟨[.ofNat 0, .ofNat 1]⟩]
def TL3 : List T0 := [⟨[.ofNat 0, .ofNat 1, .ofNat 1]⟩, ⟨[.ofNat 0, .ofNat 1, .ofNat 2]⟩]
def TL4 : List T0 := [⟨[.ofNat 0, .ofNat 1, .ofNat 1, .ofNat 1]⟩, ⟨[.ofNat 0, .ofNat 1, .ofNat 2, .ofNat 1]⟩, ⟨[.ofNat 0, .ofNat 1, .ofNat 2, .ofNat 2]⟩, ⟨[.ofNat 0, .ofNat 1, .ofNat 2, .ofNat 3]⟩]
def TL5 : List T0 := [⟨[.ofNat 0, .ofNat 1, .ofNat 1, .ofNat 1, .ofNat 1]⟩, ⟨[.ofNat 0, .ofNat 1, .ofNat 2, .ofNat 1, .ofNat 1]⟩, ⟨[.ofNat 0, .ofNat 1, .ofNat 2, .ofNat 1, .ofNat 2]⟩, ⟨[.ofNat 0, .ofNat 1, .ofNat 2, .ofNat 2, .ofNat 1]⟩, ⟨[.ofNat 0, .ofNat 1, .ofNat 2, .ofNat 2, .ofNat 2]⟩, ⟨[.ofNat 0, .ofNat 1, .ofNat 2, .ofNat 3, .ofNat 1]⟩, ⟨[.ofNat 0, .ofNat 1, .ofNat 2, .ofNat 3, .ofNat 2]⟩, ⟨[.ofNat 0, .ofNat 1, .ofNat 2, .ofNat 3, .ofNat 3]⟩, ⟨[.ofNat 0, .ofNat 1, .ofNat 2, .ofNat 3, .ofNat 4]⟩]
def TL6 : List T0 := [⟨[.ofNat 0, .ofNat 1, .ofNat 1, .ofNat 1, .ofNat 1, .ofNat 1]⟩, ⟨[.ofNat 0, .ofNat 1, .ofNat 2, .ofNat 1, .ofNat 1, .ofNat 1]⟩, ⟨[.ofNat 0, .ofNat 1, .ofNat 2, .ofNat 1, .ofNat 2, .ofNat 1]⟩, ⟨[.ofNat 0, .ofNat 1, .ofNat 2, .ofNat 2, .ofNat 1, .ofNat 1]⟩, ⟨[.ofNat 0, .ofNat 1, .ofNat 2, .ofNat 2, .ofNat 1, .ofNat 2]⟩, ⟨[.ofNat 0, .ofNat 1, .ofNat 2, .ofNat 2, .ofNat 2, .ofNat 1]⟩, ⟨[.ofNat 0, .ofNat 1, .ofNat 2, .ofNat 2, .ofNat 2, .ofNat 2]⟩, ⟨[.ofNat 0, .ofNat 1, .ofNat 2, .ofNat 3, .ofNat 1, .ofNat 1]⟩, ⟨[.ofNat 0, .ofNat 1, .ofNat 2, .ofNat 3, .ofNat 1, .ofNat 2]⟩, ⟨[.ofNat 0, .ofNat 1, .ofNat 2, .ofNat 3, .ofNat 2, .ofNat 1]⟩, ⟨[.ofNat 0, .ofNat 1, .ofNat 2, .ofNat 3, .ofNat 2, .ofNat 2]⟩, ⟨[.ofNat 0, .ofNat 1, .ofNat 2, .ofNat 3, .ofNat 2, .ofNat 3]⟩, ⟨[.ofNat 0, .ofNat 1, .ofNat 2, .ofNat 3, .ofNat 3, .ofNat 1]⟩, ⟨[.ofNat 0, .ofNat 1, .ofNat 2, .ofNat 3, .ofNat 3, .ofNat 2]⟩, ⟨[.ofNat 0, .ofNat 1, .ofNat 2, .ofNat 3, .ofNat 3, .ofNat 3]⟩, ⟨[.ofNat 0, .ofNat 1, .ofNat 2, .ofNat 3, .ofNat 4, .ofNat 1]⟩, ⟨[.ofNat 0, .ofNat 1, .ofNat 2, .ofNat 3, .ofNat 4, .ofNat 2]⟩, ⟨[.ofNat 0, .ofNat 1, .ofNat 2, .ofNat 3, .ofNat 4, .ofNat 3]⟩, ⟨[.ofNat 0, .ofNat 1, .ofNat 2, .ofNat 3, .ofNat 4, .ofNat 4]⟩, ⟨[.ofNat 0, .ofNat 1, .ofNat 2, .ofNat 3, .ofNat 4, .ofNat 5]⟩]
def TL7 : List T0 := [⟨[.ofNat 0, .ofNat 1, .ofNat 1, .ofNat 1, .ofNat 1, .ofNat 1, .ofNat 1]⟩, ⟨[.ofNat 0, .ofNat 1, .ofNat 2, .ofNat 1, .ofNat 1, .ofNat 1, .ofNat 1]⟩, ⟨[.ofNat 0, .ofNat 1, .ofNat 2, .ofNat 1, .ofNat 2, .ofNat 1, .ofNat 1]⟩, ⟨[.ofNat 0, .ofNat 1, .ofNat 2, .ofNat 1, .ofNat 2, .ofNat 1, .ofNat 2]⟩, ⟨[.ofNat 0, .ofNat 1, .ofNat 2, .ofNat 2, .ofNat 1, .ofNat 1, .ofNat 1]⟩, ⟨[.ofNat 0, .ofNat 1, .ofNat 2, .ofNat 2, .ofNat 1, .ofNat 2, .ofNat 1]⟩, ⟨[.ofNat 0, .ofNat 1, .ofNat 2, .ofNat 2, .ofNat 1, .ofNat 2, .ofNat 2]⟩, ⟨[.ofNat 0, .ofNat 1, .ofNat 2, .ofNat 2, .ofNat 2, .ofNat 1, .ofNat 1]⟩, ⟨[.ofNat 0, .ofNat 1, .ofNat 2, .ofNat 2, .ofNat 2, .ofNat 1, .ofNat 2]⟩, ⟨[.ofNat 0, .ofNat 1, .ofNat 2, .ofNat 2, .ofNat 2, .ofNat 2, .ofNat 1]⟩, ⟨[.ofNat 0, .ofNat 1, .ofNat 2, .ofNat 2, .ofNat 2, .ofNat 2, .ofNat 2]⟩, ⟨[.ofNat 0, .ofNat 1, .ofNat 2, .ofNat 3, .ofNat 1, .ofNat 1, .ofNat 1]⟩, ⟨[.ofNat 0, .ofNat 1, .ofNat 2, .ofNat 3, .ofNat 1, .ofNat 2, .ofNat 1]⟩, ⟨[.ofNat 0, .ofNat 1, .ofNat 2, .ofNat 3, .ofNat 1, .ofNat 2, .ofNat 2]⟩, ⟨[.ofNat 0, .ofNat 1, .ofNat 2, .ofNat 3, .ofNat 1, .ofNat 2, .ofNat 3]⟩, ⟨[.ofNat 0, .ofNat 1, .ofNat 2, .ofNat 3, .ofNat 2, .ofNat 1, .ofNat 1]⟩, ⟨[.ofNat 0, .ofNat 1, .ofNat 2, .ofNat 3, .ofNat 2, .ofNat 1, .ofNat 2]⟩, ⟨[.ofNat 0, .ofNat 1, .ofNat 2, .ofNat 3, .ofNat 2, .ofNat 2, .ofNat 1]⟩, ⟨[.ofNat 0, .ofNat 1, .ofNat 2, .ofNat 3, .ofNat 2, .ofNat 2, .ofNat 2]⟩, ⟨[.ofNat 0, .ofNat 1, .ofNat 2, .ofNat 3, .ofNat 2, .ofNat 3, .ofNat 1]⟩, ⟨[.ofNat 0, .ofNat 1, .ofNat 2, .ofNat 3, .ofNat 2, .ofNat 3, .ofNat 2]⟩, ⟨[.ofNat 0, .ofNat 1, .ofNat 2, .ofNat 3, .ofNat 3, .ofNat 1, .ofNat 1]⟩, ⟨[.ofNat 0, .ofNat 1, .ofNat 2, .ofNat 3, .ofNat 3, .ofNat 1, .ofNat 2]⟩, ⟨[.ofNat 0, .ofNat 1, .ofNat 2, .ofNat 3, .ofNat 3, .ofNat 2, .ofNat 1]⟩, ⟨[.ofNat 0, .ofNat 1, .ofNat 2, .ofNat 3, .ofNat 3, .ofNat 2, .ofNat 2]⟩, ⟨[.ofNat 0, .ofNat 1, .ofNat 2, .ofNat 3, .ofNat 3, .ofNat 2, .ofNat 3]⟩, ⟨[.ofNat 0, .ofNat 1, .ofNat 2, .ofNat 3, .ofNat 3, .ofNat 3, .ofNat 1]⟩, ⟨[.ofNat 0, .ofNat 1, .ofNat 2, .ofNat 3, .ofNat 3, .ofNat 3, .ofNat 2]⟩, ⟨[.ofNat 0, .ofNat 1, .ofNat 2, .ofNat 3, .ofNat 3, .ofNat 3, .ofNat 3]⟩, ⟨[.ofNat 0, .ofNat 1, .ofNat 2, .ofNat 3, .ofNat 4, .ofNat 1, .ofNat 1]⟩, ⟨[.ofNat 0, .ofNat 1, .ofNat 2, .ofNat 3, .ofNat 4, .ofNat 1, .ofNat 2]⟩, ⟨[.ofNat 0, .ofNat 1, .ofNat 2, .ofNat 3, .ofNat 4, .ofNat 2, .ofNat 1]⟩, ⟨[.ofNat 0, .ofNat 1, .ofNat 2, .ofNat 3, .ofNat 4, .ofNat 2, .ofNat 2]⟩, ⟨[.ofNat 0, .ofNat 1, .ofNat 2, .ofNat 3, .ofNat 4, .ofNat 2, .ofNat 3]⟩, ⟨[.ofNat 0, .ofNat 1, .ofNat 2, .ofNat 3, .ofNat 4, .ofNat 3, .ofNat 1]⟩, ⟨[.ofNat 0, .ofNat 1, .ofNat 2, .ofNat 3, .ofNat 4, .ofNat 3, .ofNat 2]⟩, ⟨[.ofNat 0, .ofNat 1, .ofNat 2, .ofNat 3, .ofNat 4, .ofNat 3, .ofNat 3]⟩, ⟨[.ofNat 0, .ofNat 1, .ofNat 2, .ofNat 3, .ofNat 4, .ofNat 3, .ofNat 4]⟩, ⟨[.ofNat 0, .ofNat 1, .ofNat 2, .ofNat 3, .ofNat 4, .ofNat 4, .ofNat 1]⟩, ⟨[.ofNat 0, .ofNat 1, .ofNat 2, .ofNat 3, .ofNat 4, .ofNat 4, .ofNat 2]⟩, ⟨[.ofNat 0, .ofNat 1, .ofNat 2, .ofNat 3, .ofNat 4, .ofNat 4, .ofNat 3]⟩, ⟨[.ofNat 0, .ofNat 1, .ofNat 2, .ofNat 3, .ofNat 4, .ofNat 4, .ofNat 4]⟩, ⟨[.ofNat 0, .ofNat 1, .ofNat 2, .ofNat 3, .ofNat 4, .ofNat 5, .ofNat 1]⟩, ⟨[.ofNat 0, .ofNat 1, .ofNat 2, .ofNat 3, .ofNat 4, .ofNat 5, .ofNat 2]⟩, ⟨[.ofNat 0, .ofNat 1, .ofNat 2, .ofNat 3, .ofNat 4, .ofNat 5, .ofNat 3]⟩, ⟨[.ofNat 0, .ofNat 1, .ofNat 2, .ofNat 3, .ofNat 4, .ofNat 5, .ofNat 4]⟩, ⟨[.ofNat 0, .ofNat 1, .ofNat 2, .ofNat 3, .ofNat 4, .ofNat 5, .ofNat 5]⟩, ⟨[.ofNat 0, .ofNat 1, .ofNat 2, .ofNat 3, .ofNat 4, .ofNat 5, .ofNat 6]⟩]
def PL1 : List P0 := [⟨[⟨[.ofNat 0]⟩]⟩]
def PL2 : List P0 := [⟨[⟨[.ofNat 0]⟩, ⟨[.ofNat 0]⟩]⟩, ⟨[⟨[.ofNat 0, .ofNat 1]⟩]⟩]
def PL3 : List P0 := [⟨[⟨[.ofNat 0]⟩, ⟨[.ofNat 0]⟩, ⟨[.ofNat 0]⟩]⟩, ⟨[⟨[.ofNat 0]⟩, ⟨[.ofNat 0, .ofNat 1]⟩]⟩, ⟨[⟨[.ofNat 0, .ofNat 1, .ofNat 1]⟩]⟩, ⟨[⟨[.ofNat 0, .ofNat 1, .ofNat 2]⟩]⟩]
def PL4 : List P0 := [⟨[⟨[.ofNat 0]⟩, ⟨[.ofNat 0]⟩, ⟨[.ofNat 0]⟩, ⟨[.ofNat 0]⟩]⟩, ⟨[⟨[.ofNat 0]⟩, ⟨[.ofNat 0]⟩, ⟨[.ofNat 0, .ofNat 1]⟩]⟩, ⟨[⟨[.ofNat 0]⟩, ⟨[.ofNat 0, .ofNat 1, .ofNat 1]⟩]⟩, ⟨[⟨[.ofNat 0]⟩, ⟨[.ofNat 0, .ofNat 1, .ofNat 2]⟩]⟩, ⟨[⟨[.ofNat 0, .ofNat 1]⟩, ⟨[.ofNat 0, .ofNat 1]⟩]⟩, ⟨[⟨[.ofNat 0, .ofNat 1, .ofNat 1, .ofNat 1]⟩]⟩, ⟨[⟨[.ofNat 0, .ofNat 1, .ofNat 2, .ofNat 1]⟩]⟩, ⟨[⟨[.ofNat 0, .ofNat 1, .ofNat 2, .ofNat 2]⟩]⟩, ⟨[⟨[.ofNat 0, .ofNat 1, .ofNat 2, .ofNat 3]⟩]⟩]
def PL5 : List P0 := [⟨[⟨[.ofNat 0]⟩, ⟨[.ofNat 0]⟩, ⟨[.ofNat 0]⟩, ⟨[.ofNat 0]⟩, ⟨[.ofNat 0]⟩]⟩, ⟨[⟨[.ofNat 0]⟩, ⟨[.ofNat 0]⟩, ⟨[.ofNat 0]⟩, ⟨[.ofNat 0, .ofNat 1]⟩]⟩, ⟨[⟨[.ofNat 0]⟩, ⟨[.ofNat 0]⟩, ⟨[.ofNat 0, .ofNat 1, .ofNat 1]⟩]⟩, ⟨[⟨[.ofNat 0]⟩, ⟨[.ofNat 0]⟩, ⟨[.ofNat 0, .ofNat 1, .ofNat 2]⟩]⟩, ⟨[⟨[.ofNat 0]⟩, ⟨[.ofNat 0, .ofNat 1]⟩, ⟨[.ofNat 0, .ofNat 1]⟩]⟩, ⟨[⟨[.ofNat 0]⟩, ⟨[.ofNat 0, .ofNat 1, .ofNat 1, .ofNat 1]⟩]⟩, ⟨[⟨[.ofNat 0]⟩, ⟨[.ofNat 0, .ofNat 1, .ofNat 2, .ofNat 1]⟩]⟩, ⟨[⟨[.ofNat 0]⟩, ⟨[.ofNat 0, .ofNat 1, .ofNat 2, .ofNat 2]⟩]⟩, ⟨[⟨[.ofNat 0]⟩, ⟨[.ofNat 0, .ofNat 1, .ofNat 2, .ofNat 3]⟩]⟩, ⟨[⟨[.ofNat 0, .ofNat 1]⟩, ⟨[.ofNat 0, .ofNat 1, .ofNat 1]⟩]⟩, ⟨[⟨[.ofNat 0, .ofNat 1]⟩, ⟨[.ofNat 0, .ofNat 1, .ofNat 2]⟩]⟩, ⟨[⟨[.ofNat 0, .ofNat 1, .ofNat 1, .ofNat 1, .ofNat 1]⟩]⟩, ⟨[⟨[.ofNat 0, .ofNat 1, .ofNat 2, .ofNat 1, .ofNat 1]⟩]⟩, ⟨[⟨[.ofNat 0, .ofNat 1, .ofNat 2, .ofNat 1, .ofNat 2]⟩]⟩, ⟨[⟨[.ofNat 0, .ofNat 1, .ofNat 2, .ofNat 2, .ofNat 1]⟩]⟩, ⟨[⟨[.ofNat 0, .ofNat 1, .ofNat 2, .ofNat 2, .ofNat 2]⟩]⟩, ⟨[⟨[.ofNat 0, .ofNat 1, .ofNat 2, .ofNat 3, .ofNat 1]⟩]⟩, ⟨[⟨[.ofNat 0, .ofNat 1, .ofNat 2, .ofNat 3, .ofNat 2]⟩]⟩, ⟨[⟨[.ofNat 0, .ofNat 1, .ofNat 2, .ofNat 3, .ofNat 3]⟩]⟩, ⟨[⟨[.ofNat 0, .ofNat 1, .ofNat 2, .ofNat 3, .ofNat 4]⟩]⟩]
def PL6 : List P0 := [⟨[⟨[.ofNat 0]⟩, ⟨[.ofNat 0]⟩, ⟨[.ofNat 0]⟩, ⟨[.ofNat 0]⟩, ⟨[.ofNat 0]⟩, ⟨[.ofNat 0]⟩]⟩, ⟨[⟨[.ofNat 0]⟩, ⟨[.ofNat 0]⟩, ⟨[.ofNat 0]⟩, ⟨[.ofNat 0]⟩, ⟨[.ofNat 0, .ofNat 1]⟩]⟩, ⟨[⟨[.ofNat 0]⟩, ⟨[.ofNat 0]⟩, ⟨[.ofNat 0]⟩, ⟨[.ofNat 0, .ofNat 1, .ofNat 1]⟩]⟩, ⟨[⟨[.ofNat 0]⟩, ⟨[.ofNat 0]⟩, ⟨[.ofNat 0]⟩, ⟨[.ofNat 0, .ofNat 1, .ofNat 2]⟩]⟩, ⟨[⟨[.ofNat 0]⟩, ⟨[.ofNat 0]⟩, ⟨[.ofNat 0, .ofNat 1]⟩, ⟨[.ofNat 0, .ofNat 1]⟩]⟩, ⟨[⟨[.ofNat 0]⟩, ⟨[.ofNat 0]⟩, ⟨[.ofNat 0, .ofNat 1, .ofNat 1, .ofNat 1]⟩]⟩, ⟨[⟨[.ofNat 0]⟩, ⟨[.ofNat 0]⟩, ⟨[.ofNat 0, .ofNat 1, .ofNat 2, .ofNat 1]⟩]⟩, ⟨[⟨[.ofNat 0]⟩, ⟨[.ofNat 0]⟩, ⟨[.ofNat 0, .ofNat 1, .ofNat 2, .ofNat 2]⟩]⟩, ⟨[⟨[.ofNat 0]⟩, ⟨[.ofNat 0]⟩, ⟨[.ofNat 0, .ofNat 1, .ofNat 2, .ofNat 3]⟩]⟩, ⟨[⟨[.ofNat 0]⟩, ⟨[.ofNat 0, .ofNat 1]⟩, ⟨[.ofNat 0]⟩, ⟨[.ofNat 0, .ofNat 1]⟩]⟩, ⟨[⟨[.ofNat 0]⟩, ⟨[.ofNat 0, .ofNat 1]⟩, ⟨[.ofNat 0, .ofNat 1, .ofNat 1]⟩]⟩, ⟨[⟨[.ofNat 0]⟩, ⟨[.ofNat 0, .ofNat 1]⟩, ⟨[.ofNat 0, .ofNat 1, .ofNat 2]⟩]⟩, ⟨[⟨[.ofNat 0]⟩, ⟨[.ofNat 0, .ofNat 1, .ofNat 1]⟩, ⟨[.ofNat 0, .ofNat 1]⟩]⟩, ⟨[⟨[.ofNat 0]⟩, ⟨[.ofNat 0, .ofNat 1, .ofNat 1, .ofNat 1, .ofNat 1]⟩]⟩, ⟨[⟨[.ofNat 0]⟩, ⟨[.ofNat 0, .ofNat 1, .ofNat 2]⟩, ⟨[.ofNat 0, .ofNat 1]⟩]⟩, ⟨[⟨[.ofNat 0]⟩, ⟨[.ofNat 0, .ofNat 1, .ofNat 2, .ofNat 1, .ofNat 1]⟩]⟩, ⟨[⟨[.ofNat 0]⟩, ⟨[.ofNat 0, .ofNat 1, .ofNat 2, .ofNat 1, .ofNat 2]⟩]⟩, ⟨[⟨[.ofNat 0]⟩, ⟨[.ofNat 0, .ofNat 1, .ofNat 2, .ofNat 2, .ofNat 1]⟩]⟩, ⟨[⟨[.ofNat 0]⟩, ⟨[.ofNat 0, .ofNat 1, .ofNat 2, .ofNat 2, .ofNat 2]⟩]⟩, ⟨[⟨[.ofNat 0]⟩, ⟨[.ofNat 0, .ofNat 1, .ofNat 2, .ofNat 3, .ofNat 1]⟩]⟩, ⟨[⟨[.ofNat 0]⟩, ⟨[.ofNat 0, .ofNat 1, .ofNat 2, .ofNat 3, .ofNat 2]⟩]⟩, ⟨[⟨[.ofNat 0]⟩, ⟨[.ofNat 0, .ofNat 1, .ofNat 2, .ofNat 3, .ofNat 3]⟩]⟩, ⟨[⟨[.ofNat 0]⟩, ⟨[.ofNat 0, .ofNat 1, .ofNat 2, .ofNat 3, .ofNat 4]⟩]⟩, ⟨[⟨[.ofNat 0, .ofNat 1]⟩, ⟨[.ofNat 0, .ofNat 1]⟩, ⟨[.ofNat 0, .ofNat 1]⟩]⟩, ⟨[⟨[.ofNat 0, .ofNat 1]⟩, ⟨[.ofNat 0, .ofNat 1, .ofNat 1, .ofNat 1]⟩]⟩, ⟨[⟨[.ofNat 0, .ofNat 1]⟩, ⟨[.ofNat 0, .ofNat 1, .ofNat 2, .ofNat 1]⟩]⟩, ⟨[⟨[.ofNat 0, .ofNat 1]⟩, ⟨[.ofNat 0, .ofNat 1, .ofNat 2, .ofNat 2]⟩]⟩, ⟨[⟨[.ofNat 0, .ofNat 1]⟩, ⟨[.ofNat 0, .ofNat 1, .ofNat 2, .ofNat 3]⟩]⟩, ⟨[⟨[.ofNat 0, .ofNat 1, .ofNat 1]⟩, ⟨[.ofNat 0, .ofNat 1, .ofNat 1]⟩]⟩, ⟨[⟨[.ofNat 0, .ofNat 1, .ofNat 1]⟩, ⟨[.ofNat 0, .ofNat 1, .ofNat 2]⟩]⟩, ⟨[⟨[.ofNat 0, .ofNat 1, .ofNat 1, .ofNat 1, .ofNat 1, .ofNat 1]⟩]⟩, ⟨[⟨[.ofNat 0, .ofNat 1, .ofNat 2]⟩, ⟨[.ofNat 0, .ofNat 1, .ofNat 2]⟩]⟩, ⟨[⟨[.ofNat 0, .ofNat 1, .ofNat 2, .ofNat 1, .ofNat 1, .ofNat 1]⟩]⟩, ⟨[⟨[.ofNat 0, .ofNat 1, .ofNat 2, .ofNat 1, .ofNat 2, .ofNat 1]⟩]⟩, ⟨[⟨[.ofNat 0, .ofNat 1, .ofNat 2, .ofNat 2, .ofNat 1, .ofNat 1]⟩]⟩, ⟨[⟨[.ofNat 0, .ofNat 1, .ofNat 2, .ofNat 2, .ofNat 1, .ofNat 2]⟩]⟩, ⟨[⟨[.ofNat 0, .ofNat 1, .ofNat 2, .ofNat 2, .ofNat 2, .ofNat 1]⟩]⟩, ⟨[⟨[.ofNat 0, .ofNat 1, .ofNat 2, .ofNat 2, .ofNat 2, .ofNat 2]⟩]⟩, ⟨[⟨[.ofNat 0, .ofNat 1, .ofNat 2, .ofNat 3, .ofNat 1, .ofNat 1]⟩]⟩, ⟨[⟨[.ofNat 0, .ofNat 1, .ofNat 2, .ofNat 3, .ofNat 1, .ofNat 2]⟩]⟩, ⟨[⟨[.ofNat 0, .ofNat 1, .ofNat 2, .ofNat 3, .ofNat 2, .ofNat 1]⟩]⟩, ⟨[⟨[.ofNat 0, .ofNat 1, .ofNat 2, .ofNat 3, .ofNat 2, .ofNat 2]⟩]⟩, ⟨[⟨[.ofNat 0, .ofNat 1, .ofNat 2, .ofNat 3, .ofNat 2, .ofNat 3]⟩]⟩, ⟨[⟨[.ofNat 0, .ofNat 1, .ofNat 2, .ofNat 3, .ofNat 3, .ofNat 1]⟩]⟩, ⟨[⟨[.ofNat 0, .ofNat 1, .ofNat 2, .ofNat 3, .ofNat 3, .ofNat 2]⟩]⟩, ⟨[⟨[.ofNat 0, .ofNat 1, .ofNat 2, .ofNat 3, .ofNat 3, .ofNat 3]⟩]⟩, ⟨[⟨[.ofNat 0, .ofNat 1, .ofNat 2, .ofNat 3, .ofNat 4, .ofNat 1]⟩]⟩, ⟨[⟨[.ofNat 0, .ofNat 1, .ofNat 2, .ofNat 3, .ofNat 4, .ofNat 2]⟩]⟩, ⟨[⟨[.ofNat 0, .ofNat 1, .ofNat 2, .ofNat 3, .ofNat 4, .ofNat 3]⟩]⟩, ⟨[⟨[.ofNat 0, .ofNat 1, .ofNat 2, .ofNat 3, .ofNat 4, .ofNat 4]⟩]⟩, ⟨[⟨[.ofNat 0, .ofNat 1, .ofNat 2, .ofNat 3, .ofNat 4, .ofNat 5]⟩]⟩]
def PL7 : List P0 := [⟨[⟨[.ofNat 0]⟩, ⟨[.ofNat 0]⟩, ⟨[.ofNat 0]⟩, ⟨[.ofNat 0]⟩, ⟨[.ofNat 0]⟩, ⟨[.ofNat 0]⟩, ⟨[.ofNat 0]⟩]⟩, ⟨[⟨[.ofNat 0]⟩, ⟨[.ofNat 0]⟩, ⟨[.ofNat 0]⟩, ⟨[.ofNat 0]⟩, ⟨[.ofNat 0]⟩, ⟨[.ofNat 0, .ofNat 1]⟩]⟩, ⟨[⟨[.ofNat 0]⟩, ⟨[.ofNat 0]⟩, ⟨[.ofNat 0]⟩, ⟨[.ofNat 0]⟩, ⟨[.ofNat 0, .ofNat 1, .ofNat 1]⟩]⟩, ⟨[⟨[.ofNat 0]⟩, ⟨[.ofNat 0]⟩, ⟨[.ofNat 0]⟩, ⟨[.ofNat 0]⟩, ⟨[.ofNat 0, .ofNat 1, .ofNat 2]⟩]⟩, ⟨[⟨[.ofNat 0]⟩, ⟨[.ofNat 0]⟩, ⟨[.ofNat 0]⟩, ⟨[.ofNat 0, .ofNat 1]⟩, ⟨[.ofNat 0, .ofNat 1]⟩]⟩, ⟨[⟨[.ofNat 0]⟩, ⟨[.ofNat 0]⟩, ⟨[.ofNat 0]⟩, ⟨[.ofNat 0, .ofNat 1, .ofNat 1, .ofNat 1]⟩]⟩, ⟨[⟨[.ofNat 0]⟩, ⟨[.ofNat 0]⟩, ⟨[.ofNat 0]⟩, ⟨[.ofNat 0, .ofNat 1, .ofNat 2, .ofNat 1]⟩]⟩, ⟨[⟨[.ofNat 0]⟩, ⟨[.ofNat 0]⟩, ⟨[.ofNat 0]⟩, ⟨[.ofNat 0, .ofNat 1, .ofNat 2, .ofNat 2]⟩]⟩, ⟨[⟨[.ofNat 0]⟩, ⟨[.ofNat 0]⟩, ⟨[.ofNat 0]⟩, ⟨[.ofNat 0, .ofNat 1, .ofNat 2, .ofNat 3]⟩]⟩, ⟨[⟨[.ofNat 0]⟩, ⟨[.ofNat 0]⟩, ⟨[.ofNat 0, .ofNat 1]⟩, ⟨[.ofNat 0]⟩, ⟨[.ofNat 0, .ofNat 1]⟩]⟩, ⟨[⟨[.ofNat 0]⟩, ⟨[.ofNat 0]⟩, ⟨[.ofNat 0, .ofNat 1]⟩, ⟨[.ofNat 0, .ofNat 1, .ofNat 1]⟩]⟩, ⟨[⟨[.ofNat 0]⟩, ⟨[.ofNat 0]⟩, ⟨[.ofNat 0, .ofNat 1]⟩, ⟨[.ofNat 0, .ofNat 1, .ofNat 2]⟩]⟩, ⟨[⟨[.ofNat 0]⟩, ⟨[.ofNat 0]⟩, ⟨[.ofNat 0, .ofNat 1, .ofNat 1]⟩, ⟨[.ofNat 0, .ofNat 1]⟩]⟩, ⟨[⟨[.ofNat 0]⟩, ⟨[.ofNat 0]⟩, ⟨[.ofNat 0, .ofNat 1, .ofNat 1, .ofNat 1, .ofNat 1]⟩]⟩, ⟨[⟨[.ofNat 0]⟩, ⟨[.ofNat 0]⟩, ⟨[.ofNat 0, .ofNat 1, .ofNat 2]⟩, ⟨[.ofNat 0, .ofNat 1]⟩]⟩, ⟨[⟨[.ofNat 0]⟩, ⟨[.ofNat 0]⟩, ⟨[.ofNat 0, .ofNat 1, .ofNat 2, .ofNat 1, .ofNat 1]⟩]⟩, ⟨[⟨[.ofNat 0]⟩, ⟨[.ofNat 0]⟩, ⟨[.ofNat 0, .ofNat 1, .ofNat 2, .ofNat 1, .ofNat 2]⟩]⟩, ⟨[⟨[.ofNat 0]⟩, ⟨[.ofNat 0]⟩, ⟨[.ofNat 0, .ofNat 1, .ofNat 2, .ofNat 2, .ofNat 1]⟩]⟩, ⟨[⟨[.ofNat 0]⟩, ⟨[.ofNat 0]⟩, ⟨[.ofNat 0, .ofNat 1, .ofNat 2, .ofNat 2, .ofNat 2]⟩]⟩, ⟨[⟨[.ofNat 0]⟩, ⟨[.ofNat 0]⟩, ⟨[.ofNat 0, .ofNat 1, .ofNat 2, .ofNat 3, .ofNat 1]⟩]⟩, ⟨[⟨[.ofNat 0]⟩, ⟨[.ofNat 0]⟩, ⟨[.ofNat 0, .ofNat 1, .ofNat 2, .ofNat 3, .ofNat 2]⟩]⟩, ⟨[⟨[.ofNat 0]⟩, ⟨[.ofNat 0]⟩, ⟨[.ofNat 0, .ofNat 1, .ofNat 2, .ofNat 3, .ofNat 3]⟩]⟩, ⟨[⟨[.ofNat 0]⟩, ⟨[.ofNat 0]⟩, ⟨[.ofNat 0, .ofNat 1, .ofNat 2, .ofNat 3, .ofNat 4]⟩]⟩, ⟨[⟨[.ofNat 0]⟩, ⟨[.ofNat 0, .ofNat 1]⟩, ⟨[.ofNat 0]⟩, ⟨[.ofNat 0, .ofNat 1, .ofNat 1]⟩]⟩, ⟨[⟨[.ofNat 0]⟩, ⟨[.ofNat 0, .ofNat 1]⟩, ⟨[.ofNat 0]⟩, ⟨[.ofNat 0, .ofNat 1, .ofNat 2]⟩]⟩, ⟨[⟨[.ofNat 0]⟩, ⟨[.ofNat 0, .ofNat 1]⟩, ⟨[.ofNat 0, .ofNat 1]⟩, ⟨[.ofNat 0, .ofNat 1]⟩]⟩, ⟨[⟨[.ofNat 0]⟩, ⟨[.ofNat 0, .ofNat 1]⟩, ⟨[.ofNat 0, .ofNat 1, .ofNat 1, .ofNat 1]⟩]⟩, ⟨[⟨[.ofNat 0]⟩, ⟨[.ofNat 0, .ofNat 1]⟩, ⟨[.ofNat 0, .ofNat 1, .ofNat 2, .ofNat 1]⟩]⟩, ⟨[⟨[.ofNat 0]⟩, ⟨[.ofNat 0, .ofNat 1]⟩, ⟨[.ofNat 0, .ofNat 1, .ofNat 2, .ofNat 2]⟩]⟩, ⟨[⟨[.ofNat 0]⟩, ⟨[.ofNat 0, .ofNat 1]⟩, ⟨[.ofNat 0, .ofNat 1, .ofNat 2, .ofNat 3]⟩]⟩, ⟨[⟨[.ofNat 0]⟩, ⟨[.ofNat 0, .ofNat 1, .ofNat 1]⟩, ⟨[.ofNat 0, .ofNat 1, .ofNat 1]⟩]⟩, ⟨[⟨[.ofNat 0]⟩, ⟨[.ofNat 0, .ofNat 1, .ofNat 1]⟩, ⟨[.ofNat 0, .ofNat 1, .ofNat 2]⟩]⟩, ⟨[⟨[.ofNat 0]⟩, ⟨[.ofNat 0, .ofNat 1, .ofNat 1, .ofNat 1]⟩, ⟨[.ofNat 0, .ofNat 1]⟩]⟩, ⟨[⟨[.ofNat 0]⟩, ⟨[.ofNat 0, .ofNat 1, .ofNat 1, .ofNat 1, .ofNat 1, .ofNat 1]⟩]⟩, ⟨[⟨[.ofNat 0]⟩, ⟨[.ofNat 0, .ofNat 1, .ofNat 2]⟩, ⟨[.ofNat 0, .ofNat 1, .ofNat 1]⟩]⟩, ⟨[⟨[.ofNat 0]⟩, ⟨[.ofNat 0, .ofNat 1, .ofNat 2]⟩, ⟨[.ofNat 0, .ofNat 1, .ofNat 2]⟩]⟩, ⟨[⟨[.ofNat 0]⟩, ⟨[.ofNat 0, .ofNat 1, .ofNat 2, .ofNat 1]⟩, ⟨[.ofNat 0, .ofNat 1]⟩]⟩, ⟨[⟨[.ofNat 0]⟩, ⟨[.ofNat 0, .ofNat 1, .ofNat 2, .ofNat 1, .ofNat 1, .ofNat 1]⟩]⟩, ⟨[⟨[.ofNat 0]⟩, ⟨[.ofNat 0, .ofNat 1, .ofNat 2, .ofNat 1, .ofNat 2, .ofNat 1]⟩]⟩, ⟨[⟨[.ofNat 0]⟩, ⟨[.ofNat 0, .ofNat 1, .ofNat 2, .ofNat 2]⟩, ⟨[.ofNat 0, .ofNat 1]⟩]⟩, ⟨[⟨[.ofNat 0]⟩, ⟨[.ofNat 0, .ofNat 1, .ofNat 2, .ofNat 2, .ofNat 1, .ofNat 1]⟩]⟩, ⟨[⟨[.ofNat 0]⟩, ⟨[.ofNat 0, .ofNat 1, .ofNat 2, .ofNat 2, .ofNat 1, .ofNat 2]⟩]⟩, ⟨[⟨[.ofNat 0]⟩, ⟨[.ofNat 0, .ofNat 1, .ofNat 2, .ofNat 2, .ofNat 2, .ofNat 1]⟩]⟩, ⟨[⟨[.ofNat 0]⟩, ⟨[.ofNat 0, .ofNat 1, .ofNat 2, .ofNat 2, .ofNat 2, .ofNat 2]⟩]⟩, ⟨[⟨[.ofNat 0]⟩, ⟨[.ofNat 0, .ofNat 1, .ofNat 2, .ofNat 3]⟩, ⟨[.ofNat 0, .ofNat 1]⟩]⟩, ⟨[⟨[.ofNat 0]⟩, ⟨[.ofNat 0, .ofNat 1, .ofNat 2, .ofNat 3, .ofNat 1, .ofNat 1]⟩]⟩, ⟨[⟨[.ofNat 0]⟩, ⟨[.ofNat 0, .ofNat 1, .ofNat 2, .ofNat 3, .ofNat 1, .ofNat 2]⟩]⟩, ⟨[⟨[.ofNat 0]⟩, ⟨[.ofNat 0, .ofNat 1, .ofNat 2, .ofNat 3, .ofNat 2, .ofNat 1]⟩]⟩, ⟨[⟨[.ofNat 0]⟩, ⟨[.ofNat 0, .ofNat 1, .ofNat 2, .ofNat 3, .ofNat 2, .ofNat 2]⟩]⟩, ⟨[⟨[.ofNat 0]⟩, ⟨[.ofNat 0, .ofNat 1, .ofNat 2, .ofNat 3, .ofNat 2, .ofNat 3]⟩]⟩, ⟨[⟨[.ofNat 0]⟩, ⟨[.ofNat 0, .ofNat 1, .ofNat 2, .ofNat 3, .ofNat 3, .ofNat 1]⟩]⟩, ⟨[⟨[.ofNat 0]⟩, ⟨[.ofNat 0, .ofNat 1, .ofNat 2, .ofNat 3, .ofNat 3, .ofNat 2]⟩]⟩, ⟨[⟨[.ofNat 0]⟩, ⟨[.ofNat 0, .ofNat 1, .ofNat 2, .ofNat 3, .ofNat 3, .ofNat 3]⟩]⟩, ⟨[⟨[.ofNat 0]⟩, ⟨[.ofNat 0, .ofNat 1, .ofNat 2, .ofNat 3, .ofNat 4, .ofNat 1]⟩]⟩, ⟨[⟨[.ofNat 0]⟩, ⟨[.ofNat 0, .ofNat 1, .ofNat 2, .ofNat 3, .ofNat 4, .ofNat 2]⟩]⟩, ⟨[⟨[.ofNat 0]⟩, ⟨[.ofNat 0, .ofNat 1, .ofNat 2, .ofNat 3, .ofNat 4, .ofNat 3]⟩]⟩, ⟨[⟨[.ofNat 0]⟩, ⟨[.ofNat 0, .ofNat 1, .ofNat 2, .ofNat 3, .ofNat 4, .ofNat 4]⟩]⟩, ⟨[⟨[.ofNat 0]⟩, ⟨[.ofNat 0, .ofNat 1, .ofNat 2, .ofNat 3, .ofNat 4, .ofNat 5]⟩]⟩, ⟨[⟨[.ofNat 0, .ofNat 1]⟩, ⟨[.ofNat 0, .ofNat 1]⟩, ⟨[.ofNat 0, .ofNat 1, .ofNat 1]⟩]⟩, ⟨[⟨[.ofNat 0, .ofNat 1]⟩, ⟨[.ofNat 0, .ofNat 1]⟩, ⟨[.ofNat 0, .ofNat 1, .ofNat 2]⟩]⟩, ⟨[⟨[.ofNat 0, .ofNat 1]⟩, ⟨[.ofNat 0, .ofNat 1, .ofNat 1, .ofNat 1, .ofNat 1]⟩]⟩, ⟨[⟨[.ofNat 0, .ofNat 1]⟩, ⟨[.ofNat 0, .ofNat 1, .ofNat 2, .ofNat 1, .ofNat 1]⟩]⟩, ⟨[⟨[.ofNat 0, .ofNat 1]⟩, ⟨[.ofNat 0, .ofNat 1, .ofNat 2, .ofNat 1, .ofNat 2]⟩]⟩, ⟨[⟨[.ofNat 0, .ofNat 1]⟩, ⟨[.ofNat 0, .ofNat 1, .ofNat 2, .ofNat 2, .ofNat 1]⟩]⟩, ⟨[⟨[.ofNat 0, .ofNat 1]⟩, ⟨[.ofNat 0, .ofNat 1, .ofNat 2, .ofNat 2, .ofNat 2]⟩]⟩, ⟨[⟨[.ofNat 0, .ofNat 1]⟩, ⟨[.ofNat 0, .ofNat 1, .ofNat 2, .ofNat 3, .ofNat 1]⟩]⟩, ⟨[⟨[.ofNat 0, .ofNat 1]⟩, ⟨[.ofNat 0, .ofNat 1, .ofNat 2, .ofNat 3, .ofNat 2]⟩]⟩, ⟨[⟨[.ofNat 0, .ofNat 1]⟩, ⟨[.ofNat 0, .ofNat 1, .ofNat 2, .ofNat 3, .ofNat 3]⟩]⟩, ⟨[⟨[.ofNat 0, .ofNat 1]⟩, ⟨[.ofNat 0, .ofNat 1, .ofNat 2, .ofNat 3, .ofNat 4]⟩]⟩, ⟨[⟨[.ofNat 0, .ofNat 1, .ofNat 1]⟩, ⟨[.ofNat 0, .ofNat 1, .ofNat 1, .ofNat 1]⟩]⟩, ⟨[⟨[.ofNat 0, .ofNat 1, .ofNat 1]⟩, ⟨[.ofNat 0, .ofNat 1, .ofNat 2, .ofNat 1]⟩]⟩, ⟨[⟨[.ofNat 0, .ofNat 1, .ofNat 1]⟩, ⟨[.ofNat 0, .ofNat 1, .ofNat 2, .ofNat 2]⟩]⟩, ⟨[⟨[.ofNat 0, .ofNat 1, .ofNat 1]⟩, ⟨[.ofNat 0, .ofNat 1, .ofNat 2, .ofNat 3]⟩]⟩, ⟨[⟨[.ofNat 0, .ofNat 1, .ofNat 1, .ofNat 1]⟩, ⟨[.ofNat 0, .ofNat 1, .ofNat 2]⟩]⟩, ⟨[⟨[.ofNat 0, .ofNat 1, .ofNat 1, .ofNat 1, .ofNat 1, .ofNat 1, .ofNat 1]⟩]⟩, ⟨[⟨[.ofNat 0, .ofNat 1, .ofNat 2]⟩, ⟨[.ofNat 0, .ofNat 1, .ofNat 2, .ofNat 1]⟩]⟩, ⟨[⟨[.ofNat 0, .ofNat 1, .ofNat 2]⟩, ⟨[.ofNat 0, .ofNat 1, .ofNat 2, .ofNat 2]⟩]⟩, ⟨[⟨[.ofNat 0, .ofNat 1, .ofNat 2]⟩, ⟨[.ofNat 0, .ofNat 1, .ofNat 2, .ofNat 3]⟩]⟩, ⟨[⟨[.ofNat 0, .ofNat 1, .ofNat 2, .ofNat 1, .ofNat 1, .ofNat 1, .ofNat 1]⟩]⟩, ⟨[⟨[.ofNat 0, .ofNat 1, .ofNat 2, .ofNat 1, .ofNat 2, .ofNat 1, .ofNat 1]⟩]⟩, ⟨[⟨[.ofNat 0, .ofNat 1, .ofNat 2, .ofNat 1, .ofNat 2, .ofNat 1, .ofNat 2]⟩]⟩, ⟨[⟨[.ofNat 0, .ofNat 1, .ofNat 2, .ofNat 2, .ofNat 1, .ofNat 1, .ofNat 1]⟩]⟩, ⟨[⟨[.ofNat 0, .ofNat 1, .ofNat 2, .ofNat 2, .ofNat 1, .ofNat 2, .ofNat 1]⟩]⟩, ⟨[⟨[.ofNat 0, .ofNat 1, .ofNat 2, .ofNat 2, .ofNat 1, .ofNat 2, .ofNat 2]⟩]⟩, ⟨[⟨[.ofNat 0, .ofNat 1, .ofNat 2, .ofNat 2, .ofNat 2, .ofNat 1, .ofNat 1]⟩]⟩, ⟨[⟨[.ofNat 0, .ofNat 1, .ofNat 2, .ofNat 2, .ofNat 2, .ofNat 1, .ofNat 2]⟩]⟩, ⟨[⟨[.ofNat 0, .ofNat 1, .ofNat 2, .ofNat 2, .ofNat 2, .ofNat 2, .ofNat 1]⟩]⟩, ⟨[⟨[.ofNat 0, .ofNat 1, .ofNat 2, .ofNat 2, .ofNat 2, .ofNat 2, .ofNat 2]⟩]⟩, ⟨[⟨[.ofNat 0, .ofNat 1, .ofNat 2, .ofNat 3, .ofNat 1, .ofNat 1, .ofNat 1]⟩]⟩, ⟨[⟨[.ofNat 0, .ofNat 1, .ofNat 2, .ofNat 3, .ofNat 1, .ofNat 2, .ofNat 1]⟩]⟩, ⟨[⟨[.ofNat 0, .ofNat 1, .ofNat 2, .ofNat 3, .ofNat 1, .ofNat 2, .ofNat 2]⟩]⟩, ⟨[⟨[.ofNat 0, .ofNat 1, .ofNat 2, .ofNat 3, .ofNat 1, .ofNat 2, .ofNat 3]⟩]⟩, ⟨[⟨[.ofNat 0, .ofNat 1, .ofNat 2, .ofNat 3, .ofNat 2, .ofNat 1, .ofNat 1]⟩]⟩, ⟨[⟨[.ofNat 0, .ofNat 1, .ofNat 2, .ofNat 3, .ofNat 2, .ofNat 1, .ofNat 2]⟩]⟩, ⟨[⟨[.ofNat 0, .ofNat 1, .ofNat 2, .ofNat 3, .ofNat 2, .ofNat 2, .ofNat 1]⟩]⟩, ⟨[⟨[.ofNat 0, .ofNat 1, .ofNat 2, .ofNat 3, .ofNat 2, .ofNat 2, .ofNat 2]⟩]⟩, ⟨[⟨[.ofNat 0, .ofNat 1, .ofNat 2, .ofNat 3, .ofNat 2, .ofNat 3, .ofNat 1]⟩]⟩, ⟨[⟨[.ofNat 0, .ofNat 1, .ofNat 2, .ofNat 3, .ofNat 2, .ofNat 3, .ofNat 2]⟩]⟩, ⟨[⟨[.ofNat 0, .ofNat 1, .ofNat 2, .ofNat 3, .ofNat 3, .ofNat 1, .ofNat 1]⟩]⟩, ⟨[⟨[.ofNat 0, .ofNat 1, .ofNat 2, .ofNat 3, .ofNat 3, .ofNat 1, .ofNat 2]⟩]⟩, ⟨[⟨[.ofNat 0, .ofNat 1, .ofNat 2, .ofNat 3, .ofNat 3, .ofNat 2, .ofNat 1]⟩]⟩, ⟨[⟨[.ofNat 0, .ofNat 1, .ofNat 2, .ofNat 3, .ofNat 3, .ofNat 2, .ofNat 2]⟩]⟩, ⟨[⟨[.ofNat 0, .ofNat 1, .ofNat 2, .ofNat 3, .ofNat 3, .ofNat 2, .ofNat 3]⟩]⟩, ⟨[⟨[.ofNat 0, .ofNat 1, .ofNat 2, .ofNat 3, .ofNat 3, .ofNat 3, .ofNat 1]⟩]⟩, ⟨[⟨[.ofNat 0, .ofNat 1, .ofNat 2, .ofNat 3, .ofNat 3, .ofNat 3, .ofNat 2]⟩]⟩, ⟨[⟨[.ofNat 0, .ofNat 1, .ofNat 2, .ofNat 3, .ofNat 3, .ofNat 3, .ofNat 3]⟩]⟩, ⟨[⟨[.ofNat 0, .ofNat 1, .ofNat 2, .ofNat 3, .ofNat 4, .ofNat 1, .ofNat 1]⟩]⟩, ⟨[⟨[.ofNat 0, .ofNat 1, .ofNat 2, .ofNat 3, .ofNat 4, .ofNat 1, .ofNat 2]⟩]⟩, ⟨[⟨[.ofNat 0, .ofNat 1, .ofNat 2, .ofNat 3, .ofNat 4, .ofNat 2, .ofNat 1]⟩]⟩, ⟨[⟨[.ofNat 0, .ofNat 1, .ofNat 2, .ofNat 3, .ofNat 4, .ofNat 2, .ofNat 2]⟩]⟩, ⟨[⟨[.ofNat 0, .ofNat 1, .ofNat 2, .ofNat 3, .ofNat 4, .ofNat 2, .ofNat 3]⟩]⟩, ⟨[⟨[.ofNat 0, .ofNat 1, .ofNat 2, .ofNat 3, .ofNat 4, .ofNat 3, .ofNat 1]⟩]⟩, ⟨[⟨[.ofNat 0, .ofNat 1, .ofNat 2, .ofNat 3, .ofNat 4, .ofNat 3, .ofNat 2]⟩]⟩, ⟨[⟨[.ofNat 0, .ofNat 1, .ofNat 2, .ofNat 3, .ofNat 4, .ofNat 3, .ofNat 3]⟩]⟩, ⟨[⟨[.ofNat 0, .ofNat 1, .ofNat 2, .ofNat 3, .ofNat 4, .ofNat 3, .ofNat 4]⟩]⟩, ⟨[⟨[.ofNat 0, .ofNat 1, .ofNat 2, .ofNat 3, .ofNat 4, .ofNat 4, .ofNat 1]⟩]⟩, ⟨[⟨[.ofNat 0, .ofNat 1, .ofNat 2, .ofNat 3, .ofNat 4, .ofNat 4, .ofNat 2]⟩]⟩, ⟨[⟨[.ofNat 0, .ofNat 1, .ofNat 2, .ofNat 3, .ofNat 4, .ofNat 4, .ofNat 3]⟩]⟩, ⟨[⟨[.ofNat 0, .ofNat 1, .ofNat 2, .ofNat 3, .ofNat 4, .ofNat 4, .ofNat 4]⟩]⟩, ⟨[⟨[.ofNat 0, .ofNat 1, .ofNat 2, .ofNat 3, .ofNat 4, .ofNat 5, .ofNat 1]⟩]⟩, ⟨[⟨[.ofNat 0, .ofNat 1, .ofNat 2, .ofNat 3, .ofNat 4, .ofNat 5, .ofNat 2]⟩]⟩, ⟨[⟨[.ofNat 0, .ofNat 1, .ofNat 2, .ofNat 3, .ofNat 4, .ofNat 5, .ofNat 3]⟩]⟩, ⟨[⟨[.ofNat 0, .ofNat 1, .ofNat 2, .ofNat 3, .ofNat 4, .ofNat 5, .ofNat 4]⟩]⟩, ⟨[⟨[.ofNat 0, .ofNat 1, .ofNat 2, .ofNat 3, .ofNat 4, .ofNat 5, .ofNat 5]⟩]⟩, ⟨[⟨[.ofNat 0, .ofNat 1, .ofNat 2, .ofNat 3, .ofNat 4, .ofNat 5, .ofNat 6]⟩]⟩]
def TL (k : Nat) : List T0 := match k with
  | 1 => TL1
  | 2 => TL2
  | 3 => TL3
  | 4 => TL4
  | 5 => TL5
  | 6 => TL6
  | 7 => TL7
  | _ => []
def PL (k : Nat) : List P0 := match k with
  | 1 => PL1
  | 2 => PL2
  | 3 => PL3
  | 4 => PL4
  | 5 => PL5
  | 6 => PL6
  | 7 => PL7
  | _ => []
def trT (k : Int) : Option (List T0) := if 1 ≤ k ∧ k ≤ 7 then some (TL k.toNat) else none
def pcT (k : Int) : Option (List P0) := if 1 ≤ k ∧ k ≤ 7 then some (PL k.toNat) else none
end Oa
set_option Elab.async false
set_option linter.all false
set_option maxRecDepth 100000
set_option maxHeartbeats 1000000
/-! The mirrors by tables. -/
namespace Oa
open PySem.W (DatumOrd)
theorem foldO_congr {σ α : Type} {f g : σ → α → Option σ} : ∀ {xs : List α} {s : σ}, (∀ x ∈ xs, ∀ s, f s x = g s x) → foldO f s xs = foldO g s xs
  | [], s, _ => rfl
  | x :: xs, s, h => by
    unfold foldO
    rw [h x (List.mem_cons_self ..)]
    cases g s x with
    | none => rfl
    | some t => exact foldO_congr fun y hy => h y (List.mem_cons_of_mem _ hy)
def g_pieces (tr : Int → Option (List T0)) (n : Int) : Option (List P0) := do
  let _ ← ck (small n)
  let trees ← foldO (fun trees size => do
    let ts ← tr size
    let _ ← ck (few ts)
    extO trees (ts.map fun t => (size, t))) [] (rng 1 (n + 1))
  let found ← foldO (fun found ring => do
    let rows ← m_rowsOf 9 trees ring n
    foldO (fun found row => do
      let _ ← ck (few found && few row.items && decide (row.items.length < 100000))
      some (putD found (m_turned row) true)) found rows) ([] : List (P0 × Bool)) (rng 1 (n + 1))
  let _ ← ck (few found)
  sortO DatumOrd.lt (found.map (·.1))
theorem pieces_g (tr : Int → Option (List T0)) (n : Int) (h : ∀ k ∈ rng 1 (n + 1), m_treesOf k = tr k) : m_piecesOf n = g_pieces tr n := by
  unfold m_piecesOf g_pieces
  rw [foldO_congr (g := fun trees size => do
    let ts ← tr size
    let _ ← ck (few ts)
    extO trees (ts.map fun t => (size, t))) (fun x hx s => by rw [h x hx])]
def g_rows (pc : Int → Option (List P0)) (n : Int) : Option (List R0) := do
  let _ ← ck (small n)
  let pieces ← foldO (fun pieces size => do
    let ps ← pc size
    extO pieces ps) [] (rng 1 (n + 1))
  let s ← sortO DatumOrd.lt pieces
  let _ ← ck (s.all fun p => few p.items)
  let ls ← m_lots 9 (s.reverse.map fun p => (m_size p, p)) n
  sortO DatumOrd.lt ls
theorem rows_g (pc : Int → Option (List P0)) (n : Int) (h : ∀ k ∈ rng 1 (n + 1), m_piecesOf k = pc k) : m_rowsOfPieces n = g_rows pc n := by
  unfold m_rowsOfPieces g_rows
  rw [foldO_congr (g := fun pieces size => do
    let ps ← pc size
    extO pieces ps) (fun x hx s => by rw [h x hx])]
def g_testsTo (pc : Int → Option (List P0)) (n : Int) : Option (List P0) := if 0 ≤ n ∧ n ≤ 7 then foldO (fun found size => do
    let ps ← pc size
    extO found ps) [] (rng 1 (n + 1)) else none
theorem testsTo_g (pc : Int → Option (List P0)) (n : Int) (h : ∀ k ∈ rng 1 (n + 1), m_piecesOf k = pc k) : m_testsTo n = g_testsTo pc n := by
  unfold m_testsTo g_testsTo
  rw [foldO_congr (g := fun found size => do
    let ps ← pc size
    extO found ps) (fun x hx s => by rw [h x hx])]
def g_lawTests (pc : Int → Option (List P0)) (places : Int) : Option (List P0) := do
  let ts ← g_testsTo pc places
  let _ ← ck (few ts && ts.all fun t => few t.items)
  some (ts.filter fun t => decide (m_size t = places))
def g_law1 (pc : Int → Option (List P0)) (n : Int) (told : List Kvs) : Option (List (FTup P0)) := do
  let _ ← ck (few told)
  let _ ← foldO (fun (_ : Unit) h => m_isHeap h n) () told
  let rows ← mapO m_fall told
  let _ ← ck (((rows.zip (rows.drop 1)).map fun p => DatumOrd.lt p.1 p.2).all id)
  let many ← m_many n
  let _ ← ck (decide (many = (rows.length : Int)))
  let _ ← (if n < 5 then do
    let a ← m_allRows n
    ck (decide (rows = a)) else some ())
  let ob ← foldO (fun (s : Int × Int) k => do
    let a ← mulO s.1 (k + 1)
    let b ← mulO s.2 n
    some (a, b)) (1, 1) (rng 0 n)
  let ss ← mapO (fun r => do
    let s ← m_selves r
    divO ob.1 s) rows
  let _ ← ck (decide (ss.sum = ob.2))
  let _ ← (if 0 < n then do
    let t ← g_lawTests pc n
    let fs ← mapO (fun (r : FTup P0) => getI r.items 0) (rows.filter fun r => decide ((r.items.length : Int) = 1))
    ck (decide (fs = t)) else some ())
  some rows
theorem law1_g (pc : Int → Option (List P0)) (n : Int) (told : List Kvs) (h : ∀ k ∈ rng 1 (n + 1), m_piecesOf k = pc k) : m_law1 n told = g_law1 pc n told := by
  have e : m_lawTests n = g_lawTests pc n := by
    unfold m_lawTests g_lawTests
    rw [testsTo_g pc n h]
  unfold m_law1 g_law1
  rw [e]
theorem trees_at : ∀ k ∈ rng 1 8, m_treesOf k = trT k := by decide +kernel
theorem rng_sub {n k : Int} (h : n ≤ 7) (hk : k ∈ rng 1 (n + 1)) : k ∈ rng 1 8 := by
  rw [rng_mem] at hk ⊢
  omega
theorem pieces_at : ∀ k ∈ rng 1 8, m_piecesOf k = pcT k := by
  have h : ∀ k ∈ rng 1 8, g_pieces trT k = pcT k := by decide +kernel
  intro k hk
  have hk7 := (rng_mem.mp hk).2
  rw [pieces_g trT k (fun j hj => trees_at j (rng_sub (by omega) hj))]
  exact h k hk
end Oa
set_option Elab.async false
set_option linter.all false
set_option maxRecDepth 100000
set_option maxHeartbeats 1000000
/-! The law's checks at 0 to 7 places. -/
namespace Oa
open PySem.W (DatumOrd)
def m_heapsR (R : List R0) : Option (List Kvs) := foldO (fun found row => do
    let h ← m_count row
    appO found h) [] R
def fts (R : List R0) : List (FTup P0) := R.map fun r => ⟨r.items⟩
def chk (n : Int) : Bool := match g_rows pcT n with
  | none => false
  | some R => match m_heapsR R with
    | none => false
    | some hs => match g_law1 pcT n hs with
      | none => false
      | some rows => decide (rows = fts R) && !hs.isEmpty
theorem chk0 : chk 0 = true := by decide +kernel
theorem chk1 : chk 1 = true := by decide +kernel
theorem chk2 : chk 2 = true := by decide +kernel
theorem chk3 : chk 3 = true := by decide +kernel
theorem chk4 : chk 4 = true := by decide +kernel
theorem chk5 : chk 5 = true := by decide +kernel
theorem chk6 : chk 6 = true := by decide +kernel
theorem chk7 : chk 7 = true := by decide +kernel
end Oa
set_option Elab.async false
set_option linter.all false
set_option maxRecDepth 100000
set_option maxHeartbeats 1000000
/-! Plain: the lists of lots and of rows are whole. -/
namespace Oa
theorem bs' {α β : Type} {o : Option α} {f : α → Option β} {z : β} (h : (o >>= f) = some z) : ∃ a, o = some a ∧ f a = some z := by
  cases o with
  | none => cases h
  | some a => exact ⟨a, rfl, h⟩
theorem if_t' {α : Type} {c : Prop} [Decidable c] {a b : α} (h : (if c then some a else none) = some b) : c ∧ a = b := by
  split at h
  · exact ⟨by assumption, Option.some.inj h⟩
  · cases h
theorem ext' {α : Type} {xs ys zs : List α} (h : extO xs ys = some zs) : xs ++ ys = zs := (if_t' h).2
/-- what is in an accumulator stays -/
theorem foldO_grow {α β : Type} {f : List β → α → Option (List β)} (grow : ∀ acc x acc2, f acc x = some acc2 → ∀ y ∈ acc, y ∈ acc2) : ∀ {xs : List α} {a0 L : List β}, foldO f a0 xs = some L → ∀ y ∈ a0, y ∈ L
  | [], a0, L, h, y, hy => by
    cases h
    exact hy
  | x :: xs, a0, L, h, y, hy => by
    unfold foldO at h
    cases q : f a0 x with
    | none => rw [q] at h; cases h
    | some t =>
      rw [q] at h
      exact foldO_grow grow h y (grow _ _ _ q y hy)
theorem foldO_has {α β : Type} {f : List β → α → Option (List β)} (grow : ∀ acc x acc2, f acc x = some acc2 → ∀ y ∈ acc, y ∈ acc2) : ∀ {xs : List α} {a0 L : List β}, foldO f a0 xs = some L → ∀ x ∈ xs, ∃ acc acc2, f acc x = some acc2 ∧ ∀ y ∈ acc2, y ∈ L
  | [], a0, L, h, x, hx => by simp at hx
  | z :: xs, a0, L, h, x, hx => by
    unfold foldO at h
    cases q : f a0 z with
    | none => rw [q] at h; cases h
    | some t =>
      rw [q] at h
      rcases List.mem_cons.mp hx with e | hx
      · subst e
        exact ⟨a0, t, q, fun y hy => foldO_grow grow h y hy⟩
      · exact foldO_has grow h x hx
inductive Sub {α : Type} : List (Int × α) → Int → List α → Prop
  | nil (things : List (Int × α)) : Sub things 0 []
  | cons {things : List (Int × α)} {n s : Int} {i : Nat} {x : α} {xs : List α} : things[i]? = some (s, x) → s ≤ n → Sub (things.drop i) (n - s) xs → Sub things n (x :: xs)
theorem enum_mem {α : Type} {xs : List α} {i : Nat} {x : α} (h : xs[i]? = some x) : (((i : Nat) : Int), x) ∈ enumI xs := by
  unfold enumI
  have hi := (List.getElem?_eq_some_iff.mp h).1
  refine List.mem_of_getElem? (i := i) ?_
  rw [List.getElem?_zipWith, h, List.getElem?_eq_getElem (by rw [List.length_range]; exact hi), List.getElem_range]
theorem lots_mem {α : Type} : ∀ {xs : List α} {k : Nat} {things : List (Int × α)} {n : Int} {L : List (Tup α)}, (∀ p ∈ things, 1 ≤ p.1) → m_lots k things n = some L → Sub things n xs → PySem.W.Tup.mk xs ∈ L := by
  intro xs
  induction xs with
  | nil =>
    intro k things n L hp h hs
    cases k with
    | zero => cases h
    | succ k =>
      cases hs
      unfold m_lots at h
      rw [if_pos rfl] at h
      cases h
      exact List.mem_singleton.mpr rfl
  | cons x xs ih =>
    intro k things n L hp h hs
    cases k with
    | zero => cases h
    | succ k =>
      cases hs with
      | @cons _ _ s i _ _ h1 h2 h3 =>
        have hs1 := hp (s, x) (List.mem_of_getElem? h1)
        have hs1 : 1 ≤ s := hs1
        unfold m_lots at h
        rw [if_neg (by omega)] at h
        obtain ⟨acc, acc2, q1, q2⟩ := foldO_has (fun acc p acc2 hq y hy => by
          split at hq
          · obtain ⟨rest, _, hq1⟩ := bs' hq
            obtain ⟨_, _, hq2⟩ := bs' hq1
            rw [← ext' hq2]
            exact List.mem_append_left _ hy
          · cases hq
            exact hy) h _ (enum_mem h1)
        dsimp only at q1
        rw [if_pos h2] at q1
        obtain ⟨rest, r1, q3⟩ := bs' q1
        obtain ⟨_, _, q4⟩ := bs' q3
        have e := ext' q4
        rw [Int.toNat_natCast] at r1
        have hm := ih (fun p hp' => hp p (List.mem_of_mem_drop hp')) r1 h3
        refine q2 _ ?_
        rw [← e]
        exact List.mem_append_right _ (List.mem_map.mpr ⟨_, hm, rfl⟩)
theorem sum_nn {α : Type} {sz : α → Int} : ∀ {xs : List α}, (∀ x ∈ xs, 1 ≤ sz x) → (xs.length : Int) ≤ (xs.map sz).sum
  | [], _ => by simp
  | x :: xs, h => by
    have := sum_nn (sz := sz) fun y hy => h y (List.mem_cons_of_mem _ hy)
    have h1 := h x (List.mem_cons_self ..)
    rw [List.map_cons, List.sum_cons, List.length_cons]
    omega
theorem sub_of {α : Type} {lt : α → α → Bool} (sz : α → Int) : ∀ {xs ds : List α} {n : Int}, ds.Pairwise (fun a b => lt b a = true) → xs.Pairwise (fun a b => lt a b = false) → (∀ x ∈ xs, x ∈ ds) → (∀ x ∈ xs, 1 ≤ sz x) → (xs.map sz).sum = n → Sub (ds.map fun x => (sz x, x)) n xs := by
  intro xs
  induction xs with
  | nil =>
    intro ds n _ _ _ _ h
    have e : n = 0 := by simpa using h.symm
    subst e
    exact .nil _
  | cons x xs ih =>
    intro ds n hd hx hm hs hn
    obtain ⟨i, hi, e⟩ := List.getElem_of_mem (hm x (List.mem_cons_self ..))
    obtain ⟨x1, x2⟩ := List.pairwise_cons.mp hx
    have hs' : ∀ y ∈ xs, 1 ≤ sz y := fun y hy => hs y (List.mem_cons_of_mem _ hy)
    have nn := sum_nn hs'
    rw [List.map_cons, List.sum_cons] at hn
    refine .cons (i := i) (s := sz x) (by rw [List.getElem?_map, List.getElem?_eq_getElem hi, e] <;> rfl) (by omega) ?_
    rw [← List.map_drop]
    refine ih (hd.sublist (List.drop_sublist _ _)) x2 (fun y hy => ?_) hs' (by omega)
    obtain ⟨j, hj, e2⟩ := List.getElem_of_mem (hm y (List.mem_cons_of_mem _ hy))
    by_cases hji : j < i
    · have q := (List.pairwise_iff_getElem.mp hd) j i hj hi hji
      rw [e, e2, x1 y hy] at q
      cases q
    · rw [← e2]
      refine List.mem_of_getElem? (i := j - i) ?_
      rw [List.getElem?_drop, show i + (j - i) = j by omega]
      exact List.getElem?_eq_getElem hj
theorem rowsOf_mem {sz : T0 → Int} : ∀ {xs : List T0} {k : Nat} {trees : List (Int × T0)} {ring n : Int} {L : List P0}, m_rowsOf k trees ring n = some L → ring = (xs.length : Int) → (∀ x ∈ xs, (sz x, x) ∈ trees) → (∀ x ∈ xs, 1 ≤ sz x) → (xs.map sz).sum = n → PySem.W.Tup.mk xs ∈ L := by
  intro xs
  induction xs with
  | nil =>
    intro k trees ring n L h hr _ _ hn
    cases k with
    | zero => cases h
    | succ k =>
      have e : n = 0 := by simpa using hn.symm
      unfold m_rowsOf at h
      rw [if_pos (by simpa using hr), if_pos e] at h
      cases h
      exact List.mem_singleton.mpr rfl
  | cons x xs ih =>
    intro k trees ring n L h hr hm hs hn
    cases k with
    | zero => cases h
    | succ k =>
      have hs' : ∀ y ∈ xs, 1 ≤ sz y := fun y hy => hs y (List.mem_cons_of_mem _ hy)
      have nn := sum_nn hs'
      rw [List.map_cons, List.sum_cons] at hn
      rw [List.length_cons] at hr
      unfold m_rowsOf at h
      rw [if_neg (by omega)] at h
      obtain ⟨acc, acc2, q1, q2⟩ := foldO_has (fun acc p acc2 hq y hy => by
        split at hq
        · obtain ⟨rest, _, hq1⟩ := bs' hq
          obtain ⟨_, _, hq2⟩ := bs' hq1
          rw [← ext' hq2]
          exact List.mem_append_left _ hy
        · cases hq
          exact hy) h _ (hm x (List.mem_cons_self ..))
      dsimp only at q1
      rw [if_pos (by omega)] at q1
      obtain ⟨rest, r1, q3⟩ := bs' q1
      obtain ⟨_, _, q4⟩ := bs' q3
      have hmm := ih r1 (by omega) (fun y hy => hm y (List.mem_cons_of_mem _ hy)) hs' (by omega)
      refine q2 _ ?_
      rw [← ext' q4]
      exact List.mem_append_right _ (List.mem_map.mpr ⟨_, hmm, rfl⟩)
/-- sorted and turned round: strictly falling, if no item stands twice -/
theorem fall_strict {α : Type} {lt : α → α → Bool} (O : Sto lt) {l : List α} (h : l.Nodup) : (isort lt l).reverse.Pairwise fun a b => lt b a = true := by
  rw [List.pairwise_reverse]
  have h1 := isort_up O l
  have h2 : (isort lt l).Nodup := (isort_perm l).nodup_iff.mpr h
  refine (h1.and h2).imp fun {a b} ⟨q, n⟩ => ?_
  rcases O.tri a b with t | t | t
  · exact t
  · exact absurd t n
  · rw [t] at q
    cases q
theorem fall_weak {α : Type} {lt : α → α → Bool} (O : Sto lt) (l : List α) : (isort lt l).reverse.Pairwise fun a b => lt a b = false := by
  rw [List.pairwise_reverse]
  exact isort_up O l
end Oa
set_option Elab.async false
set_option linter.all false
set_option maxRecDepth 100000
set_option maxHeartbeats 1000000
/-! Plain: the tables of trees and pieces are whole. -/
namespace Oa
open PySem.W (DatumOrd)
theorem sto0' : Sto (DatumOrd.lt : T0 → T0 → Bool) := sto_tup sto_int
theorem sto1' : Sto (DatumOrd.lt : P0 → P0 → Bool) := sto_tup sto0'
theorem sto2' : Sto (DatumOrd.lt : R0 → R0 → Bool) := sto_tup sto1'
abbrev tz (t : T0) : Int := (t.items.length : Int)
/-- all trees of at most m places -/
def allT (m : Nat) : List T0 := (List.range m).flatMap fun i => TL (i + 1)
theorem allT_mem {m k : Nat} {t : T0} (h : t ∈ TL k) (h1 : 1 ≤ k) (h2 : k ≤ m) : t ∈ allT m := List.mem_flatMap.mpr ⟨k - 1, List.mem_range.mpr (by omega), by rw [show k - 1 + 1 = k by omega]; exact h⟩
def fallT' (m : Nat) : List T0 := (isort DatumOrd.lt (allT m)).reverse
def rowF (l : List T0) : Option T0 := match foldO (fun acc (r : T0) => extO acc (r.items.map (· + 1))) [0] l with
  | none => none
  | some f => some ⟨f⟩
def chkT (k : Nat) : Bool := match m_lots 9 ((fallT' (k - 1)).map fun t => (tz t, t)) ((k : Int) - 1) with
  | none => false
  | some L => L.all fun r => match rowF r.items with
    | none => false
    | some t => decide (t ∈ TL k) && decide (t.items.length = k)
theorem chkT_all : ∀ k ∈ [1, 2, 3, 4, 5, 6, 7], chkT k = true := by decide +kernel
theorem nodupT : ∀ m ∈ [0, 1, 2, 3, 4, 5, 6], (allT m).Nodup := by decide +kernel
theorem TL_len : ∀ k ∈ [1, 2, 3, 4, 5, 6, 7], ∀ t ∈ TL k, t.items.length = k := by decide +kernel
theorem in17 {k : Nat} (h1 : 1 ≤ k) (h7 : k ≤ 7) : k ∈ [1, 2, 3, 4, 5, 6, 7] := by
  simp only [List.mem_cons, List.not_mem_nil, or_false]
  omega
theorem in06 {k : Nat} (h7 : k ≤ 6) : k ∈ [0, 1, 2, 3, 4, 5, 6] := by
  simp only [List.mem_cons, List.not_mem_nil, or_false]
  omega
/-- a tree of the tables -/
def Tr (t : T0) : Prop := 1 ≤ t.items.length ∧ t ∈ TL t.items.length
theorem le_sum {α : Type} {sz : α → Int} : ∀ {xs : List α}, (∀ x ∈ xs, 1 ≤ sz x) → ∀ x ∈ xs, sz x ≤ (xs.map sz).sum
  | [], _, x, hx => by simp at hx
  | y :: ys, h, x, hx => by
    rw [List.map_cons, List.sum_cons]
    have h' : ∀ z ∈ ys, 1 ≤ sz z := fun z hz => h z (List.mem_cons_of_mem _ hz)
    have nn := sum_nn h'
    rcases List.mem_cons.mp hx with e | hx
    · rw [e]
      omega
    · have := le_sum h' x hx
      have h1 := h y (List.mem_cons_self ..)
      omega
theorem perm_sum {α : Type} {sz : α → Int} {xs ys : List α} (h : xs.Perm ys) : (xs.map sz).sum = (ys.map sz).sum := by
  induction h with
  | nil => rfl
  | cons x _ ih => rw [List.map_cons, List.map_cons, List.sum_cons, List.sum_cons, ih]
  | swap x y l =>
    simp only [List.map_cons, List.sum_cons]
    omega
  | trans _ _ h1 h2 => exact h1.trans h2
theorem ne_items {t : T0} (h : 1 ≤ t.items.length) : (!t.items.isEmpty) = true := by
  obtain ⟨l⟩ := t
  cases l with
  | nil => exact absurd h (by simp)
  | cons x r => rfl
theorem tree_in {ts : List T0} {k : Nat} (h1 : 1 ≤ k) (h7 : k ≤ 7) (ht : ∀ t ∈ ts, Tr t) (hs : (ts.map tz).sum = (k : Int) - 1) : ∃ t, m_row ts = some t ∧ Tr t ∧ t.items.length = k := by
  have hpos : ∀ t ∈ ts, 1 ≤ tz t := fun t h => by
    have := (ht t h).1
    show (1 : Int) ≤ (t.items.length : Int)
    omega
  have hlen := sum_nn hpos
  have hmem : ∀ t ∈ ts, t ∈ allT (k - 1) := fun t h => by
    have := le_sum hpos t h
    have h2 : (t.items.length : Int) ≤ (k : Int) - 1 := by
      rw [← hs]
      exact this
    exact allT_mem (ht t h).2 (ht t h).1 (by omega)
  have c := chkT_all k (in17 h1 h7)
  unfold chkT at c
  cases hL : m_lots 9 ((fallT' (k - 1)).map fun t => (tz t, t)) ((k : Int) - 1) with
  | none => rw [hL] at c; cases c
  | some L =>
    rw [hL] at c
    have hsub : Sub ((fallT' (k - 1)).map fun t => (tz t, t)) ((k : Int) - 1) (isort DatumOrd.lt ts).reverse := by
      refine sub_of (lt := DatumOrd.lt) tz (fall_strict sto0' (nodupT (k - 1) (in06 (by omega)))) (fall_weak sto0' ts) (fun x hx => ?_) (fun x hx => ?_) ?_
      · unfold fallT'
        rw [List.mem_reverse, isort_mem]
        rw [List.mem_reverse, isort_mem] at hx
        exact hmem x hx
      · rw [List.mem_reverse, isort_mem] at hx
        exact hpos x hx
      · rw [← hs]
        exact perm_sum ((List.reverse_perm _).trans (isort_perm ts))
    have hin := lots_mem (fun p hp => by
      obtain ⟨t, ht', e⟩ := List.mem_map.mp hp
      rw [← e]
      unfold fallT' at ht'
      rw [List.mem_reverse, isort_mem] at ht'
      obtain ⟨i, hi, hti⟩ := List.mem_flatMap.mp ht'
      rw [List.mem_range] at hi
      have := TL_len (i + 1) (in17 (by omega) (by omega)) t hti
      show (1 : Int) ≤ (t.items.length : Int)
      omega) hL hsub
    have c2 := List.all_eq_true.mp c _ hin
    unfold rowF at c2
    dsimp only at c2
    cases hf : foldO (fun acc (r : T0) => extO acc (r.items.map (· + 1))) [0] (isort DatumOrd.lt ts).reverse with
    | none => rw [hf] at c2; cases c2
    | some f =>
      rw [hf] at c2
      have c2 : (decide ((⟨f⟩ : T0) ∈ TL k) && decide (f.length = k)) = true := c2
      rw [Bool.and_eq_true] at c2
      have c3 := of_decide_eq_true c2.1
      have c4 : f.length = k := of_decide_eq_true c2.2
      have hsort : sortO DatumOrd.lt ts = some (isort DatumOrd.lt ts) := by
        unfold sortO srtb few
        rw [if_pos]
        rw [Bool.and_eq_true, Bool.or_eq_true]
        exact ⟨.inr (List.all_eq_true.mpr fun t h => ne_items (ht t h).1), decide_eq_true (by omega)⟩
      refine ⟨⟨f⟩, ?_, ⟨?_, ?_⟩, c4⟩
      · unfold m_row
        rw [hsort]
        show (do
          let f ← foldO (fun acc (r : T0) => extO acc (r.items.map (· + 1))) [0] (isort DatumOrd.lt ts).reverse
          some (PySem.W.Tup.mk f)) = _
        rw [hf] <;> rfl
      · show 1 ≤ f.length
        omega
      · show _ ∈ TL f.length
        rw [c4]
        exact c3
def chkP (k : Nat) : Bool := (List.range k).all fun i => match m_rowsOf 9 ((allT k).map fun t => (tz t, t)) ((i : Int) + 1) (k : Int) with
  | none => false
  | some L => L.all fun r => match m_least r with
    | none => false
    | some p => decide (p ∈ PL k) && decide (m_size p = (k : Int))
theorem chkP_all : ∀ k ∈ [1, 2, 3, 4, 5, 6, 7], chkP k = true := by decide +kernel
/-- a piece of the tables -/
def Pc (p : P0) : Prop := 1 ≤ m_size p ∧ m_size p ≤ 7 ∧ p ∈ PL (m_size p).toNat
theorem piece_in {row : List T0} {k : Nat} (h7 : k ≤ 7) (hne : row ≠ []) (ht : ∀ t ∈ row, Tr t) (hs : (row.map tz).sum = (k : Int)) : ∃ p, m_least ⟨row⟩ = some p ∧ Pc p ∧ m_size p = (k : Int) := by
  have hpos : ∀ t ∈ row, 1 ≤ tz t := fun t h => by
    have := (ht t h).1
    show (1 : Int) ≤ (t.items.length : Int)
    omega
  have hlen := sum_nn hpos
  have hl0 : row.length ≠ 0 := fun e => hne (List.eq_nil_of_length_eq_zero e)
  have h1 : 1 ≤ k := by omega
  have c := List.all_eq_true.mp (chkP_all k (in17 h1 h7)) (row.length - 1) (List.mem_range.mpr (by omega))
  have er : ((row.length - 1 : Nat) : Int) + 1 = (row.length : Int) := by omega
  rw [er] at c
  cases hL : m_rowsOf 9 ((allT k).map fun t => (tz t, t)) (row.length : Int) (k : Int) with
  | none => rw [hL] at c; cases c
  | some L =>
    rw [hL] at c
    have hin := rowsOf_mem (sz := tz) hL rfl (fun t h => List.mem_map.mpr ⟨t, by
      have := le_sum hpos t h
      have h2 : (t.items.length : Int) ≤ (k : Int) := by
        rw [← hs]
        exact this
      exact allT_mem (ht t h).2 (ht t h).1 (by omega), rfl⟩) hpos hs
    have c2 := List.all_eq_true.mp c _ hin
    cases hp : m_least (⟨row⟩ : P0) with
    | none => rw [hp] at c2; cases c2
    | some p =>
      rw [hp] at c2
      have c2 : (decide (p ∈ PL k) && decide (m_size p = (k : Int))) = true := c2
      rw [Bool.and_eq_true] at c2
      have c3 := of_decide_eq_true c2.1
      have c4 : m_size p = (k : Int) := of_decide_eq_true c2.2
      refine ⟨p, rfl, ⟨by omega, by omega, ?_⟩, c4⟩
      rw [c4, Int.toNat_natCast]
      exact c3
end Oa
set_option Elab.async false
set_option linter.all false
set_option maxRecDepth 100000
set_option maxHeartbeats 1000000
/-! Plain: arrows, ring places, what hangs on them. -/
namespace Oa
/-- the arrow of x -/
def fT (t : T0) (x : Int) : Int := (getI t.items x).getD 0
def itF (t : T0) : Nat → Int → Int
  | 0, x => x
  | k + 1, x => itF t k (fT t x)
theorem itF_succ (t : T0) : ∀ (k : Nat) (x : Int), fT t (itF t k x) = itF t (k + 1) x
  | 0, x => rfl
  | k + 1, x => itF_succ t k (fT t x)
theorem itF_add (t : T0) : ∀ (j k : Nat) (x : Int), itF t j (itF t k x) = itF t (k + j) x
  | j, 0, x => by rw [Nat.zero_add]; rfl
  | j, k + 1, x => by
    rw [show k + 1 + j = (k + j) + 1 by omega]
    exact itF_add t j k (fT t x)
/-- a board of n places -/
structure Brd (t : T0) (n : Nat) : Prop where
  len : t.items.length = n
  le : n ≤ 7
  ok : ∀ x ∈ t.items, 0 ≤ x ∧ x < (n : Int)
section
variable {t : T0} {n : Nat}
theorem Brd.get (b : Brd t n) {x : Int} (h0 : 0 ≤ x) (h1 : x < (n : Int)) : getI t.items x = some (fT t x) ∧ 0 ≤ fT t x ∧ fT t x < (n : Int) := by
  have hl := b.len
  have hx : x.toNat < t.items.length := by omega
  have e : getI t.items x = some t.items[x.toNat] := by
    unfold getI
    rw [if_pos h0]
    exact List.getElem?_eq_getElem hx
  have e2 : fT t x = t.items[x.toNat] := by
    unfold fT
    rw [e] <;> rfl
  rw [e2]
  exact ⟨e, b.ok _ (List.getElem_mem hx)⟩
theorem Brd.it (b : Brd t n) : ∀ (k : Nat) {x : Int}, 0 ≤ x → x < (n : Int) → 0 ≤ itF t k x ∧ itF t k x < (n : Int)
  | 0, x, h0, h1 => ⟨h0, h1⟩
  | k + 1, x, h0, h1 => b.it k (b.get h0 h1).2.1 (b.get h0 h1).2.2
theorem mapO_get (b : Brd t n) : ∀ {here : List Int}, (∀ x ∈ here, 0 ≤ x ∧ x < (n : Int)) → mapO (getI t.items) here = some (here.map (fT t))
  | [], _ => rfl
  | x :: here, h => by
    unfold mapO
    rw [(b.get (h x (List.mem_cons_self ..)).1 (h x (List.mem_cons_self ..)).2).1, mapO_get b fun y hy => h y (List.mem_cons_of_mem _ hy)] <;> rfl
theorem ring_fold (b : Brd t n) : ∀ {xs here : List Int}, (∀ x ∈ here, 0 ≤ x ∧ x < (n : Int)) → here.length ≤ 1000 → foldO (fun here (_ : Int) => do
    let _ ← ck (few here)
    mapO (getI t.items) here) here xs = some (here.map (itF t xs.length))
  | [], here, _, _ => by
    show some here = _
    rw [show (itF t ([] : List Int).length) = fun x => x from rfl, List.map_id']
  | x :: xs, here, h, hl => by
    have e1 : (do
        let _ ← ck (few here)
        mapO (getI t.items) here) = some (here.map (fT t)) := by
      have hf : few here = true := decide_eq_true (by omega)
      show (do
        let _ ← ck (few here)
        mapO (getI t.items) here) = _
      rw [hf, mapO_get b h] <;> rfl
    have ih := ring_fold b (xs := xs) (here := here.map (fT t)) (fun y hy => by
      obtain ⟨z, hz, e⟩ := List.mem_map.mp hy
      rw [← e]
      exact (b.get (h z hz).1 (h z hz).2).2) (by rw [List.length_map]; exact hl)
    unfold foldO
    rw [e1]
    show foldO _ (here.map (fT t)) xs = _
    rw [ih, List.map_map]
    rfl
def ringL (t : T0) (n : Nat) : List Int := (rng 0 n).filter fun p => decide (p ∈ (rngI n).map (itF t n))
theorem rngI_mem {n : Nat} {x : Int} : x ∈ rngI n ↔ 0 ≤ x ∧ x < (n : Int) := by
  unfold rngI
  rw [List.mem_map]
  constructor
  · rintro ⟨i, hi, rfl⟩
    rw [List.mem_range] at hi
    show 0 ≤ (i : Int) ∧ (i : Int) < n
    omega
  · rintro ⟨h1, h2⟩
    exact ⟨x.toNat, by rw [List.mem_range]; omega, by show ((x.toNat : Nat) : Int) = x; omega⟩
theorem ring_is (b : Brd t n) : m_ring t = some (ringL t n) := by
  have hl := b.len
  have hle := b.le
  have hsh : short t.items = true := decide_eq_true (by omega)
  unfold m_ring
  rw [hsh]
  show (do
    let here ← foldO (fun here (_ : Int) => do
      let _ ← ck (few here)
      mapO (getI t.items) here) (rngI t.items.length) (rng 0 t.items.length)
    some ((rng 0 t.items.length).filter fun p => decide (p ∈ here))) = _
  rw [ring_fold b (fun x hx => by rw [hl] at hx; exact rngI_mem.mp hx) (by unfold rngI; rw [List.length_map, List.length_range]; omega), rng_len, hl, Int.sub_zero, Int.toNat_natCast]
  rfl
theorem ring_mem (b : Brd t n) {x : Int} : x ∈ ringL t n ↔ ∃ y, 0 ≤ y ∧ y < (n : Int) ∧ itF t n y = x := by
  unfold ringL
  rw [List.mem_filter]
  constructor
  · rintro ⟨_, h⟩
    obtain ⟨y, hy, e⟩ := List.mem_map.mp (of_decide_eq_true h)
    exact ⟨y, (rngI_mem.mp hy).1, (rngI_mem.mp hy).2, e⟩
  · rintro ⟨y, h0, h1, e⟩
    have := b.it n h0 h1
    rw [e] at this
    exact ⟨rng_mem.mpr this, decide_eq_true (List.mem_map.mpr ⟨y, rngI_mem.mpr ⟨h0, h1⟩, e⟩)⟩
theorem ring_in (b : Brd t n) {x : Int} (h : x ∈ ringL t n) : 0 ≤ x ∧ x < (n : Int) := by
  obtain ⟨y, h0, h1, e⟩ := (ring_mem b).mp h
  rw [← e]
  exact b.it n h0 h1
theorem rng_nodup (n : Nat) : (rng 0 n).Nodup := by
  unfold rng
  refine List.Pairwise.map _ (fun a c h e => h ?_) List.nodup_range
  have e : (0 : Int) + (a : Int) = 0 + (c : Int) := e
  omega
theorem ring_nodup : (ringL t n).Nodup := (rng_nodup n).filter _
/-- the places that hang on q -/
def chL (t : T0) (n : Nat) (q : Int) : List Int := (rng 0 n).filter fun p => decide (p ∉ ringL t n) && decide (fT t p = q)
theorem ch_mem {p q : Int} : p ∈ chL t n q ↔ (0 ≤ p ∧ p < (n : Int)) ∧ p ∉ ringL t n ∧ fT t p = q := by
  unfold chL
  rw [List.mem_filter, rng_mem, Bool.and_eq_true]
  exact ⟨fun ⟨h1, h2, h3⟩ => ⟨h1, of_decide_eq_true h2, of_decide_eq_true h3⟩, fun ⟨h1, h2, h3⟩ => ⟨h1, decide_eq_true h2, decide_eq_true h3⟩⟩
/-- the ahead lists -/
theorem ahead_fold (b : Brd t n) : ∀ {ps : List Int} {A0 : List (List Int)} {g : Int → List Int}, (∀ p ∈ ps, 0 ≤ p ∧ p < (n : Int)) → A0.length = n → (∀ q, 0 ≤ q → q < (n : Int) → getI A0 q = some (g q)) → (∀ q, (g q).length + ps.length ≤ 1000) →
    ∃ A, foldO (fun ahead p => if p ∈ ringL t n then some ahead else do
      let q ← getI t.items p
      let l ← getI ahead q
      let l' ← appO l p
      setI ahead q l') A0 ps = some A ∧ A.length = n ∧ ∀ q, 0 ≤ q → q < (n : Int) → getI A q = some (g q ++ ps.filter fun p => decide (p ∉ ringL t n) && decide (fT t p = q))
  | [], A0, g, _, hl, hg, _ => ⟨A0, rfl, hl, fun q h0 h1 => by rw [hg q h0 h1]; simp⟩
  | p :: ps, A0, g, hp, hl, hg, hb => by
    have hp' : ∀ x ∈ ps, 0 ≤ x ∧ x < (n : Int) := fun x hx => hp x (List.mem_cons_of_mem _ hx)
    obtain ⟨p0, p1⟩ := hp p (List.mem_cons_self ..)
    obtain ⟨g1, g2, g3⟩ := b.get p0 p1
    unfold foldO
    by_cases hr : p ∈ ringL t n
    · rw [if_pos hr]
      obtain ⟨A, a1, a2, a3⟩ := ahead_fold b (ps := ps) hp' hl hg (fun q => by have := hb q; rw [List.length_cons] at this; omega)
      refine ⟨A, a1, a2, fun q h0 h1 => ?_⟩
      rw [a3 q h0 h1, List.filter_cons, if_neg (by simp [hr])]
    · rw [if_neg hr]
      have hbq := hb (fT t p)
      rw [List.length_cons] at hbq
      have e1 : (do
          let q ← getI t.items p
          let l ← getI A0 q
          let l' ← appO l p
          setI A0 q l') = some (A0.set (fT t p).toNat (g (fT t p) ++ [p])) := by
        rw [g1]
        show (do
          let l ← getI A0 (fT t p)
          let l' ← appO l p
          setI A0 (fT t p) l') = _
        rw [hg _ g2 g3]
        show (do
          let l' ← appO (g (fT t p)) p
          setI A0 (fT t p) l') = _
        have hf : few (g (fT t p)) = true := decide_eq_true (by omega)
        unfold appO
        rw [if_pos hf]
        show setI A0 (fT t p) (g (fT t p) ++ [p]) = _
        unfold setI
        rw [if_pos ⟨g2, by omega⟩]
      rw [e1]
      obtain ⟨A, a1, a2, a3⟩ := ahead_fold b (ps := ps) (A0 := A0.set (fT t p).toNat (g (fT t p) ++ [p])) (g := fun q => if q = fT t p then g (fT t p) ++ [p] else g q) hp' (by rw [List.length_set]; exact hl) (fun q h0 h1 => by
        have hq := hg q h0 h1
        unfold getI at hq ⊢
        rw [if_pos h0] at hq ⊢
        by_cases e : q = fT t p
        · rw [e, if_pos rfl, List.getElem?_set_self (by omega)]
        · rw [if_neg e, List.getElem?_set_ne (by omega)]
          exact hq) (fun q => by
        have := hb q
        rw [List.length_cons] at this
        by_cases e : q = fT t p
        · rw [if_pos e, List.length_append, List.length_singleton]
          omega
        · rw [if_neg e]
          omega)
      refine ⟨A, a1, a2, fun q h0 h1 => ?_⟩
      rw [a3 q h0 h1, List.filter_cons]
      by_cases e : q = fT t p
      · rw [if_pos e, if_pos (by simp [hr, e]), e, List.append_assoc]
        rfl
      · rw [if_neg e, if_neg (by simp [hr]; exact fun z => e z.symm)]
theorem ahead_is (b : Brd t n) : ∃ A, m_ahead t (ringL t n) = some A ∧ A.length = n ∧ ∀ q, 0 ≤ q → q < (n : Int) → getI A q = some (chL t n q) := by
  have hl := b.len
  have hle := b.le
  obtain ⟨A, a1, a2, a3⟩ := ahead_fold b (ps := rng 0 n) (A0 := t.items.map fun _ => ([] : List Int)) (g := fun _ => []) (fun p hp => rng_mem.mp hp) (by rw [List.length_map]; exact hl) (fun q h0 h1 => by
    unfold getI
    rw [if_pos h0, List.getElem?_map, List.getElem?_eq_getElem (by omega)] <;> rfl) (fun q => by rw [rng_len]; show 0 + _ ≤ _; omega)
  refine ⟨A, ?_, a2, fun q h0 h1 => by rw [a3 q h0 h1]; rfl⟩
  have hsh : short t.items = true := decide_eq_true (by omega)
  unfold m_ahead
  rw [hsh, hl]
  exact a1
end
end Oa
set_option Elab.async false
set_option linter.all false
set_option maxRecDepth 100000
set_option maxHeartbeats 1000000
/-! Plain: sizes of what hangs; all places are counted once. -/
namespace Oa
def szA (ch : Int → List Int) : Nat → Int → Int
  | 0, _ => 0
  | k + 1, q => 1 + ((ch q).map (szA ch k)).sum
def okA (ch : Int → List Int) : Nat → Int → Prop
  | 0, _ => False
  | k + 1, q => ∀ c ∈ ch q, okA ch k c
theorem sum0 {α : Type} {f : α → Int} : ∀ {xs : List α}, (∀ x ∈ xs, 0 ≤ f x) → 0 ≤ (xs.map f).sum
  | [], _ => by simp
  | x :: xs, h => by
    rw [List.map_cons, List.sum_cons]
    have := sum0 (f := f) fun y hy => h y (List.mem_cons_of_mem _ hy)
    have := h x (List.mem_cons_self ..)
    omega
theorem le_sum0 {α : Type} {f : α → Int} : ∀ {xs : List α}, (∀ x ∈ xs, 0 ≤ f x) → ∀ x ∈ xs, f x ≤ (xs.map f).sum
  | [], _, x, hx => by simp at hx
  | y :: ys, h, x, hx => by
    rw [List.map_cons, List.sum_cons]
    have h' : ∀ z ∈ ys, 0 ≤ f z := fun z hz => h z (List.mem_cons_of_mem _ hz)
    have s0 := sum0 h'
    rcases List.mem_cons.mp hx with e | hx
    · rw [e]
      omega
    · have := le_sum0 h' x hx
      have h1 := h y (List.mem_cons_self ..)
      omega
theorem sz0 (ch : Int → List Int) : ∀ (k : Nat) (q : Int), 0 ≤ szA ch k q
  | 0, _ => Int.le_refl _
  | k + 1, q => by
    unfold szA
    have := sum0 (f := szA ch k) (xs := ch q) fun x _ => sz0 ch k x
    omega
theorem sz1 {ch : Int → List Int} {k : Nat} {q : Int} (h : okA ch k q) : 1 ≤ szA ch k q := by
  cases k with
  | zero => exact h.elim
  | succ k =>
    unfold szA
    have := sum0 (f := szA ch k) (xs := ch q) fun x _ => sz0 ch k x
    omega
theorem ok_mono {ch : Int → List Int} : ∀ {j k : Nat} {q : Int}, okA ch j q → j ≤ k → okA ch k q
  | 0, _, _, h, _ => h.elim
  | j + 1, 0, _, _, h => by omega
  | j + 1, k + 1, q, h, hjk => fun c hc => ok_mono (h c hc) (by omega)
section
variable {t : T0} {n : Nat}
theorem ok_deep (b : Brd t n) : ∀ (j m : Nat) {q : Int}, 0 ≤ q → q < (n : Int) → m + j = n + 1 → (1 ≤ m → itF t (m - 1) q ∉ ringL t n) → okA (chL t n) j q
  | 0, m, q, h0, h1, hm, hd => by
    have e : m - 1 = n := by omega
    have := hd (by omega)
    rw [e] at this
    exact this ((ring_mem b).mpr ⟨q, h0, h1, rfl⟩)
  | j + 1, m, q, h0, h1, hm, hd => fun c hc => by
    obtain ⟨⟨c0, c1⟩, c2, c3⟩ := ch_mem.mp hc
    refine ok_deep b j (m + 1) c0 c1 (by omega) fun _ => ?_
    rw [Nat.add_sub_cancel]
    cases m with
    | zero => exact c2
    | succ m =>
      show itF t m (fT t c) ∉ _
      rw [c3]
      exact hd (by omega)
theorem ok9 (b : Brd t n) {q : Int} (h0 : 0 ≤ q) (h1 : q < (n : Int)) : okA (chL t n) 9 q :=
  ok_mono (ok_deep b (n + 1) 0 h0 h1 (by omega) fun h => absurd h (by omega)) (by have := b.le; omega)
/-! counting -/
def sh (t : T0) (n : Nat) (c : Int → Int) (y : Int) : Int := if y ∈ ringL t n then 0 else c (fT t y)
def U (t : T0) (n : Nat) : Nat → (Int → Int) → Int → Int
  | 0, _, _ => 0
  | k + 1, c, x => c x + U t n k (sh t n c) x
theorem U_congr (b : Brd t n) : ∀ (k : Nat) {c c' : Int → Int} {x : Int}, (∀ y, 0 ≤ y → y < (n : Int) → c y = c' y) → 0 ≤ x → x < (n : Int) → U t n k c x = U t n k c' x
  | 0, _, _, _, _, _, _ => rfl
  | k + 1, c, c', x, h, h0, h1 => by
    unfold U
    rw [h x h0 h1, U_congr b k (c := sh t n c) (c' := sh t n c') (fun y y0 y1 => ?_) h0 h1]
    unfold sh
    split
    · rfl
    · exact h _ (b.get y0 y1).2.1 (b.get y0 y1).2.2
theorem U_zero : ∀ (k : Nat) {c : Int → Int} {x : Int}, (∀ y ∈ ringL t n, c y = 0) → x ∈ ringL t n → U t n k c x = 0
  | 0, _, _, _, _ => rfl
  | k + 1, c, x, h, hx => by
    unfold U
    rw [h x hx, U_zero k (c := sh t n c) (fun y hy => by unfold sh; rw [if_pos hy]) hx]
    rfl
theorem U_step : ∀ (k : Nat) {c : Int → Int} {x : Int}, x ∉ ringL t n → U t n k (sh t n c) x = U t n k c (fT t x)
  | 0, _, _, _ => rfl
  | k + 1, c, x, hx => by
    unfold U
    rw [U_step k hx]
    have e : sh t n c x = c (fT t x) := by unfold sh; rw [if_neg hx]
    rw [e]
def c0 (t : T0) (n : Nat) (x : Int) : Int := if x ∈ ringL t n then 1 else 0
theorem U_one : ∀ (j k : Nat) {x : Int}, itF t j x ∈ ringL t n → j + 1 ≤ k → U t n k (c0 t n) x = 1
  | _, 0, _, _, h => by omega
  | j, k + 1, x, hx, hk => by
    unfold U
    by_cases hr : x ∈ ringL t n
    · have e : c0 t n x = 1 := by unfold c0; rw [if_pos hr]
      rw [e, U_zero k (fun y hy => by unfold sh; rw [if_pos hy]) hr]
      rfl
    · have e : c0 t n x = 0 := by unfold c0; rw [if_neg hr]
      rw [e, U_step k hr]
      cases j with
      | zero => exact absurd hx hr
      | succ j =>
        rw [U_one j k hx (by omega)]
        rfl
theorem sum_add {α : Type} (f g : α → Int) : ∀ xs : List α, (xs.map fun x => f x + g x).sum = (xs.map f).sum + (xs.map g).sum
  | [] => rfl
  | x :: xs => by
    rw [List.map_cons, List.map_cons, List.map_cons, List.sum_cons, List.sum_cons, List.sum_cons, sum_add f g xs]
    omega
theorem sum_ind {x : Int} : ∀ {xs : List Int}, xs.Nodup → x ∈ xs → (xs.map fun y => if x = y then (1 : Int) else 0).sum = 1
  | [], _, h => by simp at h
  | y :: ys, hn, h => by
    rw [List.nodup_cons] at hn
    rw [List.map_cons, List.sum_cons]
    by_cases e : x = y
    · rw [if_pos e]
      have z : (ys.map fun y => if x = y then (1 : Int) else 0).sum = 0 := by
        have : ∀ zs : List Int, x ∉ zs → (zs.map fun y => if x = y then (1 : Int) else 0).sum = 0 := by
          intro zs
          induction zs with
          | nil => intro _; rfl
          | cons z zs ih =>
            intro hz
            rw [List.map_cons, List.sum_cons, if_neg (fun e => hz (by rw [e]; exact List.mem_cons_self ..)), ih fun h => hz (List.mem_cons_of_mem _ h)]
            rfl
        exact this ys (by rw [e]; exact hn.1)
      rw [z]
      rfl
    · rw [if_neg e]
      have hx : x ∈ ys := by
        rcases List.mem_cons.mp h with q | q
        · exact absurd q e
        · exact q
      rw [sum_ind hn.2 hx]
      rfl
theorem len_count {xs : List Int} (hn : xs.Nodup) : ∀ {S : List Int}, (∀ q ∈ S, q ∈ xs) → (S.length : Int) = (xs.map fun y => ((S.count y : Nat) : Int)).sum
  | [], _ => by
    have : ∀ zs : List Int, (zs.map fun y => ((([] : List Int).count y : Nat) : Int)).sum = 0 := by
      intro zs
      induction zs with
      | nil => rfl
      | cons z zs ih =>
        rw [List.map_cons, List.sum_cons, ih]
        simp
    rw [this]
    rfl
  | q :: S, h => by
    have ih := len_count hn (S := S) fun z hz => h z (List.mem_cons_of_mem _ hz)
    have e : (xs.map fun y => (((q :: S).count y : Nat) : Int)) = xs.map fun y => ((S.count y : Nat) : Int) + (if q = y then (1 : Int) else 0) := by
      refine List.map_congr_left fun y _ => ?_
      rw [List.count_cons]
      by_cases z : q = y
      · rw [if_pos z, if_pos (by simpa using z)]
        omega
      · rw [if_neg z, if_neg (by simpa using z)]
        omega
    rw [e, sum_add, sum_ind hn (h q (List.mem_cons_self ..)), ← ih, List.length_cons]
    omega
theorem count_one {x : Int} : ∀ {l : List Int}, l.Nodup → x ∈ l → l.count x = 1
  | [], _, h => by simp at h
  | y :: l, hn, h => by
    rw [List.nodup_cons] at hn
    rw [List.count_cons]
    by_cases e : y = x
    · rw [if_pos (by simpa using e), List.count_eq_zero.mpr (by rw [← e]; exact hn.1)]
    · rw [if_neg (by simpa using e)]
      rcases List.mem_cons.mp h with q | q
      · exact absurd q.symm e
      · rw [count_one hn.2 q]
theorem sum_flat {f : Int → Int} {ch : Int → List Int} : ∀ S : List Int, (S.map fun q => 1 + ((ch q).map f).sum).sum = (S.length : Int) + ((S.flatMap ch).map f).sum
  | [] => by simp
  | q :: S => by
    rw [List.map_cons, List.sum_cons, sum_flat S, List.flatMap_cons, List.map_append, List.sum_append, List.length_cons]
    omega
theorem count_ch (b : Brd t n) {x : Int} (x0 : 0 ≤ x) (x1 : x < (n : Int)) : ∀ S : List Int, (((S.flatMap (chL t n)).count x : Nat) : Int) = sh t n (fun y => ((S.count y : Nat) : Int)) x
  | [] => by
    unfold sh
    split <;> simp
  | q :: S => by
    have ih := count_ch b x0 x1 S
    rw [List.flatMap_cons, List.count_append]
    have hc : (chL t n q).count x = if x ∉ ringL t n ∧ fT t x = q then 1 else 0 := by
      by_cases h : x ∉ ringL t n ∧ fT t x = q
      · rw [if_pos h]
        have hm : x ∈ chL t n q := ch_mem.mpr ⟨⟨x0, x1⟩, h.1, h.2⟩
        exact count_one ((rng_nodup n).filter _) hm
      · rw [if_neg h]
        exact List.count_eq_zero.mpr fun hm => h (ch_mem.mp hm).2
    rw [hc]
    unfold sh at ih ⊢
    by_cases hr : x ∈ ringL t n
    · rw [if_pos hr] at ih ⊢
      rw [if_neg (fun z => z.1 hr)]
      omega
    · rw [if_neg hr] at ih ⊢
      dsimp only at ih ⊢
      rw [List.count_cons]
      by_cases e : fT t x = q
      · rw [if_pos ⟨hr, e⟩, if_pos (by simpa using e.symm)]
        omega
      · rw [if_neg (fun z => e z.2), if_neg (by simpa using fun z : q = fT t x => e z.symm)]
        omega
theorem sum_sz (b : Brd t n) : ∀ (k : Nat) {S : List Int}, (∀ q ∈ S, 0 ≤ q ∧ q < (n : Int)) → (S.map (szA (chL t n) k)).sum = ((rng 0 n).map fun x => U t n k (fun y => ((S.count y : Nat) : Int)) x).sum
  | 0, S, _ => by
    have e1 : ∀ zs : List Int, (zs.map (szA (chL t n) 0)).sum = 0 := by
      intro zs
      induction zs with
      | nil => rfl
      | cons z zs ih =>
        rw [List.map_cons, List.sum_cons, ih]
        rfl
    have e2 : ∀ zs : List Int, (zs.map fun x => U t n 0 (fun y => ((S.count y : Nat) : Int)) x).sum = 0 := by
      intro zs
      induction zs with
      | nil => rfl
      | cons z zs ih =>
        rw [List.map_cons, List.sum_cons, ih]
        rfl
    rw [e1, e2]
  | k + 1, S, h => by
    have e1 : (S.map (szA (chL t n) (k + 1))).sum = (S.map fun q => 1 + ((chL t n q).map (szA (chL t n) k)).sum).sum := rfl
    rw [e1, sum_flat, len_count (rng_nodup n) (fun q hq => rng_mem.mpr (h q hq)), sum_sz b k (S := S.flatMap (chL t n)) (fun q hq => by
      obtain ⟨p, _, hp⟩ := List.mem_flatMap.mp hq
      exact (ch_mem.mp hp).1), ← sum_add]
    congr 1
    refine List.map_congr_left fun x hx => ?_
    have hx' := rng_mem.mp hx
    conv => rhs; unfold U
    congr 1
    exact U_congr b k (fun y y0 y1 => count_ch b y0 y1 S) hx'.1 hx'.2
/-- all places hang on the ring places -/
theorem all_counted (b : Brd t n) : ((ringL t n).map (szA (chL t n) 9)).sum = (n : Int) := by
  rw [sum_sz b 9 (fun q hq => ring_in b hq)]
  have e : ((rng 0 n).map fun x => U t n 9 (fun y => (((ringL t n).count y : Nat) : Int)) x) = (rng 0 n).map fun _ => (1 : Int) := by
    refine List.map_congr_left fun x hx => ?_
    have hx' := rng_mem.mp hx
    have hle := b.le
    rw [U_congr b 9 (c' := c0 t n) (fun y y0 y1 => ?_) hx'.1 hx'.2]
    · refine U_one 8 9 ?_ (by omega)
      have := b.it (8 - n) hx'.1 hx'.2
      refine (ring_mem b).mpr ⟨itF t (8 - n) x, this.1, this.2, ?_⟩
      rw [itF_add, show 8 - n + n = 8 by omega]
    · unfold c0
      by_cases hr : y ∈ ringL t n
      · rw [if_pos hr, count_one ring_nodup hr]
        rfl
      · rw [if_neg hr, List.count_eq_zero.mpr hr]
        rfl
  rw [e]
  have : ∀ zs : List Int, (zs.map fun _ => (1 : Int)).sum = (zs.length : Int) := by
    intro zs
    induction zs with
    | nil => rfl
    | cons z zs ih =>
      rw [List.map_cons, List.sum_cons, ih, List.length_cons]
      omega
  rw [this, rng_len]
  omega
end
end Oa
set_option Elab.async false
set_option linter.all false
set_option maxRecDepth 100000
set_option maxHeartbeats 1000000
/-! Plain: the heap of a board. -/
namespace Oa
open PySem.W (DatumOrd)
theorem mapO_all {α β : Type} {g : α → Option β} {P : α → β → Prop} : ∀ {xs : List α}, (∀ x ∈ xs, ∃ y, g x = some y ∧ P x y) → ∃ ys, mapO g xs = some ys ∧ ys.length = xs.length ∧ (∀ y ∈ ys, ∃ x ∈ xs, P x y) ∧ ∀ (f : α → Int) (h : β → Int), (∀ x y, x ∈ xs → P x y → h y = f x) → (ys.map h).sum = (xs.map f).sum
  | [], _ => ⟨[], rfl, rfl, fun y hy => by simp at hy, fun _ _ _ => rfl⟩
  | x :: xs, h => by
    obtain ⟨y, h1, h2⟩ := h x (List.mem_cons_self ..)
    obtain ⟨ys, h3, h4, h5, h6⟩ := mapO_all (g := g) (P := P) fun z hz => h z (List.mem_cons_of_mem _ hz)
    refine ⟨y :: ys, by unfold mapO; rw [h1, h3], by rw [List.length_cons, List.length_cons, h4], fun z hz => ?_, fun f g' hh => ?_⟩
    · rcases List.mem_cons.mp hz with e | hz
      · rw [e]
        exact ⟨x, List.mem_cons_self .., h2⟩
      · obtain ⟨w, hw, hp⟩ := h5 z hz
        exact ⟨w, List.mem_cons_of_mem _ hw, hp⟩
    · rw [List.map_cons, List.map_cons, List.sum_cons, List.sum_cons, hh x y (List.mem_cons_self ..) h2, h6 f g' fun a c ha hp => hh a c (List.mem_cons_of_mem _ ha) hp]
section
variable {t : T0} {n : Nat} {A : List (List Int)}
theorem hang_is (b : Brd t n) (hA : ∀ q, 0 ≤ q → q < (n : Int) → getI A q = some (chL t n q)) : ∀ (k : Nat) {q : Int}, 0 ≤ q → q < (n : Int) → okA (chL t n) k q → szA (chL t n) k q ≤ 7 → ∃ tr, m_hang k A q = some tr ∧ Tr tr ∧ tz tr = szA (chL t n) k q
  | 0, q, _, _, h, _ => h.elim
  | k + 1, q, h0, h1, hok, hsz => by
    have es : szA (chL t n) (k + 1) q = 1 + ((chL t n q).map (szA (chL t n) k)).sum := rfl
    have hnn : ∀ c ∈ chL t n q, 0 ≤ szA (chL t n) k c := fun c _ => sz0 _ k c
    have hlen : ((chL t n q).length : Int) ≤ ((chL t n q).map (szA (chL t n) k)).sum := sum_nn fun c hc => sz1 (hok c hc)
    obtain ⟨ts, t1, t2, t3, t4⟩ := mapO_all (g := m_hang k A) (P := fun c tr => Tr tr ∧ tz tr = szA (chL t n) k c) (xs := chL t n q) fun c hc => by
      obtain ⟨⟨c0, c1⟩, _, _⟩ := ch_mem.mp hc
      have := le_sum0 hnn c hc
      obtain ⟨tr, r1, r2, r3⟩ := hang_is b hA k c0 c1 (hok c hc) (by omega)
      exact ⟨tr, r1, r2, r3⟩
    have hs := t4 (szA (chL t n) k) tz fun x y _ hp => hp.2
    obtain ⟨tr, r1, r2, r3⟩ := tree_in (ts := ts) (k := (szA (chL t n) (k + 1) q).toNat) (by have := sz1 hok; omega) (by omega) (fun tr htr => by
      obtain ⟨c, _, hp, _⟩ := t3 tr htr
      exact hp) (by rw [hs]; have := sz1 hok; omega)
    refine ⟨tr, ?_, r2, ?_⟩
    · have hf : few (chL t n q) = true := decide_eq_true (by omega)
      unfold m_hang
      rw [hA q h0 h1]
      show (do
        let _ ← ck (few (chL t n q))
        let ts ← mapO (m_hang k A) (chL t n q)
        m_row ts) = _
      rw [hf, t1]
      exact r1
    · show ((tr.items.length : Nat) : Int) = _
      rw [r3]
      have := sz1 hok
      omega
theorem walk_is (b : Brd t n) (hA : ∀ q, 0 ≤ q → q < (n : Int) → getI A q = some (chL t n q)) : ∀ (k : Nat) {rest : List Int} {row : List T0} {place : Int}, rest.length < k → (∀ q ∈ rest, 0 ≤ q ∧ q < (n : Int)) → 0 ≤ place → place < (n : Int) → (rest.map (szA (chL t n) 9)).sum ≤ 7 → row.length + rest.length ≤ 1000 →
    ∃ rest' new, m_walk t A k rest row place = some (rest', row ++ new) ∧ (∀ tr ∈ new, Tr tr) ∧ (new.map tz).sum + (rest'.map (szA (chL t n) 9)).sum = (rest.map (szA (chL t n) 9)).sum ∧ (∀ q ∈ rest', q ∈ rest) ∧ rest'.length ≤ rest.length ∧ (place ∈ rest → new ≠ [] ∧ rest'.length < rest.length)
  | 0, rest, row, place, h, _, _, _, _, _ => by omega
  | k + 1, rest, row, place, hk, hr, p0, p1, hs, hrow => by
    by_cases hin : place ∈ rest
    · have hsum : (rest.map (szA (chL t n) 9)).sum = szA (chL t n) 9 place + ((rest.erase place).map (szA (chL t n) 9)).sum := by
        rw [perm_sum (List.perm_cons_erase hin), List.map_cons, List.sum_cons]
      have hnn : 0 ≤ ((rest.erase place).map (szA (chL t n) 9)).sum := sum0 fun x _ => sz0 _ 9 x
      obtain ⟨tr, r1, r2, r3⟩ := hang_is b hA 9 p0 p1 (ok9 b p0 p1) (by omega)
      have hlen := List.length_erase_of_mem hin
      have hpos : 0 < rest.length := List.length_pos_of_mem hin
      obtain ⟨g1, g2, g3⟩ := b.get p0 p1
      obtain ⟨rest', new, w1, w2, w3, w4, w5, w6⟩ := walk_is b hA k (rest := rest.erase place) (row := row ++ [tr]) (place := fT t place) (by omega) (fun q hq => hr q (List.mem_of_mem_erase hq)) g2 g3 (by have := sz0 (chL t n) 9 place; omega) (by rw [List.length_append, List.length_singleton]; omega)
      refine ⟨rest', tr :: new, ?_, ?_, ?_, ?_, by omega, fun _ => ⟨by simp, by omega⟩⟩
      · have hf : few row = true := decide_eq_true (by omega)
        unfold m_walk
        rw [if_pos hin, r1]
        show (do
          let row' ← appO row tr
          let q ← getI t.items place
          m_walk t A k (rest.erase place) row' q) = _
        unfold appO
        rw [if_pos hf]
        show (do
          let q ← getI t.items place
          m_walk t A k (rest.erase place) (row ++ [tr]) q) = _
        rw [g1]
        show m_walk t A k (rest.erase place) (row ++ [tr]) (fT t place) = _
        rw [w1, List.append_assoc]
        rfl
      · intro x hx
        rcases List.mem_cons.mp hx with e | hx
        · rw [e]
          exact r2
        · exact w2 x hx
      · rw [List.map_cons, List.sum_cons, r3, hsum]
        omega
      · exact fun q hq => List.mem_of_mem_erase (w4 q hq)
    · refine ⟨rest, [], ?_, fun x hx => by simp at hx, by simp, fun q hq => hq, Nat.le_refl _, fun h => absurd h hin⟩
      unfold m_walk
      rw [if_neg hin, List.append_nil]
end
/-! heaps as lists of pieces and counts -/
def wtK (h : Kvs) : Int := (h.map fun p => p.2 * m_size p.1).sum
structure KV (h : Kvs) : Prop where
  nd : (h.map (·.1)).Nodup
  ok : ∀ p ∈ h, Pc p.1 ∧ 1 ≤ p.2
theorem KV.pos {h : Kvs} (k : KV h) : ∀ p ∈ h, 1 ≤ p.2 * m_size p.1 := fun p hp => by
  obtain ⟨⟨a, _, _⟩, c⟩ := k.ok p hp
  have := Int.mul_pos (a := p.2) (b := m_size p.1) (by omega) (by omega)
  omega
theorem KV.len {h : Kvs} (k : KV h) : (h.length : Int) ≤ wtK h := sum_nn k.pos
theorem look_none {h : Kvs} {p : P0} (e : lookD h p = none) : p ∉ h.map (·.1) := fun hm => by
  obtain ⟨q, hq, rfl⟩ := List.mem_map.mp hm
  unfold lookD at e
  rw [Option.map_eq_none_iff, List.find?_eq_none] at e
  exact e q hq (by simp)
theorem put_kv : ∀ {h : Kvs} {p : P0}, KV h → Pc p → KV (putD h p ((lookD h p).getD 0 + 1)) ∧ wtK (putD h p ((lookD h p).getD 0 + 1)) = wtK h + m_size p := by
  intro h p k hp
  cases e : lookD h p with
  | none =>
    have hn := look_none e
    have ee : putD h p ((none : Option Int).getD 0 + 1) = h ++ [(p, 1)] := by
      unfold putD
      rw [e]
      rfl
    rw [ee]
    refine ⟨⟨?_, fun q hq => ?_⟩, ?_⟩
    · rw [List.map_append, List.nodup_append]
      refine ⟨k.nd, by simp, fun a ha c hc => ?_⟩
      have : c = p := by simpa using hc
      rw [this]
      exact fun z => hn (by rw [← z]; exact ha)
    · rcases List.mem_append.mp hq with z | z
      · exact k.ok q z
      · rw [show q = (p, 1) by simpa using z]
        exact ⟨hp, by show (1 : Int) ≤ 1; decide⟩
    · unfold wtK
      rw [List.map_append, List.sum_append]
      simp
  | some c =>
    have ee : putD h p ((some c : Option Int).getD 0 + 1) = h.map fun q => if q.1 = p then (q.1, c + 1) else q := by
      unfold putD
      rw [e]
      rfl
    rw [ee]
    have hkeys : (h.map fun q => if q.1 = p then (q.1, c + 1) else q).map (·.1) = h.map (·.1) := by
      rw [List.map_map]
      refine List.map_congr_left fun q _ => ?_
      show (if q.1 = p then (q.1, c + 1) else q).1 = q.1
      split <;> rfl
    have hc : (p, c) ∈ h := by
      unfold lookD at e
      cases f : h.find? fun q => decide (q.1 = p) with
      | none => rw [f] at e; cases e
      | some q =>
        rw [f] at e
        have e2 : q.2 = c := Option.some.inj e
        have e4 := List.find?_some f
        have e3 : q.1 = p := of_decide_eq_true e4
        rw [← e2, ← e3]
        exact List.mem_of_find?_eq_some f
    refine ⟨⟨by rw [hkeys]; exact k.nd, fun q hq => ?_⟩, ?_⟩
    · obtain ⟨r, hr, er⟩ := List.mem_map.mp hq
      by_cases z : r.1 = p
      · rw [if_pos z] at er
        rw [← er]
        have := (k.ok (p, c) hc).2
        exact ⟨(k.ok r hr).1, by show 1 ≤ c + 1; have : 1 ≤ c := this; omega⟩
      · rw [if_neg z] at er
        rw [← er]
        exact k.ok r hr
    · have go : ∀ {l : Kvs}, (l.map (·.1)).Nodup → (∀ q ∈ l, q.1 = p → q.2 = c) → p ∈ l.map (·.1) → wtK (l.map fun q => if q.1 = p then (q.1, c + 1) else q) = wtK l + m_size p := by
        intro l
        induction l with
        | nil => intro _ _ h; simp at h
        | cons q l ih =>
          intro hn hq hm
          rw [List.map_cons, List.nodup_cons] at hn
          by_cases z : q.1 = p
          · have hnp : ∀ r ∈ l, r.1 ≠ p := fun r hr e => hn.1 (by rw [z, ← e]; exact List.mem_map.mpr ⟨r, hr, rfl⟩)
            have el : (l.map fun q => if q.1 = p then (q.1, c + 1) else q) = l := by
              conv => rhs; rw [← List.map_id l]
              exact List.map_congr_left fun r hr => by rw [if_neg (hnp r hr)]; rfl
            rw [List.map_cons, if_pos z, el]
            unfold wtK
            rw [List.map_cons, List.map_cons, List.sum_cons, List.sum_cons]
            have := hq q (List.mem_cons_self ..) z
            rw [this, ← z]
            show (c + 1) * m_size q.1 + _ = c * m_size q.1 + _ + m_size q.1
            rw [Int.add_mul, Int.one_mul]
            omega
          · rw [List.map_cons, if_neg z]
            have hm' : p ∈ l.map (·.1) := by
              rw [List.map_cons] at hm
              rcases List.mem_cons.mp hm with y | y
              · exact absurd y.symm z
              · exact y
            have := ih hn.2 (fun r hr => hq r (List.mem_cons_of_mem _ hr)) hm'
            unfold wtK at this ⊢
            rw [List.map_cons, List.map_cons, List.sum_cons, List.sum_cons, this]
            omega
      refine go k.nd (fun q hq z => ?_) (List.mem_map.mpr ⟨_, hc, rfl⟩)
      have : ∀ {l : Kvs}, (l.map (·.1)).Nodup → ∀ q ∈ l, ∀ r ∈ l, q.1 = r.1 → q = r := by
        intro l
        induction l with
        | nil => intro _ q hq; simp at hq
        | cons a l ih =>
          intro hn q hq r hr e
          rw [List.map_cons, List.nodup_cons] at hn
          rcases List.mem_cons.mp hq with q1 | q1 <;> rcases List.mem_cons.mp hr with r1 | r1
          · rw [q1, r1]
          · exact absurd (List.mem_map.mpr ⟨r, r1, by rw [← e, q1]⟩) hn.1
          · exact absurd (List.mem_map.mpr ⟨q, q1, by rw [e, r1]⟩) hn.1
          · exact ih hn.2 q q1 r r1 e
      have := this k.nd q hq (p, c) hc z
      rw [this]
section
variable {t : T0} {n : Nat} {A : List (List Int)}
theorem cycles_is (b : Brd t n) (hA : ∀ q, 0 ≤ q → q < (n : Int) → getI A q = some (chL t n q)) : ∀ (k : Nat) {rest : List Int} {h : Kvs}, rest.length < k → (∀ q ∈ rest, 0 ≤ q ∧ q < (n : Int)) → rest.length ≤ 900 → KV h → wtK h + (rest.map (szA (chL t n) 9)).sum = (n : Int) → ∃ h', m_cycles t A k rest h = some h' ∧ KV h' ∧ wtK h' = (n : Int)
  | 0, rest, h, hk, _, _, _, _ => by omega
  | k + 1, [], h, _, _, _, kv, hw => ⟨h, rfl, kv, by rw [← hw]; simp⟩
  | k + 1, p :: rest, h, hk, hr, hl, kv, hw => by
    have hle := b.le
    have hh0 := kv.len
    obtain ⟨p0, p1⟩ := hr p (List.mem_cons_self ..)
    obtain ⟨rest', new, w1, w2, w3, w4, w5, w6⟩ := walk_is b hA ((p :: rest).length + 1) (rest := p :: rest) (row := []) (place := p) (Nat.lt_succ_self _) hr p0 p1 (by omega) (by rw [List.length_nil]; omega)
    obtain ⟨w7, w8⟩ := w6 (List.mem_cons_self ..)
    have hn0 : 0 ≤ (rest'.map (szA (chL t n) 9)).sum := sum0 fun x _ => sz0 _ 9 x
    have hpos : ∀ x ∈ new, 1 ≤ tz x := fun x hx => by
      have := (w2 x hx).1
      show (1 : Int) ≤ (x.items.length : Int)
      omega
    have hnew := sum_nn hpos
    obtain ⟨pc, q1, q2, q3⟩ := piece_in (row := new) (k := ((new.map tz).sum).toNat) (by omega) w7 w2 (by omega)
    obtain ⟨k1, k2⟩ := put_kv kv q2
    obtain ⟨h', c1, c2, c3⟩ := cycles_is b hA k (rest := rest') (h := putD h pc ((lookD h pc).getD 0 + 1)) (by omega) (fun q hq => hr q (w4 q hq)) (by omega) k1 (by rw [k2, q3]; omega)
    refine ⟨h', ?_, c2, c3⟩
    have hf : few h = true := decide_eq_true (by omega)
    show (do
      let w ← m_walk t A ((p :: rest).length + 1) (p :: rest) [] p
      let pc ← m_least ⟨w.2⟩
      let _ ← ck (few h)
      m_cycles t A k w.1 (putD h pc ((lookD h pc).getD 0 + 1))) = _
    rw [w1]
    show (do
      let pc ← m_least ⟨[] ++ new⟩
      let _ ← ck (few h)
      m_cycles t A k rest' (putD h pc ((lookD h pc).getD 0 + 1))) = _
    rw [List.nil_append, q1]
    show (do
      let _ ← ck (few h)
      m_cycles t A k rest' (putD h pc ((lookD h pc).getD 0 + 1))) = _
    rw [hf]
    exact c1
theorem heap_is (b : Brd t n) : ∃ h, m_heap t = some h ∧ KV h ∧ wtK h = (n : Int) := by
  obtain ⟨A, a1, a2, a3⟩ := ahead_is b
  have hle := b.le
  have hlen : (ringL t n).length ≤ 7 := by
    have := List.length_filter_le (fun p => decide (p ∈ (rngI n).map (itF t n))) (rng 0 n)
    rw [rng_len] at this
    show ((rng 0 n).filter fun p => decide (p ∈ (rngI n).map (itF t n))).length ≤ 7
    omega
  obtain ⟨h, c1, c2, c3⟩ := cycles_is b a3 ((ringL t n).length + 1) (rest := ringL t n) (h := []) (Nat.lt_succ_self _) (fun q hq => ring_in b hq) (by omega) ⟨List.nodup_nil, fun p hp => by simp at hp⟩ (by rw [all_counted b]; simp [wtK])
  refine ⟨h, ?_, c2, c3⟩
  unfold m_heap
  rw [ring_is b]
  show (do
    let ahead ← m_ahead t (ringL t n)
    m_cycles t ahead ((ringL t n).length + 1) (ringL t n) []) = _
  rw [a1]
  exact c1
end
end Oa
set_option Elab.async false
set_option linter.all false
set_option maxRecDepth 100000
set_option maxHeartbeats 1000000
/-! Plain: the falling row of a board's heap is among the rows. -/
namespace Oa
open PySem.W (DatumOrd)
def cntK (h : Kvs) (p : P0) : Int := (lookD h p).getD 0
theorem key_one : ∀ {l : Kvs}, (l.map (·.1)).Nodup → ∀ q ∈ l, ∀ r ∈ l, q.1 = r.1 → q = r := by
  intro l
  induction l with
  | nil => intro _ q hq; simp at hq
  | cons a l ih =>
    intro hn q hq r hr e
    rw [List.map_cons, List.nodup_cons] at hn
    rcases List.mem_cons.mp hq with q1 | q1 <;> rcases List.mem_cons.mp hr with r1 | r1
    · rw [q1, r1]
    · exact absurd (List.mem_map.mpr ⟨r, r1, by rw [← e, q1]⟩) hn.1
    · exact absurd (List.mem_map.mpr ⟨q, q1, by rw [e, r1]⟩) hn.1
    · exact ih hn.2 q q1 r r1 e
theorem look_key {h : Kvs} (k : KV h) {p : P0 × Int} (hp : p ∈ h) : lookD h p.1 = some p.2 := by
  cases e : lookD h p.1 with
  | none => exact absurd (List.mem_map.mpr ⟨p, hp, rfl⟩) (look_none e)
  | some c =>
    unfold lookD at e
    cases f : h.find? fun q => decide (q.1 = p.1) with
    | none => rw [f] at e; cases e
    | some q =>
      rw [f] at e
      have e2 : q.2 = c := Option.some.inj e
      have e4 := List.find?_some f
      have e3 : q.1 = p.1 := of_decide_eq_true e4
      have := key_one k.nd q (List.mem_of_find?_eq_some f) p hp e3
      rw [← e2, this]
theorem cnt_le {h : Kvs} (k : KV h) (hw : wtK h ≤ 7) {p : P0 × Int} (hp : p ∈ h) : 1 ≤ p.2 ∧ p.2 ≤ 7 := by
  obtain ⟨⟨a, _, _⟩, c⟩ := k.ok p hp
  have h1 := le_sum k.pos p hp
  have h2 : p.2 * m_size p.1 ≤ wtK h := h1
  have h3 : p.2 * 1 ≤ p.2 * m_size p.1 := Int.mul_le_mul_of_nonneg_left a (by omega)
  rw [Int.mul_one] at h3
  omega
theorem fall_fold {h : Kvs} : ∀ {ks acc : List P0}, (∀ p ∈ ks, lookD h p = some (cntK h p) ∧ 1 ≤ cntK h p ∧ cntK h p ≤ 7) → acc.length + 7 * ks.length ≤ 1000 →
    foldO (fun found p => do
      let k ← lookD h p
      let _ ← ck (decide (0 ≤ k ∧ k ≤ 50000))
      extO found (List.replicate k.toNat p)) acc ks = some (acc ++ ks.flatMap fun p => List.replicate (cntK h p).toNat p)
  | [], acc, _, _ => by
    show some acc = _
    simp
  | p :: ks, acc, hp, hl => by
    obtain ⟨a1, a2, a3⟩ := hp p (List.mem_cons_self ..)
    rw [List.length_cons] at hl
    have e1 : (do
        let k ← lookD h p
        let _ ← ck (decide (0 ≤ k ∧ k ≤ 50000))
        extO acc (List.replicate k.toNat p)) = some (acc ++ List.replicate (cntK h p).toNat p) := by
      rw [a1]
      have hc : ck (decide (0 ≤ cntK h p ∧ cntK h p ≤ 50000)) = some () := by
        unfold ck
        rw [if_pos (decide_eq_true (by omega))]
      show (do
        let _ ← ck (decide (0 ≤ cntK h p ∧ cntK h p ≤ 50000))
        extO acc (List.replicate (cntK h p).toNat p)) = _
      rw [hc]
      show extO acc (List.replicate (cntK h p).toNat p) = _
      unfold extO few
      rw [if_pos]
      rw [Bool.and_eq_true]
      refine ⟨decide_eq_true (by omega), decide_eq_true ?_⟩
      rw [List.length_replicate]
      omega
    unfold foldO
    rw [e1]
    show foldO _ (acc ++ List.replicate (cntK h p).toNat p) ks = _
    rw [fall_fold (ks := ks) (fun q hq => hp q (List.mem_cons_of_mem _ hq)) (by
      rw [List.length_append, List.length_replicate]
      omega), List.flatMap_cons, List.append_assoc]
theorem fall_pw {lt : P0 → P0 → Bool} (O : Sto lt) {c : P0 → Nat} : ∀ {ks : List P0}, ks.Pairwise (fun a b => lt b a = true) → (ks.flatMap fun p => List.replicate (c p) p).Pairwise fun a b => lt a b = false
  | [], _ => by simp
  | p :: ks, h => by
    obtain ⟨h1, h2⟩ := List.pairwise_cons.mp h
    rw [List.flatMap_cons, List.pairwise_append]
    refine ⟨?_, fall_pw O h2, fun a ha b hb => ?_⟩
    · exact List.pairwise_replicate.mpr (.inr (O.irr p))
    · have e := List.eq_of_mem_replicate ha
      obtain ⟨q, hq, hb'⟩ := List.mem_flatMap.mp hb
      have e2 := List.eq_of_mem_replicate hb'
      rw [e, e2]
      exact O.asym (h1 q hq)
theorem fall_sum {c : P0 → Nat} : ∀ ks : List P0, ((ks.flatMap fun p => List.replicate (c p) p).map m_size).sum = (ks.map fun p => (c p : Int) * m_size p).sum
  | [] => rfl
  | p :: ks => by
    have e : ∀ m : Nat, ((List.replicate m p).map m_size).sum = (m : Int) * m_size p := by
      intro m
      induction m with
      | zero => simp
      | succ m ih =>
        rw [List.replicate_succ, List.map_cons, List.sum_cons, ih, Int.natCast_add, Int.add_mul]
        show m_size p + (m : Int) * m_size p = (m : Int) * m_size p + 1 * m_size p
        rw [Int.one_mul]
        omega
    rw [List.flatMap_cons, List.map_append, List.sum_append, fall_sum ks, e, List.map_cons, List.sum_cons]
theorem size_ne {p : P0} (h : 1 ≤ m_size p) : (!p.items.isEmpty) = true := by
  obtain ⟨l⟩ := p
  cases l with
  | nil => exact absurd h (by decide)
  | cons x r => rfl
theorem fall_is {h : Kvs} {n : Int} (k : KV h) (hw : wtK h = n) (h7 : n ≤ 7) : ∃ r, m_fall h = some r ∧ r.items.Pairwise (fun a b => DatumOrd.lt a b = false) ∧ (∀ p ∈ r.items, Pc p) ∧ (r.items.map m_size).sum = n := by
  have hl := k.len
  have hkeys : ∀ p ∈ h.map (·.1), ∃ c, (p, c) ∈ h := fun p hp => by
    obtain ⟨q, hq, e⟩ := List.mem_map.mp hp
    exact ⟨q.2, by rw [← e]; exact hq⟩
  have hsort : sortO DatumOrd.lt (h.map (·.1)) = some (isort DatumOrd.lt (h.map (·.1))) := by
    unfold sortO srtb few
    rw [if_pos]
    rw [Bool.and_eq_true, Bool.or_eq_true]
    refine ⟨.inr (List.all_eq_true.mpr fun p hp => ?_), decide_eq_true ?_⟩
    · obtain ⟨c, hc⟩ := hkeys p hp
      obtain ⟨⟨z, _, _⟩, _⟩ := k.ok _ hc
      exact size_ne z
    · rw [List.length_map]
      omega
  have hmem : ∀ p ∈ (isort DatumOrd.lt (h.map (·.1))).reverse, ∃ c, (p, c) ∈ h := fun p hp => by
    rw [List.mem_reverse, isort_mem] at hp
    exact hkeys p hp
  have hcnt : ∀ p c, (p, c) ∈ h → cntK h p = c := fun p c hc => by
    unfold cntK
    rw [look_key k hc] <;> rfl
  have hff := fall_fold (h := h) (ks := (isort DatumOrd.lt (h.map (·.1))).reverse) (acc := []) (fun p hp => by
    obtain ⟨c, hc⟩ := hmem p hp
    have e := look_key k hc
    have e2 := hcnt p c hc
    have b := cnt_le k (by omega) hc
    rw [e2]
    exact ⟨e, b⟩) (by rw [List.length_reverse, isort_len, List.length_map, List.length_nil]; omega)
  rw [List.nil_append] at hff
  refine ⟨⟨(isort DatumOrd.lt (h.map (·.1))).reverse.flatMap fun p => List.replicate (cntK h p).toNat p⟩, ?_, ?_, fun p hp => ?_, ?_⟩
  · have hf : few h = true := decide_eq_true (by omega)
    unfold m_fall
    rw [hf, hsort]
    show (do
      let f ← foldO (fun found p => do
        let k ← lookD h p
        let _ ← ck (decide (0 ≤ k ∧ k ≤ 50000))
        extO found (List.replicate k.toNat p)) [] (isort DatumOrd.lt (List.map (fun q : P0 × Int => q.1) h)).reverse
      some (FTup.mk f)) = _
    rw [hff] <;> rfl
  · exact fall_pw sto1' (fall_strict sto1' k.nd)
  · obtain ⟨q, hq, hp'⟩ := List.mem_flatMap.mp hp
    have e := List.eq_of_mem_replicate hp'
    obtain ⟨c, hc⟩ := hmem q hq
    rw [e]
    exact (k.ok _ hc).1
  · show (((isort DatumOrd.lt (h.map (·.1))).reverse.flatMap fun p => List.replicate (cntK h p).toNat p).map m_size).sum = n
    rw [fall_sum, perm_sum ((List.reverse_perm _).trans (isort_perm _)), List.map_map, ← hw]
    unfold wtK
    congr 1
    refine List.map_congr_left fun q hq => ?_
    show ((cntK h q.1).toNat : Int) * m_size q.1 = q.2 * m_size q.1
    rw [hcnt q.1 q.2 hq, Int.toNat_of_nonneg (by have := (k.ok q hq).2; omega)]
theorem fold_ext {pc : Int → Option (List P0)} : ∀ {ks : List Int} {acc L : List P0}, foldO (fun pieces size => do
    let ps ← pc size
    extO pieces ps) acc ks = some L → L = acc ++ ks.flatMap fun k => (pc k).getD []
  | [], acc, L, h => by
    cases h
    simp
  | k :: ks, acc, L, h => by
    unfold foldO at h
    cases q : pc k with
    | none =>
      rw [q] at h
      cases h
    | some ps =>
      have e1 : (do
          let ps ← pc k
          extO acc ps) = extO acc ps := by rw [q] <;> rfl
      rw [e1] at h
      cases e : extO acc ps with
      | none => rw [e] at h; cases h
      | some a =>
        rw [e] at h
        rw [fold_ext h, ← ext' e, List.flatMap_cons, q, List.append_assoc]
        rfl
theorem PL_size : ∀ k ∈ [1, 2, 3, 4, 5, 6, 7], ∀ p ∈ PL k, m_size p = (k : Int) := by decide +kernel
def allP (n : Int) : List P0 := (rng 1 (n + 1)).flatMap fun k => (pcT k).getD []
theorem nodupP : ∀ n ∈ [(0 : Int), 1, 2, 3, 4, 5, 6, 7], (allP n).Nodup := by decide +kernel
theorem in07 {n : Int} (h0 : 0 ≤ n) (h7 : n ≤ 7) : n ∈ [(0 : Int), 1, 2, 3, 4, 5, 6, 7] := by
  simp only [List.mem_cons, List.not_mem_nil, or_false]
  omega
theorem allP_mem {n : Int} {p : P0} (h : Pc p) (hn : m_size p ≤ n) : p ∈ allP n := by
  obtain ⟨a, b, c⟩ := h
  refine List.mem_flatMap.mpr ⟨m_size p, rng_mem.mpr ⟨a, by omega⟩, ?_⟩
  unfold pcT
  rw [if_pos ⟨a, b⟩]
  exact c
theorem rows_in {n : Int} {R : List R0} (h0 : 0 ≤ n) (h7 : n ≤ 7) (hR : g_rows pcT n = some R) {xs : List P0} (h1 : xs.Pairwise fun a b => DatumOrd.lt a b = false) (h2 : ∀ p ∈ xs, Pc p) (h3 : (xs.map m_size).sum = n) : PySem.W.Tup.mk xs ∈ R := by
  unfold g_rows at hR
  obtain ⟨_, _, hR⟩ := bs' hR
  obtain ⟨pieces, q1, hR⟩ := bs' hR
  obtain ⟨s, q2, hR⟩ := bs' hR
  obtain ⟨_, _, hR⟩ := bs' hR
  obtain ⟨ls, q3, q4⟩ := bs' hR
  have e1 : pieces = allP n := by
    have := fold_ext q1
    rw [List.nil_append] at this
    exact this
  have e2 : isort DatumOrd.lt pieces = s := (if_t' q2).2
  have e3 : isort DatumOrd.lt ls = R := (if_t' q4).2
  rw [← e3, isort_mem]
  have hpos : ∀ p ∈ xs, 1 ≤ m_size p := fun p hp => by
    obtain ⟨z, _, _⟩ := h2 p hp
    exact z
  refine lots_mem (fun p hp => ?_) q3 (sub_of (lt := DatumOrd.lt) m_size ?_ h1 (fun p hp => ?_) hpos h3)
  · obtain ⟨q, hq, e⟩ := List.mem_map.mp hp
    rw [← e, ← e2, e1] at *
    rw [List.mem_reverse, isort_mem] at hq
    obtain ⟨k, hk, hq2⟩ := List.mem_flatMap.mp hq
    have hk' := rng_mem.mp hk
    unfold pcT at hq2
    rw [if_pos ⟨hk'.1, by omega⟩] at hq2
    have hq3 : q ∈ PL k.toNat := hq2
    have := PL_size k.toNat (in17 (by omega) (by omega)) q hq3
    show 1 ≤ m_size q
    omega
  · rw [← e2, e1]
    exact fall_strict sto1' (nodupP n (in07 h0 h7))
  · rw [List.mem_reverse, ← e2, isort_mem, e1]
    have := le_sum hpos p hp
    exact allP_mem (h2 p hp) (by omega)
end Oa
set_option Elab.async false
set_option linter.all false
set_option maxRecDepth 100000
set_option maxHeartbeats 1000000
/-! Plain: all together. -/
namespace Oa
open PySem.W (DatumOrd)
theorem stoR' : Sto (DatumOrd.lt : FTup P0 → FTup P0 → Bool) := sto_F sto2'
theorem adj_pw {α : Type} {lt : α → α → Bool} (O : Sto lt) : ∀ {l : List α}, ((l.zip (l.drop 1)).map fun p => lt p.1 p.2).all id = true → l.Pairwise fun a b => lt a b = true
  | [], _ => .nil
  | [x], _ => List.pairwise_singleton _ _
  | x :: y :: l, h => by
    rw [List.drop_one, List.tail_cons, List.zip_cons_cons, List.map_cons, List.all_cons, Bool.and_eq_true] at h
    have h1 : lt x y = true := h.1
    have ih := adj_pw O (l := y :: l) (by rw [List.drop_one, List.tail_cons]; exact h.2)
    refine List.pairwise_cons.mpr ⟨fun z hz => ?_, ih⟩
    rcases List.mem_cons.mp hz with e | hz
    · rw [e]
      exact h1
    · exact O.tr _ _ _ h1 ((List.pairwise_cons.mp ih).1 z hz)
theorem count1 {α : Type} [DecidableEq α] {lt : α → α → Bool} (O : Sto lt) {r : α} : ∀ {l : List α}, l.Pairwise (fun a b => lt a b = true) → r ∈ l → l.countP (fun y => decide (y = r)) = 1
  | [], _, h => by simp at h
  | x :: l, hp, h => by
    obtain ⟨p1, p2⟩ := List.pairwise_cons.mp hp
    rw [List.countP_cons]
    by_cases e : x = r
    · have z : l.countP (fun y => decide (y = r)) = 0 := List.countP_eq_zero.mpr fun y hy => by
        intro q
        have q2 : y = r := of_decide_eq_true q
        have := p1 y hy
        rw [e, q2, O.irr] at this
        cases this
      rw [z, if_pos (decide_eq_true e)]
    · rw [if_neg (by rw [decide_eq_false e]; decide)]
      rcases List.mem_cons.mp h with q | q
      · exact absurd q.symm e
      · rw [count1 O p2 q]
theorem chk_all {n : Int} (h0 : 0 ≤ n) (h7 : n ≤ 7) : chk n = true := by
  have h : n = 0 ∨ n = 1 ∨ n = 2 ∨ n = 3 ∨ n = 4 ∨ n = 5 ∨ n = 6 ∨ n = 7 := by omega
  rcases h with e | e | e | e | e | e | e | e <;> rw [e]
  · exact chk0
  · exact chk1
  · exact chk2
  · exact chk3
  · exact chk4
  · exact chk5
  · exact chk6
  · exact chk7
theorem plain : Plain := fun n h0 h7 => by
  have c := chk_all h0 h7
  unfold chk at c
  cases eR : g_rows pcT n with
  | none => rw [eR] at c; cases c
  | some R =>
    rw [eR] at c
    have c : (match m_heapsR R with
      | none => false
      | some hs => match g_law1 pcT n hs with
        | none => false
        | some rows => decide (rows = fts R) && !hs.isEmpty) = true := c
    cases eH : m_heapsR R with
    | none => rw [eH] at c; cases c
    | some hs =>
      rw [eH] at c
      have c : (match g_law1 pcT n hs with
        | none => false
        | some rows => decide (rows = fts R) && !hs.isEmpty) = true := c
      cases eL : g_law1 pcT n hs with
      | none => rw [eL] at c; cases c
      | some rows =>
        rw [eL] at c
        have c : (decide (rows = fts R) && !hs.isEmpty) = true := c
        rw [Bool.and_eq_true] at c
        have er : rows = fts R := of_decide_eq_true c.1
        have hpc : ∀ k ∈ rng 1 (n + 1), m_piecesOf k = pcT k := fun k hk => pieces_at k (rng_sub h7 hk)
        have eR2 : m_rowsOfPieces n = some R := by rw [rows_g pcT n hpc]; exact eR
        refine ⟨hs, rows, ?_, ?_, ?_, fun t htl hto => ?_⟩
        · have hc : ck (decide (0 ≤ n ∧ n ≤ 7)) = some () := by
            unfold ck
            rw [if_pos (decide_eq_true ⟨h0, h7⟩)]
          unfold m_allHeaps
          rw [hc]
          show m_heapsOf n = _
          unfold m_heapsOf
          rw [eR2]
          exact eH
        · rw [law1_g pcT n hs hpc]
          exact eL
        · intro e
          rw [e] at c
          cases c.2
        · have b : Brd t n.toNat := ⟨htl, by omega, fun x hx => by
            have := hto x hx
            omega⟩
          obtain ⟨h, a1, a2, a3⟩ := heap_is b
          obtain ⟨r, b1, b2, b3, b4⟩ := fall_is a2 (n := n) (by rw [a3]; omega) h7
          refine ⟨h, r, a1, b1, ?_⟩
          have hin : r ∈ rows := by
            rw [er]
            exact List.mem_map.mpr ⟨⟨r.items⟩, rows_in h0 h7 eR b2 b3 b4, rfl⟩
          refine count1 stoR' ?_ hin
          unfold g_law1 at eL
          obtain ⟨_, _, eL⟩ := bs' eL
          obtain ⟨_, _, eL⟩ := bs' eL
          obtain ⟨rows', _, eL⟩ := bs' eL
          obtain ⟨_, c4, eL⟩ := bs' eL
          obtain ⟨_, _, eL⟩ := bs' eL
          obtain ⟨_, _, eL⟩ := bs' eL
          obtain ⟨_, _, eL⟩ := bs' eL
          obtain ⟨_, _, eL⟩ := bs' eL
          obtain ⟨_, _, eL⟩ := bs' eL
          obtain ⟨_, _, eL⟩ := bs' eL
          obtain ⟨_, _, eL⟩ := bs' eL
          have e2 : rows' = rows := Option.some.inj eL
          rw [← e2]
          exact adj_pw stoR' (ck_t c4)
end Oa
set_option Elab.async false
set_option linter.all false
set_option maxRecDepth 100000
set_option maxHeartbeats 1000000
namespace Oa
open PySem PySem.Spec PyProof.Rows L2
abbrev CXq : CXT := CX0
theorem fnp {K : PySem.W.Frag} {h : Heap} {mg : Str → Option Value} (X : K.In h) (G : h.Ns mainGlobals mg) (c : He.SaysD fa fn K) (i j : Nat) {n : Str} {s : Stmt} (h1 : fn[i]? = some (mkD n s) := by rfl) (h2 : fa[j]? = some (.glo n) := by rfl) : FnP K mg n s := by
  obtain ⟨fd, F⟩ := c.def_ i h1
  exact ⟨_, fd, F, He.glo_ok X G (c.fact j h2)⟩
theorem fnt {K : PySem.W.Frag} {h : Heap} {mg : Str → Option Value} (X : K.In h) (G : h.Ns mainGlobals mg) (c : He.SaysD fa fn K) (i j : Nat) {n : Str} {s : Stmt} (h1 : fn[i]? = some (mkD n s) := by rfl) (h2 : fa[j]? = some (.glo n) := by rfl) : FnT K mg n s (He.codeOf K (n, none)) := by
  obtain ⟨fd, F⟩ := c.def_ i h1
  obtain ⟨oc, od, dV, kV, doc, pm, an, cdv, ct, osl, e, lk, hcd, z1, z2⟩ := id F.ex
  obtain ⟨cc, ec⟩ := He.codeIn_ref hcd
  refine ⟨_, fd, F, He.glo_ok X G (c.fact j h2), ?_⟩
  have e1 : fd.code = .ref cc := by
    rw [e]
    exact ec
  rw [He.codeOf_eq (p := (n, none)) lk e1]
  exact e1
abbrev cP (K : PySem.W.Frag) : Addr × Addr := He.cT K ("trees_of_size", none)
theorem facts {P : Program} {w : World} {K : PySem.W.Frag} {h : Heap} {mg : Str → Option Value} {f : Addr} (pl : Plain) (X : K.In h) (G : h.Ns mainGlobals mg) (hfa : mg ("law" : Str) = some (.ref f)) (c : He.SaysD fa fn K) :
    ∃ fd : FuncData, (∀ (s : Shared) (v : Value), BindsTo s fd ⟨[v], []⟩ [("_law_script", v)]) ∧ ∀ base : Heap, K.In base → base.Ns mainGlobals mg → LamX.TabB base mg (cP K).1 (cP K).2 → FnOk P w K mg base CX0 17 f fd ["_law_script"] (spLaw K (cP K).2) := by
  have F_is_integer : FnP K mg "is_integer" S_is_integer := fnp X G c 0 0
  have F_is_between : FnP K mg "is_between" S_is_between := fnp X G c 1 1
  have F_check_number : FnP K mg "check_number" S_check_number := fnp X G c 2 2
  have F_divisor : FnP K mg "divisor" S_divisor := fnp X G c 3 3
  have F_parting : FnP K mg "parting" S_parting := fnp X G c 4 4
  have F_falling : FnP K mg "falling" S_falling := fnp X G c 5 5
  have F_joined : FnP K mg "joined" S_joined := fnp X G c 6 6
  have F_first_turn : FnP K mg "first_turn" S_first_turn := fnp X G c 7 7
  have F_size_of : FnP K mg "size_of" S_size_of := fnp X G c 8 8
  have F_turned_least : FnP K mg "turned_least" S_turned_least := fnp X G c 9 9
  have F_from_kinds : FnP K mg "from_kinds" S_from_kinds := fnp X G c 10 10
  have F_tree_counts : FnP K mg "tree_counts" S_tree_counts := fnp X G c 11 11
  have F_convolved : FnP K mg "convolved" S_convolved := fnp X G c 12 12
  have F_all_row_counts : FnP K mg "all_row_counts" S_all_row_counts := fnp X G c 13 13
  have F_spread_out : FnP K mg "spread_out" S_spread_out := fnp X G c 14 14
  have F_coprime_many : FnP K mg "coprime_many" S_coprime_many := fnp X G c 15 15
  have F_piece_counts : FnP K mg "piece_counts" S_piece_counts := fnp X G c 16 16
  have F_heaps_many : FnP K mg "heaps_many" S_heaps_many := fnp X G c 17 17
  have F_lots_of : FnP K mg "lots_of" S_lots_of := fnp X G c 18 18
  have F_trees_of_size : FnT K mg "trees_of_size" S_trees_of_size (cP K).1 := fnt X G c 19 19
  have F_rows_of_size : FnP K mg "rows_of_size" S_rows_of_size := fnp X G c 20 20
  have F_pieces_of_size : FnP K mg "pieces_of_size" S_pieces_of_size := fnp X G c 21 21
  have F_rows_of_pieces : FnP K mg "rows_of_pieces" S_rows_of_pieces := fnp X G c 22 22
  have F_heaps_of_size : FnP K mg "heaps_of_size" S_heaps_of_size := fnp X G c 23 23
  have F_all_heaps : FnP K mg "all_heaps" S_all_heaps := fnp X G c 24 24
  have F_tests_to : FnP K mg "tests_to" S_tests_to := fnp X G c 25 25
  have F_tests : FnP K mg "tests" S_tests := fnp X G c 26 26
  have F_l_hand : FnP K mg "_law_hand" S_l_hand := fnp X G c 27 27
  have F_l_draw : FnP K mg "_law_draw" S_l_draw := fnp X G c 28 28
  have F_l_is_integer : FnP K mg "_law_is_integer" S_l_is_integer := fnp X G c 29 29
  have F_l_shuffled : FnP K mg "_law_shuffled" S_l_shuffled := fnp X G c 30 30
  have F_l_moved : FnP K mg "_law_moved" S_l_moved := fnp X G c 31 31
  have F_l_board : FnP K mg "_law_board" S_l_board := fnp X G c 32 32
  have F_l_ring_places : FnP K mg "_law_ring_places" S_l_ring_places := fnp X G c 33 33
  have F_l_row : FnP K mg "_law_row" S_l_row := fnp X G c 34 34
  have F_l_hanging : FnP K mg "_law_hanging" S_l_hanging := fnp X G c 35 35
  have F_l_least : FnP K mg "_law_least" S_l_least := fnp X G c 36 36
  have F_l_heap : FnP K mg "_law_heap" S_l_heap := fnp X G c 37 37
  have F_l_branches : FnP K mg "_law_branches" S_l_branches := fnp X G c 38 38
  have F_l_is_tree : FnP K mg "_law_is_tree" S_l_is_tree := fnp X G c 39 39
  have F_l_is_piece : FnP K mg "_law_is_piece" S_l_is_piece := fnp X G c 40 40
  have F_l_number_board : FnP K mg "_law_number_board" S_l_number_board := fnp X G c 41 41
  have F_l_falling : FnP K mg "_law_falling" S_l_falling := fnp X G c 42 42
  have F_l_is_heap : FnP K mg "_law_is_heap" S_l_is_heap := fnp X G c 43 43
  have F_l_ways : FnP K mg "_law_ways" S_l_ways := fnp X G c 44 44
  have F_l_selves : FnP K mg "_law_selves" S_l_selves := fnp X G c 45 45
  have F_l_all_rows : FnP K mg "_law_all_rows" S_l_all_rows := fnp X G c 46 46
  have F_l_tests : FnP K mg "_law_tests" S_l_tests := fnp X G c 47 47
  have F_l_word : FnP K mg "_law_word" S_l_word := fnp X G c 48 48
  have g_isinstance : mg "isinstance" = none := He.free_ok X G (c.fact 58 (f := .free "isinstance") rfl)
  have g_int : mg "int" = none := He.free_ok X G (c.fact 59 (f := .free "int") rfl)
  have g_bool : mg "bool" = none := He.free_ok X G (c.fact 60 (f := .free "bool") rfl)
  have g_len : mg "len" = none := He.free_ok X G (c.fact 61 (f := .free "len") rfl)
  have g_range : mg "range" = none := He.free_ok X G (c.fact 62 (f := .free "range") rfl)
  have g_sorted : mg "sorted" = none := He.free_ok X G (c.fact 63 (f := .free "sorted") rfl)
  have g_tuple : mg "tuple" = none := He.free_ok X G (c.fact 64 (f := .free "tuple") rfl)
  have g_sum : mg "sum" = none := He.free_ok X G (c.fact 65 (f := .free "sum") rfl)
  have g_enumerate : mg "enumerate" = none := He.free_ok X G (c.fact 66 (f := .free "enumerate") rfl)
  have g_zip : mg "zip" = none := He.free_ok X G (c.fact 67 (f := .free "zip") rfl)
  have g_abs : mg "abs" = none := He.free_ok X G (c.fact 68 (f := .free "abs") rfl)
  have g_list : mg "list" = none := He.free_ok X G (c.fact 69 (f := .free "list") rfl)
  have g_min : mg "min" = none := He.free_ok X G (c.fact 70 (f := .free "min") rfl)
  have g_all : mg "all" = none := He.free_ok X G (c.fact 71 (f := .free "all") rfl)
  have g_dict : mg "dict" = none := He.free_ok X G (c.fact 72 (f := .free "dict") rfl)
  have i_MOST_COUNTED := He.int_ok X G (c.fact 55 (f := .int "MOST_COUNTED" 120) rfl)
  have i_MOST_LISTED := He.int_ok X G (c.fact 56 (f := .int "MOST_LISTED" 7) rfl)
  have i_MOST_TESTED := He.int_ok X G (c.fact 57 (f := .int "MOST_TESTED" 7) rfl)
  obtain ⟨n1, n2, n3, n4⟩ := He.exc_ok (c.fact 53 (f := .exc "NoNumber") rfl)
  have gN : mg "NoNumber" = some (.ref (He.ga K "NoNumber")) := He.glo_ok X G (c.fact 51 (f := .glo "NoNumber") rfl)
  have gA : mg "ArrowError" = some (.ref (He.ga K "ArrowError")) := He.glo_ok X G (c.fact 50 (f := .glo "ArrowError") rfl)
  have hex : PySem.W.exmOne K (.ref (He.ga K "NoNumber")) (.ref (He.ga K "NoNumber")) = some true := He.exm_ok (c.fact 54 (f := .exm "NoNumber" "NoNumber" true) rfl)
  have NN : Exn K mg "NoNumber" (He.ga K "NoNumber") := ⟨gN, n1, n2, n3, n4⟩
  obtain ⟨fd, F⟩ := c.def_ 49 (d := mkD "law" S_law) rfl
  have hg := He.glo_ok X G (c.fact 49 (f := .glo "law") rfl)
  have e := hfa.symm.trans hg
  cases e
  have b := FunD.bindsA (ps := ["_law_script"]) F fun _ _ _ _ _ _ us hl => match us, hl with | [_], _ => rfl
  refine ⟨fd, fun s v => b s [v] rfl, fun base kb nb TB => ?_⟩
  have D_is_integer := ok_is_integer (P := P) (w := w) (base := base) F_is_integer g_isinstance g_int g_bool
  have D_is_between := ok_is_between (P := P) (w := w) (base := base) F_is_between D_is_integer
  have D_check := ok_check_number (P := P) (w := w) (base := base) F_check_number D_is_between NN
  have D_divisor := ok_divisor (P := P) (w := w) (base := base) F_divisor
  have D_parting := ok_parting (P := P) (w := w) (base := base) F_parting g_range
  have D_falling := ok_falling (P := P) (w := w) (base := base) F_falling g_sorted
  have D_joined := ok_joined (P := P) (w := w) (base := base) F_joined D_falling g_tuple
  have D_first_turn := ok_first_turn (P := P) (w := w) (base := base) F_first_turn g_range g_len
  have D_size_of := ok_size_of (P := P) (w := w) (base := base) F_size_of g_len g_sum
  have D_turned_least := ok_turned_least (P := P) (w := w) (base := base) F_turned_least D_first_turn
  have D_from_kinds := ok_from_kinds (P := P) (w := w) (base := base) F_from_kinds g_range g_sum
  have D_tree_counts := ok_tree_counts (P := P) (w := w) (base := base) F_tree_counts D_from_kinds g_range
  have D_convolved := ok_convolved (P := P) (w := w) (base := base) F_convolved g_range g_enumerate
  have D_all_row_counts := ok_all_row_counts (P := P) (w := w) (base := base) F_all_row_counts D_convolved g_range
  have D_spread_out := ok_spread_out (P := P) (w := w) (base := base) F_spread_out g_range
  have D_coprime_many := ok_coprime_many (P := P) (w := w) (base := base) F_coprime_many D_divisor g_range g_len
  have D_piece_counts := ok_piece_counts (P := P) (w := w) (base := base) F_piece_counts D_parting D_spread_out D_coprime_many g_range
  have D_heaps_many := ok_heaps_many (P := P) (w := w) (base := base) F_heaps_many D_check D_tree_counts D_all_row_counts D_piece_counts D_from_kinds i_MOST_COUNTED g_range g_enumerate
  have D_lotsT := ok_lots_of (P := P) (w := w) (base := base) (α := T0) F_lots_of g_enumerate 9
  have D_lotsP := ok_lots_of (P := P) (w := w) (base := base) (α := P0) F_lots_of g_enumerate 9
  have D_trees := ok_trees_of_size (P := P) (w := w) (base := base) F_trees_of_size TB D_lotsT D_joined g_range g_sorted
  have D_rows := ok_rows_of_size (P := P) (w := w) (base := base) F_rows_of_size g_int 9
  have D_pieces := ok_pieces_of_size (P := P) (w := w) (base := base) F_pieces_of_size D_trees D_rows D_turned_least g_range g_sorted
  have D_rowsP := ok_rows_of_pieces (P := P) (w := w) (base := base) F_rows_of_pieces D_pieces D_size_of D_lotsP g_range g_sorted
  have D_heaps := ok_heaps_of_size (P := P) (w := w) (base := base) F_heaps_of_size D_rowsP
  have D_all := ok_all_heaps (P := P) (w := w) (base := base) F_all_heaps D_check D_heaps i_MOST_LISTED
  have D_testsTo := ok_tests_to (P := P) (w := w) (base := base) F_tests_to D_pieces g_range
  have D_tests := ok_tests (P := P) (w := w) (base := base) F_tests D_check D_testsTo i_MOST_TESTED
  have D_bad := ok_all_heaps_bad (P := P) (w := w) (base := base) F_all_heaps D_check i_MOST_LISTED
  have D_l_int := ok_l_is_integer (P := P) (w := w) (base := base) F_l_is_integer g_isinstance g_int g_bool
  have D_l_row := ok_l_row (P := P) (w := w) (base := base) F_l_row g_sorted g_tuple
  have D_l_hang := ok_l_hanging (P := P) (w := w) (base := base) F_l_hanging D_l_row 9
  have D_l_least := ok_l_least (P := P) (w := w) (base := base) F_l_least g_min g_range g_len
  have D_l_ring := ok_l_ring_places (P := P) (w := w) (base := base) F_l_ring_places g_range g_len g_list
  have D_l_branches := ok_l_branches (P := P) (w := w) (base := base) F_l_branches g_tuple
  have D_l_nb := ok_l_number_board (P := P) (w := w) (base := base) F_l_number_board g_range g_int g_tuple
  have D_l_fall := ok_l_falling (P := P) (w := w) (base := base) F_l_falling g_sorted g_list g_tuple
  have D_l_tree := ok_l_is_tree (P := P) (w := w) (base := base) F_l_is_tree D_l_int D_l_branches g_range g_len g_isinstance g_tuple g_all 9
  have D_l_piece := ok_l_is_piece (P := P) (w := w) (base := base) F_l_is_piece D_l_tree D_l_least g_len g_isinstance g_tuple g_all
  have D_l_isheap := ok_l_is_heap (P := P) (w := w) (base := base) F_l_is_heap D_l_piece D_l_int g_len g_isinstance g_dict g_sum
  have D_l_ways := ok_l_ways (P := P) (w := w) (base := base) F_l_ways D_l_branches g_range g_len 9
  have D_l_selves := ok_l_selves (P := P) (w := w) (base := base) F_l_selves D_l_ways g_range g_len
  have D_l_tests := ok_l_tests (P := P) (w := w) (base := base) F_l_tests D_tests g_len g_sum
  have D_l_heap := ok_l_heap (P := P) (w := w) (base := base) F_l_heap D_l_ring D_l_hang D_l_least g_range g_len g_tuple
  have D_l_allrows := ok_l_all_rows (P := P) (w := w) (base := base) F_l_all_rows D_l_nb D_l_heap D_l_fall g_range g_sorted
  have D_l_draw := ok_l_draw (P := P) (w := w) (base := base) F_l_draw g_int g_len
  have D_l_shuf := ok_l_shuffled (P := P) (w := w) (base := base) F_l_shuffled D_l_draw g_len g_list
  have D_l_hand := ok_l_hand (P := P) (w := w) (base := base) F_l_hand g_abs g_int g_len
  have D_l_moved := ok_l_moved (P := P) (w := w) (base := base) F_l_moved D_l_shuf g_range g_len g_list g_tuple
  have D_l_board := ok_l_board (P := P) (w := w) (base := base) F_l_board D_l_draw D_l_moved g_range g_int
  have D_l_word := ok_l_word (P := P) (w := w) (base := base) F_l_word D_all D_bad gN gA hex
  exact ok_law pl F D_l_hand D_l_draw D_all D_l_isheap D_l_fall D_heaps_many D_l_allrows D_l_selves D_l_tests D_l_heap D_l_board D_l_word g_isinstance g_list g_all g_len g_zip g_range g_sum
end Oa
open PySem PySem.W PySem.Calls PyProof.Rows
theorem Oa.holds_of (pl : Oa.Plain) : PySem.Challenge.rw_onearrow_k79_whole_all_boards_in_order.Holds := by
  w_on; o_law
  refine HandSHeadRun.head_any (r := OpenLaw.row PySem.Challenge.rw_onearrow_k79_whole_all_boards_in_order) (q := view (OpenLaw.row PySem.Challenge.rw_onearrow_k79_whole_all_boards_in_order).prog [62]) (H := Oa.hk) (ob := Oa.ob) (M := 4000) (loose := Oa.names) (d := HandSHeadRun.topDef (OpenLaw.row PySem.Challenge.rw_onearrow_k79_whole_all_boards_in_order).prog 62) (kwd := []) Oa.ob_eq
    (by kernel_rfl) (fun s => by kernel_rfl) Oa.run (by kernel_rfl) (by kernel_rfl) (by kernel_rfl) (by rfl) (by first | assumption | decide +kernel) (by decide +kernel) ⟨rfl, rfl, rfl, rfl, rfl, by decide +kernel⟩ ?hw ?hc
  case hw => w_witness2
  case hc =>
    refine LamX.walk_ofTsE (l := PySem.Challenge.rw_onearrow_k79_whole_all_boards_in_order) (n := 63) (k := 17) (x := "_law_script") (CX := fun _ => Oa.CXq) rfl (by decide) (by kernel_rfl) ⟨rfl, by decide, by decide⟩ ?F (fun _ _ _ _ _ z => z)
    intro w mg fa h Y G hmg0
    obtain ⟨K, KX, c⟩ := Y
    have hmg : mg ("law" : PySem.Str) = some (.ref fa) := by
      have e : (HandSHeadRun.topDef (OpenLaw.row PySem.Challenge.rw_onearrow_k79_whole_all_boards_in_order).prog 62).name = ("law" : PySem.Str) := by kernel_rfl
      rw [← e]
      exact hmg0
    obtain ⟨fd, hb, hF⟩ := Oa.facts (P := (PySem.Challenge.rw_onearrow_k79_whole_all_boards_in_order).prog) (w := w) pl KX G hmg c.t.d
    have one : ∀ p ∈ [Oa.cP K], p = Oa.cP K := fun p hp => by simpa using hp
    refine ⟨K, KX, fd, [Oa.cP K], Oa.spLaw K (Oa.cP K).2, fun p hp => ?_, fun p hp => ?_, fun p hp => ?_, hb, fun H a ns hl _ hT hS => ⟨a, ns, rfl, hS, by omega, LamX.TabS.nil (hT _ (by simp)), fun _ => rfl⟩, fun base kb nb TB => hF base kb nb (TB _ (by simp))⟩
    · rw [one p hp]
      exact c.empty _ (by simp [Oa.tf])
    · rw [one p hp]
      exact c.out _ (by simp [Oa.tf])
    · rw [one p hp]
      exact PySem.W.codeHd_of_K KX (c.hd _ (by simp [Oa.tf]))
theorem PySem.Challenge.cw_onearrow_k79_whole_all_boards_in_order_holds : PySem.Challenge.rw_onearrow_k79_whole_all_boards_in_order.Holds := by
  exact Oa.holds_of Oa.plain
