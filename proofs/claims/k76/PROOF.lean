import PyProof.Rows.All
import Wide.All
import OpenK.AllK
import Wide.FinOn
import HandS.ForMost
import HandS.Codes
import HandS.IsInst
import HandS.TupAny
import HandS.HeadHook1
import HandS.ExcField
import HandS.HotCalls
import HandS.ExcInit
import HandS.ExcSuper
import HandS.ExcCtx
import HandS.WordsExc
import HandS.Head0
import HandS.Head1
import HandS.Head2
import HandS.HeadEnd
import HandS.HeadHook2
import PyProof.Rows.StrLawsPart
import KE.KExcSuper
import HandS.Words
import HandS.Nested
import HandS.FStr
import HandS.Comp
import HandS.ExcIs
import HandS.ExcInitHot
import HandS.SlotsOwn
import HandS.OwnEq
import KE.KOpsOwn
import HandS.Property
import KE.DataCmp
import PyProof.P3Eq
import PyProof.EqLayable
import PySem.Challenge.RW_onelineatatime_k76_operators_of_pred
set_option Elab.async false
set_option linter.all false
set_option maxRecDepth 100000
/-! names, letters, texts: plain Lean -/
namespace K76
open PySem PySem.Spec PyProof.Rows L2 SX
/-- small letters alone -/
def Low (l : List Nat) : Prop := ∀ c ∈ l, 97 ≤ c ∧ c ≤ 122
def Nam (l : List Nat) : Prop := 1 ≤ l.length ∧ l.length ≤ 8 ∧ Low l
def Let (l : List Nat) : Prop := Nam l ∨ ∃ (a : List Nat) (n : Nat), Nam a ∧ n ≤ 99 ∧ l = a ++ 46 :: TL.numL n
theorem Let.len {l : List Nat} (h : Let l) : l.length ≤ 11 := by
  rcases h with h | ⟨a, n, h, hn, rfl⟩
  · have := h.2.1
    omega
  · have hl : (TL.numL n).length ≤ 2 := by
      have z : ∀ k < 100, (TL.numL k).length ≤ 2 := by decide +kernel
      exact z n (by omega)
    rw [List.length_append, List.length_cons]
    have := h.2.1
    omega
def azS : Str := "abcdefghijklmnopqrstuvwxyz"
theorem az_at {i : Int} (h : 0 ≤ i ∧ i < 26) : atI azS.cps.toList i = some (97 + i.toNat) := by
  have z : ∀ k < 26, azS.cps.toList[k]? = some (97 + k) := by decide +kernel
  obtain ⟨h0, h1⟩ := h
  have e : i = (i.toNat : Int) := by omega
  rw [e]
  exact atI_nat (by rw [Int.toNat_natCast]; exact z _ (by omega))
theorem joinL_single : ∀ l : List Nat, TL.joinL [] (l.map fun c => [c]) = l
  | [] => rfl
  | [c] => rfl
  | c :: d :: r => by
    show [c] ++ ([] ++ TL.joinL [] ((d :: r).map fun c => [c])) = c :: d :: r
    rw [joinL_single (d :: r)] <;> rfl
theorem join_single (l : List Nat) : Txt.join (S []) (l.map fun c => S [c]) = S l := by
  have e : (l.map fun c => S [c]) = (l.map fun c => [c]).map S := by rw [List.map_map] <;> rfl
  rw [e, join_S, joinL_single]
theorem inV_strs (z : Str) : ∀ l : List Str, inV (.str z) (l.map V.str) = decide (z ∈ l)
  | [] => by simp [inV]
  | x :: r => by
    have ih := inV_strs z r
    unfold inV at ih ⊢
    rw [List.map_cons, List.any_cons, ih]
    by_cases h : x = z
    · subst h
      have e : eqV (V.str x) (V.str x) = true := beq_self_eq_true x
      rw [e, Bool.true_or, decide_eq_true List.mem_cons_self]
    · have e : eqV (V.str x) (V.str z) = false := beq_false_of_ne h
      rw [e, Bool.false_or]
      by_cases hm : z ∈ r
      · rw [decide_eq_true hm, decide_eq_true (List.mem_cons_of_mem _ hm)]
      · rw [decide_eq_false hm, decide_eq_false]
        intro q
        rcases List.mem_cons.mp q with q | q
        · exact h q.symm
        · exact hm q
theorem flat_strs (l : List Str) : (l.map V.str).all flatV = true := by
  rw [List.all_map, List.all_eq_true]
  intro _ _
  rfl
/-- a list without doubles within another is not longer -/
theorem nodup_le {α : Type} [DecidableEq α] : ∀ {l m : List α}, l.Nodup → (∀ x ∈ l, x ∈ m) → l.length ≤ m.length
  | [], _, _, _ => Nat.zero_le _
  | x :: r, m, nd, h => by
    obtain ⟨h1, h2⟩ := List.nodup_cons.mp nd
    have hx := h x List.mem_cons_self
    have ih := nodup_le (l := r) (m := m.erase x) h2 fun y hy => by
      have ne : y ≠ x := fun e => h1 (by rw [← e]; exact hy)
      exact (List.mem_erase_of_ne ne).mpr (h y (List.mem_cons_of_mem _ hy))
    rw [List.length_erase_of_mem hx] at ih
    have : 0 < m.length := List.length_pos_of_mem hx
    rw [List.length_cons]
    omega
def taken : List Str := ["line", "not", "and", "or", "by", "quiet", "stuck", "done", "own"]
/-- a name that may be used -/
def Fre (z : Str) : Prop := (∃ l, z = S l ∧ Nam l) ∧ z ∉ taken
/-- the k-th try at a name -/
def nth (p q : List Nat) (sh k : Nat) : Str := S (p ++ (97 + (sh + k) % 26) :: q)
theorem nth_inj {p q : List Nat} {sh i j : Nat} (hi : i < 26) (hj : j < 26) (h : nth p q sh i = nth p q sh j) : i = j := by
  have e := S_inj h
  have e2 := List.append_cancel_left e
  injection e2 with e3
  omega
/-- 26 tries can't all be bad -/
theorem tries {p q : List Nat} {sh : Nat} {bad : List Str} (h : ∀ j < 26, nth p q sh j ∈ bad) : 26 ≤ bad.length := by
  have nd : ((List.range 26).map (nth p q sh)).Nodup := by
    rw [List.nodup_iff_pairwise_ne, List.pairwise_map]
    refine List.Pairwise.imp_of_mem ?_ (List.nodup_iff_pairwise_ne.mp List.nodup_range)
    intro a b ha hb hab e
    exact hab (nth_inj (List.mem_range.mp ha) (List.mem_range.mp hb) e)
  have := nodup_le nd (m := bad) fun x hx => by
    obtain ⟨j, hj, rfl⟩ := List.mem_map.mp hx
    exact h j (List.mem_range.mp hj)
  rwa [List.length_map, List.length_range] at this
end K76

set_option Elab.async false
set_option linter.all false
set_option maxRecDepth 100000
/-! the texts by place, the store, what is kept -/
namespace K76
open PySem PySem.Spec PyProof.Rows L2
abbrev Pg : Program := PySem.Challenge.pw_onelineatatime_k76_operators_of_pred
def topS (i : Nat) : Stmt := Pg.main.body.getD i (.Pass ⟨0, 0, 0, 0⟩)
abbrev s_is_whole : Stmt := topS 22
theorem sc_is_whole : FnScope ["value", "low", "high"] ["value", "low", "high"] (defScope s_is_whole) := ⟨rfl, rfl, rfl, by decide +kernel, rfl, by decide +kernel, by decide +kernel⟩
abbrev s_good_name : Stmt := topS 23
theorem sc_good_name : FnScope ["text", "sign"] ["text"] (defScope s_good_name) := ⟨rfl, rfl, rfl, by decide +kernel, rfl, by decide +kernel, by decide +kernel⟩
abbrev s_free_name : Stmt := topS 24
theorem sc_free_name : FnScope ["text"] ["text"] (defScope s_free_name) := ⟨rfl, rfl, rfl, by decide +kernel, rfl, by decide +kernel, by decide +kernel⟩
abbrev s_short_number : Stmt := topS 25
theorem sc_short_number : FnScope ["text", "sign"] ["text"] (defScope s_short_number) := ⟨rfl, rfl, rfl, by decide +kernel, rfl, by decide +kernel, by decide +kernel⟩
abbrev s_good_letter : Stmt := topS 26
theorem sc_good_letter : FnScope ["text", "name", "dot", "rest"] ["text"] (defScope s_good_letter) := ⟨rfl, rfl, rfl, by decide +kernel, rfl, by decide +kernel, by decide +kernel⟩
abbrev s_two_names : Stmt := topS 31
theorem sc_two_names : FnScope ["first", "second"] ["first", "second"] (defScope s_two_names) := ⟨rfl, rfl, rfl, by decide +kernel, rfl, by decide +kernel, by decide +kernel⟩
abbrev s_is_atom : Stmt := topS 32
theorem sc_is_atom : FnScope ["tree", "kind"] ["tree"] (defScope s_is_atom) := ⟨rfl, rfl, rfl, by decide +kernel, rfl, by decide +kernel, by decide +kernel⟩
abbrev s_begins_with_kind : Stmt := topS 33
theorem sc_begins_with_kind : FnScope ["tree"] ["tree"] (defScope s_begins_with_kind) := ⟨rfl, rfl, rfl, by decide +kernel, rfl, by decide +kernel, by decide +kernel⟩
abbrev s_pred_level : Stmt := topS 34
theorem sc_pred_level : FnScope ["tree", "inner", "left", "right"] ["tree"] (defScope s_pred_level) := ⟨rfl, rfl, rfl, by decide +kernel, rfl, by decide +kernel, by decide +kernel⟩
abbrev s_good_triples : Stmt := topS 35
theorem sc_good_triples : FnScope ["rows", "row"] ["rows"] (defScope s_good_triples) := ⟨rfl, rfl, rfl, by decide +kernel, rfl, by decide +kernel, by decide +kernel⟩
abbrev s_wish_level : Stmt := topS 36
theorem sc_wish_level : FnScope ["tree", "level", "good"] ["tree"] (defScope s_wish_level) := ⟨rfl, rfl, rfl, by decide +kernel, rfl, by decide +kernel, by decide +kernel⟩
abbrev s_Pred_init : Stmt := inClass (topS 37) 0
theorem sc_Pred_init : FnScope ["self", "tree", "depth"] ["self", "tree"] (defScope s_Pred_init) := ⟨rfl, rfl, rfl, by decide +kernel, rfl, by decide +kernel, by decide +kernel⟩
abbrev s_Pred_level : Stmt := inClass (topS 37) 1
theorem sc_Pred_level : FnScope ["self"] ["self"] (defScope s_Pred_level) := ⟨rfl, rfl, rfl, by decide +kernel, rfl, by decide +kernel, by decide +kernel⟩
abbrev s_Pred_eq : Stmt := inClass (topS 37) 2
theorem sc_Pred_eq : FnScope ["self", "other"] ["self", "other"] (defScope s_Pred_eq) := ⟨rfl, rfl, rfl, by decide +kernel, rfl, by decide +kernel, by decide +kernel⟩
abbrev s_Pred_ne : Stmt := inClass (topS 37) 3
theorem sc_Pred_ne : FnScope ["self", "other"] ["self", "other"] (defScope s_Pred_ne) := ⟨rfl, rfl, rfl, by decide +kernel, rfl, by decide +kernel, by decide +kernel⟩
abbrev s_Pred_and : Stmt := inClass (topS 37) 4
theorem sc_Pred_and : FnScope ["self", "other"] ["self", "other"] (defScope s_Pred_and) := ⟨rfl, rfl, rfl, by decide +kernel, rfl, by decide +kernel, by decide +kernel⟩
abbrev s_Pred_or : Stmt := inClass (topS 37) 5
theorem sc_Pred_or : FnScope ["self", "other"] ["self", "other"] (defScope s_Pred_or) := ⟨rfl, rfl, rfl, by decide +kernel, rfl, by decide +kernel, by decide +kernel⟩
abbrev s_Pred_invert : Stmt := inClass (topS 37) 6
theorem sc_Pred_invert : FnScope ["self"] ["self"] (defScope s_Pred_invert) := ⟨rfl, rfl, rfl, by decide +kernel, rfl, by decide +kernel, by decide +kernel⟩
abbrev s_Wish_init : Stmt := inClass (topS 38) 0
theorem sc_Wish_init : FnScope ["self", "tree", "depth"] ["self", "tree"] (defScope s_Wish_init) := ⟨rfl, rfl, rfl, by decide +kernel, rfl, by decide +kernel, by decide +kernel⟩
abbrev s_Wish_eq : Stmt := inClass (topS 38) 1
theorem sc_Wish_eq : FnScope ["self", "other"] ["self", "other"] (defScope s_Wish_eq) := ⟨rfl, rfl, rfl, by decide +kernel, rfl, by decide +kernel, by decide +kernel⟩
abbrev s_Wish_ne : Stmt := inClass (topS 38) 2
theorem sc_Wish_ne : FnScope ["self", "other"] ["self", "other"] (defScope s_Wish_ne) := ⟨rfl, rfl, rfl, by decide +kernel, rfl, by decide +kernel, by decide +kernel⟩
abbrev s_law_store : Stmt := topS 40
theorem sc_law_store : FnScope ["script", "cell"] ["script"] (defScope s_law_store) := ⟨rfl, rfl, rfl, by decide +kernel, rfl, by decide +kernel, by decide +kernel⟩
abbrev s_law_load : Stmt := topS 41
theorem sc_law_load : FnScope ["store", "cell"] ["store"] (defScope s_law_load) := ⟨rfl, rfl, rfl, by decide +kernel, rfl, by decide +kernel, by decide +kernel⟩
abbrev s_law_take : Stmt := topS 42
theorem sc_law_take : FnScope ["store", "many", "rest", "mixed"] ["store", "many"] (defScope s_law_take) := ⟨rfl, rfl, rfl, by decide +kernel, rfl, by decide +kernel, by decide +kernel⟩
abbrev s_law_number : Stmt := topS 43
theorem sc_law_number : FnScope ["store", "low", "high", "way"] ["store", "low", "high"] (defScope s_law_number) := ⟨rfl, rfl, rfl, by decide +kernel, rfl, by decide +kernel, by decide +kernel⟩
abbrev s_law_pick : Stmt := topS 44
theorem sc_law_pick : FnScope ["store", "row"] ["store", "row"] (defScope s_law_pick) := ⟨rfl, rfl, rfl, by decide +kernel, rfl, by decide +kernel, by decide +kernel⟩
abbrev s_law_spell : Stmt := topS 45
theorem sc_law_spell : FnScope ["store", "size", "k"] ["store", "size"] (defScope s_law_spell) := ⟨rfl, rfl, rfl, by decide +kernel, rfl, by decide +kernel, by decide +kernel⟩
abbrev s_law_fresh : Stmt := topS 46
theorem sc_law_fresh : FnScope ["store", "used", "name", "at", "shift", "k"] ["store", "used"] (defScope s_law_fresh) := ⟨rfl, rfl, rfl, by decide +kernel, rfl, by decide +kernel, by decide +kernel⟩
abbrev s_law_titles : Stmt := topS 47
theorem sc_law_titles : FnScope ["store", "n", "names", "i"] ["store", "n"] (defScope s_law_titles) := ⟨rfl, rfl, rfl, by decide +kernel, rfl, by decide +kernel, by decide +kernel⟩
abbrev s_law_alphabet : Stmt := topS 48
theorem sc_law_alphabet : FnScope ["store", "many", "pool", "stem", "k", "letter", "shift", "j"] ["store", "many"] (defScope s_law_alphabet) := ⟨rfl, rfl, rfl, by decide +kernel, rfl, by decide +kernel, by decide +kernel⟩
abbrev s_law_others : Stmt := topS 49
theorem sc_law_others : FnScope ["n", "i", "j"] ["n", "i"] (defScope s_law_others) := ⟨rfl, rfl, rfl, by decide +kernel, rfl, by decide +kernel, by decide +kernel⟩
abbrev s_law_atom : Stmt := topS 50
theorem sc_law_atom : FnScope ["store", "names", "letters", "way", "i", "j"] ["store", "names", "letters"] (defScope s_law_atom) := ⟨rfl, rfl, rfl, by decide +kernel, rfl, by decide +kernel, by decide +kernel⟩
abbrev s_law_pred : Stmt := topS 51
theorem sc_law_pred : FnScope ["store", "names", "letters", "parts", "nots", "many", "k", "at"] ["store", "names", "letters"] (defScope s_law_pred) := ⟨rfl, rfl, rfl, by decide +kernel, rfl, by decide +kernel, by decide +kernel⟩
abbrev s_law_triples : Stmt := topS 52
theorem sc_law_triples : FnScope ["store", "names", "letters", "many", "triples", "k", "i", "j"] ["store", "names", "letters", "many"] (defScope s_law_triples) := ⟨rfl, rfl, rfl, by decide +kernel, rfl, by decide +kernel, by decide +kernel⟩
abbrev s_law_wrong_part : Stmt := topS 53
theorem sc_law_wrong_part : FnScope ["store", "thing", "odd", "wrong", "at"] ["store", "thing"] (defScope s_law_wrong_part) := ⟨rfl, rfl, rfl, by decide +kernel, rfl, by decide +kernel, by decide +kernel⟩
abbrev s_law_wrong_tree : Stmt := topS 54
theorem sc_law_wrong_tree : FnScope ["store", "tree", "way", "odd"] ["store", "tree"] (defScope s_law_wrong_tree) := ⟨rfl, rfl, rfl, by decide +kernel, rfl, by decide +kernel, by decide +kernel⟩
abbrev s_law_equal : Stmt := topS 55
theorem sc_law_equal : FnScope ["due", "seen", "k"] ["due", "seen"] (defScope s_law_equal) := ⟨rfl, rfl, rfl, by decide +kernel, rfl, by decide +kernel, by decide +kernel⟩
abbrev s_law_refusal : Stmt := topS 56
theorem sc_law_refusal : FnScope ["e", "names", "flags", "own", "k"] ["e"] (defScope s_law_refusal) := ⟨rfl, rfl, rfl, by decide +kernel, rfl, by decide +kernel, by decide +kernel⟩
abbrev s_law_level : Stmt := topS 57
theorem sc_law_level : FnScope ["tree", "part"] ["tree"] (defScope s_law_level) := ⟨rfl, rfl, rfl, by decide +kernel, rfl, by decide +kernel, by decide +kernel⟩
abbrev s_law_atoms : Stmt := topS 58
theorem sc_law_atoms : FnScope ["tree", "parts", "part"] ["tree"] (defScope s_law_atoms) := ⟨rfl, rfl, rfl, by decide +kernel, rfl, by decide +kernel, by decide +kernel⟩
abbrev s_law_chain : Stmt := topS 59
theorem sc_law_chain : FnScope ["store", "tree", "names", "letters", "level", "k", "other", "way"] ["store", "tree", "names", "letters", "level"] (defScope s_law_chain) := ⟨rfl, rfl, rfl, by decide +kernel, rfl, by decide +kernel, by decide +kernel⟩
abbrev s_law_twisted : Stmt := topS 60
theorem sc_law_twisted : FnScope ["store", "tree", "way", "kind"] ["store", "tree"] (defScope s_law_twisted) := ⟨rfl, rfl, rfl, by decide +kernel, rfl, by decide +kernel, by decide +kernel⟩
abbrev s_law_new : Stmt := topS 61
theorem sc_law_new : FnScope ["tree", "wish", "e"] ["tree", "wish"] (defScope s_law_new) := ⟨rfl, rfl, rfl, by decide +kernel, rfl, by decide +kernel, by decide +kernel⟩
abbrev s_law_joined : Stmt := topS 62
theorem sc_law_joined : FnScope ["way", "left", "right", "e"] ["way", "left", "right"] (defScope s_law_joined) := ⟨rfl, rfl, rfl, by decide +kernel, rfl, by decide +kernel, by decide +kernel⟩
abbrev s_law_fits : Stmt := topS 63
theorem sc_law_fits : FnScope ["seen", "tree", "wish", "level"] ["seen", "tree", "wish"] (defScope s_law_fits) := ⟨rfl, rfl, rfl, by decide +kernel, rfl, by decide +kernel, by decide +kernel⟩
abbrev s_law_compared : Stmt := topS 64
theorem sc_law_compared : FnScope ["left", "right", "same", "seen"] ["left", "right", "same"] (defScope s_law_compared) := ⟨rfl, rfl, rfl, by decide +kernel, rfl, by decide +kernel, by decide +kernel⟩
abbrev s_law_kept : Stmt := topS 65
theorem sc_law_kept : FnScope ["store", "trees", "preds", "wishes", "k", "near", "at", "odd"] ["store", "trees", "preds", "wishes"] (defScope s_law_kept) := ⟨rfl, rfl, rfl, by decide +kernel, rfl, by decide +kernel, by decide +kernel⟩
abbrev s_law_refusals : Stmt := topS 66
theorem sc_law_refusals : FnScope ["store", "trees", "wishes", "deep", "bad", "home", "things", "thing", "tree"] ["store", "trees", "wishes", "deep"] (defScope s_law_refusals) := ⟨rfl, rfl, rfl, by decide +kernel, rfl, by decide +kernel, by decide +kernel⟩
abbrev s_law : Stmt := topS 67
theorem sc_law : FnScope ["script", "store", "names", "letters", "trees", "deep", "wishes", "preds", "aimed", "k", "a", "b", "way", "tree", "seen"] ["script"] (defScope s_law) := ⟨rfl, rfl, rfl, by decide +kernel, rfl, by decide +kernel, by decide +kernel⟩
abbrev s_BadWish_init : Stmt := inClass (topS 7) 0
abbrev s_TooMany_init : Stmt := inClass (topS 14) 0
/-! ### the built-in names that the defs call -/
structure Nm (K : PySem.W.Frag) (mg : Str → Option Value) : Prop where
  v_SMALL_LETTERS : ∃ u, mg "SMALL_LETTERS" = some u ∧ RelV (.str azS) u
  v_DIGITS : ∃ u, mg "DIGITS" = some u ∧ RelV (.str "0123456789") u
  v_LONGEST_NAME : ∃ u, mg "LONGEST_NAME" = some u ∧ RelV (.int 8) u
  v_NUMBER_TOP : ∃ u, mg "NUMBER_TOP" = some u ∧ RelV (.int 99) u
  v_LEVELS : ∃ u, mg "LEVELS" = some u ∧ RelV (.int 40) u
  v_TAKEN_NAMES : ∃ u, mg "TAKEN_NAMES" = some u ∧ RelV (.ref (He.ga K "TAKEN_NAMES")) u
  v_SINGLE : ∃ u, mg "SINGLE" = some u ∧ RelV (.ref (He.ga K "SINGLE")) u
  s_TAKEN_NAMES : ∀ H : Hp, SqT K H (He.ga K "TAKEN_NAMES") (taken.map V.str)
  s_SINGLE : ∀ H : Hp, SqT K H (He.ga K "SINGLE") ((["quiet", "stuck", "done"] : List Str).map V.str)
  n_len : mg "len" = none
  n_int : mg "int" = none
  n_abs : mg "abs" = none
  n_str : mg "str" = none
  n_list : mg "list" = none
  n_tuple : mg "tuple" = none
  n_sum : mg "sum" = none
  n_max : mg "max" = none
  n_all : mg "all" = none
  n_isinstance : mg "isinstance" = none
  n_range : mg "range" = none
  n_bool : mg "bool" = none
  n_ValueError : mg "ValueError" = none
/-! ### the store of draws: its list, the list of its numbers -/
structure Sto where
  a : Addr
  l : Addr
def StoreAt (H : Hp) (S : Sto) : Prop :=
  ∃ (ns : List Int) (a b c d e : Int), H S.a = some (.lst [.ref S.l, .int a, .int b, .int c, .int d, .int e]) ∧ H S.l = some (.lst (ns.map V.int)) ∧ 0 ≤ a
/-- all but the store is kept, the store is one -/
structure Ext (S : Sto) (H H' : Hp) : Prop where
  keep : ∀ b o, b ≠ S.a → H b = some o → H' b = some o
  st : StoreAt H' S
theorem Ext.refl {S : Sto} {H : Hp} (h : StoreAt H S) : Ext S H H := ⟨fun _ _ _ e => e, h⟩
theorem Ext.trans {S : Sto} {H H1 H2 : Hp} (a : Ext S H H1) (b : Ext S H1 H2) : Ext S H H2 := ⟨fun c o n e => b.keep c o n (a.keep c o n e), b.st⟩
theorem store_ne {H : Hp} {S L : Addr} {ns : List Int} {vs : List V} {x : Addr} (h : H S = some (.lst (.ref x :: vs))) (h' : H L = some (.lst (ns.map V.int))) : L ≠ S := by
  intro e
  subst e
  rw [h] at h'
  cases ns with
  | nil => cases h'
  | cons n r =>
    have z := Option.some.inj h'
    injection z with z
    injection z with z1 z2
    cases z1
/-- a free place is neither of the store's two -/
theorem StoreAt.free {H : Hp} {S : Sto} {p : Addr} (h : StoreAt H S) (hp : H p = none) : p ≠ S.a ∧ p ≠ S.l := by
  obtain ⟨ns, a, b, c, d, e, h1, h2, _⟩ := h
  exact ⟨(ne_of_none h1 hp).symm, (ne_of_none h2 hp).symm⟩
/-- another object is changed -/
theorem StoreAt.put {H : Hp} {S : Sto} {p : Addr} {o : HO} (h : StoreAt H S) (n : p ≠ S.a ∧ p ≠ S.l) : StoreAt (L2.upd H p o) S := by
  obtain ⟨ns, a, b, c, d, e, h1, h2, h3⟩ := h
  exact ⟨ns, a, b, c, d, e, by rw [upd_ne n.1.symm]; exact h1, by rw [upd_ne n.2.symm]; exact h2, h3⟩
theorem Ext.new {S : Sto} {H H1 : Hp} {p : Addr} {o : HO} (h : Ext S H H1) (hp : H1 p = none) : Ext S H (L2.upd H1 p o) :=
  ⟨fun b u n e => by rw [upd_ne (ne_of_none (h.keep b u n e) hp)]; exact h.keep b u n e, h.st.put (h.st.free hp)⟩
/-- an object that H does not know is changed -/
theorem Ext.mut {S : Sto} {H H1 : Hp} {p : Addr} {o : HO} (h : Ext S H H1) (hp : H p = none) (n : p ≠ S.a ∧ p ≠ S.l) : Ext S H (L2.upd H1 p o) :=
  ⟨fun b u nb e => by rw [upd_ne (ne_of_none e hp)]; exact h.keep b u nb e, h.st.put n⟩
/-! ### a def of the text, called by its name -/
def FnX (K : PySem.W.Frag) (mg : Str → Option Value) (x : Str) (st : Stmt) (ps : List Str) : Prop := ∃ f fd, L2.Fun K x x st f fd ∧ mg x = some (.ref f) ∧ Binds K fd ps []
abbrev CalK (P : Program) (w : World) (K : PySem.W.Frag) (mg : Str → Option Value) (base : Heap) (k : Nat) (x : Str) (sp : Sp) : Prop := C8.Cal P w K mg base k x sp []
theorem cal_of {P : Program} {w : World} {K : PySem.W.Frag} {mg : Str → Option Value} {base : Heap} {x : Str} {st : Stmt} {N ps : List Str} {k : Nat} {sp : Sp} (F : FnX K mg x st ps) (S : FnScope N ps (defScope st)) (len : ∀ vs H Q E, sp vs H Q E → vs.length = ps.length)
    (hbody : ∀ (f : Addr) (cdv : Value) (A : Around) (outer : List Env) (s : Shared) (H : Hp) (vs : List V) (Q : VK) (E : XK), Room k (A.deeper (envOfC x (defScope st) s.heap.objs.size f cdv)) → sp vs H Q E →
      ∃ t, PSs (cxOf L2.CX0 P w K mg base N x (defScope st) f cdv A outer s H E).nox (defBody st) t ∧ t { nx := fun _ H' => Q .non H', rt := Q } (start N vs) H) : CalK P w K mg base (k + 1) x sp := by
  obtain ⟨f, fd, Ff, hm, hb⟩ := F
  exact ⟨f, fd, ps, [], Ff.ok S len fun cdv A outer s H vs Q E hr h => hbody f cdv A outer s H vs Q E hr h, hm, Ff.kp, hb, .nil⟩
/-- a promise that nobody asks for -/
theorem cal_false {P : Program} {w : World} {K : PySem.W.Frag} {mg : Str → Option Value} {base : Heap} {x : Str} {st : Stmt} {ps : List Str} {k : Nat} {sp : Sp} (F : FnX K mg x st ps) (h : ∀ vs H Q E, ¬ sp vs H Q E) : CalK P w K mg base k x sp := by
  obtain ⟨f, fd, Ff, hm, hb⟩ := F
  exact ⟨f, fd, ps, [], ⟨fun _ _ _ _ q => (h _ _ _ _ q).elim, fun _ _ _ _ _ _ _ _ _ _ _ _ _ q => (h _ _ _ _ q).elim⟩, hm, Ff.kp, hb, .nil⟩
end K76

set_option Elab.async false
set_option linter.all false
set_option maxRecDepth 100000
set_option maxHeartbeats 2000000
/-! what the head tells: an own Hook -/
namespace K76
open PySem PySem.Spec PyProof.Rows L2 SX L2H HotX
/-! ### defs -/
def fnO (K : PySem.W.Frag) (a : Addr) : He.FnV := match K.lookup a with
  | some ⟨_, _, .func fd, _⟩ => some (fd.name, fd.qualname, fd.params, fd.body, fd.scope, fd.globals, fd.closure, fd.defaults, fd.builtins)
  | _ => none
structure FD where
  ad : PySem.W.Frag → Addr
  nm : Str
  qual : Str
  st : Stmt
def FD.val (d : FD) : He.FnV := some (d.nm, d.qual, defArgs d.st, .stmts (defBody d.st), defScope d.st, mainGlobals, [], .none, builtinsNs)
def FD.ok (K : PySem.W.Frag) (d : FD) : Bool := PySem.W.keepIn K (.ref (d.ad K)) && (match K.lookup (d.ad K) with
  | some ⟨_, _, .func fd, _⟩ => PySem.W.codeIn K fd.code d.qual
  | _ => false)
theorem FD.fun {K : PySem.W.Frag} {d : FD} (e : fnO K (d.ad K) = d.val) (c : d.ok K = true) : ∃ fd, L2.Fun K d.nm d.qual d.st (d.ad K) fd := by
  obtain ⟨kp, c2⟩ := He.ba c
  unfold fnO at e
  cases q : K.lookup (d.ad K) with
  | none =>
    rw [q] at c2
    cases c2
  | some o =>
    obtain ⟨oc, od, dt, osl⟩ := o
    rw [q] at c2 e
    cases dt with
    | func fd =>
      obtain ⟨n1, n2, n3, n4, n5, n6, n7, n8, n9, n10, n11, n12, n13, n14, n15⟩ := fd
      have e2 : (some (n1, n2, n3, n4, n5, n6, n7, n8, n15) : He.FnV) = some (d.nm, d.qual, defArgs d.st, .stmts (defBody d.st), defScope d.st, mainGlobals, [], .none, builtinsNs) := e
      simp only [Option.some.injEq, Prod.mk.injEq] at e2
      obtain ⟨h1, h2, h3, h4, h5, h6, h7, h8, h9⟩ := e2
      subst h1 h2 h3 h4 h5 h6 h7 h8 h9
      exact ⟨_, fun_mk q c2 kp⟩
    | _ => cases c2
/-! ### a def that says super() -/
abbrev FnS : Type := Option (Str × Str × Arguments × FuncBody × Scope × Addr × List Str × Addr)
def fnS (K : PySem.W.Frag) (a : Addr) : FnS := match K.lookup a with
  | some ⟨_, _, .func fd, _⟩ => some (fd.name, fd.qualname, fd.params, fd.body, fd.scope, fd.globals, fd.closure.map (·.1), fd.builtins)
  | _ => none
def FD.valS (d : FD) : FnS := some (d.nm, d.qual, defArgs d.st, .stmts (defBody d.st), defScope d.st, mainGlobals, ["__class__"], builtinsNs)
def cellB (K : PySem.W.Frag) (C : Addr) (cl : List (Str × Addr)) : Bool := match cl with
  | [(_, cc)] => (match K.lookup cc with
    | some ⟨_, _, .cell (some (.ref D)), _⟩ => decide (D = C)
    | _ => false)
  | _ => false
def codeB (K : PySem.W.Frag) (file : Str) (cd : Value) : Bool := match cd with
  | .ref cda => (match K.lookup cda with
    | some ⟨_, _, .fields vs, _⟩ => (match (vs[2]? : Option Value) with
      | some (Value.str f _) => file == f
      | _ => false)
    | _ => false)
  | _ => false
def FD.okS (K : PySem.W.Frag) (file : Str) (C : Addr) (d : FD) : Bool := match K.lookup (d.ad K) with
  | some ⟨_, _, .func fd, _⟩ => decide (fd.defaults = .none) && (decide (fd.kwdefaults = .none) && (PySem.W.codeIn K fd.code d.qual && (cellB K C fd.closure && codeB K file fd.code)))
  | _ => false
theorem cellB_ok {K : PySem.W.Frag} {C : Addr} {x : Str} {cl : List (Str × Addr)} (e : cl.map (·.1) = [x]) (h : cellB K C cl = true) : ∃ cc c d s, cl = [(x, cc)] ∧ K.lookup cc = some ⟨c, d, .cell (some (.ref C)), s⟩ := by
  match cl, e, h with
  | [(y, cc)], e, h =>
    have e1 : y = x := by simpa using e
    have h1 : (match K.lookup cc with
      | some ⟨_, _, .cell (some (.ref D)), _⟩ => decide (D = C)
      | _ => false) = true := h
    split at h1
    · rename_i c d D s q
      have := of_decide_eq_true h1
      subst this e1
      exact ⟨cc, _, _, _, rfl, q⟩
    · cases h1
theorem codeB_ok {K : PySem.W.Frag} {file : Str} {cd : Value} (h : codeB K file cd = true) : ∃ cda c d vs s f t, cd = .ref cda ∧ K.lookup cda = some ⟨c, d, .fields vs, s⟩ ∧ vs[2]? = some (.str f t) ∧ (file == f) = true := by
  unfold codeB at h
  split at h
  · rename_i cda
    split at h
    · rename_i c d vs s q
      split at h
      · rename_i f t q2
        exact ⟨cda, _, _, _, _, _, _, rfl, q, q2, h⟩
      · cases h
    · cases h
  · cases h
/-! ### an own exception class -/
def oexB (K : PySem.W.Frag) (C : Addr) : Bool := match K.lookup C with
  | some ⟨.type "type", _, .cls cd, sl⟩ => (match cd.mro, sl.toList with
    | .ref C' :: bm, [_, _, _, _, some (.builtin n), _] => C' == C && n == "ValueError.__new__" && !cd.hasDel && cd.hasDict && PySem.HandSPX.refsVE bm
    | _, _ => false)
  | _ => false
theorem oexB_ok {K : PySem.W.Frag} {C : Addr} (q : oexB K C = true) : ∃ nm q N bs bm sn sub ab col dd k0 k1 k2 k3 k5, K.lookup C = some (excClassObj nm q C N bs bm true sn sub ab col dd k0 k1 k2 k3 k5 "ValueError.__new__") ∧ PySem.HandSPX.refsVE bm = true := by
  unfold oexB at q
  split at q
  · rename_i dd cd sl ho
    split at q
    · rename_i C' bm k0 k1 k2 k3 n k5 hm hs
      simp only [Bool.and_eq_true, beq_iff_eq, Bool.not_eq_true'] at q
      obtain ⟨⟨⟨⟨rfl, rfl⟩, hdel⟩, hdi⟩, hv⟩ := q
      obtain ⟨nm, bs, mro, ns, qn, hd, sn, sub, ab, col, del⟩ := cd
      dsimp only at hm hdel hdi
      subst hm hdel hdi
      have hsl : sl = #[k0, k1, k2, k3, some (.builtin "ValueError.__new__"), k5] := by
        obtain ⟨l⟩ := sl
        simp only at hs
        rw [hs]
      subst hsl
      exact ⟨nm, qn, ns, bs, bm, sn, sub, ab, col, dd, k0, k1, k2, k3, k5, ho, hv⟩
    · cases q
  · cases q
/-! ### the Hook -/
abbrev Al3 : Type := Bool × List He.FnV × List FnS
def obs3 (ex : PySem.W.Frag → List Bool) (fn sd : List FD) (K : PySem.W.Frag) : Al3 := ((ex K).all id && fn.all fun d => d.ok K, fn.map fun d => fnO K (d.ad K), sd.map fun d => fnS K (d.ad K))
def val3 (fn sd : List FD) : Al3 := (true, fn.map FD.val, sd.map FD.valS)
def as3 (g : Addr → Option Obj) (n : Nat) : List Addr := cStatics :: He.asD g n
def Says3 (ex : PySem.W.Frag → List Bool) (fn sd : List FD) (K : PySem.W.Frag) : Prop := obs3 ex fn sd K = val3 fn sd
def obsG3 (n : Nat) (ex : PySem.W.Frag → List Bool) (fn sd : List FD) (g : Addr → Option Obj) : Al3 := obs3 ex fn sd (He.frG g (as3 g n))
def hook3 (n : Nat) (ex : PySem.W.Frag → List Bool) (fn sd : List FD) : PySem.W.Hook where
  α := Al3
  obs := fun s => obsG3 n ex fn sd s.heap.get?
  val := fun _ => val3 fn sd
  says := fun _ h => ∃ K : PySem.W.Frag, K.In h ∧ Says3 ex fn sd K
  of := fun _ _ e => ⟨_, He.frG_in, e⟩
  keeps := fun _ _ _ ⟨K, hK, c⟩ k => ⟨K, PySem.W.Frag.In.keeps hK k, c⟩
theorem obsG3_eq {n : Nat} {ex : PySem.W.Frag → List Bool} {fn sd : List FD} {g : Addr → Option Obj} {s : Shared} (h : ∀ a, g a = s.heap.get? a) : obsG3 n ex fn sd g = (hook3 n ex fn sd).obs s := by
  have e : g = s.heap.get? := funext h
  rw [e] <;> rfl
section
variable {ex : PySem.W.Frag → List Bool} {fn sd : List FD} {K : PySem.W.Frag}
theorem Says3.fact (c : Says3 ex fn sd K) (i : Nat) {b : Bool} (h : (ex K)[i]? = some b := by rfl) : b = true := by
  have c1 := (He.ba (show ((ex K).all id && fn.all fun d => d.ok K) = true from congrArg (fun z : Al3 => z.1) c)).1
  exact List.all_eq_true.mp c1 b (List.mem_of_getElem? h)
theorem Says3.def_ (c : Says3 ex fn sd K) (i : Nat) {d : FD} (h : fn[i]? = some d := by rfl) : ∃ fd, L2.Fun K d.nm d.qual d.st (d.ad K) fd := by
  have c2 := (He.ba (show ((ex K).all id && fn.all fun d => d.ok K) = true from congrArg (fun z : Al3 => z.1) c)).2
  have e : fn.map (fun d => fnO K (d.ad K)) = fn.map FD.val := congrArg (fun z : Al3 => z.2.1) c
  have e2 : (fn.map fun d => fnO K (d.ad K))[i]? = (fn.map FD.val)[i]? := by rw [e]
  rw [List.getElem?_map, List.getElem?_map, h] at e2
  exact FD.fun (Option.some.inj e2) (List.all_eq_true.mp c2 d (List.mem_of_getElem? h))
theorem Says3.sup (c : Says3 ex fn sd K) (i : Nat) {d : FD} (h : sd[i]? = some d := by rfl) : fnS K (d.ad K) = d.valS := by
  have e : sd.map (fun d => fnS K (d.ad K)) = sd.map FD.valS := congrArg (fun z : Al3 => z.2.2) c
  have e2 : (sd.map fun d => fnS K (d.ad K))[i]? = (sd.map FD.valS)[i]? := by rw [e]
  rw [List.getElem?_map, List.getElem?_map, h] at e2
  exact Option.some.inj e2
end
end K76

set_option Elab.async false
set_option linter.all false
set_option maxRecDepth 100000
set_option maxHeartbeats 0
/-! the facts that the head is asked for, the run -/
namespace K76
open PySem PySem.Spec PyProof.Rows L2 SX L2H HotX
def proA (K : PySem.W.Frag) : Addr := He.ma K (He.ga K "Pred") "level"
def getA (K : PySem.W.Frag) : Addr := match PySem.W.recIn K (proA K) "property" with
  | some (.ref g :: _) => g
  | _ => 0
def recB (K : PySem.W.Frag) : Bool := match PySem.W.recIn K (proA K) "property" with
  | some (.ref _ :: _) => true
  | _ => false

def fn0 : List FD := [⟨fun K => He.ga K "is_whole", "is_whole", "is_whole", s_is_whole⟩, ⟨fun K => He.ga K "good_name", "good_name", "good_name", s_good_name⟩, ⟨fun K => He.ga K "free_name", "free_name", "free_name", s_free_name⟩, ⟨fun K => He.ga K "short_number", "short_number", "short_number", s_short_number⟩, ⟨fun K => He.ga K "good_letter", "good_letter", "good_letter", s_good_letter⟩, ⟨fun K => He.ga K "two_names", "two_names", "two_names", s_two_names⟩, ⟨fun K => He.ga K "is_atom", "is_atom", "is_atom", s_is_atom⟩, ⟨fun K => He.ga K "begins_with_kind", "begins_with_kind", "begins_with_kind", s_begins_with_kind⟩, ⟨fun K => He.ga K "pred_level", "pred_level", "pred_level", s_pred_level⟩, ⟨fun K => He.ga K "good_triples", "good_triples", "good_triples", s_good_triples⟩, ⟨fun K => He.ga K "wish_level", "wish_level", "wish_level", s_wish_level⟩, ⟨fun K => He.ga K "_law_store", "_law_store", "_law_store", s_law_store⟩, ⟨fun K => He.ga K "_law_load", "_law_load", "_law_load", s_law_load⟩, ⟨fun K => He.ga K "_law_take", "_law_take", "_law_take", s_law_take⟩, ⟨fun K => He.ga K "_law_number", "_law_number", "_law_number", s_law_number⟩, ⟨fun K => He.ga K "_law_pick", "_law_pick", "_law_pick", s_law_pick⟩, ⟨fun K => He.ga K "_law_spell", "_law_spell", "_law_spell", s_law_spell⟩, ⟨fun K => He.ga K "_law_fresh", "_law_fresh", "_law_fresh", s_law_fresh⟩, ⟨fun K => He.ga K "_law_titles", "_law_titles", "_law_titles", s_law_titles⟩, ⟨fun K => He.ga K "_law_alphabet", "_law_alphabet", "_law_alphabet", s_law_alphabet⟩, ⟨fun K => He.ga K "_law_others", "_law_others", "_law_others", s_law_others⟩, ⟨fun K => He.ga K "_law_atom", "_law_atom", "_law_atom", s_law_atom⟩, ⟨fun K => He.ga K "_law_pred", "_law_pred", "_law_pred", s_law_pred⟩, ⟨fun K => He.ga K "_law_triples", "_law_triples", "_law_triples", s_law_triples⟩, ⟨fun K => He.ga K "_law_wrong_part", "_law_wrong_part", "_law_wrong_part", s_law_wrong_part⟩]
def fn1 : List FD := [⟨fun K => He.ga K "_law_wrong_tree", "_law_wrong_tree", "_law_wrong_tree", s_law_wrong_tree⟩, ⟨fun K => He.ga K "_law_equal", "_law_equal", "_law_equal", s_law_equal⟩, ⟨fun K => He.ga K "_law_refusal", "_law_refusal", "_law_refusal", s_law_refusal⟩, ⟨fun K => He.ga K "_law_level", "_law_level", "_law_level", s_law_level⟩, ⟨fun K => He.ga K "_law_atoms", "_law_atoms", "_law_atoms", s_law_atoms⟩, ⟨fun K => He.ga K "_law_chain", "_law_chain", "_law_chain", s_law_chain⟩, ⟨fun K => He.ga K "_law_twisted", "_law_twisted", "_law_twisted", s_law_twisted⟩, ⟨fun K => He.ga K "_law_new", "_law_new", "_law_new", s_law_new⟩, ⟨fun K => He.ga K "_law_joined", "_law_joined", "_law_joined", s_law_joined⟩, ⟨fun K => He.ga K "_law_fits", "_law_fits", "_law_fits", s_law_fits⟩, ⟨fun K => He.ga K "_law_compared", "_law_compared", "_law_compared", s_law_compared⟩, ⟨fun K => He.ga K "_law_kept", "_law_kept", "_law_kept", s_law_kept⟩, ⟨fun K => He.ga K "_law_refusals", "_law_refusals", "_law_refusals", s_law_refusals⟩, ⟨fun K => He.ga K "law", "law", "law", s_law⟩, ⟨fun K => He.ma K (He.ga K "Pred") "__init__", "__init__", "Pred.__init__", s_Pred_init⟩, ⟨fun K => He.ma K (He.ga K "Pred") "__eq__", "__eq__", "Pred.__eq__", s_Pred_eq⟩, ⟨fun K => He.ma K (He.ga K "Pred") "__ne__", "__ne__", "Pred.__ne__", s_Pred_ne⟩, ⟨fun K => He.ma K (He.ga K "Pred") "__and__", "__and__", "Pred.__and__", s_Pred_and⟩, ⟨fun K => He.ma K (He.ga K "Pred") "__or__", "__or__", "Pred.__or__", s_Pred_or⟩, ⟨fun K => He.ma K (He.ga K "Pred") "__invert__", "__invert__", "Pred.__invert__", s_Pred_invert⟩, ⟨fun K => He.ma K (He.ga K "Wish") "__init__", "__init__", "Wish.__init__", s_Wish_init⟩, ⟨fun K => He.ma K (He.ga K "Wish") "__eq__", "__eq__", "Wish.__eq__", s_Wish_eq⟩, ⟨fun K => He.ma K (He.ga K "Wish") "__ne__", "__ne__", "Wish.__ne__", s_Wish_ne⟩, ⟨getA, "level", "Pred.level", s_Pred_level⟩]
def fnA : List FD := fn0 ++ fn1
def sdA : List FD := [⟨fun K => He.ma K (He.ga K "BadWish") "__init__", "__init__", "BadWish.__init__", s_BadWish_init⟩, ⟨fun K => He.ma K (He.ga K "TooMany") "__init__", "__init__", "TooMany.__init__", s_TooMany_init⟩]
def ex0 (K : PySem.W.Frag) : List Bool := [(He.Fa.glo "is_whole").ok K,
  (He.Fa.glo "good_name").ok K,
  (He.Fa.glo "free_name").ok K,
  (He.Fa.glo "short_number").ok K,
  (He.Fa.glo "good_letter").ok K,
  (He.Fa.glo "two_names").ok K,
  (He.Fa.glo "is_atom").ok K,
  (He.Fa.glo "begins_with_kind").ok K,
  (He.Fa.glo "pred_level").ok K,
  (He.Fa.glo "good_triples").ok K,
  (He.Fa.glo "wish_level").ok K,
  (He.Fa.glo "_law_store").ok K,
  (He.Fa.glo "_law_load").ok K,
  (He.Fa.glo "_law_take").ok K,
  (He.Fa.glo "_law_number").ok K,
  (He.Fa.glo "_law_pick").ok K,
  (He.Fa.glo "_law_spell").ok K,
  (He.Fa.glo "_law_fresh").ok K,
  (He.Fa.glo "_law_titles").ok K,
  (He.Fa.glo "_law_alphabet").ok K,
  (He.Fa.glo "_law_others").ok K,
  (He.Fa.glo "_law_atom").ok K,
  (He.Fa.glo "_law_pred").ok K,
  (He.Fa.glo "_law_triples").ok K,
  (He.Fa.glo "_law_wrong_part").ok K,
  (He.Fa.glo "_law_wrong_tree").ok K,
  (He.Fa.glo "_law_equal").ok K,
  (He.Fa.glo "_law_refusal").ok K,
  (He.Fa.glo "_law_level").ok K,
  (He.Fa.glo "_law_atoms").ok K]
def ex1 (K : PySem.W.Frag) : List Bool := [(He.Fa.glo "_law_chain").ok K,
  (He.Fa.glo "_law_twisted").ok K,
  (He.Fa.glo "_law_new").ok K,
  (He.Fa.glo "_law_joined").ok K,
  (He.Fa.glo "_law_fits").ok K,
  (He.Fa.glo "_law_compared").ok K,
  (He.Fa.glo "_law_kept").ok K,
  (He.Fa.glo "_law_refusals").ok K,
  (He.Fa.glo "law").ok K,
  (He.Fa.glo "BadMachine").ok K,
  (He.Fa.glo "BadNet").ok K,
  (He.Fa.glo "BadStanding").ok K,
  (He.Fa.glo "BadWord").ok K,
  (He.Fa.glo "BadText").ok K,
  (He.Fa.glo "BadWish").ok K,
  (He.Fa.glo "BadPaper").ok K,
  (He.Fa.glo "Cannot").ok K,
  (He.Fa.glo "Loud").ok K,
  (He.Fa.glo "NotCalm").ok K,
  (He.Fa.glo "NotThere").ok K,
  (He.Fa.glo "NoJoin").ok K,
  (He.Fa.glo "TooMany").ok K,
  (He.Fa.glo "Reserved").ok K,
  (He.Fa.glo "Nothing").ok K,
  (He.Fa.glo "Pred").ok K,
  (He.Fa.glo "Wish").ok K,
  (He.Fa.glo "OneError").ok K,
  (He.Fa.free "len").ok K,
  (He.Fa.free "int").ok K,
  (He.Fa.free "abs").ok K]
def ex2 (K : PySem.W.Frag) : List Bool := [(He.Fa.free "str").ok K,
  (He.Fa.free "list").ok K,
  (He.Fa.free "tuple").ok K,
  (He.Fa.free "sum").ok K,
  (He.Fa.free "max").ok K,
  (He.Fa.free "all").ok K,
  (He.Fa.free "isinstance").ok K,
  (He.Fa.free "range").ok K,
  (He.Fa.free "bool").ok K,
  (He.Fa.free "ValueError").ok K,
  (He.Fa.free "super").ok K,
  (He.Fa.str "SMALL_LETTERS" azS).ok K,
  (He.Fa.str "DIGITS" "0123456789").ok K,
  (He.Fa.int "LONGEST_NAME" 8).ok K,
  (He.Fa.int "NUMBER_TOP" 99).ok K,
  (He.Fa.int "LEVELS" 40).ok K,
  (He.Fa.glo "TAKEN_NAMES").ok K,
  He.tupB K "TAKEN_NAMES" (taken.map He.Dv.str),
  (He.Fa.glo "SINGLE").ok K,
  He.tupB K "SINGLE" ((["quiet", "stuck", "done"] : List Str).map He.Dv.str),
  (He.Fa.cls "Pred").ok K,
  He.eqO (PySem.W.findIn K (.ref (He.ga K "Pred")) "__class__") (some (some (.builtin "object.__class__"))),
  He.eqO (PySem.W.specialIn K (.builtin "object.__class__") "__get__") (some (some (.builtin "getset_descriptor.__get__"))),
  decide (PySem.W.takesIn K (.builtin "object.__class__") = some true),
  decide (PySem.W.mroIn K (He.ga K "Pred") (.type "object") = some true),
  decide (PySem.W.subIn K (.ref (He.ga K "Pred")) (.type "NoneType") = some false),
  decide (PySem.W.subIn K (.ref (He.ga K "Pred")) (.type "bool") = some false),
  decide (PySem.W.subIn K (.ref (He.ga K "Pred")) (.type "int") = some false),
  decide (PySem.W.subIn K (.ref (He.ga K "Pred")) (.type "str") = some false),
  decide (PySem.W.subIn K (.ref (He.ga K "Pred")) (.type "list") = some false)]
def ex3 (K : PySem.W.Frag) : List Bool := [decide (PySem.W.subIn K (.ref (He.ga K "Pred")) (.type "tuple") = some false),
  (["NoneType", "bool", "int", "str", "list", "tuple"] : List String).all fun T => PySem.W.notFirst K (He.ga K "Pred") (.type T),
  (["NoneType", "bool", "int", "str", "list", "tuple", "dict"] : List String).all fun T => decide (PySem.W.kitOne K (.type T) (.ref (He.ga K "Pred")) = some false),
  decide (PySem.W.kitOne K (.ref (He.ga K "Pred")) (.ref (He.ga K "Pred")) = some true),
  (He.Fa.noat "Pred" "tree").ok K,
  (He.Fa.mkr "Pred").ok K,
  (He.Fa.cls "Wish").ok K,
  He.eqO (PySem.W.findIn K (.ref (He.ga K "Wish")) "__class__") (some (some (.builtin "object.__class__"))),
  He.eqO (PySem.W.specialIn K (.builtin "object.__class__") "__get__") (some (some (.builtin "getset_descriptor.__get__"))),
  decide (PySem.W.takesIn K (.builtin "object.__class__") = some true),
  decide (PySem.W.mroIn K (He.ga K "Wish") (.type "object") = some true),
  decide (PySem.W.subIn K (.ref (He.ga K "Wish")) (.type "NoneType") = some false),
  decide (PySem.W.subIn K (.ref (He.ga K "Wish")) (.type "bool") = some false),
  decide (PySem.W.subIn K (.ref (He.ga K "Wish")) (.type "int") = some false),
  decide (PySem.W.subIn K (.ref (He.ga K "Wish")) (.type "str") = some false),
  decide (PySem.W.subIn K (.ref (He.ga K "Wish")) (.type "list") = some false),
  decide (PySem.W.subIn K (.ref (He.ga K "Wish")) (.type "tuple") = some false),
  (["NoneType", "bool", "int", "str", "list", "tuple"] : List String).all fun T => PySem.W.notFirst K (He.ga K "Wish") (.type T),
  (["NoneType", "bool", "int", "str", "list", "tuple", "dict"] : List String).all fun T => decide (PySem.W.kitOne K (.type T) (.ref (He.ga K "Wish")) = some false),
  decide (PySem.W.kitOne K (.ref (He.ga K "Wish")) (.ref (He.ga K "Wish")) = some true),
  (He.Fa.noat "Wish" "tree").ok K,
  (He.Fa.mkr "Wish").ok K,
  (He.Fa.noat "Pred" "own_level").ok K,
  (He.Fa.noat "Wish" "kind").ok K,
  (He.Fa.meth "Pred" "__eq__").ok K,
  (He.Fa.meth "Pred" "__ne__").ok K,
  (He.Fa.meth "Pred" "__and__").ok K,
  (He.Fa.meth "Pred" "__or__").ok K,
  (He.Fa.meth "Pred" "__invert__").ok K,
  (He.Fa.meth "Wish" "__eq__").ok K]
def ex4 (K : PySem.W.Frag) : List Bool := [(He.Fa.meth "Wish" "__ne__").ok K,
  PySem.W.notFirst K (He.ga K "Pred") (.ref (He.ga K "Wish")),
  PySem.W.notFirst K (He.ga K "Wish") (.ref (He.ga K "Pred")),
  decide (PySem.W.kitOne K (.ref (He.ga K "Pred")) (.ref (He.ga K "Wish")) = some false),
  decide (PySem.W.kitOne K (.ref (He.ga K "Wish")) (.ref (He.ga K "Pred")) = some false),
  PySem.W.selfFirst K (He.ga K "Pred"),
  He.eqO (PySem.W.findIn K (.ref (He.ga K "Pred")) "level") (some (some (.ref (proA K)))),
  He.eqO (PySem.W.specialIn K (.ref (proA K)) "__get__") (some (some (.builtin "property.__get__"))),
  decide (PySem.W.takesIn K (.ref (proA K)) = some true),
  recB K,
  oexB K (He.ga K "BadWish"),
  He.eqO (PySem.W.findIn K (.ref (He.ga K "BadWish")) "__setattr__") (some (some (.builtin "object.__setattr__"))),
  decide (PySem.W.subIn K (.ref (He.ga K "BadWish")) (.type "BaseException") = some true),
  decide (PySem.W.typeIn K (.ref (He.ga K "BadWish")) = some (.type "type")),
  PySem.W.keepIn K (.ref (He.ga K "BadWish")),
  He.eqO (PySem.W.ks_superIn K (He.ga K "BadWish") (He.ga K "BadWish") "__init__") (some (some (.builtin "ValueError.__init__"))),
  decide (PySem.W.subIn K (.ref (He.ga K "BadWish")) (.type "ValueError") = some true),
  decide (PySem.W.mroIn K (He.ga K "BadWish") (.ref (He.ga K "BadWish")) = some true),
  He.eqO (PySem.W.findIn K (.ref (He.ga K "BadWish")) "at") (some none),
  He.eqO (PySem.W.findIn K (.ref (He.ga K "BadWish")) "__init__") (some (some (.ref (He.ma K (He.ga K "BadWish") "__init__")))),
  decide (PySem.W.typeIn K (.ref (He.ma K (He.ga K "BadWish") "__init__")) = some (.type "function")),
  FD.okS K Pg.main.file (He.ga K "BadWish") ⟨fun K => He.ma K (He.ga K "BadWish") "__init__", "__init__", "BadWish.__init__", s_BadWish_init⟩,
  xfB K (He.ga K "BadWish"),
  He.eqO (PySem.W.findIn K (.ref (He.ga K "BadWish")) "__class__") (some (some (.builtin "object.__class__"))),
  decide (PySem.W.mroIn K (He.ga K "BadWish") (.type "object") = some true),
  (He.Fa.exm "BadWish" "OneError" true).ok K,
  decide (PySem.W.kitOne K (.ref (He.ga K "BadWish")) (.type "ValueError") = some true),
  decide (PySem.W.kitOne K (.ref (He.ga K "BadWish")) (.ref (He.ga K "BadMachine")) = some false),
  decide (PySem.W.kitOne K (.ref (He.ga K "BadWish")) (.ref (He.ga K "BadNet")) = some false),
  decide (PySem.W.kitOne K (.ref (He.ga K "BadWish")) (.ref (He.ga K "BadStanding")) = some false)]
def ex5 (K : PySem.W.Frag) : List Bool := [decide (PySem.W.kitOne K (.ref (He.ga K "BadWish")) (.ref (He.ga K "BadWord")) = some false),
  decide (PySem.W.kitOne K (.ref (He.ga K "BadWish")) (.ref (He.ga K "BadText")) = some false),
  decide (PySem.W.kitOne K (.ref (He.ga K "BadWish")) (.ref (He.ga K "BadWish")) = some true),
  decide (PySem.W.kitOne K (.ref (He.ga K "BadWish")) (.ref (He.ga K "BadPaper")) = some false),
  decide (PySem.W.kitOne K (.ref (He.ga K "BadWish")) (.ref (He.ga K "Cannot")) = some false),
  decide (PySem.W.kitOne K (.ref (He.ga K "BadWish")) (.ref (He.ga K "Loud")) = some false),
  decide (PySem.W.kitOne K (.ref (He.ga K "BadWish")) (.ref (He.ga K "NotCalm")) = some false),
  decide (PySem.W.kitOne K (.ref (He.ga K "BadWish")) (.ref (He.ga K "NotThere")) = some false),
  decide (PySem.W.kitOne K (.ref (He.ga K "BadWish")) (.ref (He.ga K "NoJoin")) = some false),
  decide (PySem.W.kitOne K (.ref (He.ga K "BadWish")) (.ref (He.ga K "TooMany")) = some false),
  decide (PySem.W.kitOne K (.ref (He.ga K "BadWish")) (.ref (He.ga K "Reserved")) = some false),
  decide (PySem.W.kitOne K (.ref (He.ga K "BadWish")) (.ref (He.ga K "Nothing")) = some false),
  oexB K (He.ga K "TooMany"),
  He.eqO (PySem.W.findIn K (.ref (He.ga K "TooMany")) "__setattr__") (some (some (.builtin "object.__setattr__"))),
  decide (PySem.W.subIn K (.ref (He.ga K "TooMany")) (.type "BaseException") = some true),
  decide (PySem.W.typeIn K (.ref (He.ga K "TooMany")) = some (.type "type")),
  PySem.W.keepIn K (.ref (He.ga K "TooMany")),
  He.eqO (PySem.W.ks_superIn K (He.ga K "TooMany") (He.ga K "TooMany") "__init__") (some (some (.builtin "ValueError.__init__"))),
  decide (PySem.W.subIn K (.ref (He.ga K "TooMany")) (.type "ValueError") = some true),
  decide (PySem.W.mroIn K (He.ga K "TooMany") (.ref (He.ga K "TooMany")) = some true),
  He.eqO (PySem.W.findIn K (.ref (He.ga K "TooMany")) "limit") (some none),
  He.eqO (PySem.W.findIn K (.ref (He.ga K "TooMany")) "__init__") (some (some (.ref (He.ma K (He.ga K "TooMany") "__init__")))),
  decide (PySem.W.typeIn K (.ref (He.ma K (He.ga K "TooMany") "__init__")) = some (.type "function")),
  FD.okS K Pg.main.file (He.ga K "TooMany") ⟨fun K => He.ma K (He.ga K "TooMany") "__init__", "__init__", "TooMany.__init__", s_TooMany_init⟩,
  xfB K (He.ga K "TooMany"),
  He.eqO (PySem.W.findIn K (.ref (He.ga K "TooMany")) "__class__") (some (some (.builtin "object.__class__"))),
  decide (PySem.W.mroIn K (He.ga K "TooMany") (.type "object") = some true),
  (He.Fa.exm "TooMany" "OneError" true).ok K,
  decide (PySem.W.kitOne K (.ref (He.ga K "TooMany")) (.type "ValueError") = some true),
  decide (PySem.W.kitOne K (.ref (He.ga K "TooMany")) (.ref (He.ga K "BadMachine")) = some false)]
def ex6 (K : PySem.W.Frag) : List Bool := [decide (PySem.W.kitOne K (.ref (He.ga K "TooMany")) (.ref (He.ga K "BadNet")) = some false),
  decide (PySem.W.kitOne K (.ref (He.ga K "TooMany")) (.ref (He.ga K "BadStanding")) = some false),
  decide (PySem.W.kitOne K (.ref (He.ga K "TooMany")) (.ref (He.ga K "BadWord")) = some false),
  decide (PySem.W.kitOne K (.ref (He.ga K "TooMany")) (.ref (He.ga K "BadText")) = some false),
  decide (PySem.W.kitOne K (.ref (He.ga K "TooMany")) (.ref (He.ga K "BadWish")) = some false),
  decide (PySem.W.kitOne K (.ref (He.ga K "TooMany")) (.ref (He.ga K "BadPaper")) = some false),
  decide (PySem.W.kitOne K (.ref (He.ga K "TooMany")) (.ref (He.ga K "Cannot")) = some false),
  decide (PySem.W.kitOne K (.ref (He.ga K "TooMany")) (.ref (He.ga K "Loud")) = some false),
  decide (PySem.W.kitOne K (.ref (He.ga K "TooMany")) (.ref (He.ga K "NotCalm")) = some false),
  decide (PySem.W.kitOne K (.ref (He.ga K "TooMany")) (.ref (He.ga K "NotThere")) = some false),
  decide (PySem.W.kitOne K (.ref (He.ga K "TooMany")) (.ref (He.ga K "NoJoin")) = some false),
  decide (PySem.W.kitOne K (.ref (He.ga K "TooMany")) (.ref (He.ga K "TooMany")) = some true),
  decide (PySem.W.kitOne K (.ref (He.ga K "TooMany")) (.ref (He.ga K "Reserved")) = some false),
  decide (PySem.W.kitOne K (.ref (He.ga K "TooMany")) (.ref (He.ga K "Nothing")) = some false),
  He.eqO (PySem.W.nsIn K cStatics "thirdparty.any") (some none)]
def exA (K : PySem.W.Frag) : List Bool := ex0 K ++ (ex1 K ++ (ex2 K ++ (ex3 K ++ (ex4 K ++ (ex5 K ++ (ex6 K))))))
def looseN : List Str := (["OneError", "BadMachine", "BadNet", "BadStanding", "BadWord", "BadText", "BadWish", "BadPaper", "Cannot", "Loud", "NotCalm", "NotThere", "NoJoin", "TooMany", "Reserved", "Nothing", "SMALL_LETTERS", "DIGITS", "LONGEST_NAME", "TAKEN_NAMES", "LEVELS", "NUMBER_TOP", "SINGLE", "Pred", "Wish", "is_whole", "good_name", "free_name", "short_number", "good_letter"] : List Str) ++ (["two_names", "is_atom", "begins_with_kind", "pred_level", "good_triples", "wish_level", "_law_store", "_law_load", "_law_take", "_law_number", "_law_pick", "_law_spell", "_law_fresh", "_law_titles", "_law_alphabet", "_law_others", "_law_atom", "_law_pred", "_law_triples", "_law_wrong_part", "_law_wrong_tree", "_law_equal", "_law_refusal", "_law_level", "_law_atoms", "_law_chain", "_law_twisted", "_law_new", "_law_joined", "_law_fits"] : List Str) ++ (["_law_compared", "_law_kept", "_law_refusals"] : List Str)
abbrev Rw : PySem.W.OpenRow := PySem.W.OpenLaw.row PySem.Challenge.rw_onelineatatime_k76_operators_of_pred
abbrev hkA : PySem.W.Hook := hook3 5 exA fnA sdA
def obA (s : PySem.W.SharedT) : Al3 := obsG3 5 exA fnA sdA (HandSHeadRun.getT s)
theorem obA_eq (s : PySem.W.SharedT) : obA s = hkA.obs s.abs := obsG3_eq (HandSHeadRun.getT_eq s)
theorem runA (w : World) : HandSHeadRun.RunEq Rw (PySem.W.view Rw.prog [67]) hkA obA 12000 looseN w := by
  intro os
  kernel_rfl
end K76

set_option Elab.async false
set_option linter.all false
set_option maxRecDepth 100000
/-! small steps through a reading -/
namespace K76
open PySem PySem.Spec PyProof.Rows L2
section
variable {K : PySem.W.Frag} {t u : TS} {tt uu : TT} {ta tb te : TE} {tr : TA} {D : Ends} {σ : L2.St} {H : Hp} {Q : VK} {QB : Bool → Hp → Prop} {QL : List V → Hp → Prop} {QS : L2.St → Hp → Prop} {g : TG} {gs : TGs} {x y v : V}
theorem x_seq (h : t { D with nx := u D } σ H) : tSeq t u D σ H := h
theorem x_asg (h : te σ H fun x H1 => g x σ H1 D.nx) : tAsg te g D σ H := h
theorem x_name {i : Nat} (h : QS (σ.set i (some v)) H) : gName i v σ H QS := h
theorem x_ret (h : te σ H D.rt) : tRet te D σ H := h
theorem x_retN (h : D.rt .non H) : tRetN D σ H := h
theorem x_drop (h : te σ H fun _ H1 => D.nx σ H1) : tDrop te D σ H := h
theorem x_next (h : D.nx σ H) : tNext D σ H := h
theorem x_ifS (h : tt σ H fun b H1 => if b = true then t D σ H1 else u D σ H1) : tIfS tt t u D σ H := h
theorem x_sub {to ti : TE} {ts : TSet} (h : to σ H fun o H1 => ti σ H1 fun i H2 => ts o i v H2 fun H3 => QS σ H3) : gSub to ti ts v σ H QS := h
theorem x_var {i : Nat} (e : σ[i]? = some (some v)) (h : Q v H) : tVar i σ H Q := ⟨v, e, h⟩
theorem x_c (h : Q v H) : tC v σ H Q := h
theorem x_op {r : R2} (h : ta σ H fun x H1 => tb σ H1 fun y H2 => r x y H2 Q) : tOp r ta tb σ H Q := h
theorem x_un {r : V → Hp → VK → Prop} (h : ta σ H fun x H1 => r x H1 Q) : tUn r ta σ H Q := h
theorem x_test (h : te σ H fun x H1 => ∃ k, x = .bl k ∧ QB k H1) : tTest te σ H QB := h
theorem x_B (h : te σ H fun x H1 => ∃ k, x = .bl k ∧ QB k H1) : tB te σ H QB := h
theorem x_bl {k : Bool} {P : Bool → Prop} (h : P k) : ∃ c, V.bl k = .bl c ∧ P c := ⟨k, rfl, h⟩
theorem x_and (h : tt σ H fun c H1 => if c = true then uu σ H1 QB else QB false H1) : tAnd tt uu σ H QB := h
theorem x_or (h : tt σ H fun c H1 => if c = true then QB true H1 else uu σ H1 QB) : tOr tt uu σ H QB := h
theorem x_not (h : tt σ H fun c H1 => QB (!c) H1) : tNot tt σ H QB := h
theorem x_if (h : tt σ H fun c H1 => if c = true then ta σ H1 Q else tb σ H1 Q) : tIf tt ta tb σ H Q := h
theorem x_andV (h : ta σ H fun x H1 => ∃ c, x = .bl c ∧ if c = true then tb σ H1 Q else Q (.bl false) H1) : tAndV ta tb σ H Q := h
theorem x_orV (h : ta σ H fun x H1 => ∃ c, x = .bl c ∧ if c = true then Q (.bl true) H1 else tb σ H1 Q) : tOrV ta tb σ H Q := h
theorem x_notV (h : ta σ H fun x H1 => ∃ c, x = .bl c ∧ Q (.bl (!c)) H1) : tNotV ta σ H Q := h
theorem x_cb {r : List V → Hp → VK → Prop} (h : tr σ H fun vs H1 => r vs H1 Q) : tCB r tr σ H Q := h
theorem x_nil (h : QL [] H) : tNil σ H QL := h
theorem x_cons (h : ta σ H fun x H1 => tr σ H1 fun xs H2 => QL (x :: xs) H2) : tCons ta tr σ H QL := h
theorem x_tup (h : tr σ H fun xs H1 => xs.length ≤ sizeLine ∧ ∀ p, H1 p = none → Q (.ref p) (upd H1 p (.tup xs))) : tTup tr σ H Q := h
theorem x_lst (h : tr σ H fun xs H1 => xs.length ≤ sizeLine ∧ ∀ p, H1 p = none → Q (.ref p) (upd H1 p (.lst xs))) : tLst tr σ H Q := h
theorem x_call {sp : Sp} {dvs : List V} {E : XK} (h : tr σ H fun vs H1 => sp (vs ++ dvs) H1 Q E) : tCall sp dvs E tr σ H Q := h
theorem x_sl {r : V → Option Int → Option Int → Hp → VK → Prop} {tl th : TO} (h : te σ H fun x H1 => tl σ H1 fun l H2 => th σ H2 fun u H3 => r x l u H3 Q) : tSl r te tl th σ H Q := h
theorem x_noPart {QO : Option Int → Hp → Prop} (h : QO none H) : tNoPart σ H QO := h
theorem x_part {QO : Option Int → Hp → Prop} (h : te σ H fun x H1 => ∃ i, x = .int i ∧ QO (some i) H1) : tPart te σ H QO := h
theorem x_chain {r r' : R2} {tc : TE} (h : ta σ H fun x H1 => tb σ H1 fun y H2 => r x y H2 fun z H3 => ∃ k, z = .bl k ∧ (if k = true then tc σ H3 fun w' H4 => r' y w' H4 Q else Q (.bl false) H3)) : tChain r r' ta tb tc σ H Q := h
theorem x_int {P : Int → Prop} {i : Int} (h : P i) : ∃ j, V.int i = .int j ∧ P j := ⟨i, rfl, h⟩
theorem x_I0 {f : Int → Int → V} {i j : Int} (h : Q (f i j) H) : rI0 f (.int i) (.int j) H Q := ⟨i, j, rfl, rfl, h⟩
theorem x_I {C : Int → Int → Prop} {f : Int → Int → V} {i j : Int} (c : C i j) (h : Q (f i j) H) : rI C f (.int i) (.int j) H Q := ⟨i, j, rfl, rfl, c, h⟩
theorem x_eqI {i j : Int} (h : Q (.bl (decide (V.int i = V.int j))) H) : rEq (.int i) (.int j) H Q := ⟨rfl, h⟩
theorem x_eqS {i j : Str} (h : Q (.bl (decide (V.str i = V.str j))) H) : rEq (.str i) (.str j) H Q := ⟨rfl, h⟩
theorem x_neI {i j : Int} (h : Q (.bl (!decide (V.int i = V.int j))) H) : rNe (.int i) (.int j) H Q := ⟨rfl, h⟩
theorem x_neS {i j : Str} (h : Q (.bl (!decide (V.str i = V.str j))) H) : rNe (.str i) (.str j) H Q := ⟨rfl, h⟩
theorem x_eqB {i j : Bool} (h : Q (.bl (decide (V.bl i = V.bl j))) H) : rEq (.bl i) (.bl j) H Q := ⟨rfl, h⟩
theorem x_neB {i j : Bool} (h : Q (.bl (!decide (V.bl i = V.bl j))) H) : rNe (.bl i) (.bl j) H Q := ⟨rfl, h⟩
theorem x_lstI {p : Addr} {xs : List V} {i : Int} (h : SqL K H p xs) (e : atI xs i = some v) (q : Q v H) : rIxL K (.ref p) (.int i) H Q := ⟨p, xs, i, v, rfl, rfl, h, e, q⟩
theorem x_tupI {p : Addr} {xs : List V} {i : Int} (h : SqT K H p xs) (e : atI xs i = some v) (q : Q v H) : rIxT K (.ref p) (.int i) H Q := ⟨p, xs, i, v, rfl, rfl, h, e, q⟩
theorem x_setL {p : Addr} {xs : List V} {i : Int} {j : Nat} {QH : Hp → Prop} (h : H p = some (.lst xs)) (e : ixN xs.length i = some j) (q : QH (upd H p (.lst (xs.set j v)))) : rSetL (.ref p) (.int i) v H QH := ⟨p, xs, i, j, rfl, rfl, h, e, q⟩
theorem decI {i j : Int} : decide (V.int i = V.int j) = decide (i = j) := by
  by_cases h : i = j
  · rw [decide_eq_true h, decide_eq_true (by rw [h])]
  · rw [decide_eq_false h, decide_eq_false fun z => h (V.int.inj z)]
theorem decS {i j : Str} : decide (V.str i = V.str j) = decide (i = j) := by
  by_cases h : i = j
  · rw [decide_eq_true h, decide_eq_true (by rw [h])]
  · rw [decide_eq_false h, decide_eq_false fun z => h (V.str.inj z)]
end

/-! ### calls of built-ins, their readings under names -/
def rLn (K : PySem.W.Frag) : List V → Hp → VK → Prop := fun xs H Q => ∃ x n, xs = [x] ∧ LenV K x H n ∧ Q (.int n) H
def rToI : List V → Hp → VK → Prop := fun xs H Q => (∃ i, xs = [.int i] ∧ Q (.int i) H) ∨ ∃ k, xs = [.bl k] ∧ Q (.int (if k then 1 else 0)) H
def rAbsI : List V → Hp → VK → Prop := fun xs H Q => ∃ i, xs = [.int i] ∧ Q (.int (if i < 0 then -i else i)) H
def rStrI : List V → Hp → VK → Prop := fun xs H Q => ∃ i, xs = [.int i] ∧ i.natAbs.log2 < 1920 ∧ Q (.str (toString i)) H
def rMx2 : List V → Hp → VK → Prop := fun xs H Q => ∃ i j, xs = [.int i, .int j] ∧ Q (.int (if j > i then j else i)) H
def rToL (K : PySem.W.Frag) : List V → Hp → VK → Prop := fun xs H Q => ∃ p ys, xs = [.ref p] ∧ (SqL K H p ys ∨ SqT K H p ys) ∧ ∀ l, H l = none → Q (.ref l) (upd H l (.lst ys))
def rToT (K : PySem.W.Frag) : List V → Hp → VK → Prop := fun xs H Q => ∃ p ys, xs = [.ref p] ∧ ((SqL K H p ys ∧ ∀ l, H l = none → Q (.ref l) (upd H l (.tup ys))) ∨ (SqT K H p ys ∧ Q (.ref p) H))
def rCatS : R2 := fun x y H Q => ∃ i j, x = .str i ∧ y = .str j ∧ i.length + j.length ≤ sizeLine ∧ Q (.str (i ++ j)) H
def rInS (neg : Bool) : R2 := fun x y H Q => ∃ (c : Nat) (z : Str), x = .str ⟨#[c]⟩ ∧ y = .str z ∧ Q (.bl (if neg then !decide (c ∈ z.cps.toList) else decide (c ∈ z.cps.toList))) H
def rJoin (K : PySem.W.Frag) : V → List V → Hp → VK → Prop := fun x xs H Q => ∃ a p, ∃ ys : List Str, x = .str a ∧ xs = [.ref p] ∧ (SqL K H p (ys.map V.str) ∨ SqT K H p (ys.map V.str)) ∧ (ys.map (·.length)).sum + ys.length * a.length ≤ 16777216 ∧ Q (.str (Txt.join a ys)) H
def rPart : V → List V → Hp → VK → Prop := fun x xs H Q => ∃ a b, x = .str a ∧ xs = [.str b] ∧ (b.length == 0) = false ∧ a.length ≤ sizeLine ∧ ∀ p, H p = none → Q (.ref p) (upd H p (.tup [.str (Txt.partition a b).1, .str (Txt.partition a b).2.1, .str (Txt.partition a b).2.2]))
section
variable {X : Cx}
theorem cx_len : CallR X (.builtin "len") (rLn X.K) := call_len
theorem cx_int : CallR X (.type "int") rToI := call_int1
theorem cx_abs : CallR X (.builtin "abs") rAbsI := call_abs
theorem cx_str : CallR X (.type "str") rStrI := call_str_int
theorem cx_max2 (hc : X.calm = true) : CallR X (.builtin "max") rMx2 := call_max2 hc
theorem cx_list : CallR X (.type "list") (rToL X.K) := call_list_of
theorem cx_tuple : CallR X (.type "tuple") (rToT X.K) := call_tuple_of
theorem ox_cats : OpR X (binaryOp .Add) rCatS := op_add_str
theorem ox_insg : OpR X (compareOp .In) (rInS false) := op_in_sign
end
section
variable {K : PySem.W.Frag} {σ : L2.St} {H : Hp} {Q : VK} {to te : TE}
theorem x_lenL {p : Addr} {xs : List V} (h : SqL K H p xs) (q : Q (.int xs.length) H) : rLn K [.ref p] H Q := ⟨_, _, rfl, .inl ⟨_, h, rfl⟩, q⟩
theorem x_lenT {p : Addr} {xs : List V} (h : SqT K H p xs) (q : Q (.int xs.length) H) : rLn K [.ref p] H Q := ⟨_, _, rfl, .inr ⟨_, h, rfl⟩, q⟩
theorem x_lenS {z : Str} (h : z.length ≤ sizeLine) (q : Q (.int z.length) H) : rLn K [.str z] H Q := ⟨_, _, rfl, ⟨h, rfl⟩, q⟩
theorem x_toI {i : Int} (q : Q (.int i) H) : rToI [.int i] H Q := .inl ⟨i, rfl, q⟩
theorem x_absI {i : Int} (q : Q (.int (if i < 0 then -i else i)) H) : rAbsI [.int i] H Q := ⟨i, rfl, q⟩
theorem x_strI {i : Int} (h : i.natAbs.log2 < 1920) (q : Q (.str (toString i)) H) : rStrI [.int i] H Q := ⟨i, rfl, h, q⟩
theorem x_mx2 {i j : Int} (q : Q (.int (if j > i then j else i)) H) : rMx2 [.int i, .int j] H Q := ⟨i, j, rfl, q⟩
theorem x_toLL {p : Addr} {ys : List V} (h : SqL K H p ys) (q : ∀ l, H l = none → Q (.ref l) (upd H l (.lst ys))) : rToL K [.ref p] H Q := ⟨p, ys, rfl, .inl h, q⟩
theorem x_toLT {p : Addr} {ys : List V} (h : SqT K H p ys) (q : ∀ l, H l = none → Q (.ref l) (upd H l (.lst ys))) : rToL K [.ref p] H Q := ⟨p, ys, rfl, .inr h, q⟩
theorem x_toTL {p : Addr} {ys : List V} (h : SqL K H p ys) (q : ∀ l, H l = none → Q (.ref l) (upd H l (.tup ys))) : rToT K [.ref p] H Q := ⟨p, ys, rfl, .inl ⟨h, q⟩⟩
theorem x_cats {i j : Str} (h : i.length + j.length ≤ sizeLine) (q : Q (.str (i ++ j)) H) : rCatS (.str i) (.str j) H Q := ⟨i, j, rfl, rfl, h, q⟩
theorem x_M1 {r : V → List V → Hp → VK → Prop} (h : to σ H fun x H1 => (∃ a, x = .str a) ∧ te σ H1 fun y H2 => r x [y] H2 Q) : tM1 r to te σ H Q := h
theorem x_isS {a : Str} {C : Prop} (h : C) : (∃ b, V.str a = .str b) ∧ C := ⟨⟨a, rfl⟩, h⟩
theorem x_app {l : Addr} {xs : List V} {y : V} (h : H l = some (.lst xs)) (z : xs.length < sizeLine) (q : Q .non (upd H l (.lst (xs ++ [y])))) : rAppend (.ref l) [y] H Q := ⟨l, xs, y, rfl, rfl, h, z, q⟩
theorem x_catL {a b : Addr} {xs ys : List V} (h : H a = some (.lst xs)) (h' : H b = some (.lst ys)) (z : xs.length + ys.length ≤ sizeLine) (q : ∀ p, H p = none → Q (.ref p) (upd H p (.lst (xs ++ ys)))) : rCat (.ref a) (.ref b) H Q := ⟨a, b, xs, ys, rfl, rfl, h, h', z, q⟩
end
section
variable {K : PySem.W.Frag} {σ : L2.St} {H : Hp} {Q : VK} {R : It → Hp → Prop} {tr : TA} {te : TE}
theorem x_lc {wi : TI} {g : TG} {tt : TT} {vs : List Nat} (h : wi σ H fun J H1 => ∀ D, H1 D = none → ∃ W : Nat → Nat → Hp → Prop, (∃ m, W 0 m (upd H1 D (.lst []))) ∧ ∀ i m H, W i m H →
  (J.stop i H ∧ Q (.ref D) H) ∨ (J.go i H ∧ ∃ Nx : Hp → Prop, (∀ H', Nx H' → ∃ m', m' < m ∧ W (i + 1) m' H') ∧ ∀ x H', J.yld i H x H' → g x (wipe σ vs) H' fun σ2 H2 => wipe σ2 vs = wipe σ vs ∧ tt σ2 H2 fun b H3 =>
    if b = true then te σ2 H3 fun y H4 => ∃ acc, H4 D = some (.lst acc) ∧ acc.length < sizeLine ∧ Nx (upd H4 D (.lst (acc ++ [y]))) else Nx H3)) : tLc wi g tt te vs σ H Q := h
theorem x_for {wi : TI} {g : TG} {tb : TS} {D : Ends} (h : wi σ H fun J H1 => ∃ W : Nat → Nat → L2.St → Hp → Prop, (∃ m, W 0 m σ H1) ∧ ∀ i m σ H, W i m σ H →
  (J.stop i H ∧ D.nx σ H) ∨ (J.go i H ∧ ∃ N : L2.St → Hp → Prop, (∀ σ' H', N σ' H' → ∃ m', m' < m ∧ W (i + 1) m' σ' H') ∧ ∀ x H', J.yld i H x H' → g x σ H' fun σ2 H2 => tb { D with nx := N, ct := N, bk := D.nx } σ2 H2)) : tFor wi g tb D σ H := h
theorem x_rng1 (h : tr σ H fun vs H1 => ∃ j : Int, vs = [.int j] ∧ -(2 ^ 62) ≤ j ∧ j < 2 ^ 62 ∧ R (Itr 0 j.toNat) H1) : iRng1 tr σ H R := h
theorem x_iList (h : te σ H fun x H1 => ∃ a, x = .ref a ∧ (∃ xs, SqL K H1 a xs) ∧ R (Itl K a) H1) : iList K te σ H R := h
theorem x_iTup (h : te σ H fun x H1 => ∃ a, x = .ref a ∧ (∃ xs, SqT K H1 a xs) ∧ R (Itt K a) H1) : iTup K te σ H R := h
theorem x_yes {QB : Bool → Hp → Prop} (h : QB true H) : tYes σ H QB := h
end
/-- what follows an expression, a test, is shown once -/
def tCutT (t : TT) : TT := fun σ H Q => ∃ M : Bool → Hp → Prop, t σ H M ∧ ∀ b H1, M b H1 → Q b H1
def tCutE (t : TE) : TE := fun σ H Q => ∃ M : V → Hp → Prop, t σ H M ∧ ∀ b H1, M b H1 → Q b H1
theorem pt_cut {X : Cx} {e : Expr} {t : TT} (h : PT X e t) : PT X e (tCutT t) := ⟨fun pins s σ H Q I hw => by
  obtain ⟨M, h1, h2⟩ := hw
  exact thn (h.run pins s σ H M I h1) fun b s1 ⟨H1, I1, q⟩ => ⟨H1, I1, h2 b H1 q⟩⟩
theorem pe_cut {X : Cx} {e : Expr} {t : TE} (h : PE X e t) : PE X e (tCutE t) := ⟨fun pins s σ H Q I hw => by
  obtain ⟨M, h1, h2⟩ := hw
  exact thn (h.run pins s σ H M I h1) fun b s1 ⟨v, H1, I1, r, q⟩ => ⟨v, H1, I1, r, h2 v H1 q⟩⟩
theorem x_inL {K : PySem.W.Frag} {H : Hp} {Q : VK} {p : Addr} {l : List Str} {z : Str} (h : SqL K H p (l.map V.str)) (q : Q (.bl (decide (z ∈ l))) H) : rIn K false (.str z) (.ref p) H Q :=
  ⟨p, _, rfl, .inl h, rfl, flat_strs l, by rw [inV_strs]; exact q⟩
theorem x_inT {K : PySem.W.Frag} {H : Hp} {Q : VK} {p : Addr} {l : List Str} {z : Str} (h : SqT K H p (l.map V.str)) (q : Q (.bl (decide (z ∈ l))) H) : rIn K false (.str z) (.ref p) H Q :=
  ⟨p, _, rfl, .inr h, rfl, flat_strs l, by rw [inV_strs]; exact q⟩
theorem x_niT {K : PySem.W.Frag} {H : Hp} {Q : VK} {p : Addr} {l : List Str} {z : Str} (h : SqT K H p (l.map V.str)) (q : Q (.bl (!decide (z ∈ l))) H) : rIn K true (.str z) (.ref p) H Q :=
  ⟨p, _, rfl, .inr h, rfl, flat_strs l, by rw [inV_strs]; exact q⟩
/-- a comprehension over a text -/
theorem lc_text {z : Str} {g : TG} {tt : TT} {te : TE} {vs : List Nat} {σ : L2.St} {H1 : Hp} {D : Addr} {Qd : Hp → Prop} (Pv : Nat → Hp → Prop) (h0 : Pv 0 (upd H1 D (.lst [])))
    (hs : ∀ i c H, z.cps[i]? = some c → Pv i H → g (.str ⟨#[c]⟩) (wipe σ vs) H fun σ2 H2 => wipe σ2 vs = wipe σ vs ∧ tt σ2 H2 fun b H3 =>
      if b = true then te σ2 H3 fun y H4 => ∃ acc, H4 D = some (.lst acc) ∧ acc.length < sizeLine ∧ Pv (i + 1) (upd H4 D (.lst (acc ++ [y]))) else Pv (i + 1) H3) (hd : ∀ H, Pv z.cps.size H → Qd H) :
    ∃ W : Nat → Nat → Hp → Prop, (∃ m, W 0 m (upd H1 D (.lst []))) ∧ ∀ i m H, W i m H →
      ((Its z).stop i H ∧ Qd H) ∨ ((Its z).go i H ∧ ∃ Nx : Hp → Prop, (∀ H', Nx H' → ∃ m', m' < m ∧ W (i + 1) m' H') ∧ ∀ x H', (Its z).yld i H x H' → g x (wipe σ vs) H' fun σ2 H2 => wipe σ2 vs = wipe σ vs ∧ tt σ2 H2 fun b H3 =>
        if b = true then te σ2 H3 fun y H4 => ∃ acc, H4 D = some (.lst acc) ∧ acc.length < sizeLine ∧ Nx (upd H4 D (.lst (acc ++ [y]))) else Nx H3) := by
  refine ⟨fun i m H => m = z.cps.size - i ∧ i ≤ z.cps.size ∧ Pv i H, ⟨z.cps.size, by simp, Nat.zero_le _, h0⟩, ?_⟩
  rintro i m H ⟨em, hi, p⟩
  by_cases hlt : i < z.cps.size
  · refine .inr ⟨hlt, Pv (i + 1), fun H' p' => ⟨z.cps.size - (i + 1), by omega, rfl, hlt, p'⟩, fun x H' y => ?_⟩
    obtain ⟨e1, c, e2, e3⟩ := y
    rw [e1, e3]
    exact hs i c H e2 p
  · have e : i = z.cps.size := by omega
    rw [e] at p
    exact .inl ⟨Nat.le_of_eq e.symm, hd H p⟩
theorem x_iStr {σ : L2.St} {H : Hp} {R : It → Hp → Prop} {te : TE} (h : te σ H fun v H1 => ∃ x, v = .str x ∧ R (Its x) H1) : iStr te σ H R := h
theorem x_allB {K : PySem.W.Frag} {H : Hp} {Q : VK} {p : Addr} {bs : List Bool} (h : SqL K H p (bs.map V.bl)) (q : Q (.bl (bs.all id)) H) : rAll K [.ref p] H Q := ⟨p, bs, rfl, h, q⟩
theorem b_nt {b : Bool} (h : (!b) = true) : b = false := by
  cases b with
  | true => cases h
  | false => rfl
theorem b_nf {b : Bool} (h : (!b) = false) : b = true := by
  cases b with
  | false => cases h
  | true => rfl
theorem x_tupG {K : PySem.W.Frag} {σ : L2.St} {H : Hp} {QS : L2.St → Hp → Prop} {gs : TGs} {p : Addr} {xs : List V} {n : Nat} (h : SqT K H p xs) (e : xs.length = n) (q : gs xs σ H QS) : gTup K n gs (.ref p) σ H QS := ⟨p, xs, rfl, h, e, q⟩
theorem x_gcons {σ : L2.St} {H : Hp} {QS : L2.St → Hp → Prop} {g : TG} {gs : TGs} {v : V} {r : List V} (q : g v σ H fun σ' H' => gs r σ' H' QS) : gCons g gs (v :: r) σ H QS := ⟨v, r, rfl, q⟩
theorem x_gnil {σ : L2.St} {H : Hp} {QS : L2.St → Hp → Prop} (q : QS σ H) : gNil [] σ H QS := ⟨rfl, q⟩
theorem x_neg {H : Hp} {Q : VK} {i : Int} (q : Q (.int (-i)) H) : rU (fun i => .int (-i)) (.int i) H Q := ⟨i, rfl, q⟩
theorem x_ite {k : Bool} {A B : Prop} (h1 : k = true → A) (h2 : k = false → B) : if k = true then A else B := by
  cases k with
  | true => exact h1 rfl
  | false => exact h2 rfl
/-- .. of a decided question -/
theorem x_dec {p : Prop} {inst : Decidable p} {A B : Prop} (h1 : p → A) (h2 : ¬ p → B) : if decide p = true then A else B := x_ite (fun h => h1 (of_decide_eq_true h)) (fun h => h2 (of_decide_eq_false h))
theorem x_decN {p : Prop} {inst : Decidable p} {A B : Prop} (h1 : ¬ p → A) (h2 : p → B) : if (!decide p) = true then A else B := x_ite (fun h => h1 (by simpa using h)) (fun h => h2 (by simpa using h))
theorem x_eqi {i j : Int} {A B : Prop} (h1 : i = j → A) (h2 : i ≠ j → B) : if decide (V.int i = V.int j) = true then A else B := x_ite (fun h => h1 (V.int.inj (of_decide_eq_true h))) (fun h => h2 fun z => of_decide_eq_false h (by rw [z]))
theorem x_eqs {i j : Str} {A B : Prop} (h1 : i = j → A) (h2 : i ≠ j → B) : if decide (V.str i = V.str j) = true then A else B := x_ite (fun h => h1 (V.str.inj (of_decide_eq_true h))) (fun h => h2 fun z => of_decide_eq_false h (by rw [z]))
theorem atI_int {α : Type} {xs : List α} {i : Int} {v : α} (h0 : 0 ≤ i) (h : xs[i.toNat]? = some v) : atI xs i = some v := by
  have e : i = (i.toNat : Int) := by omega
  rw [e]
  exact atI_nat h
theorem atI_map {α β : Type} {f : α → β} {xs : List α} {i : Int} {v : α} (h0 : 0 ≤ i) (h : xs[i.toNat]? = some v) : atI (xs.map f) i = some (f v) := atI_int h0 (by rw [List.getElem?_map, h] <;> rfl)
theorem sz {n : Nat} (h : n ≤ 10000000) : n ≤ sizeLine := Nat.le_trans h (by decide)
theorem szl {n : Nat} (h : n ≤ 10000000) : n < sizeLine := Nat.lt_of_le_of_lt h (by decide)
/-! ### the store with its numbers told -/
structure StX (H : Hp) (S L : Addr) (ns : List Int) (a b c d e : Int) : Prop where
  hs : H S = some (.lst [.ref L, .int a, .int b, .int c, .int d, .int e])
  hl : H L = some (.lst (ns.map V.int))
def KeepS (S : Addr) (H H' : Hp) : Prop := ∀ b o, b ≠ S → H b = some o → H' b = some o
theorem KeepS.refl {S : Addr} {H : Hp} : KeepS S H H := fun _ _ _ e => e
theorem KeepS.trans {S : Addr} {H H1 H2 : Hp} (a : KeepS S H H1) (b : KeepS S H1 H2) : KeepS S H H2 := fun c o n e => b c o n (a c o n e)
theorem KeepS.ext {S : Sto} {H H' : Hp} {ns : List Int} {a b c d e : Int} (k : KeepS S.a H H') (x : StX H' S.a S.l ns a b c d e) (h : 0 ≤ a) : Ext S H H' := ⟨k, ns, a, b, c, d, e, x.hs, x.hl, h⟩
section
variable {K : PySem.W.Frag} {H : Hp} {S L : Addr} {ns : List Int} {a b c d e i : Int} {Q : VK} {QH : Hp → Prop}
theorem StX.put (h : StX H S L ns a b c d e) {a' b' c' d' e' : Int} : KeepS S H (upd H S (.lst [.ref L, .int a', .int b', .int c', .int d', .int e'])) ∧ StX (upd H S (.lst [.ref L, .int a', .int b', .int c', .int d', .int e'])) S L ns a' b' c' d' e' :=
  ⟨fun x o n z => by rw [upd_ne n]; exact z, ⟨upd_same, by rw [upd_ne (store_ne h.hs h.hl)]; exact h.hl⟩⟩
theorem x_p1 (h : StX H S L ns a b c d e) (q : ∀ H', KeepS S H H' → StX H' S L ns i b c d e → QH H') : rSetL (.ref S) (.int 1) (.int i) H QH := x_setL h.hs rfl (q _ h.put.1 h.put.2)
theorem x_p2 (h : StX H S L ns a b c d e) (q : ∀ H', KeepS S H H' → StX H' S L ns a i c d e → QH H') : rSetL (.ref S) (.int 2) (.int i) H QH := x_setL h.hs rfl (q _ h.put.1 h.put.2)
theorem x_p3 (h : StX H S L ns a b c d e) (q : ∀ H', KeepS S H H' → StX H' S L ns a b i d e → QH H') : rSetL (.ref S) (.int 3) (.int i) H QH := x_setL h.hs rfl (q _ h.put.1 h.put.2)
theorem x_p4 (h : StX H S L ns a b c d e) (q : ∀ H', KeepS S H H' → StX H' S L ns a b c i e → QH H') : rSetL (.ref S) (.int 4) (.int i) H QH := x_setL h.hs rfl (q _ h.put.1 h.put.2)
theorem x_p5 (h : StX H S L ns a b c d e) (q : ∀ H', KeepS S H H' → StX H' S L ns a b c d i → QH H') : rSetL (.ref S) (.int 5) (.int i) H QH := x_setL h.hs rfl (q _ h.put.1 h.put.2)
theorem x_g0 (h : StX H S L ns a b c d e) (q : Q (.ref L) H) : rIxL K (.ref S) (.int 0) H Q := x_lstI (SqL.of h.hs) rfl q
theorem x_g1 (h : StX H S L ns a b c d e) (q : Q (.int a) H) : rIxL K (.ref S) (.int 1) H Q := x_lstI (SqL.of h.hs) rfl q
theorem x_g2 (h : StX H S L ns a b c d e) (q : Q (.int b) H) : rIxL K (.ref S) (.int 2) H Q := x_lstI (SqL.of h.hs) rfl q
theorem x_g3 (h : StX H S L ns a b c d e) (q : Q (.int c) H) : rIxL K (.ref S) (.int 3) H Q := x_lstI (SqL.of h.hs) rfl q
theorem x_g4 (h : StX H S L ns a b c d e) (q : Q (.int d) H) : rIxL K (.ref S) (.int 4) H Q := x_lstI (SqL.of h.hs) rfl q
theorem x_g5 (h : StX H S L ns a b c d e) (q : Q (.int e) H) : rIxL K (.ref S) (.int 5) H Q := x_lstI (SqL.of h.hs) rfl q
end
theorem x_sfld {K : PySem.W.Frag} {σ : L2.St} {H : Hp} {ta tv : TE} {f : Str} {D : Ends} (h : tv σ H fun y H1 => ta σ H1 fun x H2 => ∃ a C dx fs, x = .ref a ∧ H2 a = some (.ins C dx fs) ∧ Cls K C ∧ NoAttr K C f ∧ fs.length < 1000 ∧ D.nx σ (upd H2 a (.ins C dx (putF f y fs)))) : sFld K ta tv f D σ H := h
theorem x_tfld {K : PySem.W.Frag} {σ : L2.St} {H : Hp} {Q : VK} {ta : TE} {f : Str} (h : ta σ H fun x H1 => ∃ a C dx fs v, x = .ref a ∧ H1 a = some (.ins C dx fs) ∧ Cls K C ∧ NoAttr K C f ∧ fs.lookup f = some v ∧ Q v H1) : tFld K ta f σ H Q := h
theorem x_make {C : Addr} {sp : Sp} {dvs : List V} {E : XK} {t : TA} {σ : L2.St} {H : Hp} {Q : VK} (h : t σ H fun vs H1 => ∀ x dx, H1 x = none → H1 dx = none → dx ≠ x → sp (.ref x :: (vs ++ dvs)) (upd (upd H1 dx (.own x)) x (.ins C dx [])) (fun v H2 => v = .non ∧ Q (.ref x) H2) E) : tMake C sp dvs E t σ H Q := h
theorem x_bm {K : PySem.W.Frag} {N : String} {r : V → List V → Hp → VK → Prop} {to : TE} {t : TA} {σ : L2.St} {H : Hp} {Q : VK} (h : to σ H fun x H1 => tyV K N x H1 ∧ t σ H1 fun xs H2 => r x xs H2 Q) : tBM K N r to t σ H Q := h
/-- small factors -/
theorem mulL {i j : Int} (h1 : -(2 ^ 64) < i := by decide) (h2 : i < 2 ^ 64 := by decide) : CMul i j := .inl ⟨h1, h2⟩
theorem mulR {i j : Int} (h1 : -(2 ^ 64) < j := by decide) (h2 : j < 2 ^ 64 := by decide) : CMul i j := .inr ⟨h1, h2⟩
/-- a step that needs no thought -/
local macro_rules | `(tactic| walk_at "x") => `(tactic| with_reducible first
  | refine x_seq ?_ | refine x_asg ?_ | refine x_op ?_ | refine x_cons ?_ | refine x_nil ?_ | refine x_c ?_ | refine x_name ?_ | refine x_cb ?_ | refine x_call ?_ | refine x_ret ?_ | refine x_ifS ?_
  | refine x_test ?_ | refine x_bl ?_ | refine x_I0 ?_ | refine x_sub ?_ | refine x_tup ?_ | refine x_lst ?_ | refine x_and ?_ | refine x_or ?_ | refine x_not ?_ | refine x_if ?_ | refine x_andV ?_ | refine x_orV ?_ | refine x_notV ?_
  | refine x_retN ?_ | refine x_drop ?_ | refine x_next ?_ | refine x_un ?_ | refine x_B ?_ | refine x_sl ?_ | refine x_noPart ?_ | refine x_part ?_ | refine x_chain ?_ | refine x_int ?_
  | refine x_eqI ?_ | refine x_eqS ?_ | refine x_neI ?_ | refine x_neS ?_ | refine x_eqB ?_ | refine x_neB ?_ | refine x_toI ?_ | refine x_absI ?_ | refine x_mx2 ?_ | refine x_M1 ?_ | refine x_isS ?_ | refine iteT ?_ | refine iteF ?_ | refine x_lc ?_ | refine x_for ?_ | refine x_rng1 ?_ | refine x_iList ?_ | refine x_iTup ?_ | refine x_yes ?_ | refine x_iStr ?_ | refine x_gcons ?_ | refine x_gnil ?_ | refine x_neg ?_ | refine x_sfld ?_ | refine x_tfld ?_ | refine x_make ?_ | refine x_bm ?_)
local macro_rules | `(tactic| walk_at "xs") => `(tactic| repeat (first | walk_at "x" | ((with_reducible show tVar _ _ _ _); refine x_var rfl ?_)))
end K76

set_option Elab.async false
set_option linter.all false
set_option maxRecDepth 100000
/-! trees as data: what the program reckons of them -/
namespace K76
open PySem PySem.Spec PyProof.Rows L2 SX
/-! ### how data lies in the heap; x: the store's address, no list of the data -/
mutual
def At (x : Addr) (H : Hp) : PyData → V → Prop
  | .none, v => v = .non
  | .bool b, v => v = .bl b
  | .int i, v => v = .int i
  | .str z, v => v = .str z ∧ z.length ≤ 100
  | .tuple ds, v => ∃ a xs, v = .ref a ∧ H a = some (.tup xs) ∧ AtAll x H ds xs
  | .list ds, v => ∃ a xs, v = .ref a ∧ a ≠ x ∧ H a = some (.lst xs) ∧ AtAll x H ds xs
  | .dict _, v => ∃ a kvs, v = .ref a ∧ H a = some (.dK kvs)
def AtAll (x : Addr) (H : Hp) : List PyData → List V → Prop
  | [], vs => vs = []
  | d :: ds, vs => ∃ v r, vs = v :: r ∧ At x H d v ∧ AtAll x H ds r
end
/-- tuples stay -/
def Tups (H H' : Hp) : Prop := ∀ a xs, H a = some (.tup xs) → H' a = some (.tup xs)
mutual
/-- no list, no dict within -/
def noL : PyData → Bool
  | .tuple ds => noLs ds
  | .list _ => false
  | .dict _ => false
  | _ => true
def noLs : List PyData → Bool
  | [] => true
  | d :: ds => noL d && noLs ds
end
/-- what is kept for data of every kind -/
def KeepD (x : Addr) (H H' : Hp) : Prop := ∀ a o, a ≠ x → H a = some o → H' a = some o
mutual
theorem At.tups {x : Addr} {H H' : Hp} (k : Tups H H') : ∀ {d : PyData} {v : V}, noL d = true → At x H d v → At x H' d v
  | .none, _, _, h => h
  | .bool _, _, _, h => h
  | .int _, _, _, h => h
  | .str _, _, _, h => h
  | .tuple ds, v, n, h => by
    obtain ⟨a, xs, e, ha, hs⟩ := h
    exact ⟨a, xs, e, k a xs ha, AtAll.tups k (ds := ds) n hs⟩
  | .list _, _, n, _ => by cases n
  | .dict _, _, n, _ => by cases n
theorem AtAll.tups {x : Addr} {H H' : Hp} (k : Tups H H') : ∀ {ds : List PyData} {vs : List V}, noLs ds = true → AtAll x H ds vs → AtAll x H' ds vs
  | [], _, _, h => h
  | d :: ds, vs, n, h => by
    obtain ⟨v, r, e, h1, h2⟩ := h
    obtain ⟨n1, n2⟩ := Bool.and_eq_true_iff.mp (show (noL d && noLs ds) = true from n)
    exact ⟨v, r, e, At.tups k n1 h1, AtAll.tups k n2 h2⟩
end
mutual
theorem At.keep {x : Addr} {H H' : Hp} (k : KeepD x H H') (hx : ∃ vs, H x = some (.lst vs)) : ∀ {d : PyData} {v : V}, At x H d v → At x H' d v
  | .none, _, h => h
  | .bool _, _, h => h
  | .int _, _, h => h
  | .str _, _, h => h
  | .tuple ds, v, h => by
    obtain ⟨a, xs, e, ha, hs⟩ := h
    obtain ⟨vs, hx'⟩ := id hx
    exact ⟨a, xs, e, k a _ (ne_of ha hx' (fun z => by cases z)) ha, AtAll.keep k hx hs⟩
  | .list ds, v, h => by
    obtain ⟨a, xs, e, n, ha, hs⟩ := h
    exact ⟨a, xs, e, n, k a _ n ha, AtAll.keep k hx hs⟩
  | .dict _, v, h => by
    obtain ⟨a, kvs, e, ha⟩ := h
    obtain ⟨vs, hx'⟩ := id hx
    exact ⟨a, kvs, e, k a _ (ne_of ha hx' (fun z => by cases z)) ha⟩
theorem AtAll.keep {x : Addr} {H H' : Hp} (k : KeepD x H H') (hx : ∃ vs, H x = some (.lst vs)) : ∀ {ds : List PyData} {vs : List V}, AtAll x H ds vs → AtAll x H' ds vs
  | [], _, h => h
  | d :: ds, vs, h => by
    obtain ⟨v, r, e, h1, h2⟩ := h
    exact ⟨v, r, e, At.keep k hx h1, AtAll.keep k hx h2⟩
end
mutual
/-- all is kept -/
theorem At.same {x : Addr} {H H' : Hp} (k : Same H H') : ∀ {d : PyData} {v : V}, At x H d v → At x H' d v
  | .none, _, h => h
  | .bool _, _, h => h
  | .int _, _, h => h
  | .str _, _, h => h
  | .tuple ds, v, h => by
    obtain ⟨a, xs, e, ha, hs⟩ := h
    exact ⟨a, xs, e, k a _ ha, AtAll.same k hs⟩
  | .list ds, v, h => by
    obtain ⟨a, xs, e, n, ha, hs⟩ := h
    exact ⟨a, xs, e, n, k a _ ha, AtAll.same k hs⟩
  | .dict _, v, h => by
    obtain ⟨a, kvs, e, ha⟩ := h
    exact ⟨a, kvs, e, k a _ ha⟩
theorem AtAll.same {x : Addr} {H H' : Hp} (k : Same H H') : ∀ {ds : List PyData} {vs : List V}, AtAll x H ds vs → AtAll x H' ds vs
  | [], _, h => h
  | d :: ds, vs, h => by
    obtain ⟨v, r, e, h1, h2⟩ := h
    exact ⟨v, r, e, At.same k h1, AtAll.same k h2⟩
end
theorem AtAll.length {x : Addr} {H : Hp} : ∀ {ds : List PyData} {vs : List V}, AtAll x H ds vs → vs.length = ds.length
  | [], vs, h => by
    have e : vs = [] := h
    rw [e] <;> rfl
  | d :: ds, vs, h => by
    obtain ⟨v, r, e, _, h2⟩ := h
    rw [e, List.length_cons, List.length_cons, h2.length]
theorem AtAll.get {x : Addr} {H : Hp} : ∀ {ds : List PyData} {vs : List V} {i : Nat} {d : PyData}, AtAll x H ds vs → ds[i]? = some d → ∃ v, vs[i]? = some v ∧ At x H d v
  | [], _, _, _, _, e => by simp at e
  | d :: ds, vs, 0, d', h, e => by
    obtain ⟨v, r, e1, h1, _⟩ := h
    have e2 : d = d' := by simpa using e
    exact ⟨v, by rw [e1] <;> rfl, by rw [← e2]; exact h1⟩
  | d :: ds, vs, i + 1, d', h, e => by
    obtain ⟨v, r, e1, _, h2⟩ := h
    obtain ⟨v', q1, q2⟩ := h2.get (i := i) (d := d') (by simpa using e)
    exact ⟨v', by rw [e1]; simpa using q1, q2⟩
mutual
/-- for == of data -/
theorem At.dp {K : PySem.W.Frag} {x : Addr} {H : Hp} : ∀ {d : PyData} {v : V}, noL d = true → At x H d v → Dp K H v d
  | .none, _, _, h => by rw [show _ = V.non from h]; exact .non
  | .bool b, _, _, h => by rw [show _ = V.bl b from h]; exact .bl b
  | .int i, _, _, h => by rw [show _ = V.int i from h]; exact .int i
  | .str z, _, _, h => by rw [show _ = V.str z from h.1]; exact .str z
  | .tuple ds, v, n, h => by
    obtain ⟨a, xs, e, ha, hs⟩ := h
    rw [e]
    exact .tup (SqT.of ha) (AtAll.dp (ds := ds) n hs)
  | .list _, _, n, _ => by cases n
  | .dict _, _, n, _ => by cases n
theorem AtAll.dp {K : PySem.W.Frag} {x : Addr} {H : Hp} : ∀ {ds : List PyData} {vs : List V}, noLs ds = true → AtAll x H ds vs → DpAll K H vs ds
  | [], vs, _, h => by rw [show vs = [] from h]; exact .nil
  | d :: ds, vs, n, h => by
    obtain ⟨v, r, e, h1, h2⟩ := h
    obtain ⟨n1, n2⟩ := Bool.and_eq_true_iff.mp (show (noL d && noLs ds) = true from n)
    rw [e]
    exact .cons (At.dp n1 h1) (AtAll.dp n2 h2)
end
/-! ### names, letters, trees, as the program judges them -/
def isName (z : Str) : Bool := decide (1 ≤ z.length) && (decide (z.length ≤ 8) && z.cps.toList.all fun c => decide (c ∈ azS.cps.toList))
def freeName (z : Str) : Bool := isName z && !decide (z ∈ taken)
def digS : Str := "0123456789"
def shortNum (z : Str) : Bool := decide (1 ≤ z.length) && (decide (z.length ≤ 2) && ((z.cps.toList.all fun c => decide (c ∈ digS.cps.toList)) && (decide (z.length = 1) || !decide (z.cps.toList.head? = some 48))))
def isLetter (z : Str) : Bool := if (Txt.partition z ".").2.1 = "" then isName (Txt.partition z ".").1 else isName (Txt.partition z ".").1 && shortNum (Txt.partition z ".").2.2
def single : List Str := ["quiet", "stuck", "done"]
def nameD : PyData → Bool
  | .str z => freeName z
  | _ => false
def letterD : PyData → Bool
  | .str z => isLetter z
  | _ => false
def eqD : PyData → PyData → Bool
  | .str a, .str b => decide (a = b)
  | _, _ => false
def pairD (a b : PyData) : Bool := nameD a && (nameD b && !eqD a b)
def numD (lo hi : Int) : PyData → Bool
  | .int i => decide (lo ≤ i) && decide (i ≤ hi)
  | _ => false
def atomOk (k : Str) (r : List PyData) : Bool :=
  if k ∈ single then r.isEmpty
  else if k = "at" then (match r with | [a, p] => nameD a && numD 0 99 p | _ => false)
  else if k = "has" then (match r with | [a, b] => pairD a b | _ => false)
  else if k = "head" then (match r with | [a, b, l] => pairD a b && letterD l | _ => false)
  else false
def up (n : Nat) : Nat := if n = 0 then 0 else n + 1
def up2 (n m : Nat) : Nat := if n = 0 then 0 else if m = 0 then 0 else max n m + 1
def predLevel : PyData → Nat
  | .tuple [] => 0
  | .tuple [.str k] => if k = "not" then 0 else if k = "and" ∨ k = "or" then 0 else if atomOk k [] = true then 1 else 0
  | .tuple [.str k, x] => if k = "not" then up (predLevel x) else if k = "and" ∨ k = "or" then 0 else if atomOk k [x] = true then 1 else 0
  | .tuple [.str k, x, y] => if k = "not" then 0 else if k = "and" ∨ k = "or" then up2 (predLevel x) (predLevel y) else if atomOk k [x, y] = true then 1 else 0
  | .tuple (.str k :: x :: y :: z :: r) => if k = "not" then 0 else if k = "and" ∨ k = "or" then 0 else if atomOk k (x :: y :: z :: r) = true then 1 else 0
  | _ => 0
/-! ### kinds of data -/
def tyD : PyData → String
  | .none => "NoneType"
  | .bool _ => "bool"
  | .int _ => "int"
  | .str _ => "str"
  | .tuple _ => "tuple"
  | .list _ => "list"
  | .dict _ => "dict"
theorem At.ty {K : PySem.W.Frag} {x : Addr} {H : Hp} {d : PyData} {v : V} (h : At x H d v) : TyX K H v (.type (tyD d)) := by
  cases d with
  | none => rw [show v = .non from h]; exact .base .non
  | bool b => rw [show v = .bl b from h]; exact .base (.bl b)
  | int i => rw [show v = .int i from h]; exact .base (.int i)
  | str z => rw [show v = .str z from h.1]; exact .base (.str z)
  | tuple ds =>
    obtain ⟨a, xs, e, ha, _⟩ := h
    rw [e]
    exact .base (.tup ha)
  | list ds =>
    obtain ⟨a, xs, e, _, ha, _⟩ := h
    rw [e]
    exact .base (.lst ha)
  | dict ds =>
    obtain ⟨a, kvs, e, ha⟩ := h
    rw [e]
    exact .base (.dK ha)
/-! isinstance of data -/
def isStr : PyData → Bool
  | .str _ => true
  | _ => false
def isTup : PyData → Bool
  | .tuple _ => true
  | _ => false
def isLst : PyData → Bool
  | .list _ => true
  | _ => false
def isBool : PyData → Bool
  | .bool _ => true
  | _ => false
def isInt : PyData → Bool
  | .bool _ => true
  | .int _ => true
  | _ => false
section
variable {K : PySem.W.Frag} {H : Hp} {Q : VK} {x : Addr} {d : PyData} {v : V}
theorem kd_str : ∀ d : PyData, kitB (tyD d) "str" = some (isStr d)
  | .none => by decide +kernel
  | .bool _ => (by decide +kernel : kitB "bool" "str" = some false)
  | .int _ => (by decide +kernel : kitB "int" "str" = some false)
  | .str _ => (by decide +kernel : kitB "str" "str" = some true)
  | .tuple _ => (by decide +kernel : kitB "tuple" "str" = some false)
  | .list _ => (by decide +kernel : kitB "list" "str" = some false)
  | .dict _ => (by decide +kernel : kitB "dict" "str" = some false)
theorem kd_tup : ∀ d : PyData, kitB (tyD d) "tuple" = some (isTup d)
  | .none => by decide +kernel
  | .bool _ => (by decide +kernel : kitB "bool" "tuple" = some false)
  | .int _ => (by decide +kernel : kitB "int" "tuple" = some false)
  | .str _ => (by decide +kernel : kitB "str" "tuple" = some false)
  | .tuple _ => (by decide +kernel : kitB "tuple" "tuple" = some true)
  | .list _ => (by decide +kernel : kitB "list" "tuple" = some false)
  | .dict _ => (by decide +kernel : kitB "dict" "tuple" = some false)
theorem kd_lst : ∀ d : PyData, kitB (tyD d) "list" = some (isLst d)
  | .none => by decide +kernel
  | .bool _ => (by decide +kernel : kitB "bool" "list" = some false)
  | .int _ => (by decide +kernel : kitB "int" "list" = some false)
  | .str _ => (by decide +kernel : kitB "str" "list" = some false)
  | .tuple _ => (by decide +kernel : kitB "tuple" "list" = some false)
  | .list _ => (by decide +kernel : kitB "list" "list" = some true)
  | .dict _ => (by decide +kernel : kitB "dict" "list" = some false)
theorem kd_bool : ∀ d : PyData, kitB (tyD d) "bool" = some (isBool d)
  | .none => by decide +kernel
  | .bool _ => (by decide +kernel : kitB "bool" "bool" = some true)
  | .int _ => (by decide +kernel : kitB "int" "bool" = some false)
  | .str _ => (by decide +kernel : kitB "str" "bool" = some false)
  | .tuple _ => (by decide +kernel : kitB "tuple" "bool" = some false)
  | .list _ => (by decide +kernel : kitB "list" "bool" = some false)
  | .dict _ => (by decide +kernel : kitB "dict" "bool" = some false)
theorem kd_int : ∀ d : PyData, kitB (tyD d) "int" = some (isInt d)
  | .none => by decide +kernel
  | .bool _ => (by decide +kernel : kitB "bool" "int" = some true)
  | .int _ => (by decide +kernel : kitB "int" "int" = some true)
  | .str _ => (by decide +kernel : kitB "str" "int" = some false)
  | .tuple _ => (by decide +kernel : kitB "tuple" "int" = some false)
  | .list _ => (by decide +kernel : kitB "list" "int" = some false)
  | .dict _ => (by decide +kernel : kitB "dict" "int" = some false)
theorem x_isStr (h : At x H d v) (q : Q (.bl (isStr d)) H) : rIsi K [v, .ty "str"] H Q := ⟨v, .ty "str", _, _, _, rfl, .ty _, h.ty, kit_ty (kd_str d), q⟩
theorem x_isTup (h : At x H d v) (q : Q (.bl (isTup d)) H) : rIsi K [v, .ty "tuple"] H Q := ⟨v, .ty "tuple", _, _, _, rfl, .ty _, h.ty, kit_ty (kd_tup d), q⟩
theorem x_isLst (h : At x H d v) (q : Q (.bl (isLst d)) H) : rIsi K [v, .ty "list"] H Q := ⟨v, .ty "list", _, _, _, rfl, .ty _, h.ty, kit_ty (kd_lst d), q⟩
theorem x_isBool (h : At x H d v) (q : Q (.bl (isBool d)) H) : rIsi K [v, .ty "bool"] H Q := ⟨v, .ty "bool", _, _, _, rfl, .ty _, h.ty, kit_ty (kd_bool d), q⟩
theorem x_isInt (h : At x H d v) (q : Q (.bl (isInt d)) H) : rIsi K [v, .ty "int"] H Q := ⟨v, .ty "int", _, _, _, rfl, .ty _, h.ty, kit_ty (kd_int d), q⟩
end
def strD (f : Str → Bool) : PyData → Bool
  | .str z => f z
  | _ => false
/-- the levels of data -/
def hgt : PyData → Nat
  | .tuple ds => hgts ds + 1
  | _ => 0
where hgts : List PyData → Nat
  | [] => 0
  | d :: ds => max (hgt d) (hgts ds)
theorem hgts_mem {d : PyData} : ∀ {ds : List PyData}, d ∈ ds → hgt d ≤ hgt.hgts ds
  | [], h => by cases h
  | e :: ds, h => by
    have e1 : hgt.hgts (e :: ds) = max (hgt e) (hgt.hgts ds) := by simp [hgt.hgts]
    rw [e1]
    rcases List.mem_cons.mp h with h | h
    · rw [h]; exact Nat.le_max_left _ _
    · exact Nat.le_trans (hgts_mem h) (Nat.le_max_right _ _)
/-! ### wishes -/
def tripleD : PyData → Bool
  | .tuple [a, b, l] => pairD a b && letterD l
  | _ => false
def triplesD : PyData → Bool
  | .tuple ds => !ds.isEmpty && ds.all tripleD
  | _ => false
def wishLevel : PyData → Int
  | .tuple [.str k, x] => if k = "never" ∨ k = "home" then (if 0 < predLevel x then (predLevel x : Int) else -1) else if k = "again" then (if triplesD x = true then 0 else -1) else -1
  | .tuple [.str k, x, y] => if k = "never" ∨ k = "home" then -1 else if k = "again" then -1 else if k = "answered" then (if (triplesD x && triplesD y) = true then 0 else -1) else -1
  | _ => -1
theorem len_app (a b : Str) : (a ++ b).length = a.length + b.length := by
  show (a.cps ++ b.cps).size = a.cps.size + b.cps.size
  exact Array.size_append
theorem part_len (z y : Str) : (Txt.partition z y).1.length ≤ z.length ∧ (Txt.partition z y).2.2.length ≤ z.length := by
  have h := congrArg Str.length (PySem.StrLaws.partition_sum z y)
  rw [len_app, len_app] at h
  omega
theorem atomOk_single {k : Str} {r : List PyData} (h : k ∈ single) : atomOk k r = r.isEmpty := by
  unfold atomOk
  rw [if_pos h]
theorem atomOk_at (r : List PyData) : atomOk "at" r = (match r with | [a, p] => nameD a && numD 0 99 p | _ => false) := by
  unfold atomOk
  rw [if_neg (by decide +kernel), if_pos rfl]
theorem atomOk_has (r : List PyData) : atomOk "has" r = (match r with | [a, b] => pairD a b | _ => false) := by
  unfold atomOk
  rw [if_neg (by decide +kernel), if_neg (by decide +kernel), if_pos rfl]
theorem atomOk_head (r : List PyData) : atomOk "head" r = (match r with | [a, b, l] => pairD a b && letterD l | _ => false) := by
  unfold atomOk
  rw [if_neg (by decide +kernel), if_neg (by decide +kernel), if_neg (by decide +kernel), if_pos rfl]
theorem atomOk_other {k : Str} {r : List PyData} (h : k ∉ single) (h1 : k ≠ "at") (h2 : k ≠ "has") (h3 : k ≠ "head") : atomOk k r = false := by
  unfold atomOk
  rw [if_neg h, if_neg h1, if_neg h2, if_neg h3]
def kindD : PyData → Bool
  | .tuple (.str _ :: _) => true
  | _ => false
theorem predLevel_kind {d : PyData} (h : kindD d = false) : predLevel d = 0 := by
  cases d with
  | tuple ds =>
    rcases ds with _ | ⟨d, ds⟩
    · rfl
    · cases d with
      | str k => cases h
      | _ => rfl
  | _ => rfl
theorem predLevel_tup (k : Str) (r : List PyData) : predLevel (.tuple (.str k :: r)) = if k = "not" then (match r with | [x] => up (predLevel x) | _ => 0) else if k = "and" ∨ k = "or" then (match r with | [x, y] => up2 (predLevel x) (predLevel y) | _ => 0) else if atomOk k r = true then 1 else 0 := by
  rcases r with _ | ⟨x, _ | ⟨y, _ | ⟨z, r⟩⟩⟩
  · simp only [predLevel]
  · simp only [predLevel]
  · simp only [predLevel]
  · simp only [predLevel]
theorem wishLevel_kind {d : PyData} (h : kindD d = false) : wishLevel d = -1 := by
  cases d with
  | tuple ds =>
    rcases ds with _ | ⟨d, _ | ⟨x, _ | ⟨y, _ | ⟨z, r⟩⟩⟩⟩
    · rfl
    all_goals
      cases d with
      | str k => cases h
      | _ => rfl
  | _ => rfl
theorem wishLevel_tup (k : Str) (r : List PyData) : wishLevel (.tuple (.str k :: r)) = if k = "never" ∨ k = "home" then (match r with | [x] => if 0 < predLevel x then (predLevel x : Int) else -1 | _ => -1) else if k = "again" then (match r with | [x] => if triplesD x = true then 0 else -1 | _ => -1) else if k = "answered" then (match r with | [x, y] => if (triplesD x && triplesD y) = true then 0 else -1 | _ => -1) else -1 := by
  rcases r with _ | ⟨x, _ | ⟨y, _ | ⟨z, r⟩⟩⟩
  all_goals
    by_cases h1 : k = "never" ∨ k = "home"
    · simp only [wishLevel, if_pos h1]
    · by_cases h2 : k = "again"
      · simp only [wishLevel, if_neg h1, if_pos h2]
      · by_cases h3 : k = "answered"
        · simp only [wishLevel, if_neg h1, if_neg h2, if_pos h3]
        · simp only [wishLevel, if_neg h1, if_neg h2, if_neg h3]
theorem kindD_true {d : PyData} (h : kindD d = true) : ∃ k r, d = .tuple (.str k :: r) := by
  cases d with
  | tuple ds =>
    rcases ds with _ | ⟨d, ds⟩
    · cases h
    · cases d with
      | str k => exact ⟨k, ds, rfl⟩
      | _ => cases h
  | _ => cases h
theorem hgt_tup {d : PyData} {ds : List PyData} (h : d ∈ ds) : hgt d < hgt (.tuple ds) := by
  have e : hgt (.tuple ds) = hgt.hgts ds + 1 := by simp [hgt]
  have := hgts_mem h
  omega
theorem up2_max {a b : Nat} (ha : ¬ a = 0) (hb : ¬ b = 0) : (if (b : Int) > a then (b : Int) else a) + 1 = (up2 a b : Int) := by
  unfold up2
  rw [if_neg ha, if_neg hb]
  by_cases h : (b : Int) > a
  · rw [if_pos h, Nat.max_eq_right (by omega)] <;> rfl
  · rw [if_neg h, Nat.max_eq_left (by omega)] <;> rfl
end K76

set_option Elab.async false
set_option linter.all false
set_option maxRecDepth 100000
namespace K76
open PySem PySem.Spec PyProof.Rows L2
local macro_rules | `(tactic| walk_at "x") => `(tactic| with_reducible first
  | refine x_seq ?_ | refine x_asg ?_ | refine x_op ?_ | refine x_cons ?_ | refine x_nil ?_ | refine x_c ?_ | refine x_name ?_ | refine x_cb ?_ | refine x_call ?_ | refine x_ret ?_ | refine x_ifS ?_
  | refine x_test ?_ | refine x_bl ?_ | refine x_I0 ?_ | refine x_sub ?_ | refine x_tup ?_ | refine x_lst ?_ | refine x_and ?_ | refine x_or ?_ | refine x_not ?_ | refine x_if ?_ | refine x_andV ?_ | refine x_orV ?_ | refine x_notV ?_
  | refine x_retN ?_ | refine x_drop ?_ | refine x_next ?_ | refine x_un ?_ | refine x_B ?_ | refine x_sl ?_ | refine x_noPart ?_ | refine x_part ?_ | refine x_chain ?_ | refine x_int ?_
  | refine x_eqI ?_ | refine x_eqS ?_ | refine x_neI ?_ | refine x_neS ?_ | refine x_eqB ?_ | refine x_neB ?_ | refine x_toI ?_ | refine x_absI ?_ | refine x_mx2 ?_ | refine x_M1 ?_ | refine x_isS ?_ | refine iteT ?_ | refine iteF ?_ | refine x_lc ?_ | refine x_for ?_ | refine x_rng1 ?_ | refine x_iList ?_ | refine x_iTup ?_ | refine x_yes ?_ | refine x_iStr ?_ | refine x_gcons ?_ | refine x_gnil ?_ | refine x_neg ?_ | refine x_sfld ?_ | refine x_tfld ?_ | refine x_make ?_ | refine x_bm ?_)
local macro_rules | `(tactic| walk_at "xs") => `(tactic| repeat (first | walk_at "x" | ((with_reducible show tVar _ _ _ _); refine x_var rfl ?_)))
section
variable {P : Program} {w : World} {K : PySem.W.Frag} {mg : Str → Option Value} {base : Heap}
def spLoad : Sp := fun vs H Q _ => ∃ S : Sto, vs = [.ref S.a] ∧ StoreAt H S ∧ ∀ H', Ext S H H' → Q .non H'
theorem k_load (T : Nm K mg) (F : FnX K mg "_law_load" s_law_load ["store"]) : CalK P w K mg base 1 "_law_load" spLoad := by
  refine cal_of F sc_law_load (fun vs H Q E h => ?_) (fun f cdv A outer s H vs Q E hr h => ?_)
  · obtain ⟨S, rfl, _⟩ := h
    rfl
  · obtain ⟨S, rfl, ⟨ns, a, b, c, d, e, h1, h2, h3⟩, q⟩ := h
    refine ⟨_, (pss_cons (ps_asg pe_int (pg_sub (pv 0) pe_int set_list))
      (pss_one (ps_if (pt_cmpR op_lt (pe_ix (r := rIxL K) ix_list (pv 0) pe_int (fun _ _ => rfl)) (pe_callB cx_len (by rfl) T.n_len (by decide +kernel) (pa_cons (pe_ix (r := rIxL K) ix_list (pv 0) pe_int (fun _ _ => rfl)) pa_nil)) (nomark _)) (pss_cons (ps_set (i := 1) sc_law_load.nd rfl (Or.inl rfl) (pe_ix (r := rIxL K) ix_list (pe_ix (r := rIxL K) ix_list (pv 0) pe_int (fun _ _ => rfl)) (pe_ix (r := rIxL K) ix_list (pv 0) pe_int (fun _ _ => rfl)) (fun _ _ => rfl)))
      (pss_cons (ps_asg (pe_op op_add (pe_ix (r := rIxL K) ix_list (pv 0) pe_int (fun _ _ => rfl)) pe_int) (pg_sub (pv 0) pe_int set_list))
      (pss_cons (ps_asg (pe_op op_mod (pe_callTy cx_int (by rfl) T.n_int (by decide +kernel) (pa_cons (pe_op op_add (pe_op op_add (pe_op op_mul (pe_ix (r := rIxL K) ix_list (pv 0) pe_int (fun _ _ => rfl)) pe_int) (pe_op op_mul (pv 1) pe_int)) pe_int) pa_nil)) pe_int) (pg_sub (pv 0) pe_int set_list))
      (pss_cons (ps_asg pe_int (pg_sub (pv 0) pe_int set_list))
      (pss_one (ps_if (PW.pt (pw_or (pt_cmpR op_ge (pv 1) (pe_op op_pow pe_int pe_int) (nomark _)) (pw_or1 (pt_cmpR op_le (pv 1) (pe_op op_sub pe_int (pe_op op_pow pe_int pe_int)) (nomark _))))) (pss_cons (ps_asg (pe_callB cx_abs (by rfl) T.n_abs (by decide +kernel) (pa_cons (pv 1) pa_nil)) (pg_sub (pv 0) pe_int set_list))
      (pss_one (ps_asg pe_int (pg_sub (pv 0) pe_int set_list)))) pss_nil)))))) pss_nil))), ?_⟩
    have x : StX H S.a S.l ns a b c d e := ⟨h1, h2⟩
    walk_at "xs"
    refine x_p4 x fun H1 k1 x1 => ?_
    walk_at "xs"
    refine x_g1 x1 ?_
    walk_at "xs"
    refine x_g0 x1 ?_
    walk_at "xs"
    refine x_lenL (SqL.of x1.hl) ?_
    walk_at "xs"
    refine x_dec (fun hc => ?_) (fun hc => q H1 (k1.ext x1 h3))
    have hn : (a.toNat) < ns.length := by rw [List.length_map] at hc; omega
    walk_at "xs"
    refine x_g0 x1 ?_
    walk_at "xs"
    refine x_g1 x1 ?_
    refine x_lstI (v := .int ns[a.toNat]) (SqL.of x1.hl) ?_ ?_
    · exact atI_map h3 (List.getElem?_eq_getElem hn)
    walk_at "xs"
    refine x_g1 x1 ?_
    walk_at "xs"
    refine x_p1 x1 fun H2 k2 x2 => ?_
    walk_at "xs"
    refine x_g3 x2 ?_
    walk_at "xs"
    refine x_I mulR ?_
    walk_at "xs"
    refine x_I mulR ?_
    walk_at "xs"
    refine x_I (by show (0 : Int) < 2305843009213693951; decide) ?_
    walk_at "xs"
    refine x_p3 x2 fun H3 k3 x3 => ?_
    walk_at "xs"
    refine x_p4 x3 fun H4 k4 x4 => ?_
    have k : KeepS S.a H H4 := ((k1.trans k2).trans k3).trans k4
    walk_at "xs"
    refine x_I ⟨by decide, by decide, by decide⟩ ?_
    walk_at "xs"
    refine x_dec (fun hb => ?_) (fun hb => ?_)
    · walk_at "xs"
      refine x_p2 x4 fun H5 k5 x5 => ?_
      walk_at "xs"
      refine x_p4 x5 fun H6 k6 x6 => ?_
      walk_at "xs"
      exact q _ ((k.trans (k5.trans k6)).ext x6 (by omega))
    · walk_at "xs"
      refine x_I ⟨by decide, by decide, by decide⟩ ?_
      walk_at "xs"
      refine x_dec (fun hb2 => ?_) (fun hb2 => ?_)
      · walk_at "xs"
        refine x_p2 x4 fun H5 k5 x5 => ?_
        walk_at "xs"
        refine x_p4 x5 fun H6 k6 x6 => ?_
        walk_at "xs"
        exact q _ ((k.trans (k5.trans k6)).ext x6 (by omega))
      · walk_at "xs"
        exact q _ (k.ext x4 (by omega))
/-! ### a draw -/
def spTake : Sp := fun vs H Q _ => ∃ (S : Sto) (n : Int), vs = [.ref S.a, .int n] ∧ n < 1073741824 ∧ StoreAt H S ∧ ∀ i H', Ext S H H' → (n < 2 → i = 0) → (2 ≤ n → 0 ≤ i ∧ i < n) → Q (.int i) H'
theorem i_take {S : Sto} {n : Int} {H : Hp} {Q : VK} {E : XK} (hn : n < 1073741824) (h : StoreAt H S) (q : ∀ i H', Ext S H H' → (n < 2 → i = 0) → (2 ≤ n → 0 ≤ i ∧ i < n) → Q (.int i) H') : spTake [.ref S.a, .int n] H Q E := ⟨S, n, rfl, hn, h, q⟩
theorem i_load {S : Sto} {H : Hp} {Q : VK} {E : XK} (h : StoreAt H S) (q : ∀ H', Ext S H H' → Q .non H') : spLoad [.ref S.a] H Q E := ⟨S, rfl, h, q⟩
theorem k_take (T : Nm K mg) (F : FnX K mg "_law_take" s_law_take ["store", "many"]) (c_law_load : CalK P w K mg base 1 "_law_load" spLoad) : CalK P w K mg base 2 "_law_take" spTake := by
  refine cal_of F sc_law_take (fun vs H Q E h => ?_) (fun f cdv A outer s H vs Q E hr h => ?_)
  · obtain ⟨S, n, rfl, _⟩ := h
    rfl
  · obtain ⟨S, n, rfl, hlt, hs, q⟩ := h
    refine ⟨_, (pss_cons (ps_if (pt_cmpR op_lt (pv 1) pe_int (nomark _)) (pss_one (ps_ret pe_int)) pss_nil)
      (C8.pss_cut (ps_if (PW.pt (pw_and (pt_cmpR op_lt (pe_ix (r := rIxL K) ix_list (pv 0) pe_int (fun _ _ => rfl)) pe_int (nomark _)) (pw_and1 (pt_cmpR op_lt (pe_ix (r := rIxL K) ix_list (pv 0) pe_int (fun _ _ => rfl)) pe_int (nomark _))))) (pss_one (ps_expr (C8.pe_c c_law_load hr (by omega) (by rfl) (pa_cons (pv 0) pa_nil)))) pss_nil)
      (pss_cons (ps_if (pt_cmpR op_gt (pe_ix (r := rIxL K) ix_list (pv 0) pe_int (fun _ _ => rfl)) pe_int (nomark _)) (pss_cons (ps_set (i := 2) sc_law_take.nd rfl (Or.inl rfl) (pe_ix (r := rIxL K) ix_list (pv 0) pe_int (fun _ _ => rfl)))
      (pss_cons (ps_asg (pe_op op_fdiv (pv 2) (pv 1)) (pg_sub (pv 0) pe_int set_list))
      (pss_one (ps_ret (pe_op op_mod (pe_callTy cx_int (by rfl) T.n_int (by decide +kernel) (pa_cons (pv 2) pa_nil)) (pv 1)))))) pss_nil)
      (pss_cons (ps_asg (pe_op op_sub (pe_ix (r := rIxL K) ix_list (pv 0) pe_int (fun _ _ => rfl)) pe_int) (pg_sub (pv 0) pe_int set_list))
      (pss_cons (ps_asg (pe_op op_add (pe_ix (r := rIxL K) ix_list (pv 0) pe_int (fun _ _ => rfl)) pe_int) (pg_sub (pv 0) pe_int set_list))
      (pss_cons (ps_set (i := 3) sc_law_take.nd rfl (Or.inl rfl) (pe_op op_add (pe_op op_add (pe_op op_mul (pe_ix (r := rIxL K) ix_list (pv 0) pe_int (fun _ _ => rfl)) pe_int) (pe_op op_mul (pe_ix (r := rIxL K) ix_list (pv 0) pe_int (fun _ _ => rfl)) pe_int)) pe_int))
      (pss_cons (ps_asg (pe_op op_mod (pe_callTy cx_int (by rfl) T.n_int (by decide +kernel) (pa_cons (pv 3) pa_nil)) pe_int) (pg_sub (pv 0) pe_int set_list))
      (pss_cons (ps_set (i := 3) sc_law_take.nd rfl (Or.inl rfl) (pe_op op_add (pe_op op_add (pe_op op_mul (pe_op op_fdiv (pe_ix (r := rIxL K) ix_list (pv 0) pe_int (fun _ _ => rfl)) pe_int) pe_int) (pe_op op_mul (pe_ix (r := rIxL K) ix_list (pv 0) pe_int (fun _ _ => rfl)) pe_int)) (pe_ix (r := rIxL K) ix_list (pv 0) pe_int (fun _ _ => rfl))))
      (pss_cons (ps_set (i := 3) sc_law_take.nd rfl (Or.inl rfl) (pe_op op_mod (pe_callTy cx_int (by rfl) T.n_int (by decide +kernel) (pa_cons (pv 3) pa_nil)) pe_int))
      (pss_one (ps_ret (pe_op op_mod (pe_callTy cx_int (by rfl) T.n_int (by decide +kernel) (pa_cons (pv 3) pa_nil)) (pv 1))))))))))))), ?_⟩
    walk_at "xs"
    refine x_dec (fun hn => ?_) (fun hn => ?_)
    · walk_at "xs"
      exact q 0 H (.refl hs) (fun _ => rfl) (fun z => by omega)
    have mn : ∀ k : Int, 0 ≤ k % n ∧ k % n < n := fun k => ⟨Int.emod_nonneg k (by omega), Int.emod_lt_of_pos k (by omega)⟩
    walk_at "xs"
    refine ⟨fun σ' H' => σ' = [some (.ref S.a), some (.int n), none, none] ∧ Ext S H H', ?_, ?_⟩
    · obtain ⟨ns, a, b, c, d, e, h1, h2, h3⟩ := id hs
      have x : StX H S.a S.l ns a b c d e := ⟨h1, h2⟩
      walk_at "xs"
      refine x_g2 x ?_
      walk_at "xs"
      refine x_dec (fun hb => ?_) (fun hb => ?_)
      · walk_at "xs"
        refine x_g4 x ?_
        walk_at "xs"
        refine x_dec (fun hd => ?_) (fun hd => ?_)
        · walk_at "xs"
          refine i_load hs fun H1 e1 => ?_
          exact ⟨rfl, e1⟩
        · walk_at "xs"
          exact ⟨rfl, .refl hs⟩
      · walk_at "xs"
        exact ⟨rfl, .refl hs⟩
    · rintro σ1 H1 ⟨rfl, e1⟩
      obtain ⟨ns, a, b, c, d, e, h1, h2, h3⟩ := id e1.st
      have x : StX H1 S.a S.l ns a b c d e := ⟨h1, h2⟩
      walk_at "xs"
      refine x_g2 x ?_
      walk_at "xs"
      refine x_dec (fun hb => ?_) (fun hb => ?_)
      · walk_at "xs"
        refine x_g2 x ?_
        walk_at "xs"
        refine x_I ⟨by omega, hlt⟩ ?_
        walk_at "xs"
        refine x_p2 x fun H2 k2 x2 => ?_
        walk_at "xs"
        refine x_I (by omega) ?_
        exact q _ H2 (e1.trans (k2.ext x2 h3)) (fun z => by omega) (fun _ => mn _)
      · walk_at "xs"
        refine x_g4 x ?_
        walk_at "xs"
        refine x_p4 x fun H2 k2 x2 => ?_
        walk_at "xs"
        refine x_g5 x2 ?_
        walk_at "xs"
        refine x_p5 x2 fun H3 k3 x3 => ?_
        walk_at "xs"
        refine x_g3 x3 ?_
        walk_at "xs"
        refine x_I mulR ?_
        walk_at "xs"
        refine x_g5 x3 ?_
        walk_at "xs"
        refine x_I mulR ?_
        walk_at "xs"
        refine x_I (by show (0 : Int) < 2305843009213693951; decide) ?_
        walk_at "xs"
        refine x_p3 x3 fun H4 k4 x4 => ?_
        walk_at "xs"
        refine x_g3 x4 ?_
        walk_at "xs"
        refine x_I ⟨by decide, by decide⟩ ?_
        walk_at "xs"
        refine x_I mulR ?_
        walk_at "xs"
        refine x_g3 x4 ?_
        walk_at "xs"
        refine x_I mulR ?_
        walk_at "xs"
        refine x_g5 x4 ?_
        walk_at "xs"
        refine x_I (by show (0 : Int) < 2147483629; decide) ?_
        walk_at "xs"
        refine x_I (by omega) ?_
        exact q _ H4 (e1.trans (((k2.trans k3).trans k4).ext x4 h3)) (fun z => by omega) (fun _ => mn _)
/-! ### a number, a pick -/
def spNumber : Sp := fun vs H Q _ => ∃ (S : Sto) (lo hi : Int), vs = [.ref S.a, .int lo, .int hi] ∧ -1000000 ≤ lo ∧ hi ≤ 1000000 ∧ StoreAt H S ∧ ∀ i H', Ext S H H' → lo ≤ i → (lo < hi → i ≤ hi) → (hi ≤ lo → i = lo) → Q (.int i) H'
theorem i_number {S : Sto} {lo hi : Int} {H : Hp} {Q : VK} {E : XK} (h : StoreAt H S) (q : ∀ i H', Ext S H H' → lo ≤ i → (lo < hi → i ≤ hi) → (hi ≤ lo → i = lo) → Q (.int i) H') (h1 : -1000000 ≤ lo := by omega) (h2 : hi ≤ 1000000 := by omega) : spNumber [.ref S.a, .int lo, .int hi] H Q E := ⟨S, lo, hi, rfl, h1, h2, h, q⟩
theorem k_number (T : Nm K mg) (F : FnX K mg "_law_number" s_law_number ["store", "low", "high"]) (c_law_take : CalK P w K mg base 2 "_law_take" spTake) : CalK P w K mg base 3 "_law_number" spNumber := by
  refine cal_of F sc_law_number (fun vs H Q E h => ?_) (fun f cdv A outer s H vs Q E hr h => ?_)
  · obtain ⟨S, lo, hi, rfl, _⟩ := h
    rfl
  · obtain ⟨S, lo, hi, rfl, b1, b2, hs, q⟩ := h
    refine ⟨_, (pss_cons (ps_if (pt_cmpR op_le (pv 2) (pv 1) (nomark _)) (pss_one (ps_ret (pv 1))) pss_nil)
      (pss_cons (ps_set (i := 3) sc_law_number.nd rfl (Or.inl rfl) (C8.pe_c c_law_take hr (by omega) (by rfl) (pa_cons (pv 0) (pa_cons pe_int pa_nil))))
      (pss_cons (ps_if (pt_cmpR op_eq (pv 3) pe_int (nomark _)) (pss_one (ps_ret (pv 1))) pss_nil)
      (pss_cons (ps_if (pt_cmpR op_eq (pv 3) pe_int (nomark _)) (pss_one (ps_ret (pv 2))) pss_nil)
      (pss_cons (ps_if (pt_cmpR op_eq (pv 3) pe_int (nomark _)) (pss_one (ps_ret (pe_op op_add (pv 1) pe_int))) pss_nil)
      (pss_one (ps_ret (pe_op op_add (pv 1) (C8.pe_c c_law_take hr (by omega) (by rfl) (pa_cons (pv 0) (pa_cons (pe_op op_add (pe_op op_sub (pv 2) (pv 1)) pe_int) pa_nil))))))))))), ?_⟩
    walk_at "xs"
    refine x_dec (fun hn => ?_) (fun hn => ?_)
    · walk_at "xs"
      exact q lo H (.refl hs) (by omega) (fun z => by omega) (fun _ => rfl)
    walk_at "xs"
    refine i_take (by decide) hs fun i H1 e1 _ hi1 => ?_
    walk_at "xs"
    refine x_eqi (fun h0 => ?_) (fun h0 => ?_)
    · walk_at "xs"
      exact q lo H1 e1 (by omega) (fun z => by omega) (fun _ => rfl)
    walk_at "xs"
    refine x_eqi (fun h1 => ?_) (fun h1 => ?_)
    · walk_at "xs"
      exact q hi H1 e1 (by omega) (fun z => by omega) (fun z => by omega)
    walk_at "xs"
    refine x_eqi (fun h2 => ?_) (fun h2 => ?_)
    · walk_at "xs"
      exact q (lo + 1) H1 e1 (by omega) (fun z => by omega) (fun z => by omega)
    walk_at "xs"
    refine i_take (by omega) e1.st fun j H2 e2 _ hj => ?_
    walk_at "xs"
    exact q (lo + j) H2 (e1.trans e2) (by omega) (fun z => by omega) (fun z => by omega)
def spPick (K : PySem.W.Frag) : Sp := fun vs H Q _ => ∃ (S : Sto) (p : Addr) (xs : List V), vs = [.ref S.a, .ref p] ∧ p ≠ S.a ∧ H p = some (.lst xs) ∧ 0 < xs.length ∧ xs.length < 1000000 ∧ StoreAt H S ∧ ∀ (i : Nat) v H', Ext S H H' → xs[i]? = some v → Q v H'
theorem i_pick {S : Sto} {p : Addr} {xs : List V} {H : Hp} {Q : VK} {E : XK} (h : StoreAt H S) (hp : H p = some (.lst xs)) (q : ∀ (i : Nat) v H', Ext S H H' → xs[i]? = some v → Q v H') (n : p ≠ S.a) (h1 : 0 < xs.length) (h2 : xs.length < 1000000) : spPick K [.ref S.a, .ref p] H Q E := ⟨S, p, xs, rfl, n, hp, h1, h2, h, q⟩
theorem k_pick (T : Nm K mg) (F : FnX K mg "_law_pick" s_law_pick ["store", "row"]) (c_law_take : CalK P w K mg base 2 "_law_take" spTake) : CalK P w K mg base 3 "_law_pick" (spPick K) := by
  refine cal_of F sc_law_pick (fun vs H Q E h => ?_) (fun f cdv A outer s H vs Q E hr h => ?_)
  · obtain ⟨S, p, xs, rfl, _⟩ := h
    rfl
  · obtain ⟨S, p, xs, rfl, n, hp, h1, h2, hs, q⟩ := h
    refine ⟨_, (pss_one (ps_ret (pe_ix (r := rIxL K) ix_list (pv 1) (C8.pe_c c_law_take hr (by omega) (by rfl) (pa_cons (pv 0) (pa_cons (pe_callB cx_len (by rfl) T.n_len (by decide +kernel) (pa_cons (pv 1) pa_nil)) pa_nil))) (fun _ _ => rfl)))), ?_⟩
    walk_at "xs"
    refine x_lenL (SqL.of hp) ?_
    walk_at "xs"
    refine i_take (by omega) hs fun i H1 e1 hi0 hi => ?_
    have hi' : 0 ≤ i ∧ i.toNat < xs.length := by
      by_cases z : (xs.length : Int) < 2
      · have := hi0 z
        omega
      · have := hi (by omega)
        omega
    refine x_lstI (SqL.of (e1.keep _ _ n hp)) (atI_int hi'.1 (List.getElem?_eq_getElem hi'.2)) ?_
    exact q i.toNat _ H1 e1 (List.getElem?_eq_getElem hi'.2)
end
end K76

set_option Elab.async false
set_option linter.all false
set_option maxRecDepth 100000
namespace K76
open PySem PySem.Spec PyProof.Rows L2 SX
local macro_rules | `(tactic| walk_at "x") => `(tactic| with_reducible first
  | refine x_seq ?_ | refine x_asg ?_ | refine x_op ?_ | refine x_cons ?_ | refine x_nil ?_ | refine x_c ?_ | refine x_name ?_ | refine x_cb ?_ | refine x_call ?_ | refine x_ret ?_ | refine x_ifS ?_
  | refine x_test ?_ | refine x_bl ?_ | refine x_I0 ?_ | refine x_sub ?_ | refine x_tup ?_ | refine x_lst ?_ | refine x_and ?_ | refine x_or ?_ | refine x_not ?_ | refine x_if ?_ | refine x_andV ?_ | refine x_orV ?_ | refine x_notV ?_
  | refine x_retN ?_ | refine x_drop ?_ | refine x_next ?_ | refine x_un ?_ | refine x_B ?_ | refine x_sl ?_ | refine x_noPart ?_ | refine x_part ?_ | refine x_chain ?_ | refine x_int ?_
  | refine x_eqI ?_ | refine x_eqS ?_ | refine x_neI ?_ | refine x_neS ?_ | refine x_eqB ?_ | refine x_neB ?_ | refine x_toI ?_ | refine x_absI ?_ | refine x_mx2 ?_ | refine x_M1 ?_ | refine x_isS ?_ | refine iteT ?_ | refine iteF ?_ | refine x_lc ?_ | refine x_for ?_ | refine x_rng1 ?_ | refine x_iList ?_ | refine x_iTup ?_ | refine x_yes ?_ | refine x_iStr ?_ | refine x_gcons ?_ | refine x_gnil ?_ | refine x_neg ?_ | refine x_sfld ?_ | refine x_tfld ?_ | refine x_make ?_ | refine x_bm ?_)
local macro_rules | `(tactic| walk_at "xs") => `(tactic| repeat (first | walk_at "x" | ((with_reducible show tVar _ _ _ _); refine x_var rfl ?_)))
section
variable {P : Program} {w : World} {K : PySem.W.Frag} {mg : Str → Option Value} {base : Heap}
def spSpell : Sp := fun vs H Q _ => ∃ (S : Sto) (n : Int), vs = [.ref S.a, .int n] ∧ 1 ≤ n ∧ n ≤ 8 ∧ StoreAt H S ∧ ∀ l H', Ext S H H' → Nam l → Q (.str (SX.S l)) H'
theorem i_spell {S : Sto} {n : Int} {H : Hp} {Q : VK} {E : XK} (h : StoreAt H S) (q : ∀ l H', Ext S H H' → Nam l → Q (.str (SX.S l)) H') (h1 : 1 ≤ n := by omega) (h2 : n ≤ 8 := by omega) : spSpell [.ref S.a, .int n] H Q E := ⟨S, n, rfl, h1, h2, h, q⟩
theorem k_spell (T : Nm K mg) (F : FnX K mg "_law_spell" s_law_spell ["store", "size"]) (c_law_take : CalK P w K mg base 2 "_law_take" spTake) : CalK P w K mg base 3 "_law_spell" spSpell := by
  refine cal_of F sc_law_spell (fun vs H Q E h => ?_) (fun f cdv A outer s H vs Q E hr h => ?_)
  · obtain ⟨S, n, rfl, _⟩ := h
    rfl
  · obtain ⟨S, n, rfl, h1, h2, hs, q⟩ := h
    refine ⟨_, (pss_one (ps_ret (show PE _ _ (tM1 (rJoin _) _ _) from pe_join pe_str (pe_lc (own := [("k", 2)]) (g := gName 2) (by rfl) sc_law_spell.nd (pi_range1 (by rfl) T.n_range (pa_cons (pv 1) pa_nil)) (blkOk_by (own := [("k", 2)]) (N := ["store", "size", "k"]) (sc := defScope s_law_spell) (by decide +kernel)) (fun _ _ _ _ _ => pg_name (i := 2) sc_law_spell.nd rfl (Or.inl rfl)) (fun _ _ _ _ _ => pts_nil) (fun _ _ _ _ _ => (pe_ix ix_str pe_str (C8.pe_c c_law_take hr (by omega) (by rfl) (pa_cons (pv 0) (pa_cons pe_int pa_nil))) (fun _ _ => rfl))))))), ?_⟩
    walk_at "xs"
    refine ⟨n, rfl, by omega, by omega, fun D nD => lc_range (lo := 0) (n := n.toNat) (fun i H' => ∃ l : List Nat, l.length = i ∧ Low l ∧ H' D = some (.lst ((l.map fun c => SX.S [c]).map V.str)) ∧ Ext S H H') ?_ ?_ ?_⟩
    · exact ⟨[], rfl, (fun _ h => nomatch h), upd_same, (Ext.refl hs).new nD⟩
    · rintro i H1 hi ⟨l, hl, lo, hD, e1⟩
      walk_at "xs"
      refine ⟨rfl, ?_⟩
      walk_at "xs"
      refine i_take (by decide) e1.st fun j H2 e2 _ hj => ?_
      have hj := hj (by decide)
      refine ⟨azS, j, 97 + j.toNat, rfl, rfl, by decide, az_at hj, ?_⟩
      have nDS := hs.free nD
      refine ⟨_, e2.keep _ _ nDS.1 hD, ?_, l ++ [97 + j.toNat], ?_, ?_, ?_, ?_⟩
      · rw [List.length_map, List.length_map]
        exact szl (by omega)
      · rw [List.length_append, hl] <;> rfl
      · intro c hc
        rcases List.mem_append.mp hc with h | h
        · exact lo c h
        · have := List.mem_singleton.mp h
          omega
      · rw [upd_same, List.map_append, List.map_append] <;> rfl
      · exact (e1.trans e2).mut nD nDS
    · rintro H1 ⟨l, hl, lo, hD, e1⟩
      refine ⟨SX.S [], D, (l.map fun c => SX.S [c]), rfl, rfl, .inl (SqL.of hD), ?_, ?_⟩
      · have z : ((l.map fun c => SX.S [c]).map (·.length)).sum ≤ l.length := by
          clear hl lo hD
          induction l with
          | nil => exact Nat.le_refl _
          | cons c r ih =>
            rw [List.map_cons, List.map_cons, List.sum_cons, List.length_cons]
            have : (SX.S [c]).length = 1 := rfl
            omega
        have z2 : (SX.S []).length = 0 := rfl
        rw [z2]
        omega
      · rw [join_single]
        exact q l H1 e1 ⟨by omega, by omega, lo⟩
/-! ### a new name -/
def spFresh : Sp := fun vs H Q _ => ∃ (S : Sto) (U : Addr) (us : List Str), vs = [.ref S.a, .ref U] ∧ U ≠ S.a ∧ H U = some (.lst (us.map V.str)) ∧ us.length ≤ 6 ∧ (∀ u ∈ us, ∃ l, u = SX.S l ∧ Nam l) ∧ StoreAt H S ∧ ∀ z H', Ext S H H' → Fre z → z ∉ us → Q (.str z) H'
theorem i_fresh {S : Sto} {U : Addr} {us : List Str} {H : Hp} {Q : VK} {E : XK} (h : StoreAt H S) (n : U ≠ S.a) (hU : H U = some (.lst (us.map V.str))) (h6 : us.length ≤ 6) (hn : ∀ u ∈ us, ∃ l, u = SX.S l ∧ Nam l)
    (q : ∀ z H', Ext S H H' → Fre z → z ∉ us → Q (.str z) H') : spFresh [.ref S.a, .ref U] H Q E := ⟨S, U, us, rfl, n, hU, h6, hn, h, q⟩
theorem k_fresh (T : Nm K mg) (F : FnX K mg "_law_fresh" s_law_fresh ["store", "used"]) (c_law_take : CalK P w K mg base 2 "_law_take" spTake) (c_law_number : CalK P w K mg base 3 "_law_number" spNumber) (c_law_pick : CalK P w K mg base 3 "_law_pick" (spPick K))
    (c_law_spell : CalK P w K mg base 3 "_law_spell" spSpell) : CalK P w K mg base 4 "_law_fresh" spFresh := by
  refine cal_of F sc_law_fresh (fun vs H Q E h => ?_) (fun f cdv A outer s H vs Q E hr h => ?_)
  · obtain ⟨S, U, us, rfl, _⟩ := h
    rfl
  · obtain ⟨S, U, us, rfl, n, hU, h6, hn, hs, q⟩ := h
    refine ⟨_, (pss_cons (ps_set (i := 2) sc_law_fresh.nd rfl (Or.inl rfl) (C8.pe_c c_law_spell hr (by omega) (by rfl) (pa_cons (pv 0) (pa_cons (C8.pe_c c_law_number hr (by omega) (by rfl) (pa_cons (pv 0) (pa_cons pe_int (pa_cons pe_int pa_nil)))) pa_nil))))
      (C8.pss_cut (ps_if (PW.pt (pw_and (pt_cmpR op_gt (pe_callB cx_len (by rfl) T.n_len (by decide +kernel) (pa_cons (pv 1) pa_nil)) pe_int (nomark _)) (pw_and1 (pt_cmpR op_eq (C8.pe_c c_law_take hr (by omega) (by rfl) (pa_cons (pv 0) (pa_cons pe_int pa_nil))) pe_int (nomark _))))) (pss_one (ps_set (i := 2) sc_law_fresh.nd rfl (Or.inl rfl) (C8.pe_c c_law_pick hr (by omega) (by rfl) (pa_cons (pv 0) (pa_cons (pv 1) pa_nil))))) pss_nil)
      (pss_cons (ps_set (i := 3) sc_law_fresh.nd rfl (Or.inl rfl) (C8.pe_c c_law_take hr (by omega) (by rfl) (pa_cons (pv 0) (pa_cons (pe_callB cx_len (by rfl) T.n_len (by decide +kernel) (pa_cons (pv 2) pa_nil)) pa_nil))))
      (pss_cons (ps_set (i := 4) sc_law_fresh.nd rfl (Or.inl rfl) (C8.pe_c c_law_take hr (by omega) (by rfl) (pa_cons (pv 0) (pa_cons pe_int pa_nil))))
      (pss_cons (ps_for PassesOwn.never rfl (pi_range1 (by rfl) T.n_range (pa_cons pe_int pa_nil)) (pg_name (i := 5) sc_law_fresh.nd rfl (Or.inl rfl)) (pss_one (ps_if (pt_cut (PW.pt (pw_or (pt_cmpR op_in_seq (pv 2) (pv 1) (by rfl)) (pw_or1 (pt_cmpR op_in_seq (pv 2) (pe_lst (pa_cons pe_str (pa_cons pe_str (pa_cons pe_str (pa_cons pe_str (pa_cons pe_str (pa_cons pe_str (pa_cons pe_str (pa_cons pe_str (pa_cons pe_str pa_nil)))))))))) (by rfl)))))) (pss_one (ps_set (i := 2) sc_law_fresh.nd rfl (Or.inl rfl) (pe_op ox_cats (pe_op ox_cats (pe_slice C8.sl_txt (pv 2) po_none (po_some (pv 3))) (pe_ix ix_str pe_str (pe_op op_mod (pe_callTy cx_int (by rfl) T.n_int (by decide +kernel) (pa_cons (pe_op op_add (pv 4) (pv 5)) pa_nil)) pe_int) (fun _ _ => rfl))) (pe_slice C8.sl_txt (pv 2) (po_some (pe_op op_add (pv 3) pe_int)) po_none)))) pss_nil)))
      (pss_one (ps_ret (pv 2)))))))), ?_⟩
    walk_at "xs"
    refine i_number hs fun i H1 e1 i1 i2 _ => ?_
    have i2 := i2 (by decide)
    walk_at "xs"
    refine i_spell e1.st fun l0 H2 e2 nl0 => ?_
    have e2 := e1.trans e2
    walk_at "xs"
    refine ⟨fun σ' H' => ∃ l, σ' = [some (.ref S.a), some (.ref U), some (.str (SX.S l)), none, none, none] ∧ Nam l ∧ Ext S H H', ?_, ?_⟩
    · walk_at "xs"
      refine x_lenL (SqL.of (e2.keep _ _ n hU)) ?_
      walk_at "xs"
      refine x_dec (fun hp => ?_) (fun _ => ?_)
      · walk_at "xs"
        refine i_take (by decide) e2.st fun j H3 e3 _ hj => ?_
        have e3 := e2.trans e3
        walk_at "xs"
        refine x_eqi (fun _ => ?_) (fun _ => ?_)
        · walk_at "xs"
          refine i_pick e3.st (e3.keep _ _ n hU) (fun m v H4 e4 hv => ?_) n (by omega) (by rw [List.length_map]; omega)
          rw [List.getElem?_map] at hv
          cases hm : us[m]? with
          | none =>
            rw [hm] at hv
            cases hv
          | some u =>
            rw [hm] at hv
            have ev : V.str u = v := Option.some.inj hv
            obtain ⟨l, rfl, nl⟩ := hn u (List.mem_of_getElem? hm)
            subst ev
            walk_at "xs"
            exact ⟨l, rfl, nl, e3.trans e4⟩
        · walk_at "xs"
          exact ⟨l0, rfl, nl0, e3⟩
      · walk_at "xs"
        exact ⟨l0, rfl, nl0, e2⟩
    · rintro σ1 H1 ⟨l, rfl, nl, e1⟩
      have hlen := nl.2.1
      have hlS : (SX.S l).length = l.length := S_len l
      walk_at "xs"
      refine x_lenS (by rw [hlS]; exact sz (by omega)) ?_
      walk_at "xs"
      refine i_take (by rw [hlS]; omega) e1.st fun at_ H2 e2 ha0 ha => ?_
      have e2 := e1.trans e2
      rw [hlS] at ha0 ha
      have hat : 0 ≤ at_ ∧ at_.toNat < l.length := by
        have := nl.1
        by_cases z : (l.length : Int) < 2
        · have := ha0 z
          omega
        · have := ha (by omega)
          omega
      walk_at "xs"
      refine i_take (by decide) e2.st fun sh H3 e3 _ hsh => ?_
      have e3 := e2.trans e3
      have hsh := hsh (by decide)
      -- the text in three parts
      obtain ⟨p, c, r, rfl, hp⟩ : ∃ p c r, l = p ++ c :: r ∧ p.length = at_.toNat := by
        refine ⟨l.take at_.toNat, l[at_.toNat]'hat.2, l.drop (at_.toNat + 1), ?_, ?_⟩
        · rw [List.getElem_cons_drop, List.take_append_drop]
        · rw [List.length_take]
          omega
      have lowp : Low p ∧ Low r := ⟨fun x h => nl.2.2 x (List.mem_append_left _ h), fun x h => nl.2.2 x (List.mem_append_right _ (List.mem_cons_of_mem _ h))⟩
      have lenp : ∀ x, (p ++ x :: r).length = p.length + 1 + r.length := fun x => by
        rw [List.length_append, List.length_cons]
        omega
      rw [lenp] at hlen
      have nam_of : ∀ c, 97 ≤ c ∧ c ≤ 122 → Nam (p ++ c :: r) := fun c hc => by
        refine ⟨?_, ?_, fun x hx => ?_⟩
        · rw [List.length_append, List.length_cons]
          omega
        · rw [List.length_append, List.length_cons]
          omega
        · rcases List.mem_append.mp hx with h | h
          · exact lowp.1 x h
          · rcases List.mem_cons.mp h with h | h
            · rw [h]; exact hc
            · exact lowp.2 x h
      walk_at "xs"
      refine ⟨26, rfl, by decide, by decide, for_range (lo := 0) (n := 26) (fun i σ' H' => ∃ c y, σ' = [some (.ref S.a), some (.ref U), some (.str (SX.S (p ++ c :: r))), some (.int at_), some (.int sh), y] ∧ (97 ≤ c ∧ c ≤ 122) ∧ Ext S H H' ∧
        (SX.S (p ++ c :: r) ∉ us ++ taken ∨ ((i = 0 ∨ SX.S (p ++ c :: r) = nth p r sh.toNat (i - 1)) ∧ ∀ j, j + 1 < i → nth p r sh.toNat j ∈ us ++ taken))) ?_ ?_ ?_⟩
      · exact ⟨c, none, rfl, nl.2.2 c (List.mem_append_right _ List.mem_cons_self), e3, .inr ⟨.inl rfl, fun j hj => by omega⟩⟩
      · rintro i σ' H4 hi ⟨c, y, rfl, hc, e4, hb⟩
        have nm := nam_of c hc
        walk_at "xs"
        refine ⟨fun b H5 => Ext S H H5 ∧ b = decide (SX.S (p ++ c :: r) ∈ us ++ taken), ?_, ?_⟩
        · walk_at "xs"
          refine x_inL (SqL.of (e4.keep _ _ n hU)) ?_
          walk_at "xs"
          refine x_dec (fun hu => ?_) (fun hu => ?_)
          · exact ⟨e4, (decide_eq_true (List.mem_append_left _ hu)).symm⟩
          · walk_at "xs"
            refine ⟨by decide, fun D nD => ?_⟩
            refine x_inL (l := taken) (SqL.of upd_same) ?_
            walk_at "xs"
            refine ⟨e4.new nD, decide_eq_decide.mpr ⟨fun h => List.mem_append_right _ h, fun h => ?_⟩⟩
            rcases List.mem_append.mp h with h | h
            · exact absurd h hu
            · exact h
        · rintro b H5 ⟨e5, rfl⟩
          refine x_dec (fun hm => ?_) (fun hm => ?_)
          · have old : (i = 0 ∨ SX.S (p ++ c :: r) = nth p r sh.toNat (i - 1)) ∧ ∀ j, j + 1 < i → nth p r sh.toNat j ∈ us ++ taken := by
              rcases hb with hb | hb
              · exact absurd hm hb
              · exact hb
            walk_at "xs"
            refine ⟨SX.S (p ++ c :: r), rfl, by rw [S_len, lenp]; exact sz (by omega), ?_⟩
            rw [slice_to hat.1, show at_.toNat = p.length from hp.symm, List.take_left' rfl]
            walk_at "xs"
            refine x_I (by show (0 : Int) < 26; decide) ?_
            refine ⟨azS, _, 97 + (sh.toNat + i) % 26, rfl, rfl, by decide, ?_, ?_⟩
            · have e26 : (sh + (0 + (i : Int))) % 26 = (((sh.toNat + i) % 26 : Nat) : Int) := by omega
              rw [e26]
              have := az_at (i := (((sh.toNat + i) % 26 : Nat) : Int)) (by omega)
              rwa [Int.toNat_natCast] at this
            refine x_cats (by rw [S_len]; exact sz (by show _ + 1 ≤ _; omega)) ?_
            walk_at "xs"
            refine ⟨SX.S (p ++ c :: r), rfl, by rw [S_len, lenp]; exact sz (by omega), ?_⟩
            have edr : (p ++ c :: r).drop (at_ + 1).toNat = r := by
              have : (at_ + 1).toNat = p.length + 1 := by omega
              rw [this, ← List.drop_drop, List.drop_left' rfl] <;> rfl
            rw [slice_from (by omega), edr]
            have ec : SX.S p ++ (⟨#[97 + (sh.toNat + i) % 26]⟩ : Str) = SX.S (p ++ [97 + (sh.toNat + i) % 26]) := S_cat p [97 + (sh.toNat + i) % 26]
            rw [ec]
            refine x_cats (by rw [S_len, S_len, List.length_append]; exact sz (by show _ + 1 + _ ≤ _; omega)) ?_
            rw [S_cat, List.append_assoc]
            walk_at "xs"
            refine ⟨97 + (sh.toNat + i) % 26, _, rfl, by omega, e5, .inr ⟨.inr rfl, fun j hj => ?_⟩⟩
            by_cases hji : j + 1 < i
            · exact old.2 j hji
            · rcases old.1 with h0 | h0
              · omega
              · have : j = i - 1 := by omega
                rw [this, ← h0]
                exact hm
          · walk_at "xs"
            exact ⟨c, _, rfl, hc, e5, .inl hm⟩
      · rintro σ' H4 ⟨c, y, rfl, hc, e4, hb⟩
        walk_at "xs"
        have good : SX.S (p ++ c :: r) ∉ us ++ taken := by
          rcases hb with hb | ⟨hb1, hb2⟩
          · exact hb
          · intro hm
            have hb1 : SX.S (p ++ c :: r) = nth p r sh.toNat 25 := by
              rcases hb1 with h | h
              · cases h
              · exact h
            have := tries (p := p) (q := r) (sh := sh.toNat) (bad := us ++ taken) fun j hj => by
              by_cases h25 : j < 25
              · exact hb2 j (by omega)
              · have : j = 25 := by omega
                rw [this, ← hb1]
                exact hm
            rw [List.length_append] at this
            have : taken.length = 9 := rfl
            omega
        exact q _ H4 e4 ⟨⟨_, rfl, nam_of c hc⟩, fun h => good (List.mem_append_right _ h)⟩ fun h => good (List.mem_append_left _ h)
end
end K76

set_option Elab.async false
set_option linter.all false
set_option maxRecDepth 100000
/-! the program's judges of names, letters, trees -/
namespace K76
open PySem PySem.Spec PyProof.Rows L2 SX
local macro_rules | `(tactic| walk_at "x") => `(tactic| with_reducible first
  | refine x_seq ?_ | refine x_asg ?_ | refine x_op ?_ | refine x_cons ?_ | refine x_nil ?_ | refine x_c ?_ | refine x_name ?_ | refine x_cb ?_ | refine x_call ?_ | refine x_ret ?_ | refine x_ifS ?_
  | refine x_test ?_ | refine x_bl ?_ | refine x_I0 ?_ | refine x_sub ?_ | refine x_tup ?_ | refine x_lst ?_ | refine x_and ?_ | refine x_or ?_ | refine x_not ?_ | refine x_if ?_ | refine x_andV ?_ | refine x_orV ?_ | refine x_notV ?_
  | refine x_retN ?_ | refine x_drop ?_ | refine x_next ?_ | refine x_un ?_ | refine x_B ?_ | refine x_sl ?_ | refine x_noPart ?_ | refine x_part ?_ | refine x_chain ?_ | refine x_int ?_
  | refine x_eqI ?_ | refine x_eqS ?_ | refine x_neI ?_ | refine x_neS ?_ | refine x_eqB ?_ | refine x_neB ?_ | refine x_toI ?_ | refine x_absI ?_ | refine x_mx2 ?_ | refine x_M1 ?_ | refine x_isS ?_ | refine iteT ?_ | refine iteF ?_ | refine x_lc ?_ | refine x_for ?_ | refine x_rng1 ?_ | refine x_iList ?_ | refine x_iTup ?_ | refine x_yes ?_ | refine x_iStr ?_ | refine x_gcons ?_ | refine x_gnil ?_ | refine x_neg ?_ | refine x_sfld ?_ | refine x_tfld ?_ | refine x_make ?_ | refine x_bm ?_)
local macro_rules | `(tactic| walk_at "xs") => `(tactic| repeat (first | walk_at "x" | ((with_reducible show tVar _ _ _ _); refine x_var rfl ?_)))
section
variable {P : Program} {w : World} {K : PySem.W.Frag} {mg : Str → Option Value} {base : Heap}
theorem same_new {H : Hp} {p : Addr} {o : HO} (h : H p = none) : Same H (upd H p o) := fun b u e => by
  rw [upd_ne (ne_of_none e h)]
  exact e
/-- a judge of one value of data -/
def spJ (f : PyData → Bool) : Sp := fun vs H Q _ => ∃ x d v, vs = [v] ∧ At x H d v ∧ ∀ H', Same H H' → Q (.bl (f d)) H'
theorem i_J {f : PyData → Bool} {x : Addr} {d : PyData} {v : V} {H : Hp} {Q : VK} {E : XK} (h : At x H d v) (q : ∀ H', Same H H' → Q (.bl (f d)) H') : spJ f [v] H Q E := ⟨x, d, v, rfl, h, q⟩
def spIsWhole : Sp := fun vs H Q _ => ∃ x d v lo hi, vs = [v, .int lo, .int hi] ∧ At x H d v ∧ ∀ H', Same H H' → Q (.bl (numD lo hi d)) H'
theorem i_isWhole {x : Addr} {d : PyData} {v : V} {lo hi : Int} {H : Hp} {Q : VK} {E : XK} (h : At x H d v) (q : ∀ H', Same H H' → Q (.bl (numD lo hi d)) H') : spIsWhole [v, .int lo, .int hi] H Q E := ⟨x, d, v, lo, hi, rfl, h, q⟩
theorem k_is_whole (T : Nm K mg) (F : FnX K mg "is_whole" s_is_whole ["value", "low", "high"]) : CalK P w K mg base 1 "is_whole" spIsWhole := by
  refine cal_of F sc_is_whole (fun vs H Q E h => ?_) (fun f cdv A outer s H vs Q E hr h => ?_)
  · obtain ⟨x, d, v, lo, hi, rfl, _⟩ := h
    rfl
  · obtain ⟨x, d, v, lo, hi, rfl, hd, q⟩ := h
    refine ⟨_, (pss_cons (ps_if (PW.pt (pw_or (pt_not (pt_val (pe_callB (id := "isinstance") (r := rIsi K) call_isi (by rfl) T.n_isinstance (by decide +kernel) (pa_cons (pv 0) (pa_cons (pe_bltn (v := .ty "int") (by rfl) T.n_int (by decide +kernel) rfl) pa_nil))))) (pw_or1 (pt_val (pe_callB (id := "isinstance") (r := rIsi K) call_isi (by rfl) T.n_isinstance (by decide +kernel) (pa_cons (pv 0) (pa_cons (pe_bltn (v := .ty "bool") (by rfl) T.n_bool (by decide +kernel) rfl) pa_nil))))))) (pss_one (ps_ret pe_bl)) pss_nil)
      (pss_one (ps_ret (pe_chain op_le op_le (pv 1) (pv 0) (pv 2))))), ?_⟩
    walk_at "xs"
    refine x_isInt hd ?_
    walk_at "xs"
    refine x_ite (fun h1 => ?_) (fun h1 => ?_)
    · walk_at "xs"
      have e : numD lo hi d = false := by
        cases d <;> first | rfl | cases h1
      rw [← e]
      exact q H (Same.refl H)
    · walk_at "xs"
      refine x_isBool hd ?_
      walk_at "xs"
      refine x_ite (fun h2 => ?_) (fun h2 => ?_)
      · walk_at "xs"
        have e : numD lo hi d = false := by
          cases d <;> first | rfl | cases h2
        rw [← e]
        exact q H (Same.refl H)
      · cases d with
        | int i =>
          obtain rfl : v = .int i := hd
          walk_at "xs"
          refine x_dec (fun h3 => ?_) (fun h3 => ?_)
          · walk_at "xs"
            have e : numD lo hi (.int i) = decide (i ≤ hi) := by
              show (decide (lo ≤ i) && decide (i ≤ hi)) = _
              rw [decide_eq_true h3, Bool.true_and]
            rw [← e]
            exact q H (Same.refl H)
          · have e : numD lo hi (.int i) = false := by
              show (decide (lo ≤ i) && decide (i ≤ hi)) = _
              rw [decide_eq_false h3, Bool.false_and]
            rw [← e]
            exact q H (Same.refl H)
        | bool b => cases h2
        | none => cases h1
        | str _ => cases h1
        | tuple _ => cases h1
        | list _ => cases h1
        | dict _ => cases h1
theorem k_good_name (T : Nm K mg) (F : FnX K mg "good_name" s_good_name ["text"]) : CalK P w K mg base 1 "good_name" (spJ (strD isName)) := by
  refine cal_of F sc_good_name (fun vs H Q E h => ?_) (fun f cdv A outer s H vs Q E hr h => ?_)
  · obtain ⟨x, d, v, rfl, _⟩ := h
    rfl
  · obtain ⟨x, d, v, rfl, hd, q⟩ := h
    refine ⟨_, (pss_cons (ps_if (pt_not (pt_val (pe_callB (id := "isinstance") (r := rIsi K) call_isi (by rfl) T.n_isinstance (by decide +kernel) (pa_cons (pv 0) (pa_cons (pe_bltn (v := .ty "str") (by rfl) T.n_str (by decide +kernel) rfl) pa_nil))))) (pss_one (ps_ret pe_bl)) pss_nil)
      (pss_cons (ps_if (PW.pt (pw_or (pt_cmpR op_lt (pe_callB cx_len (by rfl) T.n_len (by decide +kernel) (pa_cons (pv 0) pa_nil)) pe_int (nomark _)) (pw_or1 (pt_cmpR op_gt (pe_callB cx_len (by rfl) T.n_len (by decide +kernel) (pa_cons (pv 0) pa_nil)) (C8.pe_gc (v := .int 8) rfl T.v_LONGEST_NAME) (nomark _))))) (pss_one (ps_ret pe_bl)) pss_nil)
      (pss_one (ps_ret (pe_callB (cr_all rfl) (by rfl) T.n_all (by decide +kernel) (pa_cons (pe_lc (own := [("sign", 1)]) (g := gName 1) (by rfl) sc_good_name.nd (pi_str (pv 0)) (blkOk_by (own := [("sign", 1)]) (N := ["text", "sign"]) (sc := defScope s_good_name) (by decide +kernel)) (fun _ _ _ _ _ => pg_name (i := 1) sc_good_name.nd rfl (Or.inl rfl)) (fun _ _ _ _ _ => pts_nil) (fun _ _ _ _ _ => (pe_cmpR ox_insg (pv 1) (C8.pe_gc (v := .str azS) rfl T.v_SMALL_LETTERS) (by rfl)))) pa_nil)))))), ?_⟩
    walk_at "xs"
    refine x_isStr hd ?_
    walk_at "xs"
    cases d with
    | str z =>
      obtain ⟨rfl, hz⟩ := hd
      refine iteF ?_
      have hl : z.cps.toList.length = z.length := by rw [Array.length_toList] <;> rfl
      walk_at "xs"
      refine x_lenS (sz (by omega)) ?_
      walk_at "xs"
      have no : ∀ h : ¬ (1 ≤ z.length ∧ z.length ≤ 8), Q (.bl false) H := fun h => by
        have e : strD isName (.str z) = false := by
          show (decide (1 ≤ z.length) && (decide (z.length ≤ 8) && z.cps.toList.all fun c => decide (c ∈ azS.cps.toList))) = false
          by_cases h1 : 1 ≤ z.length
          · rw [decide_eq_false (show ¬ z.length ≤ 8 from fun h2 => h ⟨h1, h2⟩), Bool.false_and, Bool.and_false]
          · rw [decide_eq_false h1, Bool.false_and]
        have := q H (Same.refl H)
        rwa [e] at this
      refine x_dec (fun h1 => ?_) (fun h1 => ?_)
      · walk_at "xs"
        exact no (by omega)
      walk_at "xs"
      refine x_lenS (sz (by omega)) ?_
      walk_at "xs"
      refine x_dec (fun h2 => ?_) (fun h2 => ?_)
      · walk_at "xs"
        exact no (by omega)
      walk_at "xs"
      refine ⟨z, rfl, fun D nD => lc_text (fun i H' => Same H H' ∧ H' D = some (.lst (((z.cps.toList.take i).map fun c => decide (c ∈ azS.cps.toList)).map V.bl))) ?_ ?_ ?_⟩
      · exact ⟨same_new nD, by rw [upd_same, List.take_zero] <;> rfl⟩
      · rintro i c H1 hc ⟨sm, hD⟩
        walk_at "xs"
        refine ⟨rfl, ?_⟩
        walk_at "xs"
        refine ⟨c, azS, rfl, rfl, ?_⟩
        refine ⟨_, hD, ?_, ?_, ?_⟩
        · rw [List.length_map, List.length_map, List.length_take]
          exact szl (by omega)
        · intro b u e
          rw [upd_ne (ne_of_none e nD)]
          exact sm b u e
        · have ec : z.cps.toList[i]? = some c := by rw [Array.getElem?_toList]; exact hc
          rw [upd_same, List.take_add_one, ec, List.map_append, List.map_append] <;> rfl
      · rintro H1 ⟨sm, hD⟩
        walk_at "xs"
        refine x_allB (SqL.of hD) ?_
        have et : z.cps.toList.take z.cps.size = z.cps.toList := List.take_of_length_le (by rw [Array.length_toList] <;> exact Nat.le_refl _)
        have e : (((z.cps.toList.take z.cps.size).map fun c => decide (c ∈ azS.cps.toList)).all id) = strD isName (.str z) := by
          show _ = (decide (1 ≤ z.length) && (decide (z.length ≤ 8) && z.cps.toList.all fun c => decide (c ∈ azS.cps.toList)))
          rw [decide_eq_true (show 1 ≤ z.length by omega), decide_eq_true (show z.length ≤ 8 by omega), Bool.true_and, Bool.true_and, et, List.all_map] <;> rfl
        rw [e]
        exact q H1 sm
    | _ => exact q H (Same.refl H)
theorem k_free_name (T : Nm K mg) (F : FnX K mg "free_name" s_free_name ["text"]) (c_good_name : CalK P w K mg base 1 "good_name" (spJ (strD isName))) : CalK P w K mg base 2 "free_name" (spJ nameD) := by
  refine cal_of F sc_free_name (fun vs H Q E h => ?_) (fun f cdv A outer s H vs Q E hr h => ?_)
  · obtain ⟨x, d, v, rfl, _⟩ := h
    rfl
  · obtain ⟨x, d, v, rfl, hd, q⟩ := h
    refine ⟨_, (pss_one (ps_ret (pe_and (C8.pe_c c_good_name hr (by omega) (by rfl) (pa_cons (pv 0) pa_nil)) (pe_one (pe_cmpR op_notIn_seq (pv 0) (C8.pe_gc (v := .ref (He.ga K "TAKEN_NAMES")) rfl T.v_TAKEN_NAMES) (by rfl)))))), ?_⟩
    walk_at "xs"
    refine i_J hd fun H1 s1 => ?_
    walk_at "xs"
    refine x_ite (fun h1 => ?_) (fun h1 => ?_)
    · cases d with
      | str z =>
        obtain ⟨rfl, hz⟩ := hd
        walk_at "xs"
        refine x_niT (T.s_TAKEN_NAMES H1) ?_
        have e : nameD (.str z) = !decide (z ∈ taken) := by
          show (isName z && !decide (z ∈ taken)) = _
          rw [show isName z = true from h1, Bool.true_and]
        rw [← e]
        exact q H1 s1
      | _ => cases h1
    · have e : nameD d = false := by
        cases d with
        | str z =>
          show (isName z && !decide (z ∈ taken)) = _
          rw [show isName z = false from h1, Bool.false_and]
        | _ => rfl
      rw [← e]
      exact q H1 s1
def spShort : Sp := fun vs H Q _ => ∃ z : Str, vs = [.str z] ∧ z.length ≤ 100 ∧ ∀ H', Same H H' → Q (.bl (shortNum z)) H'
theorem i_short {z : Str} {H : Hp} {Q : VK} {E : XK} (h : z.length ≤ 100) (q : ∀ H', Same H H' → Q (.bl (shortNum z)) H') : spShort [.str z] H Q E := ⟨z, rfl, h, q⟩
theorem k_short_number (T : Nm K mg) (F : FnX K mg "short_number" s_short_number ["text"]) : CalK P w K mg base 1 "short_number" spShort := by
  refine cal_of F sc_short_number (fun vs H Q E h => ?_) (fun f cdv A outer s H vs Q E hr h => ?_)
  · obtain ⟨z, rfl, _⟩ := h
    rfl
  · obtain ⟨z, rfl, hz, q⟩ := h
    refine ⟨_, (pss_cons (ps_if (PW.pt (pw_or (pt_cmpR op_lt (pe_callB cx_len (by rfl) T.n_len (by decide +kernel) (pa_cons (pv 0) pa_nil)) pe_int (nomark _)) (pw_or1 (pt_cmpR op_gt (pe_callB cx_len (by rfl) T.n_len (by decide +kernel) (pa_cons (pv 0) pa_nil)) pe_int (nomark _))))) (pss_one (ps_ret pe_bl)) pss_nil)
      (pss_cons (ps_if (pt_not (pt_val (pe_callB (cr_all rfl) (by rfl) T.n_all (by decide +kernel) (pa_cons (pe_lc (own := [("sign", 1)]) (g := gName 1) (by rfl) sc_short_number.nd (pi_str (pv 0)) (blkOk_by (own := [("sign", 1)]) (N := ["text", "sign"]) (sc := defScope s_short_number) (by decide +kernel)) (fun _ _ _ _ _ => pg_name (i := 1) sc_short_number.nd rfl (Or.inl rfl)) (fun _ _ _ _ _ => pts_nil) (fun _ _ _ _ _ => (pe_cmpR ox_insg (pv 1) (C8.pe_gc (v := .str "0123456789") rfl T.v_DIGITS) (by rfl)))) pa_nil)))) (pss_one (ps_ret pe_bl)) pss_nil)
      (pss_one (ps_ret (pe_or (pe_cmpR op_eq (pe_callB cx_len (by rfl) T.n_len (by decide +kernel) (pa_cons (pv 0) pa_nil)) pe_int (nomark _)) (pe_one (pe_cmpR op_ne (pe_ix ix_str (pv 0) pe_int (fun _ _ => rfl)) pe_str (nomark _)))))))), ?_⟩
    have hl : z.cps.toList.length = z.length := by rw [Array.length_toList] <;> rfl
    walk_at "xs"
    refine x_lenS (sz (by omega)) ?_
    walk_at "xs"
    refine x_dec (fun h1 => ?_) (fun h1 => ?_)
    · walk_at "xs"
      have e : shortNum z = false := by
        unfold shortNum
        rw [decide_eq_false (show ¬ 1 ≤ z.length by omega), Bool.false_and]
      rw [← e]
      exact q H (Same.refl H)
    walk_at "xs"
    refine x_lenS (sz (by omega)) ?_
    walk_at "xs"
    refine x_dec (fun h2 => ?_) (fun h2 => ?_)
    · walk_at "xs"
      have e : shortNum z = false := by
        unfold shortNum
        rw [decide_eq_false (show ¬ z.length ≤ 2 by omega), Bool.false_and, Bool.and_false]
      rw [← e]
      exact q H (Same.refl H)
    have e0 : shortNum z = ((z.cps.toList.all fun c => decide (c ∈ digS.cps.toList)) && (decide (z.length = 1) || !decide (z.cps.toList.head? = some 48))) := by
      unfold shortNum
      rw [decide_eq_true (show 1 ≤ z.length by omega), decide_eq_true (show z.length ≤ 2 by omega), Bool.true_and, Bool.true_and]
    walk_at "xs"
    refine ⟨z, rfl, fun D nD => lc_text (fun i H' => Same H H' ∧ H' D = some (.lst (((z.cps.toList.take i).map fun c => decide (c ∈ digS.cps.toList)).map V.bl))) ?_ ?_ ?_⟩
    · exact ⟨same_new nD, by rw [upd_same, List.take_zero] <;> rfl⟩
    · rintro i c H1 hc ⟨sm, hD⟩
      walk_at "xs"
      refine ⟨rfl, ?_⟩
      walk_at "xs"
      refine ⟨c, digS, rfl, rfl, ?_⟩
      refine ⟨_, hD, ?_, ?_, ?_⟩
      · rw [List.length_map, List.length_map, List.length_take]
        exact szl (by omega)
      · intro b u e
        rw [upd_ne (ne_of_none e nD)]
        exact sm b u e
      · have ec : z.cps.toList[i]? = some c := by rw [Array.getElem?_toList]; exact hc
        rw [upd_same, List.take_add_one, ec, List.map_append, List.map_append] <;> rfl
    · rintro H1 ⟨sm, hD⟩
      walk_at "xs"
      refine x_allB (SqL.of hD) ?_
      have et : z.cps.toList.take z.cps.size = z.cps.toList := List.take_of_length_le (by rw [Array.length_toList] <;> exact Nat.le_refl _)
      have e : (((z.cps.toList.take z.cps.size).map fun c => decide (c ∈ digS.cps.toList)).all id) = (z.cps.toList.all fun c => decide (c ∈ digS.cps.toList)) := by
        rw [et, List.all_map] <;> rfl
      rw [e]
      walk_at "xs"
      refine x_ite (fun h3 => ?_) (fun h3 => ?_)
      · walk_at "xs"
        have e : shortNum z = false := by
          rw [e0, b_nt h3, Bool.false_and]
        rw [← e]
        exact q H1 sm
      walk_at "xs"
      refine x_lenS (sz (by omega)) ?_
      walk_at "xs"
      rw [b_nf h3, Bool.true_and] at e0
      refine x_eqi (fun h4 => ?_) (fun h4 => ?_)
      · have e : true = shortNum z := by
          rw [e0, decide_eq_true (show z.length = 1 by omega), Bool.true_or]
        have e2 : decide (V.int (z.length : Int) = V.int 1) = shortNum z := by
          rw [← e]
          exact decide_eq_true (by rw [h4])
        first
          | (rw [e2]; exact q H1 sm)
          | (rw [e]; exact q H1 sm)
      walk_at "xs"
      obtain ⟨c, r, hcr⟩ : ∃ c r, z.cps.toList = c :: r := by
        cases hz' : z.cps.toList with
        | nil =>
          rw [hz'] at hl
          simp at hl
          omega
        | cons c r => exact ⟨c, r, rfl⟩
      refine ⟨z, 0, c, rfl, rfl, sz (by omega), by rw [hcr]; exact atI_nat (j := 0) rfl, ?_⟩
      walk_at "xs"
      have e : (!decide (V.str (⟨#[c]⟩ : Str) = V.str (Str.ofString "0"))) = shortNum z := by
        rw [e0, decide_eq_false (show ¬ z.length = 1 by omega), Bool.false_or, hcr, List.head?_cons]
        have : decide (V.str (⟨#[c]⟩ : Str) = V.str (Str.ofString "0")) = decide (some c = some 48) := by
          rw [decS]
          refine decide_eq_decide.mpr ⟨fun h => ?_, fun h => ?_⟩
          · have := S_inj (a := [c]) (b := [48]) h
            rw [List.singleton_inj.mp this]
          · rw [Option.some.inj h] <;> rfl
        rw [this]
      rw [e]
      exact q H1 sm
end
end K76

set_option Elab.async false
set_option linter.all false
set_option maxRecDepth 100000
namespace K76
open PySem PySem.Spec PyProof.Rows L2 SX
local macro_rules | `(tactic| walk_at "x") => `(tactic| with_reducible first
  | refine x_seq ?_ | refine x_asg ?_ | refine x_op ?_ | refine x_cons ?_ | refine x_nil ?_ | refine x_c ?_ | refine x_name ?_ | refine x_cb ?_ | refine x_call ?_ | refine x_ret ?_ | refine x_ifS ?_
  | refine x_test ?_ | refine x_bl ?_ | refine x_I0 ?_ | refine x_sub ?_ | refine x_tup ?_ | refine x_lst ?_ | refine x_and ?_ | refine x_or ?_ | refine x_not ?_ | refine x_if ?_ | refine x_andV ?_ | refine x_orV ?_ | refine x_notV ?_
  | refine x_retN ?_ | refine x_drop ?_ | refine x_next ?_ | refine x_un ?_ | refine x_B ?_ | refine x_sl ?_ | refine x_noPart ?_ | refine x_part ?_ | refine x_chain ?_ | refine x_int ?_
  | refine x_eqI ?_ | refine x_eqS ?_ | refine x_neI ?_ | refine x_neS ?_ | refine x_eqB ?_ | refine x_neB ?_ | refine x_toI ?_ | refine x_absI ?_ | refine x_mx2 ?_ | refine x_M1 ?_ | refine x_isS ?_ | refine iteT ?_ | refine iteF ?_ | refine x_lc ?_ | refine x_for ?_ | refine x_rng1 ?_ | refine x_iList ?_ | refine x_iTup ?_ | refine x_yes ?_ | refine x_iStr ?_ | refine x_gcons ?_ | refine x_gnil ?_ | refine x_neg ?_ | refine x_sfld ?_ | refine x_tfld ?_ | refine x_make ?_ | refine x_bm ?_)
local macro_rules | `(tactic| walk_at "xs") => `(tactic| repeat (first | walk_at "x" | ((with_reducible show tVar _ _ _ _); refine x_var rfl ?_)))
section
variable {P : Program} {w : World} {K : PySem.W.Frag} {mg : Str → Option Value} {base : Heap}
theorem k_good_letter (T : Nm K mg) (F : FnX K mg "good_letter" s_good_letter ["text"]) (c_good_name : CalK P w K mg base 1 "good_name" (spJ (strD isName))) (c_short_number : CalK P w K mg base 1 "short_number" spShort) : CalK P w K mg base 2 "good_letter" (spJ letterD) := by
  refine cal_of F sc_good_letter (fun vs H Q E h => ?_) (fun f cdv A outer s H vs Q E hr h => ?_)
  · obtain ⟨x, d, v, rfl, _⟩ := h
    rfl
  · obtain ⟨x, d, v, rfl, hd, q⟩ := h
    refine ⟨_, (pss_cons (ps_if (pt_not (pt_val (pe_callB (id := "isinstance") (r := rIsi K) call_isi (by rfl) T.n_isinstance (by decide +kernel) (pa_cons (pv 0) (pa_cons (pe_bltn (v := .ty "str") (by rfl) T.n_str (by decide +kernel) rfl) pa_nil))))) (pss_one (ps_ret pe_bl)) pss_nil)
      (pss_cons (ps_asg (show PE _ _ (tM1 rPart _ _) from pe_partition (pv 0) pe_str) (pg_tup (by rfl) (pgs_cons (pg_name (i := 1) sc_good_letter.nd rfl (Or.inl rfl)) (pgs_cons (pg_name (i := 2) sc_good_letter.nd rfl (Or.inl rfl)) (pgs_cons (pg_name (i := 3) sc_good_letter.nd rfl (Or.inl rfl)) pgs_nil)))))
      (pss_cons (ps_if (pt_cmpR op_eq (pv 2) pe_str (nomark _)) (pss_one (ps_ret (C8.pe_c c_good_name hr (by omega) (by rfl) (pa_cons (pv 1) pa_nil)))) pss_nil)
      (pss_one (ps_ret (pe_and (C8.pe_c c_good_name hr (by omega) (by rfl) (pa_cons (pv 1) pa_nil)) (pe_one (C8.pe_c c_short_number hr (by omega) (by rfl) (pa_cons (pv 3) pa_nil))))))))), ?_⟩
    walk_at "xs"
    refine x_isStr hd ?_
    walk_at "xs"
    cases d with
    | str z =>
      obtain ⟨rfl, hz⟩ := hd
      refine iteF ?_
      obtain ⟨l1, l2⟩ := part_len z "."
      walk_at "xs"
      refine ⟨z, ".", rfl, rfl, by decide +kernel, sz (by omega), fun p np => ?_⟩
      refine x_tupG (SqT.of upd_same) rfl ?_
      walk_at "xs"
      have sm : Same H (upd H p (.tup [.str (Txt.partition z ".").1, .str (Txt.partition z ".").2.1, .str (Txt.partition z ".").2.2])) := same_new np
      refine x_eqs (fun h1 => ?_) (fun h1 => ?_)
      · walk_at "xs"
        refine i_J (x := x) (d := .str (Txt.partition z ".").1) ⟨rfl, by omega⟩ fun H1 s1 => ?_
        have e : strD isName (.str (Txt.partition z ".").1) = letterD (.str z) := by
          show isName _ = isLetter z
          unfold isLetter
          rw [if_pos h1]
        rw [e]
        exact q H1 (sm.trans s1)
      · walk_at "xs"
        refine i_J (x := x) (d := .str (Txt.partition z ".").1) ⟨rfl, by omega⟩ fun H1 s1 => ?_
        walk_at "xs"
        have e : letterD (.str z) = (isName (Txt.partition z ".").1 && shortNum (Txt.partition z ".").2.2) := by
          show isLetter z = _
          unfold isLetter
          rw [if_neg h1]
        refine x_ite (fun h2 => ?_) (fun h2 => ?_)
        · walk_at "xs"
          refine i_short (by omega) fun H2 s2 => ?_
          rw [show isName (Txt.partition z ".").1 = true from h2, Bool.true_and] at e
          rw [← e]
          exact q H2 ((sm.trans s1).trans s2)
        · rw [show isName (Txt.partition z ".").1 = false from h2, Bool.false_and] at e
          rw [← e]
          exact q H1 (sm.trans s1)
    | _ => exact q H (Same.refl H)
def spTwo : Sp := fun vs H Q _ => ∃ x d e v u, vs = [v, u] ∧ At x H d v ∧ At x H e u ∧ ∀ H', Same H H' → Q (.bl (pairD d e)) H'
theorem i_two {x : Addr} {d e : PyData} {v u : V} {H : Hp} {Q : VK} {E : XK} (h : At x H d v) (h2 : At x H e u) (q : ∀ H', Same H H' → Q (.bl (pairD d e)) H') : spTwo [v, u] H Q E := ⟨x, d, e, v, u, rfl, h, h2, q⟩
theorem nameD_str {d : PyData} (h : nameD d = true) : ∃ z, d = .str z := by
  cases d with
  | str z => exact ⟨z, rfl⟩
  | _ => cases h
theorem k_two_names (T : Nm K mg) (F : FnX K mg "two_names" s_two_names ["first", "second"]) (c_free_name : CalK P w K mg base 2 "free_name" (spJ nameD)) : CalK P w K mg base 3 "two_names" spTwo := by
  refine cal_of F sc_two_names (fun vs H Q E h => ?_) (fun f cdv A outer s H vs Q E hr h => ?_)
  · obtain ⟨x, d, e, v, u, rfl, _⟩ := h
    rfl
  · obtain ⟨x, d, e, v, u, rfl, hd, he, q⟩ := h
    refine ⟨_, (pss_one (ps_ret (pe_and (C8.pe_c c_free_name hr (by omega) (by rfl) (pa_cons (pv 0) pa_nil)) (pe_and (C8.pe_c c_free_name hr (by omega) (by rfl) (pa_cons (pv 1) pa_nil)) (pe_one (pe_cmpR op_ne (pv 0) (pv 1) (nomark _))))))), ?_⟩
    walk_at "xs"
    refine i_J hd fun H1 s1 => ?_
    walk_at "xs"
    have p : pairD d e = (nameD d && (nameD e && !eqD d e)) := rfl
    refine x_ite (fun h1 => ?_) (fun h1 => ?_)
    · walk_at "xs"
      refine i_J (he.same s1) fun H2 s2 => ?_
      walk_at "xs"
      rw [h1, Bool.true_and] at p
      refine x_ite (fun h2 => ?_) (fun h2 => ?_)
      · rw [h2, Bool.true_and] at p
        obtain ⟨a, rfl⟩ := nameD_str h1
        obtain ⟨b, rfl⟩ := nameD_str h2
        obtain rfl := hd.1
        obtain rfl := he.1
        walk_at "xs"
        have e2 : (!decide (V.str a = V.str b)) = pairD (.str a) (.str b) := by
          rw [p, decS] <;> rfl
        rw [e2]
        exact q H2 (s1.trans s2)
      · rw [h2, Bool.false_and] at p
        rw [← p]
        exact q H2 (s1.trans s2)
    · rw [h1, Bool.false_and] at p
      rw [← p]
      exact q H1 s1
/-! ### an atom -/
def spAtom : Sp := fun vs H Q _ => ∃ x k r v, vs = [v] ∧ At x H (.tuple (.str k :: r)) v ∧ ∀ H', Same H H' → Q (.bl (atomOk k r)) H'
theorem i_atom {x : Addr} {k : Str} {r : List PyData} {v : V} {H : Hp} {Q : VK} {E : XK} (h : At x H (.tuple (.str k :: r)) v) (q : ∀ H', Same H H' → Q (.bl (atomOk k r)) H') : spAtom [v] H Q E := ⟨x, k, r, v, rfl, h, q⟩
theorem k_is_atom (T : Nm K mg) (F : FnX K mg "is_atom" s_is_atom ["tree"]) (c_free_name : CalK P w K mg base 2 "free_name" (spJ nameD)) (c_is_whole : CalK P w K mg base 1 "is_whole" spIsWhole) (c_two_names : CalK P w K mg base 3 "two_names" spTwo)
    (c_good_letter : CalK P w K mg base 2 "good_letter" (spJ letterD)) : CalK P w K mg base 4 "is_atom" spAtom := by
  refine cal_of F sc_is_atom (fun vs H Q E h => ?_) (fun f cdv A outer s H vs Q E hr h => ?_)
  · obtain ⟨x, k, r, v, rfl, _⟩ := h
    rfl
  · obtain ⟨x, k, r, v, rfl, ⟨a, xs, rfl, ha, hxs⟩, q⟩ := h
    have hlen := hxs.length
    obtain ⟨v0, vr, rfl, ⟨rfl, hk⟩, hr'⟩ := hxs
    rw [List.length_cons, List.length_cons] at hlen
    have hlen : vr.length = r.length := by omega
    have q0 : ∀ b, b = atomOk k r → Q (.bl b) H := fun b e => by
      rw [e]
      exact q H (Same.refl H)
    refine ⟨_, (pss_cons (ps_set (i := 1) sc_is_atom.nd rfl (Or.inl rfl) (pe_ix (r := rIxT K) ix_tup (pv 0) pe_int (fun _ _ => rfl)))
      (pss_cons (ps_if (pt_cmpR op_in_seq (pv 1) (C8.pe_gc (v := .ref (He.ga K "SINGLE")) rfl T.v_SINGLE) (by rfl)) (pss_one (ps_ret (pe_cmpR op_eq (pe_callB cx_len (by rfl) T.n_len (by decide +kernel) (pa_cons (pv 0) pa_nil)) pe_int (nomark _)))) pss_nil)
      (pss_cons (ps_if (pt_cmpR op_eq (pv 1) pe_str (nomark _)) (pss_one (ps_ret (pe_and (pe_cmpR op_eq (pe_callB cx_len (by rfl) T.n_len (by decide +kernel) (pa_cons (pv 0) pa_nil)) pe_int (nomark _)) (pe_and (C8.pe_c c_free_name hr (by omega) (by rfl) (pa_cons (pe_ix (r := rIxT K) ix_tup (pv 0) pe_int (fun _ _ => rfl)) pa_nil)) (pe_one (C8.pe_c c_is_whole hr (by omega) (by rfl) (pa_cons (pe_ix (r := rIxT K) ix_tup (pv 0) pe_int (fun _ _ => rfl)) (pa_cons pe_int (pa_cons (C8.pe_gc (v := .int 99) rfl T.v_NUMBER_TOP) pa_nil))))))))) pss_nil)
      (pss_cons (ps_if (pt_cmpR op_eq (pv 1) pe_str (nomark _)) (pss_one (ps_ret (pe_and (pe_cmpR op_eq (pe_callB cx_len (by rfl) T.n_len (by decide +kernel) (pa_cons (pv 0) pa_nil)) pe_int (nomark _)) (pe_one (C8.pe_c c_two_names hr (by omega) (by rfl) (pa_cons (pe_ix (r := rIxT K) ix_tup (pv 0) pe_int (fun _ _ => rfl)) (pa_cons (pe_ix (r := rIxT K) ix_tup (pv 0) pe_int (fun _ _ => rfl)) pa_nil))))))) pss_nil)
      (pss_cons (ps_if (pt_cmpR op_eq (pv 1) pe_str (nomark _)) (pss_one (ps_ret (pe_and (pe_cmpR op_eq (pe_callB cx_len (by rfl) T.n_len (by decide +kernel) (pa_cons (pv 0) pa_nil)) pe_int (nomark _)) (pe_and (C8.pe_c c_two_names hr (by omega) (by rfl) (pa_cons (pe_ix (r := rIxT K) ix_tup (pv 0) pe_int (fun _ _ => rfl)) (pa_cons (pe_ix (r := rIxT K) ix_tup (pv 0) pe_int (fun _ _ => rfl)) pa_nil))) (pe_one (C8.pe_c c_good_letter hr (by omega) (by rfl) (pa_cons (pe_ix (r := rIxT K) ix_tup (pv 0) pe_int (fun _ _ => rfl)) pa_nil))))))) pss_nil)
      (pss_one (ps_ret pe_bl))))))), ?_⟩
    walk_at "xs"
    refine x_tupI (SqT.of ha) (atI_nat (j := 0) rfl) ?_
    walk_at "xs"
    refine x_inT (T.s_SINGLE H) ?_
    walk_at "xs"
    refine x_dec (fun h1 => ?_) (fun h1 => ?_)
    · walk_at "xs"
      refine x_lenT (SqT.of ha) ?_
      walk_at "xs"
      refine q0 _ ?_
      rw [atomOk_single h1, decI]
      cases r with
      | nil =>
        have : vr = [] := List.length_eq_zero_iff.mp hlen
        rw [this] <;> rfl
      | cons d r =>
        refine decide_eq_false ?_
        rw [List.length_cons, hlen, List.length_cons]
        omega
    walk_at "xs"
    refine x_eqs (fun h2 => ?_) (fun h2 => ?_)
    · have ek : k = "at" := h2
      subst ek
      have e0 := atomOk_at r
      walk_at "xs"
      refine x_lenT (SqT.of ha) ?_
      walk_at "xs"
      rcases r with _ | ⟨d1, _ | ⟨d2, _ | ⟨d3, r⟩⟩⟩
      · refine x_eqi (fun h => by rw [List.length_cons, hlen] at h; simp at h) (fun _ => q0 _ e0.symm)
      · refine x_eqi (fun h => by rw [List.length_cons, hlen] at h; simp at h) (fun _ => q0 _ e0.symm)
      · obtain ⟨v1, vr, rfl, a1, v2, vr, rfl, a2, rfl⟩ := hr'
        refine x_eqi (fun h => ?_) (fun h => absurd rfl h)
        walk_at "xs"
        refine x_tupI (SqT.of ha) (atI_nat (j := 1) rfl) ?_
        walk_at "xs"
        refine i_J a1 fun H1 s1 => ?_
        walk_at "xs"
        refine x_ite (fun h1 => ?_) (fun h1 => ?_)
        · walk_at "xs"
          refine x_tupI (SqT.of (s1 _ _ ha)) (atI_nat (j := 2) rfl) ?_
          walk_at "xs"
          refine i_isWhole (a2.same s1) fun H2 s2 => ?_
          have e : numD 0 99 d2 = atomOk "at" [d1, d2] := by
            rw [e0]
            show _ = (nameD d1 && numD 0 99 d2)
            rw [h1, Bool.true_and]
          rw [e]
          exact q H2 (s1.trans s2)
        · have e : false = atomOk "at" [d1, d2] := by
            rw [e0]
            show _ = (nameD d1 && numD 0 99 d2)
            rw [h1, Bool.false_and]
          rw [e]
          exact q H1 s1
      · refine x_eqi (fun h => ?_) (fun _ => q0 _ e0.symm)
        rw [List.length_cons, hlen, List.length_cons, List.length_cons, List.length_cons] at h
        omega
    walk_at "xs"
    refine x_eqs (fun h3 => ?_) (fun h3 => ?_)
    · have ek : k = "has" := h3
      subst ek
      have e0 := atomOk_has r
      walk_at "xs"
      refine x_lenT (SqT.of ha) ?_
      walk_at "xs"
      rcases r with _ | ⟨d1, _ | ⟨d2, _ | ⟨d3, r⟩⟩⟩
      · refine x_eqi (fun h => by rw [List.length_cons, hlen] at h; simp at h) (fun _ => q0 _ e0.symm)
      · refine x_eqi (fun h => by rw [List.length_cons, hlen] at h; simp at h) (fun _ => q0 _ e0.symm)
      · obtain ⟨v1, vr, rfl, a1, v2, vr, rfl, a2, rfl⟩ := hr'
        refine x_eqi (fun h => ?_) (fun h => absurd rfl h)
        walk_at "xs"
        refine x_tupI (SqT.of ha) (atI_nat (j := 1) rfl) ?_
        walk_at "xs"
        refine x_tupI (SqT.of ha) (atI_nat (j := 2) rfl) ?_
        walk_at "xs"
        refine i_two a1 a2 fun H1 s1 => ?_
        have e : pairD d1 d2 = atomOk "has" [d1, d2] := e0.symm
        rw [e]
        exact q H1 s1
      · refine x_eqi (fun h => ?_) (fun _ => q0 _ e0.symm)
        rw [List.length_cons, hlen, List.length_cons, List.length_cons, List.length_cons] at h
        omega
    walk_at "xs"
    refine x_eqs (fun h4 => ?_) (fun h4 => ?_)
    · have ek : k = "head" := h4
      subst ek
      have e0 := atomOk_head r
      walk_at "xs"
      refine x_lenT (SqT.of ha) ?_
      walk_at "xs"
      rcases r with _ | ⟨d1, _ | ⟨d2, _ | ⟨d3, _ | ⟨d4, r⟩⟩⟩⟩
      · refine x_eqi (fun h => by rw [List.length_cons, hlen] at h; simp at h) (fun _ => q0 _ e0.symm)
      · refine x_eqi (fun h => by rw [List.length_cons, hlen] at h; simp at h) (fun _ => q0 _ e0.symm)
      · refine x_eqi (fun h => by rw [List.length_cons, hlen] at h; simp at h) (fun _ => q0 _ e0.symm)
      · obtain ⟨v1, vr, rfl, a1, v2, vr, rfl, a2, v3, vr, rfl, a3, rfl⟩ := hr'
        refine x_eqi (fun h => ?_) (fun h => absurd rfl h)
        walk_at "xs"
        refine x_tupI (SqT.of ha) (atI_nat (j := 1) rfl) ?_
        walk_at "xs"
        refine x_tupI (SqT.of ha) (atI_nat (j := 2) rfl) ?_
        walk_at "xs"
        refine i_two a1 a2 fun H1 s1 => ?_
        walk_at "xs"
        refine x_ite (fun h1 => ?_) (fun h1 => ?_)
        · walk_at "xs"
          refine x_tupI (SqT.of (s1 _ _ ha)) (atI_nat (j := 3) rfl) ?_
          walk_at "xs"
          refine i_J (a3.same s1) fun H2 s2 => ?_
          have e : letterD d3 = atomOk "head" [d1, d2, d3] := by
            rw [e0]
            show _ = (pairD d1 d2 && letterD d3)
            rw [h1, Bool.true_and]
          rw [e]
          exact q H2 (s1.trans s2)
        · have e : false = atomOk "head" [d1, d2, d3] := by
            rw [e0]
            show _ = (pairD d1 d2 && letterD d3)
            rw [h1, Bool.false_and]
          rw [e]
          exact q H1 s1
      · refine x_eqi (fun h => ?_) (fun _ => q0 _ e0.symm)
        rw [List.length_cons, hlen, List.length_cons, List.length_cons, List.length_cons, List.length_cons] at h
        omega
    walk_at "xs"
    exact q0 _ (atomOk_other h1 h2 h3 h4).symm
theorem k_begins (T : Nm K mg) (F : FnX K mg "begins_with_kind" s_begins_with_kind ["tree"]) : CalK P w K mg base 1 "begins_with_kind" (spJ kindD) := by
  refine cal_of F sc_begins_with_kind (fun vs H Q E h => ?_) (fun f cdv A outer s H vs Q E hr h => ?_)
  · obtain ⟨x, d, v, rfl, _⟩ := h
    rfl
  · obtain ⟨x, d, v, rfl, hd, q⟩ := h
    refine ⟨_, (pss_one (ps_ret (pe_and (pe_callB (id := "isinstance") (r := rIsi K) call_isi (by rfl) T.n_isinstance (by decide +kernel) (pa_cons (pv 0) (pa_cons (pe_bltn (v := .ty "tuple") (by rfl) T.n_tuple (by decide +kernel) rfl) pa_nil))) (pe_and (pe_cmpR op_gt (pe_callB cx_len (by rfl) T.n_len (by decide +kernel) (pa_cons (pv 0) pa_nil)) pe_int (nomark _)) (pe_one (pe_callB (id := "isinstance") (r := rIsi K) call_isi (by rfl) T.n_isinstance (by decide +kernel) (pa_cons (pe_ix (r := rIxT K) ix_tup (pv 0) pe_int (fun _ _ => rfl)) (pa_cons (pe_bltn (v := .ty "str") (by rfl) T.n_str (by decide +kernel) rfl) pa_nil)))))))), ?_⟩
    walk_at "xs"
    refine x_isTup hd ?_
    walk_at "xs"
    cases d with
    | tuple ds =>
      obtain ⟨a, xs, rfl, ha, hxs⟩ := hd
      refine iteT ?_
      walk_at "xs"
      refine x_lenT (SqT.of ha) ?_
      walk_at "xs"
      cases ds with
      | nil =>
        obtain rfl : xs = [] := hxs
        refine x_dec (fun h => absurd h (by decide)) (fun _ => ?_)
        exact q H (Same.refl H)
      | cons d ds =>
        obtain ⟨v0, vr, rfl, h0, _⟩ := hxs
        refine x_dec (fun _ => ?_) (fun h => absurd (show (0 : Int) < ((v0 :: vr).length : Int) from by rw [List.length_cons]; omega) h)
        walk_at "xs"
        refine x_tupI (SqT.of ha) (atI_nat (j := 0) rfl) ?_
        walk_at "xs"
        refine x_isStr h0 ?_
        have e : isStr d = kindD (.tuple (d :: ds)) := by cases d <;> rfl
        rw [e]
        exact q H (Same.refl H)
    | _ => exact q H (Same.refl H)
end
end K76

set_option Elab.async false
set_option linter.all false
set_option maxRecDepth 100000
namespace K76
open PySem PySem.Spec PyProof.Rows L2 SX
local macro_rules | `(tactic| walk_at "x") => `(tactic| with_reducible first
  | refine x_seq ?_ | refine x_asg ?_ | refine x_op ?_ | refine x_cons ?_ | refine x_nil ?_ | refine x_c ?_ | refine x_name ?_ | refine x_cb ?_ | refine x_call ?_ | refine x_ret ?_ | refine x_ifS ?_
  | refine x_test ?_ | refine x_bl ?_ | refine x_I0 ?_ | refine x_sub ?_ | refine x_tup ?_ | refine x_lst ?_ | refine x_and ?_ | refine x_or ?_ | refine x_not ?_ | refine x_if ?_ | refine x_andV ?_ | refine x_orV ?_ | refine x_notV ?_
  | refine x_retN ?_ | refine x_drop ?_ | refine x_next ?_ | refine x_un ?_ | refine x_B ?_ | refine x_sl ?_ | refine x_noPart ?_ | refine x_part ?_ | refine x_chain ?_ | refine x_int ?_
  | refine x_eqI ?_ | refine x_eqS ?_ | refine x_neI ?_ | refine x_neS ?_ | refine x_eqB ?_ | refine x_neB ?_ | refine x_toI ?_ | refine x_absI ?_ | refine x_mx2 ?_ | refine x_M1 ?_ | refine x_isS ?_ | refine iteT ?_ | refine iteF ?_ | refine x_lc ?_ | refine x_for ?_ | refine x_rng1 ?_ | refine x_iList ?_ | refine x_iTup ?_ | refine x_yes ?_ | refine x_iStr ?_ | refine x_gcons ?_ | refine x_gnil ?_ | refine x_neg ?_ | refine x_sfld ?_ | refine x_tfld ?_ | refine x_make ?_ | refine x_bm ?_)
local macro_rules | `(tactic| walk_at "xs") => `(tactic| repeat (first | walk_at "x" | ((with_reducible show tVar _ _ _ _); refine x_var rfl ?_)))
section
variable {P : Program} {w : World} {K : PySem.W.Frag} {mg : Str → Option Value} {base : Heap}
def spPred (n : Nat) : Sp := fun vs H Q _ => ∃ x d v, vs = [v] ∧ At x H d v ∧ hgt d < n ∧ ∀ H', Same H H' → Q (.int (predLevel d)) H'
theorem i_pred {n : Nat} {x : Addr} {d : PyData} {v : V} {H : Hp} {Q : VK} {E : XK} (h : At x H d v) (hn : hgt d < n) (q : ∀ H', Same H H' → Q (.int (predLevel d)) H') : spPred n [v] H Q E := ⟨x, d, v, rfl, h, hn, q⟩
theorem k_pred (T : Nm K mg) (F : FnX K mg "pred_level" s_pred_level ["tree"]) (c_begins_with_kind : CalK P w K mg base 1 "begins_with_kind" (spJ kindD)) (c_is_atom : CalK P w K mg base 4 "is_atom" spAtom) : ∀ n, CalK P w K mg base (4 + n) "pred_level" (spPred n)
  | 0 => cal_false F fun vs H Q E h => by
    obtain ⟨_, _, _, _, _, h, _⟩ := h
    exact absurd h (Nat.not_lt_zero _)
  | n + 1 => by
    have c_pred_level := k_pred T F c_begins_with_kind c_is_atom n
    show CalK P w K mg base ((4 + n) + 1) "pred_level" (spPred (n + 1))
    refine cal_of F sc_pred_level (fun vs H Q E h => ?_) (fun f cdv A outer s H vs Q E hr h => ?_)
    · obtain ⟨x, d, v, rfl, _⟩ := h
      rfl
    · obtain ⟨x, d, v, rfl, hd, hn, q⟩ := h
      refine ⟨_, (pss_cons (ps_if (pt_not (pt_val (C8.pe_c c_begins_with_kind hr (by omega) (by rfl) (pa_cons (pv 0) pa_nil)))) (pss_one (ps_ret pe_int)) pss_nil)
      (pss_cons (ps_if (pt_cmpR op_eq (pe_ix (r := rIxT K) ix_tup (pv 0) pe_int (fun _ _ => rfl)) pe_str (nomark _)) (pss_cons (ps_if (pt_cmpR op_ne (pe_callB cx_len (by rfl) T.n_len (by decide +kernel) (pa_cons (pv 0) pa_nil)) pe_int (nomark _)) (pss_one (ps_ret pe_int)) pss_nil)
      (pss_cons (ps_set (i := 1) sc_pred_level.nd rfl (Or.inl rfl) (C8.pe_c c_pred_level hr (by omega) (by rfl) (pa_cons (pe_ix (r := rIxT K) ix_tup (pv 0) pe_int (fun _ _ => rfl)) pa_nil)))
      (pss_one (ps_ret (pe_ifExp (pt_cmpR op_gt (pv 1) pe_int (nomark _)) (pe_op op_add (pv 1) pe_int) pe_int))))) pss_nil)
      (pss_cons (ps_if (pt_cmpR op_in_seq (pe_ix (r := rIxT K) ix_tup (pv 0) pe_int (fun _ _ => rfl)) (pe_tup (pa_cons pe_str (pa_cons pe_str pa_nil))) (by rfl)) (pss_cons (ps_if (pt_cmpR op_ne (pe_callB cx_len (by rfl) T.n_len (by decide +kernel) (pa_cons (pv 0) pa_nil)) pe_int (nomark _)) (pss_one (ps_ret pe_int)) pss_nil)
      (pss_cons (ps_set (i := 2) sc_pred_level.nd rfl (Or.inl rfl) (C8.pe_c c_pred_level hr (by omega) (by rfl) (pa_cons (pe_ix (r := rIxT K) ix_tup (pv 0) pe_int (fun _ _ => rfl)) pa_nil)))
      (pss_cons (ps_if (pt_cmpR op_eq (pv 2) pe_int (nomark _)) (pss_one (ps_ret pe_int)) pss_nil)
      (pss_cons (ps_set (i := 3) sc_pred_level.nd rfl (Or.inl rfl) (C8.pe_c c_pred_level hr (by omega) (by rfl) (pa_cons (pe_ix (r := rIxT K) ix_tup (pv 0) pe_int (fun _ _ => rfl)) pa_nil)))
      (pss_one (ps_ret (pe_ifExp (pt_cmpR op_gt (pv 3) pe_int (nomark _)) (pe_op op_add (pe_callB (cx_max2 rfl) (by rfl) T.n_max (by decide +kernel) (pa_cons (pv 2) (pa_cons (pv 3) pa_nil))) pe_int) pe_int))))))) pss_nil)
      (pss_one (ps_ret (pe_ifExp (pt_val (C8.pe_c c_is_atom hr (by omega) (by rfl) (pa_cons (pv 0) pa_nil))) pe_int pe_int)))))), ?_⟩
      walk_at "xs"
      refine i_J hd fun H1 s1 => ?_
      walk_at "xs"
      refine x_ite (fun h1 => ?_) (fun h1 => ?_)
      · walk_at "xs"
        have e := predLevel_kind (b_nt h1)
        have := q H1 s1
        rwa [e] at this
      obtain ⟨k, r, rfl⟩ := kindD_true (b_nf h1)
      obtain ⟨a, xs, rfl, ha, hxs⟩ := hd
      have hlen := hxs.length
      obtain ⟨v0, vr, rfl, ⟨rfl, hk⟩, hr'⟩ := hxs
      rw [List.length_cons, List.length_cons] at hlen
      have hlen : vr.length = r.length := by omega
      have e0 := predLevel_tup k r
      have hgt_r : ∀ z ∈ r, hgt z < n := fun z hz => by
        have := hgt_tup (List.mem_cons_of_mem (PyData.str k) hz)
        omega
      have q0 : ∀ (i : Int) H', Same H H' → i = (predLevel (.tuple (.str k :: r)) : Int) → Q (.int i) H' := fun i H' s e => by
        rw [e]
        exact q H' s
      walk_at "xs"
      refine x_tupI (SqT.of (s1 _ _ ha)) (atI_nat (j := 0) rfl) ?_
      walk_at "xs"
      refine x_eqs (fun h2 => ?_) (fun h2 => ?_)
      · have ek : k = "not" := h2
        rw [if_pos ek] at e0
        walk_at "xs"
        refine x_lenT (SqT.of (s1 _ _ ha)) ?_
        walk_at "xs"
        rcases r with _ | ⟨d1, _ | ⟨d2, r⟩⟩
        · refine x_ite (fun _ => ?_) (fun h => ?_)
          · walk_at "xs"
            exact q0 _ _ s1 (by rw [e0] <;> rfl)
          · have := of_decide_eq_true (b_nf h)
            rw [List.length_cons, hlen] at this
            cases this
        · obtain ⟨v1, vr, rfl, a1, rfl⟩ := hr'
          refine iteF ?_
          walk_at "xs"
          refine x_tupI (SqT.of (s1 _ _ ha)) (atI_nat (j := 1) rfl) ?_
          walk_at "xs"
          refine i_pred (a1.same s1) (hgt_r d1 List.mem_cons_self) fun H2 s2 => ?_
          walk_at "xs"
          have e1 : predLevel (.tuple [.str k, d1]) = up (predLevel d1) := e0
          refine x_dec (fun h3 => ?_) (fun h3 => ?_)
          · walk_at "xs"
            refine q0 _ _ (s1.trans s2) ?_
            rw [e1]
            unfold up
            rw [if_neg (by omega)] <;> rfl
          · walk_at "xs"
            refine q0 _ _ (s1.trans s2) ?_
            rw [e1]
            unfold up
            rw [if_pos (by omega)] <;> rfl
        · refine x_ite (fun _ => ?_) (fun h => ?_)
          · walk_at "xs"
            exact q0 _ _ s1 (by rw [e0] <;> rfl)
          · have := V.int.inj (of_decide_eq_true (b_nf h))
            rw [List.length_cons, hlen, List.length_cons, List.length_cons] at this
            omega
      rw [if_neg (show ¬ k = "not" from h2)] at e0
      walk_at "xs"
      refine x_tupI (SqT.of (s1 _ _ ha)) (atI_nat (j := 0) rfl) ?_
      walk_at "xs"
      refine ⟨by decide, fun p np => ?_⟩
      have s2 := s1.trans (same_new (o := .tup [.str "and", .str "or"]) np)
      refine x_inT (l := ["and", "or"]) (SqT.of upd_same) ?_
      walk_at "xs"
      refine x_dec (fun h3 => ?_) (fun h3 => ?_)
      · have h3 : k = "and" ∨ k = "or" := by simpa using h3
        rw [if_pos h3] at e0
        walk_at "xs"
        refine x_lenT (SqT.of (s2 _ _ ha)) ?_
        walk_at "xs"
        rcases r with _ | ⟨d1, _ | ⟨d2, _ | ⟨d3, r⟩⟩⟩
        · refine x_ite (fun _ => ?_) (fun h => ?_)
          · walk_at "xs"
            exact q0 _ _ s2 (by rw [e0] <;> rfl)
          · have := V.int.inj (of_decide_eq_true (b_nf h))
            rw [List.length_cons, hlen] at this
            cases this
        · refine x_ite (fun _ => ?_) (fun h => ?_)
          · walk_at "xs"
            exact q0 _ _ s2 (by rw [e0] <;> rfl)
          · have := V.int.inj (of_decide_eq_true (b_nf h))
            rw [List.length_cons, hlen] at this
            cases this
        · obtain ⟨v1, vr, rfl, a1, v2, vr, rfl, a2, rfl⟩ := hr'
          refine iteF ?_
          walk_at "xs"
          refine x_tupI (SqT.of (s2 _ _ ha)) (atI_nat (j := 1) rfl) ?_
          walk_at "xs"
          refine i_pred (a1.same s2) (hgt_r d1 List.mem_cons_self) fun H3 s3 => ?_
          have s3 := s2.trans s3
          walk_at "xs"
          have e1 : predLevel (.tuple [.str k, d1, d2]) = up2 (predLevel d1) (predLevel d2) := e0
          refine x_eqi (fun h4 => ?_) (fun h4 => ?_)
          · walk_at "xs"
            refine q0 _ _ s3 ?_
            rw [e1]
            unfold up2
            rw [if_pos (by omega)] <;> rfl
          walk_at "xs"
          refine x_tupI (SqT.of (s3 _ _ ha)) (atI_nat (j := 2) rfl) ?_
          walk_at "xs"
          refine i_pred (a2.same s3) (hgt_r d2 (List.mem_cons_of_mem _ List.mem_cons_self)) fun H4 s4 => ?_
          have s4 := s3.trans s4
          walk_at "xs"
          refine x_dec (fun h5 => ?_) (fun h5 => ?_)
          · walk_at "xs"
            refine q0 _ _ s4 ?_
            rw [e1]
            exact up2_max (by omega) (by omega)
          · walk_at "xs"
            refine q0 _ _ s4 ?_
            rw [e1]
            unfold up2
            rw [if_neg (by omega), if_pos (by omega)] <;> rfl
        · refine x_ite (fun _ => ?_) (fun h => ?_)
          · walk_at "xs"
            exact q0 _ _ s2 (by rw [e0] <;> rfl)
          · have := V.int.inj (of_decide_eq_true (b_nf h))
            rw [List.length_cons, hlen, List.length_cons, List.length_cons, List.length_cons] at this
            omega
      have h3 : ¬ (k = "and" ∨ k = "or") := by simpa using h3
      rw [if_neg h3] at e0
      walk_at "xs"
      refine i_atom (x := x) (k := k) (r := r) ⟨a, _, rfl, s2 _ _ ha, _, _, rfl, ⟨rfl, hk⟩, hr'.same s2⟩ fun H3 s3 => ?_
      have s3 := s2.trans s3
      walk_at "xs"
      refine x_ite (fun h4 => ?_) (fun h4 => ?_)
      · walk_at "xs"
        rw [if_pos h4] at e0
        exact q0 _ _ s3 (by rw [e0] <;> rfl)
      · walk_at "xs"
        rw [if_neg (by rw [h4]; decide)] at e0
        exact q0 _ _ s3 (by rw [e0] <;> rfl)
end
end K76

set_option Elab.async false
set_option linter.all false
set_option maxRecDepth 100000
namespace K76
open PySem PySem.Spec PyProof.Rows L2 SX
local macro_rules | `(tactic| walk_at "x") => `(tactic| with_reducible first
  | refine x_seq ?_ | refine x_asg ?_ | refine x_op ?_ | refine x_cons ?_ | refine x_nil ?_ | refine x_c ?_ | refine x_name ?_ | refine x_cb ?_ | refine x_call ?_ | refine x_ret ?_ | refine x_ifS ?_
  | refine x_test ?_ | refine x_bl ?_ | refine x_I0 ?_ | refine x_sub ?_ | refine x_tup ?_ | refine x_lst ?_ | refine x_and ?_ | refine x_or ?_ | refine x_not ?_ | refine x_if ?_ | refine x_andV ?_ | refine x_orV ?_ | refine x_notV ?_
  | refine x_retN ?_ | refine x_drop ?_ | refine x_next ?_ | refine x_un ?_ | refine x_B ?_ | refine x_sl ?_ | refine x_noPart ?_ | refine x_part ?_ | refine x_chain ?_ | refine x_int ?_
  | refine x_eqI ?_ | refine x_eqS ?_ | refine x_neI ?_ | refine x_neS ?_ | refine x_eqB ?_ | refine x_neB ?_ | refine x_toI ?_ | refine x_absI ?_ | refine x_mx2 ?_ | refine x_M1 ?_ | refine x_isS ?_ | refine iteT ?_ | refine iteF ?_ | refine x_lc ?_ | refine x_for ?_ | refine x_rng1 ?_ | refine x_iList ?_ | refine x_iTup ?_ | refine x_yes ?_ | refine x_iStr ?_ | refine x_gcons ?_ | refine x_gnil ?_ | refine x_neg ?_ | refine x_sfld ?_ | refine x_tfld ?_ | refine x_make ?_ | refine x_bm ?_)
local macro_rules | `(tactic| walk_at "xs") => `(tactic| repeat (first | walk_at "x" | ((with_reducible show tVar _ _ _ _); refine x_var rfl ?_)))
section
variable {P : Program} {w : World} {K : PySem.W.Frag} {mg : Str → Option Value} {base : Heap}
theorem k_triples (T : Nm K mg) (F : FnX K mg "good_triples" s_good_triples ["rows"]) (c_two_names : CalK P w K mg base 3 "two_names" spTwo) (c_good_letter : CalK P w K mg base 2 "good_letter" (spJ letterD)) : CalK P w K mg base 4 "good_triples" (spJ triplesD) := by
  refine cal_of F sc_good_triples (fun vs H Q E h => ?_) (fun f cdv A outer s H vs Q E hr h => ?_)
  · obtain ⟨x, d, v, rfl, _⟩ := h
    rfl
  · obtain ⟨x, d, v, rfl, hd, q⟩ := h
    refine ⟨_, (pss_cons (ps_if (PW.pt (pw_or (pt_not (pt_val (pe_callB (id := "isinstance") (r := rIsi K) call_isi (by rfl) T.n_isinstance (by decide +kernel) (pa_cons (pv 0) (pa_cons (pe_bltn (v := .ty "tuple") (by rfl) T.n_tuple (by decide +kernel) rfl) pa_nil))))) (pw_or1 (pt_cmpR op_eq (pe_callB cx_len (by rfl) T.n_len (by decide +kernel) (pa_cons (pv 0) pa_nil)) pe_int (nomark _))))) (pss_one (ps_ret pe_bl)) pss_nil)
      (pss_cons (ps_for PassesOwn.never rfl (pi_tup (pv 0)) (pg_name (i := 1) sc_good_triples.nd rfl (Or.inl rfl)) (pss_cons (ps_if (PW.pt (pw_or (pt_not (pt_val (pe_callB (id := "isinstance") (r := rIsi K) call_isi (by rfl) T.n_isinstance (by decide +kernel) (pa_cons (pv 1) (pa_cons (pe_bltn (v := .ty "tuple") (by rfl) T.n_tuple (by decide +kernel) rfl) pa_nil))))) (pw_or1 (pt_cmpR op_ne (pe_callB cx_len (by rfl) T.n_len (by decide +kernel) (pa_cons (pv 1) pa_nil)) pe_int (nomark _))))) (pss_one (ps_ret pe_bl)) pss_nil)
      (pss_one (ps_if (PW.pt (pw_or (pt_not (pt_val (C8.pe_c c_two_names hr (by omega) (by rfl) (pa_cons (pe_ix (r := rIxT K) ix_tup (pv 1) pe_int (fun _ _ => rfl)) (pa_cons (pe_ix (r := rIxT K) ix_tup (pv 1) pe_int (fun _ _ => rfl)) pa_nil))))) (pw_or1 (pt_not (pt_val (C8.pe_c c_good_letter hr (by omega) (by rfl) (pa_cons (pe_ix (r := rIxT K) ix_tup (pv 1) pe_int (fun _ _ => rfl)) pa_nil))))))) (pss_one (ps_ret pe_bl)) pss_nil))))
      (pss_one (ps_ret pe_bl)))), ?_⟩
    walk_at "xs"
    refine x_isTup hd ?_
    walk_at "xs"
    cases d with
    | tuple ds =>
      obtain ⟨a, xs, rfl, ha, hxs⟩ := hd
      have hlen := hxs.length
      refine iteF ?_
      walk_at "xs"
      refine x_lenT (SqT.of ha) ?_
      walk_at "xs"
      refine x_eqi (fun h1 => ?_) (fun h1 => ?_)
      · walk_at "xs"
        have e : ds = [] := List.length_eq_zero_iff.mp (by omega)
        subst e
        exact q H (Same.refl H)
      walk_at "xs"
      have hne : ds.isEmpty = false := by
        cases ds with
        | nil => exact absurd (by rw [hlen]; rfl) h1
        | cons _ _ => rfl
      have et : triplesD (.tuple ds) = ds.all tripleD := by
        show (!ds.isEmpty && ds.all tripleD) = _
        rw [hne] <;> rfl
      rw [et] at q
      refine ⟨a, rfl, ⟨xs, SqT.of ha⟩, for_tup (xs := xs) (fun i σ' H' => (∃ o, σ' = [some (.ref a), o]) ∧ Same H H' ∧ (ds.take i).all tripleD = true) ?_ ?_ ?_ ?_⟩
      · exact ⟨⟨_, rfl⟩, Same.refl H, by rw [List.take_zero] <;> rfl⟩
      · rintro i σ' H' hi ⟨_, sm, _⟩
        exact SqT.of (sm _ _ ha)
      · rintro i v σ' H1 hv ⟨⟨o, rfl⟩, s1, hall⟩
        have hi : i < ds.length := by
          rw [← hlen]
          exact (List.getElem?_eq_some_iff.mp hv).1
        obtain ⟨v', hv', hd⟩ := hxs.get (i := i) (d := ds[i]) (List.getElem?_eq_getElem hi)
        rw [hv] at hv'
        obtain rfl := Option.some.inj hv'
        have no : ∀ H', Same H1 H' → tripleD ds[i] = false → Q (.bl false) H' := fun H' s e => by
          have := q H' (s1.trans s)
          rwa [List.all_eq_false.mpr ⟨ds[i], List.getElem_mem hi, by rw [e]; decide⟩] at this
        have yes : tripleD ds[i] = true → (ds.take (i + 1)).all tripleD = true := fun e => by
          rw [List.take_add_one, List.getElem?_eq_getElem hi, List.all_append, hall]
          show (true && (tripleD ds[i] && true)) = true
          rw [e] <;> rfl
        generalize ds[i] = d at hd no yes
        have hd := hd.same s1
        walk_at "xs"
        refine x_isTup hd ?_
        walk_at "xs"
        cases d with
        | tuple ts =>
          obtain ⟨b, ys, rfl, hb, hys⟩ := hd
          have hl2 := hys.length
          refine iteF ?_
          walk_at "xs"
          refine x_lenT (SqT.of hb) ?_
          walk_at "xs"
          rcases ts with _ | ⟨d1, _ | ⟨d2, _ | ⟨d3, _ | ⟨d4, r⟩⟩⟩⟩
          · refine x_ite (fun _ => ?_) (fun h => ?_)
            · walk_at "xs"
              exact no _ (Same.refl _) rfl
            · have := V.int.inj (of_decide_eq_true (b_nf h))
              rw [hl2] at this
              cases this
          · refine x_ite (fun _ => ?_) (fun h => ?_)
            · walk_at "xs"
              exact no _ (Same.refl _) rfl
            · have := V.int.inj (of_decide_eq_true (b_nf h))
              rw [hl2] at this
              cases this
          · refine x_ite (fun _ => ?_) (fun h => ?_)
            · walk_at "xs"
              exact no _ (Same.refl _) rfl
            · have := V.int.inj (of_decide_eq_true (b_nf h))
              rw [hl2] at this
              cases this
          · obtain ⟨v1, vr, rfl, a1, v2, vr, rfl, a2, v3, vr, rfl, a3, rfl⟩ := hys
            refine iteF ?_
            walk_at "xs"
            refine x_tupI (SqT.of hb) (atI_nat (j := 0) rfl) ?_
            walk_at "xs"
            refine x_tupI (SqT.of hb) (atI_nat (j := 1) rfl) ?_
            walk_at "xs"
            refine i_two a1 a2 fun H2 s2 => ?_
            walk_at "xs"
            have e : tripleD (.tuple [d1, d2, d3]) = (pairD d1 d2 && letterD d3) := rfl
            rw [e] at no yes
            refine x_ite (fun h1 => ?_) (fun h1 => ?_)
            · walk_at "xs"
              exact no _ s2 (by rw [b_nt h1, Bool.false_and])
            walk_at "xs"
            refine x_tupI (SqT.of (s2 _ _ hb)) (atI_nat (j := 2) rfl) ?_
            walk_at "xs"
            refine i_J (a3.same s2) fun H3 s3 => ?_
            walk_at "xs"
            refine x_ite (fun h2 => ?_) (fun h2 => ?_)
            · walk_at "xs"
              exact no _ (s2.trans s3) (by rw [b_nt h2, Bool.and_false])
            · walk_at "xs"
              exact ⟨⟨_, rfl⟩, s1.trans (s2.trans s3), yes (by rw [b_nf h1, b_nf h2] <;> rfl)⟩
          · refine x_ite (fun _ => ?_) (fun h => ?_)
            · walk_at "xs"
              exact no _ (Same.refl _) rfl
            · have := V.int.inj (of_decide_eq_true (b_nf h))
              rw [hl2, List.length_cons, List.length_cons, List.length_cons, List.length_cons] at this
              omega
        | _ =>
          refine iteT ?_
          walk_at "xs"
          exact no _ (Same.refl _) rfl
      · rintro σ' H1 ⟨⟨o, rfl⟩, s1, hall⟩
        walk_at "xs"
        rw [hlen, List.take_length] at hall
        have := q H1 s1
        rwa [hall] at this
    | _ => exact q H (Same.refl H)
def spWish (n : Nat) : Sp := fun vs H Q _ => ∃ x d v, vs = [v] ∧ At x H d v ∧ hgt d ≤ n ∧ ∀ H', Same H H' → Q (.int (wishLevel d)) H'
theorem i_wish {n : Nat} {x : Addr} {d : PyData} {v : V} {H : Hp} {Q : VK} {E : XK} (h : At x H d v) (hn : hgt d ≤ n) (q : ∀ H', Same H H' → Q (.int (wishLevel d)) H') : spWish n [v] H Q E := ⟨x, d, v, rfl, h, hn, q⟩
theorem k_wish (n : Nat) (T : Nm K mg) (F : FnX K mg "wish_level" s_wish_level ["tree"]) (c_begins_with_kind : CalK P w K mg base 1 "begins_with_kind" (spJ kindD)) (c_pred_level : CalK P w K mg base (4 + n) "pred_level" (spPred n)) (c_good_triples : CalK P w K mg base 4 "good_triples" (spJ triplesD)) :
    CalK P w K mg base (4 + n + 1) "wish_level" (spWish n) := by
  refine cal_of F sc_wish_level (fun vs H Q E h => ?_) (fun f cdv A outer s H vs Q E hr h => ?_)
  · obtain ⟨x, d, v, rfl, _⟩ := h
    rfl
  · obtain ⟨x, d, v, rfl, hd, hn, q⟩ := h
    refine ⟨_, (pss_cons (ps_if (pt_not (pt_val (C8.pe_c c_begins_with_kind hr (by omega) (by rfl) (pa_cons (pv 0) pa_nil)))) (pss_one (ps_ret (pe_un un_neg pe_int))) pss_nil)
      (pss_cons (ps_if (pt_cmpR op_in_seq (pe_ix (r := rIxT K) ix_tup (pv 0) pe_int (fun _ _ => rfl)) (pe_tup (pa_cons pe_str (pa_cons pe_str pa_nil))) (by rfl)) (pss_cons (ps_set (i := 1) sc_wish_level.nd rfl (Or.inl rfl) (pe_ifExp (pt_cmpR op_eq (pe_callB cx_len (by rfl) T.n_len (by decide +kernel) (pa_cons (pv 0) pa_nil)) pe_int (nomark _)) (C8.pe_c c_pred_level hr (by omega) (by rfl) (pa_cons (pe_ix (r := rIxT K) ix_tup (pv 0) pe_int (fun _ _ => rfl)) pa_nil)) pe_int))
      (pss_one (ps_ret (pe_ifExp (pt_cmpR op_gt (pv 1) pe_int (nomark _)) (pv 1) (pe_un un_neg pe_int))))) pss_nil)
      (pss_cons (ps_if (pt_cmpR op_eq (pe_ix (r := rIxT K) ix_tup (pv 0) pe_int (fun _ _ => rfl)) pe_str (nomark _)) (pss_one (ps_ret (pe_ifExp (PW.pt (pw_and (pt_cmpR op_eq (pe_callB cx_len (by rfl) T.n_len (by decide +kernel) (pa_cons (pv 0) pa_nil)) pe_int (nomark _)) (pw_and1 (pt_val (C8.pe_c c_good_triples hr (by omega) (by rfl) (pa_cons (pe_ix (r := rIxT K) ix_tup (pv 0) pe_int (fun _ _ => rfl)) pa_nil)))))) pe_int (pe_un un_neg pe_int)))) pss_nil)
      (pss_cons (ps_if (pt_cmpR op_eq (pe_ix (r := rIxT K) ix_tup (pv 0) pe_int (fun _ _ => rfl)) pe_str (nomark _)) (pss_cons (ps_set (i := 2) sc_wish_level.nd rfl (Or.inl rfl) (pe_and (pe_cmpR op_eq (pe_callB cx_len (by rfl) T.n_len (by decide +kernel) (pa_cons (pv 0) pa_nil)) pe_int (nomark _)) (pe_and (C8.pe_c c_good_triples hr (by omega) (by rfl) (pa_cons (pe_ix (r := rIxT K) ix_tup (pv 0) pe_int (fun _ _ => rfl)) pa_nil)) (pe_one (C8.pe_c c_good_triples hr (by omega) (by rfl) (pa_cons (pe_ix (r := rIxT K) ix_tup (pv 0) pe_int (fun _ _ => rfl)) pa_nil))))))
      (pss_one (ps_ret (pe_ifExp (pt_val (pv 2)) pe_int (pe_un un_neg pe_int))))) pss_nil)
      (pss_one (ps_ret (pe_un un_neg pe_int))))))), ?_⟩
    walk_at "xs"
    refine i_J hd fun H1 s1 => ?_
    walk_at "xs"
    refine x_ite (fun h1 => ?_) (fun h1 => ?_)
    · walk_at "xs"
      have e := wishLevel_kind (b_nt h1)
      have := q H1 s1
      rwa [e] at this
    obtain ⟨k, r, rfl⟩ := kindD_true (b_nf h1)
    obtain ⟨a, xs, rfl, ha, hxs⟩ := hd
    have hlen := hxs.length
    obtain ⟨v0, vr, rfl, ⟨rfl, hk⟩, hr'⟩ := hxs
    rw [List.length_cons, List.length_cons] at hlen
    have hlen : vr.length = r.length := by omega
    have e0 := wishLevel_tup k r
    have hgt_r : ∀ z ∈ r, hgt z < n := fun z hz => by
      have := hgt_tup (List.mem_cons_of_mem (PyData.str k) hz)
      omega
    have q0 : ∀ (i : Int) H', Same H H' → i = wishLevel (.tuple (.str k :: r)) → Q (.int i) H' := fun i H' s e => by
      rw [e]
      exact q H' s
    walk_at "xs"
    refine x_tupI (SqT.of (s1 _ _ ha)) (atI_nat (j := 0) rfl) ?_
    walk_at "xs"
    refine ⟨by decide, fun p np => ?_⟩
    have s2 := s1.trans (same_new (o := .tup [.str "never", .str "home"]) np)
    refine x_inT (l := ["never", "home"]) (SqT.of upd_same) ?_
    walk_at "xs"
    generalize upd H1 p _ = H2 at s2 ⊢
    refine x_dec (fun h3 => ?_) (fun h3 => ?_)
    · have h3 : k = "never" ∨ k = "home" := by simpa using h3
      rw [if_pos h3] at e0
      walk_at "xs"
      refine x_lenT (SqT.of (s2 _ _ ha)) ?_
      walk_at "xs"
      rcases r with _ | ⟨d1, _ | ⟨d2, r⟩⟩
      · refine x_ite (fun h => ?_) (fun h => ?_)
        · have := V.int.inj (of_decide_eq_true h)
          rw [List.length_cons, hlen] at this
          cases this
        · walk_at "xs"
          refine iteF ?_
          walk_at "xs"
          exact q0 _ _ s2 e0.symm
      · obtain ⟨v1, vr, rfl, a1, rfl⟩ := hr'
        refine iteT ?_
        walk_at "xs"
        refine x_tupI (SqT.of (s2 _ _ ha)) (atI_nat (j := 1) rfl) ?_
        walk_at "xs"
        refine i_pred (a1.same s2) (hgt_r d1 List.mem_cons_self) fun H3 s3 => ?_
        walk_at "xs"
        have e1 : wishLevel (.tuple [.str k, d1]) = if 0 < predLevel d1 then (predLevel d1 : Int) else -1 := e0
        refine x_dec (fun h3 => ?_) (fun h3 => ?_)
        · walk_at "xs"
          exact q0 _ _ (s2.trans s3) (by rw [e1, if_pos (by omega)])
        · walk_at "xs"
          exact q0 _ _ (s2.trans s3) (by rw [e1, if_neg (by omega)])
      · refine x_ite (fun h => ?_) (fun h => ?_)
        · have := V.int.inj (of_decide_eq_true h)
          rw [List.length_cons, hlen, List.length_cons, List.length_cons] at this
          omega
        · walk_at "xs"
          refine iteF ?_
          walk_at "xs"
          exact q0 _ _ s2 e0.symm
    have h3 : ¬ (k = "never" ∨ k = "home") := by simpa using h3
    rw [if_neg h3] at e0
    walk_at "xs"
    refine x_tupI (SqT.of (s2 _ _ ha)) (atI_nat (j := 0) rfl) ?_
    walk_at "xs"
    refine x_eqs (fun h4 => ?_) (fun h4 => ?_)
    · have h4 : k = "again" := h4
      rw [if_pos h4] at e0
      walk_at "xs"
      refine x_lenT (SqT.of (s2 _ _ ha)) ?_
      walk_at "xs"
      rcases r with _ | ⟨d1, _ | ⟨d2, r⟩⟩
      · refine x_ite (fun h => ?_) (fun h => ?_)
        · have := V.int.inj (of_decide_eq_true h)
          rw [List.length_cons, hlen] at this
          cases this
        · walk_at "xs"
          exact q0 _ _ s2 e0.symm
      · obtain ⟨v1, vr, rfl, a1, rfl⟩ := hr'
        refine iteT ?_
        walk_at "xs"
        refine x_tupI (SqT.of (s2 _ _ ha)) (atI_nat (j := 1) rfl) ?_
        walk_at "xs"
        refine i_J (a1.same s2) fun H3 s3 => ?_
        walk_at "xs"
        have e1 : wishLevel (.tuple [.str k, d1]) = if triplesD d1 = true then 0 else -1 := e0
        refine x_ite (fun h5 => ?_) (fun h5 => ?_)
        · walk_at "xs"
          exact q0 _ _ (s2.trans s3) (by rw [e1, if_pos h5])
        · walk_at "xs"
          exact q0 _ _ (s2.trans s3) (by rw [e1, if_neg (by rw [h5]; decide)])
      · refine x_ite (fun h => ?_) (fun h => ?_)
        · have := V.int.inj (of_decide_eq_true h)
          rw [List.length_cons, hlen, List.length_cons, List.length_cons] at this
          omega
        · walk_at "xs"
          exact q0 _ _ s2 e0.symm
    rw [if_neg (show ¬ k = "again" from h4)] at e0
    walk_at "xs"
    refine x_tupI (SqT.of (s2 _ _ ha)) (atI_nat (j := 0) rfl) ?_
    walk_at "xs"
    refine x_eqs (fun h5 => ?_) (fun h5 => ?_)
    · have h5 : k = "answered" := h5
      rw [if_pos h5] at e0
      walk_at "xs"
      refine x_lenT (SqT.of (s2 _ _ ha)) ?_
      walk_at "xs"
      rcases r with _ | ⟨d1, _ | ⟨d2, _ | ⟨d3, r⟩⟩⟩
      · refine x_ite (fun h => ?_) (fun h => ?_)
        · have := V.int.inj (of_decide_eq_true h)
          rw [List.length_cons, hlen] at this
          cases this
        · walk_at "xs"
          exact q0 _ _ s2 e0.symm
      · refine x_ite (fun h => ?_) (fun h => ?_)
        · have := V.int.inj (of_decide_eq_true h)
          rw [List.length_cons, hlen] at this
          cases this
        · walk_at "xs"
          exact q0 _ _ s2 e0.symm
      · obtain ⟨v1, vr, rfl, a1, v2, vr, rfl, a2, rfl⟩ := hr'
        refine iteT ?_
        walk_at "xs"
        refine x_tupI (SqT.of (s2 _ _ ha)) (atI_nat (j := 1) rfl) ?_
        walk_at "xs"
        refine i_J (a1.same s2) fun H3 s3 => ?_
        have s3 := s2.trans s3
        walk_at "xs"
        have e1 : wishLevel (.tuple [.str k, d1, d2]) = if (triplesD d1 && triplesD d2) = true then 0 else -1 := e0
        refine x_ite (fun h6 => ?_) (fun h6 => ?_)
        · walk_at "xs"
          refine x_tupI (SqT.of (s3 _ _ ha)) (atI_nat (j := 2) rfl) ?_
          walk_at "xs"
          refine i_J (a2.same s3) fun H4 s4 => ?_
          have s4 := s3.trans s4
          walk_at "xs"
          refine x_ite (fun h7 => ?_) (fun h7 => ?_)
          · walk_at "xs"
            exact q0 _ _ s4 (by rw [e1, h6, h7] <;> rfl)
          · walk_at "xs"
            exact q0 _ _ s4 (by rw [e1, h6, h7] <;> rfl)
        · walk_at "xs"
          exact q0 _ _ s3 (by rw [e1, h6] <;> rfl)
      · refine x_ite (fun h => ?_) (fun h => ?_)
        · have := V.int.inj (of_decide_eq_true h)
          rw [List.length_cons, hlen, List.length_cons, List.length_cons, List.length_cons] at this
          omega
        · walk_at "xs"
          exact q0 _ _ s2 e0.symm
    · walk_at "xs"
      rw [if_neg (show ¬ k = "answered" from h5)] at e0
      exact q0 _ _ s2 e0.symm
end
end K76

set_option Elab.async false
set_option linter.all false
set_option maxRecDepth 100000
set_option maxHeartbeats 2000000
/-! an own exception whose __init__ says super().__init__(e), its class some steps under ValueError -/
namespace K76
open PySem PySem.Spec PyProof.Rows L2 NdefX
/-- what the written part says of such a class C (its __init__ at f) -/
structure SupC (P : Program) (K : PySem.W.Frag) (mg : Str → Option Value) (C : Addr) : Prop where
  oex : OexC K C
  sup : PySem.W.ks_superIn K C C "__init__" = some (some (.builtin "ValueError.__init__"))
  ve : PySem.W.subIn K (.ref C) (.type "ValueError") = some true
  self : PySem.W.mroIn K C (.ref C) = some true
  tp : PySem.W.nsIn K cStatics "thirdparty.any" = some none
  nm : mg "super" = none
  top : (P.main.scope.names.lookup ("super" : Str)).isSome = false
/-- super().__init__(..) bound to the object at a, called -/
theorem mw_call {X : Cx} {pins : List (Addr × Obj)} {σ : L2.St} {H : Hp} {s : Shared} {C a u : Addr} {A : Around} {us : List Value} {E : Value → Shared → Prop} {Q : Value → Shared → Prop} (T : OexC X.K C) (I : Inv X pins σ H s) (e : H a = some (exo a C none)) (hu : s.heap.get? u = some (PySem.W.kxs_mw "ValueError.__init__" a)) (hl : us.length ≤ sizeLine) (h : ∀ s', Inv X pins σ H s' → Q .none s') :
    wpAny (model X.prog X.w) A (call (.ref u) us) Q E s := by
  obtain ⟨nm, q, N, bs, bm, sn, sub, ab, col, dd, k0, k1, k2, k3, k5, hC, hbm⟩ := T.cls
  obtain ⟨t1, ho⟩ := exo_at I.hok e
  obtain ⟨hp, g, d, t, os⟩ := s
  refine wpAny_call (codeAny_of_tree ?_)
  show wpAny _ A.in1 (callAny (.ref u) ⟨us, []⟩) _ _ _
  simp only [callAny]
  refine wpAny_bind (wpAny_load hu ?_)
  simp only [PySem.W.kxs_mw, show (Value.type "method-wrapper" == Value.type "method" || Value.type "method-wrapper" == Value.type "builtin_function_or_method" || Value.type "method-wrapper" == Value.type "method-wrapper") = true by decide, if_true]
  refine PySem.W.KFB.if_so (by decide) ?_
  refine wpAny_bind (PySem.W.check_bound_init F.excBase_ValueError.toExcCallFacts (I.kIn _ _ hC) ho rfl ?_)
  refine wpAny_bind (wpAny_pure (wpAny_pure ?_))
  refine ⟨plainId_quiet F.excBase_ValueError.init.plain _, codeAny_builtin F.excBase_ValueError.initEntry ?_⟩
  refine PySem.W.exc_init_tree (cls := .ref C) (t0 := t1) (dv := none) (c2 := .none) (c3 := .none) (b4 := .bool false) ho hl fun h' k hx _ => ?_
  have J := I.write (t' := t) (x := a) (e := a) (o := exo a C none) (by rw [e]; exact True.intro) (.inl rfl) k ⟨_, hx⟩ (exo_ok hx)
  have eu : L2.upd H a (exo a C none) = H := by
    funext b
    by_cases hb : b = a
    · rw [hb, L2.upd_same, e]
    · rw [L2.upd_ne hb]
  rw [eu] at J
  exact h _ J
theorem mw_callWith {M : Model} {A : Around} {E : Value → Shared → Prop} {s : Shared} {u a : Addr} {env : Env} {e : Expr} {pos : Pos} {Q : Value → Shared → Prop} (hst : starEach [e] env = (false, eval e env) :: starEach [] env)
    (h : wpAny M A (spliced (backTo pos (starEach [e] env))) (fun vs s₁ => PySem.W.KxsAt "ValueError.__init__" u a s₁.heap ∧ wpAny M A (call (.ref u) vs) Q E s₁) E s) : wpAny M A (callWith pos (.ref u) [] (backTo pos (starEach [e] env)) []) Q E s := by
  have hp : (backTo pos (starEach [] env)).any (·.1) = false := by rfl
  rw [hst] at h ⊢
  refine PySem.W.kxs_callWith (i := "ValueError.__init__") (x := a) (by show (false || (backTo pos (starEach [] env)).any (·.1)) = false; rw [hp]; rfl) ?_
  exact Calls.evalArgs_plain h
section
variable {CX : CXT} {P : Program} {w : World} {K : PySem.W.Frag} {mg : Str → Option Value} {base : Heap} {N ps : List Str} {k : Nat} {sp : Sp} {f C cc cda : Addr} {name qual : Str} {params : Arguments} {scope : Scope} {e : Expr} {rest : List Stmt} {ar : Arg}
  {dV kV doc pm ct oc cl ccl : Value} {an od cld cdd : Option Addr} {osl csl ccs : Array (Option Value)} {vs' : Array Value} {file : Str} {tf : Tok} {p0 p1 p2 p3 p4 : Pos}
/-- the first statement -/
abbrev supE (e : Expr) (p0 p1 p2 p3 : Pos) : Expr := .Call (.Attribute (.Call (.Name "super" p0) [] [] p1) "__init__" p2) [e] [] p3
abbrev supNF (name qual : Str) (params : Arguments) (body : List Stmt) (scope : Scope) (cc cda : Addr) : NF := ⟨name, qual, params, body, scope, [("__class__", cc)], cda⟩
theorem sup_fn (lk : K.lookup f = some ⟨oc, od, .func (PySem.W.ksFn name qual params (.Expr (supE e p0 p1 p2 p3) p4 :: rest) scope dV kV doc pm an (.ref cda) ct cc), osl⟩) (hcd : PySem.W.codeIn K (.ref cda) qual = true)
    (hcell : K.lookup cc = some ⟨cl, cld, .cell (some (.ref C)), csl⟩) (hcode : K.lookup cda = some ⟨ccl, cdd, .fields vs', ccs⟩) (hvs : vs'[2]? = some (.str file tf)) (hfile : ((P.main.file : Str) == file) = true)
    (S : NScope N (ar.arg :: ps) ["__class__"] scope) (hp : (params.posonlyargs ++ params.args).head? = some ar) (T : SupC P K mg C) (hks : scope.names.lookup ("super" : Str) = some .globalImplicit)
    (he : ∀ env : Env, ∃ pl, eval (supE e p0 p1 p2 p3) env = (do
      let ov ← attributeBase (.Call (.Name "super" p0) [] [] p1) "__init__" env (eval (.Call (.Name "super" p0) [] [] p1) env)
      standAt p2.atName
      let (f, first) ← holding [ov] (getMethod ov "__init__" pl)
      callWith p3 f first (backTo p3 (starEach [e] env)) []))
    (hst : ∀ env : Env, starEach [e] env = (false, eval e env) :: starEach [] env) (hsw : ∀ env : Env, swapsWith (supE e p0 p1 p2 p3) none p4.line env = pure false)
    (len : ∀ vs H Q E, sp vs H Q E → vs.length = (ar.arg :: ps).length)
    (hbody : ∀ (A : Around) (outer : List Env) (s : Shared) (H : Hp) (vs : List V) (Q : VK) (E : XK), Room k (A.deeper (envF (supNF name qual params (.Expr (supE e p0 p1 p2 p3) p4 :: rest) scope cc cda) f s.heap.objs.size)) → sp vs H Q E →
      ∃ ta t a vr, vs = .ref a :: vr ∧ H a = some (exo a C none) ∧ PA (ncx CX P w K mg base N (supNF name qual params (.Expr (supE e p0 p1 p2 p3) p4 :: rest) scope cc cda) f A outer s H E) [e] ta ∧
        PSs (ncx CX P w K mg base N (supNF name qual params (.Expr (supE e p0 p1 p2 p3) p4 :: rest) scope cc cda) f A outer s H E) rest t ∧
        ta (startF N vs [none]) H fun ws H1 => ws.length ≤ 1000 ∧ H1 a = some (exo a C none) ∧ t { nx := fun _ H' => Q .non H', rt := Q } (startF N vs [none]) H1) :
    FnOk P w K mg base CX (k + 1) f (PySem.W.ksFn name qual params (.Expr (supE e p0 p1 p2 p3) p4 :: rest) scope dV kV doc pm an (.ref cda) ct cc) (ar.arg :: ps) sp := by
  refine ⟨len, fun A outer s H args us vs Q E hr e0 hb r hsp => ?_⟩
  have hl := len _ _ _ _ hsp
  have lim : s.heap.NoLimit := e0.mod.nolimit.keeps fun b o e => (e0.bs b o e).1
  have KX : K.In s.heap := e0.mod.kin.keeps fun b o e => (e0.bs b o e).1
  have hbs : base.get? cc = some ⟨cl, cld, .cell (some (.ref C)), csl⟩ := e0.mod.kin _ _ hcell
  have hccH : H cc = none := (e0.bs _ _ hbs).2
  obtain ⟨ta, t, a, vr, rfl, ha, hta, ht, hq⟩ := hbody A outer s H vs Q E (hr.deeper _) hsp
  refine PySem.ks_codeAny_call_defAt (fd := PySem.W.ksFn name qual params (.Expr (supE e p0 p1 p2 p3) p4 :: rest) scope dV kV doc pm an (.ref cda) ct cc) (body := .Expr (supE e p0 p1 p2 p3) p4 :: rest) (binds := (ar.arg :: ps).zip us) hr.depth (KX _ _ lk) rfl lim
    (PySem.W.codeRec_of KX hcd) rfl hb S.nocell (fun ⟨n, _⟩ hy => S.par n (List.of_mem_zip hy).1) (fun h₁ hns kp => ?_) S.co S.gen S.kind
  have CA : CellsAt (supNF name qual params (.Expr (supE e p0 p1 p2 p3) p4 :: rest) scope cc cda).cl ["__class__"] [none] s.heap H := by
    have lkc : ∀ {y : Str} {c : Addr}, ([(("__class__" : Str), cc)] : List (Str × Addr)).lookup y = some c → y = "__class__" ∧ c = cc := fun {y c} h => by
      by_cases hy : y = ("__class__" : Str)
      · subst hy
        have z : some cc = some c := h
        exact ⟨rfl, (Option.some.inj z).symm⟩
      · have e : (y == ("__class__" : Str)) = false := by simpa using hy
        simp [List.lookup, e] at h
    refine ⟨rfl, fun y c h => ?_, fun x y c h1 h2 => (lkc h1).1.trans (lkc h2).1.symm, fun i y hi => ?_⟩
    · obtain ⟨_, rfl⟩ := lkc h
      exact ⟨hccH, _, _, KX _ _ hcell, rfl⟩
    · match i, hi with
      | 0, hi =>
        have z : some ("__class__" : Str) = some y := hi
        cases z
        exact ⟨cc, rfl, fun v z => by cases z⟩
      | i + 1, hi =>
        simp at hi
  have I : Inv (ncx CX P w K mg base N (supNF name qual params (.Expr (supE e p0 p1 p2 p3) p4 :: rest) scope cc cda) f A outer s H E) [] (startF N (.ref a :: vr) [none]) H { s with heap := h₁, toks := s.toks + ((ar.arg :: ps).zip us).length } := inv_startN S hr.hd e0 hl r CA hns kp
  obtain ⟨X, hX⟩ : ∃ X, X = ncx CX P w K mg base N (supNF name qual params (.Expr (supE e p0 p1 p2 p3) p4 :: rest) scope cc cda) f A outer s H E := ⟨_, rfl⟩
  have hself : (((ar.arg :: ps).zip us).reverse.lookup ar.arg) = some (.ref a) := by
    cases r with
    | @cons _ u0 _ ur ra rw' =>
      obtain rfl : u0 = Value.ref a := ra
      have ndP : (ar.arg :: ps).Nodup := by
        have q := S.nd.sublist (List.take_sublist ((ar.arg :: ps).length + [("__class__" : Str)].length) N)
        rw [S.pre] at q
        exact (List.nodup_append.mp q).1
      exact zip_look (i := 0) ndP rfl rfl
  have fin : ∀ {σ' : L2.St} {H' : Hp} {v : V} {u : Value} {s' : Shared}, Inv (ncx CX P w K mg base N (supNF name qual params (.Expr (supE e p0 p1 p2 p3) p4 :: rest) scope cc cda) f A outer s H E) [] σ' H' s' → L2.RelV v u → Q v H' → CE outer P w H s Q u s' :=
    fun {σ' H' v u s'} J rv q => ⟨v, H', J.os, J.bare, J.base, J.hok, rv, q⟩
  refine PySem.ks_wpAt_mono (Q := fun fl s' => SP (ncx CX P w K mg base N (supNF name qual params (.Expr (supE e p0 p1 p2 p3) p4 :: rest) scope cc cda) f A outer s H E) [] { nx := fun _ H' => Q .non H', rt := Q } fl s') ?_ (fun fl s' hs => ?_) fun _ _ y => y
  rotate_left
  · cases fl with
    | ret u =>
      obtain ⟨v, σ', H', J, rv, q⟩ := hs
      exact fin J rv q
    | next =>
      obtain ⟨σ', H', J, q⟩ := hs
      exact fin (v := V.non) (u := Value.none) J rfl q
    | brk =>
      obtain ⟨_, _, _, q⟩ := hs
      exact False.elim q
    | cont =>
      obtain ⟨_, _, _, q⟩ := hs
      exact False.elim q
  obtain ⟨pl, he⟩ := he (envF (supNF name qual params (.Expr (supE e p0 p1 p2 p3) p4 :: rest) scope cc cda) f s.heap.objs.size)
  refine PySem.ks_wpAt_execs_cons (PySem.ks_wpAt_Expr_any (PySem.ks_wpAt_MethodCall (pl := pl) ?_ he) (I.quiet) (hsw _))
  obtain ⟨nm, q, N', bs, bm, sn, sub, ab, col, dd, k0, k1, k2, k3, k5, hC, hbm⟩ := T.oex.cls
  have KI : K.In h₁ := I.kIn
  have hkc : scope.names.lookup ("__class__" : Str) = some .free := S.frk _ List.mem_cons_self
  refine PySem.ks_wpAt_super_base (env := envF (supNF name qual params (.Expr (supE e p0 p1 p2 p3) p4 :: rest) scope cc cda) f s.heap.objs.size) hks hkc rfl rfl (KI _ _ lk) rfl hp rfl (KI _ _ hcode) rfl hvs hfile T.top ?_
  obtain ⟨mb, b1, b2⟩ := I.mod.blt
  refine PySem.W.ks_loadName_global S.kind hks (Calls.loadGlobal_builtin (by exact I.mod.glob.keeps I.bk) T.nm (by exact b1.keeps I.bk) ((b2 _ (by decide)).trans (by first | rfl | kernel_rfl)) ⟨rfl, ?_⟩)
  refine wpAny_loadName_free S.kind hkc rfl ⟨_, KI _ _ hcell, rfl⟩ ?_
  refine wpAny_loadName_local S.kind (S.par _ List.mem_cons_self) hns hself ?_
  refine PySem.ks_wpAny_isType_cls (KI _ _ hC) rfl ⟨rfl, ?_⟩
  obtain ⟨t1, ho⟩ := exo_at I.hok ha
  have haC : a ≠ C := fun z => by
    have y := KI _ _ hC
    rw [← z, ho] at y
    cases y
  refine PySem.ks_wpAny_call_super (KI _ _ hC) rfl ho rfl (fun c y => by cases y) (PySem.W.looks_mroIn KI T.self) fun h2 hso k2 => ?_
  have I2 := I.kept (t' := s.toks + ((ar.arg :: ps).zip us).length) k2
  have KI2 : K.In h2 := I2.kIn
  have ho2 := k2 _ _ ho
  cases hc : PySem.W.clsIn K C with
  | none =>
    have z := T.sup
    unfold PySem.W.ks_superIn at z
    rw [hc] at z
    cases z
  | some cd =>
    have hm := T.sup
    unfold PySem.W.ks_superIn at hm
    rw [hc] at hm
    refine PySem.W.kxs_getMethod PySem.W.kxs_ValueError hso (PySem.W.looks_opaque KI2 T.tp) (l₀ := cd.mro) ?_ rfl KI2 hm ?_ haC rfl ?_
    · exact fun A Q E s k q => wpAny_bind ((PySem.W.looks_clsIn KI2 hc) A _ E s k (wpAny_pure q))
    · exact PySem.W.Looks.andThen (fun A Q E s k q => wpAny_typeOf_ref (k _ _ ho2) q) (PySem.W.looks_subIn KI2 T.ve)
    have k3 : ∀ b o, h2.get? b = some o → (h2.push (PySem.W.kxs_mw "ValueError.__init__" a)).get? b = some o := fun b o z => Heap.get?_push_of_some _ z
    have I3 := I2.kept (t' := s.toks + ((ar.arg :: ps).zip us).length + 1) k3
    have hu : (h2.push (PySem.W.kxs_mw "ValueError.__init__" a)).get? h2.objs.size = some (PySem.W.kxs_mw "ValueError.__init__" a) := Heap.get?_push_at rfl rfl
    have fp := I2.fpOk (b := h2.objs.size) (H' := H) (Nat.le_refl _) (I2.hok.fresh (Nat.le_refl _))
    have I4 : Inv (ncx CX P w K mg base N (supNF name qual params (.Expr (supE e p0 p1 p2 p3) p4 :: rest) scope cc cda) f A outer s H E) [(h2.objs.size, PySem.W.kxs_mw "ValueError.__init__" a)] (startF N (.ref a :: vr) [none]) H _ := I3.pins_of fun p hp => by
      obtain rfl := List.mem_singleton.mp hp
      exact ⟨hu, fp.1, fp.2.1, fp.2.2.1, fun v z => by cases z⟩
    refine mw_callWith (a := a) (hst _) ?_
    refine thn (hta.run p3 _ _ _ _ _ I4 hq) fun us2 s3 ⟨ws, H1, J, r3, hz, ea, q2⟩ => ?_
    refine ⟨(J.pin (h2.objs.size, PySem.W.kxs_mw "ValueError.__init__" a) (List.mem_append_right _ List.mem_cons_self)).1, ?_⟩
    have J0 : Inv (ncx CX P w K mg base N (supNF name qual params (.Expr (supE e p0 p1 p2 p3) p4 :: rest) scope cc cda) f A outer s H E) [] (startF N (.ref a :: vr) [none]) H1 s3 := J.pins_of fun p hp => by cases hp
    refine mw_call (X := ncx CX P w K mg base N (supNF name qual params (.Expr (supE e p0 p1 p2 p3) p4 :: rest) scope cc cda) f A outer s H E) T.oex J0 ea (J.pin (h2.objs.size, PySem.W.kxs_mw "ValueError.__init__" a) (List.mem_append_right _ List.mem_cons_self)).1 (by rw [← Paired.length r3, sizeLine_eq]; omega) fun s4 J4 => ?_
    exact wpAt_of_wpAny (ht.run [] s4 _ H1 _ J4 q2)
end
end K76

set_option Elab.async false
set_option linter.all false
set_option maxRecDepth 100000
set_option maxHeartbeats 2000000
/-! name = [..] over a range where an exception is handled -/
namespace K76
open PySem PySem.Spec PyProof.Rows L2 L2H HotX
section
variable {X : Cx}
theorem setLc_hot {i : Nat} {y : Str} {py : Pos} {elt tg iter : Expr} {ifs : List Expr} {scope : Scope} {own : List (Str × Nat)} {pos spos : Pos} {wi : TI} {g : TG} {tt : TT} {te : TE} (hot : HotC X) (hN : X.N.Nodup) (hy : X.N[i]? = some y) (hyl : X.env.scope.names.lookup y = some .local)
    (hsw : swapsWith (.ListComp elt [⟨tg, iter, ifs, 0⟩] scope pos) (some (.Name y py)) spos.line X.env = pure true) (hi : PIH X tg iter wi) (ok : BlkOk X.N X.env.scope scope own)
    (hg : ∀ (s : Shared) (H : Hp) (C : Addr) (cl : List (Str × Addr)) (fp : List Addr), PG (X.blk s H scope (compEnvC scope cl C X.env) fp) tg g) (ht : ∀ (s : Shared) (H : Hp) (C : Addr) (cl : List (Str × Addr)) (fp : List Addr), PTs (X.blk s H scope (compEnvC scope cl C X.env) fp) ifs tt)
    (he : ∀ (s : Shared) (H : Hp) (C : Addr) (cl : List (Str × Addr)) (fp : List Addr), PE (X.blk s H scope (compEnvC scope cl C X.env) fp) elt te) (hs : ∀ x, foldedSetIterable iter X.env x = pure x := by intro _; rfl) :
    PS X (.Assign [.Name y py] (.ListComp elt [⟨tg, iter, ifs, 0⟩] scope pos) spos) (tAsg (tLc wi g tt te (own.map (·.2))) (gName i)) := by
  refine ⟨fun pins s σ H D₀ I h => ?_⟩
  rw [exec_Assign_Name_used _ _ _ _ hsw]
  refine wpAny_bind (wpAny_standAt (wpAny_bind ?_))
  show wpAny _ X.A (do let _ ← comprehension (.ListComp elt [⟨tg, iter, ifs, 0⟩] scope pos) scope X.env (firstIterPos [⟨tg, iter, ifs, 0⟩] pos) (newList []) false (eval iter X.env) (some (assign (.Name y py) X.env))) _ _ s
  have h : tLc wi g tt te (own.map (·.2)) σ H (fun x H1 => gName i x σ H1 D₀.nx) := h
  refine wpAny_bind (thn (Q := fun _ s' => SP X pins D₀ .next s') ?_ fun _ s' hq => wpAny_pure (wpAny_pure hq))
  have hRR : ∀ L C s' m H', Inv X pins σ H' s' → gName i (.ref L) σ H' D₀.nx → s'.heap.Ns C m → FpOk X pins H' C → compPost (model X.prog X.w) X.A X.xe (some (assign (.Name y py) X.env)) (fun _ s' => SP X pins D₀ .next s') (.ref L) C (.ok .next) s' := fun L C s' m H' I' q hn f => by
    show wpAny _ _ (assign (.Name y py) X.env (.ref L)) _ _ _
    refine wpAny_assign_Name (store_ok2 (v := V.ref L) I' hN hy (.inl hyl) rfl (fun s2 I2 ⟨a, sb, ha⟩ => ?_) (.inr hyl))
    obtain ⟨f0, f1, f2, f3, f4, f5⟩ := f
    have haC : C ≠ a := by
      rcases ha with z | z
      · rw [z]; exact f1
      · exact fun e => f4 y a z e.symm
    refine ⟨m, hn.sameBut sb haC, fun h3 sb3 => ?_⟩
    exact ⟨_, H', I2.turned (t' := s2.toks) (fun b o hb e => (sb3.2 b hb).trans e) f0 f1 f3 f4 f5, q⟩
  obtain ⟨pp, hpp, hpn⟩ := hot
  have hfree : ∀ y ∈ scope.names, y.2 = .free → ∃ c, X.env.cells.lookup y.1 = some c := fun y hy e => by
    rcases ok.free y hy e with k | k
    · exact I.ok.has _ (.inl k)
    · exact I.ok.has _ (.inr k)
  refine wpAny_comprehension_free (use := some (assign (.Name y py) X.env)) rfl hs (closure_ok hfree) ok.kind (fun y hy e => by rw [ok.uniq y hy, e])
    (thn (hi.run pins s σ H _ I h) fun xv s1 hx => thn hx fun itv s2 h2 => ?_)
  obtain ⟨it, fp, tn, J, H2, e, I2, T, st2, f2, q⟩ := h2
  subst e
  refine wpAny_newObj_type (newEnv_comp ?_) (by show 0 ≤ sizeLine; decide)
  generalize hD : s2.heap.objs.size = D
  have hDn : H2 D = none := I2.hok.fresh (Nat.le_of_eq hD)
  obtain ⟨W, ⟨m0, w0⟩, turn⟩ := q D hDn
  generalize hs3 : ({ s2 with heap := s2.heap.push { cls := .type "list", data := .seq ([] : List Value).toArray } } : Shared) = s3
  have I3 : Inv X pins σ (L2.upd H2 D (.lst [])) s3 := by
    rw [← hs3]
    refine I2.laid (t' := s2.toks) (fun b o e => Heap.get?_push_of_some _ e) (Nat.le_of_eq hD) ⟨Nat.zero_le _, [], 0, .nil, ?_⟩
    rw [← hD]
    exact Heap.get?_push_size _ rfl
  have h3 : s3.heap = s2.heap.push { cls := .type "list", data := .seq ([] : List Value).toArray } := by rw [← hs3]
  have sz : ∀ b ∈ fp, b < s2.heap.objs.size := fun b hb => by
    obtain ⟨o, e, _⟩ := T.obj _ _ st2 b hb
    exact Heap.lt_size e
  have f3 : ∀ b ∈ fp, FpOk X pins (L2.upd H2 D (.lst [])) b ∧ b < s3.heap.objs.size := fun b hb => by
    have hlt := sz b hb
    refine ⟨⟨?_, (f2 b hb).2⟩, by rw [h3, Heap.size_push]; exact Nat.lt_succ_of_lt hlt⟩
    rw [L2.upd_ne (by rw [← hD]; exact Nat.ne_of_lt hlt)]
    exact (f2 b hb).1
  have st3 : tn 0 s3.heap := T.keep _ _ _ st2 fun b _ o e => by rw [h3]; exact Heap.get?_push_of_some _ e
  have I4 := block_start I3 ok hN f3
  have pg := hg s3 (L2.upd H2 D (.lst [])) s3.heap.objs.size (cellsFrom (s3.heap.objs.size + 1) scope.names (cloFrom X.env.cells scope.names [])) fp
  have pt := ht s3 (L2.upd H2 D (.lst [])) s3.heap.objs.size (cellsFrom (s3.heap.objs.size + 1) scope.names (cloFrom X.env.cells scope.names [])) fp
  have pe := he s3 (L2.upd H2 D (.lst [])) s3.heap.objs.size (cellsFrom (s3.heap.objs.size + 1) scope.names (cloFrom X.env.cells scope.names [])) fp
  show codeAny _ _ (.compStart (.ListComp elt [⟨tg, iter, ifs, 0⟩] scope pos) 0 (.ref it) (.ref D) (compEnvC scope (cellsFrom (s3.heap.objs.size + 1) scope.names (cloFrom X.env.cells scope.names [])) s3.heap.objs.size X.env))
    (compPost (model X.prog X.w) X.A X.xe (some (assign (.Name y py) X.env)) (fun _ s' => SP X pins D₀ .next s') (.ref D) s3.heap.objs.size) { s3 with heap := pushCells (s3.heap.push { cls := .type "dict", data := .dict #[] }) scope.names }
  have nfp : ∀ b ∈ fp, (L2.upd H2 D (.lst [])) b = none := fun b hb => (f3 b hb).1.1
  generalize hce : compEnvC scope (cellsFrom (s3.heap.objs.size + 1) scope.names (cloFrom X.env.cells scope.names [])) s3.heap.objs.size X.env = ce at I4 pg pt pe ⊢
  have cL : ce.locals = s3.heap.objs.size := by subst hce; rfl
  generalize hH3 : L2.upd H2 D (.lst []) = H3 at I3 I4 pg pt pe w0 nfp f3
  generalize hs4 : ({ s3 with heap := pushCells (s3.heap.push { cls := .type "dict", data := .dict #[] }) scope.names } : Shared) = s4 at I4 ⊢
  have st4 : tn 0 s4.heap := T.keep _ _ _ st3 fun b _ o e => by rw [← hs4]; exact pushCells_keeps _ _ _ _ (Heap.get?_push_of_some _ e)
  have stat : ∀ {σ' : L2.St} {H' : Hp} {s' : Shared}, Inv (X.blk s3 H3 scope ce fp) [] σ' H' s' → (∀ b ∈ fp, H' b = none) → ∀ b ∈ fp, FpOk (X.blk s3 H3 scope ce fp) [] H' b := fun {σ' H' s'} I' hn b hb =>
    ⟨hn b hb, (I'.ok.exf b hb).1, I'.ok.exfs b hb, .inl hb, fun x c e => (I'.ok.exf b hb).2 x c e, fun p hp => absurd (show p ∈ ([] : List (Addr × Obj)) ++ [] from hp) (by simp)⟩
  -- the handled exception, seen from the block
  have P3 := I3.pin pp (List.mem_append_left _ hpn)
  have pnf : pp.1 ∉ fp := fun hm => (f3 _ hm).1.2.2.2.2.2 pp (List.mem_append_left _ hpn) rfl
  have pst : pp.1 ∉ frs X.stack := fun hm => (List.mem_cons.mp (I3.stkSub pp.1 hm)).elim P3.2.2.1 P3.2.2.2.1
  have bear : ∀ {σ' : L2.St} {H' : Hp} {s' : Shared} {pn' : List (Addr × Obj)}, Inv (X.blk s3 H3 scope ce fp) pn' σ' H' s' → Inv ((X.blk s3 H3 scope ce fp).tr [pp] (fun _ _ => False)) [] σ' H' s' := fun {σ' H' s' pn'} I' =>
    ⟨I'.ok.toTry _ _, I'.os, I'.bare, I'.base, I'.loc, I'.cell, I'.free, I'.freeC, fun p hp => by
      have e : p = pp := by simpa using hp
      rw [e]
      refine ⟨I'.base.keep _ _ P3.1 P3.2.1 pst pnf, I'.base.free _ _ P3.1 P3.2.1 pnf, fun z => ?_, pst, P3.2.2.2.2⟩
      have z : pp.1 = ce.locals := z
      rw [cL] at z
      exact absurd (Heap.lt_size P3.1) (by rw [z]; exact Nat.lt_irrefl _), I'.hok, I'.len⟩
  have bare : ∀ {σ' : L2.St} {H' : Hp} {s' : Shared}, (X.blk s3 H3 scope ce fp).Ok → Inv ((X.blk s3 H3 scope ce fp).tr [pp] (fun _ _ => False)) [] σ' H' s' → Inv (X.blk s3 H3 scope ce fp) [] σ' H' s' := fun {σ' H' s'} okb I' =>
    ⟨okb, I'.os, I'.bare, I'.base, I'.loc, I'.cell, I'.free, I'.freeC, fun p hp => absurd (show p ∈ ([] : List (Addr × Obj)) ++ [] from hp) (by simp), I'.hok, I'.len⟩
  have hotB : HotC ((X.blk s3 H3 scope ce fp).tr [pp] (fun _ _ => False)) := ⟨pp, hpp, List.mem_cons_self⟩
  have statT : ∀ {H' : Hp}, (∀ b ∈ fp, FpOk (X.blk s3 H3 scope ce fp) [] H' b) → ∀ b ∈ fp, FpOk ((X.blk s3 H3 scope ce fp).tr [pp] (fun _ _ => False)) [] H' b := fun {H'} z b hb => by
    obtain ⟨a1, a2, a3, a4, a5, a6⟩ := z b hb
    refine ⟨a1, a2, a3, a4, a5, fun p hp => ?_⟩
    have e : p = pp := by simpa using hp
    rw [e]
    exact fun z => pnf (by rw [z]; exact hb)
  have okb : (X.blk s3 H3 scope ce fp).Ok := I4.ok
  have loop : codeAny (model X.prog X.w) X.A (.compLoop (.ListComp elt [⟨tg, iter, ifs, 0⟩] scope pos) 0 (.ref it) (.ref D) ce) (compPost (model X.prog X.w) X.A X.xe (some (assign (.Name y py) X.env)) (fun _ s' => SP X pins D₀ .next s') (.ref D) s3.heap.objs.size) s4 := by
    refine compLoop_any (fun n s' => ∃ i H', Inv (X.blk s3 H3 scope ce fp) [] (wipe σ (own.map (·.2))) H' s' ∧ tn i s'.heap ∧ (∀ b ∈ fp, H' b = none) ∧ W i n H') ?_ m0 ⟨0, H3, I4, st4, nfp, w0⟩
    rintro n s5 ⟨i, H5, I5, st5, n5, w5⟩
    rcases turn i n H5 w5 with ⟨stop, qq⟩ | ⟨go, Nx, hNx, step⟩
    · have td := T.done ((X.blk s3 H3 scope ce fp).tr [pp] (fun _ _ => False)) rfl rfl rfl hotB i [] s5 _ H5 (fun _ _ => False) (bear I5) (statT (stat I5 n5)) st5 stop
      refine thnF td fun r s6 ⟨hr, I6⟩ => ?_
      subst hr
      have I6 := bare okb I6
      have I7 : Inv X pins σ H5 s6 := I3.call' (ch := fp) I6.os I6.base I6.hok I6.bare fun b hb => ⟨(f3 b hb).1.2.2.2.1, (f3 b hb).1.2.1, (f3 b hb).1.2.2.2.2.1, (f3 b hb).1.2.2.2.2.2⟩
      have nC : H5 s3.heap.objs.size = none := by
        have z : H5 ce.locals = none := I6.free
        rw [cL] at z
        exact z
      obtain ⟨m, hn, _⟩ := I6.loc
      have hn : s6.heap.Ns ce.locals m := hn
      rw [cL] at hn
      exact hRR D s3.heap.objs.size s6 m H5 I7 qq hn (I3.fpOk (Nat.le_refl _) nC)
    · have ti := T.item ((X.blk s3 H3 scope ce fp).tr [pp] (fun _ _ => False)) rfl rfl rfl hotB i [] s5 _ H5 (fun _ _ => False) (bear I5) (statT (stat I5 n5)) st5 go
      refine thnF ti fun r s6 ⟨u, hr, h6⟩ => ?_
      subst hr
      refine thnF h6 fun _ s7 ⟨x, H7, I7, r7, y7, st7, n7⟩ => ?_
      have I7 := bare okb I7
      have I7' := I7.pinned (stat I7 n7) (T.obj _ _ st7)
      refine thnF (pg.run _ s7 _ H7 x u _ I7' r7 (step x H7 y7)) fun _ s8 ⟨σ8, H8, I8, hw8, q8⟩ => ?_
      refine thnF (pt.run _ s8 σ8 H8 _ I8 q8) fun b s9 ⟨H9, I9, q9⟩ => ?_
      have fin : ∀ {s' : Shared} {H' : Hp}, Inv (X.blk s3 H3 scope ce fp) ([] ++ pinsAt fp s7.heap) σ8 H' s' → Nx H' → ∃ m, m < n ∧ ∃ i H', Inv (X.blk s3 H3 scope ce fp) [] (wipe σ (own.map (·.2))) H' s' ∧ tn i s'.heap ∧ (∀ b ∈ fp, H' b = none) ∧ W i m H' := fun {s' H'} I' nx => by
        obtain ⟨m', hm, w'⟩ := hNx H' nx
        have pin' : ∀ b ∈ fp, ∀ o, s7.heap.get? b = some o → s'.heap.get? b = some o ∧ H' b = none := fun b hb o e =>
          let z := I'.pin (b, o) (List.mem_append_right _ (List.mem_append_right _ (mem_pinsAt hb e)))
          ⟨z.1, z.2.1⟩
        have hl : (wipe σ (own.map (·.2))).length = σ8.length := by rw [← hw8, wipe_length]
        refine ⟨m', hm, i + 1, H', (I'.unpinned (pins := [])).weak hl (fun j v e => ?_), T.keep _ _ _ st7 fun b hb o e => (pin' b hb o e).1, fun b hb => ?_, w'⟩
        · rw [← hw8] at e
          exact (wipe_some e).1
        · obtain ⟨o, e, _⟩ := T.obj _ _ st7 b hb
          exact (pin' b hb o e).2
      cases b with
      | false =>
        simp only [Bool.false_eq_true, if_false] at q9 ⊢
        exact fin I9 q9
      | true =>
        simp only [if_true] at q9 ⊢
        refine thnF (pe.run _ s9 σ8 H9 _ I9 q9) fun z s10 ⟨yv, H10, I10, r10, acc, hD10, hz10, nx⟩ => ?_
        exact app_ok (X := X.blk s3 H3 scope ce fp) I10 hD10 hz10 r10 fun s11 I11 => fin I11 nx
  exact codeAny_compStart_list loop (T.self X.A 0 _ _ _ st4 loop)
end
end K76

set_option Elab.async false
set_option linter.all false
set_option maxRecDepth 100000
set_option maxHeartbeats 2000000
/-! own exceptions with fields: made where none is handled; a def that gets the caught one -/
namespace K76
open PySem PySem.Spec PyProof.Rows L2 L2H HotX
/-! ### made -/
theorem pmkN_oex {X : Cx} {CX : CXT} {x : Str} {e : Expr} {es : List Expr} {ta : TA} {p pos : Pos} {C fI : Addr} {k : Nat} {fd : FuncData} {ps : List Str} {sp : Sp} {ds : List Value} {dvs : List V} (T : OexC X.K C) (iC : PySem.W.findIn X.K (.ref C) "__init__" = some (some (.ref fI)))
    (tI : PySem.W.typeIn X.K (.ref fI) = some (.type "function")) (F1 : FnOk X.prog X.w X.K X.mg X.base CX k fI fd ps sp) (hr : Room (k + 1) X.A) (hb : Binds X.K fd ps ds) (hd : Vals dvs ds) (hx : Passes CX X (fun _ _ _ => False)) (hg : Gl X x) (hm : X.mg x = some (.ref C)) (ha : PA X (e :: es) ta)
    (hdb : (x == ("__debug__" : Str)) = false := by decide) (he : starEach (e :: es) X.env = (false, eval e X.env) :: starEach es X.env := by rfl) (hpl : (backTo pos (starEach es X.env)).any (·.1) = false := by rfl) :
    L2N.PMk X (.Call (.Name x p) (e :: es) [] pos) (tMkO C sp dvs ta) := by
  intro pins s σ H Q I h
  obtain ⟨nm, q, N, bs, bm, sn, sub, ab, col, dd, k0, k1, k2, k3, k5, hC, hbm⟩ := T.cls
  refine wpAny_Call_Name_kw (ld_glob I hg hm ?_ hdb)
  refine PySem.W.callWith_K (h₀ := X.base) I.ok.mod.kin T.kC (thn (ha.run pos pins s σ H _ I h) fun us s1 ⟨vs, H1, I1, r1, hz, q1⟩ => ⟨I1.kIn, ?_⟩) he hpl
  show wpAny _ _ (call (.ref C) us) _ _ _
  obtain ⟨hp, g, dr, tk, os⟩ := s1
  have hsz : hp.objs.size ≤ hp.objs.size + 1 := Nat.le_succ _
  have hn : H1 (hp.objs.size + 1) = none := I1.hok.fresh hsz
  have hq := q1 (hp.objs.size + 1) hn
  have kk : ∀ b o, hp.get? b = some o → ((hp.push (PySem.W.kdv_tup us)).push (PySem.HandSPX.excO C hp.objs.size)).get? b = some o := fun b o e => Heap.get?_push_of_some _ (Heap.get?_push_of_some _ e)
  have hget : ((hp.push (PySem.W.kdv_tup us)).push (PySem.HandSPX.excO C hp.objs.size)).get? (hp.objs.size + 1) = some (PySem.HandSPX.excO C hp.objs.size) := by heap_get
  have I2 : Inv X pins σ (L2.upd H1 (hp.objs.size + 1) (exo (hp.objs.size + 1) C none)) ⟨(hp.push (PySem.W.kdv_tup us)).push (PySem.HandSPX.excO C hp.objs.size), g, dr, tk, os⟩ :=
    I1.laid (t' := tk) (a := hp.objs.size + 1) (o := exo (hp.objs.size + 1) C none) (h' := (hp.push (PySem.W.kdv_tup us)).push (PySem.HandSPX.excO C hp.objs.size)) kk hsz (exo_ok hget)
  have r2 : Vals (V.ref (hp.objs.size + 1) :: (vs ++ dvs)) (Value.ref (hp.objs.size + 1) :: (us ++ ds)) := .cons rfl (r1.append hd)
  have hl : (Value.ref (hp.objs.size + 1) :: us ++ ds).length = ps.length := by
    have e := r2.length
    rw [F1.len _ _ _ _ hq] at e
    exact e.symm
  have hus : us.length ≤ sizeLine := by
    rw [← Paired.length r1, sizeLine_eq]
    omega
  refine wpAny_call (PySem.HandSPX.call_own F.excBase_ValueError (fun Y => PySem.HandSPX.refsVE_contains Y bm hbm) (I1.kIn _ _ hC) (PySem.W.looks_findIn I1.kIn iC) (fun self => PySem.W.bind_fn I1.kIn self tI) hus
    (codeAny_mono (F1.run _ X.stack _ _ ⟨Value.ref (hp.objs.size + 1) :: us, []⟩ (Value.ref (hp.objs.size + 1) :: (us ++ ds)) _ _ (fun _ _ _ => False) (hr.make C us []) (I2.env0.make C us []) (hb _ (Value.ref (hp.objs.size + 1) :: us) I2.kIn hl) r2 hq) fun r s' hq' => ?_))
  cases r with
  | error er => exact hx pins σ _ _ er s' I2 hq'
  | ok fl =>
    cases fl with
    | ret u =>
      obtain ⟨v, H2, os2, bare2, un2, hok2, rv, ev, d, fs, ea, ed, hd1, q2⟩ := hq'
      subst ev
      obtain ⟨h2, g2, d2, t2, os'⟩ := s'
      refine ⟨rv, ?_⟩
      obtain ⟨t0, G, J, kG, ge, hoe, na⟩ := mk_end0 (d2 := d2) (t2 := t2) I1 hsz kk un2 hok2 os2 bare2 ea ed hd1
      exact ⟨_, _, _, ⟨G, g2, d2, t2, os'⟩, _, .ref C, some d, rfl, J, kG, ge, hoe, ⟨rfl, rfl, fun vs e => by cases e; rfl⟩, rfl, rfl, na, rfl, bare2, raises_own T.exC T.tyC, q2⟩
    | next => exact False.elim hq'
    | brk => exact False.elim hq'
    | cont => exact False.elim hq'
/-! ### isinstance of a caught error with a dict -/
section
variable {prog : Program} {w : World} {A : Around} {E : Value → Shared → Prop} {s : Shared} {K : PySem.W.Frag} {x D : Addr} {ox od : Obj}
theorem class_exc {Q : Option Value → Shared → Prop} (T : ExcC K D) (X : K.In s.heap) (I : PySem.W.InstAt s.heap x ox D (some od)) (h : Q (some (.ref D)) { s with toks := s.toks + 1 }) : wpAny (model prog w) A (getAttr? (.ref x) "__class__") Q E s := by
  have hf : PySem.W.findObj K D (some od) "__class__" = some (.bind (.builtin "getset_descriptor.__get__") (.builtin "object.__class__")) := PySem.W.findObj_data (by obtain ⟨cd, hc, _⟩ := PySem.W.any_some T.hd; rw [hc]; rfl) T.ha T.hn T.ht
  obtain ⟨hp, g, d, t, os⟩ := s
  have L0 := I.type (M := model prog w)
  have L1 := PySem.W.looks_findIn (M := model prog w) X T.hg
  have L2 := PySem.W.looks_findIn (M := model prog w) X T.hk
  have L3 := PySem.W.looks_find (M := model prog w) X I hf
  have sub : PySem.W.Looks (model prog w) hp (isInstance (.ref x) (.type "BaseException")) true := L0.andThen (PySem.W.looks_subIn X T.hs)
  have hx0 : (false && onTheHeap (Value.builtin "BaseException.__getattribute__")) = false := rfl
  have hx2 : (Value.builtin "BaseException.__getattribute__" == Value.builtin "object.__getattribute__") = false := by decide +kernel
  have hx1 : (onTheHeap (Value.ref D) && Value.builtin "BaseException.__getattribute__" == Value.builtin "object.__getattribute__") = false := by rw [hx2]; rfl
  unfold getAttr? getAttrBy? getAttrBy
  refine wpAny_bind (wpAny_mkText (wpAny_bind (wpAny_attempt (wpAny_holding (wpAny_bind (L0.at (wpAny_bind (L1.at ?_))))))))
  show wpAny _ _ (if (onTheHeap (Value.ref D) && Value.builtin "BaseException.__getattribute__" == Value.builtin "object.__getattribute__") = true then _ else _) _ _ _
  rw [hx1, if_neg Bool.false_ne_true]
  unfold getAttrByItsOwn hookBefore
  refine wpAny_bind ?_
  rw [if_pos (show onTheHeap (Value.ref D) = true from rfl)]
  refine L2.at ?_
  refine wpAny_bind (wpAny_attempt (wpAny_holding ?_))
  unfold callGetattribute
  rw [hx0, if_neg Bool.false_ne_true]
  unfold boundAndCalled
  rw [PySem.F.excAttr_ValueError.ga.bind (.ref x)]
  refine wpAny_bind (wpAny_pure ?_)
  show wpAny _ _ (call (.builtin "BaseException.__getattribute__") [.ref x, .str "__class__" t]) _ _ _
  refine wpAny_call (codeAny_call_builtin PySem.F.excAttr_ValueError.ga.plain PySem.F.entry_bexc_ga ?_)
  refine @PySem.W.check_slot (model prog w) _ _ ⟨hp, g, d, t + 1, os⟩ "BaseException.__getattribute__" "BaseException" "__getattribute__" (.ref x) [.str "__class__" t] [] _ (by decide +kernel) (by decide +kernel) sub (PySem.F.args_bexc_ga (.ref x) (.str "__class__" t)) ?_
  unfold Builtin.«object.__getattribute__»
  refine wpAny_bind (wpAny_of_eq (a := ((Value.ref x : Value), [Value.str "__class__" t])) (by first | rfl | (simp only [slotArgs]; rfl)) ?_)
  refine wpAny_bind (wpAny_pure (wpAny_bind (L0.at (wpAny_bind (L3.at ?_)))))
  show wpAny _ _ (holding [Value.builtin "object.__class__"] (call (.builtin "getset_descriptor.__get__") [.builtin "object.__class__", .ref x, .ref D]) >>= ret) _ _ _
  refine wpAny_bind (wpAny_holding (wpAny_call (PySem.W.class_get (s := ⟨hp, g, d, t + 1, os⟩) (ox := ox) (od := some od) X I T.hm ?_)))
  refine wpAny_pure ?_
  show wpAny _ _ (handedOut (.ref D)) _ _ _
  rw [PySem.W.handedOut_of (v := .ref D) rfl]
  first
    | exact wpAny_pure (wpAny_pure h)
    | exact wpAny_pure h
    | exact wpAny_pure (wpAny_bind (wpAny_pure (wpAny_pure h)))
theorem kitx_excD (T : ExcC K D) : PySem.W.KitX K (.ref x) (.ref D) (fun h => ∃ ox od, PySem.W.InstAt h x ox D (some od)) where
  ty := fun _ _ _ ⟨_, _, I⟩ => I.type
  it := fun _ _ X _ => by
    obtain ⟨cdD, hcD, _⟩ := PySem.W.any_some T.hd
    unfold PySem.W.clsIn at hcD
    split at hcD
    · rename_i c' d' cd' sl' ho
      intro A' Q' E' s' k q
      unfold isType loadHead
      exact wpAny_bind (wpAny_loadPart (k _ _ (X _ _ ho)) (wpAny_pure q))
    · cases hcD
  ne := fun h tp dd its n sl X htp => by
    obtain ⟨cdD, hcD, _⟩ := PySem.W.any_some T.hd
    refine Bool.eq_false_iff.mpr fun q => ?_
    have e : D = tp := Value.ref.inj (beq_iff_eq.mp q)
    subst e
    unfold PySem.W.clsIn at hcD
    split at hcD
    · rename_i c' d' cd' sl' ho
      have z := (X _ _ ho).symm.trans htp
      cases z
    · cases hcD
  ca := fun X ⟨_, _, I⟩ k => class_exc T X I k
end
/-- the caught exception of class D with the dict at dd, in a context that bears it -/
theorem exc_inst {X : Cx} {pins : List (Addr × Obj)} {σ : L2.St} {H : Hp} {s : Shared} {a D dd : Addr} {oe : Obj} {fs : List (Str × V)} (I : Inv X pins σ H s) (hp : (a, oe) ∈ X.pn) (hz : Zc (.ref D) (some dd) oe) (hf : ∃ vs, oe.data = .fields vs) (hd : H dd = some (.xd fs)) :
    ∃ od mA, PySem.W.InstAt s.heap a oe D (some od) ∧ s.heap.Ns1 dd mA ∧ (∀ f, RelO (fs.lookup f) (mA f)) ∧ ∀ n, PySem.W.lookIn n od = some (mA n) := by
  obtain ⟨hget, _⟩ := I.pin (a, oe) (List.mem_append_left _ hp)
  obtain ⟨vs, hv⟩ := hf
  have hx : ObjOk X.prog X.w H s.heap dd (.xd fs) := I.hok dd _ hd
  obtain ⟨mA, hns, hr⟩ := hx
  obtain ⟨od, ho, hl⟩ := lookIn_ns hns
  exact ⟨od, mA, ⟨hget, hz.1, by unfold PySem.W.notCls; rw [hv] <;> rfl, by rw [hz.2]; exact ho⟩, hns, hr, hl⟩
/-- isinstance(e, c), e the caught exception -/
def rIsP (K : PySem.W.Frag) (D a dd : Addr) : List V → Hp → VK → Prop := fun xs H Q => ∃ (c : V) (cv : Value) (b : Bool) (fs : List (Str × V)), xs = [.ref a, c] ∧ ClsV c cv ∧ H dd = some (.xd fs) ∧ PySem.W.kitOne K (.ref D) cv = some b ∧ Q (.bl b) H
theorem call_isP {X : Cx} {a D dd : Addr} {oe : Obj} (hp : (a, oe) ∈ X.pn) (C : ExcC X.K D) (hz : Zc (.ref D) (some dd) oe) (hf : ∃ vs, oe.data = .fields vs) : CallR X (.builtin "isinstance") (rIsP X.K D a dd) := by
  intro pins s σ H xs us Q I r h
  obtain ⟨c, cv, b, fs, rfl, hcv, hd, e, q⟩ := h
  obtain ⟨od, mA, J, _⟩ := exc_inst I hp hz hf hd
  cases r with
  | cons rx rr =>
    cases rr with
    | cons rt rr =>
      cases rr
      cases rx
      obtain rfl := hcv.eq rt
      exact PySem.W.kia_one (kitx_excD C) I.kIn ⟨_, _, J⟩ e (fun z => nomatch z) fun tk => ⟨.bl b, H, I.kept (t' := tk) fun _ _ z => z, rfl, q⟩
/-- e.n, e the caught exception -/
def tXp (a dd : Addr) (n : Str) (te : TE) : TE := fun σ H Q => te σ H fun x H1 => x = .ref a ∧ ∃ (fs : List (Str × V)) (v : V), H1 dd = some (.xd fs) ∧ fs.lookup n = some v ∧ Q v H1
theorem pe_xp {X : Cx} {a C dd : Addr} {oe : Obj} {e : Expr} {te : TE} {pos : Pos} {n : Str} (hp : (a, oe) ∈ X.pn) (T : XfC X.K C) (hno : PySem.W.findIn X.K (.ref C) n = some none) (hz : Zc (.ref C) (some dd) oe) (hf : ∃ vs, oe.data = .fields vs) (he : PE X e te)
    (hb : attributeBase e n X.env (eval e X.env) = eval e X.env := by rfl) : PE X (.Attribute e n pos) (tXp a dd n te) := by
  refine ⟨fun pins s σ H Q I h => ?_⟩
  refine attr_of hb (thn (he.run pins s σ H _ I h) fun u s1 hh => ?_)
  obtain ⟨x, H1, I1, rx, ex, fs, v, ea, l, q⟩ := hh
  subst ex
  obtain rfl : u = Value.ref a := rx
  obtain ⟨od, mA, J, _, hr, hl⟩ := exc_inst I1 hp hz hf ea
  obtain ⟨u, hu, ru⟩ := RelO.some_of (v := v) (o := mA n) (by rw [← l]; exact hr n)
  exact HandSPX.exc_get I1.kIn J T.ga T.gg T.exC (PySem.W.findObj_own T.hdC hno rfl (by rw [hl, hu])) (handed_of ru) ⟨v, H1, I1.tok _, ru, q⟩
/-! ### a def that gets the caught exception -/
structure FnE (P : Program) (w : World) (K : PySem.W.Frag) (mg : Str → Option Value) (base : Heap) (k : Nat) (f : Addr) (fd : FuncData) (ps : List Str) (sp : Addr × Obj → List V → Hp → VK → Prop) : Prop where
  len : ∀ p vs H Q, sp p vs H Q → vs.length = ps.length
  run : ∀ (A : Around) (outer : List Env) (s : Shared) (H : Hp) (args : Args) (us : List Value) (vs : List V) (Q : VK) (p : Addr × Obj), RoomH k A → Hot1 A p → PinOk outer H s p → Env0 P w K mg base A outer s H → BindsTo s fd args (ps.zip us) → Vals vs us → sp p vs H Q →
    codeAny (model P w) A (.call (.ref f) args) (CR L2.CX0 outer P w H s Q E0) s
theorem fn_ofE {P : Program} {w : World} {K : PySem.W.Frag} {mg : Str → Option Value} {base : Heap} {k : Nat} {x qual : Str} {st : Stmt} {f : Addr} {fd : FuncData} {N ps : List Str} {sp : Addr × Obj → List V → Hp → VK → Prop} (Ff : L2.Fun K x qual st f fd) (S : FnScope N ps (defScope st))
    (len : ∀ p vs H Q, sp p vs H Q → vs.length = ps.length)
    (hbody : ∀ (cdv : Value) (A : Around) (outer : List Env) (s : Shared) (H : Hp) (vs : List V) (Q : VK) (p : Addr × Obj), Hot1 A p → RoomH k (A.deeper (envOfC qual (defScope st) s.heap.objs.size f cdv)) → sp p vs H Q →
      ∃ t, PSs (cxH L2.CX0 P w K mg base N qual (defScope st) f cdv A outer s H E0 p).nox (defBody st) t ∧ t { nx := fun _ H' => Q .non H', rt := Q } (L2.start N vs) H) : FnE P w K mg base (k + 1) f fd ps sp := by
  obtain ⟨oc, od, kV, doc, pm, an, cdv, ct, osl, rfl, lk, hcd⟩ := Ff.ex
  refine ⟨len, fun A outer s H args us vs Q p hr hot hpin e0 hb r hsp => ?_⟩
  have hl := len _ _ _ _ hsp
  have KX : K.In s.heap := e0.mod.kin.keeps fun b o e => (e0.bs b o e).1
  have lim : s.heap.NoLimit := e0.mod.nolimit.keeps fun b o e => (e0.bs b o e).1
  have hkind : ∀ y ∈ ps.zip us, (defScope st).names.lookup y.1 = some .local ∨ ((defScope st).names.lookup y.1 = some .cell ∧ ((cellsFrom (s.heap.objs.size + 1) (defScope st).names []).lookup y.1).isSome = true) := fun ⟨n, v⟩ hy => by
    rcases S.par n (List.of_mem_zip hy).1 with q | q
    · exact .inl q
    · exact .inr ⟨q, PySem.W.cellsFrom_some _ _ _ (.inl q)⟩
  refine codeAny_call_function hr.depth (KX _ _ lk) rfl S.co S.gen rfl (PySem.W.codeRec_of KX hcd) (hb _ _ _ _ ?_)
  refine wpAny_newFunctionEnv_cells S.kind hkind fun env he s1 x => ?_
  subst he
  refine ⟨lim.keeps x.toInCall.keep, codeAny_func ?_⟩
  obtain ⟨t, ht, hq⟩ := hbody cdv A outer s H vs Q p hot (hr.deeper _) hsp
  have I : Inv (cxH L2.CX0 P w K mg base N qual (defScope st) f cdv A outer s H E0 p) [] (L2.start N vs) H s1 := inv_startH S hpin e0 hl r x
  refine wpAny_mono (ht.nox.run [] s1 (L2.start N vs) H _ I hq) (fun fl s' hs => ?_) fun e s' hs => hs
  have fin : ∀ {σ' : L2.St} {H' : Hp} {v : V} {u : Value}, Inv (cxH L2.CX0 P w K mg base N qual (defScope st) f cdv A outer s H E0 p) [] σ' H' s' → L2.RelV v u → Q v H' → CE outer P w H s Q u s' :=
    fun {σ' H' v u} J rv q => ⟨v, H', J.os, J.bare, J.base, J.hok, rv, q⟩
  cases fl with
  | ret u =>
    obtain ⟨v, σ', H', J, rv, q⟩ := hs
    exact fin J rv q
  | next =>
    obtain ⟨σ', H', J, q⟩ := hs
    exact fin (v := V.non) (u := Value.none) J rfl q
  | brk =>
    obtain ⟨_, _, _, q⟩ := hs
    exact False.elim q
  | cont =>
    obtain ⟨_, _, _, q⟩ := hs
    exact False.elim q
/-- f(e, ..) in the suite that holds p -/
def tCallE (sp : Addr × Obj → List V → Hp → VK → Prop) (p : Addr × Obj) (t : TA) : TE := fun σ H Q => t σ H fun vs H1 => sp p vs H1 Q
theorem pe_callE {X : Cx} {k : Nat} {f : Addr} {fd : FuncData} {ps : List Str} {sp : Addr × Obj → List V → Hp → VK → Prop} {x : Str} {q pos : Pos} {e : Expr} {es : List Expr} {t : TA} {p : Addr × Obj} (F : FnE X.prog X.w X.K X.mg X.base k f fd ps sp) (hr : RoomH k X.A) (hot : Hot1 X.A p) (hp : p ∈ X.pn) (hg : Gl X x)
    (hm : X.mg x = some (.ref f)) (hk : PySem.W.keepIn X.K (.ref f) = true) (hb : Binds X.K fd ps []) (ha : PA X (e :: es) t) (hdb : (x == ("__debug__" : Str)) = false := by decide)
    (he : starEach (e :: es) X.env = (false, eval e X.env) :: starEach es X.env := by rfl) (hpl : (backTo pos (starEach es X.env)).any (·.1) = false := by rfl) : PE X (.Call (.Name x q) (e :: es) [] pos) (tCallE sp p t) := by
  refine ⟨fun pins s σ H Q I h => ?_⟩
  refine wpAny_Call_Name_kw (ld_glob I hg hm ?_ hdb)
  refine PySem.W.callWith_K (h₀ := X.base) I.ok.mod.kin hk (thn (ha.run pos pins s σ H _ I h) fun us s1 ⟨vs, H1, I1, r, q⟩ => ⟨I1.kIn, ?_⟩) he hpl
  have hl : us.length = ps.length := by rw [← r.length]; exact F.len _ _ _ _ q
  have b := hb s1 us I1.kIn (by rw [List.append_nil]; exact hl)
  rw [List.append_nil] at b
  have P1 := I1.pin p (List.mem_append_left _ hp)
  have hpin : PinOk X.stack H1 s1 p := ⟨P1.1, P1.2.1, fun hm => (List.mem_cons.mp (I1.stkSub p.1 hm)).elim P1.2.2.1 P1.2.2.2.1, P1.2.2.2.2⟩
  refine wpAny_call (codeAny_mono (F.run X.A X.stack s1 H1 ⟨us, []⟩ us vs Q p hr hot hpin I1.env0 b r q) fun r s' hq => ?_)
  cases r with
  | error e => exact hq.elim
  | ok fl =>
    cases fl with
    | ret u => exact I1.after hq
    | next => exact False.elim hq
    | brk => exact False.elim hq
    | cont => exact False.elim hq
end K76

set_option Elab.async false
set_option linter.all false
set_option maxRecDepth 100000
namespace K76
open PySem PySem.Spec PyProof.Rows L2
section
variable {prog : Program} {w : World} {A : Around} {E : Value → Shared → Prop} {s : Shared} {b C dx : Addr}
theorem dec_int_eq {i : Int} {t : Tok} {Q : Fin → Shared → Prop} (hb : s.heap.get? b = some (PySem.W.instObj C dx)) (h : Q (.done (.ret .notImplemented)) s) : wpAny (model prog w) A (Builtin.«int.__eq__» ⟨[.int i t, .ref b], []⟩) Q E s := by
  obtain ⟨hp, g, d, tk, os⟩ := s
  wp_walk using wpAny_load hb
  exact h
theorem dec_int_ne {i : Int} {t : Tok} {Q : Fin → Shared → Prop} (hb : s.heap.get? b = some (PySem.W.instObj C dx)) (h : Q (.done (.ret .notImplemented)) s) : wpAny (model prog w) A (Builtin.«int.__ne__» ⟨[.int i t, .ref b], []⟩) Q E s := by
  obtain ⟨hp, g, d, tk, os⟩ := s
  wp_walk using wpAny_load hb
  exact h
theorem dec_bool_eq {i : Bool} {Q : Fin → Shared → Prop} (hb : s.heap.get? b = some (PySem.W.instObj C dx)) (h : Q (.done (.ret .notImplemented)) s) : wpAny (model prog w) A (Builtin.«int.__eq__» ⟨[.bool i, .ref b], []⟩) Q E s := by
  obtain ⟨hp, g, d, tk, os⟩ := s
  wp_walk using wpAny_load hb
  exact h
theorem dec_bool_ne {i : Bool} {Q : Fin → Shared → Prop} (hb : s.heap.get? b = some (PySem.W.instObj C dx)) (h : Q (.done (.ret .notImplemented)) s) : wpAny (model prog w) A (Builtin.«int.__ne__» ⟨[.bool i, .ref b], []⟩) Q E s := by
  obtain ⟨hp, g, d, tk, os⟩ := s
  wp_walk using wpAny_load hb
  exact h
theorem dec_str_eq {i : Str} {t : Tok} {Q : Fin → Shared → Prop} (hb : s.heap.get? b = some (PySem.W.instObj C dx)) (h : Q (.done (.ret .notImplemented)) s) : wpAny (model prog w) A (Builtin.«str.__eq__» ⟨[.str i t, .ref b], []⟩) Q E s := by
  obtain ⟨hp, g, d, tk, os⟩ := s
  wp_walk using wpAny_load hb
  exact h
theorem dec_str_ne {i : Str} {t : Tok} {Q : Fin → Shared → Prop} (hb : s.heap.get? b = some (PySem.W.instObj C dx)) (h : Q (.done (.ret .notImplemented)) s) : wpAny (model prog w) A (Builtin.«str.__ne__» ⟨[.str i t, .ref b], []⟩) Q E s := by
  obtain ⟨hp, g, d, tk, os⟩ := s
  wp_walk using wpAny_load hb
  exact h
theorem dec_list_eq {l : Addr} {Q : Fin → Shared → Prop} (h1 : PySem.W.Looks (model prog w) s.heap (isInstance (.ref b) (.type "list")) false) (h : Q (.done (.ret .notImplemented)) s) : wpAny (model prog w) A (Builtin.«list.__eq__» ⟨[.ref l, .ref b], []⟩) Q E s := by
  obtain ⟨hp, g, d, tk, os⟩ := s
  wp_walk using h1.at
  exact h
theorem dec_list_ne {l : Addr} {Q : Fin → Shared → Prop} (h1 : PySem.W.Looks (model prog w) s.heap (isInstance (.ref b) (.type "list")) false) (h : Q (.done (.ret .notImplemented)) s) : wpAny (model prog w) A (Builtin.«list.__ne__» ⟨[.ref l, .ref b], []⟩) Q E s := by
  obtain ⟨hp, g, d, tk, os⟩ := s
  wp_walk using h1.at
  exact h
theorem dec_tuple_eq {l : Addr} {Q : Fin → Shared → Prop} (h1 : PySem.W.Looks (model prog w) s.heap (isInstance (.ref b) (.type "tuple")) false) (h : Q (.done (.ret .notImplemented)) s) : wpAny (model prog w) A (Builtin.«tuple.__eq__» ⟨[.ref l, .ref b], []⟩) Q E s := by
  obtain ⟨hp, g, d, tk, os⟩ := s
  wp_walk using h1.at
  exact h
theorem dec_tuple_ne {l : Addr} {Q : Fin → Shared → Prop} (h1 : PySem.W.Looks (model prog w) s.heap (isInstance (.ref b) (.type "tuple")) false) (h : Q (.done (.ret .notImplemented)) s) : wpAny (model prog w) A (Builtin.«tuple.__ne__» ⟨[.ref l, .ref b], []⟩) Q E s := by
  obtain ⟨hp, g, d, tk, os⟩ := s
  wp_walk using h1.at
  exact h
/-- a built-in type's == (!=) of a value with an instance says nothing -/
theorem dec_call {T id : String} {name : Str} {B : Builtin} {a : Value} {Q : Value → Shared → Prop} (slot : Slot T name id) (hT : s.TypeIs a T) (entry : entryFor table id = some B) (args : argsOk id ⟨[a, .ref b], []⟩)
    (hB : ∀ (A : Around) (E : Value → Shared → Prop) (P : Fin → Shared → Prop), P (.done (.ret .notImplemented)) s → wpAny (model prog w) A (B ⟨[a, .ref b], []⟩) P E s) (h : Q .notImplemented s) : wpAny (model prog w) A (call (.builtin id) [a, .ref b]) Q E s :=
  GQ.call_here slot hT entry args (hB _ _ _ h)
end
/-- what the left side may be -/
inductive LowV (H : Hp) : V → Prop where
  | non : LowV H .non
  | bl (x : Bool) : LowV H (.bl x)
  | int (i : Int) : LowV H (.int i)
  | str (x : Str) : LowV H (.str x)
  | lst {a : Addr} {xs : List V} (e : H a = some (.lst xs)) : LowV H (.ref a)
  | tup {a : Addr} {xs : List V} (e : H a = some (.tup xs)) : LowV H (.ref a)
/-- the class at C is no class of these -/
structure NoSub (K : PySem.W.Frag) (C : Addr) : Prop where
  n : PySem.W.subIn K (.ref C) (.type "NoneType") = some false
  b : PySem.W.subIn K (.ref C) (.type "bool") = some false
  i : PySem.W.subIn K (.ref C) (.type "int") = some false
  s : PySem.W.subIn K (.ref C) (.type "str") = some false
  l : PySem.W.subIn K (.ref C) (.type "list") = some false
  t : PySem.W.subIn K (.ref C) (.type "tuple") = some false
section
variable {prog : Program} {w : World} {A : Around} {E : Value → Shared → Prop} {s : Shared} {K : PySem.W.Frag} {b C f : Addr} {ox : Obj} {od : Option Obj} {T id : String} {a : Value}
/-- a built-in value == (!=) an instance: the instance's own def is asked -/
theorem rc_eqR {Q : Value → Shared → Prop} (hu : A.units < cLine) (X : K.In s.heap) (I : PySem.W.InstAt s.heap b ox C od) (hT : s.TypeIs a T) (hsub : PySem.W.subIn K (.ref C) (.type T) = some false) (hs : PySem.W.findIn K (.ref C) "__eq__" = some (some (.ref f))) (hf : PySem.W.isFn K (.ref f) = true)
    (slot : Slot T (cmpInfo .Eq).2.1 id) (hd : ∀ Q' : Value → Shared → Prop, Q' .notImplemented s → wpAny (model prog w) A (call (.builtin id) [a, .ref b]) Q' E s) (h : wpAny (model prog w) A (call (.ref f) [.ref b, a]) (PySem.W.CmpBack Q) E s) :
    wpAny (model prog w) A (richCompare .Eq a (.ref b)) Q E s := by
  have two : wpAny (model prog w) A (tryCompare (.ref b) "__eq__" a) (fun r s' => ∃ v, r = some v ∧ Q v s') E s := by
    unfold tryCompare
    refine wpAny_bind (PySem.W.ifBound_K X I hs hf (wpAny_mono h (fun v s' hv => ?_) fun _ _ e => e))
    cases v <;> first | exact hv.elim | exact wpAny_pure ⟨_, rfl, hv⟩
  simp only [richCompare, cmpInfo_Eq, hT.oneThing_none]
  refine wpAny_holding (wpAny_bind (wpAny_cRoomFor hu ?_))
  refine wpAny_bind (wpAny_typeOf hT ?_)
  refine wpAny_bind (I.type.here ?_)
  split
  · refine wpAny_bind ((PySem.W.looks_subIn X hsub).here ?_)
    simp only [Bool.false_eq_true, if_false, Bool.not_false, if_true]
    refine wpAny_bind (m := tryCompare a _ (.ref b)) (wpAny_tryCompare_declines hT slot (hd _ ⟨rfl, ?_⟩))
    refine wpAny_bind (m := tryCompare (.ref b) _ a) (wpAny_mono two (fun r s1 z => ?_) fun _ _ e => e)
    obtain ⟨v, rfl, q⟩ := z
    exact wpAny_pure q
  · rename_i q
    exact absurd (by simp) q
theorem rc_neR {Q : Value → Shared → Prop} (hu : A.units < cLine) (X : K.In s.heap) (I : PySem.W.InstAt s.heap b ox C od) (hT : s.TypeIs a T) (hsub : PySem.W.subIn K (.ref C) (.type T) = some false) (hs : PySem.W.findIn K (.ref C) "__ne__" = some (some (.ref f))) (hf : PySem.W.isFn K (.ref f) = true)
    (slot : Slot T (cmpInfo .NotEq).2.1 id) (hd : ∀ Q' : Value → Shared → Prop, Q' .notImplemented s → wpAny (model prog w) A (call (.builtin id) [a, .ref b]) Q' E s) (h : wpAny (model prog w) A (call (.ref f) [.ref b, a]) (PySem.W.CmpBack Q) E s) :
    wpAny (model prog w) A (richCompare .NotEq a (.ref b)) Q E s := by
  have two : wpAny (model prog w) A (tryCompare (.ref b) "__ne__" a) (fun r s' => ∃ v, r = some v ∧ Q v s') E s := by
    unfold tryCompare
    refine wpAny_bind (PySem.W.ifBound_K X I hs hf (wpAny_mono h (fun v s' hv => ?_) fun _ _ e => e))
    cases v <;> first | exact hv.elim | exact wpAny_pure ⟨_, rfl, hv⟩
  simp only [richCompare, cmpInfo_NotEq, hT.oneThing_none]
  refine wpAny_holding (wpAny_bind (wpAny_cRoomFor hu ?_))
  refine wpAny_bind (wpAny_typeOf hT ?_)
  refine wpAny_bind (I.type.here ?_)
  split
  · refine wpAny_bind ((PySem.W.looks_subIn X hsub).here ?_)
    simp only [Bool.false_eq_true, if_false, Bool.not_false, if_true]
    refine wpAny_bind (m := tryCompare a _ (.ref b)) (wpAny_tryCompare_declines hT slot (hd _ ⟨rfl, ?_⟩))
    refine wpAny_bind (m := tryCompare (.ref b) _ a) (wpAny_mono two (fun r s1 z => ?_) fun _ _ e => e)
    obtain ⟨v, rfl, q⟩ := z
    exact wpAny_pure q
  · rename_i q
    exact absurd (by simp) q
end
section
variable {prog : Program} {w : World} {A : Around} {E : Value → Shared → Prop} {s : Shared} {K : PySem.W.Frag} {x y C f : Addr} {h₀ : Heap} {ox oy : Obj} {od oe : Option Obj}
/-- x op y, two instances of the class at C with an own def for op, none for the reflected one -/
theorem bin_own {op : Operator} {Q : Value → Shared → Prop} (X : K.In s.heap) (I : PySem.W.InstAt s.heap x ox C od) (J : PySem.W.InstAt s.heap y oy C oe) (hc : PySem.W.selfFirst K C = true)
    (hs : PySem.W.findIn K (.ref C) (PySem.dunder op.info.2) = some (some (.ref f))) (hf : PySem.W.isFn K (.ref f) = true) (h : wpAny (model prog w) A (call (.ref f) [.ref x, .ref y]) (PySem.W.CmpBack Q) E s) : wpAny (model prog w) A (binaryOp op (.ref x) (.ref y)) Q E s := by
  obtain ⟨cd, rest, hcd, hm⟩ := PySem.W.ksp_first hc
  rcases hi : op.info with ⟨sym, nm'⟩
  rw [hi] at hs
  dsimp only at hs
  have one := PySem.W.ksp_try X I hs hf h
  obtain ⟨hh, g, d, tt, os⟩ := s
  have L1 : PySem.W.Looks (model prog w) hh (typeOf (.ref x)) (.ref C) := I.type
  have L2 : PySem.W.Looks (model prog w) hh (typeOf (.ref y)) (.ref C) := J.type
  have L3 : PySem.W.Looks (model prog w) hh (fillsNumberSlot (.ref C) nm') true := PySem.W.fills_K X hcd hm hs
  simp only [binaryOp, hi]
  refine wpAny_holding (wpAny_bind ?_)
  unfold binaryOp1
  refine wpAny_bind (L1.at (wpAny_bind (L2.at (wpAny_bind (L3.at ?_)))))
  simp only [beq_self_eq_true, if_true]
  ksp_lk
  refine wpAny_mono one (fun r s' hr' => ?_) fun _ _ e => e
  obtain ⟨v, rfl, hq⟩ := hr'
  ksp_lk
  exact hq
end
end K76

set_option Elab.async false
set_option linter.all false
set_option maxRecDepth 100000
/-! own operators, == and != as readings -/
namespace K76
open PySem PySem.Spec PyProof.Rows L2
def rOwnL (K : PySem.W.Frag) (C : Addr) (sp : Sp) (E : XK) : R2 := fun x y H Q => ∃ a dx fs t, x = .ref a ∧ H a = some (.ins C dx fs) ∧ TyX K H y t ∧ PySem.W.notFirst K C t = true ∧ sp [x, y] H Q E
def rOwnR (C : Addr) (sp : Sp) (E : XK) : R2 := fun x y H Q => ∃ b dx fs, y = .ref b ∧ H b = some (.ins C dx fs) ∧ LowV H x ∧ sp [y, x] H Q E
def rOwnB (C : Addr) (sp : Sp) (E : XK) : R2 := fun x y H Q => ∃ a dx fs b dy gs, x = .ref a ∧ y = .ref b ∧ H a = some (.ins C dx fs) ∧ H b = some (.ins C dy gs) ∧ sp [x, y] H Q E
def rOwnU (C : Addr) (sp : Sp) (E : XK) : V → Hp → VK → Prop := fun x H Q => ∃ a dx fs, x = .ref a ∧ H a = some (.ins C dx fs) ∧ sp [x] H Q E
section
variable {X : Cx} {CX : CXT} {C f : Addr} {fd : FuncData} {ps : List Str} {n : Nat} {sp : Sp} {E : XK}
theorem inst_of {pins : List (Addr × Obj)} {σ : L2.St} {H : Hp} {s : Shared} {a C dx : Addr} {fs : List (Str × V)} (I : Inv X pins σ H s) (h : H a = some (.ins C dx fs)) : ∃ od, PySem.W.InstAt s.heap a (PySem.W.instObj C dx) C (some od) := by
  obtain ⟨mA, J, _⟩ := ins_get I.hok h
  obtain ⟨od, J, _⟩ := J.look
  exact ⟨od, J⟩
theorem op_or {g : Value → Value → Sem Value} {r r' : R2} (h : OpR X g r) (h' : OpR X g r') : OpR X g (fun x y H Q => r x y H Q ∨ r' x y H Q) := fun pins s σ H x y v u Q I rx ry d => by
  rcases d with d | d
  · exact h pins s σ H x y v u Q I rx ry d
  · exact h' pins s σ H x y v u Q I rx ry d
theorem op_ownL {op : CmpOp} (hop : ∀ a b, compareOp op a b = richCompare op a b) (hs : PySem.W.findIn X.K (.ref C) (cmpInfo op).2.1 = some (some (.ref f))) (hf : PySem.W.isFn X.K (.ref f) = true) (F : FnOk X.prog X.w X.K X.mg X.base CX n f fd ps sp) (hb : Binds X.K fd ps []) (hr : Room n X.A) (hx : Passes CX X E) :
    OpR X (compareOp op) (rOwnL X.K C sp E) := by
  intro pins s σ H x y v u Q I rx ry h
  obtain ⟨a, dx, fs, t, rfl, ha, ty, hn, q⟩ := h
  cases (show v = Value.ref a from rx)
  obtain ⟨od, J⟩ := inst_of I ha
  obtain ⟨m, hF⟩ := I.fr
  obtain ⟨P, kx, hP, _⟩ := kit_of I ry ty
  rw [hop]
  refine PySem.W.cmp_K (op := op) (tb := t) hr.units0 hF I.ok.mod.kin J (kx.ty _ _ I.kIn hP) hn hs hf ?_
  refine wpAny_mono (run_fn (us := [.ref a, u]) (vs := [.ref a, y]) (dvs := []) F hr hb .nil hx I (.cons rfl (.cons ry .nil)) (by simpa using q)) (fun w s' z => ?_) fun _ _ x => x
  obtain ⟨z', H', I', rz, qz⟩ := z
  exact SlX.cmpback rz ⟨z', H', I', rz, qz⟩
theorem low_eq {pins : List (Addr × Obj)} {σ : L2.St} {H : Hp} {s : Shared} {b dx : Addr} {fs : List (Str × V)} {x : V} {v : Value} {Q : Value → Shared → Prop} (I : Inv X pins σ H s) (hb : H b = some (.ins C dx fs)) (N : NoSub X.K C) (lo : LowV H x) (rx : RelV x v) (hu : X.A.units < cLine)
    (hs : PySem.W.findIn X.K (.ref C) "__eq__" = some (some (.ref f))) (hf : PySem.W.isFn X.K (.ref f) = true) (h : wpAny (model X.prog X.w) X.A (call (.ref f) [.ref b, v]) (PySem.W.CmpBack Q) X.xe s) : wpAny (model X.prog X.w) X.A (richCompare .Eq v (.ref b)) Q X.xe s := by
  obtain ⟨od, J⟩ := inst_of I hb
  have ho := J.at_
  have li : ∀ T : String, PySem.W.subIn X.K (.ref C) (.type T) = some false → PySem.W.Looks (model X.prog X.w) s.heap (isInstance (.ref b) (.type T)) false := fun T z => J.type.andThen (PySem.W.looks_subIn I.kIn z)
  cases lo with
  | non =>
    cases (show v = Value.none from rx)
    have hT : s.TypeIs .none "NoneType" := rfl
    exact rc_eqR hu I.kIn J hT N.n hs hf F.slot_NoneType_eq (fun Q' q => call_gives F.slot_NoneType_eq hT F.entry_NoneType_eq (F.args_NoneType_eq_2 _ _) (PySem.SeqAt.NoneType___eq___none_ref_0 b) q) h
  | bl k =>
    cases (show v = Value.bool k from rx)
    have hT : s.TypeIs (.bool k) "bool" := rfl
    exact rc_eqR hu I.kIn J hT N.b hs hf F.slot_bool_eq (fun Q' q => dec_call F.slot_bool_eq hT F.entry_int_eq (F.args_int_eq_2 _ _) (fun A E P p => dec_bool_eq ho p) q) h
  | int i =>
    obtain ⟨t, e⟩ := (show ∃ t, v = Value.int i t from rx)
    cases e
    have hT : s.TypeIs (.int i t) "int" := rfl
    exact rc_eqR hu I.kIn J hT N.i hs hf F.slot_int_eq (fun Q' q => dec_call F.slot_int_eq hT F.entry_int_eq (F.args_int_eq_2 _ _) (fun A E P p => dec_int_eq ho p) q) h
  | str z =>
    obtain ⟨t, e⟩ := (show ∃ t, v = Value.str z t from rx)
    cases e
    have hT : s.TypeIs (.str z t) "str" := rfl
    exact rc_eqR hu I.kIn J hT N.s hs hf F.slot_str_eq (fun Q' q => dec_call F.slot_str_eq hT F.entry_str_eq (F.args_str_eq_2 _ _) (fun A E P p => dec_str_eq ho p) q) h
  | @lst a xs e =>
    cases (show v = Value.ref a from rx)
    obtain ⟨z, its, k, r, e⟩ := I.hok a _ e
    have hT : s.TypeIs (.ref a) "list" := ⟨_, e, rfl⟩
    exact rc_eqR hu I.kIn J hT N.l hs hf F.slot_list_eq (fun Q' q => dec_call F.slot_list_eq hT F.entry_list_eq (F.args_list_eq_2 _ _) (fun A E P p => dec_list_eq (li _ N.l) p) q) h
  | @tup a xs e =>
    cases (show v = Value.ref a from rx)
    obtain ⟨its, r, ⟨o, e, c, _⟩, z⟩ := I.tuple (SqT.of e)
    have hT : s.TypeIs (.ref a) "tuple" := ⟨_, e, c⟩
    exact rc_eqR hu I.kIn J hT N.t hs hf F.slot_tuple_eq (fun Q' q => dec_call F.slot_tuple_eq hT F.entry_tuple_eq (F.args_tuple_eq_2 _ _) (fun A E P p => dec_tuple_eq (li _ N.t) p) q) h
theorem low_ne {pins : List (Addr × Obj)} {σ : L2.St} {H : Hp} {s : Shared} {b dx : Addr} {fs : List (Str × V)} {x : V} {v : Value} {Q : Value → Shared → Prop} (I : Inv X pins σ H s) (hb : H b = some (.ins C dx fs)) (N : NoSub X.K C) (lo : LowV H x) (rx : RelV x v) (hu : X.A.units < cLine)
    (hs : PySem.W.findIn X.K (.ref C) "__ne__" = some (some (.ref f))) (hf : PySem.W.isFn X.K (.ref f) = true) (h : wpAny (model X.prog X.w) X.A (call (.ref f) [.ref b, v]) (PySem.W.CmpBack Q) X.xe s) : wpAny (model X.prog X.w) X.A (richCompare .NotEq v (.ref b)) Q X.xe s := by
  obtain ⟨od, J⟩ := inst_of I hb
  have ho := J.at_
  have li : ∀ T : String, PySem.W.subIn X.K (.ref C) (.type T) = some false → PySem.W.Looks (model X.prog X.w) s.heap (isInstance (.ref b) (.type T)) false := fun T z => J.type.andThen (PySem.W.looks_subIn I.kIn z)
  cases lo with
  | non =>
    cases (show v = Value.none from rx)
    have hT : s.TypeIs .none "NoneType" := rfl
    exact rc_neR hu I.kIn J hT N.n hs hf F.slot_NoneType_ne (fun Q' q => call_gives F.slot_NoneType_ne hT F.entry_NoneType_ne (F.args_NoneType_ne_2 _ _) (PySem.SeqAt.NoneType___ne___none_ref_0 b) q) h
  | bl k =>
    cases (show v = Value.bool k from rx)
    have hT : s.TypeIs (.bool k) "bool" := rfl
    exact rc_neR hu I.kIn J hT N.b hs hf F.slot_bool_ne (fun Q' q => dec_call F.slot_bool_ne hT F.entry_int_ne (F.args_int_ne_2 _ _) (fun A E P p => dec_bool_ne ho p) q) h
  | int i =>
    obtain ⟨t, e⟩ := (show ∃ t, v = Value.int i t from rx)
    cases e
    have hT : s.TypeIs (.int i t) "int" := rfl
    exact rc_neR hu I.kIn J hT N.i hs hf F.slot_int_ne (fun Q' q => dec_call F.slot_int_ne hT F.entry_int_ne (F.args_int_ne_2 _ _) (fun A E P p => dec_int_ne ho p) q) h
  | str z =>
    obtain ⟨t, e⟩ := (show ∃ t, v = Value.str z t from rx)
    cases e
    have hT : s.TypeIs (.str z t) "str" := rfl
    exact rc_neR hu I.kIn J hT N.s hs hf F.slot_str_ne (fun Q' q => dec_call F.slot_str_ne hT F.entry_str_ne (F.args_str_ne_2 _ _) (fun A E P p => dec_str_ne ho p) q) h
  | @lst a xs e =>
    cases (show v = Value.ref a from rx)
    obtain ⟨z, its, k, r, e⟩ := I.hok a _ e
    have hT : s.TypeIs (.ref a) "list" := ⟨_, e, rfl⟩
    exact rc_neR hu I.kIn J hT N.l hs hf F.slot_list_ne (fun Q' q => dec_call F.slot_list_ne hT F.entry_list_ne (F.args_list_ne_2 _ _) (fun A E P p => dec_list_ne (li _ N.l) p) q) h
  | @tup a xs e =>
    cases (show v = Value.ref a from rx)
    obtain ⟨its, r, ⟨o, e, c, _⟩, z⟩ := I.tuple (SqT.of e)
    have hT : s.TypeIs (.ref a) "tuple" := ⟨_, e, c⟩
    exact rc_neR hu I.kIn J hT N.t hs hf F.slot_tuple_ne (fun Q' q => dec_call F.slot_tuple_ne hT F.entry_tuple_ne (F.args_tuple_ne_2 _ _) (fun A E P p => dec_tuple_ne (li _ N.t) p) q) h
theorem op_eqOR (N : NoSub X.K C) (hs : PySem.W.findIn X.K (.ref C) "__eq__" = some (some (.ref f))) (hf : PySem.W.isFn X.K (.ref f) = true) (F : FnOk X.prog X.w X.K X.mg X.base CX n f fd ps sp) (hb : Binds X.K fd ps []) (hr : Room n X.A) (hx : Passes CX X E) :
    OpR X (compareOp .Eq) (rOwnR C sp E) := by
  intro pins s σ H x y v u Q I rx ry h
  obtain ⟨b, dx, fs, rfl, ha, lo, q⟩ := h
  cases (show u = Value.ref b from ry)
  show wpAny (model X.prog X.w) X.A (richCompare .Eq v (.ref b)) (EP X pins σ Q) X.xe s
  refine low_eq I ha N lo rx hr.units0 hs hf ?_
  refine wpAny_mono (run_fn (us := [.ref b, v]) (vs := [.ref b, x]) (dvs := []) F hr hb .nil hx I (.cons rfl (.cons rx .nil)) (by simpa using q)) (fun w s' z => ?_) fun _ _ x => x
  obtain ⟨z', H', I', rz, qz⟩ := z
  exact SlX.cmpback rz ⟨z', H', I', rz, qz⟩
theorem op_neOR (N : NoSub X.K C) (hs : PySem.W.findIn X.K (.ref C) "__ne__" = some (some (.ref f))) (hf : PySem.W.isFn X.K (.ref f) = true) (F : FnOk X.prog X.w X.K X.mg X.base CX n f fd ps sp) (hb : Binds X.K fd ps []) (hr : Room n X.A) (hx : Passes CX X E) :
    OpR X (compareOp .NotEq) (rOwnR C sp E) := by
  intro pins s σ H x y v u Q I rx ry h
  obtain ⟨b, dx, fs, rfl, ha, lo, q⟩ := h
  cases (show u = Value.ref b from ry)
  show wpAny (model X.prog X.w) X.A (richCompare .NotEq v (.ref b)) (EP X pins σ Q) X.xe s
  refine low_ne I ha N lo rx hr.units0 hs hf ?_
  refine wpAny_mono (run_fn (us := [.ref b, v]) (vs := [.ref b, x]) (dvs := []) F hr hb .nil hx I (.cons rfl (.cons rx .nil)) (by simpa using q)) (fun w s' z => ?_) fun _ _ x => x
  obtain ⟨z', H', I', rz, qz⟩ := z
  exact SlX.cmpback rz ⟨z', H', I', rz, qz⟩
/-- x op y, x and y of the class at C -/
theorem op_bin {op : Operator} (hc : PySem.W.selfFirst X.K C = true) (hs : PySem.W.findIn X.K (.ref C) (PySem.dunder op.info.2) = some (some (.ref f))) (hf : PySem.W.isFn X.K (.ref f) = true) (F : FnOk X.prog X.w X.K X.mg X.base CX n f fd ps sp) (hb : Binds X.K fd ps []) (hr : Room n X.A) (hx : Passes CX X E) :
    OpR X (binaryOp op) (rOwnB C sp E) := by
  intro pins s σ H x y v u Q I rx ry h
  obtain ⟨a, dx, fs, b, dy, gs, rfl, rfl, ha, hb', q⟩ := h
  cases (show v = Value.ref a from rx)
  cases (show u = Value.ref b from ry)
  obtain ⟨od, J⟩ := inst_of I ha
  obtain ⟨oe, J'⟩ := inst_of I hb'
  refine bin_own I.kIn J J' hc hs hf ?_
  refine wpAny_mono (run_fn (us := [.ref a, .ref b]) (vs := [.ref a, .ref b]) (dvs := []) F hr hb .nil hx I (.cons rfl (.cons rfl .nil)) (by simpa using q)) (fun w s' z => ?_) fun _ _ x => x
  obtain ⟨z', H', I', rz, qz⟩ := z
  exact SlX.cmpback rz ⟨z', H', I', rz, qz⟩
/-- ~x -/
theorem op_invO (hs : PySem.W.findIn X.K (.ref C) "__invert__" = some (some (.ref f))) (hf : PySem.W.isFn X.K (.ref f) = true) (F : FnOk X.prog X.w X.K X.mg X.base CX n f fd ps sp) (hb : Binds X.K fd ps []) (hr : Room n X.A) (hx : Passes CX X E) :
    UnR X (unaryOp .Invert) (rOwnU C sp E) := by
  intro pins s σ H x v Q I rx h
  obtain ⟨a, dx, fs, rfl, ha, q⟩ := h
  cases (show v = Value.ref a from rx)
  obtain ⟨od, J⟩ := inst_of I ha
  obtain ⟨m, hF⟩ := I.fr
  refine PySem.W.ksp_inv hF I.ok.mod.kin J hs hf ?_
  exact run_fn (us := [.ref a]) (vs := [.ref a]) (dvs := []) F hr hb .nil hx I (.cons rfl .nil) (by simpa using q)
end
end K76

set_option Elab.async false
set_option linter.all false
set_option maxRecDepth 100000
namespace K76
open PySem PySem.Spec PyProof.Rows L2 SX NdefX
local macro_rules | `(tactic| walk_at "x") => `(tactic| with_reducible first
  | refine x_seq ?_ | refine x_asg ?_ | refine x_op ?_ | refine x_cons ?_ | refine x_nil ?_ | refine x_c ?_ | refine x_name ?_ | refine x_cb ?_ | refine x_call ?_ | refine x_ret ?_ | refine x_ifS ?_
  | refine x_test ?_ | refine x_bl ?_ | refine x_I0 ?_ | refine x_sub ?_ | refine x_tup ?_ | refine x_lst ?_ | refine x_and ?_ | refine x_or ?_ | refine x_not ?_ | refine x_if ?_ | refine x_andV ?_ | refine x_orV ?_ | refine x_notV ?_
  | refine x_retN ?_ | refine x_drop ?_ | refine x_next ?_ | refine x_un ?_ | refine x_B ?_ | refine x_sl ?_ | refine x_noPart ?_ | refine x_part ?_ | refine x_chain ?_ | refine x_int ?_
  | refine x_eqI ?_ | refine x_eqS ?_ | refine x_neI ?_ | refine x_neS ?_ | refine x_eqB ?_ | refine x_neB ?_ | refine x_toI ?_ | refine x_absI ?_ | refine x_mx2 ?_ | refine x_M1 ?_ | refine x_isS ?_ | refine iteT ?_ | refine iteF ?_ | refine x_lc ?_ | refine x_for ?_ | refine x_rng1 ?_ | refine x_iList ?_ | refine x_iTup ?_ | refine x_yes ?_ | refine x_iStr ?_ | refine x_gcons ?_ | refine x_gnil ?_ | refine x_neg ?_ | refine x_sfld ?_ | refine x_tfld ?_ | refine x_make ?_ | refine x_bm ?_)
local macro_rules | `(tactic| walk_at "xs") => `(tactic| repeat (first | walk_at "x" | ((with_reducible show tVar _ _ _ _); refine x_var rfl ?_)))
/-- a def that says super(), as it stands behind the top -/
def SupI (P : Program) (K : PySem.W.Frag) (f C : Addr) (qual : Str) (st : Stmt) (fd : FuncData) : Prop :=
  ∃ (oc : Value) (od : Option Addr) (doc pm : Value) (an : Option Addr) (ct : Value) (osl : Array (Option Value)) (cc cda : Addr) (cl : Value) (cld : Option Addr) (csl : Array (Option Value)) (ccl : Value) (cdd : Option Addr) (vs' : Array Value) (ccs : Array (Option Value)) (file : Str) (tf : Tok),
    fd = PySem.W.ksFn "__init__" qual (defArgs st) (defBody st) (defScope st) .none .none doc pm an (.ref cda) ct cc ∧ K.lookup f = some ⟨oc, od, .func fd, osl⟩ ∧ PySem.W.codeIn K (.ref cda) qual = true ∧ K.lookup cc = some ⟨cl, cld, .cell (some (.ref C)), csl⟩ ∧
      K.lookup cda = some ⟨ccl, cdd, .fields vs', ccs⟩ ∧ vs'[2]? = some (.str file tf) ∧ ((P.main.file : Str) == file) = true
/-- its promise: the field n is set -/
def spExc (C : Addr) (pre n : Str) : Sp := fun vs H Q _ => ∃ (a : Addr) (i : Int), vs = [.ref a, .int i] ∧ i.natAbs.log2 < 1920 ∧ ((Str.empty ++ pre) ++ (toString i : Str)).length ≤ 100 ∧ H a = some (exo a C none) ∧ ∀ dx, H dx = none → dx ≠ a → Q .non (L2.upd (L2.upd H dx (exd dx [(n, .int i)])) a (exo a C (some dx)))
section
variable {P : Program} {w : World} {K : PySem.W.Frag} {mg : Str → Option Value} {base : Heap} {f C : Addr} {fd : FuncData}
theorem k_BadWish (I : SupI P K f C "BadWish.__init__" s_BadWish_init fd) (T : SupC P K mg C) (no : PySem.W.findIn K (.ref C) "at" = some none) : FnOk P w K mg base L2.CX0 1 f fd ["self", "at"] (spExc C "wrong wish at character " "at") := by
  obtain ⟨oc, od, doc, pm, an, ct, osl, cc, cda, cl, cld, csl, ccl, cdd, vs', ccs, file, tf, rfl, lk, hcd, hcell, hcode, hvs, hfile⟩ := I
  refine sup_fn (k := 0) (N := ["self", "at", "__class__"]) (ps := ["at"]) lk hcd hcell hcode hvs hfile (nscope_by (by decide +kernel)) rfl T (by decide +kernel) (fun env => ⟨_, rfl⟩) (fun env => rfl) (fun env => rfl) (fun vs H Q E h => ?_) (fun A outer s H vs Q E hr h => ?_)
  · obtain ⟨a, i, rfl, _⟩ := h
    rfl
  · obtain ⟨a, i, rfl, hi, hz, ha, q⟩ := h
    refine ⟨_, _, a, _, rfl, ha, pa_cons (pe_joined (PJ.cons pe_str (PJ.cons (pe_fmt (pe_var (i := 1) rfl (.inl rfl))) PJ.nil))) pa_nil, pss_one (ps_ost (f := "at") (pe_var (i := 0) rfl (.inl rfl)) (pe_var (i := 1) rfl (.inl rfl))), ?_⟩
    walk_at "xs"
    refine ⟨_, rfl, sz (by decide +kernel), ?_⟩
    refine ⟨.int i, rfl, .inr ⟨i, rfl, hi, _, rfl, sz (by omega), ?_⟩⟩
    refine ⟨by show 1 ≤ 1000; omega, ha, ?_⟩
    refine ⟨.int i, rfl, .ref a, rfl, a, C, rfl, T.oex, no, .inl ⟨ha, fun dx n1 n2 => ?_⟩⟩
    exact q dx n1 n2
theorem k_TooMany (I : SupI P K f C "TooMany.__init__" s_TooMany_init fd) (T : SupC P K mg C) (no : PySem.W.findIn K (.ref C) "limit" = some none) : FnOk P w K mg base L2.CX0 1 f fd ["self", "limit"] (spExc C "the limit is " "limit") := by
  obtain ⟨oc, od, doc, pm, an, ct, osl, cc, cda, cl, cld, csl, ccl, cdd, vs', ccs, file, tf, rfl, lk, hcd, hcell, hcode, hvs, hfile⟩ := I
  refine sup_fn (k := 0) (N := ["self", "limit", "__class__"]) (ps := ["limit"]) lk hcd hcell hcode hvs hfile (nscope_by (by decide +kernel)) rfl T (by decide +kernel) (fun env => ⟨_, rfl⟩) (fun env => rfl) (fun env => rfl) (fun vs H Q E h => ?_) (fun A outer s H vs Q E hr h => ?_)
  · obtain ⟨a, i, rfl, _⟩ := h
    rfl
  · obtain ⟨a, i, rfl, hi, hz, ha, q⟩ := h
    refine ⟨_, _, a, _, rfl, ha, pa_cons (pe_joined (PJ.cons pe_str (PJ.cons (pe_fmt (pe_var (i := 1) rfl (.inl rfl))) PJ.nil))) pa_nil, pss_one (ps_ost (f := "limit") (pe_var (i := 0) rfl (.inl rfl)) (pe_var (i := 1) rfl (.inl rfl))), ?_⟩
    walk_at "xs"
    refine ⟨_, rfl, sz (by decide +kernel), ?_⟩
    refine ⟨.int i, rfl, .inr ⟨i, rfl, hi, _, rfl, sz (by omega), ?_⟩⟩
    refine ⟨by show 1 ≤ 1000; omega, ha, ?_⟩
    refine ⟨.int i, rfl, .ref a, rfl, a, C, rfl, T.oex, no, .inl ⟨ha, fun dx n1 n2 => ?_⟩⟩
    exact q dx n1 n2
end
end K76

set_option Elab.async false
set_option linter.all false
set_option maxRecDepth 100000
set_option maxHeartbeats 2000000
namespace K76
open PySem PySem.Spec PyProof.Rows L2 SX L2H HotX
theorem FD.sup {P : Program} {K : PySem.W.Frag} {C : Addr} {d : FD} (e : fnS K (d.ad K) = d.valS) (c : d.okS K P.main.file C = true) (hn : d.nm = "__init__") : ∃ fd, SupI P K (d.ad K) C d.qual d.st fd := by
  unfold FD.okS at c
  unfold fnS at e
  cases q : K.lookup (d.ad K) with
  | none =>
    rw [q] at c
    cases c
  | some o =>
    obtain ⟨oc, od, dt, osl⟩ := o
    rw [q] at c e
    cases dt with
    | func fd =>
      obtain ⟨n1, n2, n3, n4, n5, n6, n7, n8, n9, n10, n11, n12, n13, n14, n15⟩ := fd
      have e2 : (some (n1, n2, n3, n4, n5, n6, n7.map (·.1), n15) : FnS) = some (d.nm, d.qual, defArgs d.st, FuncBody.stmts (defBody d.st), defScope d.st, mainGlobals, [("__class__" : Str)], builtinsNs) := e
      simp only [Option.some.injEq, Prod.mk.injEq] at e2
      obtain ⟨h1, h2, h3, h4, h5, h6, h7, h8⟩ := e2
      obtain ⟨c1, c⟩ := He.ba c
      obtain ⟨c2, c⟩ := He.ba c
      obtain ⟨c3, c⟩ := He.ba c
      obtain ⟨c4, c5⟩ := He.ba c
      obtain ⟨cc, k1, k2, k3, z1, z2⟩ := cellB_ok h7 c4
      obtain ⟨cda, k4, k5, vs, k6, f, t, z3, z4, z5, z6⟩ := codeB_ok c5
      have g1 : n8 = Value.none := of_decide_eq_true c1
      have g2 : n9 = Value.none := of_decide_eq_true c2
      clear c1 c2 c4 c5 c e
      dsimp only at z1 z3 c3
      subst h1 h2 h3 h4 h5 h6 h8 g1 g2 z1 z3
      exact ⟨_, oc, od, n10, n11, n12, n14, osl, cc, cda, k1, k2, k3, k4, k5, vs, k6, f, t, by rw [hn], q, c3, z2, z4, z5, z6⟩
    | _ => cases c
end K76

set_option Elab.async false
set_option linter.all false
set_option maxRecDepth 100000
/-! the classes: what the written part must say; their making -/
namespace K76
open PySem PySem.Spec PyProof.Rows L2 SX
local macro_rules | `(tactic| walk_at "x") => `(tactic| with_reducible first
  | refine x_seq ?_ | refine x_asg ?_ | refine x_op ?_ | refine x_cons ?_ | refine x_nil ?_ | refine x_c ?_ | refine x_name ?_ | refine x_cb ?_ | refine x_call ?_ | refine x_ret ?_ | refine x_ifS ?_
  | refine x_test ?_ | refine x_bl ?_ | refine x_I0 ?_ | refine x_sub ?_ | refine x_tup ?_ | refine x_lst ?_ | refine x_and ?_ | refine x_or ?_ | refine x_not ?_ | refine x_if ?_ | refine x_andV ?_ | refine x_orV ?_ | refine x_notV ?_
  | refine x_retN ?_ | refine x_drop ?_ | refine x_next ?_ | refine x_un ?_ | refine x_B ?_ | refine x_sl ?_ | refine x_noPart ?_ | refine x_part ?_ | refine x_chain ?_ | refine x_int ?_
  | refine x_eqI ?_ | refine x_eqS ?_ | refine x_neI ?_ | refine x_neS ?_ | refine x_eqB ?_ | refine x_neB ?_ | refine x_toI ?_ | refine x_absI ?_ | refine x_mx2 ?_ | refine x_M1 ?_ | refine x_isS ?_ | refine iteT ?_ | refine iteF ?_ | refine x_lc ?_ | refine x_for ?_ | refine x_rng1 ?_ | refine x_iList ?_ | refine x_iTup ?_ | refine x_yes ?_ | refine x_iStr ?_ | refine x_gcons ?_ | refine x_gnil ?_ | refine x_neg ?_ | refine x_sfld ?_ | refine x_tfld ?_ | refine x_make ?_ | refine x_bm ?_)
local macro_rules | `(tactic| walk_at "xs") => `(tactic| repeat (first | walk_at "x" | ((with_reducible show tVar _ _ _ _); refine x_var rfl ?_)))
structure Cl (K : PySem.W.Frag) (C : Addr) : Prop where
  cl : Cls K C
  ha : PySem.W.findIn K (.ref C) "__class__" = some (some (.builtin "object.__class__"))
  hn : PySem.W.specialIn K (.builtin "object.__class__") "__get__" = some (some (.builtin "getset_descriptor.__get__"))
  ht : PySem.W.takesIn K (.builtin "object.__class__") = some true
  hm : PySem.W.mroIn K C (.type "object") = some true
  ns : NoSub K C
  nf : ∀ T ∈ (["NoneType", "bool", "int", "str", "list", "tuple"] : List String), PySem.W.notFirst K C (.type T) = true
  nk : ∀ T ∈ (["NoneType", "bool", "int", "str", "list", "tuple", "dict"] : List String), PySem.W.kitOne K (.type T) (.ref C) = some false
  self : PySem.W.kitOne K (.ref C) (.ref C) = some true
  tree : NoAttr K C "tree"
theorem Cl.ty {K : PySem.W.Frag} {C : Addr} (c : Cl K C) {H : Hp} {a dx : Addr} {fs : List (Str × V)} (e : H a = some (.ins C dx fs)) : TyX K H (.ref a) (.ref C) := .base (.ins e c.cl c.ha c.hn c.ht c.hm)
def Ms (K : PySem.W.Frag) (C : Addr) (m qual : Str) (st : Stmt) (ps : List Str) : Prop := ∃ f fd, L2.Fun K m qual st f fd ∧ Meth K C m f ∧ Binds K fd ps []
def Mc (K : PySem.W.Frag) (C : Addr) (qual : Str) (st : Stmt) (ps : List Str) : Prop := ∃ f fd, L2.Fun K "__init__" qual st f fd ∧ Mk K C f ∧ Binds K fd ps []
structure Ex (P : Program) (K : PySem.W.Frag) (mg : Str → Option Value) (C : Addr) (x qual n : Str) (st : Stmt) : Prop where
  m : mg x = some (.ref C)
  sup : SupC P K mg C
  no : PySem.W.findIn K (.ref C) n = some none
  init : ∃ f fd, SupI P K f C qual st fd ∧ PySem.W.findIn K (.ref C) "__init__" = some (some (.ref f)) ∧ PySem.W.typeIn K (.ref f) = some (.type "function") ∧ Binds K fd ["self", n] []
  xf : XfC K C
  ec : ExcC K C
def fifteen : List Str := ["BadMachine", "BadNet", "BadStanding", "BadWord", "BadText", "BadWish", "BadPaper", "Cannot", "Loud", "NotCalm", "NotThere", "NoJoin", "TooMany", "Reserved", "Nothing"]
structure Kc (P : Program) (K : PySem.W.Frag) (mg : Str → Option Value) (cP cW cB cT cO : Addr) : Prop where
  mP : mg "Pred" = some (.ref cP)
  mW : mg "Wish" = some (.ref cW)
  mO : mg "OneError" = some (.ref cO)
  tP : Cl K cP
  tW : Cl K cW
  nPW : PySem.W.notFirst K cP (.ref cW) = true
  nWP : PySem.W.notFirst K cW (.ref cP) = true
  kPW : PySem.W.kitOne K (.ref cP) (.ref cW) = some false
  kWP : PySem.W.kitOne K (.ref cW) (.ref cP) = some false
  pLev : NoAttr K cP "own_level"
  wKind : NoAttr K cW "kind"
  pMk : Mc K cP "Pred.__init__" s_Pred_init ["self", "tree"]
  wMk : Mc K cW "Wish.__init__" s_Wish_init ["self", "tree"]
  pPr : ∃ p g fd, PropOf K cP "level" p g ∧ L2.Fun K "level" "Pred.level" s_Pred_level g fd ∧ Binds K fd ["self"] []
  pEq : Ms K cP "__eq__" "Pred.__eq__" s_Pred_eq ["self", "other"]
  pNe : Ms K cP "__ne__" "Pred.__ne__" s_Pred_ne ["self", "other"]
  pAnd : Ms K cP "__and__" "Pred.__and__" s_Pred_and ["self", "other"]
  pOr : Ms K cP "__or__" "Pred.__or__" s_Pred_or ["self", "other"]
  pInv : Ms K cP "__invert__" "Pred.__invert__" s_Pred_invert ["self"]
  wEq : Ms K cW "__eq__" "Wish.__eq__" s_Wish_eq ["self", "other"]
  wNe : Ms K cW "__ne__" "Wish.__ne__" s_Wish_ne ["self", "other"]
  pSF : PySem.W.selfFirst K cP = true
  eB : Ex P K mg cB "BadWish" "BadWish.__init__" "at" s_BadWish_init
  eT : Ex P K mg cT "TooMany" "TooMany.__init__" "limit" s_TooMany_init
  oB : PySem.W.exmOne K (.ref cB) (.ref cO) = some true
  oT : PySem.W.exmOne K (.ref cT) (.ref cO) = some true
  vB : PySem.W.kitOne K (.ref cB) (.type "ValueError") = some true
  vT : PySem.W.kitOne K (.ref cT) (.type "ValueError") = some true
  rN : ∀ x ∈ fifteen, ∃ c : Addr, mg x = some (.ref c) ∧ PySem.W.kitOne K (.ref cB) (.ref c) = some (decide (x = "BadWish")) ∧ PySem.W.kitOne K (.ref cT) (.ref c) = some (decide (x = "TooMany"))
/-! ### raising -/
section
variable {P : Program} {w : World} {K : PySem.W.Frag} {mg : Str → Option Value} {base : Heap}
def RzN (P : Program) (w : World) (K : PySem.W.Frag) (mg : Str → Option Value) (base : Heap) (x : Str) (C : Addr) (pre n : Str) : Prop :=
  ∃ f fd, OexC K C ∧ PySem.W.findIn K (.ref C) "__init__" = some (some (.ref f)) ∧ PySem.W.typeIn K (.ref f) = some (.type "function") ∧ FnOk P w K mg base L2.CX0 1 f fd ["self", n] (spExc C pre n) ∧ Binds K fd ["self", n] [] ∧ mg x = some (.ref C)
theorem rz_BadWish {C : Addr} (E : Ex P K mg C "BadWish" "BadWish.__init__" "at" s_BadWish_init) : RzN P w K mg base "BadWish" C "wrong wish at character " "at" := by
  obtain ⟨f, fd, i, h1, h2, b⟩ := E.init
  exact ⟨f, fd, E.sup.oex, h1, h2, k_BadWish i E.sup E.no, b, E.m⟩
theorem rz_TooMany {C : Addr} (E : Ex P K mg C "TooMany" "TooMany.__init__" "limit" s_TooMany_init) : RzN P w K mg base "TooMany" C "the limit is " "limit" := by
  obtain ⟨f, fd, i, h1, h2, b⟩ := E.init
  exact ⟨f, fd, E.sup.oex, h1, h2, k_TooMany i E.sup E.no, b, E.m⟩
end
/-- raise X(e) -/
def tRz (C : Addr) (sp : Sp) (ta : TA) (W : WX) : TS := fun _ σ H => tMkO C sp [] ta σ H fun cls d H' => W cls d σ H'
theorem ps_rz {X : Cx} {W : WX} {x n pre : Str} {C : Addr} {e : Expr} {es : List Expr} {ta : TA} {p pos pos' : Pos} (c : RzN X.prog X.w X.K X.mg X.base x C pre n) (tk : L2N.Takes X W) (hc : X.calm = true) (hr : Room 2 X.A) (hg : Gl X x) (ha : PA X (e :: es) ta)
    (hdb : (x == ("__debug__" : Str)) = false := by decide) (he : starEach (e :: es) X.env = (false, eval e X.env) :: starEach es X.env := by rfl) (hpl : (backTo pos (starEach es X.env)).any (·.1) = false := by rfl) :
    PS X (.Raise (some (.Call (.Name x p) (e :: es) [] pos)) none pos') (tRz C (spExc C pre n) ta W) := by
  obtain ⟨f, fd, T, iC, tI, F, b, m⟩ := c
  exact L2N.ps_raise hc tk (pmkN_oex T iC tI F hr b .nil pass0 hg m ha hdb he hpl)
theorem x_rz {C : Addr} {sp : Sp} {ta : TA} {W : WX} {D : Ends} {σ : L2.St} {H : Hp} (h : ta σ H fun vs H1 => vs.length ≤ 1000 ∧ ∀ a, H1 a = none → sp (.ref a :: (vs ++ [])) (L2.upd H1 a (exo a C none))
  (fun v H2 => v = .non ∧ ∃ (d : Addr) (fs : List (Str × V)), H2 a = some (exo a C (some d)) ∧ H2 d = some (exd d fs) ∧ H1 d = none ∧ W (.ref C) (some d) σ (L2.upd (del H2 a) d (.xd fs))) (fun _ _ _ => False)) : tRz C sp ta W D σ H := h
theorem i_rz {C : Addr} {pre n : Str} {i : Int} {H1 : Hp} {QX : Addr → Hp → Prop} (h1 : i.natAbs.log2 < 1920) (h2 : ((Str.empty ++ pre) ++ (toString i : Str)).length ≤ 100) (q : ∀ dd H', Same H1 H' → H' dd = some (.xd [(n, .int i)]) → QX dd H') :
    [V.int i].length ≤ 1000 ∧ ∀ a, H1 a = none → spExc C pre n (.ref a :: ([.int i] ++ [])) (L2.upd H1 a (exo a C none))
      (fun v H2 => v = .non ∧ ∃ (d : Addr) (fs : List (Str × V)), H2 a = some (exo a C (some d)) ∧ H2 d = some (exd d fs) ∧ H1 d = none ∧ QX d (L2.upd (del H2 a) d (.xd fs))) (fun _ _ _ => False) := by
  refine ⟨by show 1 ≤ 1000; omega, fun a na => ⟨a, i, rfl, h1, h2, L2.upd_same, fun dx n1 n2 => ⟨rfl, dx, _, L2.upd_same, ?_, ?_, q _ _ (fun b o e => ?_) L2.upd_same⟩⟩⟩
  · rw [L2.upd_ne n2, L2.upd_same]
  · rwa [L2.upd_ne n2] at n1
  · have hb : b ≠ a := ne_of_none e na
    have n1 : H1 dx = none := by rwa [L2.upd_ne n2] at n1
    have hd : b ≠ dx := ne_of_none e n1
    rw [L2.upd_ne hd, del_ne hb, L2.upd_ne hb, L2.upd_ne hd, L2.upd_ne hb]
    exact e
/-- never reached -/
def tNever : TS := fun _ _ _ => False
def tNeverE : TE := fun _ _ _ => False
theorem ps_never {X : Cx} {st : Stmt} : PS X st tNever := ⟨fun _ _ _ _ _ _ h => h.elim⟩
theorem pe_never {X : Cx} {e : Expr} : PE X e tNeverE := ⟨fun _ _ _ _ _ _ h => h.elim⟩
/-! ### made objects -/
def predFs (v : V) (l : Nat) : List (Str × V) := putF "own_level" (.int l) (putF "tree" v [])
def wishFs (v k : V) : List (Str × V) := putF "kind" k (putF "tree" v [])
def PredAt (cP x : Addr) (H : Hp) (r : Addr) (d : PyData) : Prop := ∃ dx v, H r = some (.ins cP dx (predFs v (predLevel d))) ∧ At x H d v
def kindOf : PyData → V
  | .tuple (.str k :: _) => .str k
  | _ => .non
def WishAt (cW x : Addr) (H : Hp) (r : Addr) (d : PyData) : Prop := ∃ dx v, H r = some (.ins cW dx (wishFs v (kindOf d))) ∧ At x H d v
theorem PredAt.same {cP x : Addr} {H H' : Hp} {r : Addr} {d : PyData} (h : PredAt cP x H r d) (s : Same H H') : PredAt cP x H' r d := by
  obtain ⟨dx, v, e, a⟩ := h
  exact ⟨dx, v, s _ _ e, a.same s⟩
theorem WishAt.same {cP x : Addr} {H H' : Hp} {r : Addr} {d : PyData} (h : WishAt cP x H r d) (s : Same H H') : WishAt cP x H' r d := by
  obtain ⟨dx, v, e, a⟩ := h
  exact ⟨dx, v, s _ _ e, a.same s⟩
/-- how Pred(d) ends -/
def OutP (cP cB cT x : Addr) (d : PyData) (H : Hp) (Q : VK) (E : XK) : Prop :=
  (predLevel d = 0 → ∀ H' dd, Same H H' → H' dd = some (.xd [("at", .int 0)]) → E (.ref cB) (some dd) H') ∧ (40 < predLevel d → ∀ H' dd, Same H H' → H' dd = some (.xd [("limit", .int 40)]) → E (.ref cT) (some dd) H') ∧
    (1 ≤ predLevel d → predLevel d ≤ 40 → ∀ H' r, Same H H' → PredAt cP x H' r d → Q (.ref r) H')
def OutW (cW cB cT x : Addr) (d : PyData) (H : Hp) (Q : VK) (E : XK) : Prop :=
  (wishLevel d < 0 → ∀ H' dd, Same H H' → H' dd = some (.xd [("at", .int 0)]) → E (.ref cB) (some dd) H') ∧ (40 < wishLevel d → ∀ H' dd, Same H H' → H' dd = some (.xd [("limit", .int 40)]) → E (.ref cT) (some dd) H') ∧
    (0 ≤ wishLevel d → wishLevel d ≤ 40 → ∀ H' r, Same H H' → WishAt cW x H' r d → Q (.ref r) H')
theorem OutP.same {cP cB cT x : Addr} {d : PyData} {H H1 : Hp} {Q : VK} {E : XK} (h : OutP cP cB cT x d H Q E) (s : Same H H1) : OutP cP cB cT x d H1 Q E :=
  ⟨fun l H' dd s' => h.1 l H' dd (s.trans s'), fun l H' dd s' => h.2.1 l H' dd (s.trans s'), fun l l' H' r s' => h.2.2 l l' H' r (s.trans s')⟩
theorem OutW.same {cP cB cT x : Addr} {d : PyData} {H H1 : Hp} {Q : VK} {E : XK} (h : OutW cP cB cT x d H Q E) (s : Same H H1) : OutW cP cB cT x d H1 Q E :=
  ⟨fun l H' dd s' => h.1 l H' dd (s.trans s'), fun l H' dd s' => h.2.1 l H' dd (s.trans s'), fun l l' H' r s' => h.2.2 l l' H' r (s.trans s')⟩
def keepA (a : Addr) (H H' : Hp) : Prop := ∀ b o, b ≠ a → H b = some o → H' b = some o
def spPi (cP cB cT : Addr) (n : Nat) : Sp := fun vs H Q E => ∃ x d v a dx, vs = [.ref a, v] ∧ At x H d v ∧ H a = some (.ins cP dx []) ∧ hgt d < n ∧
  (predLevel d = 0 → ∀ H' dd, Same H H' → H' dd = some (.xd [("at", .int 0)]) → E (.ref cB) (some dd) H') ∧ (40 < predLevel d → ∀ H' dd, Same H H' → H' dd = some (.xd [("limit", .int 40)]) → E (.ref cT) (some dd) H') ∧
    (1 ≤ predLevel d → predLevel d ≤ 40 → ∀ H', keepA a H H' → H' a = some (.ins cP dx (predFs v (predLevel d))) → Q .non H')
def spWi (cW cB cT : Addr) (n : Nat) : Sp := fun vs H Q E => ∃ x d v a dx, vs = [.ref a, v] ∧ At x H d v ∧ H a = some (.ins cW dx []) ∧ hgt d ≤ n ∧
  (wishLevel d < 0 → ∀ H' dd, Same H H' → H' dd = some (.xd [("at", .int 0)]) → E (.ref cB) (some dd) H') ∧ (40 < wishLevel d → ∀ H' dd, Same H H' → H' dd = some (.xd [("limit", .int 40)]) → E (.ref cT) (some dd) H') ∧
    (0 ≤ wishLevel d → wishLevel d ≤ 40 → ∀ H', keepA a H H' → H' a = some (.ins cW dx (wishFs v (kindOf d))) → Q .non H')
section
variable {P : Program} {w : World} {K : PySem.W.Frag} {mg : Str → Option Value} {base : Heap} {cP cW cB cT cO : Addr}
/-- as Fun.okX, the exception's context told -/
theorem okN {x qual : Str} {st : Stmt} {f : Addr} {fd : FuncData} {N ps : List Str} {k : Nat} {sp : Sp} (F : L2.Fun K x qual st f fd) (S : FnScope N ps (defScope st)) (len : ∀ vs H Q E, sp vs H Q E → vs.length = ps.length)
    (hbody : ∀ (cdv : Value) (A : Around) (outer : List Env) (s : Shared) (H : Hp) (vs : List V) (Q : VK) (E : XK), Room k (A.deeper (envOfC qual (defScope st) s.heap.objs.size f cdv)) → sp vs H Q E →
      L2N.Takes (cxOf (L2N.CX P w) P w K mg base N qual (defScope st) f cdv A outer s H E) (fun cls d _ H' => E cls d H') →
      ∃ t, PSs (cxOf (L2N.CX P w) P w K mg base N qual (defScope st) f cdv A outer s H E) (defBody st) t ∧ t { nx := fun _ H' => Q .non H', rt := Q } (start N vs) H) : FnOk P w K mg base (L2N.CX P w) (k + 1) f fd ps sp := by
  obtain ⟨oc, od, kV, doc, pm, an, cdv, ct, osl, rfl, lk, hcd⟩ := F.ex
  exact fn_of lk hcd S len fun A outer s H vs Q E hr hsp => hbody cdv A outer s H vs Q E hr hsp (L2N.takes_of rfl rfl rfl rfl)
theorem k_Pred_init {n : Nat} (T : Nm K mg) (KC : Kc P K mg cP cW cB cT cO) (c_pred_level : CalK P w K mg base (4 + n) "pred_level" (spPred n)) :
    ∃ f fd, Mk K cP f ∧ FnOk P w K mg base (L2N.CX P w) (4 + n + 1) f fd ["self", "tree"] (spPi cP cB cT n) ∧ Binds K fd ["self", "tree"] [] := by
  obtain ⟨f, fd, Ff, M, b⟩ := KC.pMk
  have rz1 := rz_BadWish (w := w) (base := base) KC.eB
  have rz2 := rz_TooMany (w := w) (base := base) KC.eT
  refine ⟨f, fd, M, okN Ff sc_Pred_init (fun vs H Q E h => ?_) (fun cdv A outer s H vs Q E hr h tk => ?_), b⟩
  · obtain ⟨x, d, v, a, dx, rfl, _⟩ := h
    rfl
  · obtain ⟨x, d, v, a, dx, rfl, hd, ha, hn, q1, q2, q3⟩ := h
    refine ⟨_, (pss_cons (ps_set (i := 2) sc_Pred_init.nd rfl (Or.inl rfl) (C8.pe_c c_pred_level hr (by omega) (by rfl) (pa_cons (pv 1) pa_nil)))
      (pss_cons (ps_if (pt_cmpR op_eq (pv 2) pe_int (nomark _)) (pss_one (ps_rz rz1 tk rfl (hr.mono (by omega)) (by rfl) (pa_cons pe_int pa_nil))) pss_nil)
      (pss_cons (ps_if (pt_cmpR op_gt (pv 2) (C8.pe_gc (v := .int 40) rfl T.v_LEVELS) (nomark _)) (pss_one (ps_rz rz2 tk rfl (hr.mono (by omega)) (by rfl) (pa_cons (C8.pe_gc (v := .int 40) rfl T.v_LEVELS) pa_nil))) pss_nil)
      (pss_cons (ps_fld (pv 0) (pv 1) rfl)
      (pss_one (ps_fld (pv 0) (pv 2) rfl)))))), ?_⟩
    walk_at "xs"
    refine i_pred hd hn fun H1 s1 => ?_
    walk_at "xs"
    refine x_eqi (fun h1 => ?_) (fun h1 => ?_)
    · walk_at "xs"
      refine x_rz ?_
      walk_at "xs"
      refine i_rz (by decide) (by decide +kernel) fun dd H2 s2 e => ?_
      exact q1 (by omega) H2 dd (s1.trans s2) e
    walk_at "xs"
    refine x_dec (fun h2 => ?_) (fun h2 => ?_)
    · walk_at "xs"
      refine x_rz ?_
      walk_at "xs"
      refine i_rz (by decide) (by decide +kernel) fun dd H2 s2 e => ?_
      exact q2 (by omega) H2 dd (s1.trans s2) e
    · walk_at "xs"
      refine ⟨a, cP, dx, _, rfl, s1 _ _ ha, KC.tP.cl, KC.tP.tree, by decide, ?_⟩
      walk_at "xs"
      refine ⟨a, cP, dx, _, rfl, L2.upd_same, KC.tP.cl, KC.pLev, by show 1 < 1000; omega, ?_⟩
      walk_at "xs"
      refine q3 (by omega) (by omega) _ (fun b o n e => ?_) L2.upd_same
      rw [L2.upd_ne n, L2.upd_ne n]
      exact s1 _ _ e
theorem k_Wish_init {n : Nat} (T : Nm K mg) (KC : Kc P K mg cP cW cB cT cO) (c_wish_level : CalK P w K mg base (4 + n + 1) "wish_level" (spWish n)) :
    ∃ f fd, Mk K cW f ∧ FnOk P w K mg base (L2N.CX P w) (4 + n + 1 + 1) f fd ["self", "tree"] (spWi cW cB cT n) ∧ Binds K fd ["self", "tree"] [] := by
  obtain ⟨f, fd, Ff, M, b⟩ := KC.wMk
  have rz1 := rz_BadWish (w := w) (base := base) KC.eB
  have rz2 := rz_TooMany (w := w) (base := base) KC.eT
  refine ⟨f, fd, M, okN Ff sc_Wish_init (fun vs H Q E h => ?_) (fun cdv A outer s H vs Q E hr h tk => ?_), b⟩
  · obtain ⟨x, d, v, a, dx, rfl, _⟩ := h
    rfl
  · obtain ⟨x, d, v, a, dx, rfl, hd, ha, hn, q1, q2, q3⟩ := h
    refine ⟨_, (pss_cons (ps_set (i := 2) sc_Wish_init.nd rfl (Or.inl rfl) (C8.pe_c c_wish_level hr (by omega) (by rfl) (pa_cons (pv 1) pa_nil)))
      (pss_cons (ps_if (pt_cmpR op_lt (pv 2) pe_int (nomark _)) (pss_one (ps_rz rz1 tk rfl (hr.mono (by omega)) (by rfl) (pa_cons pe_int pa_nil))) pss_nil)
      (pss_cons (ps_if (pt_cmpR op_gt (pv 2) (C8.pe_gc (v := .int 40) rfl T.v_LEVELS) (nomark _)) (pss_one (ps_rz rz2 tk rfl (hr.mono (by omega)) (by rfl) (pa_cons (C8.pe_gc (v := .int 40) rfl T.v_LEVELS) pa_nil))) pss_nil)
      (pss_cons (ps_fld (pv 0) (pv 1) rfl)
      (pss_one (ps_fld (pv 0) (pe_ix (r := rIxT K) ix_tup (pv 1) pe_int (fun _ _ => rfl)) rfl)))))), ?_⟩
    walk_at "xs"
    refine i_wish hd hn fun H1 s1 => ?_
    walk_at "xs"
    refine x_dec (fun h1 => ?_) (fun h1 => ?_)
    · walk_at "xs"
      refine x_rz ?_
      walk_at "xs"
      refine i_rz (by decide) (by decide +kernel) fun dd H2 s2 e => ?_
      exact q1 (by omega) H2 dd (s1.trans s2) e
    walk_at "xs"
    refine x_dec (fun h2 => ?_) (fun h2 => ?_)
    · walk_at "xs"
      refine x_rz ?_
      walk_at "xs"
      refine i_rz (by decide) (by decide +kernel) fun dd H2 s2 e => ?_
      exact q2 (by omega) H2 dd (s1.trans s2) e
    · have hk : kindD d = true := by
        cases hk : kindD d with
        | true => rfl
        | false =>
          have := wishLevel_kind hk
          omega
      obtain ⟨k, r, rfl⟩ := kindD_true hk
      obtain ⟨at', xs, rfl, ht, hxs⟩ := hd
      obtain ⟨v0, vr, rfl, ⟨rfl, hkl⟩, hr'⟩ := hxs
      walk_at "xs"
      refine ⟨a, cW, dx, _, rfl, s1 _ _ ha, KC.tW.cl, KC.tW.tree, by decide, ?_⟩
      walk_at "xs"
      have hne : at' ≠ a := ne_of (s1 _ _ ht) (s1 _ _ ha) (fun z => by cases z)
      refine x_tupI (SqT.of (by rw [L2.upd_ne hne]; exact s1 _ _ ht)) (atI_nat (j := 0) rfl) ?_
      walk_at "xs"
      refine ⟨a, cW, dx, _, rfl, L2.upd_same, KC.tW.cl, KC.wKind, by show 1 < 1000; omega, ?_⟩
      walk_at "xs"
      refine q3 (by omega) (by omega) _ (fun b o n e => ?_) L2.upd_same
      rw [L2.upd_ne n, L2.upd_ne n]
      exact s1 _ _ e
/-! ### making -/
def MakN (P : Program) (w : World) (K : PySem.W.Frag) (mg : Str → Option Value) (base : Heap) (k : Nat) (x : Str) (C : Addr) (ps : List Str) (sp : Sp) : Prop := ∃ f fd, Mk K C f ∧ FnOk P w K mg base (L2N.CX P w) k f fd ps sp ∧ Binds K fd ps [] ∧ mg x = some (.ref C)
theorem pe_mkN {X : Cx} {x : Str} {C : Addr} {ps : List Str} {sp : Sp} {k j : Nat} {E : XK} {e : Expr} {es : List Expr} {t : TA} {p pos : Pos} (c : MakN X.prog X.w X.K X.mg X.base k x C ps sp) (hr : Room j X.A) (hk : k + 1 ≤ j) (hx : Passes (L2N.CX X.prog X.w) X E) (hg : Gl X x) (ha : PA X (e :: es) t)
    (hdb : (x == ("__debug__" : Str)) = false := by decide) (he : starEach (e :: es) X.env = (false, eval e X.env) :: starEach es X.env := by rfl) (hpl : (backTo pos (starEach es X.env)).any (·.1) = false := by rfl) :
    PE X (.Call (.Name x p) (e :: es) [] pos) (tMake C sp [] E t) := by
  obtain ⟨f, fd, M, F, b, m⟩ := c
  exact pe_make M F (hr.mono hk) hg m b .nil hx ha hdb he hpl
theorem passN0 {X : Cx} : Passes (L2N.CX X.prog X.w) X E0 := fun _ _ _ _ _ _ _ h => by
  obtain ⟨_, _, _, _, _, _, _, _, _, _, _, _, z⟩ := h
  exact z.elim
theorem passTk {X : Cx} {E : XK} (tk : L2N.Takes X (fun cls d _ H' => E cls d H')) : Passes (L2N.CX X.prog X.w) X E := fun pins σ H s e s' I c => tk e s' (L2N.XE.of_call I (fun _ _ _ h => h) c)
theorem i_Pred {x : Addr} {d : PyData} {v : V} {n : Nat} {H : Hp} {Q : VK} {E : XK} (hd : At x H d v) (hn : hgt d < n) (o : OutP cP cB cT x d H Q E) :
    ∀ a dx, H a = none → H dx = none → dx ≠ a → spPi cP cB cT n (.ref a :: ([v] ++ [])) (L2.upd (L2.upd H dx (.own a)) a (.ins cP dx [])) (fun v H2 => v = .non ∧ Q (.ref a) H2) E := fun a dx na nd ne => by
  have s1 : Same H (L2.upd (L2.upd H dx (.own a)) a (.ins cP dx [])) := fun b u e => by
    rw [L2.upd_ne (ne_of_none e na), L2.upd_ne (ne_of_none e nd)]
    exact e
  refine ⟨x, d, v, a, dx, rfl, hd.same s1, L2.upd_same, hn, fun l H' dd s' => o.1 l H' dd (s1.trans s'), fun l H' dd s' => o.2.1 l H' dd (s1.trans s'), fun l l' H' k e => ⟨rfl, ?_⟩⟩
  have s2 : Same H H' := fun b u z => k b u (ne_of_none z na) (s1 b u z)
  exact o.2.2 l l' H' a s2 ⟨dx, v, e, hd.same s2⟩
theorem i_Wish {x : Addr} {d : PyData} {v : V} {n : Nat} {H : Hp} {Q : VK} {E : XK} (hd : At x H d v) (hn : hgt d ≤ n) (o : OutW cW cB cT x d H Q E) :
    ∀ a dx, H a = none → H dx = none → dx ≠ a → spWi cW cB cT n (.ref a :: ([v] ++ [])) (L2.upd (L2.upd H dx (.own a)) a (.ins cW dx [])) (fun v H2 => v = .non ∧ Q (.ref a) H2) E := fun a dx na nd ne => by
  have s1 : Same H (L2.upd (L2.upd H dx (.own a)) a (.ins cW dx [])) := fun b u e => by
    rw [L2.upd_ne (ne_of_none e na), L2.upd_ne (ne_of_none e nd)]
    exact e
  refine ⟨x, d, v, a, dx, rfl, hd.same s1, L2.upd_same, hn, fun l H' dd s' => o.1 l H' dd (s1.trans s'), fun l H' dd s' => o.2.1 l H' dd (s1.trans s'), fun l l' H' k e => ⟨rfl, ?_⟩⟩
  have s2 : Same H H' := fun b u z => k b u (ne_of_none z na) (s1 b u z)
  exact o.2.2 l l' H' a s2 ⟨dx, v, e, hd.same s2⟩
end
end K76

set_option Elab.async false
set_option linter.all false
set_option maxRecDepth 100000
/-! the methods of Pred and Wish -/
namespace K76
open PySem PySem.Spec PyProof.Rows L2 SX
local macro_rules | `(tactic| walk_at "x") => `(tactic| with_reducible first
  | refine x_seq ?_ | refine x_asg ?_ | refine x_op ?_ | refine x_cons ?_ | refine x_nil ?_ | refine x_c ?_ | refine x_name ?_ | refine x_cb ?_ | refine x_call ?_ | refine x_ret ?_ | refine x_ifS ?_
  | refine x_test ?_ | refine x_bl ?_ | refine x_I0 ?_ | refine x_sub ?_ | refine x_tup ?_ | refine x_lst ?_ | refine x_and ?_ | refine x_or ?_ | refine x_not ?_ | refine x_if ?_ | refine x_andV ?_ | refine x_orV ?_ | refine x_notV ?_
  | refine x_retN ?_ | refine x_drop ?_ | refine x_next ?_ | refine x_un ?_ | refine x_B ?_ | refine x_sl ?_ | refine x_noPart ?_ | refine x_part ?_ | refine x_chain ?_ | refine x_int ?_
  | refine x_eqI ?_ | refine x_eqS ?_ | refine x_neI ?_ | refine x_neS ?_ | refine x_eqB ?_ | refine x_neB ?_ | refine x_toI ?_ | refine x_absI ?_ | refine x_mx2 ?_ | refine x_M1 ?_ | refine x_isS ?_ | refine iteT ?_ | refine iteF ?_ | refine x_lc ?_ | refine x_for ?_ | refine x_rng1 ?_ | refine x_iList ?_ | refine x_iTup ?_ | refine x_yes ?_ | refine x_iStr ?_ | refine x_gcons ?_ | refine x_gnil ?_ | refine x_neg ?_ | refine x_sfld ?_ | refine x_tfld ?_ | refine x_make ?_ | refine x_bm ?_)
local macro_rules | `(tactic| walk_at "xs") => `(tactic| repeat (first | walk_at "x" | ((with_reducible show tVar _ _ _ _); refine x_var rfl ?_)))
def EqV (K : PySem.W.Frag) (C x : Addr) (H : Hp) (a : Addr) (y : V) (r : Bool) : Prop := ∃ dx fs v d, H a = some (.ins C dx fs) ∧ fs.lookup ("tree" : Str) = some v ∧ At x H d v ∧ noL d = true ∧ SeqAt.shaped d = true ∧
  ((∃ b dy gs u e, y = .ref b ∧ H b = some (.ins C dy gs) ∧ gs.lookup ("tree" : Str) = some u ∧ At x H e u ∧ noL e = true ∧ SeqAt.shaped e = true ∧ r = PyData.eqv d e) ∨ (∃ t, TyX K H y t ∧ PySem.W.kitOne K t (.ref C) = some false ∧ PySem.W.notFirst K C t = true ∧ r = false))
theorem EqV.ins {K : PySem.W.Frag} {C x : Addr} {H : Hp} {a : Addr} {y : V} {r : Bool} (h : EqV K C x H a y r) : ∃ dx fs, H a = some (.ins C dx fs) := by
  obtain ⟨dx, fs, _, _, e, _⟩ := h
  exact ⟨dx, fs, e⟩
theorem EqV.ty {K : PySem.W.Frag} {C x : Addr} {H : Hp} {a : Addr} {y : V} {r : Bool} (c : Cl K C) (h : EqV K C x H a y r) : ∃ t, TyX K H y t ∧ PySem.W.notFirst K C t = true := by
  obtain ⟨_, _, _, _, _, _, _, _, _, h⟩ := h
  rcases h with ⟨b, dy, gs, u, e, rfl, hb, _⟩ | ⟨t, ty, _, hn, _⟩
  · exact ⟨_, c.ty hb, by simp [PySem.W.notFirst]⟩
  · exact ⟨t, ty, hn⟩
def spEqO (K : PySem.W.Frag) (C : Addr) : Sp := fun vs H Q _ => ∃ x a y r, vs = [.ref a, y] ∧ EqV K C x H a y r ∧ Q (.bl r) H
def spNeO (K : PySem.W.Frag) (C : Addr) : Sp := fun vs H Q _ => ∃ x a y r, vs = [.ref a, y] ∧ EqV K C x H a y r ∧ Q (.bl (!r)) H
def spBin (cP cB cT : Addr) (n : Nat) (kd : Str) : Sp := fun vs H Q E => ∃ x a b d1 d2, vs = [.ref a, .ref b] ∧ PredAt cP x H a d1 ∧ PredAt cP x H b d2 ∧ hgt (.tuple [.str kd, d1, d2]) < n ∧ OutP cP cB cT x (.tuple [.str kd, d1, d2]) H Q E
def spInv (cP cB cT : Addr) (n : Nat) : Sp := fun vs H Q E => ∃ x a d1, vs = [.ref a] ∧ PredAt cP x H a d1 ∧ hgt (.tuple [.str "not", d1]) < n ∧ OutP cP cB cT x (.tuple [.str "not", d1]) H Q E
section
variable {P : Program} {w : World} {K : PySem.W.Frag} {mg : Str → Option Value} {base : Heap} {cP cW cB cT cO : Addr}
theorem k_Pred_eq (T : Nm K mg) (KC : Kc P K mg cP cW cB cT cO) : ∃ f fd, Meth K cP "__eq__" f ∧ FnOk P w K mg base L2.CX0 1 f fd ["self", "other"] (spEqO K cP) ∧ Binds K fd ["self", "other"] [] := by
  obtain ⟨f, fd, Ff, M, b⟩ := KC.pEq
  refine ⟨f, fd, M, Ff.ok sc_Pred_eq (fun vs H Q E h => ?_) (fun cdv A outer s H vs Q E hr h => ?_), b⟩
  · obtain ⟨x, a, y, r, rfl, _⟩ := h
    rfl
  · obtain ⟨x, a, y, r, rfl, ⟨dx, fs, v, d, ha, hl, hd, hn, hs, h⟩, q⟩ := h
    refine ⟨_, (pss_one (ps_ret (pe_and (pe_callB (id := "isinstance") (r := rIsi K) call_isi (by rfl) T.n_isinstance (by decide +kernel) (pa_cons (pv 1) (pa_cons (C8.pe_gc (v := .ref cP) rfl ⟨_, KC.mP, rfl⟩) pa_nil))) (pe_one (pe_cmpR (op_eqD hr.units) (pe_fld (pv 0) rfl) (pe_fld (pv 1) rfl) (nomark _)))))), ?_⟩
    walk_at "xs"
    rcases h with ⟨b, dy, gs, u, e, rfl, hb, hl2, he, hn2, hs2, rfl⟩ | ⟨t, ty, hk, hn, rfl⟩
    · refine ⟨.ref b, .ref cP, _, _, _, rfl, .own _, KC.tP.ty hb, KC.tP.self, ?_⟩
      walk_at "xs"
      refine ⟨a, cP, dx, fs, v, rfl, ha, KC.tP.cl, KC.tP.tree, hl, ?_⟩
      walk_at "xs"
      refine ⟨b, cP, dy, gs, u, rfl, hb, KC.tP.cl, KC.tP.tree, hl2, ?_⟩
      exact ⟨d, e, hd.dp hn, he.dp hn2, hs, hs2, q⟩
    · refine ⟨y, .ref cP, _, _, _, rfl, .own _, ty, hk, ?_⟩
      walk_at "xs"
      exact q
theorem k_Wish_eq (T : Nm K mg) (KC : Kc P K mg cP cW cB cT cO) : ∃ f fd, Meth K cW "__eq__" f ∧ FnOk P w K mg base L2.CX0 1 f fd ["self", "other"] (spEqO K cW) ∧ Binds K fd ["self", "other"] [] := by
  obtain ⟨f, fd, Ff, M, b⟩ := KC.wEq
  refine ⟨f, fd, M, Ff.ok sc_Wish_eq (fun vs H Q E h => ?_) (fun cdv A outer s H vs Q E hr h => ?_), b⟩
  · obtain ⟨x, a, y, r, rfl, _⟩ := h
    rfl
  · obtain ⟨x, a, y, r, rfl, ⟨dx, fs, v, d, ha, hl, hd, hn, hs, h⟩, q⟩ := h
    refine ⟨_, (pss_one (ps_ret (pe_and (pe_callB (id := "isinstance") (r := rIsi K) call_isi (by rfl) T.n_isinstance (by decide +kernel) (pa_cons (pv 1) (pa_cons (C8.pe_gc (v := .ref cW) rfl ⟨_, KC.mW, rfl⟩) pa_nil))) (pe_one (pe_cmpR (op_eqD hr.units) (pe_fld (pv 0) rfl) (pe_fld (pv 1) rfl) (nomark _)))))), ?_⟩
    walk_at "xs"
    rcases h with ⟨b, dy, gs, u, e, rfl, hb, hl2, he, hn2, hs2, rfl⟩ | ⟨t, ty, hk, hn, rfl⟩
    · refine ⟨.ref b, .ref cW, _, _, _, rfl, .own _, KC.tW.ty hb, KC.tW.self, ?_⟩
      walk_at "xs"
      refine ⟨a, cW, dx, fs, v, rfl, ha, KC.tW.cl, KC.tW.tree, hl, ?_⟩
      walk_at "xs"
      refine ⟨b, cW, dy, gs, u, rfl, hb, KC.tW.cl, KC.tW.tree, hl2, ?_⟩
      exact ⟨d, e, hd.dp hn, he.dp hn2, hs, hs2, q⟩
    · refine ⟨y, .ref cW, _, _, _, rfl, .own _, ty, hk, ?_⟩
      walk_at "xs"
      exact q
theorem k_Pred_ne (T : Nm K mg) (KC : Kc P K mg cP cW cB cT cO) : ∃ f fd, Meth K cP "__ne__" f ∧ FnOk P w K mg base L2.CX0 2 f fd ["self", "other"] (spNeO K cP) ∧ Binds K fd ["self", "other"] [] := by
  obtain ⟨f, fd, Ff, M, b⟩ := KC.pNe
  obtain ⟨fe, fde, Me, Fe, be⟩ := k_Pred_eq (w := w) (base := base) T KC
  refine ⟨f, fd, M, Ff.ok sc_Pred_ne (fun vs H Q E h => ?_) (fun cdv A outer s H vs Q E hr h => ?_), b⟩
  · obtain ⟨x, a, y, r, rfl, _⟩ := h
    rfl
  · obtain ⟨x, a, y, r, rfl, e, q⟩ := h
    refine ⟨_, (pss_one (ps_ret (pe_not (pe_cmpR (op_ownL (op := .Eq) (E := E0) (fun _ _ => rfl) Me.at_ Me.fn Fe be (hr.mono (by omega)) pass0) (pv 0) (pv 1) (nomark _))))), ?_⟩
    walk_at "xs"
    obtain ⟨dx, fs, ha⟩ := e.ins
    obtain ⟨t, ty, hn⟩ := e.ty KC.tP
    exact ⟨a, dx, fs, t, rfl, ha, ty, hn, x, a, y, r, rfl, e, _, rfl, q⟩
theorem k_Wish_ne (T : Nm K mg) (KC : Kc P K mg cP cW cB cT cO) : ∃ f fd, Meth K cW "__ne__" f ∧ FnOk P w K mg base L2.CX0 2 f fd ["self", "other"] (spNeO K cW) ∧ Binds K fd ["self", "other"] [] := by
  obtain ⟨f, fd, Ff, M, b⟩ := KC.wNe
  obtain ⟨fe, fde, Me, Fe, be⟩ := k_Wish_eq (w := w) (base := base) T KC
  refine ⟨f, fd, M, Ff.ok sc_Wish_ne (fun vs H Q E h => ?_) (fun cdv A outer s H vs Q E hr h => ?_), b⟩
  · obtain ⟨x, a, y, r, rfl, _⟩ := h
    rfl
  · obtain ⟨x, a, y, r, rfl, e, q⟩ := h
    refine ⟨_, (pss_one (ps_ret (pe_not (pe_cmpR (op_ownL (op := .Eq) (E := E0) (fun _ _ => rfl) Me.at_ Me.fn Fe be (hr.mono (by omega)) pass0) (pv 0) (pv 1) (nomark _))))), ?_⟩
    walk_at "xs"
    obtain ⟨dx, fs, ha⟩ := e.ins
    obtain ⟨t, ty, hn⟩ := e.ty KC.tW
    exact ⟨a, dx, fs, t, rfl, ha, ty, hn, x, a, y, r, rfl, e, _, rfl, q⟩
theorem pred_tree {v : V} {l : Nat} : (predFs v l).lookup ("tree" : Str) = some v := rfl
theorem k_Pred_and {n : Nat} (T : Nm K mg) (KC : Kc P K mg cP cW cB cT cO) (c_Pred : MakN P w K mg base (4 + n + 1) "Pred" cP ["self", "tree"] (spPi cP cB cT n)) :
    ∃ f fd, Meth K cP "__and__" f ∧ FnOk P w K mg base (L2N.CX P w) (4 + n + 2 + 1) f fd ["self", "other"] (spBin cP cB cT n "and") ∧ Binds K fd ["self", "other"] [] := by
  obtain ⟨f, fd, Ff, M, b⟩ := KC.pAnd
  refine ⟨f, fd, M, okN Ff sc_Pred_and (fun vs H Q E h => ?_) (fun cdv A outer s H vs Q E hr h tk => ?_), b⟩
  · obtain ⟨x, a, b, d1, d2, rfl, _⟩ := h
    rfl
  · obtain ⟨x, a, b, d1, d2, rfl, ⟨dx, v1, ha, h1⟩, ⟨dy, v2, hb, h2⟩, hn, o⟩ := h
    have hx := passTk tk
    refine ⟨_, (pss_cons (ps_if (pt_not (pt_val (pe_callB (id := "isinstance") (r := rIsi K) call_isi (by rfl) T.n_isinstance (by decide +kernel) (pa_cons (pv 1) (pa_cons (C8.pe_gc (v := .ref cP) rfl ⟨_, KC.mP, rfl⟩) pa_nil))))) (pss_one ps_never) pss_nil)
      (pss_one (ps_ret (pe_mkN c_Pred hr (by omega) hx (by rfl) (pa_cons (pe_tup (pa_cons pe_str (pa_cons (pe_fld (pv 0) rfl) (pa_cons (pe_fld (pv 1) rfl) pa_nil)))) pa_nil))))), ?_⟩
    walk_at "xs"
    refine ⟨.ref b, .ref cP, _, _, _, rfl, .own _, KC.tP.ty hb, KC.tP.self, ?_⟩
    walk_at "xs"
    refine iteF ?_
    walk_at "xs"
    refine ⟨a, cP, dx, _, v1, rfl, ha, KC.tP.cl, KC.tP.tree, pred_tree, ?_⟩
    walk_at "xs"
    refine ⟨b, cP, dy, _, v2, rfl, hb, KC.tP.cl, KC.tP.tree, pred_tree, ?_⟩
    walk_at "xs"
    refine ⟨by show 3 ≤ sizeLine; decide, fun p np => ?_⟩
    have s1 := same_new (o := .tup [.str "and", v1, v2]) np
    exact i_Pred (x := x) (d := .tuple [.str "and", d1, d2]) ⟨p, _, rfl, L2.upd_same, _, _, rfl, ⟨rfl, by decide⟩, _, _, rfl, h1.same s1, _, _, rfl, h2.same s1, rfl⟩ hn (o.same s1)
theorem k_Pred_or {n : Nat} (T : Nm K mg) (KC : Kc P K mg cP cW cB cT cO) (c_Pred : MakN P w K mg base (4 + n + 1) "Pred" cP ["self", "tree"] (spPi cP cB cT n)) :
    ∃ f fd, Meth K cP "__or__" f ∧ FnOk P w K mg base (L2N.CX P w) (4 + n + 2 + 1) f fd ["self", "other"] (spBin cP cB cT n "or") ∧ Binds K fd ["self", "other"] [] := by
  obtain ⟨f, fd, Ff, M, b⟩ := KC.pOr
  refine ⟨f, fd, M, okN Ff sc_Pred_or (fun vs H Q E h => ?_) (fun cdv A outer s H vs Q E hr h tk => ?_), b⟩
  · obtain ⟨x, a, b, d1, d2, rfl, _⟩ := h
    rfl
  · obtain ⟨x, a, b, d1, d2, rfl, ⟨dx, v1, ha, h1⟩, ⟨dy, v2, hb, h2⟩, hn, o⟩ := h
    have hx := passTk tk
    refine ⟨_, (pss_cons (ps_if (pt_not (pt_val (pe_callB (id := "isinstance") (r := rIsi K) call_isi (by rfl) T.n_isinstance (by decide +kernel) (pa_cons (pv 1) (pa_cons (C8.pe_gc (v := .ref cP) rfl ⟨_, KC.mP, rfl⟩) pa_nil))))) (pss_one ps_never) pss_nil)
      (pss_one (ps_ret (pe_mkN c_Pred hr (by omega) hx (by rfl) (pa_cons (pe_tup (pa_cons pe_str (pa_cons (pe_fld (pv 0) rfl) (pa_cons (pe_fld (pv 1) rfl) pa_nil)))) pa_nil))))), ?_⟩
    walk_at "xs"
    refine ⟨.ref b, .ref cP, _, _, _, rfl, .own _, KC.tP.ty hb, KC.tP.self, ?_⟩
    walk_at "xs"
    refine iteF ?_
    walk_at "xs"
    refine ⟨a, cP, dx, _, v1, rfl, ha, KC.tP.cl, KC.tP.tree, pred_tree, ?_⟩
    walk_at "xs"
    refine ⟨b, cP, dy, _, v2, rfl, hb, KC.tP.cl, KC.tP.tree, pred_tree, ?_⟩
    walk_at "xs"
    refine ⟨by show 3 ≤ sizeLine; decide, fun p np => ?_⟩
    have s1 := same_new (o := .tup [.str "or", v1, v2]) np
    exact i_Pred (x := x) (d := .tuple [.str "or", d1, d2]) ⟨p, _, rfl, L2.upd_same, _, _, rfl, ⟨rfl, by decide⟩, _, _, rfl, h1.same s1, _, _, rfl, h2.same s1, rfl⟩ hn (o.same s1)
theorem k_Pred_invert {n : Nat} (T : Nm K mg) (KC : Kc P K mg cP cW cB cT cO) (c_Pred : MakN P w K mg base (4 + n + 1) "Pred" cP ["self", "tree"] (spPi cP cB cT n)) :
    ∃ f fd, Meth K cP "__invert__" f ∧ FnOk P w K mg base (L2N.CX P w) (4 + n + 2 + 1) f fd ["self"] (spInv cP cB cT n) ∧ Binds K fd ["self"] [] := by
  obtain ⟨f, fd, Ff, M, b⟩ := KC.pInv
  refine ⟨f, fd, M, okN Ff sc_Pred_invert (fun vs H Q E h => ?_) (fun cdv A outer s H vs Q E hr h tk => ?_), b⟩
  · obtain ⟨x, a, d1, rfl, _⟩ := h
    rfl
  · obtain ⟨x, a, d1, rfl, ⟨dx, v1, ha, h1⟩, hn, o⟩ := h
    have hx := passTk tk
    refine ⟨_, (pss_one (ps_ret (pe_mkN c_Pred hr (by omega) hx (by rfl) (pa_cons (pe_tup (pa_cons pe_str (pa_cons (pe_fld (pv 0) rfl) pa_nil))) pa_nil)))), ?_⟩
    walk_at "xs"
    refine ⟨a, cP, dx, _, v1, rfl, ha, KC.tP.cl, KC.tP.tree, pred_tree, ?_⟩
    walk_at "xs"
    refine ⟨by show 2 ≤ sizeLine; decide, fun p np => ?_⟩
    have s1 := same_new (o := .tup [.str "not", v1]) np
    exact i_Pred (x := x) (d := .tuple [.str "not", d1]) ⟨p, _, rfl, L2.upd_same, _, _, rfl, ⟨rfl, by decide⟩, _, _, rfl, h1.same s1, rfl⟩ hn (o.same s1)
/-- the property level -/
theorem k_Pred_level (KC : Kc P K mg cP cW cB cT cO) : ∃ p g fd, PropOf K cP "level" p g ∧ FnOk P w K mg base L2.CX0 1 g fd ["self"] (getSp cP "own_level") ∧ Binds K fd ["self"] [] := by
  obtain ⟨p, g, fd, hp, Ff, b⟩ := KC.pPr
  refine ⟨p, g, fd, hp, Ff.ok sc_Pred_level (fun vs H Q E h => ?_) (fun cdv A outer s H vs Q E hr h => ?_), b⟩
  · obtain ⟨a, dx, fs, v, rfl, _⟩ := h
    rfl
  · obtain ⟨a, dx, fs, v, rfl, ha, l, q⟩ := h
    refine ⟨_, (pss_one (ps_ret (pe_fld (pv 0) rfl))), ?_⟩
    walk_at "xs"
    exact ⟨a, cP, dx, fs, v, rfl, ha, KC.tP.cl, KC.pLev, l, q⟩
end
end K76

set_option Elab.async false
set_option linter.all false
set_option maxRecDepth 100000
/-! names, letters, trees that are right -/
namespace K76
open PySem PySem.Spec PyProof.Rows L2 SX
theorem az_mem {c : Nat} (h : 97 ≤ c ∧ c ≤ 122) : c ∈ azS.cps.toList := by
  have z : ∀ k < 26, 97 + k ∈ azS.cps.toList := by decide +kernel
  have := z (c - 97) (by omega)
  rwa [show 97 + (c - 97) = c by omega] at this
theorem isName_S {l : List Nat} (h : Nam l) : isName (SX.S l) = true := by
  show (decide (1 ≤ (SX.S l).length) && (decide ((SX.S l).length ≤ 8) && l.all fun c => decide (c ∈ azS.cps.toList))) = true
  rw [S_len, decide_eq_true h.1, decide_eq_true h.2.1, Bool.true_and, Bool.true_and, List.all_eq_true]
  exact fun c hc => decide_eq_true (az_mem (h.2.2 c hc))
theorem low_ok {l : List Nat} (h : ∀ c ∈ l, c ≤ 122) : PyData.strOk (SX.S l) = true := by
  show l.toArray.all (· < 0x110000) = true
  rw [← Array.all_toList]
  show l.all _ = true
  rw [List.all_eq_true]
  intro c hc
  have := h c hc
  exact decide_eq_true (by omega)
/-- a name that may stand in a tree -/
structure NmS (z : Str) : Prop where
  fr : freeName z = true
  ok : PyData.strOk z = true
  len : z.length ≤ 100
theorem NmS.of {z : Str} (h : Fre z) : NmS z := by
  obtain ⟨⟨l, rfl, n⟩, ht⟩ := h
  refine ⟨?_, low_ok fun c hc => (n.2.2 c hc).2, by rw [S_len]; have := n.2.1; omega⟩
  show (isName (SX.S l) && !decide (SX.S l ∈ taken)) = true
  rw [isName_S n, decide_eq_false ht] <;> rfl
structure LtS (z : Str) : Prop where
  fr : isLetter z = true
  ok : PyData.strOk z = true
  len : z.length ≤ 100
theorem num_facts : ∀ n < 100, shortNum (SX.S (TL.numL n)) = true ∧ (TL.numL n).all (fun c => decide (c ≤ 122)) = true := by decide +kernel
theorem LtS.of {l : List Nat} (h : Let l) : LtS (SX.S l) := by
  have hl := h.len
  rcases h with h | ⟨a, n, h, hn, rfl⟩
  · have no : (46 : Nat) ∉ TL.tl (SX.S l) := fun z => by
      have := h.2.2 46 z
      omega
    refine ⟨?_, low_ok fun c hc => (h.2.2 c hc).2, by rw [S_len]; omega⟩
    unfold isLetter
    rw [TL.partition_none (y := ".") (s := 46) (S := []) rfl no]
    rw [if_pos (show Str.empty = ("" : Str) by decide +kernel)]
    exact isName_S h
  · have no : (46 : Nat) ∉ TL.tl (SX.S a) := fun z => by
      have := h.2.2 46 z
      omega
    obtain ⟨f1, f2⟩ := num_facts n (by omega)
    have e : SX.S (a ++ 46 :: TL.numL n) = SX.S a ++ "." ++ SX.S (TL.numL n) := by
      have e1 : ("." : Str) = SX.S [46] := by decide +kernel
      rw [e1, S_cat, S_cat, List.append_assoc] <;> rfl
    refine ⟨?_, low_ok fun c hc => ?_, by rw [S_len]; omega⟩
    · unfold isLetter
      rw [e, TL.partition_app (y := ".") (s := 46) (S := []) rfl no]
      rw [if_neg (show ¬ ("." : Str) = "" by decide +kernel)]
      show (isName (SX.S a) && shortNum (SX.S (TL.numL n))) = true
      rw [isName_S h, f1] <;> rfl
    · rcases List.mem_append.mp hc with hc | hc
      · exact (h.2.2 c hc).2
      · rcases List.mem_cons.mp hc with hc | hc
        · omega
        · exact of_decide_eq_true (List.all_eq_true.mp f2 c hc)
/-- a tree that is right -/
inductive VT : PyData → Prop
  | one {k : Str} (h : k ∈ single) : VT (.tuple [.str k])
  | at_ {a : Str} {p : Int} (h : NmS a) (h0 : 0 ≤ p) (h1 : p ≤ 99) : VT (.tuple [.str "at", .str a, .int p])
  | has {a b : Str} (h : NmS a) (h' : NmS b) (n : a ≠ b) : VT (.tuple [.str "has", .str a, .str b])
  | head {a b l : Str} (h : NmS a) (h' : NmS b) (n : a ≠ b) (hl : LtS l) : VT (.tuple [.str "head", .str a, .str b, .str l])
  | nt {d : PyData} (h : VT d) : VT (.tuple [.str "not", d])
  | bin {k : Str} {d e : PyData} (hk : k = "and" ∨ k = "or") (h : VT d) (h' : VT e) : VT (.tuple [.str k, d, e])
theorem pair_ok {a b : Str} (h : NmS a) (h' : NmS b) (n : a ≠ b) : pairD (.str a) (.str b) = true := by
  show (freeName a && (freeName b && !decide (a = b))) = true
  rw [h.fr, h'.fr, decide_eq_false n] <;> rfl
theorem hgts_eq (d : PyData) (ds : List PyData) : hgt.hgts (d :: ds) = max (hgt d) (hgt.hgts ds) := by simp [hgt.hgts]
theorem hgts_nil : hgt.hgts [] = 0 := by simp [hgt.hgts]
theorem hgt_tuple (ds : List PyData) : hgt (.tuple ds) = hgt.hgts ds + 1 := by simp [hgt]
theorem hgt_str (z : Str) : hgt (.str z) = 0 := by simp [hgt]
theorem hgt_int (z : Int) : hgt (.int z) = 0 := by simp [hgt]
theorem hgt1 (k : Str) : hgt (.tuple [.str k]) = 1 := by rw [hgt_tuple, hgts_eq, hgts_nil, hgt_str] <;> rfl
theorem hgt2 (k : Str) (d : PyData) : hgt (.tuple [.str k, d]) = hgt d + 1 := by
  rw [hgt_tuple, hgts_eq, hgts_eq, hgts_nil, hgt_str]
  omega
theorem hgt3 (k : Str) (d e : PyData) : hgt (.tuple [.str k, d, e]) = max (hgt d) (hgt e) + 1 := by
  rw [hgt_tuple, hgts_eq, hgts_eq, hgts_eq, hgts_nil, hgt_str]
  omega
theorem hgt4 (k : Str) (d e f : PyData) : hgt (.tuple [.str k, d, e, f]) = max (hgt d) (max (hgt e) (hgt f)) + 1 := by
  rw [hgt_tuple, hgts_eq, hgts_eq, hgts_eq, hgts_eq, hgts_nil, hgt_str]
  omega
theorem VT.level : ∀ {d : PyData}, VT d → predLevel d = hgt d ∧ 1 ≤ hgt d
  | _, .one (k := k) h => by
    have n1 : ¬ k = "not" := fun e => absurd h (by rw [e]; decide +kernel)
    have n2 : ¬ (k = "and" ∨ k = "or") := fun e => by
      rcases e with e | e
      · exact absurd h (by rw [e]; decide +kernel)
      · exact absurd h (by rw [e]; decide +kernel)
    rw [predLevel_tup, if_neg n1, if_neg n2, atomOk_single h, hgt1]
    exact ⟨rfl, Nat.le_refl _⟩
  | _, .at_ (a := a) (p := p) h h0 h1 => by
    have e : atomOk "at" [.str a, .int p] = true := by
      rw [atomOk_at]
      show (freeName a && (decide (0 ≤ p) && decide (p ≤ 99))) = true
      rw [h.fr, decide_eq_true h0, decide_eq_true h1] <;> rfl
    rw [predLevel_tup, if_neg (by decide +kernel), if_neg (by decide +kernel), if_pos e, hgt3, hgt_str, hgt_int]
    exact ⟨rfl, Nat.le_refl _⟩
  | _, .has (a := a) (b := b) h h' n => by
    have e : atomOk "has" [.str a, .str b] = true := by
      rw [atomOk_has]
      exact pair_ok h h' n
    rw [predLevel_tup, if_neg (by decide +kernel), if_neg (by decide +kernel), if_pos e, hgt3, hgt_str, hgt_str]
    exact ⟨rfl, Nat.le_refl _⟩
  | _, .head (a := a) (b := b) (l := l) h h' n hl => by
    have e : atomOk "head" [.str a, .str b, .str l] = true := by
      rw [atomOk_head]
      show (pairD (.str a) (.str b) && isLetter l) = true
      rw [pair_ok h h' n, hl.fr] <;> rfl
    rw [predLevel_tup, if_neg (by decide +kernel), if_neg (by decide +kernel), if_pos e, hgt4, hgt_str, hgt_str, hgt_str]
    exact ⟨rfl, Nat.le_refl _⟩
  | _, .nt (d := d) h => by
    obtain ⟨e, l⟩ := h.level
    rw [predLevel_tup, if_pos rfl, hgt2]
    show up (predLevel d) = _ ∧ _
    unfold up
    rw [e, if_neg (by omega)]
    omega
  | _, .bin (k := k) (d := d) (e := e) hk h h' => by
    obtain ⟨e1, l1⟩ := h.level
    obtain ⟨e2, l2⟩ := h'.level
    have n1 : ¬ k = "not" := fun z => by
      rw [z] at hk
      exact absurd hk (by decide +kernel)
    rw [predLevel_tup, if_neg n1, if_pos hk, hgt3]
    show up2 (predLevel d) (predLevel e) = _ ∧ _
    unfold up2
    rw [e1, e2, if_neg (by omega), if_neg (by omega)]
    omega
theorem VT.noL : ∀ {d : PyData}, VT d → noL d = true
  | _, .one _ => rfl
  | _, .at_ _ _ _ => rfl
  | _, .has _ _ _ => rfl
  | _, .head _ _ _ _ => rfl
  | _, .nt (d := d) h => by
    show (true && (K76.noL d && true)) = true
    rw [h.noL] <;> rfl
  | _, .bin (d := d) (e := e) _ h h' => by
    show (true && (K76.noL d && (K76.noL e && true))) = true
    rw [h.noL, h'.noL] <;> rfl
theorem single_ok {k : Str} (h : k ∈ single) : PyData.strOk k = true ∧ k.length ≤ 100 := by
  have z : ∀ k ∈ single, PyData.strOk k = true ∧ k.length ≤ 100 := by decide +kernel
  exact z k h
theorem VT.lay : ∀ {d : PyData}, VT d → d.canLay0 = true
  | _, .one h => by simp [PyData.canLay0, PyData.canLayAll0, (single_ok h).1]
  | _, .at_ h _ _ => by simp [PyData.canLay0, PyData.canLayAll0, h.ok, show PyData.strOk "at" = true by decide +kernel]
  | _, .has h h' _ => by simp [PyData.canLay0, PyData.canLayAll0, h.ok, h'.ok, show PyData.strOk "has" = true by decide +kernel]
  | _, .head h h' _ hl => by simp [PyData.canLay0, PyData.canLayAll0, h.ok, h'.ok, hl.ok, show PyData.strOk "head" = true by decide +kernel]
  | _, .nt h => by simp [PyData.canLay0, PyData.canLayAll0, h.lay, show PyData.strOk "not" = true by decide +kernel]
  | _, .bin hk h h' => by
    rcases hk with rfl | rfl
    · simp [PyData.canLay0, PyData.canLayAll0, h.lay, h'.lay, show PyData.strOk "and" = true by decide +kernel]
    · simp [PyData.canLay0, PyData.canLayAll0, h.lay, h'.lay, show PyData.strOk "or" = true by decide +kernel]
mutual
theorem depth_hgt : ∀ {d : PyData}, noL d = true → d.depth ≤ hgt d
  | .none, _ => by simp [PyData.depth]
  | .bool _, _ => by simp [PyData.depth]
  | .int _, _ => by simp [PyData.depth]
  | .str _, _ => by simp [PyData.depth]
  | .tuple ds, n => by
    have := depths_hgt (ds := ds) n
    rw [hgt_tuple]
    simp only [PyData.depth]
    omega
  | .list _, n => by cases n
  | .dict _, n => by cases n
theorem depths_hgt : ∀ {ds : List PyData}, noLs ds = true → PyData.depthAll ds ≤ hgt.hgts ds
  | [], _ => by simp [PyData.depthAll]
  | d :: ds, n => by
    obtain ⟨n1, n2⟩ := Bool.and_eq_true_iff.mp (show (noL d && noLs ds) = true from n)
    have h1 := depth_hgt n1
    have h2 := depths_hgt n2
    rw [hgts_eq]
    simp only [PyData.depthAll]
    omega
end
theorem shaped_of {d : PyData} (n : noL d = true) (l : d.canLay0 = true) (h : hgt d ≤ 64) : SeqAt.shaped d = true := by
  have := depth_hgt n
  unfold SeqAt.shaped
  rw [l, decide_eq_true (by omega)] <;> rfl
/-- triples that are right -/
def TR : PyData → Prop := fun t => ∃ a b l, t = .tuple [.str a, .str b, .str l] ∧ NmS a ∧ NmS b ∧ a ≠ b ∧ LtS l
def TRs (d : PyData) : Prop := ∃ ds, d = .tuple ds ∧ ds ≠ [] ∧ ds.length ≤ 100 ∧ ∀ t ∈ ds, TR t
theorem TR.ok {t : PyData} (h : TR t) : tripleD t = true := by
  obtain ⟨a, b, l, rfl, h1, h2, n, hl⟩ := h
  show (pairD (.str a) (.str b) && isLetter l) = true
  rw [pair_ok h1 h2 n, hl.fr] <;> rfl
theorem TRs.ok {d : PyData} (h : TRs d) : triplesD d = true := by
  obtain ⟨ds, rfl, ne, _, h⟩ := h
  show (!ds.isEmpty && ds.all tripleD) = true
  have e : ds.isEmpty = false := by
    cases ds with
    | nil => exact absurd rfl ne
    | cons _ _ => rfl
  rw [e, List.all_eq_true.mpr fun t ht => (h t ht).ok] <;> rfl
theorem TR.more {t : PyData} (h : TR t) : noL t = true ∧ t.canLay0 = true ∧ hgt t = 1 := by
  obtain ⟨a, b, l, rfl, h1, h2, n, hl⟩ := h
  refine ⟨rfl, by simp [PyData.canLay0, PyData.canLayAll0, h1.ok, h2.ok, hl.ok], ?_⟩
  rw [hgt3, hgt_str, hgt_str] <;> rfl
theorem TRs.more {d : PyData} (h : TRs d) : noL d = true ∧ d.canLay0 = true ∧ hgt d ≤ 2 := by
  obtain ⟨ds, rfl, ne, hl, h⟩ := h
  clear ne hl
  have key : noLs ds = true ∧ PyData.canLayAll0 ds = true ∧ hgt.hgts ds ≤ 1 := by
    induction ds with
    | nil => exact ⟨rfl, by simp [PyData.canLayAll0], by rw [hgts_nil]; omega⟩
    | cons t ds ih =>
      obtain ⟨i1, i2, i3⟩ := ih fun z hz => h z (List.mem_cons_of_mem _ hz)
      obtain ⟨m1, m2, m3⟩ := (h t List.mem_cons_self).more
      refine ⟨?_, by simp [PyData.canLayAll0, m2, i2], by rw [hgts_eq]; omega⟩
      show (noL t && noLs ds) = true
      rw [m1, i1] <;> rfl
  exact ⟨key.1, by simp [PyData.canLay0, key.2.1], by rw [hgt_tuple]; omega⟩
/-- a wish that is right -/
inductive VW : PyData → Prop
  | aim {k : Str} {d : PyData} (hk : k = "never" ∨ k = "home") (h : VT d) : VW (.tuple [.str k, d])
  | again {d : PyData} (h : TRs d) : VW (.tuple [.str "again", d])
  | answered {d e : PyData} (h : TRs d) (h' : TRs e) : VW (.tuple [.str "answered", d, e])
mutual
/-- no wide tuples -/
def wid : PyData → Bool
  | .tuple ds => decide (ds.length ≤ 100) && wids ds
  | _ => true
def wids : List PyData → Bool
  | [] => true
  | d :: ds => wid d && wids ds
end
theorem wids_mem : ∀ {ds : List PyData} {d : PyData}, wids ds = true → d ∈ ds → wid d = true
  | e :: ds, d, h, m => by
    obtain ⟨h1, h2⟩ := Bool.and_eq_true_iff.mp (show (wid e && wids ds) = true from h)
    rcases List.mem_cons.mp m with m | m
    · rw [m]; exact h1
    · exact wids_mem h2 m
theorem VT.wid : ∀ {d : PyData}, VT d → wid d = true
  | _, .one _ => rfl
  | _, .at_ _ _ _ => rfl
  | _, .has _ _ _ => rfl
  | _, .head _ _ _ _ => rfl
  | _, .nt (d := d) h => by
    show (true && (true && (K76.wid d && true))) = true
    rw [h.wid] <;> rfl
  | _, .bin (d := d) (e := e) _ h h' => by
    show (true && (true && (K76.wid d && (K76.wid e && true)))) = true
    rw [h.wid, h'.wid] <;> rfl
theorem TRs.wid {d : PyData} (h : TRs d) : wid d = true := by
  obtain ⟨ds, rfl, ne, hl, h⟩ := h
  clear ne
  have key : wids ds = true := by
    clear hl
    induction ds with
    | nil => rfl
    | cons t ds ih =>
      obtain ⟨a, b, l, e, _⟩ := h t List.mem_cons_self
      show (K76.wid t && wids ds) = true
      rw [ih fun z hz => h z (List.mem_cons_of_mem _ hz), e] <;> rfl
  show (decide (ds.length ≤ 100) && wids ds) = true
  rw [key, decide_eq_true hl] <;> rfl
theorem VW.wid {d : PyData} (h : VW d) : wid d = true := by
  cases h with
  | aim hk h =>
    show (true && (true && (K76.wid _ && true))) = true
    rw [h.wid] <;> rfl
  | again h =>
    show (true && (true && (K76.wid _ && true))) = true
    rw [h.wid] <;> rfl
  | answered h h' =>
    show (true && (true && (K76.wid _ && (K76.wid _ && true)))) = true
    rw [h.wid, h'.wid] <;> rfl
end K76

set_option Elab.async false
set_option linter.all false
set_option maxRecDepth 100000
/-! titles, letters, atoms -/
namespace K76
open PySem PySem.Spec PyProof.Rows L2 SX
local macro_rules | `(tactic| walk_at "x") => `(tactic| with_reducible first
  | refine x_seq ?_ | refine x_asg ?_ | refine x_op ?_ | refine x_cons ?_ | refine x_nil ?_ | refine x_c ?_ | refine x_name ?_ | refine x_cb ?_ | refine x_call ?_ | refine x_ret ?_ | refine x_ifS ?_
  | refine x_test ?_ | refine x_bl ?_ | refine x_I0 ?_ | refine x_sub ?_ | refine x_tup ?_ | refine x_lst ?_ | refine x_and ?_ | refine x_or ?_ | refine x_not ?_ | refine x_if ?_ | refine x_andV ?_ | refine x_orV ?_ | refine x_notV ?_
  | refine x_retN ?_ | refine x_drop ?_ | refine x_next ?_ | refine x_un ?_ | refine x_B ?_ | refine x_sl ?_ | refine x_noPart ?_ | refine x_part ?_ | refine x_chain ?_ | refine x_int ?_
  | refine x_eqI ?_ | refine x_eqS ?_ | refine x_neI ?_ | refine x_neS ?_ | refine x_eqB ?_ | refine x_neB ?_ | refine x_toI ?_ | refine x_absI ?_ | refine x_mx2 ?_ | refine x_M1 ?_ | refine x_isS ?_ | refine iteT ?_ | refine iteF ?_ | refine x_lc ?_ | refine x_for ?_ | refine x_rng1 ?_ | refine x_iList ?_ | refine x_iTup ?_ | refine x_yes ?_ | refine x_iStr ?_ | refine x_gcons ?_ | refine x_gnil ?_ | refine x_neg ?_ | refine x_sfld ?_ | refine x_tfld ?_ | refine x_make ?_ | refine x_bm ?_)
local macro_rules | `(tactic| walk_at "xs") => `(tactic| repeat (first | walk_at "x" | ((with_reducible show tVar _ _ _ _); refine x_var rfl ?_)))
/-- names as a list lies -/
def NamesAt (H : Hp) (L : Addr) (us : List Str) : Prop := H L = some (.lst (us.map V.str)) ∧ us.Nodup ∧ (∀ u ∈ us, Fre u)
def spTitles : Sp := fun vs H Q _ => ∃ (S : Sto) (n : Nat), vs = [.ref S.a, .int n] ∧ n ≤ 5 ∧ StoreAt H S ∧ ∀ L us H', Ext S H H' → H L = none → NamesAt H' L us → us.length = n → Q (.ref L) H'
theorem i_titles {S : Sto} {n : Nat} {H : Hp} {Q : VK} {E : XK} (hn : n ≤ 5) (h : StoreAt H S) (q : ∀ L us H', Ext S H H' → H L = none → NamesAt H' L us → us.length = n → Q (.ref L) H') : spTitles [.ref S.a, .int n] H Q E := ⟨S, n, rfl, hn, h, q⟩
section
variable {P : Program} {w : World} {K : PySem.W.Frag} {mg : Str → Option Value} {base : Heap}
theorem k_titles (T : Nm K mg) (F : FnX K mg "_law_titles" s_law_titles ["store", "n"]) (c_law_fresh : CalK P w K mg base 4 "_law_fresh" spFresh) : CalK P w K mg base 5 "_law_titles" spTitles := by
  refine cal_of F sc_law_titles (fun vs H Q E h => ?_) (fun f cdv A outer s H vs Q E hr h => ?_)
  · obtain ⟨S, n, rfl, _⟩ := h
    rfl
  · obtain ⟨S, n, rfl, hn, hs, q⟩ := h
    refine ⟨_, (pss_cons (ps_set (i := 2) sc_law_titles.nd rfl (Or.inl rfl) (pe_lst pa_nil))
      (pss_cons (ps_for PassesOwn.never rfl (pi_range1 (by rfl) T.n_range (pa_cons (pv 1) pa_nil)) (pg_name (i := 3) sc_law_titles.nd rfl (Or.inl rfl)) (pss_one (ps_expr (pe_bm PySem.F.plainAttrs_list PySem.F.slot_list_append PySem.F.type_list_append mt_append (pv 2) (pa_cons (C8.pe_c c_law_fresh hr (by omega) (by rfl) (pa_cons (pv 0) (pa_cons (pv 2) pa_nil))) pa_nil)))))
      (pss_one (ps_ret (pv 2))))), ?_⟩
    walk_at "xs"
    refine ⟨by decide, fun L nL => ?_⟩
    have fL := hs.free nL
    walk_at "xs"
    refine ⟨n, rfl, by omega, by omega, for_range (lo := 0) (n := n) (fun i σ' H' => (∃ y, σ' = [some (.ref S.a), some (.int n), some (.ref L), y]) ∧ Ext S H H' ∧ ∃ us, NamesAt H' L us ∧ us.length = i) ?_ ?_ ?_⟩
    · exact ⟨⟨_, rfl⟩, (Ext.refl hs).new nL, [], ⟨by rw [L2.upd_same] <;> rfl, List.nodup_nil, fun u h => by cases h⟩, rfl⟩
    · rintro i σ' H1 hi ⟨⟨y, rfl⟩, e1, us, ⟨h1, h2, h3⟩, hl⟩
      walk_at "xs"
      refine ⟨.inl ⟨rfl, _, SqL.of h1⟩, ?_⟩
      walk_at "xs"
      refine i_fresh e1.st fL.1 h1 (by omega) (fun u hu => (h3 u hu).1) fun z H2 e2 fz nz => ?_
      have e2' := e1.trans e2
      walk_at "xs"
      refine x_app (e2.keep _ _ fL.1 h1) (by rw [List.length_map]; exact szl (by omega)) ?_
      walk_at "xs"
      refine ⟨⟨_, rfl⟩, e2'.mut nL fL, us ++ [z], ⟨by rw [L2.upd_same, List.map_append] <;> rfl, ?_, fun u hu => ?_⟩, by rw [List.length_append, hl] <;> rfl⟩
      · exact List.nodup_append.mpr ⟨h2, List.nodup_cons.mpr ⟨by simp, List.nodup_nil⟩, fun a ha b hb => by
          have : b = z := by simpa using hb
          subst this
          exact fun e => nz (e ▸ ha)⟩
      · rcases List.mem_append.mp hu with hu | hu
        · exact h3 u hu
        · have : u = z := by simpa using hu
          rw [this]
          exact fz
    · rintro σ' H1 ⟨⟨y, rfl⟩, e1, us, hN, hl⟩
      walk_at "xs"
      exact q L us H1 e1 nL hN hl
/-! ### letters -/
def LettersAt (H : Hp) (L : Addr) (us : List Str) : Prop := H L = some (.lst (us.map V.str)) ∧ ∀ u ∈ us, ∃ l, u = SX.S l ∧ Let l
def spAlphabet : Sp := fun vs H Q _ => ∃ (S : Sto) (n : Nat), vs = [.ref S.a, .int n] ∧ n ≤ 5 ∧ StoreAt H S ∧ ∀ L us H', Ext S H H' → H L = none → LettersAt H' L us → us.length = n → Q (.ref L) H'
theorem i_alphabet {S : Sto} {n : Nat} {H : Hp} {Q : VK} {E : XK} (hn : n ≤ 5) (h : StoreAt H S) (q : ∀ L us H', Ext S H H' → H L = none → LettersAt H' L us → us.length = n → Q (.ref L) H') : spAlphabet [.ref S.a, .int n] H Q E := ⟨S, n, rfl, hn, h, q⟩
theorem let_dot {l : List Nat} {i : Int} (h : Nam l) (h0 : 0 ≤ i) (h1 : i ≤ 99) : ∃ m, SX.S l ++ "." ++ (toString i : Str) = SX.S m ∧ Let m := by
  refine ⟨l ++ 46 :: TL.numL i.toNat, ?_, .inr ⟨l, i.toNat, h, by omega, rfl⟩⟩
  have e1 : ("." : Str) = SX.S [46] := by decide +kernel
  have e2 : (toString i : Str) = SX.S (TL.numL i.toNat) := by
    have := TL.tl_num i.toNat
    rw [show ((i.toNat : Nat) : Int) = i by omega] at this
    rw [← this]
  rw [e1, e2, S_cat, S_cat, List.append_assoc]
  rfl
theorem let_str {u : Str} (h : ∃ l, u = SX.S l ∧ Let l) : u.length ≤ 11 := by
  obtain ⟨l, rfl, h⟩ := h
  rw [S_len]
  exact h.len
theorem k_alphabet (T : Nm K mg) (F : FnX K mg "_law_alphabet" s_law_alphabet ["store", "many"]) (c_law_take : CalK P w K mg base 2 "_law_take" spTake) (c_law_number : CalK P w K mg base 3 "_law_number" spNumber) (c_law_pick : CalK P w K mg base 3 "_law_pick" (spPick K)) (c_law_spell : CalK P w K mg base 3 "_law_spell" spSpell) :
    CalK P w K mg base 4 "_law_alphabet" spAlphabet := by
  refine cal_of F sc_law_alphabet (fun vs H Q E h => ?_) (fun f cdv A outer s H vs Q E hr h => ?_)
  · obtain ⟨S, n, rfl, _⟩ := h
    rfl
  · obtain ⟨S, n, rfl, hn, hs, q⟩ := h
    refine ⟨_, (pss_cons (ps_set (i := 2) sc_law_alphabet.nd rfl (Or.inl rfl) (pe_lst pa_nil))
      (pss_cons (ps_set (i := 3) sc_law_alphabet.nd rfl (Or.inl rfl) (C8.pe_c c_law_pick hr (by omega) (by rfl) (pa_cons (pv 0) (pa_cons (pe_lst (pa_cons (C8.pe_c c_law_spell hr (by omega) (by rfl) (pa_cons (pv 0) (pa_cons (C8.pe_c c_law_number hr (by omega) (by rfl) (pa_cons (pv 0) (pa_cons pe_int (pa_cons pe_int pa_nil)))) pa_nil))) (pa_cons pe_str (pa_cons pe_str (pa_cons pe_str pa_nil))))) pa_nil))))
      (pss_cons (ps_for PassesOwn.never rfl (pi_range1 (by rfl) T.n_range (pa_cons (pv 1) pa_nil)) (pg_name (i := 4) sc_law_alphabet.nd rfl (Or.inl rfl)) (pss_cons (ps_set (i := 5) sc_law_alphabet.nd rfl (Or.inl rfl) (pv 3))
      (C8.pss_cut (ps_if (pt_cmpR op_eq (C8.pe_c c_law_take hr (by omega) (by rfl) (pa_cons (pv 0) (pa_cons pe_int pa_nil))) pe_int (nomark _)) (pss_one (ps_set (i := 5) sc_law_alphabet.nd rfl (Or.inl rfl) (C8.pe_c c_law_spell hr (by omega) (by rfl) (pa_cons (pv 0) (pa_cons (C8.pe_c c_law_number hr (by omega) (by rfl) (pa_cons (pv 0) (pa_cons pe_int (pa_cons pe_int pa_nil)))) pa_nil))))) pss_nil)
      (C8.pss_cut (ps_if (pt_cmpR op_eq (C8.pe_c c_law_take hr (by omega) (by rfl) (pa_cons (pv 0) (pa_cons pe_int pa_nil))) pe_int (nomark _)) (pss_one (ps_set (i := 5) sc_law_alphabet.nd rfl (Or.inl rfl) (pe_op ox_cats (pe_op ox_cats (pv 5) pe_str) (pe_callTy cx_str (by rfl) T.n_str (by decide +kernel) (pa_cons (C8.pe_c c_law_number hr (by omega) (by rfl) (pa_cons (pv 0) (pa_cons pe_int (pa_cons pe_int pa_nil)))) pa_nil))))) pss_nil)
      (pss_cons (ps_set (i := 6) sc_law_alphabet.nd rfl (Or.inl rfl) (C8.pe_c c_law_take hr (by omega) (by rfl) (pa_cons (pv 0) (pa_cons pe_int pa_nil))))
      (pss_cons (ps_for PassesOwn.never rfl (pi_range1 (by rfl) T.n_range (pa_cons pe_int pa_nil)) (pg_name (i := 7) sc_law_alphabet.nd rfl (Or.inl rfl)) (pss_one (ps_if (pt_cmpR op_in_seq (pv 5) (pv 2) (by rfl)) (pss_one (ps_set (i := 5) sc_law_alphabet.nd rfl (Or.inl rfl) (pe_op ox_cats (pe_op ox_cats (pv 3) pe_str) (pe_callTy cx_str (by rfl) T.n_str (by decide +kernel) (pa_cons (pe_op op_add (pv 6) (pv 7)) pa_nil))))) pss_nil)))
      (pss_one (ps_expr (pe_bm PySem.F.plainAttrs_list PySem.F.slot_list_append PySem.F.type_list_append mt_append (pv 2) (pa_cons (pv 5) pa_nil))))))))))
      (pss_one (ps_ret (pv 2)))))), ?_⟩
    walk_at "xs"
    refine ⟨by decide, fun L nL => ?_⟩
    have fL := hs.free nL
    have e0 := (Ext.refl hs).new (o := .lst []) nL
    have hL0 : (L2.upd H L (.lst [])) L = some (.lst (([] : List Str).map V.str)) := L2.upd_same
    generalize L2.upd H L (.lst []) = H0 at e0 hL0 ⊢
    walk_at "xs"
    refine i_number e0.st fun i1 H1 e1 l1 l2 _ => ?_
    have l2 := l2 (by decide)
    walk_at "xs"
    refine i_spell e1.st fun stem H2 e2 nst => ?_
    walk_at "xs"
    refine ⟨by show 4 ≤ sizeLine; decide, fun p np => ?_⟩
    have e2 := e1.trans e2
    have e3 := e2.new (o := .lst [.str (SX.S stem), .str "own", .str "line", .str "ok"]) np
    have npa : p ≠ S.a := (e2.st.free np).1
    walk_at "xs"
    refine i_pick e3.st L2.upd_same (fun j v H3 e4 hv => ?_) npa (by show 0 < 4; decide) (by show 4 < 1000000; decide)
    obtain ⟨st, rfl, nst⟩ : ∃ st, v = .str (SX.S st) ∧ Nam st := by
      match j, hv with
      | 0, hv => exact ⟨stem, (Option.some.inj hv).symm, nst⟩
      | 1, hv => exact ⟨[111, 119, 110], by rw [← Option.some.inj hv, show ("own" : Str) = SX.S [111, 119, 110] by decide +kernel], by unfold Nam Low; decide⟩
      | 2, hv => exact ⟨[108, 105, 110, 101], by rw [← Option.some.inj hv, show ("line" : Str) = SX.S [108, 105, 110, 101] by decide +kernel], by unfold Nam Low; decide⟩
      | 3, hv => exact ⟨[111, 107], by rw [← Option.some.inj hv, show ("ok" : Str) = SX.S [111, 107] by decide +kernel], by unfold Nam Low; decide⟩
      | j + 4, hv => simp at hv
    have e4 := e3.trans e4
    have e4' := e0.trans e4
    have hL3 := e4.keep _ _ fL.1 hL0
    walk_at "xs"
    refine ⟨n, rfl, by omega, by omega, for_range (lo := 0) (n := n) (fun i σ' H' => (∃ y1 y2 y3 y4, σ' = [some (.ref S.a), some (.int n), some (.ref L), some (.str (SX.S st)), y1, y2, y3, y4]) ∧ Ext S H H' ∧ ∃ us, LettersAt H' L us ∧ us.length = i) ?_ ?_ ?_⟩
    · exact ⟨⟨_, _, _, _, rfl⟩, e4', [], ⟨hL3, fun u h => by cases h⟩, rfl⟩
    · rintro i σ' H4 hi ⟨⟨y1, y2, y3, y4, rfl⟩, e5, us, ⟨h1, h2⟩, hl⟩
      walk_at "xs"
      refine ⟨fun σ' H' => ∃ l, σ' = [some (.ref S.a), some (.int n), some (.ref L), some (.str (SX.S st)), some (.int (0 + (i : Int))), some (.str (SX.S l)), y3, y4] ∧ Nam l ∧ Ext S H4 H', ?_, ?_⟩
      · walk_at "xs"
        refine i_take (by decide) e5.st fun _ H5 e6 _ _ => ?_
        walk_at "xs"
        refine x_eqi (fun _ => ?_) (fun _ => ?_)
        · walk_at "xs"
          refine i_number e6.st fun i2 H6 e7 l1 l2 _ => ?_
          have l2 := l2 (by decide)
          walk_at "xs"
          refine i_spell e7.st fun l H7 e8 nl => ?_
          walk_at "xs"
          exact ⟨l, rfl, nl, (e6.trans e7).trans e8⟩
        · walk_at "xs"
          exact ⟨st, rfl, nst, e6⟩
      · rintro σ' H5 ⟨l, rfl, nl, e6⟩
        have e6' := e5.trans e6
        walk_at "xs"
        refine ⟨fun σ' H' => ∃ l, σ' = [some (.ref S.a), some (.int n), some (.ref L), some (.str (SX.S st)), some (.int (0 + (i : Int))), some (.str (SX.S l)), y3, y4] ∧ Let l ∧ Ext S H4 H', ?_, ?_⟩
        · walk_at "xs"
          refine i_take (by decide) e6.st fun _ H6 e7 _ _ => ?_
          have e7 := e6.trans e7
          walk_at "xs"
          refine x_eqi (fun _ => ?_) (fun _ => ?_)
          · walk_at "xs"
            have hlen : (SX.S l).length ≤ 8 := by rw [S_len]; exact nl.2.1
            have h1 : ("." : Str).length = 1 := by decide +kernel
            refine x_cats (by rw [h1]; exact sz (by omega)) ?_
            walk_at "xs"
            refine i_number e7.st fun i2 H7 e8 l1 l2 _ => ?_
            have l2 := l2 (by decide)
            walk_at "xs"
            have hsm : ∀ k < 100, (Nat.log2 k) < 1920 := by decide +kernel
            refine x_strI (hsm _ (by omega)) ?_
            obtain ⟨m, em, lm⟩ := let_dot nl l1 l2
            have hm := let_str ⟨m, rfl, lm⟩
            walk_at "xs"
            refine x_cats ?_ ?_
            · have := len_app (SX.S l ++ ".") (toString i2 : Str)
              rw [em] at this
              exact sz (by omega)
            · walk_at "xs"
              exact ⟨m, by rw [em] <;> rfl, lm, e7.trans e8⟩
          · walk_at "xs"
            exact ⟨l, rfl, .inl nl, e7⟩
        · rintro σ' H6 ⟨l, rfl, nl, e7⟩
          have e7' := e5.trans e7
          walk_at "xs"
          refine i_take (by decide) e7.st fun sh H7 e8 _ hsh => ?_
          have hsh := hsh (by decide)
          have e8 := e7.trans e8
          walk_at "xs"
          refine ⟨10, rfl, by decide, by decide, for_range (lo := 0) (n := 10) (fun j σ' H' => (∃ l y, σ' = [some (.ref S.a), some (.int n), some (.ref L), some (.str (SX.S st)), some (.int (0 + (i : Int))), some (.str (SX.S l)), some (.int sh), y] ∧ Let l) ∧ Ext S H4 H') ?_ ?_ ?_⟩
          · exact ⟨⟨l, _, rfl, nl⟩, e8⟩
          · rintro j σ' H8 hj ⟨⟨l, y, rfl, nl⟩, e9⟩
            walk_at "xs"
            refine x_inL (SqL.of (e9.keep _ _ fL.1 h1)) ?_
            walk_at "xs"
            refine x_dec (fun _ => ?_) (fun _ => ?_)
            · walk_at "xs"
              have hlen : (SX.S st).length ≤ 8 := by rw [S_len]; exact nst.2.1
              have h1 : ("." : Str).length = 1 := by decide +kernel
              refine x_cats (by rw [h1]; exact sz (by omega)) ?_
              walk_at "xs"
              have hsm : ∀ k < 100, (Nat.log2 k) < 1920 := by decide +kernel
              refine x_strI (hsm _ (by omega)) ?_
              obtain ⟨m, em, lm⟩ := let_dot (i := sh + (0 + (j : Int))) nst (by omega) (by omega)
              have hm := let_str ⟨m, rfl, lm⟩
              walk_at "xs"
              refine x_cats ?_ ?_
              · have := len_app (SX.S st ++ ".") (toString (sh + (0 + (j : Int))) : Str)
                rw [em] at this
                exact sz (by omega)
              · walk_at "xs"
                exact ⟨⟨m, _, by rw [em] <;> rfl, lm⟩, e9⟩
            · walk_at "xs"
              exact ⟨⟨l, _, rfl, nl⟩, e9⟩
          · rintro σ' H8 ⟨⟨l, y, rfl, nl⟩, e9⟩
            walk_at "xs"
            refine ⟨.inl ⟨rfl, _, SqL.of (e9.keep _ _ fL.1 h1)⟩, ?_⟩
            walk_at "xs"
            refine x_app (e9.keep _ _ fL.1 h1) (by rw [List.length_map]; exact szl (by omega)) ?_
            walk_at "xs"
            refine ⟨⟨_, _, _, _, rfl⟩, (e5.trans e9).mut nL fL, us ++ [SX.S l], ⟨by rw [L2.upd_same, List.map_append] <;> rfl, fun u hu => ?_⟩, by rw [List.length_append, hl] <;> rfl⟩
            rcases List.mem_append.mp hu with hu | hu
            · exact h2 u hu
            · have : u = SX.S l := by simpa using hu
              exact ⟨l, this, nl⟩
    · rintro σ' H4 ⟨⟨y1, y2, y3, y4, rfl⟩, e5, us, hN, hl⟩
      walk_at "xs"
      exact q L us H4 e5 nL hN hl
end
end K76

set_option Elab.async false
set_option linter.all false
set_option maxRecDepth 100000
/-! others, an atom, triples -/
namespace K76
open PySem PySem.Spec PyProof.Rows L2 SX
local macro_rules | `(tactic| walk_at "x") => `(tactic| with_reducible first
  | refine x_seq ?_ | refine x_asg ?_ | refine x_op ?_ | refine x_cons ?_ | refine x_nil ?_ | refine x_c ?_ | refine x_name ?_ | refine x_cb ?_ | refine x_call ?_ | refine x_ret ?_ | refine x_ifS ?_
  | refine x_test ?_ | refine x_bl ?_ | refine x_I0 ?_ | refine x_sub ?_ | refine x_tup ?_ | refine x_lst ?_ | refine x_and ?_ | refine x_or ?_ | refine x_not ?_ | refine x_if ?_ | refine x_andV ?_ | refine x_orV ?_ | refine x_notV ?_
  | refine x_retN ?_ | refine x_drop ?_ | refine x_next ?_ | refine x_un ?_ | refine x_B ?_ | refine x_sl ?_ | refine x_noPart ?_ | refine x_part ?_ | refine x_chain ?_ | refine x_int ?_
  | refine x_eqI ?_ | refine x_eqS ?_ | refine x_neI ?_ | refine x_neS ?_ | refine x_eqB ?_ | refine x_neB ?_ | refine x_toI ?_ | refine x_absI ?_ | refine x_mx2 ?_ | refine x_M1 ?_ | refine x_isS ?_ | refine iteT ?_ | refine iteF ?_ | refine x_lc ?_ | refine x_for ?_ | refine x_rng1 ?_ | refine x_iList ?_ | refine x_iTup ?_ | refine x_yes ?_ | refine x_iStr ?_ | refine x_gcons ?_ | refine x_gnil ?_ | refine x_neg ?_ | refine x_sfld ?_ | refine x_tfld ?_ | refine x_make ?_ | refine x_bm ?_)
local macro_rules | `(tactic| walk_at "xs") => `(tactic| repeat (first | walk_at "x" | ((with_reducible show tVar _ _ _ _); refine x_var rfl ?_)))
theorem Ext.same {S : Sto} {H H' : Hp} (h : StoreAt H S) (s : Same H H') : Ext S H H' := by
  obtain ⟨ns, a, b, c, d, e, h1, h2, h3⟩ := h
  exact ⟨fun b o _ z => s b o z, ns, a, b, c, d, e, s _ _ h1, s _ _ h2, h3⟩
theorem At.ext {S : Sto} {H H' : Hp} (h : StoreAt H S) (e : Ext S H H') {d : PyData} {v : V} (a : At S.a H d v) : At S.a H' d v := by
  obtain ⟨ns, x1, x2, x3, x4, x5, h1, _⟩ := h
  exact At.keep e.keep ⟨_, h1⟩ a
/-- the numbers below n but i -/
def oth (n : Nat) (i : Int) : List Int := ((List.range n).map fun j => ((j : Nat) : Int)).filter fun j => !decide (j = i)
def spOthers : Sp := fun vs H Q _ => ∃ (n : Nat) (i : Int), vs = [.int n, .int i] ∧ n ≤ 5 ∧ ∀ L H', Same H H' → H L = none → H' L = some (.lst ((oth n i).map V.int)) → Q (.ref L) H'
theorem i_others {n : Nat} {i : Int} {H : Hp} {Q : VK} {E : XK} (hn : n ≤ 5) (q : ∀ L H', Same H H' → H L = none → H' L = some (.lst ((oth n i).map V.int)) → Q (.ref L) H') : spOthers [.int n, .int i] H Q E := ⟨n, i, rfl, hn, q⟩
theorem oth_mem {n : Nat} {i j : Int} (h : j ∈ oth n i) : 0 ≤ j ∧ j < n ∧ j ≠ i := by
  unfold oth at h
  obtain ⟨h1, h2⟩ := List.mem_filter.mp h
  obtain ⟨k, hk, rfl⟩ := List.mem_map.mp h1
  have := List.mem_range.mp hk
  have h3 : ¬ ((k : Int) = i) := by simpa using h2
  exact ⟨by omega, by omega, h3⟩
theorem oth_len {n : Nat} {i : Int} : (oth n i).length ≤ n := by
  have h := List.length_filter_le (fun j => !decide (j = i)) ((List.range n).map fun j => ((j : Nat) : Int))
  rw [List.length_map, List.length_range] at h
  exact h
theorem oth_pos {n : Nat} {i : Int} (h : 2 ≤ n) : 0 < (oth n i).length := by
  by_cases h0 : (0 : Int) = i
  · refine List.length_pos_of_mem (a := (1 : Int)) (List.mem_filter.mpr ⟨List.mem_map.mpr ⟨1, List.mem_range.mpr (by omega), rfl⟩, ?_⟩)
    rw [← h0]
    decide
  · exact List.length_pos_of_mem (a := (0 : Int)) (List.mem_filter.mpr ⟨List.mem_map.mpr ⟨0, List.mem_range.mpr (by omega), rfl⟩, by rw [decide_eq_false h0] <;> rfl⟩)
section
variable {P : Program} {w : World} {K : PySem.W.Frag} {mg : Str → Option Value} {base : Heap}
theorem k_others (T : Nm K mg) (F : FnX K mg "_law_others" s_law_others ["n", "i"]) : CalK P w K mg base 1 "_law_others" spOthers := by
  refine cal_of F sc_law_others (fun vs H Q E h => ?_) (fun f cdv A outer s H vs Q E hr h => ?_)
  · obtain ⟨n, i, rfl, _⟩ := h
    rfl
  · obtain ⟨n, i, rfl, hn, q⟩ := h
    refine ⟨_, (pss_one (ps_ret (pe_lc (own := [("j", 2)]) (g := gName 2) (by rfl) sc_law_others.nd (pi_range1 (by rfl) T.n_range (pa_cons (pv 0) pa_nil)) (blkOk_by (own := [("j", 2)]) (N := ["n", "i", "j"]) (sc := defScope s_law_others) (by decide +kernel)) (fun _ _ _ _ _ => pg_name (i := 2) sc_law_others.nd rfl (Or.inl rfl)) (fun _ _ _ _ _ => pts_one (pt_cmpR op_ne (pv 2) (pv 1) (nomark _))) (fun _ _ _ _ _ => (pv 2))))), ?_⟩
    walk_at "xs"
    refine ⟨n, rfl, by omega, by omega, fun D nD => lc_range (lo := 0) (n := n) (fun k H' => Same H H' ∧ H' D = some (.lst (((((List.range k).map fun j => ((j : Nat) : Int)).filter fun j => !decide (j = i))).map V.int))) ?_ ?_ ?_⟩
    · exact ⟨same_new nD, L2.upd_same⟩
    · rintro k H1 hk ⟨sm, hD⟩
      have step : ((List.range (k + 1)).map fun j => ((j : Nat) : Int)).filter (fun j => !decide (j = i)) = (((List.range k).map fun j => ((j : Nat) : Int)).filter fun j => !decide (j = i)) ++ (if decide ((k : Int) = i) = true then [] else [(k : Int)]) := by
        rw [List.range_succ, List.map_append, List.filter_append]
        congr 1
        by_cases e : (k : Int) = i
        · rw [decide_eq_true e, if_pos rfl]
          simp [e]
        · rw [decide_eq_false e, if_neg (by decide)]
          simp [e]
      walk_at "xs"
      refine ⟨rfl, ?_⟩
      walk_at "xs"
      rw [decI, Int.zero_add]
      refine x_decN (fun h => ?_) (fun h => ?_)
      · walk_at "xs"
        refine ⟨_, hD, ?_, ?_, ?_⟩
        · rw [List.length_map]
          refine szl ?_
          have := oth_len (n := k) (i := i)
          unfold oth at this
          omega
        · intro b u e
          rw [L2.upd_ne (ne_of_none e nD)]
          exact sm b u e
        · rw [L2.upd_same, step, decide_eq_false h, if_neg (by decide), List.map_append] <;> rfl
      · refine ⟨sm, ?_⟩
        rw [hD, step, decide_eq_true h, if_pos rfl, List.append_nil]
    · rintro H1 ⟨sm, hD⟩
      exact q D H1 sm nD hD
theorem atI_mem {α : Type} {xs : List α} {i : Int} (h0 : 0 ≤ i) (h1 : i < xs.length) : ∃ v, v ∈ xs ∧ xs[i.toNat]? = some v :=
  ⟨xs[i.toNat], List.getElem_mem (by omega), List.getElem?_eq_getElem (by omega)⟩
theorem names_ix {H : Hp} {N : Addr} {us : List Str} {i : Int} (h : NamesAt H N us) (h0 : 0 ≤ i) (h1 : i < us.length) : ∃ u, us[i.toNat]? = some u ∧ NmS u := by
  obtain ⟨u, hm, e⟩ := atI_mem h0 h1
  exact ⟨u, e, .of (h.2.2 u hm)⟩
theorem names_ne {us : List Str} {i j : Int} {u v : Str} (hn : us.Nodup) (h0 : 0 ≤ i) (h1 : 0 ≤ j) (n : j ≠ i) (e1 : us[i.toNat]? = some u) (e2 : us[j.toNat]? = some v) : u ≠ v := fun z => by
  subst z
  have := nodup_ix hn e1 e2
  omega
theorem take_ix {n i : Int} (h : 1 ≤ n) (h0 : n < 2 → i = 0) (h1 : 2 ≤ n → 0 ≤ i ∧ i < n) : 0 ≤ i ∧ i < n := by
  by_cases z : n < 2
  · have := h0 z
    omega
  · exact h1 (by omega)
/-- names and letters lie apart from the store -/
structure NL (S : Sto) (H : Hp) (N L : Addr) (us ls : List Str) : Prop where
  nn : N ≠ S.a
  nl : L ≠ S.a
  hN : NamesAt H N us
  hL : LettersAt H L ls
  u2 : 2 ≤ us.length
  u5 : us.length ≤ 5
  l1 : 1 ≤ ls.length
  l5 : ls.length ≤ 5
theorem NL.ext {S : Sto} {H H' : Hp} {N L : Addr} {us ls : List Str} (h : NL S H N L us ls) (e : Ext S H H') : NL S H' N L us ls :=
  ⟨h.nn, h.nl, ⟨e.keep _ _ h.nn h.hN.1, h.hN.2⟩, ⟨e.keep _ _ h.nl h.hL.1, h.hL.2⟩, h.u2, h.u5, h.l1, h.l5⟩
def spAtomM : Sp := fun vs H Q _ => ∃ (S : Sto) (N L : Addr) (us ls : List Str), vs = [.ref S.a, .ref N, .ref L] ∧ NL S H N L us ls ∧ StoreAt H S ∧ ∀ v d H', Ext S H H' → VT d → hgt d = 1 → At S.a H' d v → Q v H'
theorem i_atomM {S : Sto} {N L : Addr} {us ls : List Str} {H : Hp} {Q : VK} {E : XK} (nl : NL S H N L us ls) (h : StoreAt H S) (q : ∀ v d H', Ext S H H' → VT d → hgt d = 1 → At S.a H' d v → Q v H') : spAtomM [.ref S.a, .ref N, .ref L] H Q E := ⟨S, N, L, us, ls, rfl, nl, h, q⟩
/-- a letter is picked -/
theorem let_pick {S : Sto} {H : Hp} {N L : Addr} {us ls : List Str} (nl : NL S H N L us ls) {i : Nat} {v : V} (e : (ls.map V.str)[i]? = some v) : ∃ l, v = .str l ∧ LtS l := by
  rw [List.getElem?_map] at e
  cases h : ls[i]? with
  | none =>
    rw [h] at e
    cases e
  | some l =>
    rw [h] at e
    obtain ⟨m, rfl, lm⟩ := nl.hL.2 l (List.mem_of_getElem? h)
    exact ⟨_, (Option.some.inj e).symm, .of lm⟩
theorem oth_pick {i : Int} {m : Nat} {k : Nat} {v : V} (e : ((oth m i).map V.int)[k]? = some v) : ∃ j, v = .int j ∧ 0 ≤ j ∧ j < m ∧ j ≠ i := by
  rw [List.getElem?_map] at e
  cases h : (oth m i)[k]? with
  | none =>
    rw [h] at e
    cases e
  | some j =>
    rw [h] at e
    exact ⟨j, (Option.some.inj e).symm, oth_mem (List.mem_of_getElem? h)⟩
theorem k_atomM (T : Nm K mg) (F : FnX K mg "_law_atom" s_law_atom ["store", "names", "letters"]) (c_law_take : CalK P w K mg base 2 "_law_take" spTake) (c_law_number : CalK P w K mg base 3 "_law_number" spNumber) (c_law_pick : CalK P w K mg base 3 "_law_pick" (spPick K))
    (c_law_others : CalK P w K mg base 1 "_law_others" spOthers) : CalK P w K mg base 4 "_law_atom" spAtomM := by
  refine cal_of F sc_law_atom (fun vs H Q E h => ?_) (fun f cdv A outer s H vs Q E hr h => ?_)
  · obtain ⟨S, N, L, us, ls, rfl, _⟩ := h
    rfl
  · obtain ⟨S, N, L, us, ls, rfl, nl, hs, q⟩ := h
    refine ⟨_, (pss_cons (ps_set (i := 3) sc_law_atom.nd rfl (Or.inl rfl) (C8.pe_c c_law_take hr (by omega) (by rfl) (pa_cons (pv 0) (pa_cons pe_int pa_nil))))
      (pss_cons (ps_if (pt_cmpR op_lt (pv 3) pe_int (nomark _)) (pss_one (ps_ret (pe_ix (r := rIxL K) ix_list (pe_lst (pa_cons (pe_tup (pa_cons pe_str pa_nil)) (pa_cons (pe_tup (pa_cons pe_str pa_nil)) (pa_cons (pe_tup (pa_cons pe_str pa_nil)) pa_nil)))) (pv 3) (fun _ _ => rfl)))) pss_nil)
      (pss_cons (ps_set (i := 4) sc_law_atom.nd rfl (Or.inl rfl) (C8.pe_c c_law_take hr (by omega) (by rfl) (pa_cons (pv 0) (pa_cons (pe_callB cx_len (by rfl) T.n_len (by decide +kernel) (pa_cons (pv 1) pa_nil)) pa_nil))))
      (pss_cons (ps_if (PW.pt (pw_or (pt_cmpR op_lt (pv 3) pe_int (nomark _)) (pw_or1 (pt_cmpR op_lt (pe_callB cx_len (by rfl) T.n_len (by decide +kernel) (pa_cons (pv 1) pa_nil)) pe_int (nomark _))))) (pss_one (ps_ret (pe_tup (pa_cons pe_str (pa_cons (pe_ix (r := rIxL K) ix_list (pv 1) (pv 4) (fun _ _ => rfl)) (pa_cons (pe_ifExp (pt_cmpR op_eq (C8.pe_c c_law_take hr (by omega) (by rfl) (pa_cons (pv 0) (pa_cons pe_int pa_nil))) pe_int (nomark _)) (C8.pe_c c_law_number hr (by omega) (by rfl) (pa_cons (pv 0) (pa_cons pe_int (pa_cons pe_int pa_nil)))) (C8.pe_c c_law_take hr (by omega) (by rfl) (pa_cons (pv 0) (pa_cons pe_int pa_nil)))) pa_nil)))))) pss_nil)
      (pss_cons (ps_set (i := 5) sc_law_atom.nd rfl (Or.inl rfl) (C8.pe_c c_law_pick hr (by omega) (by rfl) (pa_cons (pv 0) (pa_cons (C8.pe_c c_law_others hr (by omega) (by rfl) (pa_cons (pe_callB cx_len (by rfl) T.n_len (by decide +kernel) (pa_cons (pv 1) pa_nil)) (pa_cons (pv 4) pa_nil))) pa_nil))))
      (pss_cons (ps_if (pt_cmpR op_eq (pv 3) pe_int (nomark _)) (pss_one (ps_ret (pe_tup (pa_cons pe_str (pa_cons (pe_ix (r := rIxL K) ix_list (pv 1) (pv 4) (fun _ _ => rfl)) (pa_cons (pe_ix (r := rIxL K) ix_list (pv 1) (pv 5) (fun _ _ => rfl)) pa_nil)))))) pss_nil)
      (pss_one (ps_ret (pe_tup (pa_cons pe_str (pa_cons (pe_ix (r := rIxL K) ix_list (pv 1) (pv 4) (fun _ _ => rfl)) (pa_cons (pe_ix (r := rIxL K) ix_list (pv 1) (pv 5) (fun _ _ => rfl)) (pa_cons (C8.pe_c c_law_pick hr (by omega) (by rfl) (pa_cons (pv 0) (pa_cons (pv 2) pa_nil))) pa_nil))))))))))))), ?_⟩
    walk_at "xs"
    refine i_take (by decide) hs fun way H1 e1 _ hw => ?_
    have hw := hw (by decide)
    walk_at "xs"
    refine x_dec (fun h1 => ?_) (fun h1 => ?_)
    · walk_at "xs"
      refine ⟨by show 1 ≤ sizeLine; decide, fun p1 n1 => ?_⟩
      have f1 := same_new (o := .tup [.str "quiet"]) n1
      have g1 : (L2.upd H1 p1 (.tup [.str "quiet"])) p1 = _ := L2.upd_same
      generalize L2.upd H1 p1 (.tup [.str "quiet"]) = H2 at f1 g1 ⊢
      walk_at "xs"
      refine ⟨by show 1 ≤ sizeLine; decide, fun p2 n2 => ?_⟩
      have f2 := same_new (o := .tup [.str "stuck"]) n2
      have g2 : (L2.upd H2 p2 (.tup [.str "stuck"])) p2 = _ := L2.upd_same
      generalize L2.upd H2 p2 (.tup [.str "stuck"]) = H3 at f2 g2 ⊢
      walk_at "xs"
      refine ⟨by show 1 ≤ sizeLine; decide, fun p3 n3 => ?_⟩
      have f3 := same_new (o := .tup [.str "done"]) n3
      have g3 : (L2.upd H3 p3 (.tup [.str "done"])) p3 = _ := L2.upd_same
      generalize L2.upd H3 p3 (.tup [.str "done"]) = H4 at f3 g3 ⊢
      walk_at "xs"
      refine ⟨by show 3 ≤ sizeLine; decide, fun p4 n4 => ?_⟩
      have f4 := same_new (o := .lst [.ref p1, .ref p2, .ref p3]) n4
      have g4 : (L2.upd H4 p4 (.lst [.ref p1, .ref p2, .ref p3])) p4 = _ := L2.upd_same
      generalize L2.upd H4 p4 (.lst [.ref p1, .ref p2, .ref p3]) = H5 at f4 g4 ⊢
      walk_at "xs"
      have a1 := f4 _ _ (f3 _ _ (f2 _ _ g1))
      have a2 := f4 _ _ (f3 _ _ g2)
      have a3 := f4 _ _ g3
      have e5 := e1.trans (Ext.same e1.st (((f1.trans f2).trans f3).trans f4))
      have hw3 : way = 0 ∨ way = 1 ∨ way = 2 := by omega
      rcases hw3 with rfl | rfl | rfl
      · refine x_lstI (SqL.of g4) (atI_nat (j := 0) rfl) ?_
        exact q _ _ _ e5 (.one (k := "quiet") (by decide +kernel)) (hgt1 _) ⟨p1, _, rfl, a1, _, _, rfl, ⟨rfl, by decide⟩, rfl⟩
      · refine x_lstI (SqL.of g4) (atI_nat (j := 1) rfl) ?_
        exact q _ _ _ e5 (.one (k := "stuck") (by decide +kernel)) (hgt1 _) ⟨p2, _, rfl, a2, _, _, rfl, ⟨rfl, by decide⟩, rfl⟩
      · refine x_lstI (SqL.of g4) (atI_nat (j := 2) rfl) ?_
        exact q _ _ _ e5 (.one (k := "done") (by decide +kernel)) (hgt1 _) ⟨p3, _, rfl, a3, _, _, rfl, ⟨rfl, by decide⟩, rfl⟩
    have nl1 := nl.ext e1
    have u2 := nl.u2
    have u5 := nl.u5
    walk_at "xs"
    refine x_lenL (SqL.of nl1.hN.1) ?_
    walk_at "xs"
    rw [List.length_map]
    refine i_take (by omega) e1.st fun i H2 e2 z0 z1 => ?_
    have hi := take_ix (by omega) z0 z1
    have nl2 := nl1.ext e2
    have e2 := e1.trans e2
    obtain ⟨u, eu, nu⟩ := names_ix nl2.hN hi.1 hi.2
    walk_at "xs"
    have at_case : ∀ H3, Ext S H H3 → ∀ k : Int, 0 ≤ k → k ≤ 99 → ∀ p, H3 p = none → Q (.ref p) (L2.upd H3 p (.tup [.str "at", .str u, .int k])) := fun H3 e3 k k0 k1 p np =>
      q _ _ _ (e3.new np) (.at_ nu k0 k1) (by rw [hgt3, hgt_str, hgt_int] <;> rfl) ⟨p, _, rfl, L2.upd_same, _, _, rfl, ⟨rfl, by decide⟩, _, _, rfl, ⟨rfl, nu.len⟩, _, _, rfl, rfl, rfl⟩
    refine x_dec (fun h2 => ?_) (fun h2 => ?_)
    · walk_at "xs"
      refine x_lstI (SqL.of nl2.hN.1) (atI_map hi.1 eu) ?_
      walk_at "xs"
      refine i_take (by decide) e2.st fun b H3 e3 _ _ => ?_
      have e3' := e2.trans e3
      walk_at "xs"
      refine x_eqi (fun _ => ?_) (fun _ => ?_)
      · walk_at "xs"
        refine i_number e3.st fun k H4 e4 k0 k1 _ => ?_
        have k1 := k1 (by decide)
        walk_at "xs"
        refine ⟨by show 3 ≤ sizeLine; decide, fun p np => ?_⟩
        exact at_case H4 (e3'.trans e4) k k0 k1 p np
      · walk_at "xs"
        refine i_take (by decide) e3.st fun k H4 e4 _ hk => ?_
        have hk := hk (by decide)
        walk_at "xs"
        refine ⟨by show 3 ≤ sizeLine; decide, fun p np => ?_⟩
        exact at_case H4 (e3'.trans e4) k (by omega) (by omega) p np
    · walk_at "xs"
      refine x_lenL (SqL.of nl2.hN.1) ?_
      walk_at "xs"
      refine x_dec (fun h3 => ?_) (fun _ => ?_)
      · rw [List.length_map] at h3
        omega
      walk_at "xs"
      refine x_lenL (SqL.of nl2.hN.1) ?_
      walk_at "xs"
      rw [List.length_map]
      refine i_others (by omega) fun D H3 s3 nD hD => ?_
      have e3 := e2.trans (Ext.same e2.st s3)
      have fD := e2.st.free nD
      walk_at "xs"
      refine i_pick e3.st hD (fun m v H4 e4 hv => ?_) fD.1 (by rw [List.length_map]; exact oth_pos nl.u2) (by rw [List.length_map]; have := oth_len (n := us.length) (i := i); omega)
      obtain ⟨j, rfl, j0, j1, jn⟩ := oth_pick hv
      have e4 := e3.trans e4
      have nl4 := nl.ext e4
      obtain ⟨w', ew, nw⟩ := names_ix nl4.hN j0 j1
      have hne : u ≠ w' := names_ne nl4.hN.2.1 hi.1 j0 jn eu ew
      walk_at "xs"
      refine x_eqi (fun _ => ?_) (fun _ => ?_)
      · walk_at "xs"
        refine x_lstI (SqL.of nl4.hN.1) (atI_map hi.1 eu) ?_
        walk_at "xs"
        refine x_lstI (SqL.of nl4.hN.1) (atI_map j0 ew) ?_
        walk_at "xs"
        refine ⟨by show 3 ≤ sizeLine; decide, fun p np => ?_⟩
        exact q _ _ _ (e4.new np) (.has nu nw hne) (by rw [hgt3, hgt_str, hgt_str] <;> rfl) ⟨p, _, rfl, L2.upd_same, _, _, rfl, ⟨rfl, by decide⟩, _, _, rfl, ⟨rfl, nu.len⟩, _, _, rfl, ⟨rfl, nw.len⟩, rfl⟩
      · walk_at "xs"
        refine x_lstI (SqL.of nl4.hN.1) (atI_map hi.1 eu) ?_
        walk_at "xs"
        refine x_lstI (SqL.of nl4.hN.1) (atI_map j0 ew) ?_
        walk_at "xs"
        have l1 := nl.l1
        have l5 := nl.l5
        refine i_pick e4.st nl4.hL.1 (fun m v H5 e5 hv => ?_) nl.nl (by rw [List.length_map]; omega) (by rw [List.length_map]; omega)
        obtain ⟨l, rfl, hl⟩ := let_pick nl4 hv
        have e5 := e4.trans e5
        walk_at "xs"
        refine ⟨by show 4 ≤ sizeLine; decide, fun p np => ?_⟩
        exact q _ _ _ (e5.new np) (.head nu nw hne hl) (by rw [hgt4, hgt_str, hgt_str, hgt_str] <;> rfl) ⟨p, _, rfl, L2.upd_same, _, _, rfl, ⟨rfl, by decide⟩, _, _, rfl, ⟨rfl, nu.len⟩, _, _, rfl, ⟨rfl, nw.len⟩, _, _, rfl, ⟨rfl, hl.len⟩, rfl⟩
/-! ### triples -/
def spTriples : Sp := fun vs H Q _ => ∃ (S : Sto) (N L : Addr) (us ls : List Str) (n : Int), vs = [.ref S.a, .ref N, .ref L, .int n] ∧ NL S H N L us ls ∧ 2 ≤ n ∧ n ≤ 9 ∧ StoreAt H S ∧ ∀ v d H', Ext S H H' → TRs d → At S.a H' d v → Q v H'
theorem i_triplesM {S : Sto} {N L : Addr} {us ls : List Str} {n : Int} {H : Hp} {Q : VK} {E : XK} (nl : NL S H N L us ls) (h1 : 2 ≤ n) (h2 : n ≤ 9) (h : StoreAt H S) (q : ∀ v d H', Ext S H H' → TRs d → At S.a H' d v → Q v H') : spTriples [.ref S.a, .ref N, .ref L, .int n] H Q E := ⟨S, N, L, us, ls, n, rfl, nl, h1, h2, h, q⟩
theorem AtAll.app {x : Addr} {H : Hp} : ∀ {ds : List PyData} {vs : List V} {d : PyData} {v : V}, AtAll x H ds vs → At x H d v → AtAll x H (ds ++ [d]) (vs ++ [v])
  | [], vs, d, v, h, h2 => by
    have e : vs = [] := h
    subst e
    exact ⟨v, [], rfl, h2, rfl⟩
  | d0 :: ds, vs, d, v, h, h2 => by
    obtain ⟨v0, r, rfl, h0, h1⟩ := h
    exact ⟨v0, r ++ [v], rfl, h0, h1.app h2⟩
theorem AtAll.ext {S : Sto} {H H' : Hp} (h : StoreAt H S) (e : Ext S H H') {ds : List PyData} {vs : List V} (a : AtAll S.a H ds vs) : AtAll S.a H' ds vs := by
  obtain ⟨ns, x1, x2, x3, x4, x5, h1, _⟩ := h
  exact AtAll.keep e.keep ⟨_, h1⟩ a
theorem noLs_all : ∀ {ds : List PyData}, (∀ t ∈ ds, noL t = true) → noLs ds = true
  | [], _ => rfl
  | d :: ds, h => by
    show (noL d && noLs ds) = true
    rw [h d List.mem_cons_self, noLs_all fun t ht => h t (List.mem_cons_of_mem _ ht)] <;> rfl
/-- a list that H does not know is changed: data that does not see it stays -/
theorem AtAll.tupsOf {x : Addr} {H : Hp} {p : Addr} {o : HO} {ds : List PyData} {vs : List V} (n : noLs ds = true) (hp : ∀ xs, H p ≠ some (.tup xs)) (a : AtAll x H ds vs) : AtAll x (L2.upd H p o) ds vs :=
  AtAll.tups (fun b xs e => by
    have : b ≠ p := fun z => hp xs (by rw [← z]; exact e)
    rw [L2.upd_ne this]
    exact e) n a
theorem At.tupsOf {x : Addr} {H : Hp} {p : Addr} {o : HO} {d : PyData} {v : V} (n : noL d = true) (hp : ∀ xs, H p ≠ some (.tup xs)) (a : At x H d v) : At x (L2.upd H p o) d v :=
  At.tups (fun b xs e => by
    have : b ≠ p := fun z => hp xs (by rw [← z]; exact e)
    rw [L2.upd_ne this]
    exact e) n a
theorem k_triplesM (T : Nm K mg) (F : FnX K mg "_law_triples" s_law_triples ["store", "names", "letters", "many"]) (c_law_take : CalK P w K mg base 2 "_law_take" spTake) (c_law_number : CalK P w K mg base 3 "_law_number" spNumber) (c_law_pick : CalK P w K mg base 3 "_law_pick" (spPick K))
    (c_law_others : CalK P w K mg base 1 "_law_others" spOthers) : CalK P w K mg base 4 "_law_triples" spTriples := by
  refine cal_of F sc_law_triples (fun vs H Q E h => ?_) (fun f cdv A outer s H vs Q E hr h => ?_)
  · obtain ⟨S, N, L, us, ls, n, rfl, _⟩ := h
    rfl
  · obtain ⟨S, N, L, us, ls, n, rfl, nl, n2, n9, hs, q⟩ := h
    have u2 := nl.u2
    have u5 := nl.u5
    refine ⟨_, (pss_cons (ps_set (i := 4) sc_law_triples.nd rfl (Or.inl rfl) (pe_lst pa_nil))
      (pss_cons (ps_for PassesOwn.never rfl (pi_range1 (by rfl) T.n_range (pa_cons (C8.pe_c c_law_number hr (by omega) (by rfl) (pa_cons (pv 0) (pa_cons pe_int (pa_cons (pv 3) pa_nil)))) pa_nil)) (pg_name (i := 5) sc_law_triples.nd rfl (Or.inl rfl)) (pss_cons (ps_set (i := 6) sc_law_triples.nd rfl (Or.inl rfl) (C8.pe_c c_law_take hr (by omega) (by rfl) (pa_cons (pv 0) (pa_cons (pe_callB cx_len (by rfl) T.n_len (by decide +kernel) (pa_cons (pv 1) pa_nil)) pa_nil))))
      (pss_cons (ps_set (i := 7) sc_law_triples.nd rfl (Or.inl rfl) (C8.pe_c c_law_pick hr (by omega) (by rfl) (pa_cons (pv 0) (pa_cons (C8.pe_c c_law_others hr (by omega) (by rfl) (pa_cons (pe_callB cx_len (by rfl) T.n_len (by decide +kernel) (pa_cons (pv 1) pa_nil)) (pa_cons (pv 6) pa_nil))) pa_nil))))
      (pss_one (ps_expr (pe_bm PySem.F.plainAttrs_list PySem.F.slot_list_append PySem.F.type_list_append mt_append (pv 4) (pa_cons (pe_tup (pa_cons (pe_ix (r := rIxL K) ix_list (pv 1) (pv 6) (fun _ _ => rfl)) (pa_cons (pe_ix (r := rIxL K) ix_list (pv 1) (pv 7) (fun _ _ => rfl)) (pa_cons (C8.pe_c c_law_pick hr (by omega) (by rfl) (pa_cons (pv 0) (pa_cons (pv 2) pa_nil))) pa_nil)))) pa_nil)))))))
      (pss_one (ps_ret (pe_callTy cx_tuple (by rfl) T.n_tuple (by decide +kernel) (pa_cons (pv 4) pa_nil)))))), ?_⟩
    walk_at "xs"
    refine ⟨by decide, fun R nR => ?_⟩
    have fR := hs.free nR
    have e0 := (Ext.refl hs).new (o := .lst []) nR
    have hR0 : (L2.upd H R (.lst [])) R = some (.lst []) := L2.upd_same
    generalize L2.upd H R (.lst []) = H0 at e0 hR0 ⊢
    walk_at "xs"
    refine i_number e0.st fun m H1 e1 m1 m2 _ => ?_
    have m2 := m2 (by omega)
    have hR1 := e1.keep _ _ fR.1 hR0
    have e1 := e0.trans e1
    walk_at "xs"
    refine ⟨m, rfl, by omega, by omega, ?_⟩
    refine for_range (lo := 0) (n := m.toNat) (fun i σ' H' => (∃ y1 y2 y3, σ' = [some (.ref S.a), some (.ref N), some (.ref L), some (.int n), some (.ref R), y1, y2, y3]) ∧ Ext S H H' ∧ ∃ ds vs, H' R = some (.lst vs) ∧ AtAll S.a H' ds vs ∧ ds.length = i ∧ ∀ t ∈ ds, TR t) ?_ ?_ ?_
    · exact ⟨⟨_, _, _, rfl⟩, e1, [], [], hR1, rfl, rfl, fun t ht => by cases ht⟩
    · rintro i σ' H2 hi ⟨⟨y1, y2, y3, rfl⟩, e2, ds, vs, hR2, hds, hl, hTR⟩
      have nl2 := nl.ext e2
      walk_at "xs"
      refine x_lenL (SqL.of nl2.hN.1) ?_
      walk_at "xs"
      rw [List.length_map]
      refine i_take (by omega) e2.st fun a H3 e3 z0 z1 => ?_
      have ha := take_ix (by omega) z0 z1
      have hR3 := e3.keep _ _ fR.1 hR2
      have hds := hds.ext e2.st e3
      have nl3 := nl2.ext e3
      have e3 := e2.trans e3
      obtain ⟨u, eu, nu⟩ := names_ix nl3.hN ha.1 ha.2
      walk_at "xs"
      refine x_lenL (SqL.of nl3.hN.1) ?_
      walk_at "xs"
      rw [List.length_map]
      refine i_others u5 fun D H4 s4 nD hD => ?_
      have fD := e3.st.free nD
      have e4 := Ext.same e3.st s4
      have hR4 := s4 _ _ hR3
      have hds := hds.ext e3.st e4
      have e4 := e3.trans e4
      walk_at "xs"
      refine i_pick e4.st hD (fun mm v H5 e5 hv => ?_) fD.1 (by rw [List.length_map]; exact oth_pos nl.u2) (by rw [List.length_map]; have := oth_len (n := us.length) (i := a); omega)
      obtain ⟨j, rfl, j0, j1, jn⟩ := oth_pick hv
      have hR5 := e5.keep _ _ fR.1 hR4
      have hds := hds.ext e4.st e5
      have e5 := e4.trans e5
      have nl5 := nl.ext e5
      obtain ⟨w', ew, nw⟩ := names_ix nl5.hN j0 j1
      have hne : u ≠ w' := names_ne nl5.hN.2.1 ha.1 j0 jn eu ew
      walk_at "xs"
      refine ⟨.inl ⟨rfl, _, SqL.of hR5⟩, ?_⟩
      walk_at "xs"
      refine x_lstI (SqL.of nl5.hN.1) (atI_map ha.1 eu) ?_
      walk_at "xs"
      refine x_lstI (SqL.of nl5.hN.1) (atI_map j0 ew) ?_
      walk_at "xs"
      have l1 := nl.l1
      have l5 := nl.l5
      refine i_pick e5.st nl5.hL.1 (fun mm v H6 e6 hv => ?_) nl.nl (by rw [List.length_map]; omega) (by rw [List.length_map]; omega)
      obtain ⟨l, rfl, hl'⟩ := let_pick nl5 hv
      have hR6 := e6.keep _ _ fR.1 hR5
      have hds := hds.ext e5.st e6
      have e6 := e5.trans e6
      walk_at "xs"
      refine ⟨by show 3 ≤ sizeLine; decide, fun p np => ?_⟩
      have s7 := same_new (o := .tup [.str u, .str w', .str l]) np
      have g7 : (L2.upd H6 p (.tup [.str u, .str w', .str l])) p = _ := L2.upd_same
      have e7 := Ext.same e6.st s7
      have hds := hds.same s7
      have hR7 := s7 _ _ hR6
      have e7 := e6.trans e7
      generalize L2.upd H6 p (.tup [.str u, .str w', .str l]) = H7 at s7 g7 hds hR7 e7 ⊢
      walk_at "xs"
      have hlv := hds.length
      have hTR' : ∀ t ∈ ds ++ [.tuple [.str u, .str w', .str l]], TR t := fun t ht => by
        rcases List.mem_append.mp ht with ht | ht
        · exact hTR t ht
        · have : t = .tuple [.str u, .str w', .str l] := by simpa using ht
          exact ⟨u, w', l, this, nu, nw, hne, hl'⟩
      have hnl : noLs (ds ++ [.tuple [.str u, .str w', .str l]]) = true := noLs_all fun t ht => (hTR' t ht).more.1
      refine x_app hR7 (szl (by omega)) ?_
      walk_at "xs"
      refine ⟨⟨_, _, _, rfl⟩, e7.mut nR fR, _, _, L2.upd_same, AtAll.tupsOf hnl (fun xs z => by rw [hR7] at z; cases z) (hds.app (d := .tuple [.str u, .str w', .str l]) ⟨p, _, rfl, g7, _, _, rfl, ⟨rfl, nu.len⟩, _, _, rfl, ⟨rfl, nw.len⟩, _, _, rfl, ⟨rfl, hl'.len⟩, rfl⟩), by rw [List.length_append, hl] <;> rfl, hTR'⟩
    · rintro σ' H2 ⟨⟨y1, y2, y3, rfl⟩, e2, ds, vs, hR2, hds, hl, hTR⟩
      walk_at "xs"
      refine x_toTL (SqL.of hR2) fun p np => ?_
      have s7 := same_new (o := .tup vs) np
      refine q _ (.tuple ds) _ (e2.new np) ⟨ds, rfl, fun z => ?_, by omega, hTR⟩ ⟨p, vs, rfl, L2.upd_same, hds.same s7⟩
      rw [z] at hl
      have : (0 : Nat) = m.toNat := hl
      omega
end
end K76

set_option Elab.async false
set_option linter.all false
set_option maxRecDepth 100000
/-! mixed trees, chains -/
namespace K76
open PySem PySem.Spec PyProof.Rows L2 SX
local macro_rules | `(tactic| walk_at "x") => `(tactic| with_reducible first
  | refine x_seq ?_ | refine x_asg ?_ | refine x_op ?_ | refine x_cons ?_ | refine x_nil ?_ | refine x_c ?_ | refine x_name ?_ | refine x_cb ?_ | refine x_call ?_ | refine x_ret ?_ | refine x_ifS ?_
  | refine x_test ?_ | refine x_bl ?_ | refine x_I0 ?_ | refine x_sub ?_ | refine x_tup ?_ | refine x_lst ?_ | refine x_and ?_ | refine x_or ?_ | refine x_not ?_ | refine x_if ?_ | refine x_andV ?_ | refine x_orV ?_ | refine x_notV ?_
  | refine x_retN ?_ | refine x_drop ?_ | refine x_next ?_ | refine x_un ?_ | refine x_B ?_ | refine x_sl ?_ | refine x_noPart ?_ | refine x_part ?_ | refine x_chain ?_ | refine x_int ?_
  | refine x_eqI ?_ | refine x_eqS ?_ | refine x_neI ?_ | refine x_neS ?_ | refine x_eqB ?_ | refine x_neB ?_ | refine x_toI ?_ | refine x_absI ?_ | refine x_mx2 ?_ | refine x_M1 ?_ | refine x_isS ?_ | refine iteT ?_ | refine iteF ?_ | refine x_lc ?_ | refine x_for ?_ | refine x_rng1 ?_ | refine x_iList ?_ | refine x_iTup ?_ | refine x_yes ?_ | refine x_iStr ?_ | refine x_gcons ?_ | refine x_gnil ?_ | refine x_neg ?_ | refine x_sfld ?_ | refine x_tfld ?_ | refine x_make ?_ | refine x_bm ?_)
local macro_rules | `(tactic| walk_at "xs") => `(tactic| repeat (first | walk_at "x" | ((with_reducible show tVar _ _ _ _); refine x_var rfl ?_)))
theorem cut_to {xs : List V} {i : Int} (h0 : 0 ≤ i) (h1 : i ≤ xs.length) : cutV xs none (some i) = xs.take i.toNat := by
  have e : i = (i.toNat : Int) := by omega
  unfold cutV
  rw [HT.sIx_none]
  conv => lhs; rw [e, HT.sIx_nat]
  rw [List.drop_zero, Nat.sub_zero, Nat.min_eq_left (by omega)]
theorem cut_from {xs : List V} {i : Int} (h0 : 0 ≤ i) (h1 : i ≤ xs.length) : cutV xs (some i) none = xs.drop i.toNat := by
  have e : i = (i.toNat : Int) := by omega
  unfold cutV
  rw [HT.sIx_none]
  conv => lhs; rw [e, HT.sIx_nat]
  rw [Nat.min_eq_left (by omega)]
  exact List.take_of_length_le (by rw [List.length_drop] <;> exact Nat.le_refl _)
theorem ixN_int {n : Nat} {i : Int} (h0 : 0 ≤ i) (h1 : i < n) : ixN n i = some i.toNat := by
  unfold ixN
  rw [if_pos h0, if_pos h1]
theorem AtAll.append {x : Addr} {H : Hp} : ∀ {ds es : List PyData} {vs us : List V}, AtAll x H ds vs → AtAll x H es us → AtAll x H (ds ++ es) (vs ++ us)
  | [], es, vs, us, h, h2 => by
    have e : vs = [] := h
    subst e
    exact h2
  | d :: ds, es, vs, us, h, h2 => by
    obtain ⟨v, r, rfl, h0, h1⟩ := h
    exact ⟨v, r ++ us, rfl, h0, h1.append h2⟩
theorem AtAll.take {x : Addr} {H : Hp} : ∀ {ds : List PyData} {vs : List V} (n : Nat), AtAll x H ds vs → AtAll x H (ds.take n) (vs.take n)
  | _, _, 0, _ => by
    rw [List.take_zero, List.take_zero]
    exact rfl
  | [], vs, n + 1, h => by
    have e : vs = [] := h
    subst e
    exact rfl
  | d :: ds, vs, n + 1, h => by
    obtain ⟨v, r, rfl, h0, h1⟩ := h
    exact ⟨v, r.take n, rfl, h0, h1.take n⟩
theorem AtAll.drop {x : Addr} {H : Hp} : ∀ {ds : List PyData} {vs : List V} (n : Nat), AtAll x H ds vs → AtAll x H (ds.drop n) (vs.drop n)
  | _, _, 0, h => by
    rw [List.drop_zero, List.drop_zero]
    exact h
  | [], vs, n + 1, h => by
    have e : vs = [] := h
    subst e
    exact rfl
  | d :: ds, vs, n + 1, h => by
    obtain ⟨v, r, rfl, h0, h1⟩ := h
    exact h1.drop n
theorem AtAll.set {x : Addr} {H : Hp} : ∀ {ds : List PyData} {vs : List V} {d : PyData} {v : V} (n : Nat), AtAll x H ds vs → At x H d v → AtAll x H (ds.set n d) (vs.set n v)
  | [], vs, d, v, n, h, _ => by
    have e : vs = [] := h
    subst e
    exact rfl
  | d0 :: ds, vs, d, v, 0, h, h2 => by
    obtain ⟨v0, r, rfl, h0, h1⟩ := h
    exact ⟨v, r, rfl, h2, h1⟩
  | d0 :: ds, vs, d, v, n + 1, h, h2 => by
    obtain ⟨v0, r, rfl, h0, h1⟩ := h
    exact ⟨v0, r.set n v, rfl, h0, h1.set n h2⟩
theorem VT.noLs {ds : List PyData} (h : ∀ d ∈ ds, VT d) : noLs ds = true := noLs_all fun t ht => (h t ht).noL
theorem x_slL {K : PySem.W.Frag} {H : Hp} {Q : VK} {a : Addr} {xs : List V} {lo hi : Option Int} (h : SqL K H a xs) (q : ∀ p, H p = none → Q (.ref p) (L2.upd H p (.lst (cutV xs lo hi)))) : rSlL K (.ref a) lo hi H Q := ⟨a, xs, rfl, h, q⟩
def spPredM : Sp := fun vs H Q _ => ∃ (S : Sto) (N L : Addr) (us ls : List Str), vs = [.ref S.a, .ref N, .ref L] ∧ NL S H N L us ls ∧ StoreAt H S ∧ ∀ v d H', Ext S H H' → VT d → hgt d ≤ 9 → At S.a H' d v → Q v H'
theorem i_predM {S : Sto} {N L : Addr} {us ls : List Str} {H : Hp} {Q : VK} {E : XK} (nl : NL S H N L us ls) (h : StoreAt H S) (q : ∀ v d H', Ext S H H' → VT d → hgt d ≤ 9 → At S.a H' d v → Q v H') : spPredM [.ref S.a, .ref N, .ref L] H Q E := ⟨S, N, L, us, ls, rfl, nl, h, q⟩
/-- the parts as they lie -/
structure Parts (S : Sto) (H H' : Hp) (R : Addr) (ds : List PyData) (vs : List V) (b : Nat) : Prop where
  no : H R = none
  fr : R ≠ S.a ∧ R ≠ S.l
  at_ : H' R = some (.lst vs)
  all : AtAll S.a H' ds vs
  ok : ∀ d ∈ ds, VT d ∧ hgt d ≤ b
theorem Parts.ext {S : Sto} {H H' H2 : Hp} {R : Addr} {ds : List PyData} {vs : List V} {b : Nat} (h : Parts S H H' R ds vs b) (hs : StoreAt H' S) (e : Ext S H' H2) : Parts S H H2 R ds vs b :=
  ⟨h.no, h.fr, e.keep _ _ h.fr.1 h.at_, h.all.ext hs e, h.ok⟩
section
variable {P : Program} {w : World} {K : PySem.W.Frag} {mg : Str → Option Value} {base : Heap}
theorem k_predM (T : Nm K mg) (F : FnX K mg "_law_pred" s_law_pred ["store", "names", "letters"]) (c_law_take : CalK P w K mg base 2 "_law_take" spTake) (c_law_atom : CalK P w K mg base 4 "_law_atom" spAtomM) : CalK P w K mg base 5 "_law_pred" spPredM := by
  refine cal_of F sc_law_pred (fun vs H Q E h => ?_) (fun f cdv A outer s H vs Q E hr h => ?_)
  · obtain ⟨S, N, L, us, ls, rfl, _⟩ := h
    rfl
  · obtain ⟨S, N, L, us, ls, rfl, nl, hs, q⟩ := h
    refine ⟨_, (pss_cons (ps_setLc (i := 3) (own := [("k", 6)]) (g := gName 6) (by rfl) sc_law_pred.nd rfl rfl (sw_true rfl rfl rfl (by decide +kernel)) (pi_range1 (by rfl) T.n_range (pa_cons (pe_op op_add pe_int (C8.pe_c c_law_take hr (by omega) (by rfl) (pa_cons (pv 0) (pa_cons pe_int pa_nil)))) pa_nil)) (blkOk_by (own := [("k", 6)]) (N := ["store", "names", "letters", "parts", "nots", "many", "k", "at"]) (sc := defScope s_law_pred) (by decide +kernel)) (fun _ _ _ _ _ => pg_name (i := 6) sc_law_pred.nd rfl (Or.inl rfl)) (fun _ _ _ _ _ => pts_nil) (fun _ _ _ _ _ => (C8.pe_c c_law_atom hr (by omega) (by rfl) (pa_cons (pv 0) (pa_cons (pv 1) (pa_cons (pv 2) pa_nil))))))
      (pss_cons (ps_set (i := 4) sc_law_pred.nd rfl (Or.inl rfl) pe_int)
      (pss_cons (ps_set (i := 5) sc_law_pred.nd rfl (Or.inl rfl) (pe_callB cx_len (by rfl) T.n_len (by decide +kernel) (pa_cons (pv 3) pa_nil)))
      (pss_cons (ps_for PassesOwn.never rfl (pi_range1 (by rfl) T.n_range (pa_cons (pe_op op_sub (pe_op op_mul pe_int (pv 5)) pe_int) pa_nil)) (pg_name (i := 6) sc_law_pred.nd rfl (Or.inl rfl)) (pss_cons (ps_set (i := 7) sc_law_pred.nd rfl (Or.inl rfl) (C8.pe_c c_law_take hr (by omega) (by rfl) (pa_cons (pv 0) (pa_cons (pe_callB cx_len (by rfl) T.n_len (by decide +kernel) (pa_cons (pv 3) pa_nil)) pa_nil))))
      (C8.pss_cut (ps_if (PW.pt (pw_and (pt_cmpR op_gt (pv 4) pe_int (nomark _)) (pw_and1 (pt_cmpR op_eq (C8.pe_c c_law_take hr (by omega) (by rfl) (pa_cons (pv 0) (pa_cons pe_int pa_nil))) pe_int (nomark _))))) (pss_cons (ps_asg (pe_tup (pa_cons pe_str (pa_cons (pe_ix (r := rIxL K) ix_list (pv 3) (pv 7) (fun _ _ => rfl)) pa_nil))) (pg_sub (pv 3) (pv 7) set_list))
      (pss_one (ps_set (i := 4) sc_law_pred.nd rfl (Or.inl rfl) (pe_op op_sub (pv 4) pe_int)))) pss_nil)
      (pss_cons (ps_set (i := 7) sc_law_pred.nd rfl (Or.inl rfl) (C8.pe_c c_law_take hr (by omega) (by rfl) (pa_cons (pv 0) (pa_cons (pe_op op_sub (pe_callB cx_len (by rfl) T.n_len (by decide +kernel) (pa_cons (pv 3) pa_nil)) pe_int) pa_nil))))
      (pss_one (ps_if (PW.pt (pw_and (pt_cmpR op_gt (pe_callB cx_len (by rfl) T.n_len (by decide +kernel) (pa_cons (pv 3) pa_nil)) pe_int (nomark _)) (pw_and1 (pt_cut (PW.pt (pw_or (pt_cmpR op_ge (pv 6) (pv 5) (nomark _)) (pw_or1 (pt_cmpR op_eq (C8.pe_c c_law_take hr (by omega) (by rfl) (pa_cons (pv 0) (pa_cons pe_int pa_nil))) pe_int (nomark _))))))))) (pss_one (ps_set (i := 3) sc_law_pred.nd rfl (Or.inl rfl) (pe_op op_cat (pe_op op_cat (pe_slice sl_list (pv 3) po_none (po_some (pv 7))) (pe_lst (pa_cons (pe_tup (pa_cons (pe_ix (r := rIxL K) ix_list (pe_lst (pa_cons pe_str (pa_cons pe_str pa_nil))) (C8.pe_c c_law_take hr (by omega) (by rfl) (pa_cons (pv 0) (pa_cons pe_int pa_nil))) (fun _ _ => rfl)) (pa_cons (pe_ix (r := rIxL K) ix_list (pv 3) (pv 7) (fun _ _ => rfl)) (pa_cons (pe_ix (r := rIxL K) ix_list (pv 3) (pe_op op_add (pv 7) pe_int) (fun _ _ => rfl)) pa_nil)))) pa_nil))) (pe_slice sl_list (pv 3) (po_some (pe_op op_add (pv 7) pe_int)) po_none)))) pss_nil))))))
      (pss_one (ps_ret (pe_ix (r := rIxL K) ix_list (pv 3) pe_int (fun _ _ => rfl)))))))), ?_⟩
    walk_at "xs"
    refine i_take (by decide) hs fun m H1 e1 _ hm => ?_
    have hm := hm (by decide)
    walk_at "xs"
    refine ⟨1 + m, rfl, by omega, by omega, fun R nR => ?_⟩
    have nR' : H R = none := by
      cases hh : H R with
      | none => rfl
      | some o =>
        by_cases hz : R = S.a
        · rw [hz] at nR
          obtain ⟨ns, x1, x2, x3, x4, x5, h1, _⟩ := e1.st
          rw [h1] at nR
          cases nR
        · have := e1.keep _ _ hz hh
          rw [nR] at this
          cases this
    have fR := e1.st.free nR
    refine lc_range (lo := 0) (n := (1 + m).toNat) (fun i H' => Ext S H H' ∧ ∃ ds vs, Parts S H H' R ds vs 1 ∧ ds.length = i) ?_ ?_ ?_
    · exact ⟨e1.new nR, [], [], ⟨nR', fR, L2.upd_same, rfl, fun d hd => by cases hd⟩, rfl⟩
    · rintro i H2 hi ⟨e2, ds, vs, hp, hl⟩
      walk_at "xs"
      refine ⟨rfl, ?_⟩
      walk_at "xs"
      refine i_atomM (nl.ext e2) e2.st fun v d H3 e3 hv h1 hd => ?_
      have hp3 := hp.ext e2.st e3
      have hlv := hp3.all.length
      have hok : ∀ t ∈ ds ++ [d], VT t ∧ hgt t ≤ 1 := fun t ht => by
        rcases List.mem_append.mp ht with ht | ht
        · exact hp.ok t ht
        · have : t = d := by simpa using ht
          rw [this]
          exact ⟨hv, by omega⟩
      refine ⟨vs, hp3.at_, szl (by omega), (e2.trans e3).mut nR' fR, ds ++ [d], vs ++ [v], ⟨nR', fR, L2.upd_same, ?_, hok⟩, by rw [List.length_append, hl] <;> rfl⟩
      exact AtAll.tupsOf (VT.noLs fun t ht => (hok t ht).1) (fun xs z => by rw [hp3.at_] at z; cases z) (hp3.all.app hd)
    · rintro H2 ⟨e2, ds, vs, hp, hl⟩
      have hlv := hp.all.length
      walk_at "xs"
      refine x_lenL (SqL.of hp.at_) ?_
      walk_at "xs"
      refine x_I mulL ?_
      walk_at "xs"
      refine ⟨2 * (vs.length : Int) - 1, rfl, by omega, by omega, ?_⟩
      refine for_range (lo := 0) (n := (2 * (vs.length : Int) - 1).toNat) (fun i σ' H' => ∃ R ds' vs' nots y1 y2, σ' = [some (.ref S.a), some (.ref N), some (.ref L), some (.ref R), some (.int nots), some (.int vs.length), y1, y2] ∧ Ext S H H' ∧ 0 ≤ nots ∧ nots ≤ 3 ∧
        1 ≤ ds'.length ∧ ds'.length ≤ ds.length ∧ Parts S H H' R ds' vs' (4 + ds.length - nots.toNat - ds'.length)) ?_ ?_ ?_
      · refine ⟨R, ds, vs, 3, _, _, rfl, e2, by decide, by decide, by omega, Nat.le_refl _, ?_⟩
        rw [show 4 + ds.length - (3 : Int).toNat - ds.length = 1 by show 4 + ds.length - 3 - ds.length = 1; omega]
        exact hp
      · rintro i σ' H3 hi ⟨R, ds', vs', nots, y1, y2, rfl, e3, n0, n3, l1, l2, hp⟩
        have hlv := hp.all.length
        walk_at "xs"
        refine x_lenL (SqL.of hp.at_) ?_
        walk_at "xs"
        refine i_take (by omega) e3.st fun a H4 e4 z0 z1 => ?_
        have ha := take_ix (by omega) z0 z1
        have hp := hp.ext e3.st e4
        have e4 := e3.trans e4
        walk_at "xs"
        refine ⟨fun σ' H' => ∃ R ds' vs' nots, σ' = [some (.ref S.a), some (.ref N), some (.ref L), some (.ref R), some (.int nots), some (.int vs.length), some (.int (0 + (i : Int))), some (.int a)] ∧ Ext S H H' ∧ 0 ≤ nots ∧ nots ≤ 3 ∧
          1 ≤ ds'.length ∧ ds'.length ≤ ds.length ∧ Parts S H H' R ds' vs' (4 + ds.length - nots.toNat - ds'.length), ?_, ?_⟩
        · walk_at "xs"
          refine x_dec (fun hn => ?_) (fun _ => ?_)
          · walk_at "xs"
            refine i_take (by decide) e4.st fun b H5 e5 _ _ => ?_
            have hp := hp.ext e4.st e5
            have e5 := e4.trans e5
            walk_at "xs"
            refine x_eqi (fun _ => ?_) (fun _ => ?_)
            · walk_at "xs"
              obtain ⟨v, hv⟩ : ∃ v, vs'[a.toNat]? = some v := ⟨_, List.getElem?_eq_getElem (by omega)⟩
              obtain ⟨d, hd⟩ : ∃ d, ds'[a.toNat]? = some d := ⟨_, List.getElem?_eq_getElem (by omega)⟩
              obtain ⟨v', ev, had⟩ := hp.all.get hd
              rw [hv] at ev
              obtain rfl := Option.some.inj ev
              have hmd := hp.ok d (List.mem_of_getElem? hd)
              refine x_lstI (SqL.of hp.at_) (atI_int ha.1 hv) ?_
              walk_at "xs"
              refine ⟨by show 2 ≤ sizeLine; decide, fun p np => ?_⟩
              have s6 := same_new (o := .tup [.str "not", v]) np
              have g6 : (L2.upd H5 p (.tup [.str "not", v])) p = _ := L2.upd_same
              have e6 := Ext.same e5.st s6
              have hp := hp.ext e5.st e6
              have had := had.same s6
              have e6 := e5.trans e6
              generalize L2.upd H5 p (.tup [.str "not", v]) = H6 at s6 g6 e6 hp had ⊢
              walk_at "xs"
              have hvt : VT (.tuple [.str "not", d]) := .nt hmd.1
              have hok : ∀ t ∈ ds'.set a.toNat (.tuple [.str "not", d]), VT t ∧ hgt t ≤ 4 + ds.length - (nots - 1).toNat - (ds'.set a.toNat (.tuple [.str "not", d])).length := fun t ht => by
                rw [List.length_set]
                rcases List.mem_or_eq_of_mem_set ht with ht | ht
                · have := hp.ok t ht
                  exact ⟨this.1, by omega⟩
                · rw [ht]
                  refine ⟨hvt, ?_⟩
                  rw [hgt2]
                  omega
              refine x_setL (j := a.toNat) hp.at_ (ixN_int ha.1 (by omega)) ?_
              walk_at "xs"
              refine ⟨R, ds'.set a.toNat (.tuple [.str "not", d]), vs'.set a.toNat (.ref p), nots - 1, rfl, e6.mut hp.no hp.fr, by omega, by omega, by rw [List.length_set]; exact l1, by rw [List.length_set]; exact l2, hp.no, hp.fr, L2.upd_same, ?_, hok⟩
              refine AtAll.tupsOf (VT.noLs fun t ht => (hok t ht).1) (fun xs z => by rw [hp.at_] at z; cases z) (hp.all.set _ ?_)
              exact ⟨p, _, rfl, g6, _, _, rfl, ⟨rfl, by decide⟩, _, _, rfl, had, rfl⟩
            · walk_at "xs"
              exact ⟨R, ds', vs', nots, rfl, e5, n0, n3, l1, l2, hp⟩
          · walk_at "xs"
            exact ⟨R, ds', vs', nots, rfl, e4, n0, n3, l1, l2, hp⟩
        · rintro σ' H5 ⟨R, ds', vs', nots, rfl, e5, n0, n3, l1, l2, hp⟩
          have hlv := hp.all.length
          walk_at "xs"
          refine x_lenL (SqL.of hp.at_) ?_
          walk_at "xs"
          refine i_take (by omega) e5.st fun a H6 e6 z0 z1 => ?_
          have hp := hp.ext e5.st e6
          have e6 := e5.trans e6
          walk_at "xs"
          refine x_lenL (SqL.of hp.at_) ?_
          walk_at "xs"
          refine x_dec (fun h2 => ?_) (fun _ => ?_)
          · have ha := take_ix (by omega) z0 z1
            walk_at "xs"
            refine ⟨fun b H' => Ext S H H' ∧ Parts S H H' R ds' vs' (4 + ds.length - nots.toNat - ds'.length), ?_, ?_⟩
            · walk_at "xs"
              refine x_dec (fun _ => ?_) (fun _ => ?_)
              · exact ⟨e6, hp⟩
              · walk_at "xs"
                refine i_take (by decide) e6.st fun b H7 e7 _ _ => ?_
                walk_at "xs"
                exact ⟨e6.trans e7, hp.ext e6.st e7⟩
            · rintro b H7 ⟨e7, hp⟩
              refine x_ite (fun _ => ?_) (fun _ => ?_)
              · walk_at "xs"
                refine x_slL (SqL.of hp.at_) fun p1 n1 => ?_
                rw [cut_to ha.1 (by omega)]
                have s8 := same_new (o := .lst (vs'.take a.toNat)) n1
                have g1 : (L2.upd H7 p1 (.lst (vs'.take a.toNat))) p1 = _ := L2.upd_same
                have hp := hp.ext e7.st (Ext.same e7.st s8)
                have f1 := e7.st.free n1
                have e8 := e7.trans (Ext.same e7.st s8)
                generalize L2.upd H7 p1 (.lst (vs'.take a.toNat)) = H8 at s8 g1 hp e8 ⊢
                walk_at "xs"
                refine ⟨by show 2 ≤ sizeLine; decide, fun p2 n2 => ?_⟩
                have s9 := same_new (o := .lst [.str "and", .str "or"]) n2
                have g2 : (L2.upd H8 p2 (.lst [.str "and", .str "or"])) p2 = _ := L2.upd_same
                have hp := hp.ext e8.st (Ext.same e8.st s9)
                have f2 := e8.st.free n2
                have g1 := s9 _ _ g1
                have e9 := e8.trans (Ext.same e8.st s9)
                generalize L2.upd H8 p2 (.lst [.str "and", .str "or"]) = H9 at s9 g1 g2 hp e9 ⊢
                walk_at "xs"
                refine i_take (by decide) e9.st fun c H10 e10 _ hc => ?_
                have hc := hc (by decide)
                have hp := hp.ext e9.st e10
                have g1 := e10.keep _ _ f1.1 g1
                have g2 := e10.keep _ _ f2.1 g2
                have e10 := e9.trans e10
                walk_at "xs"
                obtain ⟨kd, hkd, hk⟩ : ∃ kd : Str, atI [V.str "and", V.str "or"] c = some (.str kd) ∧ (kd = "and" ∨ kd = "or") := by
                  have : c = 0 ∨ c = 1 := by omega
                  rcases this with rfl | rfl
                  · exact ⟨"and", atI_nat (j := 0) rfl, .inl rfl⟩
                  · exact ⟨"or", atI_nat (j := 1) rfl, .inr rfl⟩
                have hkl : kd.length ≤ 100 := by rcases hk with rfl | rfl <;> decide
                refine x_lstI (SqL.of g2) hkd ?_
                walk_at "xs"
                obtain ⟨d1, hd1⟩ : ∃ d, ds'[a.toNat]? = some d := ⟨_, List.getElem?_eq_getElem (by omega)⟩
                obtain ⟨d2, hd2⟩ : ∃ d, ds'[(a + 1).toNat]? = some d := ⟨_, List.getElem?_eq_getElem (by omega)⟩
                obtain ⟨v1, hv1, ha1⟩ := hp.all.get hd1
                obtain ⟨v2, hv2, ha2⟩ := hp.all.get hd2
                have m1 := hp.ok d1 (List.mem_of_getElem? hd1)
                have m2 := hp.ok d2 (List.mem_of_getElem? hd2)
                refine x_lstI (SqL.of hp.at_) (atI_int ha.1 hv1) ?_
                walk_at "xs"
                refine x_lstI (SqL.of hp.at_) (atI_int (by omega) hv2) ?_
                walk_at "xs"
                refine ⟨by show 3 ≤ sizeLine; decide, fun p3 n3' => ?_⟩
                have s11 := same_new (o := .tup [.str kd, v1, v2]) n3'
                have g3 : (L2.upd H10 p3 (.tup [.str kd, v1, v2])) p3 = _ := L2.upd_same
                have hp := hp.ext e10.st (Ext.same e10.st s11)
                have g1 := s11 _ _ g1
                have ha1 := ha1.same s11
                have ha2 := ha2.same s11
                have e11 := e10.trans (Ext.same e10.st s11)
                generalize L2.upd H10 p3 (.tup [.str kd, v1, v2]) = H11 at s11 g1 g3 hp e11 ha1 ha2 ⊢
                have hT : At S.a H11 (.tuple [.str kd, d1, d2]) (.ref p3) := ⟨p3, _, rfl, g3, _, _, rfl, ⟨rfl, hkl⟩, _, _, rfl, ha1, _, _, rfl, ha2, rfl⟩
                walk_at "xs"
                refine ⟨by show 1 ≤ sizeLine; decide, fun p4 n4 => ?_⟩
                have s12 := same_new (o := .lst [.ref p3]) n4
                have g4 : (L2.upd H11 p4 (.lst [.ref p3])) p4 = _ := L2.upd_same
                have hp := hp.ext e11.st (Ext.same e11.st s12)
                have g1 := s12 _ _ g1
                have hT := hT.same s12
                have e12 := e11.trans (Ext.same e11.st s12)
                generalize L2.upd H11 p4 (.lst [.ref p3]) = H12 at s12 g1 g4 hp e12 hT ⊢
                walk_at "xs"
                refine x_catL g1 g4 (by rw [List.length_take]; refine sz ?_; simp only [List.length_cons, List.length_nil]; omega) fun p5 n5 => ?_
                have s13 := same_new (o := .lst (vs'.take a.toNat ++ [.ref p3])) n5
                have g5 : (L2.upd H12 p5 (.lst (vs'.take a.toNat ++ [.ref p3]))) p5 = _ := L2.upd_same
                have hp := hp.ext e12.st (Ext.same e12.st s13)
                have hT := hT.same s13
                have e13 := e12.trans (Ext.same e12.st s13)
                generalize L2.upd H12 p5 (.lst (vs'.take a.toNat ++ [.ref p3])) = H13 at s13 g5 hp e13 hT ⊢
                walk_at "xs"
                refine x_slL (SqL.of hp.at_) fun p6 n6 => ?_
                rw [cut_from (by omega) (by omega)]
                have s14 := same_new (o := .lst (vs'.drop (a + 2).toNat)) n6
                have g6 : (L2.upd H13 p6 (.lst (vs'.drop (a + 2).toNat))) p6 = _ := L2.upd_same
                have hp := hp.ext e13.st (Ext.same e13.st s14)
                have g5 := s14 _ _ g5
                have hT := hT.same s14
                have e14 := e13.trans (Ext.same e13.st s14)
                generalize L2.upd H13 p6 (.lst (vs'.drop (a + 2).toNat)) = H14 at s14 g5 g6 hp e14 hT ⊢
                walk_at "xs"
                refine x_catL g5 g6 (by rw [List.length_append, List.length_take, List.length_drop]; refine sz ?_; simp only [List.length_cons, List.length_nil]; omega) fun p7 n7 => ?_
                have n7' : H p7 = none := by
                  cases hh : H p7 with
                  | none => rfl
                  | some o => exact absurd (e14.keep _ _ (e14.st.free n7).1 hh) (by rw [n7]; exact fun z => by cases z)
                have f7 := e14.st.free n7
                have e15 := e14.new (o := .lst (vs'.take a.toNat ++ [.ref p3] ++ vs'.drop (a + 2).toNat)) n7
                have s15 := same_new (o := .lst (vs'.take a.toNat ++ [.ref p3] ++ vs'.drop (a + 2).toNat)) n7
                walk_at "xs"
                have hlen : (ds'.take a.toNat ++ [PyData.tuple [.str kd, d1, d2]] ++ ds'.drop (a + 2).toNat).length + 1 = ds'.length := by
                  rw [List.length_append, List.length_append, List.length_take, List.length_drop]
                  simp only [List.length_cons, List.length_nil]
                  omega
                refine ⟨p7, ds'.take a.toNat ++ [PyData.tuple [.str kd, d1, d2]] ++ ds'.drop (a + 2).toNat, _, nots, _, _, rfl, e15, n0, n3, by omega, by omega, n7', f7, L2.upd_same, (((hp.all.take _).append (es := [.tuple [.str kd, d1, d2]]) (us := [.ref p3]) ⟨_, _, rfl, hT, rfl⟩).append (hp.all.drop _)).same s15, fun t ht => ?_⟩
                have old : ∀ t ∈ ds', VT t ∧ hgt t ≤ 4 + ds.length - nots.toNat - (ds'.take a.toNat ++ [PyData.tuple [.str kd, d1, d2]] ++ ds'.drop (a + 2).toNat).length := fun t ht => by
                  have := hp.ok t ht
                  exact ⟨this.1, by omega⟩
                rcases List.mem_append.mp ht with ht | ht
                · rcases List.mem_append.mp ht with ht | ht
                  · exact old t (List.mem_of_mem_take ht)
                  · have : t = .tuple [.str kd, d1, d2] := by simpa using ht
                    rw [this]
                    refine ⟨.bin hk m1.1 m2.1, ?_⟩
                    rw [hgt3]
                    omega
                · exact old t (List.mem_of_mem_drop ht)
              · walk_at "xs"
                exact ⟨R, ds', vs', nots, _, _, rfl, e7, n0, n3, l1, l2, hp⟩
          · walk_at "xs"
            exact ⟨R, ds', vs', nots, _, _, rfl, e6, n0, n3, l1, l2, hp⟩
      · rintro σ' H3 ⟨R, ds', vs', nots, y1, y2, rfl, e3, n0, n3, l1, l2, hp⟩
        walk_at "xs"
        cases ds' with
        | nil => cases l1
        | cons d ds' =>
          obtain ⟨v, r, rfl, h0, _⟩ := hp.all
          refine x_lstI (SqL.of hp.at_) (atI_nat (j := 0) rfl) ?_
          exact q v d H3 e3 (hp.ok d List.mem_cons_self).1 (by have := (hp.ok d List.mem_cons_self).2; omega) h0
end
end K76

set_option Elab.async false
set_option linter.all false
set_option maxRecDepth 100000
/-! the law's own level, count of atoms, chains -/
namespace K76
open PySem PySem.Spec PyProof.Rows L2 SX
local macro_rules | `(tactic| walk_at "x") => `(tactic| with_reducible first
  | refine x_seq ?_ | refine x_asg ?_ | refine x_op ?_ | refine x_cons ?_ | refine x_nil ?_ | refine x_c ?_ | refine x_name ?_ | refine x_cb ?_ | refine x_call ?_ | refine x_ret ?_ | refine x_ifS ?_
  | refine x_test ?_ | refine x_bl ?_ | refine x_I0 ?_ | refine x_sub ?_ | refine x_tup ?_ | refine x_lst ?_ | refine x_and ?_ | refine x_or ?_ | refine x_not ?_ | refine x_if ?_ | refine x_andV ?_ | refine x_orV ?_ | refine x_notV ?_
  | refine x_retN ?_ | refine x_drop ?_ | refine x_next ?_ | refine x_un ?_ | refine x_B ?_ | refine x_sl ?_ | refine x_noPart ?_ | refine x_part ?_ | refine x_chain ?_ | refine x_int ?_
  | refine x_eqI ?_ | refine x_eqS ?_ | refine x_neI ?_ | refine x_neS ?_ | refine x_eqB ?_ | refine x_neB ?_ | refine x_toI ?_ | refine x_absI ?_ | refine x_mx2 ?_ | refine x_M1 ?_ | refine x_isS ?_ | refine iteT ?_ | refine iteF ?_ | refine x_lc ?_ | refine x_for ?_ | refine x_rng1 ?_ | refine x_iList ?_ | refine x_iTup ?_ | refine x_yes ?_ | refine x_iStr ?_ | refine x_gcons ?_ | refine x_gnil ?_ | refine x_neg ?_ | refine x_sfld ?_ | refine x_tfld ?_ | refine x_make ?_ | refine x_bm ?_)
local macro_rules | `(tactic| walk_at "xs") => `(tactic| repeat (first | walk_at "x" | ((with_reducible show tVar _ _ _ _); refine x_var rfl ?_)))
def levs (ds : List PyData) : List Int := (ds.filter isTup).map fun d => (hgt d : Int)
theorem isTup_false {d : PyData} (h : isTup d = false) : hgt d = 0 := by
  cases d with
  | tuple ds => cases h
  | _ => simp [hgt]
theorem levs_le : ∀ {ds : List PyData} {y : Int}, y ∈ levs ds → y ≤ hgt.hgts ds
  | d :: ds, y, h => by
    obtain ⟨e, he, rfl⟩ := List.mem_map.mp h
    have := hgts_mem (List.mem_filter.mp he).1
    show (hgt e : Int) ≤ _
    omega
theorem levs_has : ∀ {ds : List PyData}, (hgt.hgts ds : Int) ∈ levs ds ++ [0]
  | [] => by
    rw [hgts_nil]
    exact List.mem_cons_self
  | d :: ds => by
    have ih := levs_has (ds := ds)
    have e : levs (d :: ds) = (if isTup d = true then [(hgt d : Int)] else []) ++ levs ds := by
      unfold levs
      cases h : isTup d with
      | true => simp [h]
      | false => simp [h]
    rw [hgts_eq, e, List.append_assoc]
    by_cases h : hgt d ≤ hgt.hgts ds
    · rw [Nat.max_eq_right h]
      exact List.mem_append_right _ ih
    · rw [Nat.max_eq_left (by omega)]
      refine List.mem_append_left _ ?_
      cases ht : isTup d with
      | true => exact List.mem_cons_self
      | false =>
        have := isTup_false ht
        omega
def spLev (n : Nat) : Sp := fun vs H Q _ => ∃ x ds v, vs = [v] ∧ At x H (.tuple ds) v ∧ wid (.tuple ds) = true ∧ hgt (.tuple ds) ≤ n ∧ ∀ H', Same H H' → Q (.int (hgt (.tuple ds))) H'
theorem i_lev {n : Nat} {x : Addr} {ds : List PyData} {v : V} {H : Hp} {Q : VK} {E : XK} (h : At x H (.tuple ds) v) (hw : wid (.tuple ds) = true) (hn : hgt (.tuple ds) ≤ n) (q : ∀ H', Same H H' → Q (.int (hgt (.tuple ds))) H') : spLev n [v] H Q E := ⟨x, ds, v, rfl, h, hw, hn, q⟩
def spAtoms (n : Nat) : Sp := fun vs H Q _ => ∃ x ds v, vs = [v] ∧ At x H (.tuple ds) v ∧ wid (.tuple ds) = true ∧ hgt (.tuple ds) ≤ n ∧ ∀ (i : Int) H', Same H H' → Q (.int i) H'
theorem i_atoms {n : Nat} {x : Addr} {ds : List PyData} {v : V} {H : Hp} {Q : VK} {E : XK} (h : At x H (.tuple ds) v) (hw : wid (.tuple ds) = true) (hn : hgt (.tuple ds) ≤ n) (q : ∀ (i : Int) H', Same H H' → Q (.int i) H') : spAtoms n [v] H Q E := ⟨x, ds, v, rfl, h, hw, hn, q⟩
theorem isTup_true {d : PyData} (h : isTup d = true) : ∃ ds, d = .tuple ds := by
  cases d with
  | tuple ds => exact ⟨ds, rfl⟩
  | _ => cases h
section
variable {P : Program} {w : World} {K : PySem.W.Frag} {mg : Str → Option Value} {base : Heap}
theorem k_lev (T : Nm K mg) (F : FnX K mg "_law_level" s_law_level ["tree"]) : ∀ n, CalK P w K mg base (1 + n) "_law_level" (spLev n)
  | 0 => cal_false F fun vs H Q E h => by
    obtain ⟨_, ds, _, _, _, _, h, _⟩ := h
    rw [hgt_tuple] at h
    exact absurd h (by omega)
  | n + 1 => by
    have c_law_level := k_lev T F n
    show CalK P w K mg base ((1 + n) + 1) "_law_level" (spLev (n + 1))
    refine cal_of F sc_law_level (fun vs H Q E h => ?_) (fun f cdv A outer s H vs Q E hr h => ?_)
    · obtain ⟨x, ds, v, rfl, _⟩ := h
      rfl
    · obtain ⟨x, ds, v, rfl, ⟨a, xs, rfl, ha, hxs⟩, hw, hn, q⟩ := h
      have hlen := hxs.length
      obtain ⟨w1, w2⟩ := Bool.and_eq_true_iff.mp (show (decide (ds.length ≤ 100) && wids ds) = true from hw)
      have w1 := of_decide_eq_true w1
      have hh := hgt_tuple ds
      refine ⟨_, (pss_one (ps_ret (pe_op op_add pe_int (pe_callB (cr_max rfl) (by rfl) T.n_max (by decide +kernel) (pa_cons (pe_op op_cat (pe_lc (own := [("part", 1)]) (g := gName 1) (by rfl) sc_law_level.nd (pi_tup (pv 0)) (blkOk_by (own := [("part", 1)]) (N := ["tree", "part"]) (sc := defScope s_law_level) (by decide +kernel)) (fun _ _ _ _ _ => pg_name (i := 1) sc_law_level.nd rfl (Or.inl rfl)) (fun _ _ _ _ _ => pts_one (pt_val (pe_callB (id := "isinstance") (r := rIsi K) call_isi (by rfl) T.n_isinstance (by decide +kernel) (pa_cons (pv 1) (pa_cons (pe_bltn (v := .ty "tuple") (by rfl) T.n_tuple (by decide +kernel) rfl) pa_nil))))) (fun _ _ _ _ _ => (C8.pe_c c_law_level hr (by omega) (by rfl) (pa_cons (pv 1) pa_nil)))) (pe_lst (pa_cons pe_int pa_nil))) pa_nil))))), ?_⟩
      walk_at "xs"
      refine ⟨a, rfl, ⟨xs, SqT.of ha⟩, fun D nD => lc_tup (xs := xs) (fun i H' => Same H H' ∧ H' D = some (.lst ((levs (ds.take i)).map V.int))) ?_ ?_ ?_ ?_⟩
      · exact ⟨same_new nD, by rw [L2.upd_same, List.take_zero] <;> rfl⟩
      · rintro i H' hi ⟨sm, _⟩
        exact SqT.of (sm _ _ ha)
      · rintro i v H1 hv ⟨sm, hD⟩
        have hi : i < ds.length := by
          rw [← hlen]
          exact (List.getElem?_eq_some_iff.mp hv).1
        obtain ⟨v', hv', hd⟩ := hxs.get (i := i) (d := ds[i]) (List.getElem?_eq_getElem hi)
        rw [hv] at hv'
        obtain rfl := Option.some.inj hv'
        have hmem : ds[i] ∈ ds := List.getElem_mem hi
        have step : levs (ds.take (i + 1)) = levs (ds.take i) ++ (if isTup ds[i] = true then [(hgt ds[i] : Int)] else []) := by
          unfold levs
          rw [List.take_add_one, List.getElem?_eq_getElem hi, List.filter_append, List.map_append]
          congr 1
          cases h : isTup ds[i] with
          | true => simp [h]
          | false => simp [h]
        have hwd := wids_mem w2 hmem
        have hgd := hgts_mem hmem
        generalize ds[i] = d at hd step hwd hgd
        have hd := hd.same sm
        walk_at "xs"
        refine ⟨rfl, ?_⟩
        walk_at "xs"
        refine x_isTup hd ?_
        walk_at "xs"
        refine x_ite (fun ht => ?_) (fun ht => ?_)
        · obtain ⟨es, rfl⟩ := isTup_true ht
          walk_at "xs"
          refine i_lev hd hwd (by omega) fun H2 s2 => ?_
          refine ⟨_, s2 _ _ hD, ?_, ?_, ?_⟩
          · rw [List.length_map]
            unfold levs
            rw [List.length_map]
            have := List.length_filter_le isTup (ds.take i)
            rw [List.length_take] at this
            exact szl (by omega)
          · intro b u e
            rw [L2.upd_ne (ne_of_none e nD)]
            exact s2 _ _ (sm b u e)
          · rw [L2.upd_same, step, if_pos ht, List.map_append] <;> rfl
        · refine ⟨sm, ?_⟩
          rw [hD, step, if_neg (by rw [ht]; decide), List.append_nil]
      · rintro H1 ⟨sm, hD⟩
        rw [hlen, List.take_length] at hD
        walk_at "xs"
        refine ⟨by show 1 ≤ sizeLine; decide, fun p np => ?_⟩
        have s2 := same_new (o := .lst [.int 0]) np
        have g2 : (L2.upd H1 p (.lst [.int 0])) p = _ := L2.upd_same
        have hD := s2 _ _ hD
        have s2 := sm.trans s2
        generalize L2.upd H1 p (.lst [.int 0]) = H2 at s2 g2 hD ⊢
        walk_at "xs"
        refine x_catL hD g2 ?_ fun p2 n2 => ?_
        · rw [List.length_map]
          unfold levs
          rw [List.length_map]
          have := List.length_filter_le isTup ds
          exact sz (by simp only [List.length_cons, List.length_nil]; omega)
        have s3 := s2.trans (same_new (o := .lst ((levs ds).map V.int ++ [.int 0])) n2)
        have e3 : (levs ds).map V.int ++ [.int 0] = (levs ds ++ [0]).map V.int := by rw [List.map_append] <;> rfl
        rw [e3] at s3 ⊢
        walk_at "xs"
        refine ⟨p2, levs ds ++ [0], rfl, SqL.of L2.upd_same, by rw [List.length_append] <;> simp, fun m hm hmax => ?_⟩
        have em : m = (hgt.hgts ds : Int) := by
          have h1 := hmax _ (levs_has (ds := ds))
          rcases List.mem_append.mp hm with h | h
          · have := levs_le h
            omega
          · have : m = 0 := by simpa using h
            omega
        walk_at "xs"
        have := q _ s3
        rw [hh] at this
        rw [em, show (1 : Int) + (hgt.hgts ds : Int) = ((hgt.hgts ds + 1 : Nat) : Int) by omega]
        exact this
theorem k_atoms (T : Nm K mg) (F : FnX K mg "_law_atoms" s_law_atoms ["tree"]) : ∀ n, CalK P w K mg base (1 + n) "_law_atoms" (spAtoms n)
  | 0 => cal_false F fun vs H Q E h => by
    obtain ⟨_, ds, _, _, _, _, h, _⟩ := h
    rw [hgt_tuple] at h
    exact absurd h (by omega)
  | n + 1 => by
    have c_law_atoms := k_atoms T F n
    show CalK P w K mg base ((1 + n) + 1) "_law_atoms" (spAtoms (n + 1))
    refine cal_of F sc_law_atoms (fun vs H Q E h => ?_) (fun f cdv A outer s H vs Q E hr h => ?_)
    · obtain ⟨x, ds, v, rfl, _⟩ := h
      rfl
    · obtain ⟨x, ds, v, rfl, ⟨a, xs, rfl, ha, hxs⟩, hw, hn, q⟩ := h
      have hlen := hxs.length
      obtain ⟨w1, w2⟩ := Bool.and_eq_true_iff.mp (show (decide (ds.length ≤ 100) && wids ds) = true from hw)
      have w1 := of_decide_eq_true w1
      have hh := hgt_tuple ds
      refine ⟨_, (pss_cons (ps_setLc (i := 1) (own := [("part", 2)]) (g := gName 2) (by rfl) sc_law_atoms.nd rfl rfl (sw_true rfl rfl rfl (by decide +kernel)) (pi_tup (pv 0)) (blkOk_by (own := [("part", 2)]) (N := ["tree", "parts", "part"]) (sc := defScope s_law_atoms) (by decide +kernel)) (fun _ _ _ _ _ => pg_name (i := 2) sc_law_atoms.nd rfl (Or.inl rfl)) (fun _ _ _ _ _ => pts_one (pt_val (pe_callB (id := "isinstance") (r := rIsi K) call_isi (by rfl) T.n_isinstance (by decide +kernel) (pa_cons (pv 2) (pa_cons (pe_bltn (v := .ty "tuple") (by rfl) T.n_tuple (by decide +kernel) rfl) pa_nil))))) (fun _ _ _ _ _ => (C8.pe_c c_law_atoms hr (by omega) (by rfl) (pa_cons (pv 2) pa_nil))))
      (pss_one (ps_ret (pe_callB (cx_max2 rfl) (by rfl) T.n_max (by decide +kernel) (pa_cons pe_int (pa_cons (pe_callB (cr_sum rfl) (by rfl) T.n_sum (by decide +kernel) (pa_cons (pv 1) pa_nil)) pa_nil)))))), ?_⟩
      walk_at "xs"
      refine ⟨a, rfl, ⟨xs, SqT.of ha⟩, fun D nD => lc_tup (xs := xs) (fun i H' => Same H H' ∧ ∃ l : List Int, H' D = some (.lst (l.map V.int)) ∧ l.length ≤ i) ?_ ?_ ?_ ?_⟩
      · exact ⟨same_new nD, [], by rw [L2.upd_same] <;> rfl, Nat.le_refl _⟩
      · rintro i H' hi ⟨sm, _⟩
        exact SqT.of (sm _ _ ha)
      · rintro i v H1 hv ⟨sm, l, hD, hl⟩
        have hi : i < ds.length := by
          rw [← hlen]
          exact (List.getElem?_eq_some_iff.mp hv).1
        obtain ⟨v', hv', hd⟩ := hxs.get (i := i) (d := ds[i]) (List.getElem?_eq_getElem hi)
        rw [hv] at hv'
        obtain rfl := Option.some.inj hv'
        have hmem : ds[i] ∈ ds := List.getElem_mem hi
        have hwd := wids_mem w2 hmem
        have hgd := hgts_mem hmem
        generalize ds[i] = d at hd hwd hgd
        have hd := hd.same sm
        walk_at "xs"
        refine ⟨rfl, ?_⟩
        walk_at "xs"
        refine x_isTup hd ?_
        walk_at "xs"
        refine x_ite (fun ht => ?_) (fun ht => ?_)
        · obtain ⟨es, rfl⟩ := isTup_true ht
          walk_at "xs"
          refine i_atoms hd hwd (by omega) fun j H2 s2 => ?_
          refine ⟨_, s2 _ _ hD, ?_, ?_, ?_⟩
          · rw [List.length_map]
            exact szl (by omega)
          · intro b u e
            rw [L2.upd_ne (ne_of_none e nD)]
            exact s2 _ _ (sm b u e)
          · exact ⟨l ++ [j], by rw [L2.upd_same, List.map_append] <;> rfl, by rw [List.length_append]; simp only [List.length_cons, List.length_nil]; omega⟩
        · exact ⟨sm, l, hD, by omega⟩
      · rintro H1 ⟨sm, l, hD, hl⟩
        walk_at "xs"
        refine ⟨D, l, rfl, SqL.of hD, ?_⟩
        walk_at "xs"
        exact q _ _ sm
/-! ### chains -/
def spChain : Sp := fun vs H Q _ => ∃ (S : Sto) (N L : Addr) (us ls : List Str) (d : PyData) (v : V) (n : Nat), vs = [.ref S.a, v, .ref N, .ref L, .int n] ∧ NL S H N L us ls ∧ At S.a H d v ∧ VT d ∧ hgt d = 1 ∧ 1 ≤ n ∧ n ≤ 90 ∧ StoreAt H S ∧ ∀ v d H', Ext S H H' → VT d → hgt d = n → At S.a H' d v → Q v H'
theorem i_chain {S : Sto} {N L : Addr} {us ls : List Str} {d : PyData} {v : V} {n : Nat} {H : Hp} {Q : VK} {E : XK} (nl : NL S H N L us ls) (h : StoreAt H S) (hd : At S.a H d v) (vd : VT d) (h1 : hgt d = 1) (n1 : 1 ≤ n) (n2 : n ≤ 90)
    (q : ∀ v d H', Ext S H H' → VT d → hgt d = n → At S.a H' d v → Q v H') : spChain [.ref S.a, v, .ref N, .ref L, .int n] H Q E := ⟨S, N, L, us, ls, d, v, n, rfl, nl, hd, vd, h1, n1, n2, h, q⟩
theorem k_chain (T : Nm K mg) (F : FnX K mg "_law_chain" s_law_chain ["store", "tree", "names", "letters", "level"]) (c_law_take : CalK P w K mg base 2 "_law_take" spTake) (c_law_atom : CalK P w K mg base 4 "_law_atom" spAtomM) : CalK P w K mg base 5 "_law_chain" spChain := by
  refine cal_of F sc_law_chain (fun vs H Q E h => ?_) (fun f cdv A outer s H vs Q E hr h => ?_)
  · obtain ⟨S, N, L, us, ls, d, v, n, rfl, _⟩ := h
    rfl
  · obtain ⟨S, N, L, us, ls, d, v, n, rfl, nl, hd, vd, h1, n1, n2, hs, q⟩ := h
    refine ⟨_, (pss_cons (ps_for PassesOwn.never rfl (pi_range1 (by rfl) T.n_range (pa_cons (pe_op op_sub (pv 4) pe_int) pa_nil)) (pg_name (i := 5) sc_law_chain.nd rfl (Or.inl rfl)) (pss_cons (ps_set (i := 6) sc_law_chain.nd rfl (Or.inl rfl) (C8.pe_c c_law_atom hr (by omega) (by rfl) (pa_cons (pv 0) (pa_cons (pv 2) (pa_cons (pv 3) pa_nil)))))
      (pss_cons (ps_set (i := 7) sc_law_chain.nd rfl (Or.inl rfl) (C8.pe_c c_law_take hr (by omega) (by rfl) (pa_cons (pv 0) (pa_cons pe_int pa_nil))))
      (pss_one (ps_set (i := 1) sc_law_chain.nd rfl (Or.inl rfl) (pe_ix (r := rIxL K) ix_list (pe_lst (pa_cons (pe_tup (pa_cons pe_str (pa_cons (pv 1) pa_nil))) (pa_cons (pe_tup (pa_cons pe_str (pa_cons (pv 1) (pa_cons (pv 6) pa_nil)))) (pa_cons (pe_tup (pa_cons pe_str (pa_cons (pv 6) (pa_cons (pv 1) pa_nil)))) (pa_cons (pe_tup (pa_cons pe_str (pa_cons (pv 1) (pa_cons (pv 6) pa_nil)))) pa_nil))))) (pv 7) (fun _ _ => rfl)))))))
      (pss_one (ps_ret (pv 1)))), ?_⟩
    walk_at "xs"
    refine ⟨(n : Int) - 1, rfl, by omega, by omega, ?_⟩
    refine for_range (lo := 0) (n := ((n : Int) - 1).toNat) (fun i σ' H' => ∃ v d y1 y2 y3, σ' = [some (.ref S.a), some v, some (.ref N), some (.ref L), some (.int n), y1, y2, y3] ∧ Ext S H H' ∧ VT d ∧ hgt d = i + 1 ∧ At S.a H' d v) ?_ ?_ ?_
    · exact ⟨v, d, _, _, _, rfl, Ext.refl hs, vd, h1, hd⟩
    · rintro i σ' H1 hi ⟨v, d, y1, y2, y3, rfl, e1, vd, hh, hd⟩
      walk_at "xs"
      refine i_atomM (nl.ext e1) e1.st fun v2 d2 H2 e2 vd2 hh2 hd2 => ?_
      have hd := hd.ext e1.st e2
      have e2 := e1.trans e2
      walk_at "xs"
      refine i_take (by decide) e2.st fun way H3 e3 _ hw => ?_
      have hw := hw (by decide)
      have hd := hd.ext e2.st e3
      have hd2 := hd2.ext e2.st e3
      have e3 := e2.trans e3
      walk_at "xs"
      refine ⟨by show 2 ≤ sizeLine; decide, fun p1 n1 => ?_⟩
      have f1 := same_new (o := .tup [.str "not", v]) n1
      have g1 : (L2.upd H3 p1 (.tup [.str "not", v])) p1 = _ := L2.upd_same
      generalize L2.upd H3 p1 (.tup [.str "not", v]) = H4 at f1 g1 ⊢
      walk_at "xs"
      refine ⟨by show 3 ≤ sizeLine; decide, fun p2 n2 => ?_⟩
      have f2 := same_new (o := .tup [.str "and", v, v2]) n2
      have g2 : (L2.upd H4 p2 (.tup [.str "and", v, v2])) p2 = _ := L2.upd_same
      generalize L2.upd H4 p2 (.tup [.str "and", v, v2]) = H5 at f2 g2 ⊢
      walk_at "xs"
      refine ⟨by show 3 ≤ sizeLine; decide, fun p3 n3 => ?_⟩
      have f3 := same_new (o := .tup [.str "or", v2, v]) n3
      have g3 : (L2.upd H5 p3 (.tup [.str "or", v2, v])) p3 = _ := L2.upd_same
      generalize L2.upd H5 p3 (.tup [.str "or", v2, v]) = H6 at f3 g3 ⊢
      walk_at "xs"
      refine ⟨by show 3 ≤ sizeLine; decide, fun p4 n4 => ?_⟩
      have f4 := same_new (o := .tup [.str "or", v, v2]) n4
      have g4 : (L2.upd H6 p4 (.tup [.str "or", v, v2])) p4 = _ := L2.upd_same
      generalize L2.upd H6 p4 (.tup [.str "or", v, v2]) = H7 at f4 g4 ⊢
      walk_at "xs"
      refine ⟨by show 4 ≤ sizeLine; decide, fun p5 n5 => ?_⟩
      have f5 := same_new (o := .lst [.ref p1, .ref p2, .ref p3, .ref p4]) n5
      have g5 : (L2.upd H7 p5 (.lst [.ref p1, .ref p2, .ref p3, .ref p4])) p5 = _ := L2.upd_same
      generalize L2.upd H7 p5 (.lst [.ref p1, .ref p2, .ref p3, .ref p4]) = H8 at f5 g5 ⊢
      have fa := (((f1.trans f2).trans f3).trans f4).trans f5
      have hd := hd.same fa
      have hd2 := hd2.same fa
      have e8 := e3.trans (Ext.same e3.st fa)
      have a1 := f5 _ _ (f4 _ _ (f3 _ _ (f2 _ _ g1)))
      have a2 := f5 _ _ (f4 _ _ (f3 _ _ g2))
      have a3 := f5 _ _ (f4 _ _ g3)
      have a4 := f5 _ _ g4
      walk_at "xs"
      have hw4 : way = 0 ∨ way = 1 ∨ way = 2 ∨ way = 3 := by omega
      rcases hw4 with rfl | rfl | rfl | rfl
      · refine x_lstI (SqL.of g5) (atI_nat (j := 0) rfl) ?_
        walk_at "xs"
        exact ⟨.ref p1, .tuple [.str "not", d], _, _, _, rfl, e8, .nt vd, by rw [hgt2]; omega, p1, _, rfl, a1, _, _, rfl, ⟨rfl, by decide⟩, _, _, rfl, hd, rfl⟩
      · refine x_lstI (SqL.of g5) (atI_nat (j := 1) rfl) ?_
        walk_at "xs"
        exact ⟨.ref p2, .tuple [.str "and", d, d2], _, _, _, rfl, e8, .bin (.inl rfl) vd vd2, by rw [hgt3]; omega, p2, _, rfl, a2, _, _, rfl, ⟨rfl, by decide⟩, _, _, rfl, hd, _, _, rfl, hd2, rfl⟩
      · refine x_lstI (SqL.of g5) (atI_nat (j := 2) rfl) ?_
        walk_at "xs"
        exact ⟨.ref p3, .tuple [.str "or", d2, d], _, _, _, rfl, e8, .bin (.inr rfl) vd2 vd, by rw [hgt3]; omega, p3, _, rfl, a3, _, _, rfl, ⟨rfl, by decide⟩, _, _, rfl, hd2, _, _, rfl, hd, rfl⟩
      · refine x_lstI (SqL.of g5) (atI_nat (j := 3) rfl) ?_
        walk_at "xs"
        exact ⟨.ref p4, .tuple [.str "or", d, d2], _, _, _, rfl, e8, .bin (.inr rfl) vd vd2, by rw [hgt3]; omega, p4, _, rfl, a4, _, _, rfl, ⟨rfl, by decide⟩, _, _, rfl, hd, _, _, rfl, hd2, rfl⟩
    · rintro σ' H1 ⟨v, d, y1, y2, y3, rfl, e1, vd, hh, hd⟩
      walk_at "xs"
      exact q v d H1 e1 vd (by omega) hd
end
end K76

set_option Elab.async false
set_option linter.all false
set_option maxRecDepth 100000
/-! a tree twisted -/
namespace K76
open PySem PySem.Spec PyProof.Rows L2 SX
local macro_rules | `(tactic| walk_at "x") => `(tactic| with_reducible first
  | refine x_seq ?_ | refine x_asg ?_ | refine x_op ?_ | refine x_cons ?_ | refine x_nil ?_ | refine x_c ?_ | refine x_name ?_ | refine x_cb ?_ | refine x_call ?_ | refine x_ret ?_ | refine x_ifS ?_
  | refine x_test ?_ | refine x_bl ?_ | refine x_I0 ?_ | refine x_sub ?_ | refine x_tup ?_ | refine x_lst ?_ | refine x_and ?_ | refine x_or ?_ | refine x_not ?_ | refine x_if ?_ | refine x_andV ?_ | refine x_orV ?_ | refine x_notV ?_
  | refine x_retN ?_ | refine x_drop ?_ | refine x_next ?_ | refine x_un ?_ | refine x_B ?_ | refine x_sl ?_ | refine x_noPart ?_ | refine x_part ?_ | refine x_chain ?_ | refine x_int ?_
  | refine x_eqI ?_ | refine x_eqS ?_ | refine x_neI ?_ | refine x_neS ?_ | refine x_eqB ?_ | refine x_neB ?_ | refine x_toI ?_ | refine x_absI ?_ | refine x_mx2 ?_ | refine x_M1 ?_ | refine x_isS ?_ | refine iteT ?_ | refine iteF ?_ | refine x_lc ?_ | refine x_for ?_ | refine x_rng1 ?_ | refine x_iList ?_ | refine x_iTup ?_ | refine x_yes ?_ | refine x_iStr ?_ | refine x_gcons ?_ | refine x_gnil ?_ | refine x_neg ?_ | refine x_sfld ?_ | refine x_tfld ?_ | refine x_make ?_ | refine x_bm ?_)
local macro_rules | `(tactic| walk_at "xs") => `(tactic| repeat (first | walk_at "x" | ((with_reducible show tVar _ _ _ _); refine x_var rfl ?_)))
theorem cut_whole {xs : List V} {lo hi : Option Int} (h : HT.sIx xs.length 0 lo = 0 ∧ HT.sIx xs.length xs.length hi = xs.length) : cutV xs lo hi = xs := by
  unfold cutV
  rw [h.1, h.2, List.drop_zero, Nat.sub_zero, List.take_length]
theorem x_slA {K : PySem.W.Frag} {H : Hp} {Q : VK} {a : Addr} {xs : List V} {lo hi : Option Int} (h : H a = some (.tup xs)) (q : ∀ p H', Same H H' → H' p = some (.tup (cutV xs lo hi)) → Q (.ref p) H') : rSlA K (.ref a) lo hi H Q :=
  ⟨a, xs, rfl, SqT.of h, fun w => q a H (Same.refl H) (by rw [cut_whole w]; exact h), fun _ p np => q p _ (same_new np) L2.upd_same⟩
theorem x_catA {K : PySem.W.Frag} {H : Hp} {Q : VK} {a b : Addr} {xs ys : List V} (h : H a = some (.tup xs)) (h' : H b = some (.tup ys)) (z : xs.length + ys.length ≤ sizeLine) (q : ∀ p H', Same H H' → H' p = some (.tup (xs ++ ys)) → Q (.ref p) H') : rCatA K (.ref a) (.ref b) H Q :=
  ⟨a, b, xs, ys, rfl, rfl, SqT.of h, SqT.of h', z, fun e => q b H (Same.refl H) (by rw [e]; exact h'), fun _ e => q a H (Same.refl H) (by rw [e, List.append_nil]; exact h), fun _ _ p np => q p _ (same_new np) L2.upd_same⟩
theorem x_eqsT {i j : Str} {A B : Prop} (h : i = j) (q : A) : if decide (V.str i = V.str j) = true then A else B := by
  rw [h, decide_eq_true rfl, if_pos rfl]
  exact q
theorem x_eqsF {i j : Str} {A B : Prop} (h : i ≠ j) (q : B) : if decide (V.str i = V.str j) = true then A else B := by
  rw [decide_eq_false fun z => h (V.str.inj z), if_neg (by decide)]
  exact q
theorem single_or {k : Str} (h : k ∈ single) : k = "quiet" ∨ k = "stuck" ∨ k = "done" := by
  rcases List.mem_cons.mp h with h | h
  · exact .inl h
  · rcases List.mem_cons.mp h with h | h
    · exact .inr (.inl h)
    · exact .inr (.inr (by simpa using h))
def spTwi (n : Nat) : Sp := fun vs H Q _ => ∃ (S : Sto) (d : PyData) (v : V), vs = [.ref S.a, v] ∧ At S.a H d v ∧ VT d ∧ hgt d ≤ n ∧ StoreAt H S ∧ ∀ v' d' H', Ext S H H' → VT d' → hgt d' = hgt d → At S.a H' d' v' → Q v' H'
theorem i_twi {n : Nat} {S : Sto} {d : PyData} {v : V} {H : Hp} {Q : VK} {E : XK} (h : StoreAt H S) (hd : At S.a H d v) (vd : VT d) (hn : hgt d ≤ n) (q : ∀ v' d' H', Ext S H H' → VT d' → hgt d' = hgt d → At S.a H' d' v' → Q v' H') : spTwi n [.ref S.a, v] H Q E := ⟨S, d, v, rfl, hd, vd, hn, h, q⟩
section
variable {P : Program} {w : World} {K : PySem.W.Frag} {mg : Str → Option Value} {base : Heap}
theorem k_twi (T : Nm K mg) (F : FnX K mg "_law_twisted" s_law_twisted ["store", "tree"]) (c_law_take : CalK P w K mg base 2 "_law_take" spTake) (c_law_pick : CalK P w K mg base 3 "_law_pick" (spPick K)) : ∀ n, CalK P w K mg base (3 + n) "_law_twisted" (spTwi n)
  | 0 => cal_false F fun vs H Q E h => by
    obtain ⟨_, d, _, _, _, vd, h, _⟩ := h
    have := vd.level.2
    omega
  | n + 1 => by
    have c_law_twisted := k_twi T F c_law_take c_law_pick n
    show CalK P w K mg base ((3 + n) + 1) "_law_twisted" (spTwi (n + 1))
    refine cal_of F sc_law_twisted (fun vs H Q E h => ?_) (fun f cdv A outer s H vs Q E hr h => ?_)
    · obtain ⟨S, d, v, rfl, _⟩ := h
      rfl
    · obtain ⟨S, d, v, rfl, hd, vd, hn, hs, q⟩ := h
      refine ⟨_, (pss_cons (ps_set (i := 2) sc_law_twisted.nd rfl (Or.inl rfl) (C8.pe_c c_law_take hr (by omega) (by rfl) (pa_cons (pv 0) (pa_cons pe_int pa_nil))))
      (pss_cons (ps_if (pt_cmpR op_eq (pe_ix (r := rIxT K) ix_tup (pv 1) pe_int (fun _ _ => rfl)) pe_str (nomark _)) (pss_one (ps_ret (pe_tup (pa_cons pe_str (pa_cons (C8.pe_c c_law_twisted hr (by omega) (by rfl) (pa_cons (pv 0) (pa_cons (pe_ix (r := rIxT K) ix_tup (pv 1) pe_int (fun _ _ => rfl)) pa_nil))) pa_nil))))) pss_nil)
      (pss_cons (ps_if (PW.pt (pw_or (pt_cmpR op_eq (pe_ix (r := rIxT K) ix_tup (pv 1) pe_int (fun _ _ => rfl)) pe_str (nomark _)) (pw_or1 (pt_cmpR op_eq (pe_ix (r := rIxT K) ix_tup (pv 1) pe_int (fun _ _ => rfl)) pe_str (nomark _))))) (pss_cons (ps_if (pt_cmpR op_eq (pv 2) pe_int (nomark _)) (pss_one (ps_ret (pe_tup (pa_cons (pe_ifExp (pt_cmpR op_eq (pe_ix (r := rIxT K) ix_tup (pv 1) pe_int (fun _ _ => rfl)) pe_str (nomark _)) pe_str pe_str) (pa_cons (pe_ix (r := rIxT K) ix_tup (pv 1) pe_int (fun _ _ => rfl)) (pa_cons (pe_ix (r := rIxT K) ix_tup (pv 1) pe_int (fun _ _ => rfl)) pa_nil)))))) pss_nil)
      (pss_cons (ps_if (pt_cmpR op_eq (pv 2) pe_int (nomark _)) (pss_one (ps_ret (pe_tup (pa_cons (pe_ix (r := rIxT K) ix_tup (pv 1) pe_int (fun _ _ => rfl)) (pa_cons (pe_ix (r := rIxT K) ix_tup (pv 1) pe_int (fun _ _ => rfl)) (pa_cons (pe_ix (r := rIxT K) ix_tup (pv 1) pe_int (fun _ _ => rfl)) pa_nil)))))) pss_nil)
      (pss_cons (ps_if (pt_cmpR op_eq (pv 2) pe_int (nomark _)) (pss_one (ps_ret (pe_tup (pa_cons (pe_ix (r := rIxT K) ix_tup (pv 1) pe_int (fun _ _ => rfl)) (pa_cons (C8.pe_c c_law_twisted hr (by omega) (by rfl) (pa_cons (pv 0) (pa_cons (pe_ix (r := rIxT K) ix_tup (pv 1) pe_int (fun _ _ => rfl)) pa_nil))) (pa_cons (pe_ix (r := rIxT K) ix_tup (pv 1) pe_int (fun _ _ => rfl)) pa_nil)))))) pss_nil)
      (pss_one (ps_ret (pe_tup (pa_cons (pe_ix (r := rIxT K) ix_tup (pv 1) pe_int (fun _ _ => rfl)) (pa_cons (pe_ix (r := rIxT K) ix_tup (pv 1) pe_int (fun _ _ => rfl)) (pa_cons (C8.pe_c c_law_twisted hr (by omega) (by rfl) (pa_cons (pv 0) (pa_cons (pe_ix (r := rIxT K) ix_tup (pv 1) pe_int (fun _ _ => rfl)) pa_nil))) pa_nil))))))))) pss_nil)
      (pss_cons (ps_if (pt_cmpR op_eq (pe_ix (r := rIxT K) ix_tup (pv 1) pe_int (fun _ _ => rfl)) pe_str (nomark _)) (pss_one (ps_ret (pe_tup (pa_cons pe_str (pa_cons (pe_ix (r := rIxT K) ix_tup (pv 1) pe_int (fun _ _ => rfl)) (pa_cons (pe_op op_mod (pe_callTy cx_int (by rfl) T.n_int (by decide +kernel) (pa_cons (pe_op op_add (pe_op op_add (pe_ix (r := rIxT K) ix_tup (pv 1) pe_int (fun _ _ => rfl)) pe_int) (pv 2)) pa_nil)) pe_int) pa_nil)))))) pss_nil)
      (pss_cons (ps_if (PW.pt (pw_or (pt_cmpR op_eq (pe_ix (r := rIxT K) ix_tup (pv 1) pe_int (fun _ _ => rfl)) pe_str (nomark _)) (pw_or1 (pt_cmpR op_eq (pe_ix (r := rIxT K) ix_tup (pv 1) pe_int (fun _ _ => rfl)) pe_str (nomark _))))) (pss_one (ps_ret (pe_op op_catA (pe_tup (pa_cons (pe_ix (r := rIxT K) ix_tup (pv 1) pe_int (fun _ _ => rfl)) (pa_cons (pe_ix (r := rIxT K) ix_tup (pv 1) pe_int (fun _ _ => rfl)) (pa_cons (pe_ix (r := rIxT K) ix_tup (pv 1) pe_int (fun _ _ => rfl)) pa_nil)))) (pe_slice sl_tupA (pv 1) (po_some pe_int) po_none)))) pss_nil)
      (pss_one (ps_ret (pe_tup (pa_cons (C8.pe_c c_law_pick hr (by omega) (by rfl) (pa_cons (pv 0) (pa_cons (pe_lc (own := [("kind", 3)]) (g := gName 3) (by rfl) sc_law_twisted.nd (pi_list (pe_lst (pa_cons pe_str (pa_cons pe_str (pa_cons pe_str pa_nil))))) (blkOk_by (own := [("kind", 3)]) (N := ["store", "tree", "way", "kind"]) (sc := defScope s_law_twisted) (by decide +kernel)) (fun _ _ _ _ _ => pg_name (i := 3) sc_law_twisted.nd rfl (Or.inl rfl)) (fun _ _ _ _ _ => pts_one (pt_cmpR op_ne (pv 3) (pe_ix (r := rIxT K) ix_tup (pv 1) pe_int (fun _ _ => rfl)) (nomark _))) (fun _ _ _ _ _ => (pv 3))) pa_nil))) pa_nil))))))))), ?_⟩
      walk_at "xs"
      refine i_take (by decide) hs fun way H1 e1 _ hw => ?_
      have hw := hw (by decide)
      have hd := hd.ext hs e1
      walk_at "xs"
      cases vd with
      | @one k hk =>
        obtain ⟨a, xs, rfl, ha, _, _, rfl, ⟨rfl, hkl⟩, rfl⟩ := hd
        refine x_tupI (SqT.of ha) (atI_nat (j := 0) rfl) ?_
        walk_at "xs"
        refine x_eqsF (fun z => by subst z; exact absurd hk (by decide +kernel)) ?_
        walk_at "xs"
        refine x_tupI (SqT.of ha) (atI_nat (j := 0) rfl) ?_
        walk_at "xs"
        refine x_eqsF (fun z => by subst z; exact absurd hk (by decide +kernel)) ?_
        walk_at "xs"
        refine x_tupI (SqT.of ha) (atI_nat (j := 0) rfl) ?_
        walk_at "xs"
        refine x_eqsF (fun z => by subst z; exact absurd hk (by decide +kernel)) ?_
        walk_at "xs"
        refine x_tupI (SqT.of ha) (atI_nat (j := 0) rfl) ?_
        walk_at "xs"
        refine x_eqsF (fun z => by subst z; exact absurd hk (by decide +kernel)) ?_
        walk_at "xs"
        refine x_tupI (SqT.of ha) (atI_nat (j := 0) rfl) ?_
        walk_at "xs"
        refine x_eqsF (fun z => by subst z; exact absurd hk (by decide +kernel)) ?_
        walk_at "xs"
        refine x_tupI (SqT.of ha) (atI_nat (j := 0) rfl) ?_
        walk_at "xs"
        refine x_eqsF (fun z => by subst z; exact absurd hk (by decide +kernel)) ?_
        walk_at "xs"
        refine ⟨by show 3 ≤ sizeLine; decide, fun p np => ?_⟩
        have s1 := same_new (o := .lst [.str "quiet", .str "stuck", .str "done"]) np
        have g1 : (L2.upd H1 p (.lst [.str "quiet", .str "stuck", .str "done"])) p = some (.lst (single.map V.str)) := L2.upd_same
        have ha := s1 _ _ ha
        have e2 := e1.trans (Ext.same e1.st s1)
        generalize L2.upd H1 p (.lst [.str "quiet", .str "stuck", .str "done"]) = H2 at s1 g1 ha e2 ⊢
        walk_at "xs"
        refine ⟨p, rfl, ⟨_, SqL.of g1⟩, fun D nD => lc_list (xs := single.map V.str) (fun i H' => Same H2 H' ∧ H' D = some (.lst (((single.take i).filter fun z => !decide (z = k)).map V.str))) ?_ ?_ ?_ ?_⟩
        · exact ⟨same_new nD, by rw [L2.upd_same, List.take_zero] <;> rfl⟩
        · rintro i H' hi ⟨sm, _⟩
          exact SqL.of (sm _ _ g1)
        · rintro i v H3 hv ⟨sm, hD⟩
          rw [List.getElem?_map] at hv
          cases hz : single[i]? with
          | none =>
            rw [hz] at hv
            cases hv
          | some z =>
            rw [hz] at hv
            obtain rfl : V.str z = v := Option.some.inj hv
            have step : (single.take (i + 1)).filter (fun z => !decide (z = k)) = ((single.take i).filter fun z => !decide (z = k)) ++ (if (!decide (z = k)) = true then [z] else []) := by
              rw [List.take_add_one, hz, List.filter_append]
              congr 1
              cases h : (!decide (z = k)) with
              | true => simp [h]
              | false => simp [h]
            have hl : ((single.take i).filter fun z => !decide (z = k)).length ≤ 3 := by
              have h1 := List.length_filter_le (fun z => !decide (z = k)) (single.take i)
              rw [List.length_take] at h1
              have : single.length = 3 := rfl
              omega
            walk_at "xs"
            refine ⟨rfl, ?_⟩
            walk_at "xs"
            refine x_tupI (SqT.of (sm _ _ ha)) (atI_nat (j := 0) rfl) ?_
            walk_at "xs"
            rw [decS]
            refine x_ite (fun h => ?_) (fun h => ?_)
            · walk_at "xs"
              refine ⟨_, hD, ?_, ?_, ?_⟩
              · rw [List.length_map]
                exact szl (by omega)
              · intro b u e
                rw [L2.upd_ne (ne_of_none e nD)]
                exact sm b u e
              · rw [L2.upd_same, step, if_pos h, List.map_append] <;> rfl
            · refine ⟨sm, ?_⟩
              rw [hD, step, if_neg (by rw [h]; decide), List.append_nil]
        · rintro H3 ⟨sm, hD⟩
          have fD := e2.st.free nD
          have e3 := Ext.same e2.st sm
          rw [List.length_map, List.take_length] at hD
          have hlen : (single.filter fun z => !decide (z = k)).length = 2 := by
            rcases single_or hk with rfl | rfl | rfl <;> decide +kernel
          walk_at "xs"
          refine i_pick e3.st hD (fun j v H4 e4 hv => ?_) fD.1 (by rw [List.length_map, hlen]; decide) (by rw [List.length_map, hlen]; decide)
          rw [List.getElem?_map] at hv
          cases hz : (single.filter fun z => !decide (z = k))[j]? with
          | none =>
            rw [hz] at hv
            cases hv
          | some z =>
            rw [hz] at hv
            obtain rfl : V.str z = v := Option.some.inj hv
            have hz : z ∈ single := (List.mem_filter.mp (List.mem_of_getElem? hz)).1
            have e4 := (e2.trans e3).trans e4
            walk_at "xs"
            refine ⟨by show 1 ≤ sizeLine; decide, fun p2 n2 => ?_⟩
            exact q _ _ _ (e4.new n2) (.one hz) (by rw [hgt1, hgt1]) ⟨p2, _, rfl, L2.upd_same, _, _, rfl, ⟨rfl, (single_ok hz).2⟩, rfl⟩
      | @at_ z p nz p0 p1 =>
        obtain ⟨a, xs, rfl, ha, _, _, rfl, ⟨rfl, hkl⟩, _, _, rfl, ⟨rfl, hz⟩, _, _, rfl, rfl, rfl⟩ := hd
        refine x_tupI (SqT.of ha) (atI_nat (j := 0) rfl) ?_
        walk_at "xs"
        refine x_eqsF (by decide +kernel) ?_
        walk_at "xs"
        refine x_tupI (SqT.of ha) (atI_nat (j := 0) rfl) ?_
        walk_at "xs"
        refine x_eqsF (by decide +kernel) ?_
        walk_at "xs"
        refine x_tupI (SqT.of ha) (atI_nat (j := 0) rfl) ?_
        walk_at "xs"
        refine x_eqsF (by decide +kernel) ?_
        walk_at "xs"
        refine x_tupI (SqT.of ha) (atI_nat (j := 0) rfl) ?_
        walk_at "xs"
        refine x_eqsT rfl ?_
        walk_at "xs"
        refine x_tupI (SqT.of ha) (atI_nat (j := 1) rfl) ?_
        walk_at "xs"
        refine x_tupI (SqT.of ha) (atI_nat (j := 2) rfl) ?_
        walk_at "xs"
        refine x_I (by show (0 : Int) < 100; decide) ?_
        walk_at "xs"
        refine ⟨by show 3 ≤ sizeLine; decide, fun p2 n2 => ?_⟩
        exact q _ _ _ (e1.new n2) (.at_ nz (p := (p + 1 + way) % 100) (by omega) (by omega)) (by rw [hgt3, hgt3, hgt_int, hgt_int]) ⟨p2, _, rfl, L2.upd_same, _, _, rfl, ⟨rfl, hkl⟩, _, _, rfl, ⟨rfl, hz⟩, _, _, rfl, rfl, rfl⟩
      | @has z1 z2 n1 n2 ne =>
        obtain ⟨a, xs, rfl, ha, _, _, rfl, ⟨rfl, hkl⟩, _, _, rfl, ⟨rfl, hz1⟩, _, _, rfl, ⟨rfl, hz2⟩, rfl⟩ := hd
        refine x_tupI (SqT.of ha) (atI_nat (j := 0) rfl) ?_
        walk_at "xs"
        refine x_eqsF (by decide +kernel) ?_
        walk_at "xs"
        refine x_tupI (SqT.of ha) (atI_nat (j := 0) rfl) ?_
        walk_at "xs"
        refine x_eqsF (by decide +kernel) ?_
        walk_at "xs"
        refine x_tupI (SqT.of ha) (atI_nat (j := 0) rfl) ?_
        walk_at "xs"
        refine x_eqsF (by decide +kernel) ?_
        walk_at "xs"
        refine x_tupI (SqT.of ha) (atI_nat (j := 0) rfl) ?_
        walk_at "xs"
        refine x_eqsF (by decide +kernel) ?_
        walk_at "xs"
        refine x_tupI (SqT.of ha) (atI_nat (j := 0) rfl) ?_
        walk_at "xs"
        refine x_eqsT rfl ?_
        walk_at "xs"
        refine x_tupI (SqT.of ha) (atI_nat (j := 0) rfl) ?_
        walk_at "xs"
        refine x_tupI (SqT.of ha) (atI_nat (j := 2) rfl) ?_
        walk_at "xs"
        refine x_tupI (SqT.of ha) (atI_nat (j := 1) rfl) ?_
        walk_at "xs"
        refine ⟨by show 3 ≤ sizeLine; decide, fun p2 np2 => ?_⟩
        have s2 := same_new (o := .tup [.str "has", .str z2, .str z1]) np2
        have g2 : (L2.upd H1 p2 (.tup [.str "has", .str z2, .str z1])) p2 = _ := L2.upd_same
        have ha := s2 _ _ ha
        generalize L2.upd H1 p2 (.tup [.str "has", .str z2, .str z1]) = H2 at s2 g2 ha ⊢
        walk_at "xs"
        refine x_slA ha fun p3 H3 s3 g3 => ?_
        walk_at "xs"
        rw [cut_from (by decide) (by show (3 : Int) ≤ 3; decide)] at g3
        refine x_catA (s3 _ _ g2) g3 (by show 3 + 0 ≤ sizeLine; decide) fun p4 H4 s4 g4 => ?_
        exact q _ _ _ (e1.trans (Ext.same e1.st ((s2.trans s3).trans s4))) (.has n2 n1 (Ne.symm ne)) (by rw [hgt3, hgt3, hgt_str, hgt_str]) ⟨p4, _, rfl, g4, _, _, rfl, ⟨rfl, hkl⟩, _, _, rfl, ⟨rfl, hz2⟩, _, _, rfl, ⟨rfl, hz1⟩, rfl⟩
      | @head z1 z2 l n1 n2 ne hl =>
        obtain ⟨a, xs, rfl, ha, _, _, rfl, ⟨rfl, hkl⟩, _, _, rfl, ⟨rfl, hz1⟩, _, _, rfl, ⟨rfl, hz2⟩, _, _, rfl, ⟨rfl, hll⟩, rfl⟩ := hd
        refine x_tupI (SqT.of ha) (atI_nat (j := 0) rfl) ?_
        walk_at "xs"
        refine x_eqsF (by decide +kernel) ?_
        walk_at "xs"
        refine x_tupI (SqT.of ha) (atI_nat (j := 0) rfl) ?_
        walk_at "xs"
        refine x_eqsF (by decide +kernel) ?_
        walk_at "xs"
        refine x_tupI (SqT.of ha) (atI_nat (j := 0) rfl) ?_
        walk_at "xs"
        refine x_eqsF (by decide +kernel) ?_
        walk_at "xs"
        refine x_tupI (SqT.of ha) (atI_nat (j := 0) rfl) ?_
        walk_at "xs"
        refine x_eqsF (by decide +kernel) ?_
        walk_at "xs"
        refine x_tupI (SqT.of ha) (atI_nat (j := 0) rfl) ?_
        walk_at "xs"
        refine x_eqsF (by decide +kernel) ?_
        walk_at "xs"
        refine x_tupI (SqT.of ha) (atI_nat (j := 0) rfl) ?_
        walk_at "xs"
        refine x_eqsT rfl ?_
        walk_at "xs"
        refine x_tupI (SqT.of ha) (atI_nat (j := 0) rfl) ?_
        walk_at "xs"
        refine x_tupI (SqT.of ha) (atI_nat (j := 2) rfl) ?_
        walk_at "xs"
        refine x_tupI (SqT.of ha) (atI_nat (j := 1) rfl) ?_
        walk_at "xs"
        refine ⟨by show 3 ≤ sizeLine; decide, fun p2 np2 => ?_⟩
        have s2 := same_new (o := .tup [.str "head", .str z2, .str z1]) np2
        have g2 : (L2.upd H1 p2 (.tup [.str "head", .str z2, .str z1])) p2 = _ := L2.upd_same
        have ha := s2 _ _ ha
        generalize L2.upd H1 p2 (.tup [.str "head", .str z2, .str z1]) = H2 at s2 g2 ha ⊢
        walk_at "xs"
        refine x_slA ha fun p3 H3 s3 g3 => ?_
        walk_at "xs"
        rw [cut_from (by decide) (by show (3 : Int) ≤ 4; decide)] at g3
        refine x_catA (s3 _ _ g2) g3 (by show 3 + 1 ≤ sizeLine; decide) fun p4 H4 s4 g4 => ?_
        exact q _ _ _ (e1.trans (Ext.same e1.st ((s2.trans s3).trans s4))) (.head n2 n1 (Ne.symm ne) hl) (by rw [hgt4, hgt4, hgt_str, hgt_str, hgt_str]) ⟨p4, _, rfl, g4, _, _, rfl, ⟨rfl, hkl⟩, _, _, rfl, ⟨rfl, hz2⟩, _, _, rfl, ⟨rfl, hz1⟩, _, _, rfl, ⟨rfl, hll⟩, rfl⟩
      | @nt d vd =>
        obtain ⟨a, xs, rfl, ha, _, _, rfl, ⟨rfl, hkl⟩, v1, _, rfl, hd1, rfl⟩ := hd
        rw [hgt2] at hn q
        refine x_tupI (SqT.of ha) (atI_nat (j := 0) rfl) ?_
        walk_at "xs"
        refine x_eqsT rfl ?_
        walk_at "xs"
        refine x_tupI (SqT.of ha) (atI_nat (j := 1) rfl) ?_
        walk_at "xs"
        refine i_twi e1.st hd1 vd (by omega) fun v' d' H2 e2 vd' hh hd' => ?_
        have e2 := e1.trans e2
        walk_at "xs"
        refine ⟨by show 2 ≤ sizeLine; decide, fun p2 n2 => ?_⟩
        exact q _ _ _ (e2.new n2) (.nt vd') (by rw [hgt2, hh]) ⟨p2, _, rfl, L2.upd_same, _, _, rfl, ⟨rfl, hkl⟩, _, _, rfl, hd'.same (same_new n2), rfl⟩
      | @bin k d e hk vd ve =>
        obtain ⟨a, xs, rfl, ha, _, _, rfl, ⟨rfl, hkl⟩, v1, _, rfl, hd1, v2, _, rfl, hd2, rfl⟩ := hd
        rw [hgt3] at hn q
        rcases hk with rfl | rfl
        · have hkk : ("or" : Str).length ≤ 100 := by decide
          refine x_tupI (SqT.of ha) (atI_nat (j := 0) rfl) ?_
          walk_at "xs"
          refine x_eqsF (by decide +kernel) ?_
          walk_at "xs"
          refine x_tupI (SqT.of ha) (atI_nat (j := 0) rfl) ?_
          walk_at "xs"
          refine x_eqsT rfl ?_
          walk_at "xs"
          refine x_eqi (fun _ => ?_) (fun _ => ?_)
          · walk_at "xs"
            refine x_tupI (SqT.of ha) (atI_nat (j := 0) rfl) ?_
            walk_at "xs"
            refine x_eqsT rfl ?_
            walk_at "xs"
            refine x_tupI (SqT.of ha) (atI_nat (j := 1) rfl) ?_
            walk_at "xs"
            refine x_tupI (SqT.of ha) (atI_nat (j := 2) rfl) ?_
            walk_at "xs"
            refine ⟨by show 3 ≤ sizeLine; decide, fun p2 n2 => ?_⟩
            have s2 := same_new (o := .tup [.str "or", v1, v2]) n2
            exact q _ _ _ (e1.new n2) (.bin (.inr rfl) vd ve) (by rw [hgt3]) ⟨p2, _, rfl, L2.upd_same, _, _, rfl, ⟨rfl, hkk⟩, _, _, rfl, hd1.same s2, _, _, rfl, hd2.same s2, rfl⟩
          walk_at "xs"
          refine x_eqi (fun _ => ?_) (fun _ => ?_)
          · walk_at "xs"
            refine x_tupI (SqT.of ha) (atI_nat (j := 0) rfl) ?_
            walk_at "xs"
            refine x_tupI (SqT.of ha) (atI_nat (j := 2) rfl) ?_
            walk_at "xs"
            refine x_tupI (SqT.of ha) (atI_nat (j := 1) rfl) ?_
            walk_at "xs"
            refine ⟨by show 3 ≤ sizeLine; decide, fun p2 n2 => ?_⟩
            have s2 := same_new (o := .tup [.str "and", v2, v1]) n2
            exact q _ _ _ (e1.new n2) (.bin (.inl rfl) ve vd) (by rw [hgt3]; omega) ⟨p2, _, rfl, L2.upd_same, _, _, rfl, ⟨rfl, hkl⟩, _, _, rfl, hd2.same s2, _, _, rfl, hd1.same s2, rfl⟩
          walk_at "xs"
          refine x_eqi (fun _ => ?_) (fun _ => ?_)
          · walk_at "xs"
            refine x_tupI (SqT.of ha) (atI_nat (j := 0) rfl) ?_
            walk_at "xs"
            refine x_tupI (SqT.of ha) (atI_nat (j := 1) rfl) ?_
            walk_at "xs"
            refine i_twi e1.st hd1 vd (by omega) fun v' d' H2 e2 vd' hh hd' => ?_
            have ha := e2.keep _ _ (fun z => by
              obtain ⟨ns, x1, x2, x3, x4, x5, h1, _⟩ := e1.st
              rw [z, h1] at ha
              cases ha) ha
            have hd2 := hd2.ext e1.st e2
            have e2 := e1.trans e2
            walk_at "xs"
            refine x_tupI (SqT.of ha) (atI_nat (j := 2) rfl) ?_
            walk_at "xs"
            refine ⟨by show 3 ≤ sizeLine; decide, fun p2 n2 => ?_⟩
            have s2 := same_new (o := .tup [.str "and", v', v2]) n2
            exact q _ _ _ (e2.new n2) (.bin (.inl rfl) vd' ve) (by rw [hgt3]; omega) ⟨p2, _, rfl, L2.upd_same, _, _, rfl, ⟨rfl, hkl⟩, _, _, rfl, hd'.same s2, _, _, rfl, hd2.same s2, rfl⟩
          · walk_at "xs"
            refine x_tupI (SqT.of ha) (atI_nat (j := 0) rfl) ?_
            walk_at "xs"
            refine x_tupI (SqT.of ha) (atI_nat (j := 1) rfl) ?_
            walk_at "xs"
            refine x_tupI (SqT.of ha) (atI_nat (j := 2) rfl) ?_
            walk_at "xs"
            refine i_twi e1.st hd2 ve (by omega) fun v' d' H2 e2 vd' hh hd' => ?_
            have hd1 := hd1.ext e1.st e2
            have e2 := e1.trans e2
            walk_at "xs"
            refine ⟨by show 3 ≤ sizeLine; decide, fun p2 n2 => ?_⟩
            have s2 := same_new (o := .tup [.str "and", v1, v']) n2
            exact q _ _ _ (e2.new n2) (.bin (.inl rfl) vd vd') (by rw [hgt3]; omega) ⟨p2, _, rfl, L2.upd_same, _, _, rfl, ⟨rfl, hkl⟩, _, _, rfl, hd1.same s2, _, _, rfl, hd'.same s2, rfl⟩
        · have hkk : ("and" : Str).length ≤ 100 := by decide
          refine x_tupI (SqT.of ha) (atI_nat (j := 0) rfl) ?_
          walk_at "xs"
          refine x_eqsF (by decide +kernel) ?_
          walk_at "xs"
          refine x_tupI (SqT.of ha) (atI_nat (j := 0) rfl) ?_
          walk_at "xs"
          refine x_eqsF (by decide +kernel) ?_
          walk_at "xs"
          refine x_tupI (SqT.of ha) (atI_nat (j := 0) rfl) ?_
          walk_at "xs"
          refine x_eqsT rfl ?_
          walk_at "xs"
          refine x_eqi (fun _ => ?_) (fun _ => ?_)
          · walk_at "xs"
            refine x_tupI (SqT.of ha) (atI_nat (j := 0) rfl) ?_
            walk_at "xs"
            refine x_eqsF (by decide +kernel) ?_
            walk_at "xs"
            refine x_tupI (SqT.of ha) (atI_nat (j := 1) rfl) ?_
            walk_at "xs"
            refine x_tupI (SqT.of ha) (atI_nat (j := 2) rfl) ?_
            walk_at "xs"
            refine ⟨by show 3 ≤ sizeLine; decide, fun p2 n2 => ?_⟩
            have s2 := same_new (o := .tup [.str "and", v1, v2]) n2
            exact q _ _ _ (e1.new n2) (.bin (.inl rfl) vd ve) (by rw [hgt3]) ⟨p2, _, rfl, L2.upd_same, _, _, rfl, ⟨rfl, hkk⟩, _, _, rfl, hd1.same s2, _, _, rfl, hd2.same s2, rfl⟩
          walk_at "xs"
          refine x_eqi (fun _ => ?_) (fun _ => ?_)
          · walk_at "xs"
            refine x_tupI (SqT.of ha) (atI_nat (j := 0) rfl) ?_
            walk_at "xs"
            refine x_tupI (SqT.of ha) (atI_nat (j := 2) rfl) ?_
            walk_at "xs"
            refine x_tupI (SqT.of ha) (atI_nat (j := 1) rfl) ?_
            walk_at "xs"
            refine ⟨by show 3 ≤ sizeLine; decide, fun p2 n2 => ?_⟩
            have s2 := same_new (o := .tup [.str "or", v2, v1]) n2
            exact q _ _ _ (e1.new n2) (.bin (.inr rfl) ve vd) (by rw [hgt3]; omega) ⟨p2, _, rfl, L2.upd_same, _, _, rfl, ⟨rfl, hkl⟩, _, _, rfl, hd2.same s2, _, _, rfl, hd1.same s2, rfl⟩
          walk_at "xs"
          refine x_eqi (fun _ => ?_) (fun _ => ?_)
          · walk_at "xs"
            refine x_tupI (SqT.of ha) (atI_nat (j := 0) rfl) ?_
            walk_at "xs"
            refine x_tupI (SqT.of ha) (atI_nat (j := 1) rfl) ?_
            walk_at "xs"
            refine i_twi e1.st hd1 vd (by omega) fun v' d' H2 e2 vd' hh hd' => ?_
            have ha := e2.keep _ _ (fun z => by
              obtain ⟨ns, x1, x2, x3, x4, x5, h1, _⟩ := e1.st
              rw [z, h1] at ha
              cases ha) ha
            have hd2 := hd2.ext e1.st e2
            have e2 := e1.trans e2
            walk_at "xs"
            refine x_tupI (SqT.of ha) (atI_nat (j := 2) rfl) ?_
            walk_at "xs"
            refine ⟨by show 3 ≤ sizeLine; decide, fun p2 n2 => ?_⟩
            have s2 := same_new (o := .tup [.str "or", v', v2]) n2
            exact q _ _ _ (e2.new n2) (.bin (.inr rfl) vd' ve) (by rw [hgt3]; omega) ⟨p2, _, rfl, L2.upd_same, _, _, rfl, ⟨rfl, hkl⟩, _, _, rfl, hd'.same s2, _, _, rfl, hd2.same s2, rfl⟩
          · walk_at "xs"
            refine x_tupI (SqT.of ha) (atI_nat (j := 0) rfl) ?_
            walk_at "xs"
            refine x_tupI (SqT.of ha) (atI_nat (j := 1) rfl) ?_
            walk_at "xs"
            refine x_tupI (SqT.of ha) (atI_nat (j := 2) rfl) ?_
            walk_at "xs"
            refine i_twi e1.st hd2 ve (by omega) fun v' d' H2 e2 vd' hh hd' => ?_
            have hd1 := hd1.ext e1.st e2
            have e2 := e1.trans e2
            walk_at "xs"
            refine ⟨by show 3 ≤ sizeLine; decide, fun p2 n2 => ?_⟩
            have s2 := same_new (o := .tup [.str "or", v1, v']) n2
            exact q _ _ _ (e2.new n2) (.bin (.inr rfl) vd vd') (by rw [hgt3]; omega) ⟨p2, _, rfl, L2.upd_same, _, _, rfl, ⟨rfl, hkl⟩, _, _, rfl, hd1.same s2, _, _, rfl, hd'.same s2, rfl⟩
end
end K76

set_option Elab.async false
set_option linter.all false
set_option maxRecDepth 100000
/-! data that is written out -/
namespace K76
open PySem PySem.Spec PyProof.Rows L2 SX
/-- it lies so for everything that stood before -/
def AtY (H H' : Hp) (d : PyData) (v : V) : Prop := ∀ y o, H y = some o → At y H' d v
def AtYs (H H' : Hp) (ds : List PyData) (vs : List V) : Prop := ∀ y o, H y = some o → AtAll y H' ds vs
def tDat (x : Addr) (d : PyData) : TE := fun _ H Q => (∃ o, H x = some o) ∧ ∀ v H', Same H H' → AtY H H' d v → Q v H'
def tDats (x : Addr) (ds : List PyData) : TA := fun _ H Q => (∃ o, H x = some o) ∧ ∀ vs H', Same H H' → AtYs H H' ds vs → Q vs H'
section
variable {X : Cx} {x : Addr}
theorem pe_imp {e : Expr} {t t' : TE} (h : PE X e t) (i : ∀ σ H Q, t' σ H Q → t σ H Q) : PE X e t' := ⟨fun pins s σ H Q I q => h.run pins s σ H Q I (i _ _ _ q)⟩
theorem pa_imp {es : List Expr} {t t' : TA} (h : PA X es t) (i : ∀ σ H Q, t' σ H Q → t σ H Q) : PA X es t' := ⟨fun pos pins s σ H Q I q => h.run pos pins s σ H Q I (i _ _ _ q)⟩
theorem dat_non {j pos} : PE X (.Constant .none j pos) (tDat x .none) := pe_imp pe_non fun _ H Q h => h.2 _ H (Same.refl H) fun _ _ _ => rfl
theorem dat_bl {b j pos} : PE X (.Constant (.bool b) j pos) (tDat x (.bool b)) := pe_imp pe_bl fun _ H Q h => h.2 _ H (Same.refl H) fun _ _ _ => rfl
theorem dat_int {i j pos} : PE X (.Constant (.int i) j pos) (tDat x (.int i)) := pe_imp pe_int fun _ H Q h => h.2 _ H (Same.refl H) fun _ _ _ => rfl
theorem dat_str {z : Str} {j pos} (hz : z.length ≤ 100 := by decide +kernel) : PE X (.Constant (.str z) j pos) (tDat x (.str z)) := pe_imp pe_str fun _ H Q h => h.2 _ H (Same.refl H) fun _ _ _ => ⟨rfl, hz⟩
theorem dat_neg {i : Int} {j pos pos'} : PE X (.UnaryOp .USub (.Constant (.int i) j pos) pos') (tDat x (.int (-i))) := pe_imp (pe_un un_neg pe_int) fun _ H Q h => ⟨i, rfl, h.2 _ H (Same.refl H) fun _ _ _ => rfl⟩
theorem dat_pow {i k : Int} {j pos j' pos' pos2} (c : CPow i k) : PE X (.BinOp (.Constant (.int i) j pos) .Pow (.Constant (.int k) j' pos') pos2) (tDat x (.int (i ^ k.toNat))) := pe_imp (pe_op op_pow pe_int pe_int) fun _ H Q h => ⟨i, k, rfl, rfl, c, h.2 _ H (Same.refl H) fun _ _ _ => rfl⟩
theorem dats_nil : PA X [] (tDats x []) := pa_imp pa_nil fun _ H Q h => h.2 _ H (Same.refl H) fun _ _ _ => rfl
theorem dats_cons {e : Expr} {es : List Expr} {d : PyData} {ds : List PyData} (h : PE X e (tDat x d)) (r : PA X es (tDats x ds)) (hs : starEach (e :: es) X.env = (false, eval e X.env) :: starEach es X.env := by rfl) : PA X (e :: es) (tDats x (d :: ds)) :=
  pa_imp (pa_cons h r hs) fun σ H Q h => ⟨h.1, fun v H1 s1 a1 => ⟨by obtain ⟨o, e⟩ := h.1; exact ⟨o, s1 _ _ e⟩, fun vs H2 s2 a2 => h.2 _ H2 (s1.trans s2) fun y o hy => ⟨v, vs, rfl, (a1 y o hy).same s2, a2 y o (s1 _ _ hy)⟩⟩⟩
theorem dat_tup {es : List Expr} {ds : List PyData} {x1 pos} (h : PA X es (tDats x ds)) (hl : ds.length ≤ 100 := by decide) : PE X (.Tuple es x1 pos) (tDat x (.tuple ds)) :=
  pe_imp (pe_tup h) fun σ H Q h => ⟨h.1, fun vs H1 s1 a1 => ⟨by obtain ⟨o, e⟩ := h.1; rw [(a1 x o e).length]; exact sz (by omega), fun p np => h.2 _ _ (s1.trans (same_new np)) fun y o hy => ⟨p, vs, rfl, L2.upd_same, (a1 y o hy).same (same_new np)⟩⟩⟩
theorem dat_lst {es : List Expr} {ds : List PyData} {pos} (h : PA X es (tDats x ds)) (hl : ds.length ≤ 100 := by decide) : PE X (.List es pos) (tDat x (.list ds)) :=
  pe_imp (pe_lst h) fun σ H Q h => ⟨h.1, fun vs H1 s1 a1 => ⟨by obtain ⟨o, e⟩ := h.1; rw [(a1 x o e).length]; exact sz (by omega), fun p np => h.2 _ _ (s1.trans (same_new np)) fun y o hy => ⟨p, vs, rfl, (fun z => by
    rw [z, s1 _ _ hy] at np
    cases np), L2.upd_same, (a1 y o hy).same (same_new np)⟩⟩⟩
theorem dat_dict0 {pos} : PE X (.Dict [] [] pos) (tDat x (.dict [])) := pe_imp pe_dnewK fun σ H Q h p np => h.2 _ _ (same_new np) fun y o hy => ⟨p, [], rfl, L2.upd_same⟩
theorem dat_dict1 {z : Str} {i : Int} {j pos j' pos' pos2} : PE X (.Dict [some (.Constant (.str z) j pos)] [.Constant (.int i) j' pos'] pos2) (tDat x (.dict [(.str z, .int i)])) :=
  pe_imp (pe_disp (pps_cons pe_str pe_int pps_nil) rfl rfl (fun z => by cases z) (by show 1 ≤ 15; omega)) fun σ H Q h p np =>
    ⟨L2.upd_same, [(.inr z, .int i)], rfl, by show 1 ≤ 15; omega, h.2 _ _ (fun b o e => by
      rw [L2.upd_ne (ne_of_none e np), L2.upd_ne (ne_of_none e np)]
      exact e) fun y o hy => ⟨p, _, rfl, L2.upd_same⟩⟩
end
mutual
theorem At.ext2 {S : Sto} {y : Addr} {H H' : Hp} (k : ∀ b o, b ≠ S.a → H b = some o → H' b = some o) (hx : ∃ vs, H S.a = some (.lst vs)) : ∀ {d : PyData} {v : V}, At S.a H d v → At y H d v → At y H' d v
  | .none, _, _, h => h
  | .bool _, _, _, h => h
  | .int _, _, _, h => h
  | .str _, _, _, h => h
  | .tuple ds, v, h0, h => by
    obtain ⟨a0, xs0, e0, ha0, hs0⟩ := h0
    obtain ⟨a, xs, e, ha, hs⟩ := h
    rw [e0] at e
    cases e
    rw [ha0] at ha
    cases ha
    obtain ⟨vs, hx'⟩ := id hx
    exact ⟨a0, xs0, e0, k _ _ (ne_of ha0 hx' (fun z => by cases z)) ha0, AtAll.ext2 k hx hs0 hs⟩
  | .list ds, v, h0, h => by
    obtain ⟨a0, xs0, e0, n0, ha0, hs0⟩ := h0
    obtain ⟨a, xs, e, n, ha, hs⟩ := h
    rw [e0] at e
    cases e
    rw [ha0] at ha
    cases ha
    exact ⟨a0, xs0, e0, n, k _ _ n0 ha0, AtAll.ext2 k hx hs0 hs⟩
  | .dict _, v, h0, h => by
    obtain ⟨a, kvs, e, ha⟩ := h
    obtain ⟨vs, hx'⟩ := id hx
    exact ⟨a, kvs, e, k a _ (ne_of ha hx' (fun z => by cases z)) ha⟩
theorem AtAll.ext2 {S : Sto} {y : Addr} {H H' : Hp} (k : ∀ b o, b ≠ S.a → H b = some o → H' b = some o) (hx : ∃ vs, H S.a = some (.lst vs)) : ∀ {ds : List PyData} {vs : List V}, AtAll S.a H ds vs → AtAll y H ds vs → AtAll y H' ds vs
  | [], _, _, h => h
  | d :: ds, vs, h0, h => by
    obtain ⟨v0, r0, e0, p0, q0⟩ := h0
    obtain ⟨v, r, e, p, q⟩ := h
    rw [e0] at e
    cases e
    exact ⟨v0, r0, e0, At.ext2 k hx p0 p, AtAll.ext2 k hx q0 q⟩
end
theorem StoreAt.lst {S : Sto} {H : Hp} (h : StoreAt H S) : ∃ vs, H S.a = some (.lst vs) := by
  obtain ⟨ns, x1, x2, x3, x4, x5, h1, _⟩ := h
  exact ⟨_, h1⟩
theorem AtY.ext {S : Sto} {H0 H H' : Hp} {d : PyData} {v : V} {o : HO} (h : AtY H0 H d v) (h0 : H0 S.a = some o) (hs : StoreAt H S) (e : Ext S H H') : AtY H0 H' d v := fun y o' hy => At.ext2 e.keep hs.lst (h S.a o h0) (h y o' hy)
theorem AtYs.ext {S : Sto} {H0 H H' : Hp} {ds : List PyData} {vs : List V} {o : HO} (h : AtYs H0 H ds vs) (h0 : H0 S.a = some o) (hs : StoreAt H S) (e : Ext S H H') : AtYs H0 H' ds vs := fun y o' hy => AtAll.ext2 e.keep hs.lst (h S.a o h0) (h y o' hy)
theorem AtY.same {H0 H H' : Hp} {d : PyData} {v : V} (h : AtY H0 H d v) (s : Same H H') : AtY H0 H' d v := fun y o hy => (h y o hy).same s
theorem AtYs.same {H0 H H' : Hp} {ds : List PyData} {vs : List V} (h : AtYs H0 H ds vs) (s : Same H H') : AtYs H0 H' ds vs := fun y o hy => (h y o hy).same s
/-- .. for more, if more stood before -/
theorem AtY.of {H0 H1 H : Hp} {d : PyData} {v : V} (h : AtY H1 H d v) (k : ∀ y o, H0 y = some o → ∃ o', H1 y = some o') : AtY H0 H d v := fun y o hy => by
  obtain ⟨o', h'⟩ := k y o hy
  exact h y o' h'
theorem Ext.stay {S : Sto} {H H' : Hp} (e : Ext S H H') : ∀ y o, H y = some o → ∃ o', H' y = some o' := fun y o hy => by
  by_cases z : y = S.a
  · obtain ⟨vs, h⟩ := e.st.lst
    exact ⟨_, by rw [z]; exact h⟩
  · exact ⟨o, e.keep y o z hy⟩

mutual
theorem At.any {x x' : Addr} {H : Hp} : ∀ {d : PyData} {v : V}, noL d = true → At x H d v → At x' H d v
  | .none, _, _, h => h
  | .bool _, _, _, h => h
  | .int _, _, _, h => h
  | .str _, _, _, h => h
  | .tuple ds, v, n, h => by
    obtain ⟨a, xs, e, ha, hs⟩ := h
    exact ⟨a, xs, e, ha, AtAll.any (ds := ds) n hs⟩
  | .list _, _, n, _ => by cases n
  | .dict _, _, n, _ => by cases n
theorem AtAll.any {x x' : Addr} {H : Hp} : ∀ {ds : List PyData} {vs : List V}, noLs ds = true → AtAll x H ds vs → AtAll x' H ds vs
  | [], _, _, h => h
  | d :: ds, vs, n, h => by
    obtain ⟨v, r, e, h1, h2⟩ := h
    obtain ⟨n1, n2⟩ := Bool.and_eq_true_iff.mp (show (noL d && noLs ds) = true from n)
    exact ⟨v, r, e, At.any n1 h1, AtAll.any n2 h2⟩
end
theorem noLs_mem : ∀ {ds : List PyData} {d : PyData}, noLs ds = true → d ∈ ds → noL d = true
  | e :: ds, d, h, m => by
    obtain ⟨h1, h2⟩ := Bool.and_eq_true_iff.mp (show (noL e && noLs ds) = true from h)
    rcases List.mem_cons.mp m with m | m
    · rw [m]; exact h1
    · exact noLs_mem h2 m
theorem AtY.lst {y0 : Addr} {o0 : HO} {H H1 : Hp} {ds : List PyData} {v : V} (h : AtY H H1 (.list ds) v) (h0 : H y0 = some o0) : ∃ p vs, v = .ref p ∧ p ≠ y0 ∧ H1 p = some (.lst vs) ∧ AtYs H H1 ds vs := by
  obtain ⟨p, vs, rfl, n, g, _⟩ := h y0 o0 h0
  refine ⟨p, vs, rfl, n, g, fun y o hy => ?_⟩
  obtain ⟨p', vs', e, _, g', a⟩ := h y o hy
  cases e
  rw [g] at g'
  cases g'
  exact a
theorem AtYs.get {y0 : Addr} {o0 : HO} {H H1 : Hp} {ds : List PyData} {vs : List V} {i : Nat} {d : PyData} (h : AtYs H H1 ds vs) (h0 : H y0 = some o0) (hi : ds[i]? = some d) : ∃ v, vs[i]? = some v ∧ AtY H H1 d v := by
  obtain ⟨v, hv, _⟩ := (h y0 o0 h0).get hi
  refine ⟨v, hv, fun y o hy => ?_⟩
  obtain ⟨v', hv', a⟩ := (h y o hy).get hi
  rw [hv] at hv'
  cases hv'
  exact a
theorem AtYs.of {H0 H1 H : Hp} {ds : List PyData} {vs : List V} (h : AtYs H1 H ds vs) (k : ∀ y o, H0 y = some o → ∃ o', H1 y = some o') : AtYs H0 H ds vs := fun y o hy => by
  obtain ⟨o', h'⟩ := k y o hy
  exact h y o' h'
theorem AtYs.append {H0 H : Hp} {ds es : List PyData} {vs us : List V} (h : AtYs H0 H ds vs) (h' : AtYs H0 H es us) : AtYs H0 H (ds ++ es) (vs ++ us) := fun y o hy => AtAll.append (h y o hy) (h' y o hy)
end K76

set_option Elab.async false
set_option linter.all false
set_option maxRecDepth 100000
/-! wrong parts, wrong trees -/
namespace K76
open PySem PySem.Spec PyProof.Rows L2 SX
local macro_rules | `(tactic| walk_at "x") => `(tactic| with_reducible first
  | refine x_seq ?_ | refine x_asg ?_ | refine x_op ?_ | refine x_cons ?_ | refine x_nil ?_ | refine x_c ?_ | refine x_name ?_ | refine x_cb ?_ | refine x_call ?_ | refine x_ret ?_ | refine x_ifS ?_
  | refine x_test ?_ | refine x_bl ?_ | refine x_I0 ?_ | refine x_sub ?_ | refine x_tup ?_ | refine x_lst ?_ | refine x_and ?_ | refine x_or ?_ | refine x_not ?_ | refine x_if ?_ | refine x_andV ?_ | refine x_orV ?_ | refine x_notV ?_
  | refine x_retN ?_ | refine x_drop ?_ | refine x_next ?_ | refine x_un ?_ | refine x_B ?_ | refine x_sl ?_ | refine x_noPart ?_ | refine x_part ?_ | refine x_chain ?_ | refine x_int ?_
  | refine x_eqI ?_ | refine x_eqS ?_ | refine x_neI ?_ | refine x_neS ?_ | refine x_eqB ?_ | refine x_neB ?_ | refine x_toI ?_ | refine x_absI ?_ | refine x_mx2 ?_ | refine x_M1 ?_ | refine x_isS ?_ | refine iteT ?_ | refine iteF ?_ | refine x_lc ?_ | refine x_for ?_ | refine x_rng1 ?_ | refine x_iList ?_ | refine x_iTup ?_ | refine x_yes ?_ | refine x_iStr ?_ | refine x_gcons ?_ | refine x_gnil ?_ | refine x_neg ?_ | refine x_sfld ?_ | refine x_tfld ?_ | refine x_make ?_ | refine x_bm ?_)
local macro_rules | `(tactic| walk_at "xs") => `(tactic| repeat (first | walk_at "x" | ((with_reducible show tVar _ _ _ _); refine x_var rfl ?_)))
def odds : List PyData := [.none, .bool true, .bool false, .int (-2), .int 100, .int (10 ^ (9 : Int).toNat), .str "A", .str "1a", .str "a b", .str "abcdefghi", .str ".a", .str "-", .str "", .list [], .dict [(.str "a", .int 1)]]
/-- a part is wrong -/
inductive WP : PyData → PyData → Prop
  | leaf {d w : PyData} (h : w ∈ odds) (n : isTup d = false) : WP d w
  | ins {ds : List PyData} {w : PyData} {i : Nat} (hi : i ≤ ds.length) (h : w ∈ odds) : WP (.tuple ds) (.tuple (ds.take i ++ [w] ++ ds.drop i))
  | rep {ds : List PyData} {d d' : PyData} {i : Nat} (hi : ds[i]? = some d) (h : WP d d') : WP (.tuple ds) (.tuple (ds.take i ++ [d'] ++ ds.drop (i + 1)))
theorem odds_hgt : ∀ w ∈ odds, hgt w = 0 := by
  intro w h
  have : isTup w = false := by
    have z : ∀ w ∈ odds, isTup w = false := by simp [odds, isTup]
    exact z w h
  exact isTup_false this
theorem hgts_app : ∀ (ds es : List PyData), hgt.hgts (ds ++ es) = max (hgt.hgts ds) (hgt.hgts es)
  | [], es => by rw [hgts_nil]; simp
  | d :: ds, es => by
    rw [List.cons_append, hgts_eq, hgts_eq, hgts_app ds es]
    omega
theorem hgts_take {ds : List PyData} {n : Nat} : hgt.hgts (ds.take n) ≤ hgt.hgts ds := by
  have := hgts_app (ds.take n) (ds.drop n)
  rw [List.take_append_drop] at this
  omega
theorem hgts_drop {ds : List PyData} {n : Nat} : hgt.hgts (ds.drop n) ≤ hgt.hgts ds := by
  have := hgts_app (ds.take n) (ds.drop n)
  rw [List.take_append_drop] at this
  omega
theorem WP.hgt : ∀ {d d' : PyData}, WP d d' → hgt d' ≤ K76.hgt d
  | _, _, .leaf (w := w) h n => by
    rw [odds_hgt w h]
    exact Nat.zero_le _
  | _, _, .ins (ds := ds) (w := w) (i := i) hi h => by
    have h1 := hgts_take (ds := ds) (n := i)
    have h2 := hgts_drop (ds := ds) (n := i)
    rw [hgt_tuple, hgt_tuple, hgts_app, hgts_app, hgts_eq, hgts_nil, odds_hgt w h]
    omega
  | _, _, .rep (ds := ds) (d := d) (d' := d') (i := i) hi h => by
    have h0 := h.hgt
    have hm := hgts_mem (List.mem_of_getElem? hi)
    have h1 := hgts_take (ds := ds) (n := i)
    have h2 := hgts_drop (ds := ds) (n := i + 1)
    rw [hgt_tuple, hgt_tuple, hgts_app, hgts_app, hgts_eq, hgts_nil]
    omega
theorem x_dat {x : Addr} {d : PyData} {σ : L2.St} {H : Hp} {Q : VK} (h : ∃ o, H x = some o) (q : ∀ v H', Same H H' → AtY H H' d v → Q v H') : tDat x d σ H Q := ⟨h, q⟩
theorem StoreAt.some {S : Sto} {H : Hp} (h : StoreAt H S) : ∃ o, H S.a = some o := by
  obtain ⟨ns, x1, x2, x3, x4, x5, h1, _⟩ := h
  exact ⟨_, h1⟩
def spWP (n : Nat) : Sp := fun vs H Q _ => ∃ (S : Sto) (d : PyData) (v : V), vs = [.ref S.a, v] ∧ At S.a H d v ∧ noL d = true ∧ wid d = true ∧ hgt d < n ∧ StoreAt H S ∧ ∀ v' d' H', Ext S H H' → WP d d' → AtY H H' d' v' → Q v' H'
theorem i_WP {n : Nat} {S : Sto} {d : PyData} {v : V} {H : Hp} {Q : VK} {E : XK} (h : StoreAt H S) (hd : At S.a H d v) (hl : noL d = true) (hw : wid d = true) (hn : hgt d < n) (q : ∀ v' d' H', Ext S H H' → WP d d' → AtY H H' d' v' → Q v' H') : spWP n [.ref S.a, v] H Q E := ⟨S, d, v, rfl, hd, hl, hw, hn, h, q⟩
section
variable {P : Program} {w : World} {K : PySem.W.Frag} {mg : Str → Option Value} {base : Heap}
theorem k_WP (T : Nm K mg) (F : FnX K mg "_law_wrong_part" s_law_wrong_part ["store", "thing"]) (c_law_take : CalK P w K mg base 2 "_law_take" spTake) (c_law_pick : CalK P w K mg base 3 "_law_pick" (spPick K)) : ∀ n, CalK P w K mg base (3 + n) "_law_wrong_part" (spWP n)
  | 0 => cal_false F fun vs H Q E h => by
    obtain ⟨_, d, _, _, _, _, _, h, _⟩ := h
    omega
  | n + 1 => by
    have c_law_wrong_part := k_WP T F c_law_take c_law_pick n
    show CalK P w K mg base ((3 + n) + 1) "_law_wrong_part" (spWP (n + 1))
    refine cal_of F sc_law_wrong_part (fun vs H Q E h => ?_) (fun f cdv A outer s H vs Q E hr h => ?_)
    · obtain ⟨S, d, v, rfl, _⟩ := h
      rfl
    · obtain ⟨S, d, v, rfl, hd, hl, hw, hn, hs, q⟩ := h
      refine ⟨_, (pss_cons (ps_set (i := 2) sc_law_wrong_part.nd rfl (Or.inl rfl) (dat_lst (x := S.a) (dats_cons dat_non (dats_cons dat_bl (dats_cons dat_bl (dats_cons dat_neg (dats_cons dat_int (dats_cons (dat_pow ⟨by decide, by decide, by decide⟩) (dats_cons dat_str (dats_cons dat_str (dats_cons dat_str (dats_cons dat_str (dats_cons dat_str (dats_cons dat_str (dats_cons dat_str (dats_cons (dat_lst (x := S.a) dats_nil) (dats_cons dat_dict1 dats_nil)))))))))))))))))
      (pss_cons (ps_set (i := 3) sc_law_wrong_part.nd rfl (Or.inl rfl) (C8.pe_c c_law_pick hr (by omega) (by rfl) (pa_cons (pv 0) (pa_cons (pv 2) pa_nil))))
      (pss_cons (ps_if (pt_not (pt_val (pe_callB (id := "isinstance") (r := rIsi K) call_isi (by rfl) T.n_isinstance (by decide +kernel) (pa_cons (pv 1) (pa_cons (pe_bltn (v := .ty "tuple") (by rfl) T.n_tuple (by decide +kernel) rfl) pa_nil))))) (pss_one (ps_ret (pv 3))) pss_nil)
      (pss_cons (ps_set (i := 4) sc_law_wrong_part.nd rfl (Or.inl rfl) (C8.pe_c c_law_take hr (by omega) (by rfl) (pa_cons (pv 0) (pa_cons (pe_op op_add (pe_callB cx_len (by rfl) T.n_len (by decide +kernel) (pa_cons (pv 1) pa_nil)) pe_int) pa_nil))))
      (pss_cons (ps_if (pt_cut (PW.pt (pw_and (pt_cmpR op_lt (pv 4) (pe_callB cx_len (by rfl) T.n_len (by decide +kernel) (pa_cons (pv 1) pa_nil)) (nomark _)) (pw_and1 (pt_cmpR op_gt (C8.pe_c c_law_take hr (by omega) (by rfl) (pa_cons (pv 0) (pa_cons pe_int pa_nil))) pe_int (nomark _)))))) (pss_one (ps_ret (pe_op op_catA (pe_op op_catA (pe_slice sl_tupA (pv 1) po_none (po_some (pv 4))) (pe_tup (pa_cons (C8.pe_c c_law_wrong_part hr (by omega) (by rfl) (pa_cons (pv 0) (pa_cons (pe_ix (r := rIxT K) ix_tup (pv 1) (pv 4) (fun _ _ => rfl)) pa_nil))) pa_nil))) (pe_slice sl_tupA (pv 1) (po_some (pe_op op_add (pv 4) pe_int)) po_none)))) pss_nil)
      (pss_one (ps_ret (pe_op op_catA (pe_op op_catA (pe_slice sl_tupA (pv 1) po_none (po_some (pv 4))) (pe_tup (pa_cons (pv 3) pa_nil))) (pe_slice sl_tupA (pv 1) (po_some (pv 4)) po_none))))))))), ?_⟩
      walk_at "xs"
      refine x_dat hs.some fun ov H1 s1 ho => ?_
      obtain ⟨so, hso⟩ := hs.some
      obtain ⟨op, ovs, rfl, one, hop, hall⟩ := AtY.lst (ds := odds) ho hso
      have e1 := Ext.same hs s1
      have hd := hd.same s1
      have hol := (hall S.a so hso).length
      walk_at "xs"
      refine i_pick e1.st hop (fun j wv H2 e2 hv => ?_) one (by rw [hol]; decide) (by rw [hol]; decide)
      obtain ⟨wd, hwd⟩ : ∃ wd, odds[j]? = some wd := by
        have := (List.getElem?_eq_some_iff.mp hv).1
        exact ⟨_, List.getElem?_eq_getElem (by omega)⟩
      obtain ⟨wv', hwv, hwa⟩ := hall.get hso hwd
      rw [hv] at hwv
      obtain rfl := Option.some.inj hwv
      have hmem := List.mem_of_getElem? hwd
      have hwa := hwa.ext hso e1.st e2
      have hd := hd.ext e1.st e2
      have e2 := e1.trans e2
      walk_at "xs"
      refine x_isTup hd ?_
      walk_at "xs"
      refine x_ite (fun ht => ?_) (fun ht => ?_)
      · walk_at "xs"
        exact q _ _ _ e2 (.leaf hmem (b_nt ht)) hwa
      obtain ⟨ds, rfl⟩ := isTup_true (b_nf ht)
      obtain ⟨a, xs, rfl, ha, hxs⟩ := hd
      have hlen := hxs.length
      have hne : a ≠ S.a := fun z => by
        obtain ⟨ns, x1, x2, x3, x4, x5, h1, _⟩ := e2.st
        rw [z, h1] at ha
        cases ha
      obtain ⟨w1, w2⟩ := Bool.and_eq_true_iff.mp (show (decide (ds.length ≤ 100) && wids ds) = true from hw)
      have w1 := of_decide_eq_true w1
      walk_at "xs"
      refine x_lenT (SqT.of ha) ?_
      walk_at "xs"
      refine i_take (by omega) e2.st fun at_ H3 e3 z0 z1 => ?_
      have hat : 0 ≤ at_ ∧ at_ < xs.length + 1 := take_ix (by omega) z0 z1
      have ha := e3.keep _ _ hne ha
      have hxs := hxs.ext e2.st e3
      have hwa := hwa.ext hso e2.st e3
      have e3 := e2.trans e3
      walk_at "xs"
      -- the end: a part is put in
      have putin : ∀ H4, Ext S H H4 → H4 a = some (.tup xs) → AtAll S.a H4 ds xs → AtY H H4 wd wv → ∀ p H5, Same H4 H5 → H5 p = some (.tup (xs.take at_.toNat ++ [wv] ++ xs.drop at_.toNat)) → Q (.ref p) H5 := fun H4 e4 h4 hx4 hw4 p H5 s5 g5 =>
        q _ _ _ (e4.trans (Ext.same e4.st s5)) (.ins (i := at_.toNat) (by omega) hmem) fun y o hy => ⟨p, _, rfl, g5, (((hx4.any hl).take _ |>.append (es := [wd]) (us := [wv]) ⟨_, _, rfl, hw4 y o hy, rfl⟩).append ((hx4.any hl).drop _)).same s5⟩
      refine ⟨fun b H' => Ext S H H' ∧ H' a = some (.tup xs) ∧ AtAll S.a H' ds xs ∧ AtY H H' wd wv ∧ (b = true → at_ < xs.length), ?_, ?_⟩
      · walk_at "xs"
        refine x_lenT (SqT.of ha) ?_
        walk_at "xs"
        refine x_dec (fun hlt => ?_) (fun _ => ?_)
        · walk_at "xs"
          refine i_take (by decide) e3.st fun k H4 e4 _ _ => ?_
          walk_at "xs"
          exact ⟨e3.trans e4, e4.keep _ _ hne ha, hxs.ext e3.st e4, hwa.ext hso e3.st e4, fun _ => hlt⟩
        · exact ⟨e3, ha, hxs, hwa, fun z => by cases z⟩
      · rintro b H4 ⟨e4, ha, hxs, hwa, hb⟩
        refine x_ite (fun h => ?_) (fun _ => ?_)
        · have hlt := hb h
          walk_at "xs"
          refine x_slA ha fun p1 H5 s5 g5 => ?_
          rw [cut_to hat.1 (by omega)] at g5
          have ha := s5 _ _ ha
          have hxs := hxs.same s5
          have e5 := e4.trans (Ext.same e4.st s5)
          walk_at "xs"
          obtain ⟨d, hd⟩ : ∃ d, ds[at_.toNat]? = some d := ⟨_, List.getElem?_eq_getElem (by omega)⟩
          obtain ⟨v, hv, had⟩ := hxs.get hd
          have hm := List.mem_of_getElem? hd
          have hgm := hgts_mem hm
          have hht := hgt_tuple ds
          refine x_tupI (SqT.of ha) (atI_int hat.1 hv) ?_
          walk_at "xs"
          refine i_WP e5.st had (noLs_mem hl hm) (wids_mem w2 hm) (by omega) fun v' d' H6 e6 hwp hd' => ?_
          have hd' := hd'.of e5.stay
          have ha := e6.keep _ _ hne ha
          have hxs := hxs.ext e5.st e6
          have n1 : p1 ≠ S.a := fun z => by
            obtain ⟨ns, x1, x2, x3, x4, x5, h1, _⟩ := e5.st
            rw [z, h1] at g5
            cases g5
          have g5 := e6.keep _ _ n1 g5
          have e6 := e5.trans e6
          walk_at "xs"
          refine ⟨by show 1 ≤ sizeLine; decide, fun p2 n2 => ?_⟩
          have s7 := same_new (o := .tup [v']) n2
          have g7 : (L2.upd H6 p2 (.tup [v'])) p2 = _ := L2.upd_same
          have ha := s7 _ _ ha
          have hxs := hxs.same s7
          have hd' := hd'.same s7
          have g5 := s7 _ _ g5
          have e7 := e6.trans (Ext.same e6.st s7)
          generalize L2.upd H6 p2 (.tup [v']) = H7 at s7 g7 ha hxs hd' g5 e7 ⊢
          walk_at "xs"
          refine x_catA g5 g7 (by rw [List.length_take]; refine sz ?_; simp only [List.length_cons, List.length_nil]; omega) fun p3 H8 s8 g8 => ?_
          have ha := s8 _ _ ha
          have hxs := hxs.same s8
          have hd' := hd'.same s8
          have e8 := e7.trans (Ext.same e7.st s8)
          walk_at "xs"
          refine x_slA ha fun p4 H9 s9 g9 => ?_
          rw [cut_from (by omega) (by omega), show (at_ + 1).toNat = at_.toNat + 1 by omega] at g9
          have hxs := hxs.same s9
          have hd' := hd'.same s9
          have g8 := s9 _ _ g8
          have e9 := e8.trans (Ext.same e8.st s9)
          walk_at "xs"
          refine x_catA g8 g9 (by rw [List.length_append, List.length_take, List.length_drop]; refine sz ?_; simp only [List.length_cons, List.length_nil]; omega) fun p5 H10 s10 g10 => ?_
          exact q _ _ _ (e9.trans (Ext.same e9.st s10)) (.rep hd hwp) fun y o hy => ⟨p5, _, rfl, g10, (((hxs.any hl).take _ |>.append (es := [d']) (us := [v']) ⟨_, _, rfl, hd' y o hy, rfl⟩).append ((hxs.any hl).drop _)).same s10⟩
        · walk_at "xs"
          refine x_slA ha fun p1 H5 s5 g5 => ?_
          rw [cut_to hat.1 (by omega)] at g5
          have ha := s5 _ _ ha
          have hxs := hxs.same s5
          have hwa := hwa.same s5
          have e5 := e4.trans (Ext.same e4.st s5)
          walk_at "xs"
          refine ⟨by show 1 ≤ sizeLine; decide, fun p2 n2 => ?_⟩
          have s7 := same_new (o := .tup [wv]) n2
          have g7 : (L2.upd H5 p2 (.tup [wv])) p2 = _ := L2.upd_same
          have ha := s7 _ _ ha
          have hxs := hxs.same s7
          have hwa := hwa.same s7
          have g5 := s7 _ _ g5
          have e7 := e5.trans (Ext.same e5.st s7)
          generalize L2.upd H5 p2 (.tup [wv]) = H7 at s7 g7 ha hxs hwa g5 e7 ⊢
          walk_at "xs"
          refine x_catA g5 g7 (by rw [List.length_take]; refine sz ?_; simp only [List.length_cons, List.length_nil]; omega) fun p3 H8 s8 g8 => ?_
          have ha := s8 _ _ ha
          have hxs := hxs.same s8
          have hwa := hwa.same s8
          have e8 := e7.trans (Ext.same e7.st s8)
          walk_at "xs"
          refine x_slA ha fun p4 H9 s9 g9 => ?_
          rw [cut_from hat.1 (by omega)] at g9
          have ha := s9 _ _ ha
          have hxs := hxs.same s9
          have hwa := hwa.same s9
          have g8 := s9 _ _ g8
          have e9 := e8.trans (Ext.same e8.st s9)
          walk_at "xs"
          refine x_catA g8 g9 (by rw [List.length_append, List.length_take, List.length_drop]; refine sz ?_; simp only [List.length_cons, List.length_nil]; omega) fun p5 H10 s10 g10 => ?_
          exact putin H9 e9 ha hxs hwa p5 H10 s10 g10
end
end K76

set_option Elab.async false
set_option linter.all false
set_option maxRecDepth 100000
/-! wrong trees; equal data -/
namespace K76
open PySem PySem.Spec PyProof.Rows L2 SX
local macro_rules | `(tactic| walk_at "x") => `(tactic| with_reducible first
  | refine x_seq ?_ | refine x_asg ?_ | refine x_op ?_ | refine x_cons ?_ | refine x_nil ?_ | refine x_c ?_ | refine x_name ?_ | refine x_cb ?_ | refine x_call ?_ | refine x_ret ?_ | refine x_ifS ?_
  | refine x_test ?_ | refine x_bl ?_ | refine x_I0 ?_ | refine x_sub ?_ | refine x_tup ?_ | refine x_lst ?_ | refine x_and ?_ | refine x_or ?_ | refine x_not ?_ | refine x_if ?_ | refine x_andV ?_ | refine x_orV ?_ | refine x_notV ?_
  | refine x_retN ?_ | refine x_drop ?_ | refine x_next ?_ | refine x_un ?_ | refine x_B ?_ | refine x_sl ?_ | refine x_noPart ?_ | refine x_part ?_ | refine x_chain ?_ | refine x_int ?_
  | refine x_eqI ?_ | refine x_eqS ?_ | refine x_neI ?_ | refine x_neS ?_ | refine x_eqB ?_ | refine x_neB ?_ | refine x_toI ?_ | refine x_absI ?_ | refine x_mx2 ?_ | refine x_M1 ?_ | refine x_isS ?_ | refine iteT ?_ | refine iteF ?_ | refine x_lc ?_ | refine x_for ?_ | refine x_rng1 ?_ | refine x_iList ?_ | refine x_iTup ?_ | refine x_yes ?_ | refine x_iStr ?_ | refine x_gcons ?_ | refine x_gnil ?_ | refine x_neg ?_ | refine x_sfld ?_ | refine x_tfld ?_ | refine x_make ?_ | refine x_bm ?_)
local macro_rules | `(tactic| walk_at "xs") => `(tactic| repeat (first | walk_at "x" | ((with_reducible show tVar _ _ _ _); refine x_var rfl ?_)))
def tq : PyData := .tuple [.str "quiet"]
def oddA : List PyData := [.none, .int 0, .str "quiet", .tuple [], .tuple [.str "never"], .tuple [.str "both", .tuple [.str "quiet"], .tuple [.str "done"]], .tuple [.str "Quiet"], .tuple [.none], .list [], .dict []]
def oddB : List PyData := [.tuple [.tuple [.str "quiet"]], .bool true, .tuple [.str "at", .str "a", .int 100], .tuple [.str "at", .str "line", .int 1], .tuple [.str "has", .str "a", .str "a"], .tuple [.str "not", .str "quiet"]]
def oddC : List PyData := [.tuple [.str "head", .str "a", .str "b", .str "c.01"], .tuple [.str "and", .tuple [.str "quiet"], .list [.str "stuck"]], .tuple [.list []], .tuple [.str "at", .str "a", .bool true]]
def oddD : List PyData := [.tuple [.str "again", .tuple []], .tuple [.str "never", .tuple [.str "own"]]]
def odds2 : List PyData := oddA ++ oddB ++ oddC ++ oddD
/-- a tree is wrong -/
inductive WT : PyData → PyData → Prop
  | lst {ds : List PyData} : WT (.tuple ds) (.list ds)
  | cut {ds : List PyData} : WT (.tuple ds) (.tuple (ds.take (ds.length - 1)))
  | odd {d w : PyData} (h : w ∈ odds2) : WT d w
  | part {d d' : PyData} (h : WP d d') : WT d d'
def spWT (n : Nat) : Sp := fun vs H Q _ => ∃ (S : Sto) (ds : List PyData) (v : V), vs = [.ref S.a, v] ∧ At S.a H (.tuple ds) v ∧ noLs ds = true ∧ 1 ≤ ds.length ∧ wid (.tuple ds) = true ∧ hgt (.tuple ds) < n ∧ StoreAt H S ∧ ∀ v' d' H', Ext S H H' → WT (.tuple ds) d' → AtY H H' d' v' → Q v' H'
theorem i_WT {n : Nat} {S : Sto} {ds : List PyData} {v : V} {H : Hp} {Q : VK} {E : XK} (h : StoreAt H S) (hd : At S.a H (.tuple ds) v) (hl : noLs ds = true) (h1 : 1 ≤ ds.length) (hw : wid (.tuple ds) = true) (hn : hgt (.tuple ds) < n) (q : ∀ v' d' H', Ext S H H' → WT (.tuple ds) d' → AtY H H' d' v' → Q v' H') : spWT n [.ref S.a, v] H Q E := ⟨S, ds, v, rfl, hd, hl, h1, hw, hn, h, q⟩
section
variable {P : Program} {w : World} {K : PySem.W.Frag} {mg : Str → Option Value} {base : Heap}
theorem k_WT (T : Nm K mg) (F : FnX K mg "_law_wrong_tree" s_law_wrong_tree ["store", "tree"]) (c_law_take : CalK P w K mg base 2 "_law_take" spTake) (c_law_pick : CalK P w K mg base 3 "_law_pick" (spPick K)) (n : Nat) (c_law_wrong_part : CalK P w K mg base (3 + n) "_law_wrong_part" (spWP n)) :
    CalK P w K mg base (3 + n + 1) "_law_wrong_tree" (spWT n) := by
  refine cal_of F sc_law_wrong_tree (fun vs H Q E h => ?_) (fun f cdv A outer s H vs Q E hr h => ?_)
  · obtain ⟨S, ds, v, rfl, _⟩ := h
    rfl
  · obtain ⟨S, ds, v, rfl, hd, hl, hl1, hw, hn, hs, q⟩ := h
    obtain ⟨so, hso⟩ := hs.some
    refine ⟨_, (pss_cons (ps_set (i := 2) sc_law_wrong_tree.nd rfl (Or.inl rfl) (C8.pe_c c_law_take hr (by omega) (by rfl) (pa_cons (pv 0) (pa_cons pe_int pa_nil))))
      (pss_cons (ps_if (pt_cmpR op_eq (pv 2) pe_int (nomark _)) (pss_one (ps_ret (pe_callTy cx_list (by rfl) T.n_list (by decide +kernel) (pa_cons (pv 1) pa_nil)))) pss_nil)
      (pss_cons (ps_if (pt_cmpR op_eq (pv 2) pe_int (nomark _)) (pss_one (ps_ret (pe_slice sl_tupA (pv 1) po_none (po_some (pe_op op_sub (pe_callB cx_len (by rfl) T.n_len (by decide +kernel) (pa_cons (pv 1) pa_nil)) pe_int))))) pss_nil)
      (pss_cons (ps_if (pt_cmpR op_eq (pv 2) pe_int (nomark _)) (pss_cons (ps_set (i := 3) sc_law_wrong_tree.nd rfl (Or.inl rfl) (dat_lst (x := S.a) (dats_cons dat_non (dats_cons dat_int (dats_cons dat_str (dats_cons (dat_tup (x := S.a) dats_nil) (dats_cons (dat_tup (x := S.a) (dats_cons dat_str dats_nil)) (dats_cons (dat_tup (x := S.a) (dats_cons dat_str (dats_cons (dat_tup (x := S.a) (dats_cons dat_str dats_nil)) (dats_cons (dat_tup (x := S.a) (dats_cons dat_str dats_nil)) dats_nil)))) (dats_cons (dat_tup (x := S.a) (dats_cons dat_str dats_nil)) (dats_cons (dat_tup (x := S.a) (dats_cons dat_non dats_nil)) (dats_cons (dat_lst (x := S.a) dats_nil) (dats_cons dat_dict0 dats_nil))))))))))))
      (pss_cons (ps_set (i := 3) sc_law_wrong_tree.nd rfl (Or.inl rfl) (pe_op op_cat (pv 3) (dat_lst (x := S.a) (dats_cons (dat_tup (x := S.a) (dats_cons (dat_tup (x := S.a) (dats_cons dat_str dats_nil)) dats_nil)) (dats_cons dat_bl (dats_cons (dat_tup (x := S.a) (dats_cons dat_str (dats_cons dat_str (dats_cons dat_int dats_nil)))) (dats_cons (dat_tup (x := S.a) (dats_cons dat_str (dats_cons dat_str (dats_cons dat_int dats_nil)))) (dats_cons (dat_tup (x := S.a) (dats_cons dat_str (dats_cons dat_str (dats_cons dat_str dats_nil)))) (dats_cons (dat_tup (x := S.a) (dats_cons dat_str (dats_cons dat_str dats_nil))) dats_nil)))))))))
      (pss_cons (ps_set (i := 3) sc_law_wrong_tree.nd rfl (Or.inl rfl) (pe_op op_cat (pv 3) (dat_lst (x := S.a) (dats_cons (dat_tup (x := S.a) (dats_cons dat_str (dats_cons dat_str (dats_cons dat_str (dats_cons dat_str dats_nil))))) (dats_cons (dat_tup (x := S.a) (dats_cons dat_str (dats_cons (dat_tup (x := S.a) (dats_cons dat_str dats_nil)) (dats_cons (dat_lst (x := S.a) (dats_cons dat_str dats_nil)) dats_nil)))) (dats_cons (dat_tup (x := S.a) (dats_cons (dat_lst (x := S.a) dats_nil) dats_nil)) (dats_cons (dat_tup (x := S.a) (dats_cons dat_str (dats_cons dat_str (dats_cons dat_bl dats_nil)))) dats_nil)))))))
      (pss_cons (ps_set (i := 3) sc_law_wrong_tree.nd rfl (Or.inl rfl) (pe_op op_cat (pv 3) (dat_lst (x := S.a) (dats_cons (dat_tup (x := S.a) (dats_cons dat_str (dats_cons (dat_tup (x := S.a) dats_nil) dats_nil))) (dats_cons (dat_tup (x := S.a) (dats_cons dat_str (dats_cons (dat_tup (x := S.a) (dats_cons dat_str dats_nil)) dats_nil))) dats_nil)))))
      (pss_one (ps_ret (C8.pe_c c_law_pick hr (by omega) (by rfl) (pa_cons (pv 0) (pa_cons (pv 3) pa_nil))))))))) pss_nil)
      (pss_one (ps_ret (C8.pe_c c_law_wrong_part hr (by omega) (by rfl) (pa_cons (pv 0) (pa_cons (pv 1) pa_nil))))))))), ?_⟩
    walk_at "xs"
    refine i_take (by decide) hs fun way H1 e1 _ hway => ?_
    have hd := hd.ext hs e1
    obtain ⟨w1, w2⟩ := Bool.and_eq_true_iff.mp (show (decide (ds.length ≤ 100) && wids ds) = true from hw)
    have w1 := of_decide_eq_true w1
    walk_at "xs"
    refine x_eqi (fun _ => ?_) (fun _ => ?_)
    · walk_at "xs"
      obtain ⟨a, xs, rfl, ha, hxs⟩ := hd
      refine x_toLT (SqT.of ha) fun l nl => ?_
      exact q _ _ _ (e1.new nl) .lst fun y o hy => ⟨l, xs, rfl, (fun z => by
        obtain ⟨o', h'⟩ := e1.stay y o hy
        rw [z, h'] at nl
        cases nl), L2.upd_same, (hxs.any hl).same (same_new nl)⟩
    walk_at "xs"
    refine x_eqi (fun _ => ?_) (fun _ => ?_)
    · walk_at "xs"
      obtain ⟨a, xs, rfl, ha, hxs⟩ := hd
      have hlen := hxs.length
      refine x_lenT (SqT.of ha) ?_
      walk_at "xs"
      refine x_slA ha fun p H2 s2 g2 => ?_
      rw [cut_to (by omega) (by omega), show ((xs.length : Int) - 1).toNat = ds.length - 1 by omega] at g2
      exact q _ _ _ (e1.trans (Ext.same e1.st s2)) .cut fun y o hy => ⟨p, _, rfl, g2, ((hxs.any hl).take _).same s2⟩
    walk_at "xs"
    refine x_eqi (fun _ => ?_) (fun _ => ?_)
    · walk_at "xs"
      obtain ⟨so1, hso1⟩ := e1.st.some
      refine x_dat e1.st.some fun va H2 s2 hA => ?_
      obtain ⟨pa, xa, rfl, na, ga, hA⟩ := AtY.lst (ds := oddA) hA hso1
      have hA := hA.of e1.stay
      have la : xa.length = 10 := (hA S.a so hso).length
      have e2 := e1.trans (Ext.same e1.st s2)
      walk_at "xs"
      obtain ⟨so2, hso2⟩ := e2.st.some
      refine x_dat e2.st.some fun vb H3 s3 hB => ?_
      obtain ⟨pb, xb, rfl, nb, gb, hB⟩ := AtY.lst (ds := oddB) hB hso2
      have hB := hB.of e2.stay
      have lb : xb.length = 6 := (hB S.a so hso).length
      have hA := hA.same s3
      have ga := s3 _ _ ga
      have e3 := e2.trans (Ext.same e2.st s3)
      walk_at "xs"
      refine x_catL ga gb (by rw [la, lb]; decide) fun pc nc => ?_
      have s4 := same_new (o := .lst (xa ++ xb)) nc
      have gc : (L2.upd H3 pc (.lst (xa ++ xb))) pc = _ := L2.upd_same
      have hAB := (hA.append hB).same s4
      have e4 := e3.trans (Ext.same e3.st s4)
      generalize L2.upd H3 pc (.lst (xa ++ xb)) = H4 at s4 gc hAB e4 ⊢
      walk_at "xs"
      obtain ⟨so4, hso4⟩ := e4.st.some
      refine x_dat e4.st.some fun vc H5 s5 hC => ?_
      obtain ⟨pd, xc, rfl, nd, gd, hC⟩ := AtY.lst (ds := oddC) hC hso4
      have hC := hC.of e4.stay
      have lc : xc.length = 4 := (hC S.a so hso).length
      have hAB := hAB.same s5
      have gc := s5 _ _ gc
      have e5 := e4.trans (Ext.same e4.st s5)
      walk_at "xs"
      refine x_catL gc gd (by rw [List.length_append, la, lb, lc]; decide) fun pe ne => ?_
      have s6 := same_new (o := .lst (xa ++ xb ++ xc)) ne
      have ge : (L2.upd H5 pe (.lst (xa ++ xb ++ xc))) pe = _ := L2.upd_same
      have hABC := (hAB.append hC).same s6
      have e6 := e5.trans (Ext.same e5.st s6)
      generalize L2.upd H5 pe (.lst (xa ++ xb ++ xc)) = H6 at s6 ge hABC e6 ⊢
      walk_at "xs"
      obtain ⟨so6, hso6⟩ := e6.st.some
      refine x_dat e6.st.some fun vd H7 s7 hD => ?_
      obtain ⟨pf, xd, rfl, nf, gf, hD⟩ := AtY.lst (ds := oddD) hD hso6
      have hD := hD.of e6.stay
      have ld : xd.length = 2 := (hD S.a so hso).length
      have hABC := hABC.same s7
      have ge := s7 _ _ ge
      have e7 := e6.trans (Ext.same e6.st s7)
      walk_at "xs"
      refine x_catL ge gf (by rw [List.length_append, List.length_append, la, lb, lc, ld]; decide) fun pg ng => ?_
      have s8 := same_new (o := .lst (xa ++ xb ++ xc ++ xd)) ng
      have gg : (L2.upd H7 pg (.lst (xa ++ xb ++ xc ++ xd))) pg = _ := L2.upd_same
      have hall : AtYs H _ odds2 _ := (hABC.append hD).same s8
      have fg := (e7.st.free ng).1
      have e8 := e7.trans (Ext.same e7.st s8)
      generalize L2.upd H7 pg (.lst (xa ++ xb ++ xc ++ xd)) = H8 at s8 gg hall e8 ⊢
      have hol := (hall S.a so hso).length
      have hol2 : odds2.length = 22 := rfl
      walk_at "xs"
      refine i_pick e8.st gg (fun j wv H9 e9 hv => ?_) fg (by omega) (by omega)
      obtain ⟨wd, hwd⟩ : ∃ wd, odds2[j]? = some wd := by
        have := (List.getElem?_eq_some_iff.mp hv).1
        exact ⟨_, List.getElem?_eq_getElem (by omega)⟩
      obtain ⟨wv', hwv, hwa⟩ := hall.get hso hwd
      rw [hv] at hwv
      obtain rfl := Option.some.inj hwv
      exact q _ _ _ (e8.trans e9) (.odd (List.mem_of_getElem? hwd)) (hwa.ext hso e8.st e9)
    walk_at "xs"
    refine i_WP e1.st hd hl hw hn fun v' d' H2 e2 hwp hd' => ?_
    exact q _ _ _ (e1.trans e2) (.part hwp) (hd'.of e1.stay)
/-! ### equal data -/
/-- data that the law's own equality walks through, n levels deep -/
def eqs : Nat → PyData → Bool
  | 0, _ => false
  | n + 1, .tuple ds => decide (ds.length ≤ 1000) && ds.all (eqs n)
  | n + 1, .list ds => decide (ds.length ≤ 1000) && ds.all (eqs n)
  | _ + 1, .dict _ => false
  | _ + 1, _ => true
def spEqual (n : Nat) : Sp := fun vs H Q _ => ∃ x d v u, vs = [v, u] ∧ At x H d v ∧ At x H d u ∧ eqs n d = true ∧ ∀ H', Same H H' → Q (.bl true) H'
theorem i_equal {n : Nat} {x : Addr} {d : PyData} {v u : V} {H : Hp} {Q : VK} {E : XK} (h : At x H d v) (h' : At x H d u) (hn : eqs n d = true) (q : ∀ H', Same H H' → Q (.bl true) H') : spEqual n [v, u] H Q E := ⟨x, d, v, u, rfl, h, h', hn, q⟩
theorem k_equal (T : Nm K mg) (F : FnX K mg "_law_equal" s_law_equal ["due", "seen"]) : ∀ n, CalK P w K mg base (1 + n) "_law_equal" (spEqual n)
  | 0 => cal_false F fun vs H Q E h => by
    obtain ⟨_, d, _, _, _, _, _, h, _⟩ := h
    cases h
  | n + 1 => by
    have c_law_equal := k_equal T F n
    show CalK P w K mg base ((1 + n) + 1) "_law_equal" (spEqual (n + 1))
    refine cal_of F sc_law_equal (fun vs H Q E h => ?_) (fun f cdv A outer s H vs Q E hr h => ?_)
    · obtain ⟨x, d, v, u, rfl, _⟩ := h
      rfl
    · obtain ⟨x, d, v, u, rfl, hd, hu, hn, q⟩ := h
      refine ⟨_, (pss_cons (ps_if (pt_cmpR op_isN (pv 0) pe_non (nomark _)) (pss_one (ps_ret (pe_cmpR op_isN (pv 1) pe_non (nomark _)))) pss_nil)
      (pss_cons (ps_if (pt_val (pe_callB (id := "isinstance") (r := rIsi K) call_isi (by rfl) T.n_isinstance (by decide +kernel) (pa_cons (pv 0) (pa_cons (pe_bltn (v := .ty "bool") (by rfl) T.n_bool (by decide +kernel) rfl) pa_nil)))) (pss_one (ps_ret (pe_and (pe_callB (id := "isinstance") (r := rIsi K) call_isi (by rfl) T.n_isinstance (by decide +kernel) (pa_cons (pv 1) (pa_cons (pe_bltn (v := .ty "bool") (by rfl) T.n_bool (by decide +kernel) rfl) pa_nil))) (pe_one (pe_cmpR op_eq (pv 0) (pv 1) (nomark _)))))) pss_nil)
      (pss_cons (ps_if (pt_val (pe_callB (id := "isinstance") (r := rIsi K) call_isi (by rfl) T.n_isinstance (by decide +kernel) (pa_cons (pv 0) (pa_cons (pe_bltn (v := .ty "int") (by rfl) T.n_int (by decide +kernel) rfl) pa_nil)))) (pss_one (ps_ret (pe_and (pe_callB (id := "isinstance") (r := rIsi K) call_isi (by rfl) T.n_isinstance (by decide +kernel) (pa_cons (pv 1) (pa_cons (pe_bltn (v := .ty "int") (by rfl) T.n_int (by decide +kernel) rfl) pa_nil))) (pe_and (pe_not (pe_callB (id := "isinstance") (r := rIsi K) call_isi (by rfl) T.n_isinstance (by decide +kernel) (pa_cons (pv 1) (pa_cons (pe_bltn (v := .ty "bool") (by rfl) T.n_bool (by decide +kernel) rfl) pa_nil)))) (pe_one (pe_cmpR op_eq (pv 0) (pv 1) (nomark _))))))) pss_nil)
      (pss_cons (ps_if (pt_val (pe_callB (id := "isinstance") (r := rIsi K) call_isi (by rfl) T.n_isinstance (by decide +kernel) (pa_cons (pv 0) (pa_cons (pe_bltn (v := .ty "str") (by rfl) T.n_str (by decide +kernel) rfl) pa_nil)))) (pss_one (ps_ret (pe_and (pe_callB (id := "isinstance") (r := rIsi K) call_isi (by rfl) T.n_isinstance (by decide +kernel) (pa_cons (pv 1) (pa_cons (pe_bltn (v := .ty "str") (by rfl) T.n_str (by decide +kernel) rfl) pa_nil))) (pe_one (pe_cmpR op_eq (pv 0) (pv 1) (nomark _)))))) pss_nil)
      (pss_cons (ps_if (PW.pt (pw_or (pt_cmpR op_ne (pe_callB (id := "isinstance") (r := rIsi K) call_isi (by rfl) T.n_isinstance (by decide +kernel) (pa_cons (pv 0) (pa_cons (pe_bltn (v := .ty "list") (by rfl) T.n_list (by decide +kernel) rfl) pa_nil))) (pe_callB (id := "isinstance") (r := rIsi K) call_isi (by rfl) T.n_isinstance (by decide +kernel) (pa_cons (pv 1) (pa_cons (pe_bltn (v := .ty "list") (by rfl) T.n_list (by decide +kernel) rfl) pa_nil))) (nomark _)) (pw_or1 (pt_cmpR op_ne (pe_callB (id := "isinstance") (r := rIsi K) call_isi (by rfl) T.n_isinstance (by decide +kernel) (pa_cons (pv 0) (pa_cons (pe_bltn (v := .ty "tuple") (by rfl) T.n_tuple (by decide +kernel) rfl) pa_nil))) (pe_callB (id := "isinstance") (r := rIsi K) call_isi (by rfl) T.n_isinstance (by decide +kernel) (pa_cons (pv 1) (pa_cons (pe_bltn (v := .ty "tuple") (by rfl) T.n_tuple (by decide +kernel) rfl) pa_nil))) (nomark _))))) (pss_one (ps_ret pe_bl)) pss_nil)
      (pss_cons (ps_if (pt_cmpR op_ne (pe_callB cx_len (by rfl) T.n_len (by decide +kernel) (pa_cons (pv 0) pa_nil)) (pe_callB cx_len (by rfl) T.n_len (by decide +kernel) (pa_cons (pv 1) pa_nil)) (nomark _)) (pss_one (ps_ret pe_bl)) pss_nil)
      (pss_cons (ps_for PassesOwn.never rfl (pi_range1 (by rfl) T.n_range (pa_cons (pe_callB cx_len (by rfl) T.n_len (by decide +kernel) (pa_cons (pv 0) pa_nil)) pa_nil)) (pg_name (i := 2) sc_law_equal.nd rfl (Or.inl rfl)) (pss_one (ps_if (pt_not (pt_val (C8.pe_c c_law_equal hr (by omega) (by rfl) (pa_cons (pe_ix ix_seq (pv 0) (pv 2) (fun _ _ => rfl)) (pa_cons (pe_ix ix_seq (pv 1) (pv 2) (fun _ _ => rfl)) pa_nil))))) (pss_one (ps_ret pe_bl)) pss_nil)))
      (pss_one (ps_ret pe_bl))))))))), ?_⟩
      walk_at "xs"
      cases d with
      | none =>
        obtain rfl : v = .non := hd
        obtain rfl : u = .non := hu
        refine ⟨rfl, ?_⟩
        walk_at "xs"
        refine x_dec (fun _ => ?_) (fun h => absurd rfl h)
        walk_at "xs"
        exact ⟨rfl, q H (Same.refl H)⟩
      | bool b =>
        have hd0 := hd
        have hu0 := hu
        obtain rfl : v = .bl b := hd
        obtain rfl : u = .bl b := hu
        refine ⟨rfl, ?_⟩
        walk_at "xs"
        refine x_dec (fun h => by cases h) (fun _ => ?_)
        walk_at "xs"
        refine x_isBool hd0 ?_
        walk_at "xs"
        refine iteT ?_
        walk_at "xs"
        refine x_isBool hu0 ?_
        walk_at "xs"
        refine iteT ?_
        walk_at "xs"
        rw [decide_eq_true rfl]
        exact q H (Same.refl H)
      | int b =>
        have hd0 := hd
        have hu0 := hu
        obtain rfl : v = .int b := hd
        obtain rfl : u = .int b := hu
        refine ⟨rfl, ?_⟩
        walk_at "xs"
        refine x_dec (fun h => by cases h) (fun _ => ?_)
        walk_at "xs"
        refine x_isBool hd0 ?_
        walk_at "xs"
        refine iteF ?_
        walk_at "xs"
        refine x_isInt hd0 ?_
        walk_at "xs"
        refine iteT ?_
        walk_at "xs"
        refine x_isInt hu0 ?_
        walk_at "xs"
        refine iteT ?_
        walk_at "xs"
        refine x_isBool hu0 ?_
        walk_at "xs"
        refine iteT ?_
        walk_at "xs"
        rw [decide_eq_true rfl]
        exact q H (Same.refl H)
      | str b =>
        have hd0 := hd
        have hu0 := hu
        obtain ⟨rfl, hb⟩ := hd
        obtain ⟨rfl, _⟩ := hu
        refine ⟨rfl, ?_⟩
        walk_at "xs"
        refine x_dec (fun h => by cases h) (fun _ => ?_)
        walk_at "xs"
        refine x_isBool hd0 ?_
        walk_at "xs"
        refine iteF ?_
        walk_at "xs"
        refine x_isInt hd0 ?_
        walk_at "xs"
        refine iteF ?_
        walk_at "xs"
        refine x_isStr hd0 ?_
        walk_at "xs"
        refine iteT ?_
        walk_at "xs"
        refine x_isStr hu0 ?_
        walk_at "xs"
        refine iteT ?_
        walk_at "xs"
        rw [decide_eq_true rfl]
        exact q H (Same.refl H)
      | tuple ds =>
        obtain ⟨hl, hall⟩ := Bool.and_eq_true_iff.mp (show (decide (ds.length ≤ 1000) && ds.all (eqs n)) = true from hn)
        have hl := of_decide_eq_true hl
        have hd0 := hd
        have hu0 := hu
        obtain ⟨a, xs, rfl, ha, hxs⟩ := hd
        obtain ⟨b, ys, rfl, hb, hys⟩ := hu
        have l1 := hxs.length
        have l2 := hys.length
        refine ⟨rfl, ?_⟩
        walk_at "xs"
        refine x_dec (fun h => by cases h) (fun _ => ?_)
        walk_at "xs"
        refine x_isBool hd0 ?_
        walk_at "xs"
        refine iteF ?_
        walk_at "xs"
        refine x_isInt hd0 ?_
        walk_at "xs"
        refine iteF ?_
        walk_at "xs"
        refine x_isStr hd0 ?_
        walk_at "xs"
        refine iteF ?_
        walk_at "xs"
        refine x_isLst hd0 ?_
        walk_at "xs"
        refine x_isLst hu0 ?_
        walk_at "xs"
        refine x_ite (fun h => by simp at h) (fun _ => ?_)
        walk_at "xs"
        refine x_isTup hd0 ?_
        walk_at "xs"
        refine x_isTup hu0 ?_
        walk_at "xs"
        refine x_ite (fun h => by simp at h) (fun _ => ?_)
        walk_at "xs"
        refine x_lenT (SqT.of ha) ?_
        walk_at "xs"
        refine x_lenT (SqT.of hb) ?_
        walk_at "xs"
        refine x_ite (fun h => by rw [l1, l2] at h; simp at h) (fun _ => ?_)
        walk_at "xs"
        refine x_lenT (SqT.of ha) ?_
        walk_at "xs"
        refine ⟨xs.length, rfl, by omega, by omega, for_range (lo := 0) (n := xs.length) (fun i σ' H' => (∃ y, σ' = [some (.ref a), some (.ref b), y]) ∧ Same H H') ?_ ?_ ?_⟩
        · exact ⟨⟨_, rfl⟩, Same.refl H⟩
        · rintro i σ' H1 hi ⟨⟨y, rfl⟩, s1⟩
          obtain ⟨e, he⟩ : ∃ e, ds[i]? = some e := ⟨_, List.getElem?_eq_getElem (by omega)⟩
          obtain ⟨v1, hv1, a1⟩ := hxs.get he
          obtain ⟨v2, hv2, a2⟩ := hys.get he
          walk_at "xs"
          rw [Int.zero_add]
          refine Or.inr (Or.inl (x_tupI (SqT.of (s1 _ _ ha)) (atI_nat hv1) ?_))
          walk_at "xs"
          refine Or.inr (Or.inl (x_tupI (SqT.of (s1 _ _ hb)) (atI_nat hv2) ?_))
          walk_at "xs"
          refine i_equal (a1.same s1) (a2.same s1) (List.all_eq_true.mp hall e (List.mem_of_getElem? he)) fun H2 s2 => ?_
          walk_at "xs"
          refine iteF ?_
          walk_at "xs"
          exact ⟨⟨_, rfl⟩, s1.trans s2⟩
        · rintro σ' H1 ⟨⟨y, rfl⟩, s1⟩
          walk_at "xs"
          exact q H1 s1
      | list ds =>
        obtain ⟨hl, hall⟩ := Bool.and_eq_true_iff.mp (show (decide (ds.length ≤ 1000) && ds.all (eqs n)) = true from hn)
        have hl := of_decide_eq_true hl
        have hd0 := hd
        have hu0 := hu
        obtain ⟨a, xs, rfl, na, ha, hxs⟩ := hd
        obtain ⟨b, ys, rfl, nb, hb, hys⟩ := hu
        have l1 := hxs.length
        have l2 := hys.length
        refine ⟨rfl, ?_⟩
        walk_at "xs"
        refine x_dec (fun h => by cases h) (fun _ => ?_)
        walk_at "xs"
        refine x_isBool hd0 ?_
        walk_at "xs"
        refine iteF ?_
        walk_at "xs"
        refine x_isInt hd0 ?_
        walk_at "xs"
        refine iteF ?_
        walk_at "xs"
        refine x_isStr hd0 ?_
        walk_at "xs"
        refine iteF ?_
        walk_at "xs"
        refine x_isLst hd0 ?_
        walk_at "xs"
        refine x_isLst hu0 ?_
        walk_at "xs"
        refine x_ite (fun h => by simp at h) (fun _ => ?_)
        walk_at "xs"
        refine x_isTup hd0 ?_
        walk_at "xs"
        refine x_isTup hu0 ?_
        walk_at "xs"
        refine x_ite (fun h => by simp at h) (fun _ => ?_)
        walk_at "xs"
        refine x_lenL (SqL.of ha) ?_
        walk_at "xs"
        refine x_lenL (SqL.of hb) ?_
        walk_at "xs"
        refine x_ite (fun h => by rw [l1, l2] at h; simp at h) (fun _ => ?_)
        walk_at "xs"
        refine x_lenL (SqL.of ha) ?_
        walk_at "xs"
        refine ⟨xs.length, rfl, by omega, by omega, for_range (lo := 0) (n := xs.length) (fun i σ' H' => (∃ y, σ' = [some (.ref a), some (.ref b), y]) ∧ Same H H') ?_ ?_ ?_⟩
        · exact ⟨⟨_, rfl⟩, Same.refl H⟩
        · rintro i σ' H1 hi ⟨⟨y, rfl⟩, s1⟩
          obtain ⟨e, he⟩ : ∃ e, ds[i]? = some e := ⟨_, List.getElem?_eq_getElem (by omega)⟩
          obtain ⟨v1, hv1, a1⟩ := hxs.get he
          obtain ⟨v2, hv2, a2⟩ := hys.get he
          walk_at "xs"
          rw [Int.zero_add]
          refine Or.inl (x_lstI (SqL.of (s1 _ _ ha)) (atI_nat hv1) ?_)
          walk_at "xs"
          refine Or.inl (x_lstI (SqL.of (s1 _ _ hb)) (atI_nat hv2) ?_)
          walk_at "xs"
          refine i_equal (a1.same s1) (a2.same s1) (List.all_eq_true.mp hall e (List.mem_of_getElem? he)) fun H2 s2 => ?_
          walk_at "xs"
          refine iteF ?_
          walk_at "xs"
          exact ⟨⟨_, rfl⟩, s1.trans s2⟩
        · rintro σ' H1 ⟨⟨y, rfl⟩, s1⟩
          walk_at "xs"
          exact q H1 s1
      | dict _ => cases hn
end
end K76

set_option Elab.async false
set_option linter.all false
set_option maxRecDepth 100000
/-! what is wrong is refused -/
namespace K76
open PySem PySem.Spec PyProof.Rows L2 SX
theorem odds_bad : ∀ w ∈ odds, nameD w = false ∧ numD 0 99 w = false ∧ letterD w = false ∧ predLevel w = 0 ∧ tripleD w = false ∧ triplesD w = false := by
  intro w h
  simp only [odds, List.mem_cons, List.mem_nil_iff, or_false] at h
  rcases h with rfl | rfl | rfl | rfl | rfl | rfl | rfl | rfl | rfl | rfl | rfl | rfl | rfl | rfl | rfl <;> decide +kernel
theorem odds_kind : ∀ w ∈ odds, (∀ z, w ≠ .str z) ∨ ∃ z, w = .str z ∧ z ≠ "not" ∧ z ≠ "and" ∧ z ≠ "or" ∧ z ∉ single ∧ z ≠ "at" ∧ z ≠ "has" ∧ z ≠ "head" ∧ z ≠ "never" ∧ z ≠ "home" ∧ z ≠ "again" ∧ z ≠ "answered" := by
  intro w h
  simp only [odds, List.mem_cons, List.mem_nil_iff, or_false] at h
  rcases h with rfl | rfl | rfl | rfl | rfl | rfl | rfl | rfl | rfl | rfl | rfl | rfl | rfl | rfl | rfl
  all_goals first
    | exact .inr ⟨_, rfl, by decide +kernel⟩
    | exact .inl fun z e => by cases e
theorem kindD_not {w : PyData} {r : List PyData} (h : ∀ z, w ≠ .str z) : kindD (.tuple (w :: r)) = false := by
  cases w with
  | str z => exact absurd rfl (h z)
  | _ => rfl
theorem odd_head {w : PyData} {r : List PyData} (h : w ∈ odds) : predLevel (.tuple (w :: r)) = 0 ∧ wishLevel (.tuple (w :: r)) = -1 := by
  rcases odds_kind w h with k | ⟨z, rfl, n1, n2, n3, n4, n5, n6, n7, n8, n9, n10, n11⟩
  · exact ⟨predLevel_kind (kindD_not k), wishLevel_kind (kindD_not k)⟩
  · refine ⟨?_, ?_⟩
    · rw [predLevel_tup, if_neg n1, if_neg (fun e => e.elim n2 n3), atomOk_other n4 n5 n6 n7]
      rfl
    · rw [wishLevel_tup, if_neg (fun e => e.elim n8 n9), if_neg n10, if_neg n11]
def need (k : Str) : Nat := if k = "not" then 1 else if k = "and" ∨ k = "or" then 2 else if k ∈ single then 0 else if k = "at" then 2 else if k = "has" then 2 else 3
theorem pred_need {k : Str} {r : List PyData} (h : r.length ≠ need k) : predLevel (.tuple (.str k :: r)) = 0 := by
  rw [predLevel_tup]
  unfold need at h
  by_cases h1 : k = "not"
  · rw [if_pos h1] at h ⊢
    match r, h with
    | [], _ => rfl
    | [x], h => exact absurd rfl h
    | _ :: _ :: _, _ => rfl
  · rw [if_neg h1] at h ⊢
    by_cases h2 : k = "and" ∨ k = "or"
    · rw [if_pos h2] at h ⊢
      match r, h with
      | [], _ => rfl
      | [x], h => rfl
      | [x, y], h => exact absurd rfl h
      | _ :: _ :: _ :: _, _ => rfl
    · rw [if_neg h2] at h ⊢
      have e : atomOk k r = false := by
        by_cases h3 : k ∈ single
        · rw [if_pos h3] at h
          rw [atomOk_single h3]
          match r, h with
          | [], h => exact absurd rfl h
          | _ :: _, _ => rfl
        · rw [if_neg h3] at h
          by_cases h4 : k = "at"
          · rw [if_pos h4] at h
            rw [h4, atomOk_at]
            match r, h with
            | [], _ => rfl
            | [x], _ => rfl
            | [x, y], h => exact absurd rfl h
            | _ :: _ :: _ :: _, _ => rfl
          · rw [if_neg h4] at h
            by_cases h5 : k = "has"
            · rw [if_pos h5] at h
              rw [h5, atomOk_has]
              match r, h with
              | [], _ => rfl
              | [x], _ => rfl
              | [x, y], h => exact absurd rfl h
              | _ :: _ :: _ :: _, _ => rfl
            · rw [if_neg h5] at h
              by_cases h6 : k = "head"
              · rw [h6, atomOk_head]
                match r, h with
                | [], _ => rfl
                | [x], _ => rfl
                | [x, y], _ => rfl
                | [x, y, z], h => exact absurd rfl h
                | _ :: _ :: _ :: _ :: _, _ => rfl
              · exact atomOk_other h3 h4 h5 h6
      rw [e]
      rfl
theorem VT.need {k : Str} {r : List PyData} (h : VT (.tuple (.str k :: r))) : r.length = need k := by
  by_cases e : r.length = K76.need k
  · exact e
  · have h0 := pred_need e
    have := h.level
    omega
theorem VT.str {d : PyData} (h : VT d) : ∃ k r, d = .tuple (.str k :: r) := by
  cases h with
  | one h => exact ⟨_, _, rfl⟩
  | at_ _ _ _ => exact ⟨_, _, rfl⟩
  | has _ _ _ => exact ⟨_, _, rfl⟩
  | head _ _ _ _ => exact ⟨_, _, rfl⟩
  | nt _ => exact ⟨_, _, rfl⟩
  | bin _ _ _ => exact ⟨_, _, rfl⟩
/-- a wrong part of something that is no tuple is odd -/
theorem WP.odd {d d' : PyData} (n : isTup d = false) (h : WP d d') : d' ∈ odds := by
  cases h with
  | leaf h _ => exact h
  | ins _ _ => cases n
  | rep _ _ => cases n
theorem ins_len {k : Str} {r : List PyData} {w : PyData} {i : Nat} (hi : i + 1 ≤ (PyData.str k :: r).length) : ∃ r', (PyData.str k :: r).take (i + 1) ++ [w] ++ (PyData.str k :: r).drop (i + 1) = .str k :: r' ∧ r'.length = r.length + 1 := by
  refine ⟨r.take i ++ [w] ++ r.drop i, rfl, ?_⟩
  rw [List.length_append, List.length_append, List.length_take, List.length_drop]
  simp only [List.length_cons, List.length_nil] at hi ⊢
  omega
theorem bad_name {w : PyData} (h : w ∈ odds) : nameD w = false := (odds_bad w h).1
theorem pair_l {a b : PyData} (h : nameD a = false) : pairD a b = false := by
  show (nameD a && _) = false
  rw [h] <;> rfl
theorem pair_r {a b : PyData} (h : nameD b = false) : pairD a b = false := by
  show (nameD a && (nameD b && _)) = false
  rw [h, Bool.false_and, Bool.and_false]
theorem atom_zero {k : Str} {r : List PyData} (h1 : ¬ k = "not") (h2 : ¬ (k = "and" ∨ k = "or")) (h : atomOk k r = false) : predLevel (.tuple (.str k :: r)) = 0 := by
  rw [predLevel_tup, if_neg h1, if_neg h2, h]
  rfl
theorem VT.wp : ∀ {d d' : PyData}, VT d → WP d d' → predLevel d' = 0 := by
  intro d d' vd
  induction vd generalizing d' with
  | @one k hk =>
    intro h
    generalize hd : PyData.tuple [PyData.str k] = d at h
    cases h with
    | leaf _ n => subst hd; cases n
    | @ins ds w i hi hw =>
      injection hd with hd
      subst hd
      cases i with
      | zero => exact (odd_head hw).1
      | succ i =>
        obtain ⟨r', e, hl⟩ := ins_len (w := w) hi
        rw [e]
        have := (VT.one hk).need
        exact pred_need (by omega)
    | @rep ds d d' i hi h =>
      injection hd with hd
      subst hd
      match i, hi with
      | 0, hi =>
        obtain rfl := Option.some.inj hi
        exact (odd_head (WP.odd rfl h)).1
  | @at_ a p na p0 p1 =>
    intro h
    have hv := VT.at_ na p0 p1
    generalize hd : PyData.tuple [PyData.str "at", .str a, .int p] = d at h
    cases h with
    | leaf _ n => subst hd; cases n
    | @ins ds w i hi hw =>
      injection hd with hd
      subst hd
      cases i with
      | zero => exact (odd_head hw).1
      | succ i =>
        obtain ⟨r', e, hl⟩ := ins_len (w := w) hi
        rw [e]
        have := hv.need
        exact pred_need (by omega)
    | @rep ds d d' i hi h =>
      injection hd with hd
      subst hd
      match i, hi with
      | 0, hi =>
        obtain rfl := Option.some.inj hi
        exact (odd_head (WP.odd rfl h)).1
      | 1, hi =>
        obtain rfl := Option.some.inj hi
        refine atom_zero (k := "at") (r := [d', .int p]) (by decide +kernel) (by decide +kernel) ?_
        rw [atomOk_at]
        show (nameD d' && _) = false
        rw [bad_name (WP.odd rfl h)] <;> rfl
      | 2, hi =>
        obtain rfl := Option.some.inj hi
        refine atom_zero (k := "at") (r := [.str a, d']) (by decide +kernel) (by decide +kernel) ?_
        rw [atomOk_at]
        show (_ && numD 0 99 d') = false
        rw [(odds_bad _ (WP.odd rfl h)).2.1, Bool.and_false]
  | @has a b na nb ne =>
    intro h
    have hv := VT.has na nb ne
    generalize hd : PyData.tuple [PyData.str "has", .str a, .str b] = d at h
    cases h with
    | leaf _ n => subst hd; cases n
    | @ins ds w i hi hw =>
      injection hd with hd
      subst hd
      cases i with
      | zero => exact (odd_head hw).1
      | succ i =>
        obtain ⟨r', e, hl⟩ := ins_len (w := w) hi
        rw [e]
        have := hv.need
        exact pred_need (by omega)
    | @rep ds d d' i hi h =>
      injection hd with hd
      subst hd
      match i, hi with
      | 0, hi =>
        obtain rfl := Option.some.inj hi
        exact (odd_head (WP.odd rfl h)).1
      | 1, hi =>
        obtain rfl := Option.some.inj hi
        refine atom_zero (k := "has") (r := [d', .str b]) (by decide +kernel) (by decide +kernel) ?_
        rw [atomOk_has]
        exact pair_l (bad_name (WP.odd rfl h))
      | 2, hi =>
        obtain rfl := Option.some.inj hi
        refine atom_zero (k := "has") (r := [.str a, d']) (by decide +kernel) (by decide +kernel) ?_
        rw [atomOk_has]
        exact pair_r (bad_name (WP.odd rfl h))
  | @head a b l na nb ne hl =>
    intro h
    have hv := VT.head na nb ne hl
    generalize hd : PyData.tuple [PyData.str "head", .str a, .str b, .str l] = d at h
    cases h with
    | leaf _ n => subst hd; cases n
    | @ins ds w i hi hw =>
      injection hd with hd
      subst hd
      cases i with
      | zero => exact (odd_head hw).1
      | succ i =>
        obtain ⟨r', e, hl⟩ := ins_len (w := w) hi
        rw [e]
        have := hv.need
        exact pred_need (by omega)
    | @rep ds d d' i hi h =>
      injection hd with hd
      subst hd
      match i, hi with
      | 0, hi =>
        obtain rfl := Option.some.inj hi
        exact (odd_head (WP.odd rfl h)).1
      | 1, hi =>
        obtain rfl := Option.some.inj hi
        refine atom_zero (k := "head") (r := [d', .str b, .str l]) (by decide +kernel) (by decide +kernel) ?_
        rw [atomOk_head]
        show (pairD d' (.str b) && _) = false
        rw [pair_l (bad_name (WP.odd rfl h))] <;> rfl
      | 2, hi =>
        obtain rfl := Option.some.inj hi
        refine atom_zero (k := "head") (r := [.str a, d', .str l]) (by decide +kernel) (by decide +kernel) ?_
        rw [atomOk_head]
        show (pairD (.str a) d' && _) = false
        rw [pair_r (bad_name (WP.odd rfl h))] <;> rfl
      | 3, hi =>
        obtain rfl := Option.some.inj hi
        refine atom_zero (k := "head") (r := [.str a, .str b, d']) (by decide +kernel) (by decide +kernel) ?_
        rw [atomOk_head]
        show (_ && letterD d') = false
        rw [(odds_bad _ (WP.odd rfl h)).2.2.1, Bool.and_false]
  | @nt e ve ih =>
    intro h
    have hv := VT.nt ve
    generalize hd : PyData.tuple [PyData.str "not", e] = d at h
    cases h with
    | leaf _ n => subst hd; cases n
    | @ins ds w i hi hw =>
      injection hd with hd
      subst hd
      cases i with
      | zero => exact (odd_head hw).1
      | succ i =>
        obtain ⟨r', e, hl⟩ := ins_len (w := w) hi
        rw [e]
        have := hv.need
        exact pred_need (by omega)
    | @rep ds d d' i hi h =>
      injection hd with hd
      subst hd
      match i, hi with
      | 0, hi =>
        obtain rfl := Option.some.inj hi
        exact (odd_head (WP.odd rfl h)).1
      | 1, hi =>
        obtain rfl := Option.some.inj hi
        show predLevel (.tuple (.str "not" :: [d'])) = 0
        rw [predLevel_tup, if_pos rfl]
        show up (predLevel d') = 0
        rw [ih h] <;> rfl
  | @bin k e1 e2 hk v1 v2 ih1 ih2 =>
    intro h
    have hv := VT.bin hk v1 v2
    have n1 : ¬ k = "not" := fun z => by
      rw [z] at hk
      exact absurd hk (by decide +kernel)
    generalize hd : PyData.tuple [PyData.str k, e1, e2] = d at h
    cases h with
    | leaf _ n => subst hd; cases n
    | @ins ds w i hi hw =>
      injection hd with hd
      subst hd
      cases i with
      | zero => exact (odd_head hw).1
      | succ i =>
        obtain ⟨r', e, hl⟩ := ins_len (w := w) hi
        rw [e]
        have := hv.need
        exact pred_need (by omega)
    | @rep ds d d' i hi h =>
      injection hd with hd
      subst hd
      match i, hi with
      | 0, hi =>
        obtain rfl := Option.some.inj hi
        exact (odd_head (WP.odd rfl h)).1
      | 1, hi =>
        obtain rfl := Option.some.inj hi
        show predLevel (.tuple (.str k :: [d', e2])) = 0
        rw [predLevel_tup, if_neg n1, if_pos hk]
        show up2 (predLevel d') _ = 0
        rw [ih1 h]
        rfl
      | 2, hi =>
        obtain rfl := Option.some.inj hi
        show predLevel (.tuple (.str k :: [e1, d'])) = 0
        rw [predLevel_tup, if_neg n1, if_pos hk]
        show up2 (predLevel e1) (predLevel d') = 0
        rw [ih2 h]
        unfold up2
        split <;> rfl
/-! ### wishes -/
def needW (k : Str) : Nat := if k = "answered" then 2 else 1
theorem wish_need {k : Str} {r : List PyData} (h : r.length ≠ needW k) : wishLevel (.tuple (.str k :: r)) = -1 := by
  rw [wishLevel_tup]
  unfold needW at h
  by_cases h1 : k = "never" ∨ k = "home"
  · rw [if_pos h1]
    rw [if_neg (fun z => by rw [z] at h1; exact absurd h1 (by decide +kernel))] at h
    match r, h with
    | [], _ => rfl
    | [x], h => exact absurd rfl h
    | _ :: _ :: _, _ => rfl
  · rw [if_neg h1]
    by_cases h2 : k = "again"
    · rw [if_pos h2]
      rw [if_neg (fun z => by rw [z] at h2; exact absurd h2 (by decide +kernel))] at h
      match r, h with
      | [], _ => rfl
      | [x], h => exact absurd rfl h
      | _ :: _ :: _, _ => rfl
    · rw [if_neg h2]
      by_cases h3 : k = "answered"
      · rw [if_pos h3] at h ⊢
        match r, h with
        | [], _ => rfl
        | [x], _ => rfl
        | [x, y], h => exact absurd rfl h
        | _ :: _ :: _ :: _, _ => rfl
      · rw [if_neg h3]
theorem TR.wp {t t' : PyData} (h : TR t) (w : WP t t') : tripleD t' = false := by
  obtain ⟨a, b, l, rfl, na, nb, ne, hl⟩ := h
  generalize hd : PyData.tuple [PyData.str a, .str b, .str l] = d at w
  cases w with
  | leaf _ n => subst hd; cases n
  | @ins ds w i hi hw =>
    injection hd with hd
    subst hd
    match i, hi with
    | 0, _ => rfl
    | 1, _ => rfl
    | 2, _ => rfl
    | 3, _ => rfl
    | i + 4, hi => exact absurd hi (by simp)
  | @rep ds d d' i hi h =>
    injection hd with hd
    subst hd
    match i, hi with
    | 0, hi =>
      obtain rfl := Option.some.inj hi
      show (pairD d' (.str b) && _) = false
      rw [pair_l (bad_name (WP.odd rfl h))] <;> rfl
    | 1, hi =>
      obtain rfl := Option.some.inj hi
      show (pairD (.str a) d' && _) = false
      rw [pair_r (bad_name (WP.odd rfl h))] <;> rfl
    | 2, hi =>
      obtain rfl := Option.some.inj hi
      show (_ && letterD d') = false
      rw [(odds_bad _ (WP.odd rfl h)).2.2.1, Bool.and_false]
theorem TRs.wp {t t' : PyData} (h : TRs t) (w : WP t t') : triplesD t' = false := by
  obtain ⟨ds, rfl, ne, hl, hall⟩ := h
  have key : ∀ {l r : List PyData} {x : PyData}, tripleD x = false → triplesD (.tuple (l ++ [x] ++ r)) = false := fun {l r x} hx => by
    show (_ && List.all _ _) = false
    rw [List.all_append, List.all_append]
    simp [hx]
  generalize hd : PyData.tuple ds = d at w
  cases w with
  | leaf _ n => subst hd; cases n
  | @ins ds w i hi hw => exact key (odds_bad w hw).2.2.2.2.1
  | @rep ds d d' i hi h =>
    injection hd with hd
    subst hd
    exact key ((hall d (List.mem_of_getElem? hi)).wp h)
theorem wish_never {k : Str} {x : PyData} (hk : k = "never" ∨ k = "home") (h : predLevel x = 0) : wishLevel (.tuple [.str k, x]) = -1 := by
  rw [wishLevel_tup, if_pos hk]
  show (if 0 < predLevel x then _ else _) = _
  rw [h, if_neg (by decide)]
theorem VW.wp {d d' : PyData} (vd : VW d) (h : WP d d') : wishLevel d' = -1 := by
  cases vd with
  | @aim k e hk ve =>
    have hn : needW k = 1 := by
      unfold needW
      rw [if_neg (fun z => by rw [z] at hk; exact absurd hk (by decide +kernel))]
    generalize hd : PyData.tuple [PyData.str k, e] = d at h
    cases h with
    | leaf _ n => subst hd; cases n
    | @ins ds w i hi hw =>
      injection hd with hd
      subst hd
      cases i with
      | zero => exact (odd_head hw).2
      | succ i =>
        obtain ⟨r', e, hl⟩ := ins_len (w := w) hi
        rw [e]
        exact wish_need (by rw [hl, hn]; simp)
    | @rep ds d d' i hi h =>
      injection hd with hd
      subst hd
      match i, hi with
      | 0, hi =>
        obtain rfl := Option.some.inj hi
        exact (odd_head (WP.odd rfl h)).2
      | 1, hi =>
        obtain rfl := Option.some.inj hi
        exact wish_never hk (ve.wp h)
  | @again e te =>
    generalize hd : PyData.tuple [PyData.str "again", e] = d at h
    cases h with
    | leaf _ n => subst hd; cases n
    | @ins ds w i hi hw =>
      injection hd with hd
      subst hd
      cases i with
      | zero => exact (odd_head hw).2
      | succ i =>
        obtain ⟨r', e, hl⟩ := ins_len (w := w) hi
        rw [e]
        exact wish_need (by rw [hl, show needW "again" = 1 by decide +kernel]; simp)
    | @rep ds d d' i hi h =>
      injection hd with hd
      subst hd
      match i, hi with
      | 0, hi =>
        obtain rfl := Option.some.inj hi
        exact (odd_head (WP.odd rfl h)).2
      | 1, hi =>
        obtain rfl := Option.some.inj hi
        show wishLevel (.tuple (.str "again" :: [d'])) = -1
        rw [wishLevel_tup, if_neg (by decide +kernel), if_pos rfl]
        show (if triplesD d' = true then _ else _) = _
        rw [te.wp h] <;> rfl
  | @answered e f te tf =>
    generalize hd : PyData.tuple [PyData.str "answered", e, f] = d at h
    cases h with
    | leaf _ n => subst hd; cases n
    | @ins ds w i hi hw =>
      injection hd with hd
      subst hd
      cases i with
      | zero => exact (odd_head hw).2
      | succ i =>
        obtain ⟨r', e, hl⟩ := ins_len (w := w) hi
        rw [e]
        exact wish_need (by rw [hl, show needW "answered" = 2 by decide +kernel]; simp)
    | @rep ds d d' i hi h =>
      injection hd with hd
      subst hd
      match i, hi with
      | 0, hi =>
        obtain rfl := Option.some.inj hi
        exact (odd_head (WP.odd rfl h)).2
      | 1, hi =>
        obtain rfl := Option.some.inj hi
        show wishLevel (.tuple (.str "answered" :: [d', f])) = -1
        rw [wishLevel_tup, if_neg (by decide +kernel), if_neg (by decide +kernel), if_pos rfl]
        show (if (triplesD d' && triplesD f) = true then _ else _) = _
        rw [te.wp h] <;> rfl
      | 2, hi =>
        obtain rfl := Option.some.inj hi
        show wishLevel (.tuple (.str "answered" :: [e, d'])) = -1
        rw [wishLevel_tup, if_neg (by decide +kernel), if_neg (by decide +kernel), if_pos rfl]
        show (if (triplesD e && triplesD d') = true then _ else _) = _
        rw [tf.wp h, Bool.and_false] <;> rfl
theorem odds2_bad : ∀ w ∈ odds2, predLevel w = 0 ∧ wishLevel w = -1 := by
  intro w h
  simp only [odds2, oddA, oddB, oddC, oddD, List.cons_append, List.nil_append, List.mem_cons, List.mem_nil_iff, or_false] at h
  rcases h with rfl | rfl | rfl | rfl | rfl | rfl | rfl | rfl | rfl | rfl | rfl | rfl | rfl | rfl | rfl | rfl | rfl | rfl | rfl | rfl | rfl | rfl <;> decide +kernel
theorem take_len {k : Str} {r : List PyData} : (PyData.str k :: r).take ((PyData.str k :: r).length - 1) = [] ∧ r = [] ∨ ∃ r', (PyData.str k :: r).take ((PyData.str k :: r).length - 1) = .str k :: r' ∧ r'.length + 1 = r.length := by
  cases r with
  | nil => exact .inl ⟨rfl, rfl⟩
  | cons e r =>
    refine .inr ⟨(e :: r).take r.length, rfl, ?_⟩
    rw [List.length_take]
    simp only [List.length_cons]
    omega
theorem VT.wt {d d' : PyData} (vd : VT d) (h : WT d d') : predLevel d' = 0 := by
  obtain ⟨k, r, rfl⟩ := vd.str
  generalize hd : PyData.tuple (PyData.str k :: r) = d at h
  cases h with
  | lst => rfl
  | cut =>
    injection hd with hd
    subst hd
    rcases take_len (k := k) (r := r) with ⟨e, _⟩ | ⟨r', e, hl⟩
    · rw [e] <;> rfl
    · rw [e]
      have := vd.need
      exact pred_need (by omega)
  | odd h => exact (odds2_bad _ h).1
  | part h =>
    subst hd
    exact vd.wp h
theorem VW.str {d : PyData} (h : VW d) : ∃ k r, d = .tuple (.str k :: r) ∧ r.length = needW k := by
  cases h with
  | aim hk h =>
    refine ⟨_, _, rfl, ?_⟩
    unfold needW
    rw [if_neg (fun z => by rw [z] at hk; exact absurd hk (by decide +kernel))] <;> rfl
  | again h => exact ⟨_, _, rfl, show 1 = needW "again" by decide +kernel⟩
  | answered h h' => exact ⟨_, _, rfl, show 2 = needW "answered" by decide +kernel⟩
theorem VW.wt {d d' : PyData} (vd : VW d) (h : WT d d') : wishLevel d' = -1 := by
  obtain ⟨k, r, rfl, hn⟩ := vd.str
  generalize hd : PyData.tuple (PyData.str k :: r) = d at h
  cases h with
  | lst => rfl
  | cut =>
    injection hd with hd
    subst hd
    rcases take_len (k := k) (r := r) with ⟨e, _⟩ | ⟨r', e, hl⟩
    · rw [e] <;> rfl
    · rw [e]
      exact wish_need (by omega)
  | odd h => exact (odds2_bad _ h).2
  | part h =>
    subst hd
    exact vd.wp h
theorem VW.pred {d : PyData} (h : VW d) : predLevel d = 0 := by
  cases h with
  | @aim k e hk h =>
    rcases hk with rfl | rfl
    · exact atom_zero (k := "never") (r := [e]) (by decide +kernel) (by decide +kernel) (atomOk_other (by decide +kernel) (by decide +kernel) (by decide +kernel) (by decide +kernel))
    · exact atom_zero (k := "home") (r := [e]) (by decide +kernel) (by decide +kernel) (atomOk_other (by decide +kernel) (by decide +kernel) (by decide +kernel) (by decide +kernel))
  | @again e h => exact atom_zero (k := "again") (r := [e]) (by decide +kernel) (by decide +kernel) (atomOk_other (by decide +kernel) (by decide +kernel) (by decide +kernel) (by decide +kernel))
  | @answered e f h h' => exact atom_zero (k := "answered") (r := [e, f]) (by decide +kernel) (by decide +kernel) (atomOk_other (by decide +kernel) (by decide +kernel) (by decide +kernel) (by decide +kernel))
theorem wish_other {k : Str} {r : List PyData} (h1 : ¬ (k = "never" ∨ k = "home")) (h2 : ¬ k = "again") (h3 : ¬ k = "answered") : wishLevel (.tuple (.str k :: r)) = -1 := by
  rw [wishLevel_tup, if_neg h1, if_neg h2, if_neg h3]
theorem VT.wish {d : PyData} (h : VT d) : wishLevel d = -1 := by
  cases h with
  | @one k hk =>
    rcases single_or hk with rfl | rfl | rfl
    · exact wish_other (by decide +kernel) (by decide +kernel) (by decide +kernel)
    · exact wish_other (by decide +kernel) (by decide +kernel) (by decide +kernel)
    · exact wish_other (by decide +kernel) (by decide +kernel) (by decide +kernel)
  | at_ _ _ _ => exact wish_other (by decide +kernel) (by decide +kernel) (by decide +kernel)
  | has _ _ _ => exact wish_other (by decide +kernel) (by decide +kernel) (by decide +kernel)
  | head _ _ _ _ => exact wish_other (by decide +kernel) (by decide +kernel) (by decide +kernel)
  | nt _ => exact wish_other (by decide +kernel) (by decide +kernel) (by decide +kernel)
  | bin hk _ _ =>
    rcases hk with rfl | rfl
    · exact wish_other (by decide +kernel) (by decide +kernel) (by decide +kernel)
    · exact wish_other (by decide +kernel) (by decide +kernel) (by decide +kernel)
/-- the level of a right wish -/
def lvW : PyData → Nat
  | .tuple [.str k, d] => if k = "never" ∨ k = "home" then hgt d else 0
  | _ => 0
theorem VW.level {d : PyData} (h : VW d) : wishLevel d = lvW d := by
  cases h with
  | @aim k e hk h =>
    have := h.level
    rw [wishLevel_tup, if_pos hk]
    show (if 0 < predLevel e then _ else _) = ((if k = "never" ∨ k = "home" then hgt e else 0 : Nat) : Int)
    rw [if_pos (by omega), if_pos hk]
    omega
  | @again e h =>
    rw [wishLevel_tup, if_neg (by decide +kernel), if_pos rfl]
    show (if triplesD e = true then _ else _) = _
    rw [h.ok] <;> rfl
  | @answered e f h h' =>
    rw [wishLevel_tup, if_neg (by decide +kernel), if_neg (by decide +kernel), if_pos rfl]
    show (if (triplesD e && triplesD f) = true then _ else _) = _
    rw [h.ok, h'.ok] <;> rfl
end K76

set_option Elab.async false
set_option linter.all false
set_option maxRecDepth 100000
set_option maxHeartbeats 4000000
/-! the store made; a refusal told -/
namespace K76
open PySem PySem.Spec PyProof.Rows L2 SX L2H HotX
local macro_rules | `(tactic| walk_at "x") => `(tactic| with_reducible first
  | refine x_seq ?_ | refine x_asg ?_ | refine x_op ?_ | refine x_cons ?_ | refine x_nil ?_ | refine x_c ?_ | refine x_name ?_ | refine x_cb ?_ | refine x_call ?_ | refine x_ret ?_ | refine x_ifS ?_
  | refine x_test ?_ | refine x_bl ?_ | refine x_I0 ?_ | refine x_sub ?_ | refine x_tup ?_ | refine x_lst ?_ | refine x_and ?_ | refine x_or ?_ | refine x_not ?_ | refine x_if ?_ | refine x_andV ?_ | refine x_orV ?_ | refine x_notV ?_
  | refine x_retN ?_ | refine x_drop ?_ | refine x_next ?_ | refine x_un ?_ | refine x_B ?_ | refine x_sl ?_ | refine x_noPart ?_ | refine x_part ?_ | refine x_chain ?_ | refine x_int ?_
  | refine x_eqI ?_ | refine x_eqS ?_ | refine x_neI ?_ | refine x_neS ?_ | refine x_eqB ?_ | refine x_neB ?_ | refine x_toI ?_ | refine x_absI ?_ | refine x_mx2 ?_ | refine x_M1 ?_ | refine x_isS ?_ | refine iteT ?_ | refine iteF ?_ | refine x_lc ?_ | refine x_for ?_ | refine x_rng1 ?_ | refine x_iList ?_ | refine x_iTup ?_ | refine x_yes ?_ | refine x_iStr ?_ | refine x_gcons ?_ | refine x_gnil ?_ | refine x_neg ?_ | refine x_sfld ?_ | refine x_tfld ?_ | refine x_make ?_ | refine x_bm ?_)
local macro_rules | `(tactic| walk_at "xs") => `(tactic| repeat (first | walk_at "x" | ((with_reducible show tVar _ _ _ _); refine x_var rfl ?_)))
theorem dispN {H : Hp} {Q : VK} {xs : List V} (z : xs.length ≤ sizeLine) (q : ∀ p H', Same H H' → H p = none → H' p = some (.lst xs) → Q (.ref p) H') : xs.length ≤ sizeLine ∧ ∀ p, H p = none → Q (.ref p) (L2.upd H p (.lst xs)) :=
  ⟨z, fun p np => q p _ (same_new np) np L2.upd_same⟩
theorem catN {H : Hp} {Q : VK} {a b : Addr} {xs ys zs : List V} (h : H a = some (.lst xs)) (h' : H b = some (.lst ys)) (e : xs ++ ys = zs) (z : zs.length ≤ sizeLine) (q : ∀ p H', Same H H' → H p = none → H' p = some (.lst zs) → Q (.ref p) H') : rCat (.ref a) (.ref b) H Q :=
  x_catL h h' (by rw [← List.length_append, e]; exact z) fun p np => q p _ (same_new np) np (by rw [L2.upd_same, e])
def spStore (K : PySem.W.Frag) : Sp := fun vs H Q _ => ∃ (a : Addr) (ns : List Int), vs = [.ref a] ∧ ns.length ≤ 63 ∧ SqL K H a (ns.map V.int) ∧ ∀ (S : Sto) H', StoreAt H' S → Q (.ref S.a) H'
theorem cut_map (ns : List Int) (lo hi : Option Int) : ∃ ms : List Int, cutV (ns.map V.int) lo hi = ms.map V.int ∧ ms.length ≤ ns.length := by
  unfold cutV
  refine ⟨(ns.drop (HT.sIx (ns.map V.int).length 0 lo)).take (HT.sIx (ns.map V.int).length (ns.map V.int).length hi - HT.sIx (ns.map V.int).length 0 lo), by rw [List.map_take, List.map_drop], ?_⟩
  rw [List.length_take, List.length_drop]
  omega
section
variable {P : Program} {w : World} {K : PySem.W.Frag} {mg : Str → Option Value} {base : Heap} {cP cW cB cT cO : Addr}
theorem k_store (T : Nm K mg) (F : FnX K mg "_law_store" s_law_store ["script"]) : CalK P w K mg base 1 "_law_store" (spStore K) := by
  refine cal_of F sc_law_store (fun vs H Q E h => ?_) (fun f cdv A outer s H vs Q E hr h => ?_)
  · obtain ⟨a, ns, rfl, _⟩ := h
    rfl
  · obtain ⟨a, ns, rfl, h63, ha, q⟩ := h
    refine ⟨_, (pss_one (ps_ret (pe_lst (pa_cons (pe_lc (own := [("cell", 1)]) (g := gName 1) (by rfl) sc_law_store.nd (pi_list (pe_slice sl_list (pv 0) po_none (po_some pe_int))) (blkOk_by (own := [("cell", 1)]) (N := ["script", "cell"]) (sc := defScope s_law_store) (by decide +kernel)) (fun _ _ _ _ _ => pg_name (i := 1) sc_law_store.nd rfl (Or.inl rfl)) (fun _ _ _ _ _ => pts_nil) (fun _ _ _ _ _ => (pe_callTy cx_int (by rfl) T.n_int (by decide +kernel) (pa_cons (pv 1) pa_nil)))) (pa_cons pe_int (pa_cons pe_int (pa_cons pe_int (pa_cons pe_int (pa_cons pe_int pa_nil))))))))), ?_⟩
    walk_at "xs"
    refine x_slL ha fun p1 n1 => ?_
    obtain ⟨ms, em, hml⟩ := cut_map ns none (some 63)
    rw [em]
    have g1 : (L2.upd H p1 (.lst (ms.map V.int))) p1 = _ := L2.upd_same
    generalize L2.upd H p1 (.lst (ms.map V.int)) = H1 at g1 ⊢
    walk_at "xs"
    refine ⟨p1, rfl, ⟨_, SqL.of g1⟩, fun D nD => lc_list (xs := ms.map V.int) (fun i H' => Same H1 H' ∧ H' D = some (.lst ((ms.take i).map V.int))) ?_ ?_ ?_ ?_⟩
    · exact ⟨same_new nD, by rw [L2.upd_same, List.take_zero] <;> rfl⟩
    · rintro i H' hi ⟨sm, _⟩
      exact SqL.of (sm _ _ g1)
    · rintro i v H2 hv ⟨sm, hD⟩
      rw [List.getElem?_map] at hv
      cases hz : ms[i]? with
      | none =>
        rw [hz] at hv
        cases hv
      | some z =>
        rw [hz] at hv
        obtain rfl : V.int z = v := Option.some.inj hv
        walk_at "xs"
        refine ⟨rfl, ?_⟩
        walk_at "xs"
        refine ⟨_, hD, ?_, ?_, ?_⟩
        · rw [List.length_map, List.length_take]
          exact szl (by omega)
        · intro b u e
          rw [L2.upd_ne (ne_of_none e nD)]
          exact sm b u e
        · rw [L2.upd_same, List.take_add_one, hz, List.map_append] <;> rfl
    · rintro H2 ⟨sm, hD⟩
      rw [List.length_map, List.take_length] at hD
      walk_at "xs"
      refine ⟨by show 6 ≤ sizeLine; decide, fun p np => ?_⟩
      exact q ⟨p, D⟩ _ ⟨ms, 0, 0, 20261119, 0, 0, L2.upd_same, by rw [L2.upd_ne (ne_of_none hD np)]; exact hD, by decide⟩
/-- the law's refusal of e -/
def spRef (cB cT : Addr) (p : Addr × Obj) : List V → Hp → VK → Prop := fun vs H Q => vs = [.ref p.1] ∧ (∃ vs, p.2.data = .fields vs) ∧ ∃ (C dd : Addr) (nm fl : Str) (v : V), (C = cB ∧ nm = "BadWish" ∧ fl = "at" ∨ C = cT ∧ nm = "TooMany" ∧ fl = "limit") ∧ Zc (.ref C) (some dd) p.2 ∧
  H dd = some (.xd [(fl, v)]) ∧ ∀ r H', Same H H' → H' r = some (.tup [.str "refused", .str nm, v]) → Q (.ref r) H'
theorem k_refusal (T : Nm K mg) (KC : Kc P K mg cP cW cB cT cO) (F : FnX K mg "_law_refusal" s_law_refusal ["e"]) : ∃ f fd, FnE P w K mg base 2 f fd ["e"] (spRef cB cT) ∧ mg "_law_refusal" = some (.ref f) ∧ Binds K fd ["e"] [] ∧ PySem.W.keepIn K (.ref f) = true := by
  obtain ⟨f, fd, Ff, hm, hb⟩ := F
  refine ⟨f, fd, fn_ofE (k := 1) Ff sc_law_refusal (fun p vs H Q h => ?_) (fun cdv A outer s H vs Q p hot hr h => ?_), hm, hb, Ff.kp⟩
  · obtain ⟨rfl, _⟩ := h
    rfl
  · obtain ⟨rfl, hf, C, dd, nm, fl, v, hC, hz, hdd, q⟩ := h
    have hotc : HotC (cxH L2.CX0 P w K mg base ["e", "names", "flags", "own", "k"] "_law_refusal" (defScope s_law_refusal) f cdv A outer s H E0 p).nox := ⟨p, hot, List.mem_cons_self⟩
    have hpn : (p.1, p.2) ∈ (cxH L2.CX0 P w K mg base ["e", "names", "flags", "own", "k"] "_law_refusal" (defScope s_law_refusal) f cdv A outer s H E0 p).nox.pn := List.mem_cons_self
    obtain ⟨c0, m0, b0, t0⟩ := KC.rN "BadMachine" (by decide +kernel)
    obtain ⟨c1, m1, b1, t1⟩ := KC.rN "BadNet" (by decide +kernel)
    obtain ⟨c2, m2, b2, t2⟩ := KC.rN "BadStanding" (by decide +kernel)
    obtain ⟨c3, m3, b3, t3⟩ := KC.rN "BadWord" (by decide +kernel)
    obtain ⟨c4, m4, b4, t4⟩ := KC.rN "BadText" (by decide +kernel)
    obtain ⟨c5, m5, b5, t5⟩ := KC.rN "BadWish" (by decide +kernel)
    obtain ⟨c6, m6, b6, t6⟩ := KC.rN "BadPaper" (by decide +kernel)
    obtain ⟨c7, m7, b7, t7⟩ := KC.rN "Cannot" (by decide +kernel)
    obtain ⟨c8, m8, b8, t8⟩ := KC.rN "Loud" (by decide +kernel)
    obtain ⟨c9, m9, b9, t9⟩ := KC.rN "NotCalm" (by decide +kernel)
    obtain ⟨c10, m10, b10, t10⟩ := KC.rN "NotThere" (by decide +kernel)
    obtain ⟨c11, m11, b11, t11⟩ := KC.rN "NoJoin" (by decide +kernel)
    obtain ⟨c12, m12, b12, t12⟩ := KC.rN "TooMany" (by decide +kernel)
    obtain ⟨c13, m13, b13, t13⟩ := KC.rN "Reserved" (by decide +kernel)
    obtain ⟨c14, m14, b14, t14⟩ := KC.rN "Nothing" (by decide +kernel)
    rcases hC with ⟨eC, rfl, rfl⟩ | ⟨eC, rfl, rfl⟩
    · have ec := KC.eB.ec
      have xf := KC.eB.xf
      have no := KC.eB.no
      have vX := KC.vB
      rw [← eC] at ec xf no vX b0 b1 b2 b3 b4 b5 b6 b7 b8 b9 b10 b11 b12 b13 b14
      refine ⟨_, (pss_cons (ps_set (i := 1) sc_law_refusal.nd rfl (Or.inr rfl) (pe_lst (pa_cons pe_str (pa_cons pe_str (pa_cons pe_str (pa_cons pe_str (pa_cons pe_str (pa_cons pe_str (pa_cons pe_str (pa_cons pe_str (pa_cons pe_str pa_nil)))))))))))
      (pss_cons (ps_set (i := 1) sc_law_refusal.nd rfl (Or.inr rfl) (pe_op op_cat (pv 1) (pe_lst (pa_cons pe_str (pa_cons pe_str (pa_cons pe_str (pa_cons pe_str (pa_cons pe_str (pa_cons pe_str pa_nil)))))))))
      (pss_cons (ps_set (i := 2) sc_law_refusal.nd rfl (Or.inr rfl) (pe_lst (pa_cons (pe_callB (id := "isinstance") (r := rIsP K C p.1 dd) (call_isP hpn ec hz hf) (by rfl) T.n_isinstance (by decide +kernel) (pa_cons (pv 0) (pa_cons (C8.pe_gc (v := .ref c0) rfl ⟨_, m0, rfl⟩) pa_nil))) (pa_cons (pe_callB (id := "isinstance") (r := rIsP K C p.1 dd) (call_isP hpn ec hz hf) (by rfl) T.n_isinstance (by decide +kernel) (pa_cons (pv 0) (pa_cons (C8.pe_gc (v := .ref c1) rfl ⟨_, m1, rfl⟩) pa_nil))) (pa_cons (pe_callB (id := "isinstance") (r := rIsP K C p.1 dd) (call_isP hpn ec hz hf) (by rfl) T.n_isinstance (by decide +kernel) (pa_cons (pv 0) (pa_cons (C8.pe_gc (v := .ref c2) rfl ⟨_, m2, rfl⟩) pa_nil))) (pa_cons (pe_callB (id := "isinstance") (r := rIsP K C p.1 dd) (call_isP hpn ec hz hf) (by rfl) T.n_isinstance (by decide +kernel) (pa_cons (pv 0) (pa_cons (C8.pe_gc (v := .ref c3) rfl ⟨_, m3, rfl⟩) pa_nil))) pa_nil))))))
      (pss_cons (ps_set (i := 2) sc_law_refusal.nd rfl (Or.inr rfl) (pe_op op_cat (pv 2) (pe_lst (pa_cons (pe_callB (id := "isinstance") (r := rIsP K C p.1 dd) (call_isP hpn ec hz hf) (by rfl) T.n_isinstance (by decide +kernel) (pa_cons (pv 0) (pa_cons (C8.pe_gc (v := .ref c4) rfl ⟨_, m4, rfl⟩) pa_nil))) (pa_cons (pe_callB (id := "isinstance") (r := rIsP K C p.1 dd) (call_isP hpn ec hz hf) (by rfl) T.n_isinstance (by decide +kernel) (pa_cons (pv 0) (pa_cons (C8.pe_gc (v := .ref c5) rfl ⟨_, m5, rfl⟩) pa_nil))) (pa_cons (pe_callB (id := "isinstance") (r := rIsP K C p.1 dd) (call_isP hpn ec hz hf) (by rfl) T.n_isinstance (by decide +kernel) (pa_cons (pv 0) (pa_cons (C8.pe_gc (v := .ref c6) rfl ⟨_, m6, rfl⟩) pa_nil))) (pa_cons (pe_callB (id := "isinstance") (r := rIsP K C p.1 dd) (call_isP hpn ec hz hf) (by rfl) T.n_isinstance (by decide +kernel) (pa_cons (pv 0) (pa_cons (C8.pe_gc (v := .ref c7) rfl ⟨_, m7, rfl⟩) pa_nil))) pa_nil)))))))
      (pss_cons (ps_set (i := 2) sc_law_refusal.nd rfl (Or.inr rfl) (pe_op op_cat (pv 2) (pe_lst (pa_cons (pe_callB (id := "isinstance") (r := rIsP K C p.1 dd) (call_isP hpn ec hz hf) (by rfl) T.n_isinstance (by decide +kernel) (pa_cons (pv 0) (pa_cons (C8.pe_gc (v := .ref c8) rfl ⟨_, m8, rfl⟩) pa_nil))) (pa_cons (pe_callB (id := "isinstance") (r := rIsP K C p.1 dd) (call_isP hpn ec hz hf) (by rfl) T.n_isinstance (by decide +kernel) (pa_cons (pv 0) (pa_cons (C8.pe_gc (v := .ref c9) rfl ⟨_, m9, rfl⟩) pa_nil))) (pa_cons (pe_callB (id := "isinstance") (r := rIsP K C p.1 dd) (call_isP hpn ec hz hf) (by rfl) T.n_isinstance (by decide +kernel) (pa_cons (pv 0) (pa_cons (C8.pe_gc (v := .ref c10) rfl ⟨_, m10, rfl⟩) pa_nil))) (pa_cons (pe_callB (id := "isinstance") (r := rIsP K C p.1 dd) (call_isP hpn ec hz hf) (by rfl) T.n_isinstance (by decide +kernel) (pa_cons (pv 0) (pa_cons (C8.pe_gc (v := .ref c11) rfl ⟨_, m11, rfl⟩) pa_nil))) pa_nil)))))))
      (pss_cons (ps_set (i := 2) sc_law_refusal.nd rfl (Or.inr rfl) (pe_op op_cat (pv 2) (pe_lst (pa_cons (pe_callB (id := "isinstance") (r := rIsP K C p.1 dd) (call_isP hpn ec hz hf) (by rfl) T.n_isinstance (by decide +kernel) (pa_cons (pv 0) (pa_cons (C8.pe_gc (v := .ref c12) rfl ⟨_, m12, rfl⟩) pa_nil))) (pa_cons (pe_callB (id := "isinstance") (r := rIsP K C p.1 dd) (call_isP hpn ec hz hf) (by rfl) T.n_isinstance (by decide +kernel) (pa_cons (pv 0) (pa_cons (C8.pe_gc (v := .ref c13) rfl ⟨_, m13, rfl⟩) pa_nil))) (pa_cons (pe_callB (id := "isinstance") (r := rIsP K C p.1 dd) (call_isP hpn ec hz hf) (by rfl) T.n_isinstance (by decide +kernel) (pa_cons (pv 0) (pa_cons (C8.pe_gc (v := .ref c14) rfl ⟨_, m14, rfl⟩) pa_nil))) pa_nil))))))
      (pss_cons (setLc_hot (i := 3) (own := [("k", 4)]) (g := gName 4) hotc sc_law_refusal.nd rfl rfl (sw_true rfl rfl rfl (by decide +kernel)) (pi_range1H (by rfl) T.n_range (pa_cons pe_int pa_nil)) (blkOk_by (own := [("k", 4)]) (N := ["e", "names", "flags", "own", "k"]) (sc := defScope s_law_refusal) (by decide +kernel)) (fun _ _ _ _ _ => pg_name (i := 4) sc_law_refusal.nd rfl (Or.inl rfl)) (fun _ _ _ _ _ => pts_one (pt_val (pe_ix (r := rIxL K) ix_list (pv 2) (pv 4) (fun _ _ => rfl)))) (fun _ _ _ _ _ => (pe_ix (r := rIxL K) ix_list (pv 1) (pv 4) (fun _ _ => rfl))))
      (pss_cons (ps_if (PW.pt (pw_or (pt_cmpR op_ne (pe_callB cx_len (by rfl) T.n_len (by decide +kernel) (pa_cons (pv 3) pa_nil)) pe_int (nomark _)) (pw_or1 (pt_not (pt_val (pe_callB (id := "isinstance") (r := rIsP K C p.1 dd) (call_isP hpn ec hz hf) (by rfl) T.n_isinstance (by decide +kernel) (pa_cons (pv 0) (pa_cons (pe_bltn (v := .ty "ValueError") (by rfl) T.n_ValueError (by decide +kernel) rfl) pa_nil)))))))) (pss_one (ps_ret (pe_tup (pa_cons pe_str (pa_cons pe_str (pa_cons pe_non pa_nil)))))) pss_nil)
      (pss_cons (ps_if (pt_cmpR op_eq (pe_ix (r := rIxL K) ix_list (pv 3) pe_int (fun _ _ => rfl)) pe_str (nomark _)) (pss_one (ps_ret (pe_tup (pa_cons pe_str (pa_cons (pe_ix (r := rIxL K) ix_list (pv 3) pe_int (fun _ _ => rfl)) (pa_cons (pe_xp hpn xf no hz hf (pv 0)) pa_nil)))))) pss_nil)
      (pss_cons (ps_if (pt_cmpR op_eq (pe_ix (r := rIxL K) ix_list (pv 3) pe_int (fun _ _ => rfl)) pe_str (nomark _)) (pss_one (ps_ret (pe_tup (pa_cons pe_str (pa_cons (pe_ix (r := rIxL K) ix_list (pv 3) pe_int (fun _ _ => rfl)) (pa_cons pe_never pa_nil)))))) pss_nil)
      (pss_cons (ps_if (pt_cmpR op_eq (pe_ix (r := rIxL K) ix_list (pv 3) pe_int (fun _ _ => rfl)) pe_str (nomark _)) (pss_one (ps_ret (pe_tup (pa_cons pe_str (pa_cons (pe_ix (r := rIxL K) ix_list (pv 3) pe_int (fun _ _ => rfl)) (pa_cons pe_never pa_nil)))))) pss_nil)
      (pss_one (ps_ret (pe_tup (pa_cons pe_str (pa_cons (pe_ix (r := rIxL K) ix_list (pv 3) pe_int (fun _ _ => rfl)) (pa_cons pe_non pa_nil))))))))))))))))), ?_⟩
      have isi : ∀ {Hk : Hp} {Q' : VK} {c : Addr} {b : Bool}, Same H Hk → PySem.W.kitOne K (.ref C) (.ref c) = some b → Q' (.bl b) Hk → rIsP K C p.1 dd [.ref p.1, .ref c] Hk Q' := fun {Hk Q' c b} s k q => ⟨.ref c, _, b, _, rfl, .own _, s _ _ hdd, k, q⟩
      have sa := Same.refl H
      walk_at "xs"
      refine ⟨by show 9 ≤ sizeLine; decide, fun p1 n1 => ?_⟩
      have s1 := same_new (o := .lst ([.str "BadMachine", .str "BadNet", .str "BadStanding", .str "BadWord", .str "BadText", .str "BadWish", .str "BadPaper", .str "Cannot", .str "Loud"])) n1
      have g1 : (L2.upd H p1 (.lst ([.str "BadMachine", .str "BadNet", .str "BadStanding", .str "BadWord", .str "BadText", .str "BadWish", .str "BadPaper", .str "Cannot", .str "Loud"]))) p1 = _ := L2.upd_same
      generalize L2.upd H p1 (.lst ([.str "BadMachine", .str "BadNet", .str "BadStanding", .str "BadWord", .str "BadText", .str "BadWish", .str "BadPaper", .str "Cannot", .str "Loud"])) = H1 at s1 g1 ⊢
      have sa := sa.trans s1
      walk_at "xs"
      refine ⟨by show 6 ≤ sizeLine; decide, fun p2 n2 => ?_⟩
      have s2 := same_new (o := .lst [.str "NotCalm", .str "NotThere", .str "NoJoin", .str "TooMany", .str "Reserved", .str "Nothing"]) n2
      have g2 : (L2.upd H1 p2 (.lst [.str "NotCalm", .str "NotThere", .str "NoJoin", .str "TooMany", .str "Reserved", .str "Nothing"])) p2 = _ := L2.upd_same
      generalize L2.upd H1 p2 (.lst [.str "NotCalm", .str "NotThere", .str "NoJoin", .str "TooMany", .str "Reserved", .str "Nothing"]) = H2 at s2 g2 ⊢
      have g1 := s2 _ _ g1
      have sa := sa.trans s2
      walk_at "xs"
      refine x_catL g1 g2 (by show 15 ≤ sizeLine; decide) fun p3 n3 => ?_
      have s3 := same_new (o := .lst ([.str "BadMachine", .str "BadNet", .str "BadStanding", .str "BadWord", .str "BadText", .str "BadWish", .str "BadPaper", .str "Cannot", .str "Loud"] ++ [.str "NotCalm", .str "NotThere", .str "NoJoin", .str "TooMany", .str "Reserved", .str "Nothing"])) n3
      have g3 : (L2.upd H2 p3 (.lst ([.str "BadMachine", .str "BadNet", .str "BadStanding", .str "BadWord", .str "BadText", .str "BadWish", .str "BadPaper", .str "Cannot", .str "Loud"] ++ [.str "NotCalm", .str "NotThere", .str "NoJoin", .str "TooMany", .str "Reserved", .str "Nothing"]))) p3 = some (.lst [.str "BadMachine", .str "BadNet", .str "BadStanding", .str "BadWord", .str "BadText", .str "BadWish", .str "BadPaper", .str "Cannot", .str "Loud", .str "NotCalm", .str "NotThere", .str "NoJoin", .str "TooMany", .str "Reserved", .str "Nothing"]) := L2.upd_same
      generalize L2.upd H2 p3 (.lst ([.str "BadMachine", .str "BadNet", .str "BadStanding", .str "BadWord", .str "BadText", .str "BadWish", .str "BadPaper", .str "Cannot", .str "Loud"] ++ [.str "NotCalm", .str "NotThere", .str "NoJoin", .str "TooMany", .str "Reserved", .str "Nothing"])) = H3 at s3 g3 ⊢
      have g1 := s3 _ _ g1
      have g2 := s3 _ _ g2
      have sa := sa.trans s3
      walk_at "xs"
      refine isi sa b0 ?_
      walk_at "xs"
      refine isi sa b1 ?_
      walk_at "xs"
      refine isi sa b2 ?_
      walk_at "xs"
      refine isi sa b3 ?_
      walk_at "xs"
      refine ⟨by show 4 ≤ sizeLine; decide, fun p4 n4 => ?_⟩
      have s4 := same_new (o := .lst [.bl (decide (("BadMachine" : Str) = "BadWish")), .bl (decide (("BadNet" : Str) = "BadWish")), .bl (decide (("BadStanding" : Str) = "BadWish")), .bl (decide (("BadWord" : Str) = "BadWish"))]) n4
      have g4 : (L2.upd H3 p4 (.lst [.bl (decide (("BadMachine" : Str) = "BadWish")), .bl (decide (("BadNet" : Str) = "BadWish")), .bl (decide (("BadStanding" : Str) = "BadWish")), .bl (decide (("BadWord" : Str) = "BadWish"))])) p4 = _ := L2.upd_same
      generalize L2.upd H3 p4 (.lst [.bl (decide (("BadMachine" : Str) = "BadWish")), .bl (decide (("BadNet" : Str) = "BadWish")), .bl (decide (("BadStanding" : Str) = "BadWish")), .bl (decide (("BadWord" : Str) = "BadWish"))]) = H4 at s4 g4 ⊢
      have g3 := s4 _ _ g3
      have sa := sa.trans s4
      walk_at "xs"
      refine isi sa b4 ?_
      walk_at "xs"
      refine isi sa b5 ?_
      walk_at "xs"
      refine isi sa b6 ?_
      walk_at "xs"
      refine isi sa b7 ?_
      walk_at "xs"
      refine ⟨by show 4 ≤ sizeLine; decide, fun p5 n5 => ?_⟩
      have s5 := same_new (o := .lst [.bl (decide (("BadText" : Str) = "BadWish")), .bl (decide (("BadWish" : Str) = "BadWish")), .bl (decide (("BadPaper" : Str) = "BadWish")), .bl (decide (("Cannot" : Str) = "BadWish"))]) n5
      have g5 : (L2.upd H4 p5 (.lst [.bl (decide (("BadText" : Str) = "BadWish")), .bl (decide (("BadWish" : Str) = "BadWish")), .bl (decide (("BadPaper" : Str) = "BadWish")), .bl (decide (("Cannot" : Str) = "BadWish"))])) p5 = _ := L2.upd_same
      generalize L2.upd H4 p5 (.lst [.bl (decide (("BadText" : Str) = "BadWish")), .bl (decide (("BadWish" : Str) = "BadWish")), .bl (decide (("BadPaper" : Str) = "BadWish")), .bl (decide (("Cannot" : Str) = "BadWish"))]) = H5 at s5 g5 ⊢
      have g3 := s5 _ _ g3
      have g4 := s5 _ _ g4
      have sa := sa.trans s5
      walk_at "xs"
      refine x_catL g4 g5 (by show 8 ≤ sizeLine; decide) fun p6 n6 => ?_
      have s6 := same_new (o := .lst ([.bl (decide (("BadMachine" : Str) = "BadWish")), .bl (decide (("BadNet" : Str) = "BadWish")), .bl (decide (("BadStanding" : Str) = "BadWish")), .bl (decide (("BadWord" : Str) = "BadWish"))] ++ [.bl (decide (("BadText" : Str) = "BadWish")), .bl (decide (("BadWish" : Str) = "BadWish")), .bl (decide (("BadPaper" : Str) = "BadWish")), .bl (decide (("Cannot" : Str) = "BadWish"))])) n6
      have g6 : (L2.upd H5 p6 (.lst ([.bl (decide (("BadMachine" : Str) = "BadWish")), .bl (decide (("BadNet" : Str) = "BadWish")), .bl (decide (("BadStanding" : Str) = "BadWish")), .bl (decide (("BadWord" : Str) = "BadWish"))] ++ [.bl (decide (("BadText" : Str) = "BadWish")), .bl (decide (("BadWish" : Str) = "BadWish")), .bl (decide (("BadPaper" : Str) = "BadWish")), .bl (decide (("Cannot" : Str) = "BadWish"))]))) p6 = some (.lst [.bl (decide (("BadMachine" : Str) = "BadWish")), .bl (decide (("BadNet" : Str) = "BadWish")), .bl (decide (("BadStanding" : Str) = "BadWish")), .bl (decide (("BadWord" : Str) = "BadWish")), .bl (decide (("BadText" : Str) = "BadWish")), .bl (decide (("BadWish" : Str) = "BadWish")), .bl (decide (("BadPaper" : Str) = "BadWish")), .bl (decide (("Cannot" : Str) = "BadWish"))]) := L2.upd_same
      generalize L2.upd H5 p6 (.lst ([.bl (decide (("BadMachine" : Str) = "BadWish")), .bl (decide (("BadNet" : Str) = "BadWish")), .bl (decide (("BadStanding" : Str) = "BadWish")), .bl (decide (("BadWord" : Str) = "BadWish"))] ++ [.bl (decide (("BadText" : Str) = "BadWish")), .bl (decide (("BadWish" : Str) = "BadWish")), .bl (decide (("BadPaper" : Str) = "BadWish")), .bl (decide (("Cannot" : Str) = "BadWish"))])) = H6 at s6 g6 ⊢
      have g3 := s6 _ _ g3
      have g4 := s6 _ _ g4
      have g5 := s6 _ _ g5
      have sa := sa.trans s6
      walk_at "xs"
      refine isi sa b8 ?_
      walk_at "xs"
      refine isi sa b9 ?_
      walk_at "xs"
      refine isi sa b10 ?_
      walk_at "xs"
      refine isi sa b11 ?_
      walk_at "xs"
      refine ⟨by show 4 ≤ sizeLine; decide, fun p7 n7 => ?_⟩
      have s7 := same_new (o := .lst [.bl (decide (("Loud" : Str) = "BadWish")), .bl (decide (("NotCalm" : Str) = "BadWish")), .bl (decide (("NotThere" : Str) = "BadWish")), .bl (decide (("NoJoin" : Str) = "BadWish"))]) n7
      have g7 : (L2.upd H6 p7 (.lst [.bl (decide (("Loud" : Str) = "BadWish")), .bl (decide (("NotCalm" : Str) = "BadWish")), .bl (decide (("NotThere" : Str) = "BadWish")), .bl (decide (("NoJoin" : Str) = "BadWish"))])) p7 = _ := L2.upd_same
      generalize L2.upd H6 p7 (.lst [.bl (decide (("Loud" : Str) = "BadWish")), .bl (decide (("NotCalm" : Str) = "BadWish")), .bl (decide (("NotThere" : Str) = "BadWish")), .bl (decide (("NoJoin" : Str) = "BadWish"))]) = H7 at s7 g7 ⊢
      have g3 := s7 _ _ g3
      have g6 := s7 _ _ g6
      have sa := sa.trans s7
      walk_at "xs"
      refine x_catL g6 g7 (by show 12 ≤ sizeLine; decide) fun p8 n8 => ?_
      have s8 := same_new (o := .lst ([.bl (decide (("BadMachine" : Str) = "BadWish")), .bl (decide (("BadNet" : Str) = "BadWish")), .bl (decide (("BadStanding" : Str) = "BadWish")), .bl (decide (("BadWord" : Str) = "BadWish")), .bl (decide (("BadText" : Str) = "BadWish")), .bl (decide (("BadWish" : Str) = "BadWish")), .bl (decide (("BadPaper" : Str) = "BadWish")), .bl (decide (("Cannot" : Str) = "BadWish"))] ++ [.bl (decide (("Loud" : Str) = "BadWish")), .bl (decide (("NotCalm" : Str) = "BadWish")), .bl (decide (("NotThere" : Str) = "BadWish")), .bl (decide (("NoJoin" : Str) = "BadWish"))])) n8
      have g8 : (L2.upd H7 p8 (.lst ([.bl (decide (("BadMachine" : Str) = "BadWish")), .bl (decide (("BadNet" : Str) = "BadWish")), .bl (decide (("BadStanding" : Str) = "BadWish")), .bl (decide (("BadWord" : Str) = "BadWish")), .bl (decide (("BadText" : Str) = "BadWish")), .bl (decide (("BadWish" : Str) = "BadWish")), .bl (decide (("BadPaper" : Str) = "BadWish")), .bl (decide (("Cannot" : Str) = "BadWish"))] ++ [.bl (decide (("Loud" : Str) = "BadWish")), .bl (decide (("NotCalm" : Str) = "BadWish")), .bl (decide (("NotThere" : Str) = "BadWish")), .bl (decide (("NoJoin" : Str) = "BadWish"))]))) p8 = some (.lst [.bl (decide (("BadMachine" : Str) = "BadWish")), .bl (decide (("BadNet" : Str) = "BadWish")), .bl (decide (("BadStanding" : Str) = "BadWish")), .bl (decide (("BadWord" : Str) = "BadWish")), .bl (decide (("BadText" : Str) = "BadWish")), .bl (decide (("BadWish" : Str) = "BadWish")), .bl (decide (("BadPaper" : Str) = "BadWish")), .bl (decide (("Cannot" : Str) = "BadWish")), .bl (decide (("Loud" : Str) = "BadWish")), .bl (decide (("NotCalm" : Str) = "BadWish")), .bl (decide (("NotThere" : Str) = "BadWish")), .bl (decide (("NoJoin" : Str) = "BadWish"))]) := L2.upd_same
      generalize L2.upd H7 p8 (.lst ([.bl (decide (("BadMachine" : Str) = "BadWish")), .bl (decide (("BadNet" : Str) = "BadWish")), .bl (decide (("BadStanding" : Str) = "BadWish")), .bl (decide (("BadWord" : Str) = "BadWish")), .bl (decide (("BadText" : Str) = "BadWish")), .bl (decide (("BadWish" : Str) = "BadWish")), .bl (decide (("BadPaper" : Str) = "BadWish")), .bl (decide (("Cannot" : Str) = "BadWish"))] ++ [.bl (decide (("Loud" : Str) = "BadWish")), .bl (decide (("NotCalm" : Str) = "BadWish")), .bl (decide (("NotThere" : Str) = "BadWish")), .bl (decide (("NoJoin" : Str) = "BadWish"))])) = H8 at s8 g8 ⊢
      have g3 := s8 _ _ g3
      have g6 := s8 _ _ g6
      have g7 := s8 _ _ g7
      have sa := sa.trans s8
      walk_at "xs"
      refine isi sa b12 ?_
      walk_at "xs"
      refine isi sa b13 ?_
      walk_at "xs"
      refine isi sa b14 ?_
      walk_at "xs"
      refine ⟨by show 3 ≤ sizeLine; decide, fun p9 n9 => ?_⟩
      have s9 := same_new (o := .lst [.bl (decide (("TooMany" : Str) = "BadWish")), .bl (decide (("Reserved" : Str) = "BadWish")), .bl (decide (("Nothing" : Str) = "BadWish"))]) n9
      have g9 : (L2.upd H8 p9 (.lst [.bl (decide (("TooMany" : Str) = "BadWish")), .bl (decide (("Reserved" : Str) = "BadWish")), .bl (decide (("Nothing" : Str) = "BadWish"))])) p9 = _ := L2.upd_same
      generalize L2.upd H8 p9 (.lst [.bl (decide (("TooMany" : Str) = "BadWish")), .bl (decide (("Reserved" : Str) = "BadWish")), .bl (decide (("Nothing" : Str) = "BadWish"))]) = H9 at s9 g9 ⊢
      have g3 := s9 _ _ g3
      have g8 := s9 _ _ g8
      have sa := sa.trans s9
      walk_at "xs"
      refine x_catL g8 g9 (by show 15 ≤ sizeLine; decide) fun p10 n10 => ?_
      have s10 := same_new (o := .lst ([.bl (decide (("BadMachine" : Str) = "BadWish")), .bl (decide (("BadNet" : Str) = "BadWish")), .bl (decide (("BadStanding" : Str) = "BadWish")), .bl (decide (("BadWord" : Str) = "BadWish")), .bl (decide (("BadText" : Str) = "BadWish")), .bl (decide (("BadWish" : Str) = "BadWish")), .bl (decide (("BadPaper" : Str) = "BadWish")), .bl (decide (("Cannot" : Str) = "BadWish")), .bl (decide (("Loud" : Str) = "BadWish")), .bl (decide (("NotCalm" : Str) = "BadWish")), .bl (decide (("NotThere" : Str) = "BadWish")), .bl (decide (("NoJoin" : Str) = "BadWish"))] ++ [.bl (decide (("TooMany" : Str) = "BadWish")), .bl (decide (("Reserved" : Str) = "BadWish")), .bl (decide (("Nothing" : Str) = "BadWish"))])) n10
      have g10 : (L2.upd H9 p10 (.lst ([.bl (decide (("BadMachine" : Str) = "BadWish")), .bl (decide (("BadNet" : Str) = "BadWish")), .bl (decide (("BadStanding" : Str) = "BadWish")), .bl (decide (("BadWord" : Str) = "BadWish")), .bl (decide (("BadText" : Str) = "BadWish")), .bl (decide (("BadWish" : Str) = "BadWish")), .bl (decide (("BadPaper" : Str) = "BadWish")), .bl (decide (("Cannot" : Str) = "BadWish")), .bl (decide (("Loud" : Str) = "BadWish")), .bl (decide (("NotCalm" : Str) = "BadWish")), .bl (decide (("NotThere" : Str) = "BadWish")), .bl (decide (("NoJoin" : Str) = "BadWish"))] ++ [.bl (decide (("TooMany" : Str) = "BadWish")), .bl (decide (("Reserved" : Str) = "BadWish")), .bl (decide (("Nothing" : Str) = "BadWish"))]))) p10 = some (.lst [.bl (decide (("BadMachine" : Str) = "BadWish")), .bl (decide (("BadNet" : Str) = "BadWish")), .bl (decide (("BadStanding" : Str) = "BadWish")), .bl (decide (("BadWord" : Str) = "BadWish")), .bl (decide (("BadText" : Str) = "BadWish")), .bl (decide (("BadWish" : Str) = "BadWish")), .bl (decide (("BadPaper" : Str) = "BadWish")), .bl (decide (("Cannot" : Str) = "BadWish")), .bl (decide (("Loud" : Str) = "BadWish")), .bl (decide (("NotCalm" : Str) = "BadWish")), .bl (decide (("NotThere" : Str) = "BadWish")), .bl (decide (("NoJoin" : Str) = "BadWish")), .bl (decide (("TooMany" : Str) = "BadWish")), .bl (decide (("Reserved" : Str) = "BadWish")), .bl (decide (("Nothing" : Str) = "BadWish"))]) := L2.upd_same
      generalize L2.upd H9 p10 (.lst ([.bl (decide (("BadMachine" : Str) = "BadWish")), .bl (decide (("BadNet" : Str) = "BadWish")), .bl (decide (("BadStanding" : Str) = "BadWish")), .bl (decide (("BadWord" : Str) = "BadWish")), .bl (decide (("BadText" : Str) = "BadWish")), .bl (decide (("BadWish" : Str) = "BadWish")), .bl (decide (("BadPaper" : Str) = "BadWish")), .bl (decide (("Cannot" : Str) = "BadWish")), .bl (decide (("Loud" : Str) = "BadWish")), .bl (decide (("NotCalm" : Str) = "BadWish")), .bl (decide (("NotThere" : Str) = "BadWish")), .bl (decide (("NoJoin" : Str) = "BadWish"))] ++ [.bl (decide (("TooMany" : Str) = "BadWish")), .bl (decide (("Reserved" : Str) = "BadWish")), .bl (decide (("Nothing" : Str) = "BadWish"))])) = H10 at s10 g10 ⊢
      have g3 := s10 _ _ g3
      have g8 := s10 _ _ g8
      have g9 := s10 _ _ g9
      have sa := sa.trans s10
      walk_at "xs"
      have gN : H10 p3 = some (.lst (fifteen.map V.str)) := g3
      have gF : H10 p10 = some (.lst (fifteen.map fun x : Str => V.bl (decide (x = "BadWish")))) := g10
      refine ⟨15, rfl, by decide, by decide, fun D nD => lc_range (lo := 0) (n := 15) (fun i H' => Same H10 H' ∧ H' D = some (.lst (((fifteen.take i).filter fun x : Str => decide (x = "BadWish")).map V.str))) ?_ ?_ ?_⟩
      · exact ⟨same_new nD, by rw [L2.upd_same, List.take_zero] <;> rfl⟩
      · rintro i Hk hi ⟨sm, hD⟩
        obtain ⟨z, hz⟩ : ∃ z, fifteen[i]? = some z := ⟨_, List.getElem?_eq_getElem (show i < fifteen.length from hi)⟩
        have step : (fifteen.take (i + 1)).filter (fun x : Str => decide (x = "BadWish")) = ((fifteen.take i).filter fun x : Str => decide (x = "BadWish")) ++ (if decide (z = "BadWish") = true then [z] else []) := by
          rw [List.take_add_one, hz, List.filter_append]
          congr 1
          cases h : decide (z = ("BadWish" : Str)) with
          | true => simp [h]
          | false => simp [h]
        have hl : ((fifteen.take i).filter fun x : Str => decide (x = "BadWish")).length ≤ 15 := by
          have h1 := List.length_filter_le (fun x : Str => decide (x = "BadWish")) (fifteen.take i)
          rw [List.length_take] at h1
          have : fifteen.length = 15 := rfl
          omega
        rw [Int.zero_add]
        walk_at "xs"
        refine ⟨rfl, ?_⟩
        walk_at "xs"
        refine x_lstI (SqL.of (sm _ _ gF)) (atI_nat (j := i) (by rw [List.getElem?_map, hz] <;> rfl)) ?_
        walk_at "xs"
        refine x_ite (fun h => ?_) (fun h => ?_)
        · walk_at "xs"
          refine x_lstI (SqL.of (sm _ _ gN)) (atI_nat (j := i) (by rw [List.getElem?_map, hz] <;> rfl)) ?_
          refine ⟨_, hD, ?_, ?_, ?_⟩
          · rw [List.length_map]
            exact szl (by omega)
          · intro b u e
            rw [L2.upd_ne (ne_of_none e nD)]
            exact sm b u e
          · rw [L2.upd_same, step, if_pos h, List.map_append] <;> rfl
        · refine ⟨sm, ?_⟩
          rw [hD, step, if_neg (by rw [h]; decide), List.append_nil]
      · rintro Hk ⟨sm, hD⟩
        have hD : Hk D = some (.lst [.str "BadWish"]) := by
          rw [hD, show ((fifteen.take 15).filter fun x : Str => decide (x = "BadWish")) = [("BadWish" : Str)] by decide +kernel] <;> rfl
        have sa := sa.trans sm
        walk_at "xs"
        refine x_lenL (SqL.of hD) ?_
        walk_at "xs"
        refine iteF ?_
        walk_at "xs"
        refine ⟨.ty "ValueError", _, _, _, rfl, .ty _, sa _ _ hdd, vX, ?_⟩
        walk_at "xs"
        refine iteF ?_
        walk_at "xs"
        refine x_lstI (SqL.of hD) (atI_nat (j := 0) rfl) ?_
        walk_at "xs"
        refine x_eqsT rfl ?_
        walk_at "xs"
        refine x_lstI (SqL.of hD) (atI_nat (j := 0) rfl) ?_
        walk_at "xs"
        refine ⟨.ref p.1, rfl, rfl, _, _, sa _ _ hdd, rfl, ?_⟩
        walk_at "xs"
        refine ⟨by show 3 ≤ sizeLine; decide, fun pz nz => ?_⟩
        exact q pz _ (sa.trans (same_new nz)) L2.upd_same
    · have ec := KC.eT.ec
      have xf := KC.eT.xf
      have no := KC.eT.no
      have vX := KC.vT
      rw [← eC] at ec xf no vX t0 t1 t2 t3 t4 t5 t6 t7 t8 t9 t10 t11 t12 t13 t14
      refine ⟨_, (pss_cons (ps_set (i := 1) sc_law_refusal.nd rfl (Or.inr rfl) (pe_lst (pa_cons pe_str (pa_cons pe_str (pa_cons pe_str (pa_cons pe_str (pa_cons pe_str (pa_cons pe_str (pa_cons pe_str (pa_cons pe_str (pa_cons pe_str pa_nil)))))))))))
      (pss_cons (ps_set (i := 1) sc_law_refusal.nd rfl (Or.inr rfl) (pe_op op_cat (pv 1) (pe_lst (pa_cons pe_str (pa_cons pe_str (pa_cons pe_str (pa_cons pe_str (pa_cons pe_str (pa_cons pe_str pa_nil)))))))))
      (pss_cons (ps_set (i := 2) sc_law_refusal.nd rfl (Or.inr rfl) (pe_lst (pa_cons (pe_callB (id := "isinstance") (r := rIsP K C p.1 dd) (call_isP hpn ec hz hf) (by rfl) T.n_isinstance (by decide +kernel) (pa_cons (pv 0) (pa_cons (C8.pe_gc (v := .ref c0) rfl ⟨_, m0, rfl⟩) pa_nil))) (pa_cons (pe_callB (id := "isinstance") (r := rIsP K C p.1 dd) (call_isP hpn ec hz hf) (by rfl) T.n_isinstance (by decide +kernel) (pa_cons (pv 0) (pa_cons (C8.pe_gc (v := .ref c1) rfl ⟨_, m1, rfl⟩) pa_nil))) (pa_cons (pe_callB (id := "isinstance") (r := rIsP K C p.1 dd) (call_isP hpn ec hz hf) (by rfl) T.n_isinstance (by decide +kernel) (pa_cons (pv 0) (pa_cons (C8.pe_gc (v := .ref c2) rfl ⟨_, m2, rfl⟩) pa_nil))) (pa_cons (pe_callB (id := "isinstance") (r := rIsP K C p.1 dd) (call_isP hpn ec hz hf) (by rfl) T.n_isinstance (by decide +kernel) (pa_cons (pv 0) (pa_cons (C8.pe_gc (v := .ref c3) rfl ⟨_, m3, rfl⟩) pa_nil))) pa_nil))))))
      (pss_cons (ps_set (i := 2) sc_law_refusal.nd rfl (Or.inr rfl) (pe_op op_cat (pv 2) (pe_lst (pa_cons (pe_callB (id := "isinstance") (r := rIsP K C p.1 dd) (call_isP hpn ec hz hf) (by rfl) T.n_isinstance (by decide +kernel) (pa_cons (pv 0) (pa_cons (C8.pe_gc (v := .ref c4) rfl ⟨_, m4, rfl⟩) pa_nil))) (pa_cons (pe_callB (id := "isinstance") (r := rIsP K C p.1 dd) (call_isP hpn ec hz hf) (by rfl) T.n_isinstance (by decide +kernel) (pa_cons (pv 0) (pa_cons (C8.pe_gc (v := .ref c5) rfl ⟨_, m5, rfl⟩) pa_nil))) (pa_cons (pe_callB (id := "isinstance") (r := rIsP K C p.1 dd) (call_isP hpn ec hz hf) (by rfl) T.n_isinstance (by decide +kernel) (pa_cons (pv 0) (pa_cons (C8.pe_gc (v := .ref c6) rfl ⟨_, m6, rfl⟩) pa_nil))) (pa_cons (pe_callB (id := "isinstance") (r := rIsP K C p.1 dd) (call_isP hpn ec hz hf) (by rfl) T.n_isinstance (by decide +kernel) (pa_cons (pv 0) (pa_cons (C8.pe_gc (v := .ref c7) rfl ⟨_, m7, rfl⟩) pa_nil))) pa_nil)))))))
      (pss_cons (ps_set (i := 2) sc_law_refusal.nd rfl (Or.inr rfl) (pe_op op_cat (pv 2) (pe_lst (pa_cons (pe_callB (id := "isinstance") (r := rIsP K C p.1 dd) (call_isP hpn ec hz hf) (by rfl) T.n_isinstance (by decide +kernel) (pa_cons (pv 0) (pa_cons (C8.pe_gc (v := .ref c8) rfl ⟨_, m8, rfl⟩) pa_nil))) (pa_cons (pe_callB (id := "isinstance") (r := rIsP K C p.1 dd) (call_isP hpn ec hz hf) (by rfl) T.n_isinstance (by decide +kernel) (pa_cons (pv 0) (pa_cons (C8.pe_gc (v := .ref c9) rfl ⟨_, m9, rfl⟩) pa_nil))) (pa_cons (pe_callB (id := "isinstance") (r := rIsP K C p.1 dd) (call_isP hpn ec hz hf) (by rfl) T.n_isinstance (by decide +kernel) (pa_cons (pv 0) (pa_cons (C8.pe_gc (v := .ref c10) rfl ⟨_, m10, rfl⟩) pa_nil))) (pa_cons (pe_callB (id := "isinstance") (r := rIsP K C p.1 dd) (call_isP hpn ec hz hf) (by rfl) T.n_isinstance (by decide +kernel) (pa_cons (pv 0) (pa_cons (C8.pe_gc (v := .ref c11) rfl ⟨_, m11, rfl⟩) pa_nil))) pa_nil)))))))
      (pss_cons (ps_set (i := 2) sc_law_refusal.nd rfl (Or.inr rfl) (pe_op op_cat (pv 2) (pe_lst (pa_cons (pe_callB (id := "isinstance") (r := rIsP K C p.1 dd) (call_isP hpn ec hz hf) (by rfl) T.n_isinstance (by decide +kernel) (pa_cons (pv 0) (pa_cons (C8.pe_gc (v := .ref c12) rfl ⟨_, m12, rfl⟩) pa_nil))) (pa_cons (pe_callB (id := "isinstance") (r := rIsP K C p.1 dd) (call_isP hpn ec hz hf) (by rfl) T.n_isinstance (by decide +kernel) (pa_cons (pv 0) (pa_cons (C8.pe_gc (v := .ref c13) rfl ⟨_, m13, rfl⟩) pa_nil))) (pa_cons (pe_callB (id := "isinstance") (r := rIsP K C p.1 dd) (call_isP hpn ec hz hf) (by rfl) T.n_isinstance (by decide +kernel) (pa_cons (pv 0) (pa_cons (C8.pe_gc (v := .ref c14) rfl ⟨_, m14, rfl⟩) pa_nil))) pa_nil))))))
      (pss_cons (setLc_hot (i := 3) (own := [("k", 4)]) (g := gName 4) hotc sc_law_refusal.nd rfl rfl (sw_true rfl rfl rfl (by decide +kernel)) (pi_range1H (by rfl) T.n_range (pa_cons pe_int pa_nil)) (blkOk_by (own := [("k", 4)]) (N := ["e", "names", "flags", "own", "k"]) (sc := defScope s_law_refusal) (by decide +kernel)) (fun _ _ _ _ _ => pg_name (i := 4) sc_law_refusal.nd rfl (Or.inl rfl)) (fun _ _ _ _ _ => pts_one (pt_val (pe_ix (r := rIxL K) ix_list (pv 2) (pv 4) (fun _ _ => rfl)))) (fun _ _ _ _ _ => (pe_ix (r := rIxL K) ix_list (pv 1) (pv 4) (fun _ _ => rfl))))
      (pss_cons (ps_if (PW.pt (pw_or (pt_cmpR op_ne (pe_callB cx_len (by rfl) T.n_len (by decide +kernel) (pa_cons (pv 3) pa_nil)) pe_int (nomark _)) (pw_or1 (pt_not (pt_val (pe_callB (id := "isinstance") (r := rIsP K C p.1 dd) (call_isP hpn ec hz hf) (by rfl) T.n_isinstance (by decide +kernel) (pa_cons (pv 0) (pa_cons (pe_bltn (v := .ty "ValueError") (by rfl) T.n_ValueError (by decide +kernel) rfl) pa_nil)))))))) (pss_one (ps_ret (pe_tup (pa_cons pe_str (pa_cons pe_str (pa_cons pe_non pa_nil)))))) pss_nil)
      (pss_cons (ps_if (pt_cmpR op_eq (pe_ix (r := rIxL K) ix_list (pv 3) pe_int (fun _ _ => rfl)) pe_str (nomark _)) (pss_one (ps_ret (pe_tup (pa_cons pe_str (pa_cons (pe_ix (r := rIxL K) ix_list (pv 3) pe_int (fun _ _ => rfl)) (pa_cons pe_never pa_nil)))))) pss_nil)
      (pss_cons (ps_if (pt_cmpR op_eq (pe_ix (r := rIxL K) ix_list (pv 3) pe_int (fun _ _ => rfl)) pe_str (nomark _)) (pss_one (ps_ret (pe_tup (pa_cons pe_str (pa_cons (pe_ix (r := rIxL K) ix_list (pv 3) pe_int (fun _ _ => rfl)) (pa_cons (pe_xp hpn xf no hz hf (pv 0)) pa_nil)))))) pss_nil)
      (pss_cons (ps_if (pt_cmpR op_eq (pe_ix (r := rIxL K) ix_list (pv 3) pe_int (fun _ _ => rfl)) pe_str (nomark _)) (pss_one (ps_ret (pe_tup (pa_cons pe_str (pa_cons (pe_ix (r := rIxL K) ix_list (pv 3) pe_int (fun _ _ => rfl)) (pa_cons pe_never pa_nil)))))) pss_nil)
      (pss_one (ps_ret (pe_tup (pa_cons pe_str (pa_cons (pe_ix (r := rIxL K) ix_list (pv 3) pe_int (fun _ _ => rfl)) (pa_cons pe_non pa_nil))))))))))))))))), ?_⟩
      have isi : ∀ {Hk : Hp} {Q' : VK} {c : Addr} {b : Bool}, Same H Hk → PySem.W.kitOne K (.ref C) (.ref c) = some b → Q' (.bl b) Hk → rIsP K C p.1 dd [.ref p.1, .ref c] Hk Q' := fun {Hk Q' c b} s k q => ⟨.ref c, _, b, _, rfl, .own _, s _ _ hdd, k, q⟩
      have sa := Same.refl H
      walk_at "xs"
      refine ⟨by show 9 ≤ sizeLine; decide, fun p1 n1 => ?_⟩
      have s1 := same_new (o := .lst ([.str "BadMachine", .str "BadNet", .str "BadStanding", .str "BadWord", .str "BadText", .str "BadWish", .str "BadPaper", .str "Cannot", .str "Loud"])) n1
      have g1 : (L2.upd H p1 (.lst ([.str "BadMachine", .str "BadNet", .str "BadStanding", .str "BadWord", .str "BadText", .str "BadWish", .str "BadPaper", .str "Cannot", .str "Loud"]))) p1 = _ := L2.upd_same
      generalize L2.upd H p1 (.lst ([.str "BadMachine", .str "BadNet", .str "BadStanding", .str "BadWord", .str "BadText", .str "BadWish", .str "BadPaper", .str "Cannot", .str "Loud"])) = H1 at s1 g1 ⊢
      have sa := sa.trans s1
      walk_at "xs"
      refine ⟨by show 6 ≤ sizeLine; decide, fun p2 n2 => ?_⟩
      have s2 := same_new (o := .lst [.str "NotCalm", .str "NotThere", .str "NoJoin", .str "TooMany", .str "Reserved", .str "Nothing"]) n2
      have g2 : (L2.upd H1 p2 (.lst [.str "NotCalm", .str "NotThere", .str "NoJoin", .str "TooMany", .str "Reserved", .str "Nothing"])) p2 = _ := L2.upd_same
      generalize L2.upd H1 p2 (.lst [.str "NotCalm", .str "NotThere", .str "NoJoin", .str "TooMany", .str "Reserved", .str "Nothing"]) = H2 at s2 g2 ⊢
      have g1 := s2 _ _ g1
      have sa := sa.trans s2
      walk_at "xs"
      refine x_catL g1 g2 (by show 15 ≤ sizeLine; decide) fun p3 n3 => ?_
      have s3 := same_new (o := .lst ([.str "BadMachine", .str "BadNet", .str "BadStanding", .str "BadWord", .str "BadText", .str "BadWish", .str "BadPaper", .str "Cannot", .str "Loud"] ++ [.str "NotCalm", .str "NotThere", .str "NoJoin", .str "TooMany", .str "Reserved", .str "Nothing"])) n3
      have g3 : (L2.upd H2 p3 (.lst ([.str "BadMachine", .str "BadNet", .str "BadStanding", .str "BadWord", .str "BadText", .str "BadWish", .str "BadPaper", .str "Cannot", .str "Loud"] ++ [.str "NotCalm", .str "NotThere", .str "NoJoin", .str "TooMany", .str "Reserved", .str "Nothing"]))) p3 = some (.lst [.str "BadMachine", .str "BadNet", .str "BadStanding", .str "BadWord", .str "BadText", .str "BadWish", .str "BadPaper", .str "Cannot", .str "Loud", .str "NotCalm", .str "NotThere", .str "NoJoin", .str "TooMany", .str "Reserved", .str "Nothing"]) := L2.upd_same
      generalize L2.upd H2 p3 (.lst ([.str "BadMachine", .str "BadNet", .str "BadStanding", .str "BadWord", .str "BadText", .str "BadWish", .str "BadPaper", .str "Cannot", .str "Loud"] ++ [.str "NotCalm", .str "NotThere", .str "NoJoin", .str "TooMany", .str "Reserved", .str "Nothing"])) = H3 at s3 g3 ⊢
      have g1 := s3 _ _ g1
      have g2 := s3 _ _ g2
      have sa := sa.trans s3
      walk_at "xs"
      refine isi sa t0 ?_
      walk_at "xs"
      refine isi sa t1 ?_
      walk_at "xs"
      refine isi sa t2 ?_
      walk_at "xs"
      refine isi sa t3 ?_
      walk_at "xs"
      refine ⟨by show 4 ≤ sizeLine; decide, fun p4 n4 => ?_⟩
      have s4 := same_new (o := .lst [.bl (decide (("BadMachine" : Str) = "TooMany")), .bl (decide (("BadNet" : Str) = "TooMany")), .bl (decide (("BadStanding" : Str) = "TooMany")), .bl (decide (("BadWord" : Str) = "TooMany"))]) n4
      have g4 : (L2.upd H3 p4 (.lst [.bl (decide (("BadMachine" : Str) = "TooMany")), .bl (decide (("BadNet" : Str) = "TooMany")), .bl (decide (("BadStanding" : Str) = "TooMany")), .bl (decide (("BadWord" : Str) = "TooMany"))])) p4 = _ := L2.upd_same
      generalize L2.upd H3 p4 (.lst [.bl (decide (("BadMachine" : Str) = "TooMany")), .bl (decide (("BadNet" : Str) = "TooMany")), .bl (decide (("BadStanding" : Str) = "TooMany")), .bl (decide (("BadWord" : Str) = "TooMany"))]) = H4 at s4 g4 ⊢
      have g3 := s4 _ _ g3
      have sa := sa.trans s4
      walk_at "xs"
      refine isi sa t4 ?_
      walk_at "xs"
      refine isi sa t5 ?_
      walk_at "xs"
      refine isi sa t6 ?_
      walk_at "xs"
      refine isi sa t7 ?_
      walk_at "xs"
      refine ⟨by show 4 ≤ sizeLine; decide, fun p5 n5 => ?_⟩
      have s5 := same_new (o := .lst [.bl (decide (("BadText" : Str) = "TooMany")), .bl (decide (("BadWish" : Str) = "TooMany")), .bl (decide (("BadPaper" : Str) = "TooMany")), .bl (decide (("Cannot" : Str) = "TooMany"))]) n5
      have g5 : (L2.upd H4 p5 (.lst [.bl (decide (("BadText" : Str) = "TooMany")), .bl (decide (("BadWish" : Str) = "TooMany")), .bl (decide (("BadPaper" : Str) = "TooMany")), .bl (decide (("Cannot" : Str) = "TooMany"))])) p5 = _ := L2.upd_same
      generalize L2.upd H4 p5 (.lst [.bl (decide (("BadText" : Str) = "TooMany")), .bl (decide (("BadWish" : Str) = "TooMany")), .bl (decide (("BadPaper" : Str) = "TooMany")), .bl (decide (("Cannot" : Str) = "TooMany"))]) = H5 at s5 g5 ⊢
      have g3 := s5 _ _ g3
      have g4 := s5 _ _ g4
      have sa := sa.trans s5
      walk_at "xs"
      refine x_catL g4 g5 (by show 8 ≤ sizeLine; decide) fun p6 n6 => ?_
      have s6 := same_new (o := .lst ([.bl (decide (("BadMachine" : Str) = "TooMany")), .bl (decide (("BadNet" : Str) = "TooMany")), .bl (decide (("BadStanding" : Str) = "TooMany")), .bl (decide (("BadWord" : Str) = "TooMany"))] ++ [.bl (decide (("BadText" : Str) = "TooMany")), .bl (decide (("BadWish" : Str) = "TooMany")), .bl (decide (("BadPaper" : Str) = "TooMany")), .bl (decide (("Cannot" : Str) = "TooMany"))])) n6
      have g6 : (L2.upd H5 p6 (.lst ([.bl (decide (("BadMachine" : Str) = "TooMany")), .bl (decide (("BadNet" : Str) = "TooMany")), .bl (decide (("BadStanding" : Str) = "TooMany")), .bl (decide (("BadWord" : Str) = "TooMany"))] ++ [.bl (decide (("BadText" : Str) = "TooMany")), .bl (decide (("BadWish" : Str) = "TooMany")), .bl (decide (("BadPaper" : Str) = "TooMany")), .bl (decide (("Cannot" : Str) = "TooMany"))]))) p6 = some (.lst [.bl (decide (("BadMachine" : Str) = "TooMany")), .bl (decide (("BadNet" : Str) = "TooMany")), .bl (decide (("BadStanding" : Str) = "TooMany")), .bl (decide (("BadWord" : Str) = "TooMany")), .bl (decide (("BadText" : Str) = "TooMany")), .bl (decide (("BadWish" : Str) = "TooMany")), .bl (decide (("BadPaper" : Str) = "TooMany")), .bl (decide (("Cannot" : Str) = "TooMany"))]) := L2.upd_same
      generalize L2.upd H5 p6 (.lst ([.bl (decide (("BadMachine" : Str) = "TooMany")), .bl (decide (("BadNet" : Str) = "TooMany")), .bl (decide (("BadStanding" : Str) = "TooMany")), .bl (decide (("BadWord" : Str) = "TooMany"))] ++ [.bl (decide (("BadText" : Str) = "TooMany")), .bl (decide (("BadWish" : Str) = "TooMany")), .bl (decide (("BadPaper" : Str) = "TooMany")), .bl (decide (("Cannot" : Str) = "TooMany"))])) = H6 at s6 g6 ⊢
      have g3 := s6 _ _ g3
      have g4 := s6 _ _ g4
      have g5 := s6 _ _ g5
      have sa := sa.trans s6
      walk_at "xs"
      refine isi sa t8 ?_
      walk_at "xs"
      refine isi sa t9 ?_
      walk_at "xs"
      refine isi sa t10 ?_
      walk_at "xs"
      refine isi sa t11 ?_
      walk_at "xs"
      refine ⟨by show 4 ≤ sizeLine; decide, fun p7 n7 => ?_⟩
      have s7 := same_new (o := .lst [.bl (decide (("Loud" : Str) = "TooMany")), .bl (decide (("NotCalm" : Str) = "TooMany")), .bl (decide (("NotThere" : Str) = "TooMany")), .bl (decide (("NoJoin" : Str) = "TooMany"))]) n7
      have g7 : (L2.upd H6 p7 (.lst [.bl (decide (("Loud" : Str) = "TooMany")), .bl (decide (("NotCalm" : Str) = "TooMany")), .bl (decide (("NotThere" : Str) = "TooMany")), .bl (decide (("NoJoin" : Str) = "TooMany"))])) p7 = _ := L2.upd_same
      generalize L2.upd H6 p7 (.lst [.bl (decide (("Loud" : Str) = "TooMany")), .bl (decide (("NotCalm" : Str) = "TooMany")), .bl (decide (("NotThere" : Str) = "TooMany")), .bl (decide (("NoJoin" : Str) = "TooMany"))]) = H7 at s7 g7 ⊢
      have g3 := s7 _ _ g3
      have g6 := s7 _ _ g6
      have sa := sa.trans s7
      walk_at "xs"
      refine x_catL g6 g7 (by show 12 ≤ sizeLine; decide) fun p8 n8 => ?_
      have s8 := same_new (o := .lst ([.bl (decide (("BadMachine" : Str) = "TooMany")), .bl (decide (("BadNet" : Str) = "TooMany")), .bl (decide (("BadStanding" : Str) = "TooMany")), .bl (decide (("BadWord" : Str) = "TooMany")), .bl (decide (("BadText" : Str) = "TooMany")), .bl (decide (("BadWish" : Str) = "TooMany")), .bl (decide (("BadPaper" : Str) = "TooMany")), .bl (decide (("Cannot" : Str) = "TooMany"))] ++ [.bl (decide (("Loud" : Str) = "TooMany")), .bl (decide (("NotCalm" : Str) = "TooMany")), .bl (decide (("NotThere" : Str) = "TooMany")), .bl (decide (("NoJoin" : Str) = "TooMany"))])) n8
      have g8 : (L2.upd H7 p8 (.lst ([.bl (decide (("BadMachine" : Str) = "TooMany")), .bl (decide (("BadNet" : Str) = "TooMany")), .bl (decide (("BadStanding" : Str) = "TooMany")), .bl (decide (("BadWord" : Str) = "TooMany")), .bl (decide (("BadText" : Str) = "TooMany")), .bl (decide (("BadWish" : Str) = "TooMany")), .bl (decide (("BadPaper" : Str) = "TooMany")), .bl (decide (("Cannot" : Str) = "TooMany"))] ++ [.bl (decide (("Loud" : Str) = "TooMany")), .bl (decide (("NotCalm" : Str) = "TooMany")), .bl (decide (("NotThere" : Str) = "TooMany")), .bl (decide (("NoJoin" : Str) = "TooMany"))]))) p8 = some (.lst [.bl (decide (("BadMachine" : Str) = "TooMany")), .bl (decide (("BadNet" : Str) = "TooMany")), .bl (decide (("BadStanding" : Str) = "TooMany")), .bl (decide (("BadWord" : Str) = "TooMany")), .bl (decide (("BadText" : Str) = "TooMany")), .bl (decide (("BadWish" : Str) = "TooMany")), .bl (decide (("BadPaper" : Str) = "TooMany")), .bl (decide (("Cannot" : Str) = "TooMany")), .bl (decide (("Loud" : Str) = "TooMany")), .bl (decide (("NotCalm" : Str) = "TooMany")), .bl (decide (("NotThere" : Str) = "TooMany")), .bl (decide (("NoJoin" : Str) = "TooMany"))]) := L2.upd_same
      generalize L2.upd H7 p8 (.lst ([.bl (decide (("BadMachine" : Str) = "TooMany")), .bl (decide (("BadNet" : Str) = "TooMany")), .bl (decide (("BadStanding" : Str) = "TooMany")), .bl (decide (("BadWord" : Str) = "TooMany")), .bl (decide (("BadText" : Str) = "TooMany")), .bl (decide (("BadWish" : Str) = "TooMany")), .bl (decide (("BadPaper" : Str) = "TooMany")), .bl (decide (("Cannot" : Str) = "TooMany"))] ++ [.bl (decide (("Loud" : Str) = "TooMany")), .bl (decide (("NotCalm" : Str) = "TooMany")), .bl (decide (("NotThere" : Str) = "TooMany")), .bl (decide (("NoJoin" : Str) = "TooMany"))])) = H8 at s8 g8 ⊢
      have g3 := s8 _ _ g3
      have g6 := s8 _ _ g6
      have g7 := s8 _ _ g7
      have sa := sa.trans s8
      walk_at "xs"
      refine isi sa t12 ?_
      walk_at "xs"
      refine isi sa t13 ?_
      walk_at "xs"
      refine isi sa t14 ?_
      walk_at "xs"
      refine ⟨by show 3 ≤ sizeLine; decide, fun p9 n9 => ?_⟩
      have s9 := same_new (o := .lst [.bl (decide (("TooMany" : Str) = "TooMany")), .bl (decide (("Reserved" : Str) = "TooMany")), .bl (decide (("Nothing" : Str) = "TooMany"))]) n9
      have g9 : (L2.upd H8 p9 (.lst [.bl (decide (("TooMany" : Str) = "TooMany")), .bl (decide (("Reserved" : Str) = "TooMany")), .bl (decide (("Nothing" : Str) = "TooMany"))])) p9 = _ := L2.upd_same
      generalize L2.upd H8 p9 (.lst [.bl (decide (("TooMany" : Str) = "TooMany")), .bl (decide (("Reserved" : Str) = "TooMany")), .bl (decide (("Nothing" : Str) = "TooMany"))]) = H9 at s9 g9 ⊢
      have g3 := s9 _ _ g3
      have g8 := s9 _ _ g8
      have sa := sa.trans s9
      walk_at "xs"
      refine x_catL g8 g9 (by show 15 ≤ sizeLine; decide) fun p10 n10 => ?_
      have s10 := same_new (o := .lst ([.bl (decide (("BadMachine" : Str) = "TooMany")), .bl (decide (("BadNet" : Str) = "TooMany")), .bl (decide (("BadStanding" : Str) = "TooMany")), .bl (decide (("BadWord" : Str) = "TooMany")), .bl (decide (("BadText" : Str) = "TooMany")), .bl (decide (("BadWish" : Str) = "TooMany")), .bl (decide (("BadPaper" : Str) = "TooMany")), .bl (decide (("Cannot" : Str) = "TooMany")), .bl (decide (("Loud" : Str) = "TooMany")), .bl (decide (("NotCalm" : Str) = "TooMany")), .bl (decide (("NotThere" : Str) = "TooMany")), .bl (decide (("NoJoin" : Str) = "TooMany"))] ++ [.bl (decide (("TooMany" : Str) = "TooMany")), .bl (decide (("Reserved" : Str) = "TooMany")), .bl (decide (("Nothing" : Str) = "TooMany"))])) n10
      have g10 : (L2.upd H9 p10 (.lst ([.bl (decide (("BadMachine" : Str) = "TooMany")), .bl (decide (("BadNet" : Str) = "TooMany")), .bl (decide (("BadStanding" : Str) = "TooMany")), .bl (decide (("BadWord" : Str) = "TooMany")), .bl (decide (("BadText" : Str) = "TooMany")), .bl (decide (("BadWish" : Str) = "TooMany")), .bl (decide (("BadPaper" : Str) = "TooMany")), .bl (decide (("Cannot" : Str) = "TooMany")), .bl (decide (("Loud" : Str) = "TooMany")), .bl (decide (("NotCalm" : Str) = "TooMany")), .bl (decide (("NotThere" : Str) = "TooMany")), .bl (decide (("NoJoin" : Str) = "TooMany"))] ++ [.bl (decide (("TooMany" : Str) = "TooMany")), .bl (decide (("Reserved" : Str) = "TooMany")), .bl (decide (("Nothing" : Str) = "TooMany"))]))) p10 = some (.lst [.bl (decide (("BadMachine" : Str) = "TooMany")), .bl (decide (("BadNet" : Str) = "TooMany")), .bl (decide (("BadStanding" : Str) = "TooMany")), .bl (decide (("BadWord" : Str) = "TooMany")), .bl (decide (("BadText" : Str) = "TooMany")), .bl (decide (("BadWish" : Str) = "TooMany")), .bl (decide (("BadPaper" : Str) = "TooMany")), .bl (decide (("Cannot" : Str) = "TooMany")), .bl (decide (("Loud" : Str) = "TooMany")), .bl (decide (("NotCalm" : Str) = "TooMany")), .bl (decide (("NotThere" : Str) = "TooMany")), .bl (decide (("NoJoin" : Str) = "TooMany")), .bl (decide (("TooMany" : Str) = "TooMany")), .bl (decide (("Reserved" : Str) = "TooMany")), .bl (decide (("Nothing" : Str) = "TooMany"))]) := L2.upd_same
      generalize L2.upd H9 p10 (.lst ([.bl (decide (("BadMachine" : Str) = "TooMany")), .bl (decide (("BadNet" : Str) = "TooMany")), .bl (decide (("BadStanding" : Str) = "TooMany")), .bl (decide (("BadWord" : Str) = "TooMany")), .bl (decide (("BadText" : Str) = "TooMany")), .bl (decide (("BadWish" : Str) = "TooMany")), .bl (decide (("BadPaper" : Str) = "TooMany")), .bl (decide (("Cannot" : Str) = "TooMany")), .bl (decide (("Loud" : Str) = "TooMany")), .bl (decide (("NotCalm" : Str) = "TooMany")), .bl (decide (("NotThere" : Str) = "TooMany")), .bl (decide (("NoJoin" : Str) = "TooMany"))] ++ [.bl (decide (("TooMany" : Str) = "TooMany")), .bl (decide (("Reserved" : Str) = "TooMany")), .bl (decide (("Nothing" : Str) = "TooMany"))])) = H10 at s10 g10 ⊢
      have g3 := s10 _ _ g3
      have g8 := s10 _ _ g8
      have g9 := s10 _ _ g9
      have sa := sa.trans s10
      walk_at "xs"
      have gN : H10 p3 = some (.lst (fifteen.map V.str)) := g3
      have gF : H10 p10 = some (.lst (fifteen.map fun x : Str => V.bl (decide (x = "TooMany")))) := g10
      refine ⟨15, rfl, by decide, by decide, fun D nD => lc_range (lo := 0) (n := 15) (fun i H' => Same H10 H' ∧ H' D = some (.lst (((fifteen.take i).filter fun x : Str => decide (x = "TooMany")).map V.str))) ?_ ?_ ?_⟩
      · exact ⟨same_new nD, by rw [L2.upd_same, List.take_zero] <;> rfl⟩
      · rintro i Hk hi ⟨sm, hD⟩
        obtain ⟨z, hz⟩ : ∃ z, fifteen[i]? = some z := ⟨_, List.getElem?_eq_getElem (show i < fifteen.length from hi)⟩
        have step : (fifteen.take (i + 1)).filter (fun x : Str => decide (x = "TooMany")) = ((fifteen.take i).filter fun x : Str => decide (x = "TooMany")) ++ (if decide (z = "TooMany") = true then [z] else []) := by
          rw [List.take_add_one, hz, List.filter_append]
          congr 1
          cases h : decide (z = ("TooMany" : Str)) with
          | true => simp [h]
          | false => simp [h]
        have hl : ((fifteen.take i).filter fun x : Str => decide (x = "TooMany")).length ≤ 15 := by
          have h1 := List.length_filter_le (fun x : Str => decide (x = "TooMany")) (fifteen.take i)
          rw [List.length_take] at h1
          have : fifteen.length = 15 := rfl
          omega
        rw [Int.zero_add]
        walk_at "xs"
        refine ⟨rfl, ?_⟩
        walk_at "xs"
        refine x_lstI (SqL.of (sm _ _ gF)) (atI_nat (j := i) (by rw [List.getElem?_map, hz] <;> rfl)) ?_
        walk_at "xs"
        refine x_ite (fun h => ?_) (fun h => ?_)
        · walk_at "xs"
          refine x_lstI (SqL.of (sm _ _ gN)) (atI_nat (j := i) (by rw [List.getElem?_map, hz] <;> rfl)) ?_
          refine ⟨_, hD, ?_, ?_, ?_⟩
          · rw [List.length_map]
            exact szl (by omega)
          · intro b u e
            rw [L2.upd_ne (ne_of_none e nD)]
            exact sm b u e
          · rw [L2.upd_same, step, if_pos h, List.map_append] <;> rfl
        · refine ⟨sm, ?_⟩
          rw [hD, step, if_neg (by rw [h]; decide), List.append_nil]
      · rintro Hk ⟨sm, hD⟩
        have hD : Hk D = some (.lst [.str "TooMany"]) := by
          rw [hD, show ((fifteen.take 15).filter fun x : Str => decide (x = "TooMany")) = [("TooMany" : Str)] by decide +kernel] <;> rfl
        have sa := sa.trans sm
        walk_at "xs"
        refine x_lenL (SqL.of hD) ?_
        walk_at "xs"
        refine iteF ?_
        walk_at "xs"
        refine ⟨.ty "ValueError", _, _, _, rfl, .ty _, sa _ _ hdd, vX, ?_⟩
        walk_at "xs"
        refine iteF ?_
        walk_at "xs"
        refine x_lstI (SqL.of hD) (atI_nat (j := 0) rfl) ?_
        walk_at "xs"
        refine x_eqsF (by decide +kernel) ?_
        walk_at "xs"
        refine x_lstI (SqL.of hD) (atI_nat (j := 0) rfl) ?_
        walk_at "xs"
        refine x_eqsT rfl ?_
        walk_at "xs"
        refine x_lstI (SqL.of hD) (atI_nat (j := 0) rfl) ?_
        walk_at "xs"
        refine ⟨.ref p.1, rfl, rfl, _, _, sa _ _ hdd, rfl, ?_⟩
        walk_at "xs"
        refine ⟨by show 3 ≤ sizeLine; decide, fun pz nz => ?_⟩
        exact q pz _ (sa.trans (same_new nz)) L2.upd_same
end
end K76

set_option Elab.async false
set_option linter.all false
set_option maxRecDepth 100000
set_option maxHeartbeats 1000000
/-! objects made where refusals are told -/
namespace K76
open PySem PySem.Spec PyProof.Rows L2 SX L2H HotX
local macro_rules | `(tactic| walk_at "x") => `(tactic| with_reducible first
  | refine x_seq ?_ | refine x_asg ?_ | refine x_op ?_ | refine x_cons ?_ | refine x_nil ?_ | refine x_c ?_ | refine x_name ?_ | refine x_cb ?_ | refine x_call ?_ | refine x_ret ?_ | refine x_ifS ?_
  | refine x_test ?_ | refine x_bl ?_ | refine x_I0 ?_ | refine x_sub ?_ | refine x_tup ?_ | refine x_lst ?_ | refine x_and ?_ | refine x_or ?_ | refine x_not ?_ | refine x_if ?_ | refine x_andV ?_ | refine x_orV ?_ | refine x_notV ?_
  | refine x_retN ?_ | refine x_drop ?_ | refine x_next ?_ | refine x_un ?_ | refine x_B ?_ | refine x_sl ?_ | refine x_noPart ?_ | refine x_part ?_ | refine x_chain ?_ | refine x_int ?_
  | refine x_eqI ?_ | refine x_eqS ?_ | refine x_neI ?_ | refine x_neS ?_ | refine x_eqB ?_ | refine x_neB ?_ | refine x_toI ?_ | refine x_absI ?_ | refine x_mx2 ?_ | refine x_M1 ?_ | refine x_isS ?_ | refine iteT ?_ | refine iteF ?_ | refine x_lc ?_ | refine x_for ?_ | refine x_rng1 ?_ | refine x_iList ?_ | refine x_iTup ?_ | refine x_yes ?_ | refine x_iStr ?_ | refine x_gcons ?_ | refine x_gnil ?_ | refine x_neg ?_ | refine x_sfld ?_ | refine x_tfld ?_ | refine x_make ?_ | refine x_bm ?_)
local macro_rules | `(tactic| walk_at "xs") => `(tactic| repeat (first | walk_at "x" | ((with_reducible show tVar _ _ _ _); refine x_var rfl ?_)))
def RefOk (P : Program) (w : World) (K : PySem.W.Frag) (mg : Str → Option Value) (base : Heap) (cB cT : Addr) : Prop := ∃ f fd, FnE P w K mg base 2 f fd ["e"] (spRef cB cT) ∧ mg "_law_refusal" = some (.ref f) ∧ Binds K fd ["e"] [] ∧ PySem.W.keepIn K (.ref f) = true
/-- return _law_refusal(e) in the suite -/
def tRefS (cB cT a : Addr) (cls : Value) (d : Option Addr) (te : TE) : TE := fun σ H Q => te σ H fun x H1 => x = .ref a ∧ ∃ (C dd : Addr) (nm fl : Str) (v : V), (C = cB ∧ nm = "BadWish" ∧ fl = "at" ∨ C = cT ∧ nm = "TooMany" ∧ fl = "limit") ∧ cls = .ref C ∧ d = some dd ∧
  H1 dd = some (.xd [(fl, v)]) ∧ ∀ r H', Same H1 H' → H' r = some (.tup [.str "refused", .str nm, v]) → Q (.ref r) H'
theorem pe_refS {X : Cx} {cB cT a : Addr} {oe : Obj} {cls : Value} {d : Option Addr} {pn : List (Addr × Obj)} {e : Expr} {i : Nat} {q pos : Pos} (c : RefOk X.prog X.w X.K X.mg X.base cB cT) (hr : Room 2 X.A) (hz : L2N.Zn cls d oe) (hf : ∃ vs, oe.data = .fields vs) (hg : Gl X "_law_refusal") (he : PE (X.suite a ((a, oe) :: pn)) e (tVar i))
    (hst : starEach [e] X.env = (false, eval e X.env) :: starEach [] X.env := by rfl) (hpl : (backTo pos (starEach [] X.env)).any (·.1) = false := by rfl) :
    PE (X.suite a ((a, oe) :: pn)) (.Call (.Name "_law_refusal" q) [e] [] pos) (tRefS cB cT a cls d (tVar i)) := by
  obtain ⟨f, fd, F, hm, b, kp⟩ := c
  have hot : Hot1 (X.suite a ((a, oe) :: pn)).A (a, oe) := ⟨rfl, by
    obtain ⟨vs, hv⟩ := hf
    exact ⟨vs, hv, hz.2.2 vs hv⟩⟩
  refine pe_imp (pe_callE (X := X.suite a ((a, oe) :: pn)) (p := (a, oe)) F (roomH_mark hr _) hot List.mem_cons_self hg hm kp b (pa_cons he pa_nil hst) (by decide) hst hpl) fun σ H Q h => ?_
  obtain ⟨v, hv, rfl, C, dd, nm, fl, u, hC, hcls, hd, hdd, q⟩ := h
  refine ⟨.ref a, hv, rfl, hf, C, dd, nm, fl, u, hC, ⟨?_, ?_⟩, hdd, q⟩
  · rw [← hcls]
    exact hz.1
  · rw [← hd]
    exact hz.2.1
theorem takesN0 {X : Cx} : L2N.Takes X (fun _ _ _ _ => False) := fun _ _ x => by
  obtain ⟨_, _, _, _, _, _, _, _, _, _, _, _, _, _, _, _, z⟩ := x
  exact z.elim
theorem passAll {X : Cx} {W : WX} {n : Nat} (tk : L2N.Takes X W) (hn : X.N.length = n) : Passes (L2N.CX X.prog X.w) X (fun cls d H' => ∀ σ : L2.St, σ.length = n → W cls d σ H') := fun pins σ H s e s' I c => tk e s' (L2N.XE.of_call I (fun _ _ _ h => h σ (I.len.trans hn)) c)
def RefAt (H : Hp) (r : Addr) (nm : Str) (v : V) : Prop := H r = some (.tup [.str "refused", .str nm, v])
def NewP (cP x : Addr) (d : PyData) (H : Hp) (Q : VK) : Prop :=
  (predLevel d = 0 → ∀ H' r, Same H H' → RefAt H' r "BadWish" (.int 0) → Q (.ref r) H') ∧ (40 < predLevel d → ∀ H' r, Same H H' → RefAt H' r "TooMany" (.int 40) → Q (.ref r) H') ∧ (1 ≤ predLevel d → predLevel d ≤ 40 → ∀ H' r, Same H H' → PredAt cP x H' r d → Q (.ref r) H')
def NewW (cW x : Addr) (d : PyData) (H : Hp) (Q : VK) : Prop :=
  (wishLevel d < 0 → ∀ H' r, Same H H' → RefAt H' r "BadWish" (.int 0) → Q (.ref r) H') ∧ (40 < wishLevel d → ∀ H' r, Same H H' → RefAt H' r "TooMany" (.int 40) → Q (.ref r) H') ∧ (0 ≤ wishLevel d → wishLevel d ≤ 40 → ∀ H' r, Same H H' → WishAt cW x H' r d → Q (.ref r) H')
def spNew (cP cW : Addr) (n : Nat) : Sp := fun vs H Q _ => ∃ x d v, vs.head? = some v ∧ At x H d v ∧ hgt d < n ∧ ((vs = [v, .bl false] ∧ NewP cP x d H Q) ∨ (vs = [v, .bl true] ∧ NewW cW x d H Q))
theorem i_newP {cP cW x : Addr} {d : PyData} {v : V} {n : Nat} {H : Hp} {Q : VK} {E : XK} (h : At x H d v) (hn : hgt d < n) (q : NewP cP x d H Q) : spNew cP cW n [v, .bl false] H Q E := ⟨x, d, v, rfl, h, hn, .inl ⟨rfl, q⟩⟩
theorem i_newW {cP cW x : Addr} {d : PyData} {v : V} {n : Nat} {H : Hp} {Q : VK} {E : XK} (h : At x H d v) (hn : hgt d < n) (q : NewW cW x d H Q) : spNew cP cW n [v, .bl true] H Q E := ⟨x, d, v, rfl, h, hn, .inr ⟨rfl, q⟩⟩
section
variable {P : Program} {w : World} {K : PySem.W.Frag} {mg : Str → Option Value} {base : Heap} {cP cW cB cT cO : Addr}
theorem set_at {σ : L2.St} {i n : Nat} {v : V} (h : σ.length = n) (hi : i < n) : (σ.set i (some v))[i]? = some (some v) := by
  rw [List.getElem?_set_self (by omega)]
/-- what the suite makes of the two exceptions -/
theorem suite_B {KC : Kc P K mg cP cW cB cT cO} {i n : Nat} {D : Ends} {H H' : Hp} {dd : Addr} (hi : i < n) (e : H' dd = some (.xd [("at", .int 0)])) (q : ∀ H2 r, Same H' H2 → RefAt H2 r "BadWish" (.int 0) → D.rt (.ref r) H2) :
    ∀ σ : L2.St, σ.length = n → wAs K (.ref cO) i (fun a cls d => tRet (tRefS cB cT a cls d (tVar i))) (fun _ _ _ _ => False) D (.ref cB) (some dd) σ H' := fun σ hl =>
  ⟨true, KC.oB, fun _ a na => ⟨.ref a, set_at hl hi, rfl, cB, dd, _, _, _, .inl ⟨rfl, rfl, rfl⟩, rfl, rfl, e, fun r H2 s g => q H2 r s g⟩, fun z => by cases z⟩
theorem suite_T {KC : Kc P K mg cP cW cB cT cO} {i n : Nat} {D : Ends} {H H' : Hp} {dd : Addr} (hi : i < n) (e : H' dd = some (.xd [("limit", .int 40)])) (q : ∀ H2 r, Same H' H2 → RefAt H2 r "TooMany" (.int 40) → D.rt (.ref r) H2) :
    ∀ σ : L2.St, σ.length = n → wAs K (.ref cO) i (fun a cls d => tRet (tRefS cB cT a cls d (tVar i))) (fun _ _ _ _ => False) D (.ref cT) (some dd) σ H' := fun σ hl =>
  ⟨true, KC.oT, fun _ a na => ⟨.ref a, set_at hl hi, rfl, cT, dd, _, _, _, .inr ⟨rfl, rfl, rfl⟩, rfl, rfl, e, fun r H2 s g => q H2 r s g⟩, fun z => by cases z⟩
theorem k_new {n : Nat} (T : Nm K mg) (KC : Kc P K mg cP cW cB cT cO) (F : FnX K mg "_law_new" s_law_new ["tree", "wish"]) (rf : RefOk P w K mg base cB cT) (c_Pred : MakN P w K mg base (4 + n + 1) "Pred" cP ["self", "tree"] (spPi cP cB cT n)) (c_Wish : MakN P w K mg base (4 + n + 1 + 1) "Wish" cW ["self", "tree"] (spWi cW cB cT n)) :
    CalK P w K mg base (4 + n + 3 + 1) "_law_new" (spNew cP cW n) := by
  refine cal_of F sc_law_new (fun vs H Q E h => ?_) (fun f cdv A outer s H vs Q E hr h => ?_)
  · obtain ⟨x, d, v, _, _, _, h⟩ := h
    rcases h with ⟨rfl, _⟩ | ⟨rfl, _⟩ <;> rfl
  · obtain ⟨x, d, v, _, hd, hn, h⟩ := h
    have nmO : Names (cxOf L2.CX0 P w K mg base ["tree", "wish", "e"] "_law_new" (defScope s_law_new) f cdv A outer s H E).nox "OneError" (.ref cO) := ⟨by rfl, by decide, .inl KC.mO⟩
    refine ⟨_, (pss_one (L2N.ps_try_as (i := 2) rfl rfl sc_law_new.nd rfl rfl nmO takesN0 (fun W pn xe tk po => have hx := passAll (n := 3) tk rfl; (pss_cons (ps_if (pt_val (pv 1)) (pss_one (ps_ret (pe_mkN c_Wish hr (by omega) hx (by rfl) (pa_cons (pv 0) pa_nil)))) pss_nil)
      (pss_one (ps_ret (pe_mkN c_Pred hr (by omega) hx (by rfl) (pa_cons (pv 0) pa_nil)))))) (fun a oe cls d pn hz hf => (pss_one (ps_ret (pe_refS rf (hr.mono (by omega)) hz hf (by rfl) (pv 2))))))), ?_⟩
    rcases h with ⟨rfl, q⟩ | ⟨rfl, q⟩
    · walk_at "xs"
      refine i_Pred hd hn ⟨fun l H' dd s1 e => suite_B (KC := KC) (H := H) (by decide) e fun H2 r s2 g => q.1 l H2 r (s1.trans s2) g, fun l H' dd s1 e => suite_T (KC := KC) (H := H) (by decide) e fun H2 r s2 g => q.2.1 l H2 r (s1.trans s2) g, fun l l' H' r s1 p => q.2.2 l l' H' r s1 p⟩
    · walk_at "xs"
      refine i_Wish hd (by omega) ⟨fun l H' dd s1 e => suite_B (KC := KC) (H := H) (by decide) e fun H2 r s2 g => q.1 l H2 r (s1.trans s2) g, fun l H' dd s1 e => suite_T (KC := KC) (H := H) (by decide) e fun H2 r s2 g => q.2.1 l H2 r (s1.trans s2) g, fun l l' H' r s1 p => q.2.2 l l' H' r s1 p⟩
end
end K76

set_option Elab.async false
set_option linter.all false
set_option maxRecDepth 100000
set_option maxHeartbeats 1000000
/-! joined, fits, compared -/
namespace K76
open PySem PySem.Spec PyProof.Rows L2 SX L2H HotX
local macro_rules | `(tactic| walk_at "x") => `(tactic| with_reducible first
  | refine x_seq ?_ | refine x_asg ?_ | refine x_op ?_ | refine x_cons ?_ | refine x_nil ?_ | refine x_c ?_ | refine x_name ?_ | refine x_cb ?_ | refine x_call ?_ | refine x_ret ?_ | refine x_ifS ?_
  | refine x_test ?_ | refine x_bl ?_ | refine x_I0 ?_ | refine x_sub ?_ | refine x_tup ?_ | refine x_lst ?_ | refine x_and ?_ | refine x_or ?_ | refine x_not ?_ | refine x_if ?_ | refine x_andV ?_ | refine x_orV ?_ | refine x_notV ?_
  | refine x_retN ?_ | refine x_drop ?_ | refine x_next ?_ | refine x_un ?_ | refine x_B ?_ | refine x_sl ?_ | refine x_noPart ?_ | refine x_part ?_ | refine x_chain ?_ | refine x_int ?_
  | refine x_eqI ?_ | refine x_eqS ?_ | refine x_neI ?_ | refine x_neS ?_ | refine x_eqB ?_ | refine x_neB ?_ | refine x_toI ?_ | refine x_absI ?_ | refine x_mx2 ?_ | refine x_M1 ?_ | refine x_isS ?_ | refine iteT ?_ | refine iteF ?_ | refine x_lc ?_ | refine x_for ?_ | refine x_rng1 ?_ | refine x_iList ?_ | refine x_iTup ?_ | refine x_yes ?_ | refine x_iStr ?_ | refine x_gcons ?_ | refine x_gnil ?_ | refine x_neg ?_ | refine x_sfld ?_ | refine x_tfld ?_ | refine x_make ?_ | refine x_bm ?_)
local macro_rules | `(tactic| walk_at "xs") => `(tactic| repeat (first | walk_at "x" | ((with_reducible show tVar _ _ _ _); refine x_var rfl ?_)))
/-- what is made of two -/
def joinD (way : Int) (d e : PyData) : PyData := if way = 0 then .tuple [.str "and", d, e] else if way = 1 then .tuple [.str "or", d, e] else .tuple [.str "not", d]
def spJoin (cP : Addr) (n : Nat) : Sp := fun vs H Q _ => ∃ x way a b d e, vs = [.int way, .ref a, .ref b] ∧ PredAt cP x H a d ∧ PredAt cP x H b e ∧ hgt (joinD way d e) < n ∧ NewP cP x (joinD way d e) H Q
theorem i_join {cP x : Addr} {way : Int} {a b : Addr} {d e : PyData} {n : Nat} {H : Hp} {Q : VK} {E : XK} (h : PredAt cP x H a d) (h' : PredAt cP x H b e) (hn : hgt (joinD way d e) < n) (q : NewP cP x (joinD way d e) H Q) : spJoin cP n [.int way, .ref a, .ref b] H Q E := ⟨x, way, a, b, d, e, rfl, h, h', hn, q⟩
section
variable {P : Program} {w : World} {K : PySem.W.Frag} {mg : Str → Option Value} {base : Heap} {cP cW cB cT cO : Addr}
theorem k_join {n : Nat} (T : Nm K mg) (KC : Kc P K mg cP cW cB cT cO) (F : FnX K mg "_law_joined" s_law_joined ["way", "left", "right"]) (rf : RefOk P w K mg base cB cT) (c_Pred : MakN P w K mg base (4 + n + 1) "Pred" cP ["self", "tree"] (spPi cP cB cT n)) :
    CalK P w K mg base (4 + n + 3 + 1) "_law_joined" (spJoin cP n) := by
  obtain ⟨fa, fda, Ma, Fa, ba⟩ := k_Pred_and T KC c_Pred
  obtain ⟨fo, fdo, Mo, Fo, bo⟩ := k_Pred_or T KC c_Pred
  obtain ⟨fi, fdi, Mi, Fi, bi⟩ := k_Pred_invert T KC c_Pred
  refine cal_of F sc_law_joined (fun vs H Q E h => ?_) (fun f cdv A outer s H vs Q E hr h => ?_)
  · obtain ⟨x, way, a, b, d, e, rfl, _⟩ := h
    rfl
  · obtain ⟨x, way, a, b, d, e, rfl, hd, he, hn, q⟩ := h
    have nmO : Names (cxOf L2.CX0 P w K mg base ["way", "left", "right", "e"] "_law_joined" (defScope s_law_joined) f cdv A outer s H E).nox "OneError" (.ref cO) := ⟨by rfl, by decide, .inl KC.mO⟩
    refine ⟨_, (pss_one (L2N.ps_try_as (i := 3) rfl rfl sc_law_joined.nd rfl rfl nmO takesN0 (fun W pn xe tk po => have hx := passAll (n := 4) tk rfl; (pss_cons (ps_if (pt_cmpR op_eq (pv 0) pe_int (nomark _)) (pss_one (ps_ret (pe_op (op_bin (op := .BitAnd) KC.pSF Ma.at_ Ma.fn Fa ba (hr.mono (by omega)) hx) (pv 1) (pv 2)))) pss_nil)
      (pss_cons (ps_if (pt_cmpR op_eq (pv 0) pe_int (nomark _)) (pss_one (ps_ret (pe_op (op_bin (op := .BitOr) KC.pSF Mo.at_ Mo.fn Fo bo (hr.mono (by omega)) hx) (pv 1) (pv 2)))) pss_nil)
      (pss_one (ps_ret (pe_un (op_invO Mi.at_ Mi.fn Fi bi (hr.mono (by omega)) hx) (pv 1))))))) (fun a oe cls d pn hz hf => (pss_one (ps_ret (pe_refS rf (hr.mono (by omega)) hz hf (by rfl) (pv 3))))))), ?_⟩
    obtain ⟨dx, v1, ha, _⟩ := id hd
    obtain ⟨dy, v2, hb, _⟩ := id he
    have out : ∀ {t : PyData} {D : Ends}, NewP cP x t H D.rt → OutP cP cB cT x t H D.rt (fun cls d H' => ∀ σ : L2.St, σ.length = 4 → wAs K (.ref cO) 3 (fun a cls d => tRet (tRefS cB cT a cls d (tVar 3))) (fun _ _ _ _ => False) D cls d σ H') := fun {t D} q =>
      ⟨fun l H' dd s1 e => suite_B (KC := KC) (H := H) (by decide) e fun H2 r s2 g => q.1 l H2 r (s1.trans s2) g, fun l H' dd s1 e => suite_T (KC := KC) (H := H) (by decide) e fun H2 r s2 g => q.2.1 l H2 r (s1.trans s2) g, fun l l' H' r s1 p => q.2.2 l l' H' r s1 p⟩
    walk_at "xs"
    refine x_eqi (fun h0 => ?_) (fun h0 => ?_)
    · unfold joinD at hn q
      rw [if_pos h0] at hn q
      walk_at "xs"
      exact ⟨a, dx, _, b, dy, _, rfl, rfl, ha, hb, x, a, b, d, e, rfl, hd, he, hn, out q⟩
    walk_at "xs"
    refine x_eqi (fun h1 => ?_) (fun h1 => ?_)
    · unfold joinD at hn q
      rw [if_neg h0, if_pos h1] at hn q
      walk_at "xs"
      exact ⟨a, dx, _, b, dy, _, rfl, rfl, ha, hb, x, a, b, d, e, rfl, hd, he, hn, out q⟩
    · unfold joinD at hn q
      rw [if_neg h0, if_neg h1] at hn q
      walk_at "xs"
      exact ⟨a, dx, _, rfl, ha, x, a, d, rfl, hd, hn, out q⟩
/-! ### compared -/
/-- == of the two gives same, whichever stands left -/
def CmpV (K : PySem.W.Frag) (cP cW x : Addr) (H : Hp) (l r : V) (same : Bool) : Prop :=
  ∃ a, l = .ref a ∧ ((EqV K cP x H a r same ∧ ((∃ b, r = .ref b ∧ (EqV K cP x H b l same ∨ EqV K cW x H b l same)) ∨ LowV H r)) ∨ (EqV K cW x H a r same ∧ ((∃ b, r = .ref b ∧ (EqV K cP x H b l same ∨ EqV K cW x H b l same)) ∨ LowV H r)))
/-- a comparison, by either side's class -/
def AskV (K : PySem.W.Frag) (cP cW x : Addr) (H : Hp) (l r : V) (same : Bool) : Prop :=
  (∃ a, l = .ref a ∧ EqV K cP x H a r same) ∨ (∃ a, l = .ref a ∧ EqV K cW x H a r same) ∨ (∃ b, r = .ref b ∧ LowV H l ∧ EqV K cP x H b l same) ∨ (∃ b, r = .ref b ∧ LowV H l ∧ EqV K cW x H b l same)
theorem CmpV.ask {cP cW x : Addr} {H : Hp} {l r : V} {same : Bool} (h : CmpV K cP cW x H l r same) : AskV K cP cW x H l r same ∧ AskV K cP cW x H r l same := by
  obtain ⟨a, rfl, h⟩ := h
  rcases h with ⟨h, h2⟩ | ⟨h, h2⟩
  · refine ⟨.inl ⟨a, rfl, h⟩, ?_⟩
    rcases h2 with ⟨b, rfl, h2 | h2⟩ | h2
    · exact .inl ⟨b, rfl, h2⟩
    · exact .inr (.inl ⟨b, rfl, h2⟩)
    · exact .inr (.inr (.inl ⟨a, rfl, h2, h⟩))
  · refine ⟨.inr (.inl ⟨a, rfl, h⟩), ?_⟩
    rcases h2 with ⟨b, rfl, h2 | h2⟩ | h2
    · exact .inl ⟨b, rfl, h2⟩
    · exact .inr (.inl ⟨b, rfl, h2⟩)
    · exact .inr (.inr (.inr ⟨a, rfl, h2, h⟩))
theorem ask_eq (KC : Kc P K mg cP cW cB cT cO) {x : Addr} {H : Hp} {l r : V} {same : Bool} {Q : VK} (h : AskV K cP cW x H l r same) (q : Q (.bl same) H) : rOwnL K cP (spEqO K cP) E0 l r H Q ∨ rOwnL K cW (spEqO K cW) E0 l r H Q ∨ rOwnR cP (spEqO K cP) E0 l r H Q ∨ rOwnR cW (spEqO K cW) E0 l r H Q := by
  rcases h with ⟨a, rfl, h⟩ | ⟨a, rfl, h⟩ | ⟨b, rfl, lo, h⟩ | ⟨b, rfl, lo, h⟩
  · obtain ⟨dx, fs, ha⟩ := h.ins
    obtain ⟨t, ty, hn⟩ := h.ty KC.tP
    exact .inl ⟨a, dx, fs, t, rfl, ha, ty, hn, x, a, r, same, rfl, h, q⟩
  · obtain ⟨dx, fs, ha⟩ := h.ins
    obtain ⟨t, ty, hn⟩ := h.ty KC.tW
    exact .inr (.inl ⟨a, dx, fs, t, rfl, ha, ty, hn, x, a, r, same, rfl, h, q⟩)
  · obtain ⟨dx, fs, ha⟩ := h.ins
    exact .inr (.inr (.inl ⟨b, dx, fs, rfl, ha, lo, x, b, l, same, rfl, h, q⟩))
  · obtain ⟨dx, fs, ha⟩ := h.ins
    exact .inr (.inr (.inr ⟨b, dx, fs, rfl, ha, lo, x, b, l, same, rfl, h, q⟩))
theorem ask_ne (KC : Kc P K mg cP cW cB cT cO) {x : Addr} {H : Hp} {l r : V} {same : Bool} {Q : VK} (h : AskV K cP cW x H l r same) (q : Q (.bl (!same)) H) : rOwnL K cP (spNeO K cP) E0 l r H Q ∨ rOwnL K cW (spNeO K cW) E0 l r H Q ∨ rOwnR cP (spNeO K cP) E0 l r H Q ∨ rOwnR cW (spNeO K cW) E0 l r H Q := by
  rcases h with ⟨a, rfl, h⟩ | ⟨a, rfl, h⟩ | ⟨b, rfl, lo, h⟩ | ⟨b, rfl, lo, h⟩
  · obtain ⟨dx, fs, ha⟩ := h.ins
    obtain ⟨t, ty, hn⟩ := h.ty KC.tP
    exact .inl ⟨a, dx, fs, t, rfl, ha, ty, hn, x, a, r, same, rfl, h, q⟩
  · obtain ⟨dx, fs, ha⟩ := h.ins
    obtain ⟨t, ty, hn⟩ := h.ty KC.tW
    exact .inr (.inl ⟨a, dx, fs, t, rfl, ha, ty, hn, x, a, r, same, rfl, h, q⟩)
  · obtain ⟨dx, fs, ha⟩ := h.ins
    exact .inr (.inr (.inl ⟨b, dx, fs, rfl, ha, lo, x, b, l, same, rfl, h, q⟩))
  · obtain ⟨dx, fs, ha⟩ := h.ins
    exact .inr (.inr (.inr ⟨b, dx, fs, rfl, ha, lo, x, b, l, same, rfl, h, q⟩))
def spCmp (K : PySem.W.Frag) (cP cW : Addr) : Sp := fun vs H Q _ => ∃ x l r same, vs = [l, r, .bl same] ∧ CmpV K cP cW x H l r same ∧ ∀ H', Same H H' → Q (.bl true) H'
theorem i_cmp {cP cW x : Addr} {l r : V} {same : Bool} {H : Hp} {Q : VK} {E : XK} (h : CmpV K cP cW x H l r same) (q : ∀ H', Same H H' → Q (.bl true) H') : spCmp K cP cW [l, r, .bl same] H Q E := ⟨x, l, r, same, rfl, h, q⟩
theorem k_cmp (T : Nm K mg) (KC : Kc P K mg cP cW cB cT cO) (F : FnX K mg "_law_compared" s_law_compared ["left", "right", "same"]) (c_law_equal : CalK P w K mg base (1 + 2) "_law_equal" (spEqual 2)) : CalK P w K mg base 4 "_law_compared" (spCmp K cP cW) := by
  obtain ⟨feP, fdeP, MeP, FeP, beP⟩ := k_Pred_eq (w := w) (base := base) T KC
  obtain ⟨feW, fdeW, MeW, FeW, beW⟩ := k_Wish_eq (w := w) (base := base) T KC
  obtain ⟨fnP, fdnP, MnP, FnP, bnP⟩ := k_Pred_ne (w := w) (base := base) T KC
  obtain ⟨fnW, fdnW, MnW, FnW, bnW⟩ := k_Wish_ne (w := w) (base := base) T KC
  refine cal_of F sc_law_compared (fun vs H Q E h => ?_) (fun f cdv A outer s H vs Q E hr h => ?_)
  · obtain ⟨x, l, r, same, rfl, _⟩ := h
    rfl
  · obtain ⟨x, l, r, same, rfl, hc, q⟩ := h
    obtain ⟨q1, q2⟩ := hc.ask
    refine ⟨_, (pss_cons (ps_set (i := 3) sc_law_compared.nd rfl (Or.inl rfl) (pe_lst (pa_cons (pe_cmpR (op_or (op_ownL (op := .Eq) (E := E0) (fun _ _ => rfl) MeP.at_ MeP.fn FeP beP (hr.mono (by omega)) pass0) (op_or (op_ownL (op := .Eq) (E := E0) (fun _ _ => rfl) MeW.at_ MeW.fn FeW beW (hr.mono (by omega)) pass0) (op_or (op_eqOR (E := E0) KC.tP.ns MeP.at_ MeP.fn FeP beP (hr.mono (by omega)) pass0) (op_eqOR (E := E0) KC.tW.ns MeW.at_ MeW.fn FeW beW (hr.mono (by omega)) pass0)))) (pv 0) (pv 1) (nomark _)) (pa_cons (pe_cmpR (op_or (op_ownL (op := .NotEq) (E := E0) (fun _ _ => rfl) MnP.at_ MnP.fn FnP bnP (hr.mono (by omega)) pass0) (op_or (op_ownL (op := .NotEq) (E := E0) (fun _ _ => rfl) MnW.at_ MnW.fn FnW bnW (hr.mono (by omega)) pass0) (op_or (op_neOR (E := E0) KC.tP.ns MnP.at_ MnP.fn FnP bnP (hr.mono (by omega)) pass0) (op_neOR (E := E0) KC.tW.ns MnW.at_ MnW.fn FnW bnW (hr.mono (by omega)) pass0)))) (pv 0) (pv 1) (nomark _)) (pa_cons (pe_cmpR (op_or (op_ownL (op := .Eq) (E := E0) (fun _ _ => rfl) MeP.at_ MeP.fn FeP beP (hr.mono (by omega)) pass0) (op_or (op_ownL (op := .Eq) (E := E0) (fun _ _ => rfl) MeW.at_ MeW.fn FeW beW (hr.mono (by omega)) pass0) (op_or (op_eqOR (E := E0) KC.tP.ns MeP.at_ MeP.fn FeP beP (hr.mono (by omega)) pass0) (op_eqOR (E := E0) KC.tW.ns MeW.at_ MeW.fn FeW beW (hr.mono (by omega)) pass0)))) (pv 1) (pv 0) (nomark _)) (pa_cons (pe_cmpR (op_or (op_ownL (op := .NotEq) (E := E0) (fun _ _ => rfl) MnP.at_ MnP.fn FnP bnP (hr.mono (by omega)) pass0) (op_or (op_ownL (op := .NotEq) (E := E0) (fun _ _ => rfl) MnW.at_ MnW.fn FnW bnW (hr.mono (by omega)) pass0) (op_or (op_neOR (E := E0) KC.tP.ns MnP.at_ MnP.fn FnP bnP (hr.mono (by omega)) pass0) (op_neOR (E := E0) KC.tW.ns MnW.at_ MnW.fn FnW bnW (hr.mono (by omega)) pass0)))) (pv 1) (pv 0) (nomark _)) pa_nil))))))
      (pss_one (ps_ret (C8.pe_c c_law_equal hr (by omega) (by rfl) (pa_cons (pe_lst (pa_cons (pv 2) (pa_cons (pe_not (pv 2)) (pa_cons (pv 2) (pa_cons (pe_not (pv 2)) pa_nil))))) (pa_cons (pv 3) pa_nil)))))), ?_⟩
    walk_at "xs"
    refine ask_eq KC q1 ?_
    walk_at "xs"
    refine ask_ne KC q1 ?_
    walk_at "xs"
    refine ask_eq KC q2 ?_
    walk_at "xs"
    refine ask_ne KC q2 ?_
    walk_at "xs"
    refine ⟨by show 4 ≤ sizeLine; decide, fun p1 n1 => ?_⟩
    have s1 := same_new (o := .lst [.bl same, .bl (!same), .bl same, .bl (!same)]) n1
    have g1 : (L2.upd H p1 (.lst [.bl same, .bl (!same), .bl same, .bl (!same)])) p1 = _ := L2.upd_same
    generalize L2.upd H p1 (.lst [.bl same, .bl (!same), .bl same, .bl (!same)]) = H1 at s1 g1 ⊢
    walk_at "xs"
    refine ⟨by show 4 ≤ sizeLine; decide, fun p2 n2 => ?_⟩
    have s2 := same_new (o := .lst [.bl same, .bl (!same), .bl same, .bl (!same)]) n2
    have hL : ∀ p, (p = p1 ∨ p = p2) → At (p1 + p2 + 1) (L2.upd H1 p2 (.lst [.bl same, .bl (!same), .bl same, .bl (!same)])) (.list [.bool same, .bool (!same), .bool same, .bool (!same)]) (.ref p) := fun p hp =>
      ⟨p, [.bl same, .bl (!same), .bl same, .bl (!same)], rfl, (by rcases hp with rfl | rfl; exact (show ∀ a b : Nat, a ≠ a + b + 1 by omega) _ _; exact (show ∀ a b : Nat, b ≠ a + b + 1 by omega) _ _), by rcases hp with rfl | rfl; exact s2 _ _ g1; exact L2.upd_same, _, _, rfl, rfl, _, _, rfl, rfl, _, _, rfl, rfl, _, _, rfl, rfl, rfl⟩
    walk_at "xs"
    refine i_equal (hL p2 (.inr rfl)) (hL p1 (.inl rfl)) rfl fun H3 s3 => ?_
    exact q H3 ((s1.trans s2).trans s3)
end
end K76

set_option Elab.async false
set_option linter.all false
set_option maxRecDepth 100000
set_option maxHeartbeats 1000000
/-! what is made fits -/
namespace K76
open PySem PySem.Spec PyProof.Rows L2 SX L2H HotX
local macro_rules | `(tactic| walk_at "x") => `(tactic| with_reducible first
  | refine x_seq ?_ | refine x_asg ?_ | refine x_op ?_ | refine x_cons ?_ | refine x_nil ?_ | refine x_c ?_ | refine x_name ?_ | refine x_cb ?_ | refine x_call ?_ | refine x_ret ?_ | refine x_ifS ?_
  | refine x_test ?_ | refine x_bl ?_ | refine x_I0 ?_ | refine x_sub ?_ | refine x_tup ?_ | refine x_lst ?_ | refine x_and ?_ | refine x_or ?_ | refine x_not ?_ | refine x_if ?_ | refine x_andV ?_ | refine x_orV ?_ | refine x_notV ?_
  | refine x_retN ?_ | refine x_drop ?_ | refine x_next ?_ | refine x_un ?_ | refine x_B ?_ | refine x_sl ?_ | refine x_noPart ?_ | refine x_part ?_ | refine x_chain ?_ | refine x_int ?_
  | refine x_eqI ?_ | refine x_eqS ?_ | refine x_neI ?_ | refine x_neS ?_ | refine x_eqB ?_ | refine x_neB ?_ | refine x_toI ?_ | refine x_absI ?_ | refine x_mx2 ?_ | refine x_M1 ?_ | refine x_isS ?_ | refine iteT ?_ | refine iteF ?_ | refine x_lc ?_ | refine x_for ?_ | refine x_rng1 ?_ | refine x_iList ?_ | refine x_iTup ?_ | refine x_yes ?_ | refine x_iStr ?_ | refine x_gcons ?_ | refine x_gnil ?_ | refine x_neg ?_ | refine x_sfld ?_ | refine x_tfld ?_ | refine x_make ?_ | refine x_bm ?_)
local macro_rules | `(tactic| walk_at "xs") => `(tactic| repeat (first | walk_at "x" | ((with_reducible show tVar _ _ _ _); refine x_var rfl ?_)))
theorem eqs_of : ∀ (k : Nat) (d : PyData), noL d = true → wid d = true → hgt d < k → eqs k d = true
  | 0, _, _, _, h => absurd h (by omega)
  | k + 1, .none, _, _, _ => rfl
  | k + 1, .bool _, _, _, _ => rfl
  | k + 1, .int _, _, _, _ => rfl
  | k + 1, .str _, _, _, _ => rfl
  | k + 1, .tuple ds, n, w, h => by
    obtain ⟨w1, w2⟩ := Bool.and_eq_true_iff.mp (show (decide (ds.length ≤ 100) && wids ds) = true from w)
    have w1 := of_decide_eq_true w1
    rw [hgt_tuple] at h
    show (decide (ds.length ≤ 1000) && ds.all (eqs k)) = true
    rw [decide_eq_true (by omega), Bool.true_and, List.all_eq_true]
    intro e he
    have := hgts_mem he
    exact eqs_of k e (noLs_mem n he) (wids_mem w2 he) (by omega)
  | k + 1, .list _, n, _, _ => by cases n
  | k + 1, .dict _, n, _, _ => by cases n
theorem VW.noL {d : PyData} (h : VW d) : noL d = true ∧ d.canLay0 = true := by
  cases h with
  | aim hk h =>
    refine ⟨?_, ?_⟩
    · show (true && (K76.noL _ && true)) = true
      rw [h.noL] <;> rfl
    · rcases hk with rfl | rfl
      · simp [PyData.canLay0, PyData.canLayAll0, h.lay, show PyData.strOk "never" = true by decide +kernel]
      · simp [PyData.canLay0, PyData.canLayAll0, h.lay, show PyData.strOk "home" = true by decide +kernel]
  | again h =>
    obtain ⟨h1, h2, _⟩ := h.more
    refine ⟨?_, ?_⟩
    · show (true && (K76.noL _ && true)) = true
      rw [h1] <;> rfl
    · simp [PyData.canLay0, PyData.canLayAll0, h2, show PyData.strOk "again" = true by decide +kernel]
  | answered h h' =>
    obtain ⟨h1, h2, _⟩ := h.more
    obtain ⟨h3, h4, _⟩ := h'.more
    refine ⟨?_, ?_⟩
    · show (true && (K76.noL _ && (K76.noL _ && true))) = true
      rw [h1, h3] <;> rfl
    · simp [PyData.canLay0, PyData.canLayAll0, h2, h4, show PyData.strOk "answered" = true by decide +kernel]
def spFits (cP cW : Addr) (n : Nat) : Sp := fun vs H Q _ => ∃ x d r tv, hgt d ≤ n ∧ At x H d tv ∧ (∀ H', Same H H' → Q (.bl true) H') ∧
  ((vs = [.ref r, tv, .bl false] ∧ VT d ∧ ((hgt d ≤ 40 ∧ PredAt cP x H r d) ∨ (40 < hgt d ∧ RefAt H r "TooMany" (.int 40)))) ∨
    (vs = [.ref r, tv, .bl true] ∧ VW d ∧ ((lvW d ≤ 40 ∧ WishAt cW x H r d) ∨ (40 < lvW d ∧ RefAt H r "TooMany" (.int 40)))))
theorem i_fitsP {cP cW x r : Addr} {d : PyData} {tv : V} {n : Nat} {H : Hp} {Q : VK} {E : XK} (hn : hgt d ≤ n) (h : At x H d tv) (vd : VT d) (o : (hgt d ≤ 40 ∧ PredAt cP x H r d) ∨ (40 < hgt d ∧ RefAt H r "TooMany" (.int 40))) (q : ∀ H', Same H H' → Q (.bl true) H') : spFits cP cW n [.ref r, tv, .bl false] H Q E := ⟨x, d, r, tv, hn, h, q, .inl ⟨rfl, vd, o⟩⟩
theorem i_fitsW {cP cW x r : Addr} {d : PyData} {tv : V} {n : Nat} {H : Hp} {Q : VK} {E : XK} (hn : hgt d ≤ n) (h : At x H d tv) (vd : VW d) (o : (lvW d ≤ 40 ∧ WishAt cW x H r d) ∨ (40 < lvW d ∧ RefAt H r "TooMany" (.int 40))) (q : ∀ H', Same H H' → Q (.bl true) H') : spFits cP cW n [.ref r, tv, .bl true] H Q E := ⟨x, d, r, tv, hn, h, q, .inr ⟨rfl, vd, o⟩⟩
theorem VT.tup {d : PyData} (h : VT d) : ∃ ds, d = .tuple ds := by
  obtain ⟨k, r, rfl⟩ := h.str
  exact ⟨_, rfl⟩
section
variable {P : Program} {w : World} {K : PySem.W.Frag} {mg : Str → Option Value} {base : Heap} {cP cW cB cT cO : Addr}
/-- the refusal is equal to the one that is due -/
theorem due_eq {H : Hp} {n : Nat} {r p : Addr} {nm : Str} {i : Int} {Q : VK} {E : XK} (hl : nm.length ≤ 100) (h : RefAt H r nm (.int i)) (h' : H p = some (.tup [.str "refused", .str nm, .int i])) (q : ∀ H', Same H H' → Q (.bl true) H') : spEqual (n + 2) [.ref p, .ref r] H Q E := by
  refine i_equal (x := 0) (d := .tuple [.str "refused", .str nm, .int i]) ⟨p, _, rfl, h', _, _, rfl, ⟨rfl, by decide⟩, _, _, rfl, ⟨rfl, hl⟩, _, _, rfl, rfl, rfl⟩ ⟨r, _, rfl, h, _, _, rfl, ⟨rfl, by decide⟩, _, _, rfl, ⟨rfl, hl⟩, _, _, rfl, rfl, rfl⟩ ?_ q
  rfl
theorem k_fits {n : Nat} (T : Nm K mg) (KC : Kc P K mg cP cW cB cT cO) (F : FnX K mg "_law_fits" s_law_fits ["seen", "tree", "wish"]) (c_law_level : CalK P w K mg base (1 + n) "_law_level" (spLev n)) (c_law_equal : CalK P w K mg base (1 + (n + 2)) "_law_equal" (spEqual (n + 2))) :
    CalK P w K mg base (n + 3 + 1) "_law_fits" (spFits cP cW n) := by
  obtain ⟨pp, gl, fdl, hpl, Fl, bl⟩ := k_Pred_level (w := w) (base := base) KC
  refine cal_of F sc_law_fits (fun vs H Q E h => ?_) (fun f cdv A outer s H vs Q E hr h => ?_)
  · obtain ⟨x, d, r, tv, _, _, _, h⟩ := h
    rcases h with ⟨rfl, _⟩ | ⟨rfl, _⟩ <;> rfl
  · obtain ⟨x, d, r, tv, hn, hd, q, h⟩ := h
    refine ⟨_, (pss_cons (ps_set (i := 3) sc_law_fits.nd rfl (Or.inl rfl) (C8.pe_c c_law_level hr (by omega) (by rfl) (pa_cons (pv 1) pa_nil)))
      (pss_cons (ps_if (pt_val (pv 2)) (pss_one (ps_set (i := 3) sc_law_fits.nd rfl (Or.inl rfl) (pe_ifExp (pt_cmpR op_in_seq (pe_ix (r := rIxT K) ix_tup (pv 1) pe_int (fun _ _ => rfl)) (pe_tup (pa_cons pe_str (pa_cons pe_str pa_nil))) (by rfl)) (C8.pe_c c_law_level hr (by omega) (by rfl) (pa_cons (pe_ix (r := rIxT K) ix_tup (pv 1) pe_int (fun _ _ => rfl)) pa_nil)) pe_int))) pss_nil)
      (pss_cons (ps_if (pt_cmpR op_gt (pv 3) pe_int (nomark _)) (pss_one (ps_ret (C8.pe_c c_law_equal hr (by omega) (by rfl) (pa_cons (pe_tup (pa_cons pe_str (pa_cons pe_str (pa_cons pe_int pa_nil)))) (pa_cons (pv 0) pa_nil))))) pss_nil)
      (pss_cons (ps_if (pt_val (pv 2)) (pss_one (ps_ret (pe_and (pe_callB (id := "isinstance") (r := rIsi K) call_isi (by rfl) T.n_isinstance (by decide +kernel) (pa_cons (pv 0) (pa_cons (C8.pe_gc (v := .ref cW) rfl ⟨_, KC.mW, rfl⟩) pa_nil))) (pe_one (C8.pe_c c_law_equal hr (by omega) (by rfl) (pa_cons (pe_lst (pa_cons (pv 1) (pa_cons (pe_ix (r := rIxT K) ix_tup (pv 1) pe_int (fun _ _ => rfl)) pa_nil))) (pa_cons (pe_lst (pa_cons (pe_fld (pv 0) rfl) (pa_cons (pe_fld (pv 0) rfl) pa_nil))) pa_nil))))))) pss_nil)
      (pss_one (ps_ret (pe_and (pe_callB (id := "isinstance") (r := rIsi K) call_isi (by rfl) T.n_isinstance (by decide +kernel) (pa_cons (pv 0) (pa_cons (C8.pe_gc (v := .ref cP) rfl ⟨_, KC.mP, rfl⟩) pa_nil))) (pe_one (C8.pe_c c_law_equal hr (by omega) (by rfl) (pa_cons (pe_lst (pa_cons (pv 1) (pa_cons (pv 3) pa_nil))) (pa_cons (pe_lst (pa_cons (pe_fld (pv 0) rfl) (pa_cons (pe_prop (pv 0) KC.tP.cl hpl Fl (hr.mono (by omega)) bl .nil pass0 rfl) pa_nil))) pa_nil))))))))))), ?_⟩
    rcases h with ⟨rfl, vd, o⟩ | ⟨rfl, vd, o⟩
    · obtain ⟨ds, rfl⟩ := vd.tup
      walk_at "xs"
      refine i_lev hd vd.wid hn fun H1 s1 => ?_
      have hd := hd.same s1
      walk_at "xs"
      refine x_dec (fun h40 => ?_) (fun h40 => ?_)
      · walk_at "xs"
        refine ⟨by show 3 ≤ sizeLine; decide, fun p np => ?_⟩
        have s2 := same_new (o := .tup [.str "refused", .str "TooMany", .int 40]) np
        walk_at "xs"
        rcases o with ⟨h, _⟩ | ⟨_, hR⟩
        · omega
        · exact due_eq (by decide) (s2 _ _ (s1 _ _ hR)) L2.upd_same fun H2 s3 => q H2 ((s1.trans s2).trans s3)
      · walk_at "xs"
        rcases o with ⟨_, hP⟩ | ⟨h, _⟩
        · obtain ⟨dx, v', hr', hv'⟩ := hP.same s1
          refine ⟨.ref r, .ref cP, _, _, _, rfl, .own _, KC.tP.ty hr', KC.tP.self, ?_⟩
          walk_at "xs"
          have hlev := vd.level
          refine ⟨by show 2 ≤ sizeLine; decide, fun p1 n1 => ?_⟩
          have s2 := same_new (o := .lst [tv, .int (hgt (.tuple ds))]) n1
          have g1 : (L2.upd H1 p1 (.lst [tv, .int (hgt (.tuple ds))])) p1 = _ := L2.upd_same
          generalize L2.upd H1 p1 (.lst [tv, .int (hgt (.tuple ds))]) = H2 at s2 g1 ⊢
          walk_at "xs"
          refine ⟨r, cP, dx, _, v', rfl, s2 _ _ hr', KC.tP.cl, KC.tP.tree, pred_tree, ?_⟩
          walk_at "xs"
          refine ⟨.ref r, rfl, r, dx, _, rfl, s2 _ _ hr', r, dx, _, _, rfl, s2 _ _ hr', rfl, ?_⟩
          walk_at "xs"
          refine ⟨by show 2 ≤ sizeLine; decide, fun p2 n2 => ?_⟩
          rw [hlev.1]
          have s3 := same_new (o := .lst [v', .int (hgt (.tuple ds))]) n2
          have hL : ∀ p u, (p = p1 ∧ u = tv ∨ p = p2 ∧ u = v') → At (p1 + p2 + 1) (L2.upd H2 p2 (.lst [v', .int (hgt (.tuple ds))])) (.list [.tuple ds, .int (hgt (.tuple ds))]) (.ref p) := fun p u hp => by
            rcases hp with ⟨rfl, rfl⟩ | ⟨rfl, rfl⟩
            · exact ⟨p, _, rfl, (show ∀ a b : Nat, a ≠ a + b + 1 by omega) _ _, s3 _ _ g1, _, _, rfl, ((hd.same s2).same s3).any vd.noL, _, _, rfl, rfl, rfl⟩
            · exact ⟨p, _, rfl, (show ∀ a b : Nat, b ≠ a + b + 1 by omega) _ _, L2.upd_same, _, _, rfl, ((hv'.same s2).same s3).any vd.noL, _, _, rfl, rfl, rfl⟩
          walk_at "xs"
          refine i_equal (hL p1 _ (.inl ⟨rfl, rfl⟩)) (hL p2 _ (.inr ⟨rfl, rfl⟩)) ?_ fun H3 s4 => q H3 (((s1.trans s2).trans s3).trans s4)
          show (true && ((eqs (n + 1) (.tuple ds)) && (eqs (n + 1) (.int _) && true))) = true
          rw [eqs_of (n + 1) _ vd.noL vd.wid (by omega)]
          rfl
        · omega
    · cases vd with
      | @aim k e hk ve =>
        have vw : VW (.tuple [.str k, e]) := .aim hk ve
        have hn0 := hn
        walk_at "xs"
        refine i_lev hd vw.wid hn fun H1 s1 => ?_
        have hd := hd.same s1
        obtain ⟨a, xs, rfl, ha, _, _, rfl, ⟨rfl, hkl⟩, v1, _, rfl, hd1, rfl⟩ := hd
        walk_at "xs"
        refine x_tupI (SqT.of ha) (atI_nat (j := 0) rfl) ?_
        walk_at "xs"
        refine ⟨by show 2 ≤ sizeLine; decide, fun pn nn => ?_⟩
        have s2 := s1.trans (same_new (o := .tup [.str "never", .str "home"]) nn)
        have ha := (same_new (o := .tup [.str "never", .str "home"]) nn) _ _ ha
        have hd1 := hd1.same (same_new (o := .tup [.str "never", .str "home"]) nn)
        refine x_inT (l := ["never", "home"]) (SqT.of L2.upd_same) ?_
        walk_at "xs"
        generalize L2.upd H1 pn _ = H2 at s2 ha hd1 ⊢
        refine x_dec (fun _ => ?_) (fun hz => absurd (by simpa using hk) hz)
        walk_at "xs"
        refine x_tupI (SqT.of ha) (atI_nat (j := 1) rfl) ?_
        walk_at "xs"
        obtain ⟨es, rfl⟩ := ve.tup
        rw [hgt2] at hn
        refine i_lev hd1 ve.wid (by omega) fun H3 s3 => ?_
        have s2 := s2.trans s3
        have ha := s3 _ _ ha
        have hd1 := hd1.same s3
        have hlv : lvW (.tuple [.str k, .tuple es]) = hgt (.tuple es) := by
          show (if k = "never" ∨ k = "home" then _ else _) = _
          rw [if_pos hk]
        rw [hlv] at o
        walk_at "xs"
        refine x_dec (fun h40 => ?_) (fun h40 => ?_)
        · walk_at "xs"
          refine ⟨by show 3 ≤ sizeLine; decide, fun p np => ?_⟩
          have s4 := same_new (o := .tup [.str "refused", .str "TooMany", .int 40]) np
          walk_at "xs"
          rcases o with ⟨h, _⟩ | ⟨_, hR⟩
          · omega
          · exact due_eq (by decide) (s4 _ _ (s2 _ _ hR)) L2.upd_same fun H4 s5 => q H4 ((s2.trans s4).trans s5)
        walk_at "xs"
        rcases o with ⟨_, hP⟩ | ⟨h, _⟩
        rotate_left
        · omega
        have hdA : At x H3 (.tuple [.str k, .tuple es]) (.ref a) := ⟨a, _, rfl, ha, _, _, rfl, ⟨rfl, hkl⟩, _, _, rfl, hd1, rfl⟩
        obtain ⟨dx, v', hr', hv'⟩ := hP.same s2
        refine ⟨.ref r, .ref cW, _, _, _, rfl, .own _, KC.tW.ty hr', KC.tW.self, ?_⟩
        walk_at "xs"
        refine x_tupI (SqT.of ha) (atI_nat (j := 0) rfl) ?_
        walk_at "xs"
        refine ⟨by show 2 ≤ sizeLine; decide, fun p1 n1 => ?_⟩
        have s6 := same_new (o := .lst [.ref a, .str k]) n1
        have g1 : (L2.upd H3 p1 (.lst [.ref a, .str k])) p1 = _ := L2.upd_same
        generalize L2.upd H3 p1 (.lst [.ref a, .str k]) = H6 at s6 g1 ⊢
        walk_at "xs"
        refine ⟨r, cW, dx, _, v', rfl, s6 _ _ hr', KC.tW.cl, KC.tW.tree, rfl, ?_⟩
        walk_at "xs"
        refine ⟨r, cW, dx, _, .str k, rfl, s6 _ _ hr', KC.tW.cl, KC.wKind, rfl, ?_⟩
        walk_at "xs"
        refine ⟨by show 2 ≤ sizeLine; decide, fun p2 n2 => ?_⟩
        have s7 := same_new (o := .lst [v', .str k]) n2
        have hL : ∀ p u, (p = p1 ∧ u = .ref a ∨ p = p2 ∧ u = v') → At (p1 + p2 + 1) (L2.upd H6 p2 (.lst [v', .str k])) (.list [.tuple [.str k, .tuple es], .str k]) (.ref p) := fun p u hp => by
          rcases hp with ⟨rfl, rfl⟩ | ⟨rfl, rfl⟩
          · exact ⟨p, _, rfl, (show ∀ a b : Nat, a ≠ a + b + 1 by omega) _ _, s7 _ _ g1, _, _, rfl, ((hdA.same s6).same s7).any vw.noL.1, _, _, rfl, ⟨rfl, hkl⟩, rfl⟩
          · exact ⟨p, _, rfl, (show ∀ a b : Nat, b ≠ a + b + 1 by omega) _ _, L2.upd_same, _, _, rfl, ((hv'.same s6).same s7).any vw.noL.1, _, _, rfl, ⟨rfl, hkl⟩, rfl⟩
        walk_at "xs"
        refine i_equal (hL p1 _ (.inl ⟨rfl, rfl⟩)) (hL p2 _ (.inr ⟨rfl, rfl⟩)) ?_ fun H3 s8 => q H3 (((s2.trans s6).trans s7).trans s8)
        show (true && ((eqs (n + 1) (.tuple [.str k, .tuple es])) && (eqs (n + 1) (.str _) && true))) = true
        rw [eqs_of (n + 1) _ vw.noL.1 vw.wid (by omega)]
        rfl
      | @again e te =>
        have vw : VW (.tuple [.str "again", e]) := .again te
        have hn0 := hn
        walk_at "xs"
        refine i_lev hd vw.wid hn fun H1 s1 => ?_
        have hd := hd.same s1
        obtain ⟨a, xs, rfl, ha, _, _, rfl, ⟨rfl, hkl⟩, v1, _, rfl, hd1, rfl⟩ := hd
        walk_at "xs"
        refine x_tupI (SqT.of ha) (atI_nat (j := 0) rfl) ?_
        walk_at "xs"
        refine ⟨by show 2 ≤ sizeLine; decide, fun pn nn => ?_⟩
        have s2 := s1.trans (same_new (o := .tup [.str "never", .str "home"]) nn)
        have ha := (same_new (o := .tup [.str "never", .str "home"]) nn) _ _ ha
        have hd1 := hd1.same (same_new (o := .tup [.str "never", .str "home"]) nn)
        refine x_inT (l := ["never", "home"]) (SqT.of L2.upd_same) ?_
        walk_at "xs"
        generalize L2.upd H1 pn _ = H2 at s2 ha hd1 ⊢
        refine x_dec (fun hz => absurd hz (by decide +kernel)) (fun _ => ?_)
        have s3 : Same H2 H2 := Same.refl H2
        walk_at "xs"
        refine x_dec (fun h40 => by omega) (fun _ => ?_)
        walk_at "xs"
        rcases o with ⟨_, hP⟩ | ⟨h, _⟩
        rotate_left
        · exact absurd h (by show ¬ 40 < 0; decide)
        have hdA : At x H2 (.tuple [.str "again", e]) (.ref a) := ⟨a, _, rfl, ha, _, _, rfl, ⟨rfl, hkl⟩, _, _, rfl, hd1, rfl⟩
        obtain ⟨dx, v', hr', hv'⟩ := hP.same s2
        refine ⟨.ref r, .ref cW, _, _, _, rfl, .own _, KC.tW.ty hr', KC.tW.self, ?_⟩
        walk_at "xs"
        refine x_tupI (SqT.of ha) (atI_nat (j := 0) rfl) ?_
        walk_at "xs"
        refine ⟨by show 2 ≤ sizeLine; decide, fun p1 n1 => ?_⟩
        have s6 := same_new (o := .lst [.ref a, .str "again"]) n1
        have g1 : (L2.upd H2 p1 (.lst [.ref a, .str "again"])) p1 = _ := L2.upd_same
        generalize L2.upd H2 p1 (.lst [.ref a, .str "again"]) = H6 at s6 g1 ⊢
        walk_at "xs"
        refine ⟨r, cW, dx, _, v', rfl, s6 _ _ hr', KC.tW.cl, KC.tW.tree, rfl, ?_⟩
        walk_at "xs"
        refine ⟨r, cW, dx, _, .str "again", rfl, s6 _ _ hr', KC.tW.cl, KC.wKind, rfl, ?_⟩
        walk_at "xs"
        refine ⟨by show 2 ≤ sizeLine; decide, fun p2 n2 => ?_⟩
        have s7 := same_new (o := .lst [v', .str "again"]) n2
        have hL : ∀ p u, (p = p1 ∧ u = .ref a ∨ p = p2 ∧ u = v') → At (p1 + p2 + 1) (L2.upd H6 p2 (.lst [v', .str "again"])) (.list [.tuple [.str "again", e], .str "again"]) (.ref p) := fun p u hp => by
          rcases hp with ⟨rfl, rfl⟩ | ⟨rfl, rfl⟩
          · exact ⟨p, _, rfl, (show ∀ a b : Nat, a ≠ a + b + 1 by omega) _ _, s7 _ _ g1, _, _, rfl, ((hdA.same s6).same s7).any vw.noL.1, _, _, rfl, ⟨rfl, hkl⟩, rfl⟩
          · exact ⟨p, _, rfl, (show ∀ a b : Nat, b ≠ a + b + 1 by omega) _ _, L2.upd_same, _, _, rfl, ((hv'.same s6).same s7).any vw.noL.1, _, _, rfl, ⟨rfl, hkl⟩, rfl⟩
        walk_at "xs"
        refine i_equal (hL p1 _ (.inl ⟨rfl, rfl⟩)) (hL p2 _ (.inr ⟨rfl, rfl⟩)) ?_ fun H3 s8 => q H3 (((s2.trans s6).trans s7).trans s8)
        show (true && ((eqs (n + 1) (.tuple [.str "again", e])) && (eqs (n + 1) (.str _) && true))) = true
        rw [eqs_of (n + 1) _ vw.noL.1 vw.wid (by omega)]
        rfl
      | @answered e f te tf =>
        have vw : VW (.tuple [.str "answered", e, f]) := .answered te tf
        have hn0 := hn
        walk_at "xs"
        refine i_lev hd vw.wid hn fun H1 s1 => ?_
        have hd := hd.same s1
        obtain ⟨a, xs, rfl, ha, _, _, rfl, ⟨rfl, hkl⟩, v1, _, rfl, hd1, v2, _, rfl, hd2, rfl⟩ := hd
        walk_at "xs"
        refine x_tupI (SqT.of ha) (atI_nat (j := 0) rfl) ?_
        walk_at "xs"
        refine ⟨by show 2 ≤ sizeLine; decide, fun pn nn => ?_⟩
        have s2 := s1.trans (same_new (o := .tup [.str "never", .str "home"]) nn)
        have ha := (same_new (o := .tup [.str "never", .str "home"]) nn) _ _ ha
        have hd1 := hd1.same (same_new (o := .tup [.str "never", .str "home"]) nn)
        have hd2 := hd2.same (same_new (o := .tup [.str "never", .str "home"]) nn)
        refine x_inT (l := ["never", "home"]) (SqT.of L2.upd_same) ?_
        walk_at "xs"
        generalize L2.upd H1 pn _ = H2 at s2 ha hd1 hd2 ⊢
        refine x_dec (fun hz => absurd hz (by decide +kernel)) (fun _ => ?_)
        have s3 : Same H2 H2 := Same.refl H2
        walk_at "xs"
        refine x_dec (fun h40 => by omega) (fun _ => ?_)
        walk_at "xs"
        rcases o with ⟨_, hP⟩ | ⟨h, _⟩
        rotate_left
        · exact absurd h (by show ¬ 40 < 0; decide)
        have hdA : At x H2 (.tuple [.str "answered", e, f]) (.ref a) := ⟨a, _, rfl, ha, _, _, rfl, ⟨rfl, hkl⟩, _, _, rfl, hd1, _, _, rfl, hd2, rfl⟩
        obtain ⟨dx, v', hr', hv'⟩ := hP.same s2
        refine ⟨.ref r, .ref cW, _, _, _, rfl, .own _, KC.tW.ty hr', KC.tW.self, ?_⟩
        walk_at "xs"
        refine x_tupI (SqT.of ha) (atI_nat (j := 0) rfl) ?_
        walk_at "xs"
        refine ⟨by show 2 ≤ sizeLine; decide, fun p1 n1 => ?_⟩
        have s6 := same_new (o := .lst [.ref a, .str "answered"]) n1
        have g1 : (L2.upd H2 p1 (.lst [.ref a, .str "answered"])) p1 = _ := L2.upd_same
        generalize L2.upd H2 p1 (.lst [.ref a, .str "answered"]) = H6 at s6 g1 ⊢
        walk_at "xs"
        refine ⟨r, cW, dx, _, v', rfl, s6 _ _ hr', KC.tW.cl, KC.tW.tree, rfl, ?_⟩
        walk_at "xs"
        refine ⟨r, cW, dx, _, .str "answered", rfl, s6 _ _ hr', KC.tW.cl, KC.wKind, rfl, ?_⟩
        walk_at "xs"
        refine ⟨by show 2 ≤ sizeLine; decide, fun p2 n2 => ?_⟩
        have s7 := same_new (o := .lst [v', .str "answered"]) n2
        have hL : ∀ p u, (p = p1 ∧ u = .ref a ∨ p = p2 ∧ u = v') → At (p1 + p2 + 1) (L2.upd H6 p2 (.lst [v', .str "answered"])) (.list [.tuple [.str "answered", e, f], .str "answered"]) (.ref p) := fun p u hp => by
          rcases hp with ⟨rfl, rfl⟩ | ⟨rfl, rfl⟩
          · exact ⟨p, _, rfl, (show ∀ a b : Nat, a ≠ a + b + 1 by omega) _ _, s7 _ _ g1, _, _, rfl, ((hdA.same s6).same s7).any vw.noL.1, _, _, rfl, ⟨rfl, hkl⟩, rfl⟩
          · exact ⟨p, _, rfl, (show ∀ a b : Nat, b ≠ a + b + 1 by omega) _ _, L2.upd_same, _, _, rfl, ((hv'.same s6).same s7).any vw.noL.1, _, _, rfl, ⟨rfl, hkl⟩, rfl⟩
        walk_at "xs"
        refine i_equal (hL p1 _ (.inl ⟨rfl, rfl⟩)) (hL p2 _ (.inr ⟨rfl, rfl⟩)) ?_ fun H3 s8 => q H3 (((s2.trans s6).trans s7).trans s8)
        show (true && ((eqs (n + 1) (.tuple [.str "answered", e, f])) && (eqs (n + 1) (.str _) && true))) = true
        rw [eqs_of (n + 1) _ vw.noL.1 vw.wid (by omega)]
        rfl
end
end K76

set_option Elab.async false
set_option linter.all false
set_option maxRecDepth 100000
set_option maxHeartbeats 2000000
/-! what is kept -/
namespace K76
open PySem PySem.Spec PyProof.Rows L2 SX L2H HotX
local macro_rules | `(tactic| walk_at "x") => `(tactic| with_reducible first
  | refine x_seq ?_ | refine x_asg ?_ | refine x_op ?_ | refine x_cons ?_ | refine x_nil ?_ | refine x_c ?_ | refine x_name ?_ | refine x_cb ?_ | refine x_call ?_ | refine x_ret ?_ | refine x_ifS ?_
  | refine x_test ?_ | refine x_bl ?_ | refine x_I0 ?_ | refine x_sub ?_ | refine x_tup ?_ | refine x_lst ?_ | refine x_and ?_ | refine x_or ?_ | refine x_not ?_ | refine x_if ?_ | refine x_andV ?_ | refine x_orV ?_ | refine x_notV ?_
  | refine x_retN ?_ | refine x_drop ?_ | refine x_next ?_ | refine x_un ?_ | refine x_B ?_ | refine x_sl ?_ | refine x_noPart ?_ | refine x_part ?_ | refine x_chain ?_ | refine x_int ?_
  | refine x_eqI ?_ | refine x_eqS ?_ | refine x_neI ?_ | refine x_neS ?_ | refine x_eqB ?_ | refine x_neB ?_ | refine x_toI ?_ | refine x_absI ?_ | refine x_mx2 ?_ | refine x_M1 ?_ | refine x_isS ?_ | refine iteT ?_ | refine iteF ?_ | refine x_lc ?_ | refine x_for ?_ | refine x_rng1 ?_ | refine x_iList ?_ | refine x_iTup ?_ | refine x_yes ?_ | refine x_iStr ?_ | refine x_gcons ?_ | refine x_gnil ?_ | refine x_neg ?_ | refine x_sfld ?_ | refine x_tfld ?_ | refine x_make ?_ | refine x_bm ?_)
local macro_rules | `(tactic| walk_at "xs") => `(tactic| repeat (first | walk_at "x" | ((with_reducible show tVar _ _ _ _); refine x_var rfl ?_)))
theorem not_store {S : Sto} {H : Hp} {r C dx : Addr} {fs : List (Str × V)} (h : StoreAt H S) (e : H r = some (.ins C dx fs)) : r ≠ S.a := fun z => by
  obtain ⟨ns, x1, x2, x3, x4, x5, h1, _⟩ := h
  rw [z, h1] at e
  cases e
theorem not_storeT {S : Sto} {H : Hp} {r : Addr} {xs : List V} (h : StoreAt H S) (e : H r = some (.tup xs)) : r ≠ S.a := fun z => by
  obtain ⟨ns, x1, x2, x3, x4, x5, h1, _⟩ := h
  rw [z, h1] at e
  cases e
theorem PredAt.ext {S : Sto} {cP : Addr} {H H' : Hp} {r : Addr} {d : PyData} (h : PredAt cP S.a H r d) (hs : StoreAt H S) (e : Ext S H H') : PredAt cP S.a H' r d := by
  obtain ⟨dx, v, hr, hd⟩ := h
  exact ⟨dx, v, e.keep _ _ (not_store hs hr) hr, hd.ext hs e⟩
theorem WishAt.ext {S : Sto} {cW : Addr} {H H' : Hp} {r : Addr} {d : PyData} (h : WishAt cW S.a H r d) (hs : StoreAt H S) (e : Ext S H H') : WishAt cW S.a H' r d := by
  obtain ⟨dx, v, hr, hd⟩ := h
  exact ⟨dx, v, e.keep _ _ (not_store hs hr) hr, hd.ext hs e⟩
theorem VT.sh {d : PyData} (h : VT d) (l : hgt d ≤ 60) : SeqAt.shaped d = true := shaped_of h.noL h.lay (by omega)
/-- trees and their objects, as they lie -/
structure TP (cP : Addr) (S : Sto) (H : Hp) (Tr Pr : Addr) (ds : List PyData) (vs : List V) (rs : List Addr) : Prop where
  trn : Tr ≠ S.a
  prn : Pr ≠ S.a
  tr : H Tr = some (.lst vs)
  all : AtAll S.a H ds vs
  pr : H Pr = some (.lst (rs.map V.ref))
  len : rs.length = ds.length
  lb : 1 ≤ ds.length ∧ ds.length ≤ 20
  vt : ∀ d ∈ ds, VT d ∧ hgt d ≤ 40
  ok : ∀ (i : Nat) d r, ds[i]? = some d → rs[i]? = some r → PredAt cP S.a H r d
theorem TP.ext {cP : Addr} {S : Sto} {H H' : Hp} {Tr Pr : Addr} {ds : List PyData} {vs : List V} {rs : List Addr} (h : TP cP S H Tr Pr ds vs rs) (hs : StoreAt H S) (e : Ext S H H') : TP cP S H' Tr Pr ds vs rs :=
  ⟨h.trn, h.prn, e.keep _ _ h.trn h.tr, h.all.ext hs e, e.keep _ _ h.prn h.pr, h.len, h.lb, h.vt, fun i d r h1 h2 => (h.ok i d r h1 h2).ext hs e⟩
theorem TP.at_ {cP : Addr} {S : Sto} {H : Hp} {Tr Pr : Addr} {ds : List PyData} {vs : List V} {rs : List Addr} (h : TP cP S H Tr Pr ds vs rs) {i : Int} (h0 : 0 ≤ i) (h1 : i < ds.length) : ∃ d v r, ds[i.toNat]? = some d ∧ vs[i.toNat]? = some v ∧ rs[i.toNat]? = some r ∧ At S.a H d v ∧ PredAt cP S.a H r d ∧ VT d ∧ hgt d ≤ 40 := by
  obtain ⟨d, hd⟩ : ∃ d, ds[i.toNat]? = some d := ⟨_, List.getElem?_eq_getElem (by omega)⟩
  obtain ⟨r, hr⟩ : ∃ r, rs[i.toNat]? = some r := ⟨_, List.getElem?_eq_getElem (by rw [h.len]; omega)⟩
  obtain ⟨v, hv, ha⟩ := h.all.get hd
  have := h.vt d (List.mem_of_getElem? hd)
  exact ⟨d, v, r, hd, hv, hr, ha, h.ok _ _ _ hd hr, this.1, this.2⟩
/-- wishes as they lie -/
structure WS (S : Sto) (H : Hp) (Ws : Addr) (es : List PyData) (us : List V) : Prop where
  wn : Ws ≠ S.a
  ws : H Ws = some (.lst us)
  all : AtAll S.a H es us
  lb : 1 ≤ es.length ∧ es.length ≤ 20
  ok : ∀ d ∈ es, VW d ∧ lvW d ≤ 40 ∧ hgt d ≤ 41
theorem WS.ext {S : Sto} {H H' : Hp} {Ws : Addr} {es : List PyData} {us : List V} (h : WS S H Ws es us) (hs : StoreAt H S) (e : Ext S H H') : WS S H' Ws es us :=
  ⟨h.wn, e.keep _ _ h.wn h.ws, h.all.ext hs e, h.lb, h.ok⟩
theorem WS.at_ {S : Sto} {H : Hp} {Ws : Addr} {es : List PyData} {us : List V} (h : WS S H Ws es us) {i : Int} (h0 : 0 ≤ i) (h1 : i < es.length) : ∃ d v, es[i.toNat]? = some d ∧ us[i.toNat]? = some v ∧ At S.a H d v ∧ VW d ∧ lvW d ≤ 40 ∧ hgt d ≤ 41 := by
  obtain ⟨d, hd⟩ : ∃ d, es[i.toNat]? = some d := ⟨_, List.getElem?_eq_getElem (by omega)⟩
  obtain ⟨v, hv, ha⟩ := h.all.get hd
  have := h.ok d (List.mem_of_getElem? hd)
  exact ⟨d, v, hd, hv, ha, this.1, this.2.1, this.2.2⟩
section
variable {P : Program} {w : World} {K : PySem.W.Frag} {mg : Str → Option Value} {base : Heap} {cP cW cB cT cO : Addr}
theorem eqv_pp {x : Addr} {H : Hp} {a b : Addr} {d e : PyData} (hd : PredAt cP x H a d) (he : PredAt cP x H b e) (vd : VT d) (ve : VT e) (ld : hgt d ≤ 40) (le : hgt e ≤ 40) : CmpV K cP cW x H (.ref a) (.ref b) (PyData.eqv d e) := by
  obtain ⟨dx, v, ha, hv⟩ := hd
  obtain ⟨dy, u, hb, hu⟩ := he
  refine ⟨a, rfl, .inl ⟨⟨dx, _, v, d, ha, pred_tree, hv, vd.noL, vd.sh (by omega), .inl ⟨b, dy, _, u, e, rfl, hb, pred_tree, hu, ve.noL, ve.sh (by omega), rfl⟩⟩, .inl ⟨b, rfl, .inl ?_⟩⟩⟩
  rw [PySem.W.eqv_comm d e]
  exact ⟨dy, _, u, e, hb, pred_tree, hu, ve.noL, ve.sh (by omega), .inl ⟨a, dx, _, v, d, rfl, ha, pred_tree, hv, vd.noL, vd.sh (by omega), rfl⟩⟩
/-- a Pred against something else -/
theorem eqv_po (KC : Kc P K mg cP cW cB cT cO) {x : Addr} {H : Hp} {a : Addr} {d : PyData} {y : V} {T : String} (hd : PredAt cP x H a d) (vd : VT d) (ld : hgt d ≤ 40) (lo : LowV H y) (ty : TyX K H y (.type T)) (hT : T ∈ (["NoneType", "bool", "int", "str", "list", "tuple"] : List String)) : CmpV K cP cW x H (.ref a) y false := by
  obtain ⟨dx, v, ha, hv⟩ := hd
  exact ⟨a, rfl, .inl ⟨⟨dx, _, v, d, ha, pred_tree, hv, vd.noL, vd.sh (by omega), .inr ⟨_, ty, KC.tP.nk T (List.mem_append_left ["dict"] hT), KC.tP.nf T hT, rfl⟩⟩, .inr lo⟩⟩
theorem eqv_wo (KC : Kc P K mg cP cW cB cT cO) {x : Addr} {H : Hp} {a : Addr} {d : PyData} {y : V} {T : String} (hd : WishAt cW x H a d) (vd : VW d) (ld : hgt d ≤ 41) (lo : LowV H y) (ty : TyX K H y (.type T)) (hT : T ∈ (["NoneType", "bool", "int", "str", "list", "tuple"] : List String)) : CmpV K cP cW x H (.ref a) y false := by
  obtain ⟨dx, v, ha, hv⟩ := hd
  exact ⟨a, rfl, .inr ⟨⟨dx, _, v, d, ha, rfl, hv, vd.noL.1, shaped_of vd.noL.1 vd.noL.2 (by omega), .inr ⟨_, ty, KC.tW.nk T (List.mem_append_left ["dict"] hT), KC.tW.nf T hT, rfl⟩⟩, .inr lo⟩⟩
theorem eqv_pw (KC : Kc P K mg cP cW cB cT cO) {x : Addr} {H : Hp} {a b : Addr} {d e : PyData} (hd : PredAt cP x H a d) (he : WishAt cW x H b e) (vd : VT d) (ve : VW e) (ld : hgt d ≤ 40) (le : hgt e ≤ 41) : CmpV K cP cW x H (.ref a) (.ref b) false := by
  obtain ⟨dx, v, ha, hv⟩ := hd
  obtain ⟨dy, u, hb, hu⟩ := he
  refine ⟨a, rfl, .inl ⟨⟨dx, _, v, d, ha, pred_tree, hv, vd.noL, vd.sh (by omega), .inr ⟨_, KC.tW.ty hb, KC.kWP, KC.nPW, rfl⟩⟩, .inl ⟨b, rfl, .inr ?_⟩⟩⟩
  exact ⟨dy, _, u, e, hb, rfl, hu, ve.noL.1, shaped_of ve.noL.1 ve.noL.2 (by omega), .inr ⟨_, KC.tP.ty ha, KC.kPW, KC.nWP, rfl⟩⟩
theorem eqv_ww {x : Addr} {H : Hp} {a b : Addr} {d e : PyData} (hd : WishAt cW x H a d) (he : WishAt cW x H b e) (vd : VW d) (ve : VW e) (ld : hgt d ≤ 41) (le : hgt e ≤ 41) : CmpV K cP cW x H (.ref a) (.ref b) (PyData.eqv d e) := by
  obtain ⟨dx, v, ha, hv⟩ := hd
  obtain ⟨dy, u, hb, hu⟩ := he
  have sd := shaped_of vd.noL.1 vd.noL.2 (by omega)
  have se := shaped_of ve.noL.1 ve.noL.2 (by omega)
  refine ⟨a, rfl, .inr ⟨⟨dx, _, v, d, ha, rfl, hv, vd.noL.1, sd, .inl ⟨b, dy, _, u, e, rfl, hb, rfl, hu, ve.noL.1, se, rfl⟩⟩, .inl ⟨b, rfl, .inr ?_⟩⟩⟩
  rw [PySem.W.eqv_comm d e]
  exact ⟨dy, _, u, e, hb, rfl, hu, ve.noL.1, se, .inl ⟨a, dx, _, v, d, rfl, ha, rfl, hv, vd.noL.1, sd, rfl⟩⟩
theorem outP_ok {x : Addr} {d : PyData} {H : Hp} {Q : VK} {E : XK} (vd : VT d) (l : hgt d ≤ 40) (q : ∀ H' r, Same H H' → PredAt cP x H' r d → Q (.ref r) H') : OutP cP cB cT x d H Q E := by
  have := vd.level
  exact ⟨fun z => by omega, fun z => by omega, fun _ _ => q⟩
theorem outW_ok {x : Addr} {d : PyData} {H : Hp} {Q : VK} {E : XK} (vd : VW d) (l : lvW d ≤ 40) (q : ∀ H' r, Same H H' → WishAt cW x H' r d → Q (.ref r) H') : OutW cW cB cT x d H Q E := by
  have := vd.level
  exact ⟨fun z => by omega, fun z => by omega, fun _ _ => q⟩
theorem i_PredR {x : Addr} {d : PyData} {v : V} {n : Nat} {H : Hp} {R : Addr → Hp → Prop} {E : XK} (hd : At x H d v) (hn : hgt d < n) (vd : VT d) (l : hgt d ≤ 40) (q : ∀ r H', Same H H' → PredAt cP x H' r d → R r H') :
    ∀ a dx, H a = none → H dx = none → dx ≠ a → spPi cP cB cT n (.ref a :: ([v] ++ [])) (L2.upd (L2.upd H dx (.own a)) a (.ins cP dx [])) (fun v H2 => v = .non ∧ R a H2) E := fun a dx na nd ne => by
  have s1 : Same H (L2.upd (L2.upd H dx (.own a)) a (.ins cP dx [])) := fun b u e => by
    rw [L2.upd_ne (ne_of_none e na), L2.upd_ne (ne_of_none e nd)]
    exact e
  have := vd.level
  refine ⟨x, d, v, a, dx, rfl, hd.same s1, L2.upd_same, hn, fun z => by omega, fun z => by omega, fun l l' H' k e => ⟨rfl, ?_⟩⟩
  have s2 : Same H H' := fun b u z => k b u (ne_of_none z na) (s1 b u z)
  exact q a H' s2 ⟨dx, v, e, hd.same s2⟩
theorem i_WishR {x : Addr} {d : PyData} {v : V} {n : Nat} {H : Hp} {R : Addr → Hp → Prop} {E : XK} (hd : At x H d v) (hn : hgt d ≤ n) (vd : VW d) (l : lvW d ≤ 40) (q : ∀ r H', Same H H' → WishAt cW x H' r d → R r H') :
    ∀ a dx, H a = none → H dx = none → dx ≠ a → spWi cW cB cT n (.ref a :: ([v] ++ [])) (L2.upd (L2.upd H dx (.own a)) a (.ins cW dx [])) (fun v H2 => v = .non ∧ R a H2) E := fun a dx na nd ne => by
  have s1 : Same H (L2.upd (L2.upd H dx (.own a)) a (.ins cW dx [])) := fun b u e => by
    rw [L2.upd_ne (ne_of_none e na), L2.upd_ne (ne_of_none e nd)]
    exact e
  have := vd.level
  refine ⟨x, d, v, a, dx, rfl, hd.same s1, L2.upd_same, hn, fun z => by omega, fun z => by omega, fun l l' H' k e => ⟨rfl, ?_⟩⟩
  have s2 : Same H H' := fun b u z => k b u (ne_of_none z na) (s1 b u z)
  exact q a H' s2 ⟨dx, v, e, hd.same s2⟩
def spKept (cP : Addr) : Sp := fun vs H Q _ => ∃ (S : Sto) (Tr Pr Ws : Addr) (ds : List PyData) (us : List V) (rs : List Addr) (es : List PyData) (ws : List V), vs = [.ref S.a, .ref Tr, .ref Pr, .ref Ws] ∧ TP cP S H Tr Pr ds us rs ∧ WS S H Ws es ws ∧ StoreAt H S ∧ ∀ H', Ext S H H' → Q (.bl true) H'
theorem k_kept {n : Nat} (h50 : 50 ≤ n) (T : Nm K mg) (KC : Kc P K mg cP cW cB cT cO) (F : FnX K mg "_law_kept" s_law_kept ["store", "trees", "preds", "wishes"]) (c_Pred : MakN P w K mg base (4 + n + 1) "Pred" cP ["self", "tree"] (spPi cP cB cT n)) (c_Wish : MakN P w K mg base (4 + n + 1 + 1) "Wish" cW ["self", "tree"] (spWi cW cB cT n))
    (c_law_take : CalK P w K mg base 2 "_law_take" spTake) (c_law_pick : CalK P w K mg base 3 "_law_pick" (spPick K)) (c_law_twisted : CalK P w K mg base (3 + n) "_law_twisted" (spTwi n)) (c_law_fits : CalK P w K mg base (n + 3 + 1) "_law_fits" (spFits cP cW n)) (c_law_compared : CalK P w K mg base 4 "_law_compared" (spCmp K cP cW))
    (c_law_new : CalK P w K mg base (4 + n + 3 + 1) "_law_new" (spNew cP cW n)) : CalK P w K mg base (4 + n + 3 + 1 + 1) "_law_kept" (spKept cP) := by
  refine cal_of F sc_law_kept (fun vs H Q E h => ?_) (fun f cdv A outer s H vs Q E hr h => ?_)
  · obtain ⟨S, Tr, Pr, Ws, ds, us, rs, es, ws, rfl, _⟩ := h
    rfl
  · obtain ⟨S, Tr, Pr, Ws, ds, us, rs, es, ws, rfl, tp, wv, hs, q⟩ := h
    have hx : ∀ {X : Cx}, Passes (L2N.CX X.prog X.w) X E0 := passN0
    refine ⟨_, (pss_cons (ps_for PassesOwn.never rfl (pi_range1 (by rfl) T.n_range (pa_cons (pe_callB cx_len (by rfl) T.n_len (by decide +kernel) (pa_cons (pv 1) pa_nil)) pa_nil)) (pg_name (i := 4) sc_law_kept.nd rfl (Or.inl rfl)) (pss_cons (ps_set (i := 5) sc_law_kept.nd rfl (Or.inl rfl) (C8.pe_c c_law_twisted hr (by omega) (by rfl) (pa_cons (pv 0) (pa_cons (pe_ix (r := rIxL K) ix_list (pv 1) (pv 4) (fun _ _ => rfl)) pa_nil))))
      (pss_cons (ps_set (i := 6) sc_law_kept.nd rfl (Or.inl rfl) (C8.pe_c c_law_take hr (by omega) (by rfl) (pa_cons (pv 0) (pa_cons (pe_callB cx_len (by rfl) T.n_len (by decide +kernel) (pa_cons (pv 1) pa_nil)) pa_nil))))
      (pss_cons (ps_if (pt_not (pt_val (C8.pe_c c_law_fits hr (by omega) (by rfl) (pa_cons (pe_ix (r := rIxL K) ix_list (pv 2) (pv 4) (fun _ _ => rfl)) (pa_cons (pe_ix (r := rIxL K) ix_list (pv 1) (pv 4) (fun _ _ => rfl)) (pa_cons pe_bl pa_nil)))))) (pss_one (ps_ret pe_bl)) pss_nil)
      (pss_cons (ps_if (pt_not (pt_val (C8.pe_c c_law_compared hr (by omega) (by rfl) (pa_cons (pe_ix (r := rIxL K) ix_list (pv 2) (pv 4) (fun _ _ => rfl)) (pa_cons (pe_ix (r := rIxL K) ix_list (pv 2) (pv 6) (fun _ _ => rfl)) (pa_cons (pe_cmpR (op_eqD hr.units) (pe_ix (r := rIxL K) ix_list (pv 1) (pv 4) (fun _ _ => rfl)) (pe_ix (r := rIxL K) ix_list (pv 1) (pv 6) (fun _ _ => rfl)) (nomark _)) pa_nil)))))) (pss_one (ps_ret pe_bl)) pss_nil)
      (pss_cons (ps_if (pt_not (pt_val (C8.pe_c c_law_compared hr (by omega) (by rfl) (pa_cons (pe_ix (r := rIxL K) ix_list (pv 2) (pv 4) (fun _ _ => rfl)) (pa_cons (pe_mkN c_Pred hr (by omega) hx (by rfl) (pa_cons (pv 5) pa_nil)) (pa_cons (pe_cmpR (op_eqD hr.units) (pe_ix (r := rIxL K) ix_list (pv 1) (pv 4) (fun _ _ => rfl)) (pv 5) (nomark _)) pa_nil)))))) (pss_one (ps_ret pe_bl)) pss_nil)
      (pss_cons (ps_if (pt_not (pt_val (C8.pe_c c_law_compared hr (by omega) (by rfl) (pa_cons (pe_ix (r := rIxL K) ix_list (pv 2) (pv 4) (fun _ _ => rfl)) (pa_cons (pe_mkN c_Pred hr (by omega) hx (by rfl) (pa_cons (pe_ix (r := rIxL K) ix_list (pv 1) (pv 4) (fun _ _ => rfl)) pa_nil)) (pa_cons pe_bl pa_nil)))))) (pss_one (ps_ret pe_bl)) pss_nil)
      (pss_cons (ps_set (i := 7) sc_law_kept.nd rfl (Or.inl rfl) (C8.pe_c c_law_pick hr (by omega) (by rfl) (pa_cons (pv 0) (pa_cons (pe_lst (pa_cons pe_non (pa_cons (pe_ix (r := rIxL K) ix_list (pv 1) (pv 4) (fun _ _ => rfl)) (pa_cons pe_int (pa_cons pe_str (pa_cons (pe_mkN c_Wish hr (by omega) hx (by rfl) (pa_cons (pe_tup (pa_cons pe_str (pa_cons (pe_ix (r := rIxL K) ix_list (pv 1) (pv 4) (fun _ _ => rfl)) pa_nil))) pa_nil)) (pa_cons (pe_callTy cx_list (by rfl) T.n_list (by decide +kernel) (pa_cons (pe_ix (r := rIxL K) ix_list (pv 1) (pv 4) (fun _ _ => rfl)) pa_nil)) (pa_cons pe_bl pa_nil)))))))) pa_nil))))
      (pss_one (ps_if (pt_not (pt_val (C8.pe_c c_law_compared hr (by omega) (by rfl) (pa_cons (pe_ix (r := rIxL K) ix_list (pv 2) (pv 4) (fun _ _ => rfl)) (pa_cons (pv 7) (pa_cons pe_bl pa_nil)))))) (pss_one (ps_ret pe_bl)) pss_nil))))))))))
      (pss_cons (ps_for PassesOwn.never rfl (pi_range1 (by rfl) T.n_range (pa_cons (pe_callB cx_len (by rfl) T.n_len (by decide +kernel) (pa_cons (pv 3) pa_nil)) pa_nil)) (pg_name (i := 4) sc_law_kept.nd rfl (Or.inl rfl)) (pss_cons (ps_for PassesOwn.never rfl (pi_range1 (by rfl) T.n_range (pa_cons (pe_callB cx_len (by rfl) T.n_len (by decide +kernel) (pa_cons (pv 3) pa_nil)) pa_nil)) (pg_name (i := 6) sc_law_kept.nd rfl (Or.inl rfl)) (pss_one (ps_if (pt_not (pt_val (C8.pe_c c_law_compared hr (by omega) (by rfl) (pa_cons (pe_mkN c_Wish hr (by omega) hx (by rfl) (pa_cons (pe_ix (r := rIxL K) ix_list (pv 3) (pv 4) (fun _ _ => rfl)) pa_nil)) (pa_cons (pe_mkN c_Wish hr (by omega) hx (by rfl) (pa_cons (pe_ix (r := rIxL K) ix_list (pv 3) (pv 6) (fun _ _ => rfl)) pa_nil)) (pa_cons (pe_cmpR (op_eqD hr.units) (pe_ix (r := rIxL K) ix_list (pv 3) (pv 4) (fun _ _ => rfl)) (pe_ix (r := rIxL K) ix_list (pv 3) (pv 6) (fun _ _ => rfl)) (nomark _)) pa_nil)))))) (pss_one (ps_ret pe_bl)) pss_nil)))
      (pss_cons (ps_if (pt_not (pt_val (C8.pe_c c_law_fits hr (by omega) (by rfl) (pa_cons (C8.pe_c c_law_new hr (by omega) (by rfl) (pa_cons (pe_ix (r := rIxL K) ix_list (pv 3) (pv 4) (fun _ _ => rfl)) (pa_cons pe_bl pa_nil))) (pa_cons (pe_ix (r := rIxL K) ix_list (pv 3) (pv 4) (fun _ _ => rfl)) (pa_cons pe_bl pa_nil)))))) (pss_one (ps_ret pe_bl)) pss_nil)
      (pss_one (ps_if (pt_not (pt_val (C8.pe_c c_law_compared hr (by omega) (by rfl) (pa_cons (pe_mkN c_Wish hr (by omega) hx (by rfl) (pa_cons (pe_ix (r := rIxL K) ix_list (pv 3) (pv 4) (fun _ _ => rfl)) pa_nil)) (pa_cons (pe_ix (r := rIxL K) ix_list (pv 3) (pv 4) (fun _ _ => rfl)) (pa_cons pe_bl pa_nil)))))) (pss_one (ps_ret pe_bl)) pss_nil)))))
      (pss_one (ps_ret pe_bl)))), ?_⟩
    have lv := tp.all.length
    have lw := wv.all.length
    have lb := tp.lb
    have wb := wv.lb
    walk_at "xs"
    refine x_lenL (SqL.of tp.tr) ?_
    walk_at "xs"
    refine ⟨us.length, rfl, by omega, by omega, for_range (lo := 0) (n := us.length) (fun i σ' H' => (∃ y1 y2 y3 y4, σ' = [some (.ref S.a), some (.ref Tr), some (.ref Pr), some (.ref Ws), y1, y2, y3, y4]) ∧ Ext S H H') ?_ ?_ ?_⟩
    · exact ⟨⟨_, _, _, _, rfl⟩, Ext.refl hs⟩
    · rintro i σ' H1 hi ⟨⟨y1, y2, y3, y4, rfl⟩, e1⟩
      have tp1 := tp.ext hs e1
      obtain ⟨d, v, r, hd, hv, hr', hda, hpa, vd, ld⟩ := tp1.at_ (i := 0 + (i : Int)) (by omega) (by omega)
      walk_at "xs"
      refine x_lstI (SqL.of tp1.tr) (atI_int (by omega) hv) ?_
      walk_at "xs"
      refine i_twi (d := d) e1.st hda vd (by omega) fun nv nd H2 e2 vn hn hna => ?_
      have tp2 := tp1.ext e1.st e2
      have hda := hda.ext e1.st e2
      have hpa := hpa.ext e1.st e2
      have e2 := e1.trans e2
      walk_at "xs"
      refine x_lenL (SqL.of tp2.tr) ?_
      walk_at "xs"
      refine i_take (by omega) e2.st fun a H3 e3 z0 z1 => ?_
      have ha : 0 ≤ a ∧ a < us.length := take_ix (by omega) z0 z1
      have tp3 := tp2.ext e2.st e3
      have hda := hda.ext e2.st e3
      have hna := hna.ext e2.st e3
      have hpa := hpa.ext e2.st e3
      have e3 := e2.trans e3
      obtain ⟨d2, v2, r2, hd2, hv2, hr2, hda2, hpa2, vd2, ld2⟩ := tp3.at_ (i := a) ha.1 (by omega)
      have vn' : hgt nd ≤ 40 := by omega
      walk_at "xs"
      refine x_lstI (SqL.of tp3.pr) (atI_map (by omega) hr') ?_
      walk_at "xs"
      refine x_lstI (SqL.of tp3.tr) (atI_int (by omega) hv) ?_
      walk_at "xs"
      refine i_fitsP (by omega) hda vd (.inl ⟨ld, hpa⟩) fun H4 s4 => ?_
      have tp4 := tp3.ext e3.st (Ext.same e3.st s4)
      have hda := hda.same s4
      have hda2 := hda2.same s4
      have hna := hna.same s4
      have hpa := hpa.same s4
      have hpa2 := hpa2.same s4
      have e4 := e3.trans (Ext.same e3.st s4)
      walk_at "xs"
      refine iteF ?_
      walk_at "xs"
      refine x_lstI (SqL.of tp4.pr) (atI_map (by omega) hr') ?_
      walk_at "xs"
      refine x_lstI (SqL.of tp4.pr) (atI_map ha.1 hr2) ?_
      walk_at "xs"
      refine x_lstI (SqL.of tp4.tr) (atI_int (by omega) hv) ?_
      walk_at "xs"
      refine x_lstI (SqL.of tp4.tr) (atI_int ha.1 hv2) ?_
      walk_at "xs"
      refine ⟨d, d2, hda.dp vd.noL, hda2.dp vd2.noL, vd.sh (by omega), vd2.sh (by omega), ?_⟩
      walk_at "xs"
      refine i_cmp (eqv_pp hpa hpa2 vd vd2 ld ld2) fun H5 s5 => ?_
      have tp5 := tp4.ext e4.st (Ext.same e4.st s5)
      have hda := hda.same s5
      have hna := hna.same s5
      have hpa := hpa.same s5
      have e5 := e4.trans (Ext.same e4.st s5)
      walk_at "xs"
      refine iteF ?_
      walk_at "xs"
      refine x_lstI (SqL.of tp5.pr) (atI_map (by omega) hr') ?_
      walk_at "xs"
      refine i_PredR (n := n) hna (by omega) vn vn' fun rn H6 s6 hpn => ?_
      have tp6 := tp5.ext e5.st (Ext.same e5.st s6)
      have hda := hda.same s6
      have hna := hna.same s6
      have hpa := hpa.same s6
      have e6 := e5.trans (Ext.same e5.st s6)
      walk_at "xs"
      refine x_lstI (SqL.of tp6.tr) (atI_int (by omega) hv) ?_
      walk_at "xs"
      refine ⟨d, nd, hda.dp vd.noL, hna.dp vn.noL, vd.sh (by omega), vn.sh (by omega), ?_⟩
      walk_at "xs"
      refine i_cmp (eqv_pp hpa hpn vd vn ld vn') fun H7 s7 => ?_
      have tp7 := tp6.ext e6.st (Ext.same e6.st s7)
      have hda := hda.same s7
      have hpa := hpa.same s7
      have e7 := e6.trans (Ext.same e6.st s7)
      walk_at "xs"
      refine iteF ?_
      walk_at "xs"
      refine x_lstI (SqL.of tp7.pr) (atI_map (by omega) hr') ?_
      walk_at "xs"
      refine x_lstI (SqL.of tp7.tr) (atI_int (by omega) hv) ?_
      walk_at "xs"
      refine i_PredR (n := n) hda (by omega) vd ld fun r8 H8 s8 hp8 => ?_
      have tp8 := tp7.ext e7.st (Ext.same e7.st s8)
      have hda := hda.same s8
      have hpa := hpa.same s8
      have e8 := e7.trans (Ext.same e7.st s8)
      have hself := eqv_pp (K := K) (cW := cW) hpa hp8 vd vd ld ld
      rw [PySem.SeqAt.eqv_refl d vd.lay] at hself
      walk_at "xs"
      refine i_cmp hself fun H9 s9 => ?_
      have tp9 := tp8.ext e8.st (Ext.same e8.st s9)
      have hda := hda.same s9
      have hpa := hpa.same s9
      have e9 := e8.trans (Ext.same e8.st s9)
      walk_at "xs"
      refine iteF ?_
      walk_at "xs"
      refine x_lstI (SqL.of tp9.tr) (atI_int (by omega) hv) ?_
      walk_at "xs"
      refine x_lstI (SqL.of tp9.tr) (atI_int (by omega) hv) ?_
      walk_at "xs"
      refine ⟨by show 2 ≤ sizeLine; decide, fun p1 n1 => ?_⟩
      have s10 := same_new (o := .tup [.str "never", v]) n1
      have g10 : (L2.upd H9 p1 (.tup [.str "never", v])) p1 = _ := L2.upd_same
      have tp10 := tp9.ext e9.st (Ext.same e9.st s10)
      have hda := hda.same s10
      have hpa := hpa.same s10
      have e10 := e9.trans (Ext.same e9.st s10)
      generalize L2.upd H9 p1 (.tup [.str "never", v]) = H10 at s10 g10 tp10 hda hpa e10 ⊢
      have vw : VW (.tuple [.str "never", d]) := .aim (.inl rfl) vd
      have lvw : lvW (.tuple [.str "never", d]) ≤ 40 := by
        show (if ("never" : Str) = "never" ∨ ("never" : Str) = "home" then hgt d else 0) ≤ 40
        rw [if_pos (.inl rfl)]
        exact ld
      walk_at "xs"
      refine i_WishR (n := n) (x := S.a) (d := .tuple [.str "never", d]) ⟨p1, _, rfl, g10, _, _, rfl, ⟨rfl, by decide⟩, _, _, rfl, hda, rfl⟩ (by rw [hgt2]; omega) vw lvw fun r11 H11 s11 hw11 => ?_
      have tp11 := tp10.ext e10.st (Ext.same e10.st s11)
      have hda := hda.same s11
      have hpa := hpa.same s11
      have e11 := e10.trans (Ext.same e10.st s11)
      walk_at "xs"
      refine x_lstI (SqL.of tp11.tr) (atI_int (by omega) hv) ?_
      walk_at "xs"
      obtain ⟨ta, txs, rfl, hta, htx⟩ : ∃ ta txs, v = .ref ta ∧ H11 ta = some (.tup txs) ∧ True := by
        obtain ⟨es', rfl⟩ := vd.tup
        obtain ⟨ta, txs, e, hta, _⟩ := hda
        exact ⟨ta, txs, e, hta, trivial⟩
      refine x_toLT (SqT.of hta) fun l nl => ?_
      have s12 := same_new (o := .lst txs) nl
      have g12 : (L2.upd H11 l (.lst txs)) l = _ := L2.upd_same
      have hpa := hpa.same s12
      have hw12 := hw11.same s12
      have hta := s12 _ _ hta
      have e12 := e11.trans (Ext.same e11.st s12)
      generalize L2.upd H11 l (.lst txs) = H12 at s12 g12 hpa hw12 hta e12 ⊢
      walk_at "xs"
      refine ⟨by show 7 ≤ sizeLine; decide, fun po no => ?_⟩
      have s13 := same_new (o := .lst [.non, .ref ta, .int 0, .str "", .ref r11, .ref l, .bl true]) no
      have g13 : (L2.upd H12 po (.lst [.non, .ref ta, .int 0, .str "", .ref r11, .ref l, .bl true])) po = _ := L2.upd_same
      have fo := (e12.st.free no).1
      have hpa := hpa.same s13
      have hw13 := hw12.same s13
      have hta := s13 _ _ hta
      have g12 := s13 _ _ g12
      have e13 := e12.trans (Ext.same e12.st s13)
      have tp13 := tp.ext hs e13
      generalize L2.upd H12 po (.lst [.non, .ref ta, .int 0, .str "", .ref r11, .ref l, .bl true]) = H13 at s13 g13 hpa hw13 hta g12 e13 tp13 ⊢
      walk_at "xs"
      refine i_pick e13.st g13 (fun j ov H14 e14 hov => ?_) fo (by show 0 < 7; decide) (by show 7 < 1000000; decide)
      have hpa := hpa.ext e13.st e14
      have hw14 := hw13.ext e13.st e14
      have hta := e14.keep _ _ (not_storeT e13.st hta) hta
      have fl : l ≠ S.a := fun z => by
        have := e11.st.free nl
        exact this.1 z
      have g12 := e14.keep _ _ fl g12
      have tp14 := tp13.ext e13.st e14
      have e14 := e13.trans e14
      have hcmp : CmpV K cP cW S.a H14 (.ref r) ov false := by
        match j, hov with
        | 0, hov =>
          obtain rfl := Option.some.inj hov
          exact eqv_po KC hpa vd ld .non (.base .non) (by decide)
        | 1, hov =>
          obtain rfl := Option.some.inj hov
          exact eqv_po KC hpa vd ld (.tup hta) (.base (.tup hta)) (by decide)
        | 2, hov =>
          obtain rfl := Option.some.inj hov
          exact eqv_po KC hpa vd ld (.int 0) (.base (.int 0)) (by decide)
        | 3, hov =>
          obtain rfl := Option.some.inj hov
          exact eqv_po KC hpa vd ld (.str _) (.base (.str _)) (by decide)
        | 4, hov =>
          obtain rfl := Option.some.inj hov
          exact eqv_pw KC hpa hw14 vd vw ld (by rw [hgt2]; omega)
        | 5, hov =>
          obtain rfl := Option.some.inj hov
          exact eqv_po KC hpa vd ld (.lst g12) (.base (.lst g12)) (by decide)
        | 6, hov =>
          obtain rfl := Option.some.inj hov
          exact eqv_po KC hpa vd ld (.bl true) (.base (.bl true)) (by decide)
        | j + 7, hov => simp at hov
      walk_at "xs"
      refine x_lstI (SqL.of tp14.pr) (atI_map (by omega) hr') ?_
      walk_at "xs"
      refine i_cmp hcmp fun H15 s15 => ?_
      walk_at "xs"
      refine iteF ?_
      walk_at "xs"
      exact ⟨⟨_, _, _, _, rfl⟩, e14.trans (Ext.same e14.st s15)⟩
    · rintro σ' H1 ⟨⟨y1, y2, y3, y4, rfl⟩, e1⟩
      have wv1 := wv.ext hs e1
      walk_at "xs"
      refine x_lenL (SqL.of wv1.ws) ?_
      walk_at "xs"
      refine ⟨ws.length, rfl, by omega, by omega, for_range (lo := 0) (n := ws.length) (fun i σ' H' => (∃ y1 y2 y3 y4, σ' = [some (.ref S.a), some (.ref Tr), some (.ref Pr), some (.ref Ws), y1, y2, y3, y4]) ∧ Ext S H H') ?_ ?_ ?_⟩
      · exact ⟨⟨_, _, _, _, rfl⟩, e1⟩
      · rintro i σ' H2 hi ⟨⟨y1, y2, y3, y4, rfl⟩, e2⟩
        have wv2 := wv.ext hs e2
        obtain ⟨d, v, hd, hv, hda, vd, lvd, hgd⟩ := wv2.at_ (i := 0 + (i : Int)) (by omega) (by omega)
        walk_at "xs"
        refine x_lenL (SqL.of wv2.ws) ?_
        walk_at "xs"
        refine ⟨ws.length, rfl, by omega, by omega, for_range (lo := 0) (n := ws.length) (fun j σ' H' => (∃ y2 y3 y4, σ' = [some (.ref S.a), some (.ref Tr), some (.ref Pr), some (.ref Ws), some (.int (0 + (i : Int))), y2, y3, y4]) ∧ Ext S H H') ?_ ?_ ?_⟩
        · exact ⟨⟨_, _, _, rfl⟩, e2⟩
        · rintro j σ' H3 hj ⟨⟨y2, y3, y4, rfl⟩, e3⟩
          have wv3 := wv.ext hs e3
          have hda := hda.ext e2.st (Ext.refl e2.st)
          obtain ⟨d1, v1, hd1, hv1, hda1, vd1, lvd1, hgd1⟩ := wv3.at_ (i := 0 + (i : Int)) (by omega) (by omega)
          obtain ⟨d2, v2, hd2, hv2, hda2, vd2, lvd2, hgd2⟩ := wv3.at_ (i := 0 + (j : Int)) (by omega) (by omega)
          walk_at "xs"
          refine x_lstI (SqL.of wv3.ws) (atI_int (by omega) hv1) ?_
          walk_at "xs"
          refine i_WishR (n := n) hda1 (by omega) vd1 lvd1 fun r4 H4 s4 hw4 => ?_
          have wv4 := wv3.ext e3.st (Ext.same e3.st s4)
          have hda1 := hda1.same s4
          have hda2 := hda2.same s4
          have e4 := e3.trans (Ext.same e3.st s4)
          walk_at "xs"
          refine x_lstI (SqL.of wv4.ws) (atI_int (by omega) hv2) ?_
          walk_at "xs"
          refine i_WishR (n := n) hda2 (by omega) vd2 lvd2 fun r5 H5 s5 hw5 => ?_
          have wv5 := wv4.ext e4.st (Ext.same e4.st s5)
          have hda1 := hda1.same s5
          have hda2 := hda2.same s5
          have hw4 := hw4.same s5
          have e5 := e4.trans (Ext.same e4.st s5)
          walk_at "xs"
          refine x_lstI (SqL.of wv5.ws) (atI_int (by omega) hv1) ?_
          walk_at "xs"
          refine x_lstI (SqL.of wv5.ws) (atI_int (by omega) hv2) ?_
          walk_at "xs"
          refine ⟨d1, d2, hda1.dp vd1.noL.1, hda2.dp vd2.noL.1, shaped_of vd1.noL.1 vd1.noL.2 (by omega), shaped_of vd2.noL.1 vd2.noL.2 (by omega), ?_⟩
          walk_at "xs"
          refine i_cmp (eqv_ww hw4 hw5 vd1 vd2 hgd1 hgd2) fun H6 s6 => ?_
          walk_at "xs"
          refine iteF ?_
          walk_at "xs"
          exact ⟨⟨_, _, _, rfl⟩, e5.trans (Ext.same e5.st s6)⟩
        · rintro σ' H3 ⟨⟨y2, y3, y4, rfl⟩, e3⟩
          have wv3 := wv.ext hs e3
          obtain ⟨d1, v1, hd1, hv1, hda1, vd1, lvd1, hgd1⟩ := wv3.at_ (i := 0 + (i : Int)) (by omega) (by omega)
          walk_at "xs"
          refine x_lstI (SqL.of wv3.ws) (atI_int (by omega) hv1) ?_
          walk_at "xs"
          have hlev := vd1.level
          refine i_newW hda1 (by omega) ⟨fun z => by omega, fun z => by omega, fun _ _ H4 r4 s4 hw4 => ?_⟩
          have wv4 := wv3.ext e3.st (Ext.same e3.st s4)
          have hda1 := hda1.same s4
          have e4 := e3.trans (Ext.same e3.st s4)
          walk_at "xs"
          refine x_lstI (SqL.of wv4.ws) (atI_int (by omega) hv1) ?_
          walk_at "xs"
          refine i_fitsW (by omega) hda1 vd1 (.inl ⟨lvd1, hw4⟩) fun H5 s5 => ?_
          have wv5 := wv4.ext e4.st (Ext.same e4.st s5)
          have hda1 := hda1.same s5
          have e5 := e4.trans (Ext.same e4.st s5)
          walk_at "xs"
          refine iteF ?_
          walk_at "xs"
          refine x_lstI (SqL.of wv5.ws) (atI_int (by omega) hv1) ?_
          walk_at "xs"
          refine i_WishR (n := n) hda1 (by omega) vd1 lvd1 fun r6 H6 s6 hw6 => ?_
          have wv6 := wv5.ext e5.st (Ext.same e5.st s6)
          have hda1 := hda1.same s6
          have e6 := e5.trans (Ext.same e5.st s6)
          walk_at "xs"
          refine x_lstI (SqL.of wv6.ws) (atI_int (by omega) hv1) ?_
          walk_at "xs"
          obtain ⟨ta, txs, rfl, hta⟩ : ∃ ta txs, v1 = .ref ta ∧ H6 ta = some (.tup txs) := by
            obtain ⟨k', r', rfl, _⟩ := vd1.str
            obtain ⟨ta, txs, e, hta, _⟩ := hda1
            exact ⟨ta, txs, e, hta⟩
          refine i_cmp (eqv_wo KC hw6 vd1 hgd1 (.tup hta) (.base (.tup hta)) (by decide)) fun H7 s7 => ?_
          walk_at "xs"
          refine iteF ?_
          walk_at "xs"
          exact ⟨⟨_, _, _, _, rfl⟩, e6.trans (Ext.same e6.st s7)⟩
      · rintro σ' H2 ⟨⟨y1, y2, y3, y4, rfl⟩, e2⟩
        walk_at "xs"
        exact q H2 e2
end
end K76

set_option Elab.async false
set_option linter.all false
set_option maxRecDepth 100000
set_option maxHeartbeats 2000000
/-! what is refused -/
namespace K76
open PySem PySem.Spec PyProof.Rows L2 SX L2H HotX
local macro_rules | `(tactic| walk_at "x") => `(tactic| with_reducible first
  | refine x_seq ?_ | refine x_asg ?_ | refine x_op ?_ | refine x_cons ?_ | refine x_nil ?_ | refine x_c ?_ | refine x_name ?_ | refine x_cb ?_ | refine x_call ?_ | refine x_ret ?_ | refine x_ifS ?_
  | refine x_test ?_ | refine x_bl ?_ | refine x_I0 ?_ | refine x_sub ?_ | refine x_tup ?_ | refine x_lst ?_ | refine x_and ?_ | refine x_or ?_ | refine x_not ?_ | refine x_if ?_ | refine x_andV ?_ | refine x_orV ?_ | refine x_notV ?_
  | refine x_retN ?_ | refine x_drop ?_ | refine x_next ?_ | refine x_un ?_ | refine x_B ?_ | refine x_sl ?_ | refine x_noPart ?_ | refine x_part ?_ | refine x_chain ?_ | refine x_int ?_
  | refine x_eqI ?_ | refine x_eqS ?_ | refine x_neI ?_ | refine x_neS ?_ | refine x_eqB ?_ | refine x_neB ?_ | refine x_toI ?_ | refine x_absI ?_ | refine x_mx2 ?_ | refine x_M1 ?_ | refine x_isS ?_ | refine iteT ?_ | refine iteF ?_ | refine x_lc ?_ | refine x_for ?_ | refine x_rng1 ?_ | refine x_iList ?_ | refine x_iTup ?_ | refine x_yes ?_ | refine x_iStr ?_ | refine x_gcons ?_ | refine x_gnil ?_ | refine x_neg ?_ | refine x_sfld ?_ | refine x_tfld ?_ | refine x_make ?_ | refine x_bm ?_)
local macro_rules | `(tactic| walk_at "xs") => `(tactic| repeat (first | walk_at "x" | ((with_reducible show tVar _ _ _ _); refine x_var rfl ?_)))
theorem WT.hgt {d d' : PyData} (h : WT d d') : hgt d' ≤ K76.hgt d + 3 := by
  cases h with
  | lst => exact Nat.zero_le _
  | @cut ds =>
    have := hgts_take (ds := ds) (n := ds.length - 1)
    rw [hgt_tuple, hgt_tuple]
    omega
  | odd h =>
    have z : ∀ w ∈ odds2, K76.hgt w ≤ 3 := by
      simp [odds2, oddA, oddB, oddC, oddD, hgt_tuple, hgts_eq, hgts_nil, K76.hgt]
    have := z _ h
    omega
  | part h =>
    have := h.hgt
    omega
/-- gathered one by one, apart from the list they go to -/
structure BL (S : Sto) (H H' : Hp) (D : Addr) (p : PyData → Prop) (xs : List V) : Prop where
  e : Ext S H H'
  at_ : H' D = some (.lst xs)
  ds : ∃ ds, AtAll S.a H' ds xs ∧ AtAll D H' ds xs ∧ ∀ d ∈ ds, p d
theorem BL.nil {S : Sto} {H H1 : Hp} {D : Addr} {p : PyData → Prop} (e : Ext S H H1) (n : H1 D = none) : BL S H (L2.upd H1 D (.lst [])) D p [] :=
  ⟨e.new n, L2.upd_same, [], rfl, rfl, fun d h => by cases h⟩
theorem BL.step {S : Sto} {H H1 H2 : Hp} {D : Addr} {p : PyData → Prop} {xs : List V} {d : PyData} {v : V} (h : BL S H H1 D p xs) (hD : H D = none) (n : D ≠ S.a ∧ D ≠ S.l) (e : Ext S H1 H2) (a : AtY H1 H2 d v) (hp : p d) :
    H2 D = some (.lst xs) ∧ BL S H (L2.upd H2 D (.lst (xs ++ [v]))) D p (xs ++ [v]) := by
  obtain ⟨ds, h1, h2, h3⟩ := h.ds
  obtain ⟨so, hso⟩ := h.e.st.some
  have hD2 := e.keep _ _ n.1 h.at_
  have k1 : AtAll S.a H2 ds xs := h1.ext h.e.st e
  have k2 : AtAll D H2 ds xs := AtAll.ext2 e.keep h.e.st.lst h1 h2
  have n1 : AtAll S.a H2 (ds ++ [d]) (xs ++ [v]) := k1.app (a _ _ hso)
  have n2 : AtAll D H2 (ds ++ [d]) (xs ++ [v]) := k2.app (a _ _ h.at_)
  have kk : ∀ b o, b ≠ D → H2 b = some o → (L2.upd H2 D (.lst (xs ++ [v]))) b = some o := fun b o nb z => by
    rw [L2.upd_ne nb]
    exact z
  refine ⟨hD2, (h.e.trans e).mut hD n, L2.upd_same, ds ++ [d], AtAll.ext2 (S := ⟨D, D⟩) kk ⟨_, hD2⟩ n2 n1, AtAll.ext2 (S := ⟨D, D⟩) kk ⟨_, hD2⟩ n2 n2, fun t ht => ?_⟩
  rcases List.mem_append.mp ht with ht | ht
  · exact h3 t ht
  · obtain rfl : t = d := by simpa using ht
    exact hp
def spRefusals (n : Nat) : Sp := fun vs H Q _ => ∃ (S : Sto) (Tr Ws : Addr) (ds : List PyData) (us : List V) (es : List PyData) (ws : List V) (d : PyData) (v : V), vs = [.ref S.a, .ref Tr, .ref Ws, v] ∧ StoreAt H S ∧ Tr ≠ S.a ∧ H Tr = some (.lst us) ∧ AtAll S.a H ds us ∧ ds.length ≤ 20 ∧ (∀ d ∈ ds, VT d ∧ hgt d ≤ 40) ∧ WS S H Ws es ws ∧
  At S.a H d v ∧ VT d ∧ 41 ≤ hgt d ∧ hgt d ≤ 90 ∧ ∀ H', Ext S H H' → Q (.bl true) H'
section
variable {P : Program} {w : World} {K : PySem.W.Frag} {mg : Str → Option Value} {base : Heap} {cP cW cB cT cO : Addr}
theorem k_refusals {n : Nat} (h95 : 95 ≤ n) (T : Nm K mg) (F : FnX K mg "_law_refusals" s_law_refusals ["store", "trees", "wishes", "deep"]) (c_law_wrong_part : CalK P w K mg base (3 + n) "_law_wrong_part" (spWP n)) (c_law_wrong_tree : CalK P w K mg base (3 + n + 1) "_law_wrong_tree" (spWT n)) (c_law_equal : CalK P w K mg base (1 + (0 + 2)) "_law_equal" (spEqual (0 + 2)))
    (c_law_fits : CalK P w K mg base (n + 3 + 1) "_law_fits" (spFits cP cW n)) (c_law_new : CalK P w K mg base (4 + n + 3 + 1) "_law_new" (spNew cP cW n)) : CalK P w K mg base (4 + n + 3 + 1 + 1) "_law_refusals" (spRefusals n) := by
  refine cal_of F sc_law_refusals (fun vs H Q E h => ?_) (fun f cdv A outer s H vs Q E hr h => ?_)
  · obtain ⟨S, Tr, Ws, ds, us, es, ws, d, v, rfl, _⟩ := h
    rfl
  · obtain ⟨S, Tr, Ws, ds, us, es, ws, d, v, rfl, hs, trn, htr, hall, hlen, hvt, wv, hd, vd, d41, d90, q⟩ := h
    refine ⟨_, (pss_cons (ps_set (i := 4) sc_law_refusals.nd rfl (Or.inl rfl) (pe_tup (pa_cons pe_str (pa_cons pe_str (pa_cons pe_int pa_nil)))))
      (pss_cons (ps_set (i := 5) sc_law_refusals.nd rfl (Or.inl rfl) (pe_tup (pa_cons pe_str (pa_cons (pv 3) pa_nil))))
      (pss_cons (ps_if (PW.pt (pw_or (pt_not (pt_val (C8.pe_c c_law_fits hr (by omega) (by rfl) (pa_cons (C8.pe_c c_law_new hr (by omega) (by rfl) (pa_cons (pv 3) (pa_cons pe_bl pa_nil))) (pa_cons (pv 3) (pa_cons pe_bl pa_nil)))))) (pw_or1 (pt_not (pt_val (C8.pe_c c_law_fits hr (by omega) (by rfl) (pa_cons (C8.pe_c c_law_new hr (by omega) (by rfl) (pa_cons (pv 5) (pa_cons pe_bl pa_nil))) (pa_cons (pv 5) (pa_cons pe_bl pa_nil))))))))) (pss_one (ps_ret pe_bl)) pss_nil)
      (pss_cons (ps_set (i := 6) sc_law_refusals.nd rfl (Or.inl rfl) (pe_op op_cat (pe_lc (own := [("tree", 8)]) (g := gName 8) (by rfl) sc_law_refusals.nd (pi_list (pv 1)) (blkOk_by (own := [("tree", 8)]) (N := ["store", "trees", "wishes", "deep", "bad", "home", "things", "thing", "tree"]) (sc := defScope s_law_refusals) (by decide +kernel)) (fun _ _ _ _ _ => pg_name (i := 8) sc_law_refusals.nd rfl (Or.inl rfl)) (fun _ _ _ _ _ => pts_nil) (fun _ _ _ _ _ => (C8.pe_c c_law_wrong_tree hr (by omega) (by rfl) (pa_cons (pv 0) (pa_cons (pv 8) pa_nil))))) (pe_lst (pa_cons (C8.pe_c c_law_wrong_part hr (by omega) (by rfl) (pa_cons (pv 0) (pa_cons (pv 3) pa_nil))) pa_nil))))
      (pss_cons (ps_for PassesOwn.never rfl (pi_list (pe_op op_cat (pv 6) (pv 2))) (pg_name (i := 7) sc_law_refusals.nd rfl (Or.inl rfl)) (pss_one (ps_if (PW.pt (pw_or (pt_not (pt_val (C8.pe_c c_law_equal hr (by omega) (by rfl) (pa_cons (pv 4) (pa_cons (C8.pe_c c_law_new hr (by omega) (by rfl) (pa_cons (pv 7) (pa_cons pe_bl pa_nil))) pa_nil))))) (pw_or1 (pt_not (pt_val (C8.pe_c c_law_equal hr (by omega) (by rfl) (pa_cons (pv 4) (pa_cons (C8.pe_c c_law_new hr (by omega) (by rfl) (pa_cons (pe_tup (pa_cons pe_str (pa_cons (pv 7) pa_nil))) (pa_cons pe_bl pa_nil))) pa_nil)))))))) (pss_one (ps_ret pe_bl)) pss_nil)))
      (pss_cons (ps_set (i := 6) sc_law_refusals.nd rfl (Or.inl rfl) (pe_op op_cat (pe_lc (own := [("tree", 8)]) (g := gName 8) (by rfl) sc_law_refusals.nd (pi_list (pv 2)) (blkOk_by (own := [("tree", 8)]) (N := ["store", "trees", "wishes", "deep", "bad", "home", "things", "thing", "tree"]) (sc := defScope s_law_refusals) (by decide +kernel)) (fun _ _ _ _ _ => pg_name (i := 8) sc_law_refusals.nd rfl (Or.inl rfl)) (fun _ _ _ _ _ => pts_nil) (fun _ _ _ _ _ => (C8.pe_c c_law_wrong_tree hr (by omega) (by rfl) (pa_cons (pv 0) (pa_cons (pv 8) pa_nil))))) (pv 1)))
      (pss_cons (ps_for PassesOwn.never rfl (pi_list (pe_op op_cat (pv 6) (pe_lst (pa_cons (pv 3) (pa_cons (pe_tup (pa_cons pe_str (pa_cons (C8.pe_c c_law_wrong_part hr (by omega) (by rfl) (pa_cons (pv 0) (pa_cons (pv 3) pa_nil))) pa_nil))) pa_nil))))) (pg_name (i := 7) sc_law_refusals.nd rfl (Or.inl rfl)) (pss_one (ps_if (pt_not (pt_val (C8.pe_c c_law_equal hr (by omega) (by rfl) (pa_cons (pv 4) (pa_cons (C8.pe_c c_law_new hr (by omega) (by rfl) (pa_cons (pv 7) (pa_cons pe_bl pa_nil))) pa_nil))))) (pss_one (ps_ret pe_bl)) pss_nil)))
      (pss_one (ps_ret pe_bl))))))))), ?_⟩
    have lv := hall.length
    have lw := wv.all.length
    have wb := wv.lb
    obtain ⟨dl, rfl⟩ := vd.tup
    have hdl := vd.level
    walk_at "xs"
    refine ⟨by show 3 ≤ sizeLine; decide, fun pb nb => ?_⟩
    have s1 := same_new (o := .tup [.str "refused", .str "BadWish", .int 0]) nb
    have gb : (L2.upd H pb (.tup [.str "refused", .str "BadWish", .int 0])) pb = _ := L2.upd_same
    have e1 := Ext.same hs s1
    generalize L2.upd H pb (.tup [.str "refused", .str "BadWish", .int 0]) = H1 at s1 gb e1 ⊢
    walk_at "xs"
    refine ⟨by show 2 ≤ sizeLine; decide, fun ph nh => ?_⟩
    have s2 := same_new (o := .tup [.str "home", v]) nh
    have gh : (L2.upd H1 ph (.tup [.str "home", v])) ph = _ := L2.upd_same
    have e2 := e1.trans (Ext.same e1.st s2)
    have gb := s2 _ _ gb
    generalize L2.upd H1 ph (.tup [.str "home", v]) = H2 at s2 gb gh e2 ⊢
    have hd2 : At S.a H2 (.tuple dl) v := hd.ext hs e2
    have hh2 : At S.a H2 (.tuple [.str "home", .tuple dl]) (.ref ph) := ⟨ph, _, rfl, gh, _, _, rfl, ⟨rfl, by decide⟩, _, _, rfl, hd2, rfl⟩
    have vh : VW (.tuple [.str "home", .tuple dl]) := .aim (.inr rfl) vd
    have hhl : hgt (.tuple [.str "home", .tuple dl]) = hgt (.tuple dl) + 1 := hgt2 _ _
    have hlw : lvW (.tuple [.str "home", .tuple dl]) = hgt (.tuple dl) := by
      simp [lvW]
    have hlW := vh.level
    have bn : pb ≠ S.a := fun z => by
      obtain ⟨vs, h⟩ := e2.st.lst
      rw [← z, gb] at h
      cases h
    walk_at "xs"
    refine i_newP hd2 (by omega) ⟨fun z => by omega, fun _ H3 r3 s3 g3 => ?_, fun _ z => by omega⟩
    have e3 := e2.trans (Ext.same e2.st s3)
    have gb3 := s3 _ _ gb
    have hd3 := hd2.same s3
    have hh3 := hh2.same s3
    walk_at "xs"
    refine i_fitsP (by omega) hd3 vd (.inr ⟨by omega, g3⟩) fun H4 s4 => ?_
    have e4 := e3.trans (Ext.same e3.st s4)
    have gb4 := s4 _ _ gb3
    have hd4 := hd3.same s4
    have hh4 := hh3.same s4
    walk_at "xs"
    refine iteF ?_
    walk_at "xs"
    refine i_newW hh4 (by omega) ⟨fun z => by omega, fun _ H5 r5 s5 g5 => ?_, fun _ z => by omega⟩
    have e5 := e4.trans (Ext.same e4.st s5)
    have gb5 := s5 _ _ gb4
    have hd5 := hd4.same s5
    have hh5 := hh4.same s5
    walk_at "xs"
    refine i_fitsW (by omega) hh5 vh (.inr ⟨by omega, g5⟩) fun H6 s6 => ?_
    have e6 := e5.trans (Ext.same e5.st s6)
    have gb6 := s6 _ _ gb5
    have hd6 := hd5.same s6
    walk_at "xs"
    refine iteF ?_
    walk_at "xs"
    have htr6 := e6.keep _ _ trn htr
    have hall6 := hall.ext hs e6
    refine ⟨Tr, rfl, ⟨_, SqL.of htr6⟩, fun D nD => lc_list (xs := us) (fun i H' => ∃ xs, BL S H6 H' D (fun t => predLevel t = 0 ∧ hgt t ≤ 91) xs ∧ xs.length = i) ?_ ?_ ?_ ?_⟩
    · exact ⟨[], BL.nil (Ext.refl e6.st) nD, rfl⟩
    · rintro i H' hi ⟨xs, bl, _⟩
      exact SqL.of (bl.e.keep _ _ trn htr6)
    · rintro i x H7 hx ⟨xs, bl, hl⟩
      walk_at "xs"
      refine ⟨rfl, ?_⟩
      walk_at "xs"
      have hi := (List.getElem?_eq_some_iff.mp hx).1
      obtain ⟨t, ht⟩ : ∃ t, ds[i]? = some t := ⟨_, List.getElem?_eq_getElem (by omega)⟩
      obtain ⟨x', hx', hxa⟩ := (hall6.ext e6.st bl.e).get ht
      rw [hx] at hx'
      obtain rfl := Option.some.inj hx'
      obtain ⟨vt, lt⟩ := hvt t (List.mem_of_getElem? ht)
      obtain ⟨k, r, rfl⟩ := vt.str
      refine i_WT bl.e.st hxa vt.noL (Nat.succ_pos _) vt.wid (by omega) fun v' d' H8 e8 hwt hd' => ?_
      have := hwt.hgt
      obtain ⟨g1, g2⟩ := bl.step nD (e6.st.free nD) e8 hd' ⟨vt.wt hwt, by omega⟩
      exact ⟨xs, g1, szl (by omega), xs ++ [v'], g2, by rw [List.length_append, hl] <;> rfl⟩
    · rintro H7 ⟨xs, bl, hl⟩
      obtain ⟨bs, hbs, _, hbp⟩ := bl.ds
      have gD := bl.at_
      have e7 := e6.trans bl.e
      have gb7 := bl.e.keep _ _ bn gb6
      have hd7 := hd6.ext e6.st bl.e
      have nDS := e6.st.free nD
      clear bl
      walk_at "xs"
      refine i_WP e7.st hd7 vd.noL vd.wid (by omega) fun v' d' H8 e8 hwp hd' => ?_
      have hgp := hwp.hgt
      obtain ⟨so, hso⟩ := e7.st.some
      have hd' := hd' _ _ hso
      have gD := e8.keep _ _ nDS.1 gD
      have gb8 := e8.keep _ _ bn gb7
      have hd8 := hd7.ext e7.st e8
      have hbs := hbs.ext e7.st e8
      have e8 := e7.trans e8
      walk_at "xs"
      refine ⟨by show 1 ≤ sizeLine; decide, fun p1 n1 => ?_⟩
      have s9 := same_new (o := .lst [v']) n1
      have g1 : (L2.upd H8 p1 (.lst [v'])) p1 = _ := L2.upd_same
      have hd' := hd'.same s9
      have gD := s9 _ _ gD
      have gb9 := s9 _ _ gb8
      have hd9 := hd8.same s9
      have hbs := hbs.same s9
      have e9 := e8.trans (Ext.same e8.st s9)
      generalize L2.upd H8 p1 (.lst [v']) = H9 at s9 g1 hd' gD gb9 hd9 hbs e9 ⊢
      walk_at "xs"
      have hlb := hbs.length
      refine x_catL gD g1 (by refine sz ?_; simp only [List.length_cons, List.length_nil]; omega) fun p2 n2 => ?_
      have s10 := same_new (o := .lst (xs ++ [v'])) n2
      have gT : (L2.upd H9 p2 (.lst (xs ++ [v']))) p2 = _ := L2.upd_same
      have nT := e9.st.free n2
      have hbs : AtAll S.a _ (bs ++ [d']) (xs ++ [v']) := (hbs.app hd').same s10
      have hbp : ∀ t ∈ bs ++ [d'], predLevel t = 0 ∧ hgt t ≤ 91 := fun t ht => by
        rcases List.mem_append.mp ht with ht | ht
        · exact hbp t ht
        · obtain rfl : t = d' := by simpa using ht
          exact ⟨vd.wp hwp, by omega⟩
      have gb10 := s10 _ _ gb9
      have hd10 := hd9.same s10
      have e10 := e9.trans (Ext.same e9.st s10)
      have hxl : (xs ++ [v']).length ≤ 21 := by rw [List.length_append]; simp only [List.length_cons, List.length_nil]; omega
      generalize L2.upd H9 p2 (.lst (xs ++ [v'])) = H10 at s10 gT hbs gb10 hd10 e10 ⊢
      generalize xs ++ [v'] = ts at gT hbs hxl ⊢
      generalize bs ++ [d'] = cs at hbs hbp
      clear s9 s10 g1 gD hlb hd' hgp hwp
      walk_at "xs"
      have wv10 := wv.ext hs e10
      refine x_catL gT wv10.ws (by refine sz ?_; omega) fun p3 n3 => ?_
      have s11 := same_new (o := .lst (ts ++ ws)) n3
      have gI : (L2.upd H10 p3 (.lst (ts ++ ws))) p3 = _ := L2.upd_same
      have nI := e10.st.free n3
      have hit : AtAll S.a _ (cs ++ es) (ts ++ ws) := (hbs.append wv10.all).same s11
      have hip : ∀ t ∈ cs ++ es, predLevel t = 0 ∧ hgt t ≤ 91 := fun t ht => by
        rcases List.mem_append.mp ht with ht | ht
        · exact hbp t ht
        · obtain ⟨z1, _, z3⟩ := wv.ok t ht
          exact ⟨z1.pred, by omega⟩
      have gb11 := s11 _ _ gb10
      have hd11 := hd10.same s11
      have e11 := e10.trans (Ext.same e10.st s11)
      generalize L2.upd H10 p3 (.lst (ts ++ ws)) = H11 at s11 gI hit gb11 hd11 e11 ⊢
      generalize ts ++ ws = its at gI hit ⊢
      generalize cs ++ es = ids at hit hip
      have hil := hit.length
      refine ⟨p3, rfl, ⟨_, SqL.of gI⟩, for_list (xs := its) (fun i σ' H' => (∃ y1 y2, σ' = [some (.ref S.a), some (.ref Tr), some (.ref Ws), some v, some (.ref pb), some (.ref ph), some (.ref p2), y1, y2]) ∧ Ext S H11 H') ?_ ?_ ?_ ?_⟩
      · exact ⟨⟨_, _, rfl⟩, Ext.refl e11.st⟩
      · rintro i σ' H' hi ⟨_, ex⟩
        exact SqL.of (ex.keep _ _ nI.1 gI)
      · rintro i x σ' H12 hx ⟨⟨y1, y2, rfl⟩, ex⟩
        walk_at "xs"
        have hi := (List.getElem?_eq_some_iff.mp hx).1
        obtain ⟨t, ht⟩ : ∃ t, ids[i]? = some t := ⟨_, List.getElem?_eq_getElem (by omega)⟩
        obtain ⟨x', hx', hxa⟩ := (hit.ext e11.st ex).get ht
        rw [hx] at hx'
        obtain rfl := Option.some.inj hx'
        obtain ⟨tz, tl⟩ := hip t (List.mem_of_getElem? ht)
        have gb12 := ex.keep _ _ bn gb11
        refine i_newP hxa (by omega) ⟨fun _ H13 r13 s13 g13 => ?_, fun z => by omega, fun z => by omega⟩
        have ex13 := ex.trans (Ext.same ex.st s13)
        have hxa := hxa.same s13
        have gb13 := s13 _ _ gb12
        walk_at "xs"
        refine due_eq (by decide) g13 gb13 fun H14 s14 => ?_
        have ex14 := ex13.trans (Ext.same ex13.st s14)
        have hxa := hxa.same s14
        have gb14 := s14 _ _ gb13
        walk_at "xs"
        refine iteF ?_
        walk_at "xs"
        refine ⟨by show 2 ≤ sizeLine; decide, fun pn nn => ?_⟩
        have s15 := same_new (o := .tup [.str "never", x]) nn
        have gn : (L2.upd H14 pn (.tup [.str "never", x])) pn = _ := L2.upd_same
        have hxa := hxa.same s15
        have gb15 := s15 _ _ gb14
        have ex15 := ex14.trans (Ext.same ex14.st s15)
        generalize L2.upd H14 pn (.tup [.str "never", x]) = H15 at s15 gn hxa gb15 ex15 ⊢
        have hna : At S.a H15 (.tuple [.str "never", t]) (.ref pn) := ⟨pn, _, rfl, gn, _, _, rfl, ⟨rfl, by decide⟩, _, _, rfl, hxa, rfl⟩
        have hnl := hgt2 "never" t
        have hnw : wishLevel (.tuple [.str "never", t]) = -1 := wish_never (.inl rfl) tz
        walk_at "xs"
        refine i_newW hna (by omega) ⟨fun _ H16 r16 s16 g16 => ?_, fun z => by omega, fun z => by omega⟩
        have ex16 := ex15.trans (Ext.same ex15.st s16)
        have gb16 := s16 _ _ gb15
        walk_at "xs"
        refine due_eq (by decide) g16 gb16 fun H17 s17 => ?_
        have ex17 := ex16.trans (Ext.same ex16.st s17)
        walk_at "xs"
        refine iteF ?_
        walk_at "xs"
        exact ⟨⟨_, _, rfl⟩, ex17⟩
      · rintro σ' H12 ⟨⟨y1, y2, rfl⟩, ex⟩
        have e12 := e11.trans ex
        have gb12 := ex.keep _ _ bn gb11
        have hd12 := hd11.ext e11.st ex
        have wv12 := wv.ext hs e12
        have htr12 := e12.keep _ _ trn htr
        have hall12 := hall.ext hs e12
        clear ex s11 gI nI hit hip hil gb11 hd11
        walk_at "xs"
        refine ⟨Ws, rfl, ⟨_, SqL.of wv12.ws⟩, fun D2 nD2 => lc_list (xs := ws) (fun i H' => ∃ xs, BL S H12 H' D2 (fun t => wishLevel t = -1 ∧ hgt t ≤ 91) xs ∧ xs.length = i) ?_ ?_ ?_ ?_⟩
        · exact ⟨[], BL.nil (Ext.refl e12.st) nD2, rfl⟩
        · rintro i H' hi ⟨xs, bl, _⟩
          exact SqL.of (bl.e.keep _ _ wv12.wn wv12.ws)
        · rintro i x H13 hx ⟨xs, bl, hl⟩
          walk_at "xs"
          refine ⟨rfl, ?_⟩
          walk_at "xs"
          have hi := (List.getElem?_eq_some_iff.mp hx).1
          obtain ⟨t, ht⟩ : ∃ t, es[i]? = some t := ⟨_, List.getElem?_eq_getElem (by omega)⟩
          obtain ⟨x', hx', hxa⟩ := (wv12.all.ext e12.st bl.e).get ht
          rw [hx] at hx'
          obtain rfl := Option.some.inj hx'
          obtain ⟨vt, _, lt⟩ := wv.ok t (List.mem_of_getElem? ht)
          obtain ⟨k, r, rfl, _⟩ := vt.str
          refine i_WT bl.e.st hxa vt.noL.1 (Nat.succ_pos _) vt.wid (by omega) fun v' d' H14 e14 hwt hd' => ?_
          have := hwt.hgt
          obtain ⟨g1, g2⟩ := bl.step nD2 (e12.st.free nD2) e14 hd' ⟨vt.wt hwt, by omega⟩
          exact ⟨xs, g1, szl (by omega), xs ++ [v'], g2, by rw [List.length_append, hl] <;> rfl⟩
        · rintro H13 ⟨xs, bl, hl⟩
          obtain ⟨bs, hbs, _, hbp⟩ := bl.ds
          have gD := bl.at_
          have e13 := e12.trans bl.e
          have gb13 := bl.e.keep _ _ bn gb12
          have hd13 := hd12.ext e12.st bl.e
          have htr13 := bl.e.keep _ _ trn htr12
          have hall13 := hall12.ext e12.st bl.e
          have hlb := hbs.length
          walk_at "xs"
          refine x_catL gD htr13 (by refine sz ?_; omega) fun p4 n4 => ?_
          have s14 := same_new (o := .lst (xs ++ us)) n4
          have gT : (L2.upd H13 p4 (.lst (xs ++ us))) p4 = _ := L2.upd_same
          have nT := e13.st.free n4
          have hts : AtAll S.a _ (bs ++ ds) (xs ++ us) := (hbs.append hall13).same s14
          have htp : ∀ t ∈ bs ++ ds, wishLevel t = -1 ∧ hgt t ≤ 91 := fun t ht => by
            rcases List.mem_append.mp ht with ht | ht
            · exact hbp t ht
            · obtain ⟨z1, z2⟩ := hvt t ht
              exact ⟨z1.wish, by omega⟩
          have gb14 := s14 _ _ gb13
          have hd14 := hd13.same s14
          have e14 := e13.trans (Ext.same e13.st s14)
          have htl : (xs ++ us).length ≤ 40 := by rw [List.length_append]; omega
          generalize L2.upd H13 p4 (.lst (xs ++ us)) = H14 at s14 gT hts gb14 hd14 e14 ⊢
          generalize xs ++ us = ts2 at gT hts htl ⊢
          generalize bs ++ ds = cs2 at hts htp
          clear bl gD gb13 hd13 s14
          walk_at "xs"
          refine i_WP e14.st hd14 vd.noL vd.wid (by omega) fun v' d' H15 e15 hwp hd' => ?_
          have hgp := hwp.hgt
          obtain ⟨so, hso⟩ := e14.st.some
          have hd' := hd' _ _ hso
          have gT := e15.keep _ _ nT.1 gT
          have gb15 := e15.keep _ _ bn gb14
          have hd15 := hd14.ext e14.st e15
          have hts := hts.ext e14.st e15
          have e15 := e14.trans e15
          walk_at "xs"
          refine ⟨by show 2 ≤ sizeLine; decide, fun p5 n5 => ?_⟩
          have s16 := same_new (o := .tup [.str "never", v']) n5
          have gN : (L2.upd H15 p5 (.tup [.str "never", v'])) p5 = _ := L2.upd_same
          have hd' := hd'.same s16
          have gT := s16 _ _ gT
          have gb16 := s16 _ _ gb15
          have hd16 := hd15.same s16
          have hts := hts.same s16
          have e16 := e15.trans (Ext.same e15.st s16)
          generalize L2.upd H15 p5 (.tup [.str "never", v']) = H16 at s16 gN hd' gT gb16 hd16 hts e16 ⊢
          have hN : At S.a H16 (.tuple [.str "never", d']) (.ref p5) := ⟨p5, _, rfl, gN, _, _, rfl, ⟨rfl, by decide⟩, _, _, rfl, hd', rfl⟩
          walk_at "xs"
          refine ⟨by show 2 ≤ sizeLine; decide, fun p6 n6 => ?_⟩
          have s17 := same_new (o := .lst [v, .ref p5]) n6
          have gM : (L2.upd H16 p6 (.lst [v, .ref p5])) p6 = _ := L2.upd_same
          have hN := hN.same s17
          have gT := s17 _ _ gT
          have gb17 := s17 _ _ gb16
          have hd17 := hd16.same s17
          have hts := hts.same s17
          have e17 := e16.trans (Ext.same e16.st s17)
          generalize L2.upd H16 p6 (.lst [v, .ref p5]) = H17 at s17 gM hN gT gb17 hd17 hts e17 ⊢
          walk_at "xs"
          refine x_catL gT gM (by refine sz ?_; simp only [List.length_cons, List.length_nil]; omega) fun p7 n7 => ?_
          have s18 := same_new (o := .lst (ts2 ++ [v, .ref p5])) n7
          have gI : (L2.upd H17 p7 (.lst (ts2 ++ [v, .ref p5]))) p7 = _ := L2.upd_same
          have nI := e17.st.free n7
          have hit : AtAll S.a _ (cs2 ++ [.tuple dl, .tuple [.str "never", d']]) (ts2 ++ [v, .ref p5]) := (hts.append (es := [.tuple dl, .tuple [.str "never", d']]) (us := [v, .ref p5]) ⟨_, _, rfl, hd17, _, _, rfl, hN, rfl⟩).same s18
          have hip : ∀ t ∈ cs2 ++ [.tuple dl, .tuple [.str "never", d']], wishLevel t = -1 ∧ hgt t ≤ 91 := fun t ht => by
            rcases List.mem_append.mp ht with ht | ht
            · exact htp t ht
            · rcases List.mem_cons.mp ht with rfl | ht
              · exact ⟨vd.wish, by omega⟩
              · obtain rfl : t = .tuple [.str "never", d'] := by simpa using ht
                have := hgt2 "never" d'
                exact ⟨wish_never (.inl rfl) (vd.wp hwp), by omega⟩
          have gb18 := s18 _ _ gb17
          have e18 := e17.trans (Ext.same e17.st s18)
          generalize L2.upd H17 p7 (.lst (ts2 ++ [v, .ref p5])) = H18 at s18 gI hit gb18 e18 ⊢
          generalize ts2 ++ [v, .ref p5] = its at gI hit ⊢
          generalize cs2 ++ [.tuple dl, .tuple [.str "never", d']] = ids at hit hip
          have hil := hit.length
          refine ⟨p7, rfl, ⟨_, SqL.of gI⟩, for_list (xs := its) (fun i σ' H' => (∃ y1 y2, σ' = [some (.ref S.a), some (.ref Tr), some (.ref Ws), some v, some (.ref pb), some (.ref ph), some (.ref p4), y1, y2]) ∧ Ext S H18 H') ?_ ?_ ?_ ?_⟩
          · exact ⟨⟨_, _, rfl⟩, Ext.refl e18.st⟩
          · rintro i σ' H' hi ⟨_, ex⟩
            exact SqL.of (ex.keep _ _ nI.1 gI)
          · rintro i x σ' H19 hx ⟨⟨y1, y2, rfl⟩, ex⟩
            walk_at "xs"
            have hi := (List.getElem?_eq_some_iff.mp hx).1
            obtain ⟨t, ht⟩ : ∃ t, ids[i]? = some t := ⟨_, List.getElem?_eq_getElem (by omega)⟩
            obtain ⟨x', hx', hxa⟩ := (hit.ext e18.st ex).get ht
            rw [hx] at hx'
            obtain rfl := Option.some.inj hx'
            obtain ⟨tz, tl⟩ := hip t (List.mem_of_getElem? ht)
            have gb19 := ex.keep _ _ bn gb18
            refine i_newW hxa (by omega) ⟨fun _ H20 r20 s20 g20 => ?_, fun z => by omega, fun z => by omega⟩
            have ex20 := ex.trans (Ext.same ex.st s20)
            have gb20 := s20 _ _ gb19
            walk_at "xs"
            refine due_eq (by decide) g20 gb20 fun H21 s21 => ?_
            have ex21 := ex20.trans (Ext.same ex20.st s21)
            walk_at "xs"
            refine iteF ?_
            walk_at "xs"
            exact ⟨⟨_, _, rfl⟩, ex21⟩
          · rintro σ' H19 ⟨⟨y1, y2, rfl⟩, ex⟩
            walk_at "xs"
            exact q _ (e18.trans ex)
end
end K76

set_option Elab.async false
set_option linter.all false
set_option maxRecDepth 100000
set_option maxHeartbeats 2000000
/-! the law -/
namespace K76
open PySem PySem.Spec PyProof.Rows L2 SX L2H HotX
local macro_rules | `(tactic| walk_at "x") => `(tactic| with_reducible first
  | refine x_seq ?_ | refine x_asg ?_ | refine x_op ?_ | refine x_cons ?_ | refine x_nil ?_ | refine x_c ?_ | refine x_name ?_ | refine x_cb ?_ | refine x_call ?_ | refine x_ret ?_ | refine x_ifS ?_
  | refine x_test ?_ | refine x_bl ?_ | refine x_I0 ?_ | refine x_sub ?_ | refine x_tup ?_ | refine x_lst ?_ | refine x_and ?_ | refine x_or ?_ | refine x_not ?_ | refine x_if ?_ | refine x_andV ?_ | refine x_orV ?_ | refine x_notV ?_
  | refine x_retN ?_ | refine x_drop ?_ | refine x_next ?_ | refine x_un ?_ | refine x_B ?_ | refine x_sl ?_ | refine x_noPart ?_ | refine x_part ?_ | refine x_chain ?_ | refine x_int ?_
  | refine x_eqI ?_ | refine x_eqS ?_ | refine x_neI ?_ | refine x_neS ?_ | refine x_eqB ?_ | refine x_neB ?_ | refine x_toI ?_ | refine x_absI ?_ | refine x_mx2 ?_ | refine x_M1 ?_ | refine x_isS ?_ | refine iteT ?_ | refine iteF ?_ | refine x_lc ?_ | refine x_for ?_ | refine x_rng1 ?_ | refine x_iList ?_ | refine x_iTup ?_ | refine x_yes ?_ | refine x_iStr ?_ | refine x_gcons ?_ | refine x_gnil ?_ | refine x_neg ?_ | refine x_sfld ?_ | refine x_tfld ?_ | refine x_make ?_ | refine x_bm ?_)
local macro_rules | `(tactic| walk_at "xs") => `(tactic| repeat (first | walk_at "x" | ((with_reducible show tVar _ _ _ _); refine x_var rfl ?_)))
theorem AtAll.up {x p : Addr} {xs : List V} {o : HO} {H : Hp} {ds : List PyData} {vs : List V} (h : H p = some (.lst xs)) (n : noLs ds = true) (a : AtAll x H ds vs) : AtAll x (L2.upd H p o) ds vs :=
  AtAll.tupsOf n (fun _ z => by rw [h] at z; cases z) a
theorem At.up {x p : Addr} {xs : List V} {o : HO} {H : Hp} {d : PyData} {v : V} (h : H p = some (.lst xs)) (n : noL d = true) (a : At x H d v) : At x (L2.upd H p o) d v :=
  At.tupsOf n (fun _ z => by rw [h] at z; cases z) a
theorem PredAt.up {cP x p r : Addr} {xs : List V} {o : HO} {H : Hp} {d : PyData} (h : H p = some (.lst xs)) (n : noL d = true) (a : PredAt cP x H r d) : PredAt cP x (L2.upd H p o) r d := by
  obtain ⟨dx, v, hr, hd⟩ := a
  exact ⟨dx, v, by rw [L2.upd_ne (ne_of hr h fun z => by cases z)]; exact hr, hd.up h n⟩
theorem VWs.noLs {es : List PyData} (h : ∀ d ∈ es, VW d ∧ lvW d ≤ 40 ∧ hgt d ≤ 41) : noLs es = true := noLs_all fun t ht => (h t ht).1.noL.1
theorem WS.up {S : Sto} {H : Hp} {Ws p : Addr} {xs : List V} {o : HO} {es : List PyData} {us : List V} (w : WS S H Ws es us) (h : H p = some (.lst xs)) (n : Ws ≠ p) : WS S (L2.upd H p o) Ws es us :=
  ⟨w.wn, by rw [L2.upd_ne n]; exact w.ws, w.all.up h (VWs.noLs w.ok), w.lb, w.ok⟩
theorem TP.push {cP : Addr} {S : Sto} {H : Hp} {Tr Pr r : Addr} {ds : List PyData} {vs : List V} {rs : List Addr} {d : PyData} {v : V} (h : TP cP S H Tr Pr ds vs rs) (ne : Tr ≠ Pr) (l : ds.length ≤ 19) (hd : At S.a H d v) (hp : PredAt cP S.a H r d) (vd : VT d) (ld : hgt d ≤ 40) :
    TP cP S (L2.upd (L2.upd H Tr (.lst (vs ++ [v]))) Pr (.lst (rs.map V.ref ++ [.ref r]))) Tr Pr (ds ++ [d]) (vs ++ [v]) (rs ++ [r]) := by
  have g1 : (L2.upd H Tr (.lst (vs ++ [v]))) Pr = some (.lst (rs.map V.ref)) := by rw [L2.upd_ne ne.symm]; exact h.pr
  have ok : ∀ t ∈ ds ++ [d], VT t ∧ hgt t ≤ 40 := fun t ht => by
    rcases List.mem_append.mp ht with ht | ht
    · exact h.vt t ht
    · obtain rfl : t = d := by simpa using ht
      exact ⟨vd, ld⟩
  refine ⟨h.trn, h.prn, by rw [L2.upd_ne ne, L2.upd_same], ?_, by rw [L2.upd_same, List.map_append] <;> rfl, by rw [List.length_append, List.length_append, h.len] <;> rfl, ⟨by rw [List.length_append]; simp, by rw [List.length_append]; simp only [List.length_cons, List.length_nil]; omega⟩, ok, fun i t r' h1 h2 => ?_⟩
  · exact AtAll.up g1 (noLs_all fun t ht => (ok t ht).1.noL) (AtAll.up h.tr (noLs_all fun t ht => (ok t ht).1.noL) (h.all.app hd))
  · refine PredAt.up g1 (ok t (List.mem_of_getElem? h1)).1.noL (PredAt.up h.tr (ok t (List.mem_of_getElem? h1)).1.noL ?_)
    by_cases hi : i < ds.length
    · rw [List.getElem?_append_left hi] at h1
      rw [List.getElem?_append_left (by rw [h.len]; exact hi)] at h2
      exact h.ok i t r' h1 h2
    · have z1 := (List.getElem?_eq_some_iff.mp h1).1
      rw [List.length_append] at z1
      have hl : ds.length = i := by simp only [List.length_cons, List.length_nil] at z1; omega
      rw [← hl, List.getElem?_append_right (Nat.le_refl _), Nat.sub_self] at h1
      rw [← hl, ← h.len, List.getElem?_append_right (Nat.le_refl _), Nat.sub_self] at h2
      cases h1
      cases h2
      exact hp
theorem cut_any {xs : List V} {n : Nat} : cutV xs none (some (n : Int)) = xs.take n := by
  by_cases h : n ≤ xs.length
  · exact cut_to (by omega) (by omega)
  · unfold cutV
    rw [HT.sIx_none]
    conv => lhs; rw [HT.sIx_nat]
    rw [List.drop_zero, Nat.sub_zero, Nat.min_eq_right (by omega), List.take_length, List.take_of_length_le (by omega)]
theorem joinD_vt {way : Int} {d e : PyData} (h : VT d) (h' : VT e) : VT (joinD way d e) := by
  unfold joinD
  by_cases h0 : way = 0
  · rw [if_pos h0]; exact .bin (.inl rfl) h h'
  · rw [if_neg h0]
    by_cases h1 : way = 1
    · rw [if_pos h1]; exact .bin (.inr rfl) h h'
    · rw [if_neg h1]; exact .nt h
theorem joinD_hgt {way : Int} {d e : PyData} (h : hgt d ≤ 40) (h' : hgt e ≤ 40) : hgt (joinD way d e) ≤ 41 := by
  unfold joinD
  by_cases h0 : way = 0
  · rw [if_pos h0, hgt3]; omega
  · rw [if_neg h0]
    by_cases h1 : way = 1
    · rw [if_pos h1, hgt3]; omega
    · rw [if_neg h1, hgt2]; omega
def spLaw (K : PySem.W.Frag) : Sp := fun vs H Q _ => ∃ (a : Addr) (ns : List Int), vs = [.ref a] ∧ ns.length ≤ 63 ∧ SqL K H a (ns.map V.int) ∧ ∀ H', Q (.bl true) H'
section
variable {P : Program} {w : World} {K : PySem.W.Frag} {mg : Str → Option Value} {base : Heap} {cP cW cB cT cO : Addr}
/-- the same of a def that is known -/
theorem ok_of {x : Str} {st : Stmt} {N ps : List Str} {k : Nat} {sp : Sp} {f : Addr} {fd : FuncData} (Ff : L2.Fun K x x st f fd) (S : FnScope N ps (defScope st)) (len : ∀ vs H Q E, sp vs H Q E → vs.length = ps.length)
    (hbody : ∀ (f : Addr) (cdv : Value) (A : Around) (outer : List Env) (s : Shared) (H : Hp) (vs : List V) (Q : VK) (E : XK), Room k (A.deeper (envOfC x (defScope st) s.heap.objs.size f cdv)) → sp vs H Q E →
      ∃ t, PSs (cxOf L2.CX0 P w K mg base N x (defScope st) f cdv A outer s H E).nox (defBody st) t ∧ t { nx := fun _ H' => Q .non H', rt := Q } (start N vs) H) : FnOk P w K mg base L2.CX0 (k + 1) f fd ps sp :=
  Ff.ok S len fun cdv A outer s H vs Q E hr h => hbody f cdv A outer s H vs Q E hr h
theorem k_law {n : Nat} (h95 : 95 ≤ n) (T : Nm K mg) (KC : Kc P K mg cP cW cB cT cO) {fl : Addr} {fdl : FuncData} (F : L2.Fun K "law" "law" s_law fl fdl) (c_Pred : MakN P w K mg base (4 + n + 1) "Pred" cP ["self", "tree"] (spPi cP cB cT n)) (c_law_store : CalK P w K mg base 1 "_law_store" (spStore K)) (c_law_take : CalK P w K mg base 2 "_law_take" spTake) (c_law_number : CalK P w K mg base 3 "_law_number" spNumber)
    (c_law_titles : CalK P w K mg base 5 "_law_titles" spTitles) (c_law_alphabet : CalK P w K mg base 4 "_law_alphabet" spAlphabet) (c_law_atom : CalK P w K mg base 4 "_law_atom" spAtomM) (c_law_pred : CalK P w K mg base 5 "_law_pred" spPredM) (c_law_chain : CalK P w K mg base 5 "_law_chain" spChain) (c_law_triples : CalK P w K mg base 4 "_law_triples" spTriples)
    (c_law_level : CalK P w K mg base (1 + n) "_law_level" (spLev n)) (c_law_atoms : CalK P w K mg base (1 + n) "_law_atoms" (spAtoms n)) (c_law_fits : CalK P w K mg base (n + 3 + 1) "_law_fits" (spFits cP cW n)) (c_law_joined : CalK P w K mg base (4 + n + 3 + 1) "_law_joined" (spJoin cP n)) (c_law_kept : CalK P w K mg base (4 + n + 3 + 1 + 1) "_law_kept" (spKept cP))
    (c_law_refusals : CalK P w K mg base (4 + n + 3 + 1 + 1) "_law_refusals" (spRefusals n)) : FnOk P w K mg base L2.CX0 (4 + n + 3 + 1 + 1 + 1) fl fdl ["script"] (spLaw K) := by
  refine ok_of F sc_law (fun vs H Q E h => ?_) (fun f cdv A outer s H vs Q E hr h => ?_)
  · obtain ⟨a, ns, rfl, _⟩ := h
    rfl
  · obtain ⟨sa, ns, rfl, hns, hsq, q⟩ := h
    have hx : ∀ {X : Cx}, Passes (L2N.CX X.prog X.w) X E0 := passN0
    refine ⟨_, (pss_cons (ps_set (i := 1) sc_law.nd rfl (Or.inl rfl) (C8.pe_c c_law_store hr (by omega) (by rfl) (pa_cons (pv 0) pa_nil)))
      (pss_cons (ps_set (i := 2) sc_law.nd rfl (Or.inl rfl) (C8.pe_c c_law_titles hr (by omega) (by rfl) (pa_cons (pv 1) (pa_cons (C8.pe_c c_law_number hr (by omega) (by rfl) (pa_cons (pv 1) (pa_cons pe_int (pa_cons pe_int pa_nil)))) pa_nil))))
      (pss_cons (ps_set (i := 3) sc_law.nd rfl (Or.inl rfl) (C8.pe_c c_law_alphabet hr (by omega) (by rfl) (pa_cons (pv 1) (pa_cons (C8.pe_c c_law_number hr (by omega) (by rfl) (pa_cons (pv 1) (pa_cons pe_int (pa_cons pe_int pa_nil)))) pa_nil))))
      (pss_cons (ps_set (i := 4) sc_law.nd rfl (Or.inl rfl) (pe_lst (pa_cons (C8.pe_c c_law_atom hr (by omega) (by rfl) (pa_cons (pv 1) (pa_cons (pv 2) (pa_cons (pv 3) pa_nil)))) (pa_cons (C8.pe_c c_law_pred hr (by omega) (by rfl) (pa_cons (pv 1) (pa_cons (pv 2) (pa_cons (pv 3) pa_nil)))) pa_nil))))
      (pss_cons (ps_expr (pe_bm PySem.F.plainAttrs_list PySem.F.slot_list_append PySem.F.type_list_append mt_append (pv 4) (pa_cons (C8.pe_c c_law_chain hr (by omega) (by rfl) (pa_cons (pv 1) (pa_cons (C8.pe_c c_law_atom hr (by omega) (by rfl) (pa_cons (pv 1) (pa_cons (pv 2) (pa_cons (pv 3) pa_nil)))) (pa_cons (pv 2) (pa_cons (pv 3) (pa_cons (C8.pe_c c_law_number hr (by omega) (by rfl) (pa_cons (pv 1) (pa_cons pe_int (pa_cons pe_int pa_nil)))) pa_nil)))))) pa_nil)))
      (pss_cons (ps_set (i := 5) sc_law.nd rfl (Or.inl rfl) (C8.pe_c c_law_chain hr (by omega) (by rfl) (pa_cons (pv 1) (pa_cons (pe_ix (r := rIxL K) ix_list (pv 4) pe_int (fun _ _ => rfl)) (pa_cons (pv 2) (pa_cons (pv 3) (pa_cons (C8.pe_c c_law_number hr (by omega) (by rfl) (pa_cons (pv 1) (pa_cons pe_int (pa_cons pe_int pa_nil)))) pa_nil)))))))
      (pss_cons (ps_set (i := 6) sc_law.nd rfl (Or.inl rfl) (pe_lst (pa_cons (pe_tup (pa_cons pe_str (pa_cons (pe_ix (r := rIxL K) ix_list (pv 4) pe_int (fun _ _ => rfl)) pa_nil))) (pa_cons (pe_tup (pa_cons pe_str (pa_cons (pe_ix (r := rIxL K) ix_list (pv 4) pe_int (fun _ _ => rfl)) pa_nil))) (pa_cons (pe_tup (pa_cons pe_str (pa_cons (pe_ix (r := rIxL K) ix_list (pv 4) pe_int (fun _ _ => rfl)) pa_nil))) pa_nil)))))
      (pss_cons (ps_expr (pe_bm PySem.F.plainAttrs_list PySem.F.slot_list_append PySem.F.type_list_append mt_append (pv 6) (pa_cons (pe_tup (pa_cons pe_str (pa_cons (C8.pe_c c_law_triples hr (by omega) (by rfl) (pa_cons (pv 1) (pa_cons (pv 2) (pa_cons (pv 3) (pa_cons pe_int pa_nil))))) pa_nil))) pa_nil)))
      (pss_cons (ps_expr (pe_bm PySem.F.plainAttrs_list PySem.F.slot_list_append PySem.F.type_list_append mt_append (pv 6) (pa_cons (pe_tup (pa_cons pe_str (pa_cons (pe_ix (r := rIxT K) ix_tup (pe_ix (r := rIxL K) ix_list (pv 6) pe_int (fun _ _ => rfl)) pe_int (fun _ _ => rfl)) (pa_cons (C8.pe_c c_law_triples hr (by omega) (by rfl) (pa_cons (pv 1) (pa_cons (pv 2) (pa_cons (pv 3) (pa_cons pe_int pa_nil))))) pa_nil)))) pa_nil)))
      (pss_cons (ps_setLc (i := 7) (own := [("tree", 13)]) (g := gName 13) (by rfl) sc_law.nd rfl rfl (sw_true rfl rfl rfl (by decide +kernel)) (pi_list (pv 4)) (blkOk_by (own := [("tree", 13)]) (N := ["script", "store", "names", "letters", "trees", "deep", "wishes", "preds", "aimed", "k", "a", "b", "way", "tree", "seen"]) (sc := defScope s_law) (by decide +kernel)) (fun _ _ _ _ _ => pg_name (i := 13) sc_law.nd rfl (Or.inl rfl)) (fun _ _ _ _ _ => pts_nil) (fun _ _ _ _ _ => (pe_mkN c_Pred hr (by omega) hx (by rfl) (pa_cons (pv 13) pa_nil))))
      (pss_cons (ps_set (i := 8) sc_law.nd rfl (Or.inl rfl) (pe_cmpR op_eq (C8.pe_c c_law_take hr (by omega) (by rfl) (pa_cons (pv 1) (pa_cons pe_int pa_nil))) pe_int (nomark _)))
      (pss_cons (ps_for PassesOwn.never rfl (pi_range1 (by rfl) T.n_range (pa_cons (C8.pe_c c_law_number hr (by omega) (by rfl) (pa_cons (pv 1) (pa_cons pe_int (pa_cons pe_int pa_nil)))) pa_nil)) (pg_name (i := 9) sc_law.nd rfl (Or.inl rfl)) (pss_cons (ps_set (i := 10) sc_law.nd rfl (Or.inl rfl) (pe_ifExp (pt_val (pv 8)) (pe_op op_sub (pe_callB cx_len (by rfl) T.n_len (by decide +kernel) (pa_cons (pv 4) pa_nil)) pe_int) (C8.pe_c c_law_take hr (by omega) (by rfl) (pa_cons (pv 1) (pa_cons (pe_callB cx_len (by rfl) T.n_len (by decide +kernel) (pa_cons (pv 4) pa_nil)) pa_nil)))))
      (pss_cons (ps_set (i := 11) sc_law.nd rfl (Or.inl rfl) (C8.pe_c c_law_take hr (by omega) (by rfl) (pa_cons (pv 1) (pa_cons (pe_callB cx_len (by rfl) T.n_len (by decide +kernel) (pa_cons (pv 4) pa_nil)) pa_nil))))
      (pss_cons (ps_set (i := 12) sc_law.nd rfl (Or.inl rfl) (C8.pe_c c_law_take hr (by omega) (by rfl) (pa_cons (pv 1) (pa_cons pe_int pa_nil))))
      (pss_cons (ps_set (i := 13) sc_law.nd rfl (Or.inl rfl) (pe_ix (r := rIxL K) ix_list (pe_lst (pa_cons (pe_tup (pa_cons pe_str (pa_cons (pe_ix (r := rIxL K) ix_list (pv 4) (pv 10) (fun _ _ => rfl)) (pa_cons (pe_ix (r := rIxL K) ix_list (pv 4) (pv 11) (fun _ _ => rfl)) pa_nil)))) (pa_cons (pe_tup (pa_cons pe_str (pa_cons (pe_ix (r := rIxL K) ix_list (pv 4) (pv 10) (fun _ _ => rfl)) (pa_cons (pe_ix (r := rIxL K) ix_list (pv 4) (pv 11) (fun _ _ => rfl)) pa_nil)))) (pa_cons (pe_tup (pa_cons pe_str (pa_cons (pe_ix (r := rIxL K) ix_list (pv 4) (pv 10) (fun _ _ => rfl)) pa_nil))) pa_nil)))) (pv 12) (fun _ _ => rfl)))
      (pss_one (ps_if (pt_cmpR op_le (C8.pe_c c_law_atoms hr (by omega) (by rfl) (pa_cons (pv 13) pa_nil)) pe_int (nomark _)) (pss_cons (ps_set (i := 14) sc_law.nd rfl (Or.inl rfl) (C8.pe_c c_law_joined hr (by omega) (by rfl) (pa_cons (pv 12) (pa_cons (pe_ix (r := rIxL K) ix_list (pv 7) (pv 10) (fun _ _ => rfl)) (pa_cons (pe_ix (r := rIxL K) ix_list (pv 7) (pv 11) (fun _ _ => rfl)) pa_nil)))))
      (pss_cons (ps_if (pt_not (pt_val (C8.pe_c c_law_fits hr (by omega) (by rfl) (pa_cons (pv 14) (pa_cons (pv 13) (pa_cons pe_bl pa_nil)))))) (pss_one (ps_ret pe_bl)) pss_nil)
      (pss_one (ps_if (pt_cmpR op_le (C8.pe_c c_law_level hr (by omega) (by rfl) (pa_cons (pv 13) pa_nil)) pe_int (nomark _)) (pss_cons (ps_expr (pe_bm PySem.F.plainAttrs_list PySem.F.slot_list_append PySem.F.type_list_append mt_append (pv 4) (pa_cons (pv 13) pa_nil)))
      (pss_one (ps_expr (pe_bm PySem.F.plainAttrs_list PySem.F.slot_list_append PySem.F.type_list_append mt_append (pv 7) (pa_cons (pv 14) pa_nil))))) pss_nil)))) pss_nil)))))))
      (pss_one (ps_ret (pe_and (C8.pe_c c_law_kept hr (by omega) (by rfl) (pa_cons (pv 1) (pa_cons (pv 4) (pa_cons (pv 7) (pa_cons (pv 6) pa_nil))))) (pe_one (C8.pe_c c_law_refusals hr (by omega) (by rfl) (pa_cons (pv 1) (pa_cons (pe_slice sl_list (pv 4) po_none (po_some pe_int)) (pa_cons (pv 6) (pa_cons (pv 5) pa_nil))))))))))))))))))))), ?_⟩
    walk_at "xs"
    refine ⟨sa, ns, rfl, hns, hsq, fun S H1 hs1 => ?_⟩
    walk_at "xs"
    refine i_number hs1 fun i2 H2 e2 l1 l2 _ => ?_
    have l2 := l2 (by decide)
    obtain ⟨n2, rfl⟩ : ∃ k : Nat, i2 = k := ⟨i2.toNat, by omega⟩
    walk_at "xs"
    refine i_titles (by omega) e2.st fun N us H3 e3 nN hN lN => ?_
    have fN := e2.st.free nN
    walk_at "xs"
    refine i_number e3.st fun i4 H4 e4 l3 l4 _ => ?_
    have l4 := l4 (by decide)
    obtain ⟨n4, rfl⟩ : ∃ k : Nat, i4 = k := ⟨i4.toNat, by omega⟩
    walk_at "xs"
    refine i_alphabet (by omega) e4.st fun L ls H5 e5 nL hL lL => ?_
    have fL := e4.st.free nL
    have nl : NL S H5 N L us ls := ⟨fN.1, fL.1, ⟨(e4.trans e5).keep _ _ fN.1 hN.1, hN.2⟩, hL, by omega, by omega, by omega, by omega⟩
    have hs5 := e5.st
    clear hsq hN hL nN nL e2 e3 e4 e5 hs1 hns
    walk_at "xs"
    refine i_atomM nl hs5 fun v1 d1 H6 e6 t1 g1 a1 => ?_
    walk_at "xs"
    refine i_predM (nl.ext e6) e6.st fun v2 d2 H7 e7 t2 g2 a2 => ?_
    have a1 := a1.ext e6.st e7
    have e7 := e6.trans e7
    walk_at "xs"
    refine ⟨by show 2 ≤ sizeLine; decide, fun Tr nTr => ?_⟩
    have fTr := e7.st.free nTr
    have nTr5 : H5 Tr = none := by
      cases h : H5 Tr with
      | none => rfl
      | some o => rw [e7.keep _ _ fTr.1 h] at nTr; cases nTr
    have a1 := a1.same (same_new (o := .lst [v1, v2]) nTr)
    have a2 := a2.same (same_new (o := .lst [v1, v2]) nTr)
    have gTr : (L2.upd H7 Tr (.lst [v1, v2])) Tr = _ := L2.upd_same
    have e8 := e7.new (o := .lst [v1, v2]) nTr
    generalize L2.upd H7 Tr (.lst [v1, v2]) = H8 at a1 a2 gTr e8 ⊢
    walk_at "xs"
    refine ⟨.inl ⟨rfl, _, SqL.of gTr⟩, ?_⟩
    walk_at "xs"
    refine i_atomM (nl.ext e8) e8.st fun v3 d3 H9 e9 t3 g3 a3 => ?_
    have a1 := a1.ext e8.st e9
    have a2 := a2.ext e8.st e9
    have gTr := e9.keep _ _ fTr.1 gTr
    have e9 := e8.trans e9
    walk_at "xs"
    refine i_number e9.st fun i10 H10 e10 l5 l6 _ => ?_
    have l6 := l6 (by decide)
    obtain ⟨n10, rfl⟩ : ∃ k : Nat, i10 = k := ⟨i10.toNat, by omega⟩
    have a1 := a1.ext e9.st e10
    have a2 := a2.ext e9.st e10
    have a3 := a3.ext e9.st e10
    have gTr := e10.keep _ _ fTr.1 gTr
    have e10 := e9.trans e10
    walk_at "xs"
    refine i_chain (nl.ext e10) e10.st a3 t3 g3 (by omega) (by omega) fun v4 d4 H11 e11 t4 g4 a4 => ?_
    have a1 := a1.ext e10.st e11
    have a2 := a2.ext e10.st e11
    have gTr := e11.keep _ _ fTr.1 gTr
    have e11 := e10.trans e11
    walk_at "xs"
    refine x_app gTr (by show 2 < sizeLine; decide) ?_
    have a1 := a1.up (o := .lst [v1, v2, v4]) gTr t1.noL
    have a2 := a2.up (o := .lst [v1, v2, v4]) gTr t2.noL
    have a4 := a4.up (o := .lst [v1, v2, v4]) gTr t4.noL
    have gT : (L2.upd H11 Tr (.lst [v1, v2, v4])) Tr = _ := L2.upd_same
    have e12 := e11.mut (o := .lst [v1, v2, v4]) nTr5 fTr
    clear a3 gTr e6 e7 e8 e9 e10 e11
    show _
    rw [show [v1, v2] ++ [v4] = [v1, v2, v4] from rfl]
    generalize L2.upd H11 Tr (.lst [v1, v2, v4]) = H12 at a1 a2 a4 gT e12 ⊢
    walk_at "xs"
    refine x_lstI (SqL.of gT) (atI_nat (j := 0) rfl) ?_
    walk_at "xs"
    refine i_number e12.st fun i13 H13 e13 l7 l8 _ => ?_
    have l8 := l8 (by decide)
    obtain ⟨n13, rfl⟩ : ∃ k : Nat, i13 = k := ⟨i13.toNat, by omega⟩
    have a1 := a1.ext e12.st e13
    have a2 := a2.ext e12.st e13
    have a4 := a4.ext e12.st e13
    have gT := e13.keep _ _ fTr.1 gT
    have e13 := e12.trans e13
    walk_at "xs"
    refine i_chain (nl.ext e13) e13.st a1 t1 g1 (by omega) (by omega) fun vd dd H14 e14 td gd ad => ?_
    have a1 := a1.ext e13.st e14
    have a2 := a2.ext e13.st e14
    have a4 := a4.ext e13.st e14
    have gT := e14.keep _ _ fTr.1 gT
    have e14 := e13.trans e14
    clear e12 e13
    walk_at "xs"
    refine x_lstI (SqL.of gT) (atI_nat (j := 0) rfl) ?_
    walk_at "xs"
    refine ⟨by show 2 ≤ sizeLine; decide, fun w1 m1 => ?_⟩
    have s := same_new (o := .tup [.str "never", v1]) m1
    have b1 : At S.a _ (.tuple [.str "never", d1]) (.ref w1) := ⟨w1, _, rfl, L2.upd_same, _, _, rfl, ⟨rfl, by decide⟩, _, _, rfl, a1.same s, rfl⟩
    have a1 := a1.same s
    have a2 := a2.same s
    have a4 := a4.same s
    have ad := ad.same s
    have gT := s _ _ gT
    have e15 := e14.trans (Ext.same e14.st s)
    generalize L2.upd H14 w1 (.tup [.str "never", v1]) = H15 at s b1 a1 a2 a4 ad gT e15 ⊢
    walk_at "xs"
    refine x_lstI (SqL.of gT) (atI_nat (j := 1) rfl) ?_
    walk_at "xs"
    refine ⟨by show 2 ≤ sizeLine; decide, fun w2 m2 => ?_⟩
    have s := same_new (o := .tup [.str "home", v2]) m2
    have b2 : At S.a _ (.tuple [.str "home", d2]) (.ref w2) := ⟨w2, _, rfl, L2.upd_same, _, _, rfl, ⟨rfl, by decide⟩, _, _, rfl, a2.same s, rfl⟩
    have b1 := b1.same s
    have a1 := a1.same s
    have a2 := a2.same s
    have a4 := a4.same s
    have ad := ad.same s
    have gT := s _ _ gT
    have e16 := e15.trans (Ext.same e15.st s)
    generalize L2.upd H15 w2 (.tup [.str "home", v2]) = H16 at s b1 b2 a1 a2 a4 ad gT e16 ⊢
    walk_at "xs"
    refine x_lstI (SqL.of gT) (atI_nat (j := 2) rfl) ?_
    walk_at "xs"
    refine ⟨by show 2 ≤ sizeLine; decide, fun w3 m3 => ?_⟩
    have s := same_new (o := .tup [.str "home", v4]) m3
    have b3 : At S.a _ (.tuple [.str "home", d4]) (.ref w3) := ⟨w3, _, rfl, L2.upd_same, _, _, rfl, ⟨rfl, by decide⟩, _, _, rfl, a4.same s, rfl⟩
    have b1 := b1.same s
    have b2 := b2.same s
    have a1 := a1.same s
    have a2 := a2.same s
    have a4 := a4.same s
    have ad := ad.same s
    have gT := s _ _ gT
    have e17 := e16.trans (Ext.same e16.st s)
    generalize L2.upd H16 w3 (.tup [.str "home", v4]) = H17 at s b1 b2 b3 a1 a2 a4 ad gT e17 ⊢
    clear e15 e16
    walk_at "xs"
    refine ⟨by show 3 ≤ sizeLine; decide, fun Ws nWs => ?_⟩
    have fWs := e17.st.free nWs
    have nWs5 : H5 Ws = none := by
      cases h : H5 Ws with
      | none => rfl
      | some o => rw [e17.keep _ _ fWs.1 h] at nWs; cases nWs
    have ntw : Ws ≠ Tr := (ne_of_none gT nWs).symm
    have s := same_new (o := .lst [.ref w1, .ref w2, .ref w3]) nWs
    have b1 := b1.same s
    have b2 := b2.same s
    have b3 := b3.same s
    have a1 := a1.same s
    have a2 := a2.same s
    have a4 := a4.same s
    have ad := ad.same s
    have gT := s _ _ gT
    have gW : (L2.upd H17 Ws (.lst [.ref w1, .ref w2, .ref w3])) Ws = _ := L2.upd_same
    have e18 := e17.trans (Ext.same e17.st s)
    generalize L2.upd H17 Ws (.lst [.ref w1, .ref w2, .ref w3]) = H18 at s b1 b2 b3 a1 a2 a4 ad gT gW e18 ⊢
    have x1 : VW (.tuple [.str "never", d1]) := .aim (.inl rfl) t1
    have x2 : VW (.tuple [.str "home", d2]) := .aim (.inr rfl) t2
    have x3 : VW (.tuple [.str "home", d4]) := .aim (.inr rfl) t4
    walk_at "xs"
    refine ⟨.inl ⟨rfl, _, SqL.of gW⟩, ?_⟩
    walk_at "xs"
    refine i_triplesM (nl.ext e18) (by decide) (by decide) e18.st fun v5 d5 H19 e19 t5 a5 => ?_
    have b1 := b1.ext e18.st e19
    have b2 := b2.ext e18.st e19
    have b3 := b3.ext e18.st e19
    have a1 := a1.ext e18.st e19
    have a2 := a2.ext e18.st e19
    have a4 := a4.ext e18.st e19
    have ad := ad.ext e18.st e19
    have gT := e19.keep _ _ fTr.1 gT
    have gW := e19.keep _ _ fWs.1 gW
    have e19 := e18.trans e19
    walk_at "xs"
    refine ⟨by show 2 ≤ sizeLine; decide, fun w4 m4 => ?_⟩
    have s := same_new (o := .tup [.str "again", v5]) m4
    have a5 := a5.same s
    have g4' : (L2.upd H19 w4 (.tup [.str "again", v5])) w4 = _ := L2.upd_same
    have b1 := b1.same s
    have b2 := b2.same s
    have b3 := b3.same s
    have a1 := a1.same s
    have a2 := a2.same s
    have a4 := a4.same s
    have ad := ad.same s
    have gT := s _ _ gT
    have gW := s _ _ gW
    have e20 := e19.trans (Ext.same e19.st s)
    generalize L2.upd H19 w4 (.tup [.str "again", v5]) = H20 at s g4' b1 b2 b3 a1 a2 a4 a5 ad gT gW e20 ⊢
    have b4 : At S.a H20 (.tuple [.str "again", d5]) (.ref w4) := ⟨w4, _, rfl, g4', _, _, rfl, ⟨rfl, by decide⟩, _, _, rfl, a5, rfl⟩
    have x4 : VW (.tuple [.str "again", d5]) := .again t5
    walk_at "xs"
    refine x_app gW (by show 3 < sizeLine; decide) ?_
    rw [show [V.ref w1, V.ref w2, V.ref w3] ++ [V.ref w4] = [V.ref w1, V.ref w2, V.ref w3, V.ref w4] from rfl]
    have b1 := b1.up (o := .lst [.ref w1, .ref w2, .ref w3, .ref w4]) gW x1.noL.1
    have b2 := b2.up (o := .lst [.ref w1, .ref w2, .ref w3, .ref w4]) gW x2.noL.1
    have b3 := b3.up (o := .lst [.ref w1, .ref w2, .ref w3, .ref w4]) gW x3.noL.1
    have b4 := b4.up (o := .lst [.ref w1, .ref w2, .ref w3, .ref w4]) gW x4.noL.1
    have a5 := a5.up (o := .lst [.ref w1, .ref w2, .ref w3, .ref w4]) gW t5.more.1
    have a1 := a1.up (o := .lst [.ref w1, .ref w2, .ref w3, .ref w4]) gW t1.noL
    have a2 := a2.up (o := .lst [.ref w1, .ref w2, .ref w3, .ref w4]) gW t2.noL
    have a4 := a4.up (o := .lst [.ref w1, .ref w2, .ref w3, .ref w4]) gW t4.noL
    have ad := ad.up (o := .lst [.ref w1, .ref w2, .ref w3, .ref w4]) gW td.noL
    have g4' : (L2.upd H20 Ws (.lst [.ref w1, .ref w2, .ref w3, .ref w4])) w4 = some (.tup [.str "again", v5]) := by rw [L2.upd_ne (ne_of g4' gW fun z => by cases z)]; exact g4'
    have gT : (L2.upd H20 Ws (.lst [.ref w1, .ref w2, .ref w3, .ref w4])) Tr = some (.lst [v1, v2, v4]) := by rw [L2.upd_ne ntw.symm]; exact gT
    have e21 := e20.mut (o := .lst [.ref w1, .ref w2, .ref w3, .ref w4]) nWs5 fWs
    have gW : (L2.upd H20 Ws (.lst [.ref w1, .ref w2, .ref w3, .ref w4])) Ws = _ := L2.upd_same
    clear e17 e18 e19 e20 s
    generalize L2.upd H20 Ws (.lst [.ref w1, .ref w2, .ref w3, .ref w4]) = H21 at g4' b1 b2 b3 b4 a1 a2 a4 a5 ad gT gW e21 ⊢
    walk_at "xs"
    refine ⟨.inl ⟨rfl, _, SqL.of gW⟩, ?_⟩
    walk_at "xs"
    refine x_lstI (SqL.of gW) (atI_nat (j := 3) rfl) ?_
    walk_at "xs"
    refine x_tupI (SqT.of g4') (atI_nat (j := 1) rfl) ?_
    walk_at "xs"
    refine i_triplesM (nl.ext e21) (by decide) (by decide) e21.st fun v6 d6 H22 e22 t6 a6 => ?_
    have b1 := b1.ext e21.st e22
    have b2 := b2.ext e21.st e22
    have b3 := b3.ext e21.st e22
    have b4 := b4.ext e21.st e22
    have a1 := a1.ext e21.st e22
    have a2 := a2.ext e21.st e22
    have a4 := a4.ext e21.st e22
    have a5 := a5.ext e21.st e22
    have ad := ad.ext e21.st e22
    have gT := e22.keep _ _ fTr.1 gT
    have gW := e22.keep _ _ fWs.1 gW
    have e22 := e21.trans e22
    walk_at "xs"
    refine ⟨by show 3 ≤ sizeLine; decide, fun w5 m5 => ?_⟩
    have s := same_new (o := .tup [.str "answered", v5, v6]) m5
    have b5 : At S.a _ (.tuple [.str "answered", d5, d6]) (.ref w5) := ⟨w5, _, rfl, L2.upd_same, _, _, rfl, ⟨rfl, by decide⟩, _, _, rfl, a5.same s, _, _, rfl, a6.same s, rfl⟩
    have b1 := b1.same s
    have b2 := b2.same s
    have b3 := b3.same s
    have b4 := b4.same s
    have a1 := a1.same s
    have a2 := a2.same s
    have a4 := a4.same s
    have ad := ad.same s
    have gT := s _ _ gT
    have gW := s _ _ gW
    have e23 := e22.trans (Ext.same e22.st s)
    generalize L2.upd H22 w5 (.tup [.str "answered", v5, v6]) = H23 at s b1 b2 b3 b4 b5 a1 a2 a4 ad gT gW e23 ⊢
    have x5 : VW (.tuple [.str "answered", d5, d6]) := .answered t5 t6
    walk_at "xs"
    refine x_app gW (by show 4 < sizeLine; decide) ?_
    have hes : AtAll S.a H23 [.tuple [.str "never", d1], .tuple [.str "home", d2], .tuple [.str "home", d4], .tuple [.str "again", d5], .tuple [.str "answered", d5, d6]] ([V.ref w1, V.ref w2, V.ref w3, V.ref w4] ++ [V.ref w5]) :=
      ⟨_, _, rfl, b1, _, _, rfl, b2, _, _, rfl, b3, _, _, rfl, b4, _, _, rfl, b5, rfl⟩
    have hds : AtAll S.a H23 [d1, d2, d4] [v1, v2, v4] := ⟨_, _, rfl, a1, _, _, rfl, a2, _, _, rfl, a4, rfl⟩
    have hev : ∀ t ∈ ([.tuple [.str "never", d1], .tuple [.str "home", d2], .tuple [.str "home", d4], .tuple [.str "again", d5], .tuple [.str "answered", d5, d6]] : List PyData), VW t ∧ lvW t ≤ 40 ∧ hgt t ≤ 41 := fun t ht => by
      have h5 := t5.more.2.2
      have h6 := t6.more.2.2
      simp only [List.mem_cons, List.not_mem_nil, or_false] at ht
      rcases ht with rfl | rfl | rfl | rfl | rfl
      · exact ⟨x1, by simp [lvW]; omega, by rw [hgt2]; omega⟩
      · exact ⟨x2, by simp [lvW]; omega, by rw [hgt2]; omega⟩
      · exact ⟨x3, by simp [lvW]; omega, by rw [hgt2]; omega⟩
      · exact ⟨x4, by simp only [lvW]; split <;> omega, by rw [hgt2]; omega⟩
      · exact ⟨x5, by simp [lvW], by rw [hgt3]; omega⟩
    have hdv : ∀ t ∈ [d1, d2, d4], VT t ∧ hgt t ≤ 40 := fun t ht => by
      simp only [List.mem_cons, List.not_mem_nil, or_false] at ht
      rcases ht with rfl | rfl | rfl
      · exact ⟨t1, by omega⟩
      · exact ⟨t2, by omega⟩
      · exact ⟨t4, by omega⟩
    have wv : WS S (L2.upd H23 Ws (.lst ([V.ref w1, V.ref w2, V.ref w3, V.ref w4] ++ [V.ref w5]))) Ws [.tuple [.str "never", d1], .tuple [.str "home", d2], .tuple [.str "home", d4], .tuple [.str "again", d5], .tuple [.str "answered", d5, d6]] ([V.ref w1, V.ref w2, V.ref w3, V.ref w4] ++ [V.ref w5]) :=
      ⟨fWs.1, L2.upd_same, hes.up gW (VWs.noLs hev), ⟨by show 1 ≤ 5; decide, by show 5 ≤ 20; decide⟩, hev⟩
    have hds := hds.up (o := .lst ([V.ref w1, V.ref w2, V.ref w3, V.ref w4] ++ [V.ref w5])) gW (noLs_all fun t ht => (hdv t ht).1.noL)
    have ad := ad.up (o := .lst ([V.ref w1, V.ref w2, V.ref w3, V.ref w4] ++ [V.ref w5])) gW td.noL
    have gT : (L2.upd H23 Ws (.lst ([V.ref w1, V.ref w2, V.ref w3, V.ref w4] ++ [V.ref w5]))) Tr = some (.lst [v1, v2, v4]) := by rw [L2.upd_ne ntw.symm]; exact gT
    have e24 := e23.mut (o := .lst ([V.ref w1, V.ref w2, V.ref w3, V.ref w4] ++ [V.ref w5])) nWs5 fWs
    generalize L2.upd H23 Ws (.lst ([V.ref w1, V.ref w2, V.ref w3, V.ref w4] ++ [V.ref w5])) = H24 at wv hds ad gT e24 ⊢
    clear hes hev gW b1 b2 b3 b4 b5 a1 a2 a4 a6 e23 e22 e21 s x1 x2 x3 x4 x5
    generalize hES : ([.tuple [.str "never", d1], .tuple [.str "home", d2], .tuple [.str "home", d4], .tuple [.str "again", d5], .tuple [.str "answered", d5, d6]] : List PyData) = es at wv
    generalize [V.ref w1, V.ref w2, V.ref w3, V.ref w4] ++ [V.ref w5] = ws at wv
    have hd3 : [d1, d2, d4].length = 3 := rfl
    generalize hDS : [d1, d2, d4] = ds at hds hdv hd3
    have hl3 := hds.length
    generalize [v1, v2, v4] = vs at hds gT hl3 ⊢
    clear hES hDS
    walk_at "xs"
    refine ⟨Tr, rfl, ⟨_, SqL.of gT⟩, fun Pr nPr => lc_list (xs := vs) (fun i H' => ∃ rs : List Addr, Ext S H24 H' ∧ H' Pr = some (.lst (rs.map V.ref)) ∧ rs.length = i ∧ ∀ (j : Nat) d r, ds[j]? = some d → rs[j]? = some r → PredAt cP S.a H' r d) ?_ ?_ ?_ ?_⟩
    · exact ⟨[], (Ext.refl e24.st).new nPr, L2.upd_same, rfl, fun j d r _ h => by cases h⟩
    · rintro i H' hi ⟨rs, ex, _⟩
      exact SqL.of (ex.keep _ _ fTr.1 gT)
    · rintro i x H25 hxi ⟨rs, ex, gP, hl, hok⟩
      have fPr := e24.st.free nPr
      walk_at "xs"
      refine ⟨rfl, ?_⟩
      walk_at "xs"
      have hi := (List.getElem?_eq_some_iff.mp hxi).1
      obtain ⟨t, ht⟩ : ∃ t, ds[i]? = some t := ⟨_, List.getElem?_eq_getElem (by omega)⟩
      obtain ⟨x', hx', hxa⟩ := (hds.ext e24.st ex).get ht
      rw [hxi] at hx'
      obtain rfl := Option.some.inj hx'
      obtain ⟨vt, lt⟩ := hdv t (List.mem_of_getElem? ht)
      refine i_PredR (n := n) hxa (by omega) vt lt fun r H26 s26 pr => ?_
      have gP := s26 _ _ gP
      refine ⟨_, gP, by rw [List.length_map]; exact szl (by omega), rs ++ [r], (ex.trans (Ext.same ex.st s26)).mut nPr fPr, by rw [L2.upd_same, List.map_append] <;> rfl, by rw [List.length_append, hl] <;> rfl, fun j d' r' h1 h2 => ?_⟩
      refine PredAt.up gP (hdv d' (List.mem_of_getElem? h1)).1.noL ?_
      by_cases hj : j < rs.length
      · rw [List.getElem?_append_left hj] at h2
        exact (hok j d' r' h1 h2).same s26
      · have z1 := (List.getElem?_eq_some_iff.mp h2).1
        rw [List.length_append] at z1
        have hlj : rs.length = j := by simp only [List.length_cons, List.length_nil] at z1; omega
        rw [← hlj, List.getElem?_append_right (Nat.le_refl _), Nat.sub_self] at h2
        cases h2
        rw [← hlj, hl, ht] at h1
        cases h1
        exact pr
    · rintro H25 ⟨rs, ex, gP, hl, hok⟩
      have fPr := e24.st.free nPr
      have nPr5 : H5 Pr = none := by
        cases h : H5 Pr with
        | none => rfl
        | some o => rw [e24.keep _ _ fPr.1 h] at nPr; cases nPr
      have ntp : Tr ≠ Pr := ne_of_none gT nPr
      have nwp : Ws ≠ Pr := ne_of_none wv.ws nPr
      have wv := wv.ext e24.st ex
      have ad := ad.ext e24.st ex
      have tp : TP cP S H25 Tr Pr ds vs rs := ⟨fTr.1, fPr.1, ex.keep _ _ fTr.1 gT, hds.ext e24.st ex, gP, by omega, ⟨by omega, by omega⟩, hdv, hok⟩
      have e25 := e24.trans ex
      clear ex gP hok gT hds hdv nPr
      walk_at "xs"
      refine i_take (by decide) e25.st fun aim H26 e26 _ _ => ?_
      have wv := wv.ext e25.st e26
      have ad := ad.ext e25.st e26
      have tp := tp.ext e25.st e26
      have e26 := e25.trans e26
      walk_at "xs"
      refine i_number e26.st fun i27 H27 e27 l9 l10 _ => ?_
      have l10 := l10 (by decide)
      obtain ⟨n27, rfl⟩ : ∃ k : Nat, i27 = k := ⟨i27.toNat, by omega⟩
      have wv := wv.ext e26.st e27
      have ad := ad.ext e26.st e27
      have tp := tp.ext e26.st e27
      have e27 := e26.trans e27
      clear e26 e25
      walk_at "xs"
      refine ⟨n27, rfl, by omega, by omega, for_range (lo := 0) (n := n27) (fun i σ' H' => (∃ (ab : Bool) (y9 y10 y11 y12 y13 y14 : Option V), σ' = [some (.ref sa), some (.ref S.a), some (.ref N), some (.ref L), some (.ref Tr), some vd, some (.ref Ws), some (.ref Pr), some (.bl ab), y9, y10, y11, y12, y13, y14]) ∧ Ext S H5 H' ∧ WS S H' Ws es ws ∧ At S.a H' dd vd ∧ ∃ ds vs rs, TP cP S H' Tr Pr ds vs rs ∧ ds.length ≤ 3 + i) ?_ ?_ ?_⟩
      · exact ⟨⟨_, _, _, _, _, _, _, rfl⟩, e27, wv, ad, ds, vs, rs, tp, by omega⟩
      · clear wv ad tp e27 hl3 hl hd3
        rintro i σ' H28 hi ⟨⟨ab, y9, y10, y11, y12, y13, y14, rfl⟩, e28, wv, ad, ds, vs, rs, tp, hlen⟩
        have lv := tp.all.length
        have lb := tp.lb
        walk_at "xs"
        refine x_ite (fun hb => ?_) (fun hb => ?_)
        · walk_at "xs"
          refine x_lenL (SqL.of tp.tr) ?_
          walk_at "xs"
          have hav : 0 ≤ (vs.length : Int) - 1 ∧ (vs.length : Int) - 1 < vs.length := by omega
          generalize (vs.length : Int) - 1 = av at hav ⊢
          clear hb
          refine x_lenL (SqL.of tp.tr) ?_
          walk_at "xs"
          refine i_take (by omega) e28.st fun bv H31 e31 z0 z1 => ?_
          have hbv : 0 ≤ bv ∧ bv < vs.length := take_ix (by omega) z0 z1
          have wv := wv.ext e28.st e31
          have ad := ad.ext e28.st e31
          have tp := tp.ext e28.st e31
          have e31 := e28.trans e31
          walk_at "xs"
          refine i_take (by decide) e31.st fun way H32 e32 _ z3 => ?_
          have z3 := z3 (by decide)
          have wv := wv.ext e31.st e32
          have ad := ad.ext e31.st e32
          have tp := tp.ext e31.st e32
          have e32 := e31.trans e32
          obtain ⟨da, va, ra, hda, hva, hra, ata, pa_, vta, lda⟩ := tp.at_ (i := av) hav.1 (by omega)
          obtain ⟨db, vb, rb, hdb, hvb, hrb, atb, pb_, vtb, ldb⟩ := tp.at_ (i := bv) hbv.1 (by omega)
          walk_at "xs"
          refine x_lstI (SqL.of tp.tr) (atI_int hav.1 hva) ?_
          walk_at "xs"
          refine x_lstI (SqL.of tp.tr) (atI_int hbv.1 hvb) ?_
          walk_at "xs"
          refine ⟨by show 3 ≤ sizeLine; decide, fun q1 m1 => ?_⟩
          have s := same_new (o := .tup [.str "and", va, vb]) m1
          have j1 : At S.a _ (.tuple [.str "and", da, db]) (.ref q1) := ⟨q1, _, rfl, L2.upd_same, _, _, rfl, ⟨rfl, by decide⟩, _, _, rfl, ata.same s, _, _, rfl, atb.same s, rfl⟩
          have tp := tp.ext e32.st (Ext.same e32.st s)
          have wv := wv.ext e32.st (Ext.same e32.st s)
          have ata := ata.same s
          have atb := atb.same s
          have ad := ad.same s
          have pa_ := pa_.same s
          have pb_ := pb_.same s
          have e33 := e32.trans (Ext.same e32.st s)
          generalize L2.upd H32 q1 (.tup [.str "and", va, vb]) = H33 at s j1 tp wv ata atb ad pa_ pb_ e33 ⊢
          walk_at "xs"
          refine x_lstI (SqL.of tp.tr) (atI_int hav.1 hva) ?_
          walk_at "xs"
          refine x_lstI (SqL.of tp.tr) (atI_int hbv.1 hvb) ?_
          walk_at "xs"
          refine ⟨by show 3 ≤ sizeLine; decide, fun q2 m2 => ?_⟩
          have s := same_new (o := .tup [.str "or", va, vb]) m2
          have j2 : At S.a _ (.tuple [.str "or", da, db]) (.ref q2) := ⟨q2, _, rfl, L2.upd_same, _, _, rfl, ⟨rfl, by decide⟩, _, _, rfl, ata.same s, _, _, rfl, atb.same s, rfl⟩
          have j1 := j1.same s
          have tp := tp.ext e33.st (Ext.same e33.st s)
          have wv := wv.ext e33.st (Ext.same e33.st s)
          have ata := ata.same s
          have ad := ad.same s
          have pa_ := pa_.same s
          have pb_ := pb_.same s
          have e34 := e33.trans (Ext.same e33.st s)
          generalize L2.upd H33 q2 (.tup [.str "or", va, vb]) = H34 at s j1 j2 tp wv ata ad pa_ pb_ e34 ⊢
          walk_at "xs"
          refine x_lstI (SqL.of tp.tr) (atI_int hav.1 hva) ?_
          walk_at "xs"
          refine ⟨by show 2 ≤ sizeLine; decide, fun q3 m3 => ?_⟩
          have s := same_new (o := .tup [.str "not", va]) m3
          have j3 : At S.a _ (.tuple [.str "not", da]) (.ref q3) := ⟨q3, _, rfl, L2.upd_same, _, _, rfl, ⟨rfl, by decide⟩, _, _, rfl, ata.same s, rfl⟩
          have j1 := j1.same s
          have j2 := j2.same s
          have tp := tp.ext e34.st (Ext.same e34.st s)
          have wv := wv.ext e34.st (Ext.same e34.st s)
          have ad := ad.same s
          have pa_ := pa_.same s
          have pb_ := pb_.same s
          have e35 := e34.trans (Ext.same e34.st s)
          generalize L2.upd H34 q3 (.tup [.str "not", va]) = H35 at s j1 j2 j3 tp wv ad pa_ pb_ e35 ⊢
          walk_at "xs"
          refine ⟨by show 3 ≤ sizeLine; decide, fun q4 m4 => ?_⟩
          have s := same_new (o := .lst [.ref q1, .ref q2, .ref q3]) m4
          have g4 : (L2.upd H35 q4 (.lst [.ref q1, .ref q2, .ref q3])) q4 = _ := L2.upd_same
          have j1 := j1.same s
          have j2 := j2.same s
          have j3 := j3.same s
          have tp := tp.ext e35.st (Ext.same e35.st s)
          have wv := wv.ext e35.st (Ext.same e35.st s)
          have ad := ad.same s
          have pa_ := pa_.same s
          have pb_ := pb_.same s
          have e36 := e35.trans (Ext.same e35.st s)
          generalize L2.upd H35 q4 (.lst [.ref q1, .ref q2, .ref q3]) = H36 at s g4 j1 j2 j3 tp wv ad pa_ pb_ e36 ⊢
          clear s e28 e31 e32 e33 e34 e35
          walk_at "xs"
          obtain ⟨qt, hqt, jt⟩ : ∃ qt, [V.ref q1, V.ref q2, V.ref q3][way.toNat]? = some (.ref qt) ∧ At S.a H36 (joinD way da db) (.ref qt) := by
            unfold joinD
            rcases (show way = 0 ∨ way = 1 ∨ way = 2 by omega) with rfl | rfl | rfl
            · exact ⟨q1, rfl, j1⟩
            · exact ⟨q2, rfl, j2⟩
            · exact ⟨q3, rfl, j3⟩
          refine x_lstI (SqL.of g4) (atI_int z3.1 hqt) ?_
          have vj := joinD_vt (way := way) vta vtb
          have hj := joinD_hgt (way := way) lda ldb
          have hjl := vj.level
          clear j1 j2 j3 g4
          obtain ⟨tds, htds⟩ := vj.tup
          walk_at "xs"
          rw [htds] at jt vj hj hjl
          refine i_atoms jt vj.wid (by omega) fun cnt H37 s37 => ?_
          have jt := jt.same s37
          have tp := tp.ext e36.st (Ext.same e36.st s37)
          have wv := wv.ext e36.st (Ext.same e36.st s37)
          have ad := ad.same s37
          have pa_ := pa_.same s37
          have pb_ := pb_.same s37
          have e37 := e36.trans (Ext.same e36.st s37)
          walk_at "xs"
          refine x_dec (fun _ => ?_) (fun _ => ?_)
          · walk_at "xs"
            have hav' : rs[av.toNat]? = some ra := hra
            refine x_lstI (SqL.of tp.pr) (atI_int hav.1 (by rw [List.getElem?_map, hra] <;> rfl)) ?_
            walk_at "xs"
            refine x_lstI (SqL.of tp.pr) (atI_int hbv.1 (by rw [List.getElem?_map, hrb] <;> rfl)) ?_
            walk_at "xs"
            refine i_join (d := da) (e := db) pa_ pb_ (by rw [htds]; omega) ?_
            rw [htds]
            refine ⟨fun z => by omega, fun z H38 r s38 g38 => ?_, fun _ z H38 r s38 g38 => ?_⟩
            · have jt := jt.same s38
              have tp := tp.ext e37.st (Ext.same e37.st s38)
              have wv := wv.ext e37.st (Ext.same e37.st s38)
              have ad := ad.same s38
              have e38 := e37.trans (Ext.same e37.st s38)
              walk_at "xs"
              refine i_fitsP (by omega) jt vj (.inr ⟨by omega, g38⟩) fun H39 s39 => ?_
              have jt := jt.same s39
              have tp := tp.ext e38.st (Ext.same e38.st s39)
              have wv := wv.ext e38.st (Ext.same e38.st s39)
              have ad := ad.same s39
              have e39 := e38.trans (Ext.same e38.st s39)
              walk_at "xs"
              refine iteF ?_
              walk_at "xs"
              refine i_lev jt vj.wid (by omega) fun H40 s40 => ?_
              have tp := tp.ext e39.st (Ext.same e39.st s40)
              have wv := wv.ext e39.st (Ext.same e39.st s40)
              have ad := ad.same s40
              have e40 := e39.trans (Ext.same e39.st s40)
              walk_at "xs"
              refine x_dec (fun h => by omega) (fun _ => ?_)
              walk_at "xs"
              exact ⟨⟨_, _, _, _, _, _, _, rfl⟩, e40, wv, ad, ds, vs, rs, tp, by omega⟩
            · have jt := jt.same s38
              have tp := tp.ext e37.st (Ext.same e37.st s38)
              have wv := wv.ext e37.st (Ext.same e37.st s38)
              have ad := ad.same s38
              have e38 := e37.trans (Ext.same e37.st s38)
              walk_at "xs"
              refine i_fitsP (by omega) jt vj (.inl ⟨by omega, g38⟩) fun H39 s39 => ?_
              have jt := jt.same s39
              have g38 := g38.same s39
              have tp := tp.ext e38.st (Ext.same e38.st s39)
              have wv := wv.ext e38.st (Ext.same e38.st s39)
              have ad := ad.same s39
              have e39 := e38.trans (Ext.same e38.st s39)
              walk_at "xs"
              refine iteF ?_
              walk_at "xs"
              refine i_lev jt vj.wid (by omega) fun H40 s40 => ?_
              have jt := jt.same s40
              have g38 := g38.same s40
              have tp := tp.ext e39.st (Ext.same e39.st s40)
              have wv := wv.ext e39.st (Ext.same e39.st s40)
              have ad := ad.same s40
              have e40 := e39.trans (Ext.same e39.st s40)
              walk_at "xs"
              refine x_dec (fun h40 => ?_) (fun h => by omega)
              walk_at "xs"
              refine ⟨.inl ⟨rfl, _, SqL.of tp.tr⟩, ?_⟩
              walk_at "xs"
              refine x_app tp.tr (szl (by omega)) ?_
              walk_at "xs"
              have gp : (L2.upd H40 Tr (.lst (vs ++ [.ref qt]))) Pr = some (.lst (rs.map V.ref)) := by rw [L2.upd_ne ntp.symm]; exact tp.pr
              refine ⟨.inl ⟨rfl, _, SqL.of gp⟩, ?_⟩
              walk_at "xs"
              refine x_app gp (by rw [List.length_map]; exact szl (by have := tp.len; omega)) ?_
              walk_at "xs"
              refine ⟨⟨_, _, _, _, _, _, _, rfl⟩, (e40.mut nTr5 fTr).mut nPr5 fPr, (wv.up tp.tr ntw).up gp nwp, (ad.up tp.tr td.noL).up gp td.noL, _, _, _, tp.push ntp (by omega) jt g38 vj (by omega), by rw [List.length_append]; simp only [List.length_cons, List.length_nil]; omega⟩
          · walk_at "xs"
            exact ⟨⟨_, _, _, _, _, _, _, rfl⟩, e37, wv, ad, ds, vs, rs, tp, by omega⟩
        · walk_at "xs"
          refine x_lenL (SqL.of tp.tr) ?_
          walk_at "xs"
          refine i_take (by omega) e28.st fun av H28 e29 z0 z1 => ?_
          have hav : 0 ≤ av ∧ av < vs.length := take_ix (by omega) z0 z1
          have wv := wv.ext e28.st e29
          have ad := ad.ext e28.st e29
          have tp := tp.ext e28.st e29
          have e28 := e28.trans e29
          walk_at "xs"
          clear hb
          refine x_lenL (SqL.of tp.tr) ?_
          walk_at "xs"
          refine i_take (by omega) e28.st fun bv H31 e31 z0 z1 => ?_
          have hbv : 0 ≤ bv ∧ bv < vs.length := take_ix (by omega) z0 z1
          have wv := wv.ext e28.st e31
          have ad := ad.ext e28.st e31
          have tp := tp.ext e28.st e31
          have e31 := e28.trans e31
          walk_at "xs"
          refine i_take (by decide) e31.st fun way H32 e32 _ z3 => ?_
          have z3 := z3 (by decide)
          have wv := wv.ext e31.st e32
          have ad := ad.ext e31.st e32
          have tp := tp.ext e31.st e32
          have e32 := e31.trans e32
          obtain ⟨da, va, ra, hda, hva, hra, ata, pa_, vta, lda⟩ := tp.at_ (i := av) hav.1 (by omega)
          obtain ⟨db, vb, rb, hdb, hvb, hrb, atb, pb_, vtb, ldb⟩ := tp.at_ (i := bv) hbv.1 (by omega)
          walk_at "xs"
          refine x_lstI (SqL.of tp.tr) (atI_int hav.1 hva) ?_
          walk_at "xs"
          refine x_lstI (SqL.of tp.tr) (atI_int hbv.1 hvb) ?_
          walk_at "xs"
          refine ⟨by show 3 ≤ sizeLine; decide, fun q1 m1 => ?_⟩
          have s := same_new (o := .tup [.str "and", va, vb]) m1
          have j1 : At S.a _ (.tuple [.str "and", da, db]) (.ref q1) := ⟨q1, _, rfl, L2.upd_same, _, _, rfl, ⟨rfl, by decide⟩, _, _, rfl, ata.same s, _, _, rfl, atb.same s, rfl⟩
          have tp := tp.ext e32.st (Ext.same e32.st s)
          have wv := wv.ext e32.st (Ext.same e32.st s)
          have ata := ata.same s
          have atb := atb.same s
          have ad := ad.same s
          have pa_ := pa_.same s
          have pb_ := pb_.same s
          have e33 := e32.trans (Ext.same e32.st s)
          generalize L2.upd H32 q1 (.tup [.str "and", va, vb]) = H33 at s j1 tp wv ata atb ad pa_ pb_ e33 ⊢
          walk_at "xs"
          refine x_lstI (SqL.of tp.tr) (atI_int hav.1 hva) ?_
          walk_at "xs"
          refine x_lstI (SqL.of tp.tr) (atI_int hbv.1 hvb) ?_
          walk_at "xs"
          refine ⟨by show 3 ≤ sizeLine; decide, fun q2 m2 => ?_⟩
          have s := same_new (o := .tup [.str "or", va, vb]) m2
          have j2 : At S.a _ (.tuple [.str "or", da, db]) (.ref q2) := ⟨q2, _, rfl, L2.upd_same, _, _, rfl, ⟨rfl, by decide⟩, _, _, rfl, ata.same s, _, _, rfl, atb.same s, rfl⟩
          have j1 := j1.same s
          have tp := tp.ext e33.st (Ext.same e33.st s)
          have wv := wv.ext e33.st (Ext.same e33.st s)
          have ata := ata.same s
          have ad := ad.same s
          have pa_ := pa_.same s
          have pb_ := pb_.same s
          have e34 := e33.trans (Ext.same e33.st s)
          generalize L2.upd H33 q2 (.tup [.str "or", va, vb]) = H34 at s j1 j2 tp wv ata ad pa_ pb_ e34 ⊢
          walk_at "xs"
          refine x_lstI (SqL.of tp.tr) (atI_int hav.1 hva) ?_
          walk_at "xs"
          refine ⟨by show 2 ≤ sizeLine; decide, fun q3 m3 => ?_⟩
          have s := same_new (o := .tup [.str "not", va]) m3
          have j3 : At S.a _ (.tuple [.str "not", da]) (.ref q3) := ⟨q3, _, rfl, L2.upd_same, _, _, rfl, ⟨rfl, by decide⟩, _, _, rfl, ata.same s, rfl⟩
          have j1 := j1.same s
          have j2 := j2.same s
          have tp := tp.ext e34.st (Ext.same e34.st s)
          have wv := wv.ext e34.st (Ext.same e34.st s)
          have ad := ad.same s
          have pa_ := pa_.same s
          have pb_ := pb_.same s
          have e35 := e34.trans (Ext.same e34.st s)
          generalize L2.upd H34 q3 (.tup [.str "not", va]) = H35 at s j1 j2 j3 tp wv ad pa_ pb_ e35 ⊢
          walk_at "xs"
          refine ⟨by show 3 ≤ sizeLine; decide, fun q4 m4 => ?_⟩
          have s := same_new (o := .lst [.ref q1, .ref q2, .ref q3]) m4
          have g4 : (L2.upd H35 q4 (.lst [.ref q1, .ref q2, .ref q3])) q4 = _ := L2.upd_same
          have j1 := j1.same s
          have j2 := j2.same s
          have j3 := j3.same s
          have tp := tp.ext e35.st (Ext.same e35.st s)
          have wv := wv.ext e35.st (Ext.same e35.st s)
          have ad := ad.same s
          have pa_ := pa_.same s
          have pb_ := pb_.same s
          have e36 := e35.trans (Ext.same e35.st s)
          generalize L2.upd H35 q4 (.lst [.ref q1, .ref q2, .ref q3]) = H36 at s g4 j1 j2 j3 tp wv ad pa_ pb_ e36 ⊢
          clear s e28 e31 e32 e33 e34 e35
          walk_at "xs"
          obtain ⟨qt, hqt, jt⟩ : ∃ qt, [V.ref q1, V.ref q2, V.ref q3][way.toNat]? = some (.ref qt) ∧ At S.a H36 (joinD way da db) (.ref qt) := by
            unfold joinD
            rcases (show way = 0 ∨ way = 1 ∨ way = 2 by omega) with rfl | rfl | rfl
            · exact ⟨q1, rfl, j1⟩
            · exact ⟨q2, rfl, j2⟩
            · exact ⟨q3, rfl, j3⟩
          refine x_lstI (SqL.of g4) (atI_int z3.1 hqt) ?_
          have vj := joinD_vt (way := way) vta vtb
          have hj := joinD_hgt (way := way) lda ldb
          have hjl := vj.level
          clear j1 j2 j3 g4
          obtain ⟨tds, htds⟩ := vj.tup
          walk_at "xs"
          rw [htds] at jt vj hj hjl
          refine i_atoms jt vj.wid (by omega) fun cnt H37 s37 => ?_
          have jt := jt.same s37
          have tp := tp.ext e36.st (Ext.same e36.st s37)
          have wv := wv.ext e36.st (Ext.same e36.st s37)
          have ad := ad.same s37
          have pa_ := pa_.same s37
          have pb_ := pb_.same s37
          have e37 := e36.trans (Ext.same e36.st s37)
          walk_at "xs"
          refine x_dec (fun _ => ?_) (fun _ => ?_)
          · walk_at "xs"
            have hav' : rs[av.toNat]? = some ra := hra
            refine x_lstI (SqL.of tp.pr) (atI_int hav.1 (by rw [List.getElem?_map, hra] <;> rfl)) ?_
            walk_at "xs"
            refine x_lstI (SqL.of tp.pr) (atI_int hbv.1 (by rw [List.getElem?_map, hrb] <;> rfl)) ?_
            walk_at "xs"
            refine i_join (d := da) (e := db) pa_ pb_ (by rw [htds]; omega) ?_
            rw [htds]
            refine ⟨fun z => by omega, fun z H38 r s38 g38 => ?_, fun _ z H38 r s38 g38 => ?_⟩
            · have jt := jt.same s38
              have tp := tp.ext e37.st (Ext.same e37.st s38)
              have wv := wv.ext e37.st (Ext.same e37.st s38)
              have ad := ad.same s38
              have e38 := e37.trans (Ext.same e37.st s38)
              walk_at "xs"
              refine i_fitsP (by omega) jt vj (.inr ⟨by omega, g38⟩) fun H39 s39 => ?_
              have jt := jt.same s39
              have tp := tp.ext e38.st (Ext.same e38.st s39)
              have wv := wv.ext e38.st (Ext.same e38.st s39)
              have ad := ad.same s39
              have e39 := e38.trans (Ext.same e38.st s39)
              walk_at "xs"
              refine iteF ?_
              walk_at "xs"
              refine i_lev jt vj.wid (by omega) fun H40 s40 => ?_
              have tp := tp.ext e39.st (Ext.same e39.st s40)
              have wv := wv.ext e39.st (Ext.same e39.st s40)
              have ad := ad.same s40
              have e40 := e39.trans (Ext.same e39.st s40)
              walk_at "xs"
              refine x_dec (fun h => by omega) (fun _ => ?_)
              walk_at "xs"
              exact ⟨⟨_, _, _, _, _, _, _, rfl⟩, e40, wv, ad, ds, vs, rs, tp, by omega⟩
            · have jt := jt.same s38
              have tp := tp.ext e37.st (Ext.same e37.st s38)
              have wv := wv.ext e37.st (Ext.same e37.st s38)
              have ad := ad.same s38
              have e38 := e37.trans (Ext.same e37.st s38)
              walk_at "xs"
              refine i_fitsP (by omega) jt vj (.inl ⟨by omega, g38⟩) fun H39 s39 => ?_
              have jt := jt.same s39
              have g38 := g38.same s39
              have tp := tp.ext e38.st (Ext.same e38.st s39)
              have wv := wv.ext e38.st (Ext.same e38.st s39)
              have ad := ad.same s39
              have e39 := e38.trans (Ext.same e38.st s39)
              walk_at "xs"
              refine iteF ?_
              walk_at "xs"
              refine i_lev jt vj.wid (by omega) fun H40 s40 => ?_
              have jt := jt.same s40
              have g38 := g38.same s40
              have tp := tp.ext e39.st (Ext.same e39.st s40)
              have wv := wv.ext e39.st (Ext.same e39.st s40)
              have ad := ad.same s40
              have e40 := e39.trans (Ext.same e39.st s40)
              walk_at "xs"
              refine x_dec (fun h40 => ?_) (fun h => by omega)
              walk_at "xs"
              refine ⟨.inl ⟨rfl, _, SqL.of tp.tr⟩, ?_⟩
              walk_at "xs"
              refine x_app tp.tr (szl (by omega)) ?_
              walk_at "xs"
              have gp : (L2.upd H40 Tr (.lst (vs ++ [.ref qt]))) Pr = some (.lst (rs.map V.ref)) := by rw [L2.upd_ne ntp.symm]; exact tp.pr
              refine ⟨.inl ⟨rfl, _, SqL.of gp⟩, ?_⟩
              walk_at "xs"
              refine x_app gp (by rw [List.length_map]; exact szl (by have := tp.len; omega)) ?_
              walk_at "xs"
              refine ⟨⟨_, _, _, _, _, _, _, rfl⟩, (e40.mut nTr5 fTr).mut nPr5 fPr, (wv.up tp.tr ntw).up gp nwp, (ad.up tp.tr td.noL).up gp td.noL, _, _, _, tp.push ntp (by omega) jt g38 vj (by omega), by rw [List.length_append]; simp only [List.length_cons, List.length_nil]; omega⟩
          · walk_at "xs"
            exact ⟨⟨_, _, _, _, _, _, _, rfl⟩, e37, wv, ad, ds, vs, rs, tp, by omega⟩
      · rintro σ' H28 ⟨⟨ab, y9, y10, y11, y12, y13, y14, rfl⟩, e28, wv, ad, ds, vs, rs, tp, hlen⟩
        walk_at "xs"
        refine ⟨S, Tr, Pr, Ws, ds, vs, rs, es, ws, rfl, tp, wv, e28.st, fun H29 e29 => ?_⟩
        have wv := wv.ext e28.st e29
        have ad := ad.ext e28.st e29
        have tp := tp.ext e28.st e29
        have e29 := e28.trans e29
        walk_at "xs"
        refine x_slL (SqL.of tp.tr) fun pc nc => ?_
        have s := same_new (o := .lst (cutV vs none (some 4))) nc
        have gC : (L2.upd H29 pc (.lst (cutV vs none (some 4)))) pc = some (.lst (vs.take 4)) := by
          rw [L2.upd_same]
          exact congrArg (fun z => some (HO.lst z)) (cut_any (n := 4))
        have fc := (e29.st.free nc).1
        have wv := wv.ext e29.st (Ext.same e29.st s)
        have ad := ad.same s
        have ta := (tp.all.take 4).same s
        have hs30 := (Ext.same e29.st s).st
        generalize L2.upd H29 pc (.lst (cutV vs none (some 4))) = H30 at s gC wv ad ta hs30 ⊢
        walk_at "xs"
        exact ⟨S, pc, Ws, ds.take 4, vs.take 4, es, ws, dd, vd, rfl, hs30, fc, gC, ta, by rw [List.length_take]; omega, fun t ht => tp.vt t (List.mem_of_mem_take ht), wv, ad, td, by omega, by omega, fun H' _ => q H'⟩
end
end K76

set_option Elab.async false
set_option linter.all false
set_option maxRecDepth 100000
set_option maxHeartbeats 2000000
/-! what the head's facts give -/
namespace K76
open PySem PySem.Spec PyProof.Rows L2 SX L2H HotX
section
variable {K : PySem.W.Frag} {mg : Str → Option Value} {h : Heap}
abbrev SaysA (K : PySem.W.Frag) : Prop := Says3 exA fnA sdA K
theorem fx_is_whole (X : K.In h) (G : h.Ns mainGlobals mg) (c : SaysA K) : FnX K mg "is_whole" s_is_whole ["value", "low", "high"] := by
  obtain ⟨fd, F⟩ := c.def_ 0 rfl
  exact ⟨_, fd, F, (He.glo_ok X G (c.fact 0 rfl)), (F.binds fun _ _ _ _ _ _ us hl => match us, hl with | [_, _, _], _ => rfl)⟩
theorem fx_good_name (X : K.In h) (G : h.Ns mainGlobals mg) (c : SaysA K) : FnX K mg "good_name" s_good_name ["text"] := by
  obtain ⟨fd, F⟩ := c.def_ 1 rfl
  exact ⟨_, fd, F, (He.glo_ok X G (c.fact 1 rfl)), (F.binds fun _ _ _ _ _ _ us hl => match us, hl with | [_], _ => rfl)⟩
theorem fx_free_name (X : K.In h) (G : h.Ns mainGlobals mg) (c : SaysA K) : FnX K mg "free_name" s_free_name ["text"] := by
  obtain ⟨fd, F⟩ := c.def_ 2 rfl
  exact ⟨_, fd, F, (He.glo_ok X G (c.fact 2 rfl)), (F.binds fun _ _ _ _ _ _ us hl => match us, hl with | [_], _ => rfl)⟩
theorem fx_short_number (X : K.In h) (G : h.Ns mainGlobals mg) (c : SaysA K) : FnX K mg "short_number" s_short_number ["text"] := by
  obtain ⟨fd, F⟩ := c.def_ 3 rfl
  exact ⟨_, fd, F, (He.glo_ok X G (c.fact 3 rfl)), (F.binds fun _ _ _ _ _ _ us hl => match us, hl with | [_], _ => rfl)⟩
theorem fx_good_letter (X : K.In h) (G : h.Ns mainGlobals mg) (c : SaysA K) : FnX K mg "good_letter" s_good_letter ["text"] := by
  obtain ⟨fd, F⟩ := c.def_ 4 rfl
  exact ⟨_, fd, F, (He.glo_ok X G (c.fact 4 rfl)), (F.binds fun _ _ _ _ _ _ us hl => match us, hl with | [_], _ => rfl)⟩
theorem fx_two_names (X : K.In h) (G : h.Ns mainGlobals mg) (c : SaysA K) : FnX K mg "two_names" s_two_names ["first", "second"] := by
  obtain ⟨fd, F⟩ := c.def_ 5 rfl
  exact ⟨_, fd, F, (He.glo_ok X G (c.fact 5 rfl)), (F.binds fun _ _ _ _ _ _ us hl => match us, hl with | [_, _], _ => rfl)⟩
theorem fx_is_atom (X : K.In h) (G : h.Ns mainGlobals mg) (c : SaysA K) : FnX K mg "is_atom" s_is_atom ["tree"] := by
  obtain ⟨fd, F⟩ := c.def_ 6 rfl
  exact ⟨_, fd, F, (He.glo_ok X G (c.fact 6 rfl)), (F.binds fun _ _ _ _ _ _ us hl => match us, hl with | [_], _ => rfl)⟩
theorem fx_begins_with_kind (X : K.In h) (G : h.Ns mainGlobals mg) (c : SaysA K) : FnX K mg "begins_with_kind" s_begins_with_kind ["tree"] := by
  obtain ⟨fd, F⟩ := c.def_ 7 rfl
  exact ⟨_, fd, F, (He.glo_ok X G (c.fact 7 rfl)), (F.binds fun _ _ _ _ _ _ us hl => match us, hl with | [_], _ => rfl)⟩
theorem fx_pred_level (X : K.In h) (G : h.Ns mainGlobals mg) (c : SaysA K) : FnX K mg "pred_level" s_pred_level ["tree"] := by
  obtain ⟨fd, F⟩ := c.def_ 8 rfl
  exact ⟨_, fd, F, (He.glo_ok X G (c.fact 8 rfl)), (F.binds fun _ _ _ _ _ _ us hl => match us, hl with | [_], _ => rfl)⟩
theorem fx_good_triples (X : K.In h) (G : h.Ns mainGlobals mg) (c : SaysA K) : FnX K mg "good_triples" s_good_triples ["rows"] := by
  obtain ⟨fd, F⟩ := c.def_ 9 rfl
  exact ⟨_, fd, F, (He.glo_ok X G (c.fact 9 rfl)), (F.binds fun _ _ _ _ _ _ us hl => match us, hl with | [_], _ => rfl)⟩
theorem fx_wish_level (X : K.In h) (G : h.Ns mainGlobals mg) (c : SaysA K) : FnX K mg "wish_level" s_wish_level ["tree"] := by
  obtain ⟨fd, F⟩ := c.def_ 10 rfl
  exact ⟨_, fd, F, (He.glo_ok X G (c.fact 10 rfl)), (F.binds fun _ _ _ _ _ _ us hl => match us, hl with | [_], _ => rfl)⟩
theorem fx_law_store (X : K.In h) (G : h.Ns mainGlobals mg) (c : SaysA K) : FnX K mg "_law_store" s_law_store ["script"] := by
  obtain ⟨fd, F⟩ := c.def_ 11 rfl
  exact ⟨_, fd, F, (He.glo_ok X G (c.fact 11 rfl)), (F.binds fun _ _ _ _ _ _ us hl => match us, hl with | [_], _ => rfl)⟩
theorem fx_law_load (X : K.In h) (G : h.Ns mainGlobals mg) (c : SaysA K) : FnX K mg "_law_load" s_law_load ["store"] := by
  obtain ⟨fd, F⟩ := c.def_ 12 rfl
  exact ⟨_, fd, F, (He.glo_ok X G (c.fact 12 rfl)), (F.binds fun _ _ _ _ _ _ us hl => match us, hl with | [_], _ => rfl)⟩
theorem fx_law_take (X : K.In h) (G : h.Ns mainGlobals mg) (c : SaysA K) : FnX K mg "_law_take" s_law_take ["store", "many"] := by
  obtain ⟨fd, F⟩ := c.def_ 13 rfl
  exact ⟨_, fd, F, (He.glo_ok X G (c.fact 13 rfl)), (F.binds fun _ _ _ _ _ _ us hl => match us, hl with | [_, _], _ => rfl)⟩
theorem fx_law_number (X : K.In h) (G : h.Ns mainGlobals mg) (c : SaysA K) : FnX K mg "_law_number" s_law_number ["store", "low", "high"] := by
  obtain ⟨fd, F⟩ := c.def_ 14 rfl
  exact ⟨_, fd, F, (He.glo_ok X G (c.fact 14 rfl)), (F.binds fun _ _ _ _ _ _ us hl => match us, hl with | [_, _, _], _ => rfl)⟩
theorem fx_law_pick (X : K.In h) (G : h.Ns mainGlobals mg) (c : SaysA K) : FnX K mg "_law_pick" s_law_pick ["store", "row"] := by
  obtain ⟨fd, F⟩ := c.def_ 15 rfl
  exact ⟨_, fd, F, (He.glo_ok X G (c.fact 15 rfl)), (F.binds fun _ _ _ _ _ _ us hl => match us, hl with | [_, _], _ => rfl)⟩
theorem fx_law_spell (X : K.In h) (G : h.Ns mainGlobals mg) (c : SaysA K) : FnX K mg "_law_spell" s_law_spell ["store", "size"] := by
  obtain ⟨fd, F⟩ := c.def_ 16 rfl
  exact ⟨_, fd, F, (He.glo_ok X G (c.fact 16 rfl)), (F.binds fun _ _ _ _ _ _ us hl => match us, hl with | [_, _], _ => rfl)⟩
theorem fx_law_fresh (X : K.In h) (G : h.Ns mainGlobals mg) (c : SaysA K) : FnX K mg "_law_fresh" s_law_fresh ["store", "used"] := by
  obtain ⟨fd, F⟩ := c.def_ 17 rfl
  exact ⟨_, fd, F, (He.glo_ok X G (c.fact 17 rfl)), (F.binds fun _ _ _ _ _ _ us hl => match us, hl with | [_, _], _ => rfl)⟩
theorem fx_law_titles (X : K.In h) (G : h.Ns mainGlobals mg) (c : SaysA K) : FnX K mg "_law_titles" s_law_titles ["store", "n"] := by
  obtain ⟨fd, F⟩ := c.def_ 18 rfl
  exact ⟨_, fd, F, (He.glo_ok X G (c.fact 18 rfl)), (F.binds fun _ _ _ _ _ _ us hl => match us, hl with | [_, _], _ => rfl)⟩
theorem fx_law_alphabet (X : K.In h) (G : h.Ns mainGlobals mg) (c : SaysA K) : FnX K mg "_law_alphabet" s_law_alphabet ["store", "many"] := by
  obtain ⟨fd, F⟩ := c.def_ 19 rfl
  exact ⟨_, fd, F, (He.glo_ok X G (c.fact 19 rfl)), (F.binds fun _ _ _ _ _ _ us hl => match us, hl with | [_, _], _ => rfl)⟩
theorem fx_law_others (X : K.In h) (G : h.Ns mainGlobals mg) (c : SaysA K) : FnX K mg "_law_others" s_law_others ["n", "i"] := by
  obtain ⟨fd, F⟩ := c.def_ 20 rfl
  exact ⟨_, fd, F, (He.glo_ok X G (c.fact 20 rfl)), (F.binds fun _ _ _ _ _ _ us hl => match us, hl with | [_, _], _ => rfl)⟩
theorem fx_law_atom (X : K.In h) (G : h.Ns mainGlobals mg) (c : SaysA K) : FnX K mg "_law_atom" s_law_atom ["store", "names", "letters"] := by
  obtain ⟨fd, F⟩ := c.def_ 21 rfl
  exact ⟨_, fd, F, (He.glo_ok X G (c.fact 21 rfl)), (F.binds fun _ _ _ _ _ _ us hl => match us, hl with | [_, _, _], _ => rfl)⟩
theorem fx_law_pred (X : K.In h) (G : h.Ns mainGlobals mg) (c : SaysA K) : FnX K mg "_law_pred" s_law_pred ["store", "names", "letters"] := by
  obtain ⟨fd, F⟩ := c.def_ 22 rfl
  exact ⟨_, fd, F, (He.glo_ok X G (c.fact 22 rfl)), (F.binds fun _ _ _ _ _ _ us hl => match us, hl with | [_, _, _], _ => rfl)⟩
theorem fx_law_triples (X : K.In h) (G : h.Ns mainGlobals mg) (c : SaysA K) : FnX K mg "_law_triples" s_law_triples ["store", "names", "letters", "many"] := by
  obtain ⟨fd, F⟩ := c.def_ 23 rfl
  exact ⟨_, fd, F, (He.glo_ok X G (c.fact 23 rfl)), (F.binds fun _ _ _ _ _ _ us hl => match us, hl with | [_, _, _, _], _ => rfl)⟩
theorem fx_law_wrong_part (X : K.In h) (G : h.Ns mainGlobals mg) (c : SaysA K) : FnX K mg "_law_wrong_part" s_law_wrong_part ["store", "thing"] := by
  obtain ⟨fd, F⟩ := c.def_ 24 rfl
  exact ⟨_, fd, F, (He.glo_ok X G (c.fact 24 rfl)), (F.binds fun _ _ _ _ _ _ us hl => match us, hl with | [_, _], _ => rfl)⟩
theorem fx_law_wrong_tree (X : K.In h) (G : h.Ns mainGlobals mg) (c : SaysA K) : FnX K mg "_law_wrong_tree" s_law_wrong_tree ["store", "tree"] := by
  obtain ⟨fd, F⟩ := c.def_ 25 rfl
  exact ⟨_, fd, F, (He.glo_ok X G (c.fact 25 rfl)), (F.binds fun _ _ _ _ _ _ us hl => match us, hl with | [_, _], _ => rfl)⟩
theorem fx_law_equal (X : K.In h) (G : h.Ns mainGlobals mg) (c : SaysA K) : FnX K mg "_law_equal" s_law_equal ["due", "seen"] := by
  obtain ⟨fd, F⟩ := c.def_ 26 rfl
  exact ⟨_, fd, F, (He.glo_ok X G (c.fact 26 rfl)), (F.binds fun _ _ _ _ _ _ us hl => match us, hl with | [_, _], _ => rfl)⟩
theorem fx_law_refusal (X : K.In h) (G : h.Ns mainGlobals mg) (c : SaysA K) : FnX K mg "_law_refusal" s_law_refusal ["e"] := by
  obtain ⟨fd, F⟩ := c.def_ 27 rfl
  exact ⟨_, fd, F, (He.glo_ok X G (c.fact 27 rfl)), (F.binds fun _ _ _ _ _ _ us hl => match us, hl with | [_], _ => rfl)⟩
theorem fx_law_level (X : K.In h) (G : h.Ns mainGlobals mg) (c : SaysA K) : FnX K mg "_law_level" s_law_level ["tree"] := by
  obtain ⟨fd, F⟩ := c.def_ 28 rfl
  exact ⟨_, fd, F, (He.glo_ok X G (c.fact 28 rfl)), (F.binds fun _ _ _ _ _ _ us hl => match us, hl with | [_], _ => rfl)⟩
theorem fx_law_atoms (X : K.In h) (G : h.Ns mainGlobals mg) (c : SaysA K) : FnX K mg "_law_atoms" s_law_atoms ["tree"] := by
  obtain ⟨fd, F⟩ := c.def_ 29 rfl
  exact ⟨_, fd, F, (He.glo_ok X G (c.fact 29 rfl)), (F.binds fun _ _ _ _ _ _ us hl => match us, hl with | [_], _ => rfl)⟩
theorem fx_law_chain (X : K.In h) (G : h.Ns mainGlobals mg) (c : SaysA K) : FnX K mg "_law_chain" s_law_chain ["store", "tree", "names", "letters", "level"] := by
  obtain ⟨fd, F⟩ := c.def_ 30 rfl
  exact ⟨_, fd, F, (He.glo_ok X G (c.fact 30 rfl)), (F.binds fun _ _ _ _ _ _ us hl => match us, hl with | [_, _, _, _, _], _ => rfl)⟩
theorem fx_law_twisted (X : K.In h) (G : h.Ns mainGlobals mg) (c : SaysA K) : FnX K mg "_law_twisted" s_law_twisted ["store", "tree"] := by
  obtain ⟨fd, F⟩ := c.def_ 31 rfl
  exact ⟨_, fd, F, (He.glo_ok X G (c.fact 31 rfl)), (F.binds fun _ _ _ _ _ _ us hl => match us, hl with | [_, _], _ => rfl)⟩
theorem fx_law_new (X : K.In h) (G : h.Ns mainGlobals mg) (c : SaysA K) : FnX K mg "_law_new" s_law_new ["tree", "wish"] := by
  obtain ⟨fd, F⟩ := c.def_ 32 rfl
  exact ⟨_, fd, F, (He.glo_ok X G (c.fact 32 rfl)), (F.binds fun _ _ _ _ _ _ us hl => match us, hl with | [_, _], _ => rfl)⟩
theorem fx_law_joined (X : K.In h) (G : h.Ns mainGlobals mg) (c : SaysA K) : FnX K mg "_law_joined" s_law_joined ["way", "left", "right"] := by
  obtain ⟨fd, F⟩ := c.def_ 33 rfl
  exact ⟨_, fd, F, (He.glo_ok X G (c.fact 33 rfl)), (F.binds fun _ _ _ _ _ _ us hl => match us, hl with | [_, _, _], _ => rfl)⟩
theorem fx_law_fits (X : K.In h) (G : h.Ns mainGlobals mg) (c : SaysA K) : FnX K mg "_law_fits" s_law_fits ["seen", "tree", "wish"] := by
  obtain ⟨fd, F⟩ := c.def_ 34 rfl
  exact ⟨_, fd, F, (He.glo_ok X G (c.fact 34 rfl)), (F.binds fun _ _ _ _ _ _ us hl => match us, hl with | [_, _, _], _ => rfl)⟩
theorem fx_law_compared (X : K.In h) (G : h.Ns mainGlobals mg) (c : SaysA K) : FnX K mg "_law_compared" s_law_compared ["left", "right", "same"] := by
  obtain ⟨fd, F⟩ := c.def_ 35 rfl
  exact ⟨_, fd, F, (He.glo_ok X G (c.fact 35 rfl)), (F.binds fun _ _ _ _ _ _ us hl => match us, hl with | [_, _, _], _ => rfl)⟩
theorem fx_law_kept (X : K.In h) (G : h.Ns mainGlobals mg) (c : SaysA K) : FnX K mg "_law_kept" s_law_kept ["store", "trees", "preds", "wishes"] := by
  obtain ⟨fd, F⟩ := c.def_ 36 rfl
  exact ⟨_, fd, F, (He.glo_ok X G (c.fact 36 rfl)), (F.binds fun _ _ _ _ _ _ us hl => match us, hl with | [_, _, _, _], _ => rfl)⟩
theorem fx_law_refusals (X : K.In h) (G : h.Ns mainGlobals mg) (c : SaysA K) : FnX K mg "_law_refusals" s_law_refusals ["store", "trees", "wishes", "deep"] := by
  obtain ⟨fd, F⟩ := c.def_ 37 rfl
  exact ⟨_, fd, F, (He.glo_ok X G (c.fact 37 rfl)), (F.binds fun _ _ _ _ _ _ us hl => match us, hl with | [_, _, _, _], _ => rfl)⟩
theorem fx_law (X : K.In h) (G : h.Ns mainGlobals mg) (c : SaysA K) : FnX K mg "law" s_law ["script"] := by
  obtain ⟨fd, F⟩ := c.def_ 38 rfl
  exact ⟨_, fd, F, (He.glo_ok X G (c.fact 38 rfl)), (F.binds fun _ _ _ _ _ _ us hl => match us, hl with | [_], _ => rfl)⟩
theorem nmA (X : K.In h) (G : h.Ns mainGlobals mg) (c : SaysA K) : Nm K mg :=
  ⟨by obtain ⟨t, e⟩ := He.str_ok X G (c.fact 71 rfl); exact ⟨_, e, t, rfl⟩,
    by obtain ⟨t, e⟩ := He.str_ok X G (c.fact 72 rfl); exact ⟨_, e, t, rfl⟩,
    by obtain ⟨t, e⟩ := He.int_ok X G (c.fact 73 rfl); exact ⟨_, e, t, rfl⟩,
    by obtain ⟨t, e⟩ := He.int_ok X G (c.fact 74 rfl); exact ⟨_, e, t, rfl⟩,
    by obtain ⟨t, e⟩ := He.int_ok X G (c.fact 75 rfl); exact ⟨_, e, t, rfl⟩,
    ⟨_, (He.glo_ok X G (c.fact 76 rfl)), rfl⟩,
    ⟨_, (He.glo_ok X G (c.fact 78 rfl)), rfl⟩,
    fun H => by have z := He.tupB_ok (c.fact 77 rfl) H; rw [List.map_map] at z; exact z,
    fun H => by have z := He.tupB_ok (c.fact 79 rfl) H; rw [List.map_map] at z; exact z,
    (He.free_ok X G (c.fact 57 rfl)),
    (He.free_ok X G (c.fact 58 rfl)),
    (He.free_ok X G (c.fact 59 rfl)),
    (He.free_ok X G (c.fact 60 rfl)),
    (He.free_ok X G (c.fact 61 rfl)),
    (He.free_ok X G (c.fact 62 rfl)),
    (He.free_ok X G (c.fact 63 rfl)),
    (He.free_ok X G (c.fact 64 rfl)),
    (He.free_ok X G (c.fact 65 rfl)),
    (He.free_ok X G (c.fact 66 rfl)),
    (He.free_ok X G (c.fact 67 rfl)),
    (He.free_ok X G (c.fact 68 rfl)),
    (He.free_ok X G (c.fact 69 rfl))⟩
theorem cl_Pred (c : SaysA K) : Cl K (He.ga K "Pred") :=
  ⟨He.cls_ok (c.fact 80 rfl), (He.eqO_ok (c.fact 81 rfl)), (He.eqO_ok (c.fact 82 rfl)), (of_decide_eq_true (c.fact 83 rfl)), (of_decide_eq_true (c.fact 84 rfl)), ⟨(of_decide_eq_true (c.fact 85 rfl)), (of_decide_eq_true (c.fact 86 rfl)), (of_decide_eq_true (c.fact 87 rfl)), (of_decide_eq_true (c.fact 88 rfl)), (of_decide_eq_true (c.fact 89 rfl)), (of_decide_eq_true (c.fact 90 rfl))⟩,
    fun T hT => List.all_eq_true.mp (c.fact 91 rfl) T hT, fun T hT => of_decide_eq_true (List.all_eq_true.mp (c.fact 92 rfl) T hT), (of_decide_eq_true (c.fact 93 rfl)), He.noat_ok (c.fact 94 rfl)⟩
theorem cl_Wish (c : SaysA K) : Cl K (He.ga K "Wish") :=
  ⟨He.cls_ok (c.fact 96 rfl), (He.eqO_ok (c.fact 97 rfl)), (He.eqO_ok (c.fact 98 rfl)), (of_decide_eq_true (c.fact 99 rfl)), (of_decide_eq_true (c.fact 100 rfl)), ⟨(of_decide_eq_true (c.fact 101 rfl)), (of_decide_eq_true (c.fact 102 rfl)), (of_decide_eq_true (c.fact 103 rfl)), (of_decide_eq_true (c.fact 104 rfl)), (of_decide_eq_true (c.fact 105 rfl)), (of_decide_eq_true (c.fact 106 rfl))⟩,
    fun T hT => List.all_eq_true.mp (c.fact 107 rfl) T hT, fun T hT => of_decide_eq_true (List.all_eq_true.mp (c.fact 108 rfl) T hT), (of_decide_eq_true (c.fact 109 rfl)), He.noat_ok (c.fact 110 rfl)⟩
theorem mc_Pred (c : SaysA K) : Mc K (He.ga K "Pred") "Pred.__init__" s_Pred_init ["self", "tree"] := by
  obtain ⟨fd, F⟩ := c.def_ 39 rfl
  exact ⟨_, fd, F, He.mkr_ok (c.fact 95 rfl), (F.binds fun _ _ _ _ _ _ us hl => match us, hl with | [_, _], _ => rfl)⟩
theorem ms_Pred_eq (c : SaysA K) : Ms K (He.ga K "Pred") "__eq__" "Pred.__eq__" s_Pred_eq ["self", "other"] := by
  obtain ⟨fd, F⟩ := c.def_ 40 rfl
  exact ⟨_, fd, F, He.meth_ok (c.fact 114 rfl), (F.binds fun _ _ _ _ _ _ us hl => match us, hl with | [_, _], _ => rfl)⟩
theorem ms_Pred_ne (c : SaysA K) : Ms K (He.ga K "Pred") "__ne__" "Pred.__ne__" s_Pred_ne ["self", "other"] := by
  obtain ⟨fd, F⟩ := c.def_ 41 rfl
  exact ⟨_, fd, F, He.meth_ok (c.fact 115 rfl), (F.binds fun _ _ _ _ _ _ us hl => match us, hl with | [_, _], _ => rfl)⟩
theorem ms_Pred_and (c : SaysA K) : Ms K (He.ga K "Pred") "__and__" "Pred.__and__" s_Pred_and ["self", "other"] := by
  obtain ⟨fd, F⟩ := c.def_ 42 rfl
  exact ⟨_, fd, F, He.meth_ok (c.fact 116 rfl), (F.binds fun _ _ _ _ _ _ us hl => match us, hl with | [_, _], _ => rfl)⟩
theorem ms_Pred_or (c : SaysA K) : Ms K (He.ga K "Pred") "__or__" "Pred.__or__" s_Pred_or ["self", "other"] := by
  obtain ⟨fd, F⟩ := c.def_ 43 rfl
  exact ⟨_, fd, F, He.meth_ok (c.fact 117 rfl), (F.binds fun _ _ _ _ _ _ us hl => match us, hl with | [_, _], _ => rfl)⟩
theorem ms_Pred_invert (c : SaysA K) : Ms K (He.ga K "Pred") "__invert__" "Pred.__invert__" s_Pred_invert ["self"] := by
  obtain ⟨fd, F⟩ := c.def_ 44 rfl
  exact ⟨_, fd, F, He.meth_ok (c.fact 118 rfl), (F.binds fun _ _ _ _ _ _ us hl => match us, hl with | [_], _ => rfl)⟩
theorem mc_Wish (c : SaysA K) : Mc K (He.ga K "Wish") "Wish.__init__" s_Wish_init ["self", "tree"] := by
  obtain ⟨fd, F⟩ := c.def_ 45 rfl
  exact ⟨_, fd, F, He.mkr_ok (c.fact 111 rfl), (F.binds fun _ _ _ _ _ _ us hl => match us, hl with | [_, _], _ => rfl)⟩
theorem ms_Wish_eq (c : SaysA K) : Ms K (He.ga K "Wish") "__eq__" "Wish.__eq__" s_Wish_eq ["self", "other"] := by
  obtain ⟨fd, F⟩ := c.def_ 46 rfl
  exact ⟨_, fd, F, He.meth_ok (c.fact 119 rfl), (F.binds fun _ _ _ _ _ _ us hl => match us, hl with | [_, _], _ => rfl)⟩
theorem ms_Wish_ne (c : SaysA K) : Ms K (He.ga K "Wish") "__ne__" "Wish.__ne__" s_Wish_ne ["self", "other"] := by
  obtain ⟨fd, F⟩ := c.def_ 47 rfl
  exact ⟨_, fd, F, He.meth_ok (c.fact 120 rfl), (F.binds fun _ _ _ _ _ _ us hl => match us, hl with | [_, _], _ => rfl)⟩
theorem prop_level (c : SaysA K) : ∃ p g fd, PropOf K (He.ga K "Pred") "level" p g ∧ L2.Fun K "level" "Pred.level" s_Pred_level g fd ∧ Binds K fd ["self"] [] := by
  obtain ⟨fd, F⟩ := c.def_ 48 rfl
  have r : ∃ rest, PySem.W.recIn K (proA K) "property" = some (.ref (getA K) :: rest) := by
    have z : recB K = true := (c.fact 129 rfl)
    unfold recB at z
    unfold getA
    split at z
    · rename_i g r e
      exact ⟨r, by rw [e]⟩
    · cases z
  exact ⟨proA K, getA K, fd, ⟨(He.eqO_ok (c.fact 126 rfl)), (He.eqO_ok (c.fact 127 rfl)), (of_decide_eq_true (c.fact 128 rfl)), r⟩, F, (F.binds fun _ _ _ _ _ _ us hl => match us, hl with | [_], _ => rfl)⟩
theorem ex_BadWish (X : K.In h) (G : h.Ns mainGlobals mg) (c : SaysA K) : Ex Pg K mg (He.ga K "BadWish") "BadWish" "BadWish.__init__" "at" s_BadWish_init := by
  obtain ⟨fd, I⟩ := FD.sup (P := Pg) (C := (He.ga K "BadWish")) (c.sup 0 rfl) (c.fact 141 rfl) rfl
  have b : Binds K fd ["self", "at"] [] := by
    obtain ⟨_, _, _, _, _, _, _, _, _, _, _, _, _, _, _, _, _, _, rfl, _⟩ := id I
    exact .all fun us hl => match us, hl with | [_, _], _ => rfl
  exact ⟨(He.glo_ok X G (c.fact 44 rfl)), ⟨⟨oexB_ok (c.fact 130 rfl), (He.eqO_ok (c.fact 131 rfl)), (of_decide_eq_true (c.fact 132 rfl)), (of_decide_eq_true (c.fact 133 rfl)), (c.fact 134 rfl)⟩, (He.eqO_ok (c.fact 135 rfl)), (of_decide_eq_true (c.fact 136 rfl)), (of_decide_eq_true (c.fact 137 rfl)), (He.eqO_ok (c.fact 194 rfl)), (He.free_ok X G (c.fact 70 rfl)), by kernel_rfl⟩, (He.eqO_ok (c.fact 138 rfl)), ⟨_, fd, I, (He.eqO_ok (c.fact 139 rfl)), (of_decide_eq_true (c.fact 140 rfl)), b⟩, xfB_ok (c.fact 142 rfl),
    ⟨(xfB_ok (c.fact 142 rfl)).ga, (xfB_ok (c.fact 142 rfl)).gg, (of_decide_eq_true (c.fact 132 rfl)), (xfB_ok (c.fact 142 rfl)).hdC, (He.eqO_ok (c.fact 143 rfl)), (He.eqO_ok (c.fact 82 rfl)), (of_decide_eq_true (c.fact 83 rfl)), (of_decide_eq_true (c.fact 144 rfl))⟩⟩
theorem ex_TooMany (X : K.In h) (G : h.Ns mainGlobals mg) (c : SaysA K) : Ex Pg K mg (He.ga K "TooMany") "TooMany" "TooMany.__init__" "limit" s_TooMany_init := by
  obtain ⟨fd, I⟩ := FD.sup (P := Pg) (C := (He.ga K "TooMany")) (c.sup 1 rfl) (c.fact 173 rfl) rfl
  have b : Binds K fd ["self", "limit"] [] := by
    obtain ⟨_, _, _, _, _, _, _, _, _, _, _, _, _, _, _, _, _, _, rfl, _⟩ := id I
    exact .all fun us hl => match us, hl with | [_, _], _ => rfl
  exact ⟨(He.glo_ok X G (c.fact 51 rfl)), ⟨⟨oexB_ok (c.fact 162 rfl), (He.eqO_ok (c.fact 163 rfl)), (of_decide_eq_true (c.fact 164 rfl)), (of_decide_eq_true (c.fact 165 rfl)), (c.fact 166 rfl)⟩, (He.eqO_ok (c.fact 167 rfl)), (of_decide_eq_true (c.fact 168 rfl)), (of_decide_eq_true (c.fact 169 rfl)), (He.eqO_ok (c.fact 194 rfl)), (He.free_ok X G (c.fact 70 rfl)), by kernel_rfl⟩, (He.eqO_ok (c.fact 170 rfl)), ⟨_, fd, I, (He.eqO_ok (c.fact 171 rfl)), (of_decide_eq_true (c.fact 172 rfl)), b⟩, xfB_ok (c.fact 174 rfl),
    ⟨(xfB_ok (c.fact 174 rfl)).ga, (xfB_ok (c.fact 174 rfl)).gg, (of_decide_eq_true (c.fact 164 rfl)), (xfB_ok (c.fact 174 rfl)).hdC, (He.eqO_ok (c.fact 175 rfl)), (He.eqO_ok (c.fact 82 rfl)), (of_decide_eq_true (c.fact 83 rfl)), (of_decide_eq_true (c.fact 176 rfl))⟩⟩
theorem kcA (X : K.In h) (G : h.Ns mainGlobals mg) (c : SaysA K) : Kc Pg K mg (He.ga K "Pred") (He.ga K "Wish") (He.ga K "BadWish") (He.ga K "TooMany") (He.ga K "OneError") := by
  refine ⟨(He.glo_ok X G (c.fact 54 rfl)), (He.glo_ok X G (c.fact 55 rfl)), (He.glo_ok X G (c.fact 56 rfl)), cl_Pred c, cl_Wish c, (c.fact 121 rfl), (c.fact 122 rfl), (of_decide_eq_true (c.fact 123 rfl)), (of_decide_eq_true (c.fact 124 rfl)), He.noat_ok (c.fact 112 rfl), He.noat_ok (c.fact 113 rfl), mc_Pred c, mc_Wish c, prop_level c,
    ms_Pred_eq c, ms_Pred_ne c, ms_Pred_and c, ms_Pred_or c, ms_Pred_invert c, ms_Wish_eq c, ms_Wish_ne c, (c.fact 125 rfl), ex_BadWish X G c, ex_TooMany X G c, He.exm_ok (c.fact 145 rfl), He.exm_ok (c.fact 177 rfl), (of_decide_eq_true (c.fact 146 rfl)), (of_decide_eq_true (c.fact 178 rfl)), fun x hx => ?_⟩
  simp only [fifteen, List.mem_cons, List.not_mem_nil, or_false] at hx
  rcases hx with rfl | rfl | rfl | rfl | rfl | rfl | rfl | rfl | rfl | rfl | rfl | rfl | rfl | rfl | rfl
  · exact ⟨_, (He.glo_ok X G (c.fact 39 rfl)), ((of_decide_eq_true (c.fact 147 rfl))).trans (congrArg some (by decide +kernel)), ((of_decide_eq_true (c.fact 179 rfl))).trans (congrArg some (by decide +kernel))⟩
  · exact ⟨_, (He.glo_ok X G (c.fact 40 rfl)), ((of_decide_eq_true (c.fact 148 rfl))).trans (congrArg some (by decide +kernel)), ((of_decide_eq_true (c.fact 180 rfl))).trans (congrArg some (by decide +kernel))⟩
  · exact ⟨_, (He.glo_ok X G (c.fact 41 rfl)), ((of_decide_eq_true (c.fact 149 rfl))).trans (congrArg some (by decide +kernel)), ((of_decide_eq_true (c.fact 181 rfl))).trans (congrArg some (by decide +kernel))⟩
  · exact ⟨_, (He.glo_ok X G (c.fact 42 rfl)), ((of_decide_eq_true (c.fact 150 rfl))).trans (congrArg some (by decide +kernel)), ((of_decide_eq_true (c.fact 182 rfl))).trans (congrArg some (by decide +kernel))⟩
  · exact ⟨_, (He.glo_ok X G (c.fact 43 rfl)), ((of_decide_eq_true (c.fact 151 rfl))).trans (congrArg some (by decide +kernel)), ((of_decide_eq_true (c.fact 183 rfl))).trans (congrArg some (by decide +kernel))⟩
  · exact ⟨_, (He.glo_ok X G (c.fact 44 rfl)), ((of_decide_eq_true (c.fact 152 rfl))).trans (congrArg some (by decide +kernel)), ((of_decide_eq_true (c.fact 184 rfl))).trans (congrArg some (by decide +kernel))⟩
  · exact ⟨_, (He.glo_ok X G (c.fact 45 rfl)), ((of_decide_eq_true (c.fact 153 rfl))).trans (congrArg some (by decide +kernel)), ((of_decide_eq_true (c.fact 185 rfl))).trans (congrArg some (by decide +kernel))⟩
  · exact ⟨_, (He.glo_ok X G (c.fact 46 rfl)), ((of_decide_eq_true (c.fact 154 rfl))).trans (congrArg some (by decide +kernel)), ((of_decide_eq_true (c.fact 186 rfl))).trans (congrArg some (by decide +kernel))⟩
  · exact ⟨_, (He.glo_ok X G (c.fact 47 rfl)), ((of_decide_eq_true (c.fact 155 rfl))).trans (congrArg some (by decide +kernel)), ((of_decide_eq_true (c.fact 187 rfl))).trans (congrArg some (by decide +kernel))⟩
  · exact ⟨_, (He.glo_ok X G (c.fact 48 rfl)), ((of_decide_eq_true (c.fact 156 rfl))).trans (congrArg some (by decide +kernel)), ((of_decide_eq_true (c.fact 188 rfl))).trans (congrArg some (by decide +kernel))⟩
  · exact ⟨_, (He.glo_ok X G (c.fact 49 rfl)), ((of_decide_eq_true (c.fact 157 rfl))).trans (congrArg some (by decide +kernel)), ((of_decide_eq_true (c.fact 189 rfl))).trans (congrArg some (by decide +kernel))⟩
  · exact ⟨_, (He.glo_ok X G (c.fact 50 rfl)), ((of_decide_eq_true (c.fact 158 rfl))).trans (congrArg some (by decide +kernel)), ((of_decide_eq_true (c.fact 190 rfl))).trans (congrArg some (by decide +kernel))⟩
  · exact ⟨_, (He.glo_ok X G (c.fact 51 rfl)), ((of_decide_eq_true (c.fact 159 rfl))).trans (congrArg some (by decide +kernel)), ((of_decide_eq_true (c.fact 191 rfl))).trans (congrArg some (by decide +kernel))⟩
  · exact ⟨_, (He.glo_ok X G (c.fact 52 rfl)), ((of_decide_eq_true (c.fact 160 rfl))).trans (congrArg some (by decide +kernel)), ((of_decide_eq_true (c.fact 192 rfl))).trans (congrArg some (by decide +kernel))⟩
  · exact ⟨_, (He.glo_ok X G (c.fact 53 rfl)), ((of_decide_eq_true (c.fact 161 rfl))).trans (congrArg some (by decide +kernel)), ((of_decide_eq_true (c.fact 193 rfl))).trans (congrArg some (by decide +kernel))⟩
end
end K76

set_option Elab.async false
set_option linter.all false
set_option maxRecDepth 100000
set_option maxHeartbeats 2000000
/-! all contracts in a row -/
namespace K76
open PySem PySem.Spec PyProof.Rows L2 SX L2H HotX
section
variable {K : PySem.W.Frag} {mg : Str → Option Value} {h base : Heap} {w : World}
theorem law_cal (X : K.In h) (G : h.Ns mainGlobals mg) (c : SaysA K) {fl : Addr} {fdl : FuncData} (F : L2.Fun K "law" "law" s_law fl fdl) : FnOk Pg w K mg base L2.CX0 (4 + 95 + 3 + 1 + 1 + 1) fl fdl ["script"] (spLaw K) := by
  have T : Nm K mg := nmA X G c
  have KC := kcA X G c
  have load := k_load (P := Pg) (w := w) (base := base) T (fx_law_load X G c)
  have take := k_take T (fx_law_take X G c) load
  have number := k_number T (fx_law_number X G c) take
  have pick := k_pick T (fx_law_pick X G c) take
  have spell := k_spell T (fx_law_spell X G c) take
  have fresh := k_fresh T (fx_law_fresh X G c) take number pick spell
  have titles := k_titles T (fx_law_titles X G c) fresh
  have alphabet := k_alphabet T (fx_law_alphabet X G c) take number pick spell
  have others := k_others (P := Pg) (w := w) (base := base) T (fx_law_others X G c)
  have atom := k_atomM T (fx_law_atom X G c) take number pick others
  have triples := k_triplesM T (fx_law_triples X G c) take number pick others
  have mixed := k_predM T (fx_law_pred X G c) take atom
  have chain := k_chain T (fx_law_chain X G c) take atom
  have lev := k_lev (P := Pg) (w := w) (base := base) T (fx_law_level X G c) 95
  have atoms := k_atoms (P := Pg) (w := w) (base := base) T (fx_law_atoms X G c) 95
  have twi := k_twi T (fx_law_twisted X G c) take pick 95
  have wp := k_WP T (fx_law_wrong_part X G c) take pick 95
  have wt := k_WT T (fx_law_wrong_tree X G c) take pick 95 wp
  have eq := k_equal (P := Pg) (w := w) (base := base) T (fx_law_equal X G c)
  have whole := k_is_whole (P := Pg) (w := w) (base := base) T (fx_is_whole X G c)
  have name := k_good_name (P := Pg) (w := w) (base := base) T (fx_good_name X G c)
  have free := k_free_name T (fx_free_name X G c) name
  have short := k_short_number (P := Pg) (w := w) (base := base) T (fx_short_number X G c)
  have letter := k_good_letter T (fx_good_letter X G c) name short
  have two := k_two_names T (fx_two_names X G c) free
  have isat := k_is_atom T (fx_is_atom X G c) free whole two letter
  have begins := k_begins (P := Pg) (w := w) (base := base) T (fx_begins_with_kind X G c)
  have pred := k_pred T (fx_pred_level X G c) begins isat 95
  have trip := k_triples T (fx_good_triples X G c) two letter
  have wish := k_wish 95 T (fx_wish_level X G c) begins pred trip
  obtain ⟨fP, fdP, MP, FP, bP⟩ := k_Pred_init (n := 95) T KC pred
  obtain ⟨fW, fdW, MW, FW, bW⟩ := k_Wish_init (n := 95) T KC wish
  have cP : MakN Pg w K mg base (4 + 95 + 1) "Pred" (He.ga K "Pred") ["self", "tree"] (spPi (He.ga K "Pred") (He.ga K "BadWish") (He.ga K "TooMany") 95) := ⟨fP, fdP, MP, FP, bP, KC.mP⟩
  have cW : MakN Pg w K mg base (4 + 95 + 1 + 1) "Wish" (He.ga K "Wish") ["self", "tree"] (spWi (He.ga K "Wish") (He.ga K "BadWish") (He.ga K "TooMany") 95) := ⟨fW, fdW, MW, FW, bW, KC.mW⟩
  have store := k_store (P := Pg) (w := w) (base := base) T (fx_law_store X G c)
  have rf : RefOk Pg w K mg base (He.ga K "BadWish") (He.ga K "TooMany") := k_refusal T KC (fx_law_refusal X G c)
  have new := k_new T KC (fx_law_new X G c) rf cP cW
  have joined := k_join T KC (fx_law_joined X G c) rf cP
  have cmp := k_cmp T KC (fx_law_compared X G c) (eq 2)
  have fits := k_fits (n := 95) T KC (fx_law_fits X G c) lev (eq (95 + 2))
  have kept := k_kept (by decide) T KC (fx_law_kept X G c) cP cW take pick twi fits cmp new
  have refusals := k_refusals (by decide) T (fx_law_refusals X G c) wp wt (eq (0 + 2)) fits new
  exact k_law (by decide) T KC F cP store take number titles alphabet atom mixed chain triples lev atoms fits joined kept refusals
/-- for the end -/
theorem law_end (X : K.In h) (G : h.Ns mainGlobals mg) (c : SaysA K) {fa : Addr} (hfa : mg ("law" : Str) = some (.ref fa)) :
    ∃ fd : FuncData, (∀ (s : Shared) (u : Value), BindsTo s fd ⟨[u], []⟩ [("script", u)]) ∧ ∀ (w : World) (base : Heap), FnOk Pg w K mg base L2.CX0 (4 + 95 + 3 + 1 + 1 + 1) fa fd ["script"] (spLaw K) := by
  obtain ⟨fd, F⟩ := c.def_ 38 rfl
  have e := hfa.symm.trans (He.glo_ok X G (x := "law") (c.fact 38 rfl))
  cases e
  refine ⟨fd, fun s u => ?_, fun w base => law_cal X G c F⟩
  obtain ⟨oc, od, kV, doc, pm, an, cdv, ct, osl, rfl, lk, hcd⟩ := F.ex
  exact .of_eq rfl
end
end K76

set_option Elab.async false
set_option linter.all false
set_option maxRecDepth 100000
set_option maxHeartbeats 0
open PySem PySem.W PySem.Calls PyProof.Rows
theorem PySem.Challenge.cw_onelineatatime_k76_operators_of_pred_holds : PySem.Challenge.rw_onelineatatime_k76_operators_of_pred.Holds := by
  w_on; o_law
  refine HandSHeadRun.head_any (r := K76.Rw) (q := view K76.Rw.prog [67]) (H := K76.hkA) (ob := K76.obA) (M := 12000) (loose := K76.looseN) (d := HandSHeadRun.topDef K76.Rw.prog 67) (kwd := []) K76.obA_eq
    (by kernel_rfl) (fun s => by kernel_rfl) K76.runA (by kernel_rfl) (by kernel_rfl) (by kernel_rfl) (by rfl) (by first | assumption | decide +kernel) (by decide +kernel) ⟨rfl, rfl, rfl, rfl, rfl, by decide +kernel⟩ ?hw ?hc
  case hw => w_witness2
  case hc =>
    refine L2.walk_ofE (l := PySem.Challenge.rw_onelineatatime_k76_operators_of_pred) (n := 63) (k := 4 + 95 + 3 + 1 + 1 + 1) (x := "script") (CX := L2.CX0) rfl (by decide) (by kernel_rfl) ⟨rfl, by decide, by decide⟩ ?F (fun _ _ _ _ z => z)
    intro w mg fa h Y G hmg0
    obtain ⟨K, KX, c⟩ := Y
    have hmg : mg ("law" : PySem.Str) = some (.ref fa) := by
      have e : (HandSHeadRun.topDef K76.Rw.prog 67).name = ("law" : PySem.Str) := by kernel_rfl
      rw [← e]
      exact hmg0
    obtain ⟨fd, hb, hF⟩ := K76.law_end KX G c hmg
    exact ⟨K, fd, K76.spLaw K, KX, hb, fun H a ns hl _ hS => ⟨a, ns, rfl, hl, hS, fun _ => rfl⟩, fun base _ _ => hF w base⟩
