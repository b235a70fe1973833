import PyProof.Rows.All
import Wide.All
import OpenK.AllK
import Wide.FinOn
import HandS.ForMost
import HandS.TupSets
import KE.KeyNested
import HandS.SetTxtIn
import PyProof.DictRoadsH
import PyProof.DictMoreH
import PyProof.Rows.TupTab
import KE.KDictDisplayH
import KE.SortData
import HandS.ForExc
import HandS.ExcCtx
import HandS.HeadWalk
import KE.KExcSuper
import HandS.StrMore
import HandS.Wide
import HandS.ExcIs
import HandS.IsInst
import HandS.HotCalls
import KE.KStateDown
import HandS.Head0
import HandS.Head1
import HandS.Head2
import HandS.HeadHook4
import PyProof.FString
import HandS.Star
import PyProof.Rows.StrCut
import HandS.Nested
import HandS.TupMul
import HandS.Zip
import KE.GoesMore
import KE.GoesEnum
import HandS.OwnIter
import PyProof.FactsLen
import HandS.Codes
import HandS.NoneIn
import PyProof.StrOps2
import HandS.Conv
import HandS.TupLen
import HandS.ListEq
import PySem.Challenge.RW_nocounters_k71_kinds_table
section
set_option Elab.async false
set_option linter.all false
set_option maxRecDepth 100000
namespace K71
open PySem PySem.Spec PyProof.Rows L2
def top (i : Nat) : Stmt := PySem.Challenge.pw_nocounters_k71_kinds_table.main.body.getD i (.Pass ⟨0, 0, 0, 0⟩)
abbrev s_walk : Stmt := top 25
abbrev N_walk : List Str := ["letters", "steps", "state", "word", "letter"]
theorem sc_walk : FnScope N_walk ["letters", "steps", "state", "word"] (defScope s_walk) := ⟨rfl, rfl, rfl, by decide +kernel, rfl, by decide +kernel, by decide +kernel⟩
abbrev s_reached : Stmt := top 26
abbrev N_reached : List Str := ["steps", "states", "seen", "at", "target"]
theorem sc_reached : FnScope N_reached ["steps"] (defScope s_reached) := ⟨rfl, rfl, rfl, by decide +kernel, rfl, by decide +kernel, by decide +kernel⟩
abbrev s_first_words : Stmt := top 27
abbrev N_first_words : List Str := ["letters", "steps", "words", "state", "letter", "target"]
theorem sc_first_words : FnScope N_first_words ["letters", "steps"] (defScope s_first_words) := ⟨rfl, rfl, rfl, by decide +kernel, rfl, by decide +kernel, by decide +kernel⟩
abbrev s_met : Stmt := top 28
abbrev N_met : List Str := ["start", "step", "width", "most", "numbers", "keys", "rows", "row", "index", "key"]
theorem sc_met : FnScope N_met ["start", "step", "width", "most"] (defScope s_met) := ⟨rfl, rfl, rfl, by decide +kernel, rfl, by decide +kernel, by decide +kernel⟩
abbrev s_rank_items : Stmt := top 31
abbrev N_rank_items : List Str := ["items", "number", "letters", "at", "below", "longer", "before", "letter", "behind"]
theorem sc_rank_items : FnScope N_rank_items ["items", "number", "letters", "at", "below"] (defScope s_rank_items) := ⟨rfl, rfl, rfl, by decide +kernel, rfl, by decide +kernel, by decide +kernel⟩
abbrev s_since_items : Stmt := top 32
abbrev N_since_items : List Str := ["items", "number", "letters", "at", "item", "other"]
theorem sc_since_items : FnScope N_since_items ["items", "number", "letters", "at"] (defScope s_since_items) := ⟨rfl, rfl, rfl, by decide +kernel, rfl, by decide +kernel, by decide +kernel⟩
abbrev s_once_items : Stmt := top 33
abbrev N_once_items : List Str := ["items", "number", "letters", "at"]
theorem sc_once_items : FnScope N_once_items ["items", "number", "letters", "at"] (defScope s_once_items) := ⟨rfl, rfl, rfl, by decide +kernel, rfl, by decide +kernel, by decide +kernel⟩
abbrev s_layer_above : Stmt := top 34
abbrev N_layer_above : List Str := ["letters", "sort", "below", "longer_kind", "kinds", "steps", "kind"]
theorem sc_layer_above : FnScope N_layer_above ["letters", "sort", "below"] (defScope s_layer_above) := ⟨rfl, rfl, rfl, by decide +kernel, rfl, by decide +kernel, by decide +kernel⟩
abbrev s_last_letters : Stmt := top 35
abbrev N_last_letters : List Str := ["known", "letter", "level", "longer"]
theorem sc_last_letters : FnScope N_last_letters ["known", "letter", "level"] (defScope s_last_letters) := ⟨rfl, rfl, rfl, by decide +kernel, rfl, by decide +kernel, by decide +kernel⟩
abbrev s_longer_pieces : Stmt := top 36
abbrev N_longer_pieces : List Str := ["known", "letter", "level", "longer", "piece"]
theorem sc_longer_pieces : FnScope N_longer_pieces ["known", "letter", "level"] (defScope s_longer_pieces) := ⟨rfl, rfl, rfl, by decide +kernel, rfl, by decide +kernel, by decide +kernel⟩
abbrev s_flat_layer : Stmt := top 37
abbrev N_flat_layer : List Str := ["letters", "sort", "level", "longer_kind", "start"]
theorem sc_flat_layer : FnScope N_flat_layer ["letters", "sort", "level"] (defScope s_flat_layer) := ⟨rfl, rfl, rfl, by decide +kernel, rfl, by decide +kernel, by decide +kernel⟩
abbrev s_kind_layers : Stmt := top 38
abbrev N_kind_layers : List Str := ["letters", "sort", "level", "kinds", "steps", "layers", "_", "items"]
theorem sc_kind_layers : FnScope N_kind_layers ["letters", "sort", "level"] (defScope s_kind_layers) := ⟨rfl, rfl, rfl, by decide +kernel, rfl, by decide +kernel, by decide +kernel⟩
abbrev s_check_letters : Stmt := top 41
abbrev N_check_letters : List Str := ["letters"]
theorem sc_check_letters : FnScope N_check_letters ["letters"] (defScope s_check_letters) := ⟨rfl, rfl, rfl, by decide +kernel, rfl, by decide +kernel, by decide +kernel⟩
abbrev s_is_word : Stmt := top 42
abbrev N_is_word : List Str := ["letters", "word"]
theorem sc_is_word : FnScope N_is_word ["letters", "word"] (defScope s_is_word) := ⟨rfl, rfl, rfl, by decide +kernel, rfl, by decide +kernel, by decide +kernel⟩
abbrev s_check_sight : Stmt := top 46
abbrev N_check_sight : List Str := ["sort", "level"]
theorem sc_check_sight : FnScope N_check_sight ["sort", "level"] (defScope s_check_sight) := ⟨rfl, rfl, rfl, by decide +kernel, rfl, by decide +kernel, by decide +kernel⟩
abbrev s_Kinds__init : Stmt := inClass (top 47) 0
abbrev N_Kinds__init : List Str := ["self", "letters", "sort", "level", "layers", "steps", "layer"]
theorem sc_Kinds__init : FnScope N_Kinds__init ["self", "letters", "sort", "level"] (defScope s_Kinds__init) := ⟨rfl, rfl, rfl, by decide +kernel, rfl, by decide +kernel, by decide +kernel⟩
abbrev s_Kinds__len : Stmt := inClass (top 47) 1
abbrev N_Kinds__len : List Str := ["self"]
theorem sc_Kinds__len : FnScope N_Kinds__len ["self"] (defScope s_Kinds__len) := ⟨rfl, rfl, rfl, by decide +kernel, rfl, by decide +kernel, by decide +kernel⟩
abbrev s_Kinds_kind_of : Stmt := inClass (top 47) 2
abbrev N_Kinds_kind_of : List Str := ["self", "word"]
theorem sc_Kinds_kind_of : FnScope N_Kinds_kind_of ["self", "word"] (defScope s_Kinds_kind_of) := ⟨rfl, rfl, rfl, by decide +kernel, rfl, by decide +kernel, by decide +kernel⟩
abbrev s_Kinds_product : Stmt := inClass (top 47) 3
abbrev N_Kinds_product : List Str := ["self", "i", "j", "number"]
theorem sc_Kinds_product : FnScope N_Kinds_product ["self", "i", "j"] (defScope s_Kinds_product) := ⟨rfl, rfl, rfl, by decide +kernel, rfl, by decide +kernel, by decide +kernel⟩
abbrev s_law_open : Stmt := top 49
abbrev N_law_open : List Str := ["script", "cells", "small", "cell"]
theorem sc_law_open : FnScope N_law_open ["script"] (defScope s_law_open) := ⟨rfl, rfl, rfl, by decide +kernel, rfl, by decide +kernel, by decide +kernel⟩
abbrev s_law_mixed : Stmt := top 50
abbrev N_law_mixed : List Str := ["small", "at", "cell", "once", "twice"]
theorem sc_law_mixed : FnScope N_law_mixed ["small", "at"] (defScope s_law_mixed) := ⟨rfl, rfl, rfl, by decide +kernel, rfl, by decide +kernel, by decide +kernel⟩
abbrev s_law_draw : Stmt := top 51
abbrev N_law_draw : List Str := ["pool", "many", "at", "digit"]
theorem sc_law_draw : FnScope N_law_draw ["pool", "many"] (defScope s_law_draw) := ⟨rfl, rfl, rfl, by decide +kernel, rfl, by decide +kernel, by decide +kernel⟩
abbrev s_law_fault : Stmt := top 52
abbrev N_law_fault : List Str := ["e", "own", "k"]
theorem sc_law_fault : FnScope N_law_fault ["e"] (defScope s_law_fault) := ⟨rfl, rfl, rfl, by decide +kernel, rfl, by decide +kernel, by decide +kernel⟩
abbrev s_law_plain : Stmt := top 53
abbrev N_law_plain : List Str := ["thing", "kinds"]
theorem sc_law_plain : FnScope N_law_plain ["thing"] (defScope s_law_plain) := ⟨rfl, rfl, rfl, by decide +kernel, rfl, by decide +kernel, by decide +kernel⟩
abbrev s_law_same : Stmt := top 54
abbrev N_law_same : List Str := ["told", "due", "k"]
theorem sc_law_same : FnScope N_law_same ["told", "due"] (defScope s_law_same) := ⟨rfl, rfl, rfl, by decide +kernel, rfl, by decide +kernel, by decide +kernel⟩
abbrev s_law_sign : Stmt := top 55
abbrev N_law_sign : List Str := ["pool", "signs"]
theorem sc_law_sign : FnScope N_law_sign ["pool"] (defScope s_law_sign) := ⟨rfl, rfl, rfl, by decide +kernel, rfl, by decide +kernel, by decide +kernel⟩
abbrev s_law_word : Stmt := top 56
abbrev N_law_word : List Str := ["pool", "letters", "size", "k"]
theorem sc_law_word : FnScope N_law_word ["pool", "letters", "size"] (defScope s_law_word) := ⟨rfl, rfl, rfl, by decide +kernel, rfl, by decide +kernel, by decide +kernel⟩
abbrev s_law_pieces : Stmt := top 57
abbrev N_law_pieces : List Str := ["word", "most", "found", "letter", "piece"]
theorem sc_law_pieces : FnScope N_law_pieces ["word", "most"] (defScope s_law_pieces) := ⟨rfl, rfl, rfl, by decide +kernel, rfl, by decide +kernel, by decide +kernel⟩
abbrev s_law_items : Stmt := top 58
abbrev N_law_items : List Str := ["book", "sort", "level", "word", "items", "seen", "at", "low", "item", "high"]
theorem sc_law_items : FnScope N_law_items ["book", "sort", "level", "word"] (defScope s_law_items) := ⟨rfl, rfl, rfl, by decide +kernel, rfl, by decide +kernel, by decide +kernel⟩
abbrev s_law_number : Stmt := top 59
abbrev N_law_number : List Str := ["book", "sort", "level", "word", "key", "name"]
theorem sc_law_number : FnScope N_law_number ["book", "sort", "level", "word"] (defScope s_law_number) := ⟨rfl, rfl, rfl, by decide +kernel, rfl, by decide +kernel, by decide +kernel⟩
abbrev s_law_kind : Stmt := top 60
abbrev N_law_kind : List Str := ["book", "sort", "level", "word"]
theorem sc_law_kind : FnScope N_law_kind ["book", "sort", "level", "word"] (defScope s_law_kind) := ⟨rfl, rfl, rfl, by decide +kernel, rfl, by decide +kernel, by decide +kernel⟩
abbrev s_law_table : Stmt := top 61
abbrev N_law_table : List Str := ["letters", "sort", "level", "book", "found", "words", "steps", "k", "row", "letter", "word", "kind"]
theorem sc_law_table : FnScope N_law_table ["letters", "sort", "level"] (defScope s_law_table) := ⟨rfl, rfl, rfl, by decide +kernel, rfl, by decide +kernel, by decide +kernel⟩
abbrev s_law_chain : Stmt := top 62
abbrev N_law_chain : List Str := ["sort", "level", "many", "words", "k"]
theorem sc_law_chain : FnScope N_law_chain ["sort", "level"] (defScope s_law_chain) := ⟨rfl, rfl, rfl, by decide +kernel, rfl, by decide +kernel, by decide +kernel⟩
abbrev s_law_levels : Stmt := top 63
abbrev N_law_levels : List Str := ["letters", "sort", "level", "low", "table", "k"]
theorem sc_law_levels : FnScope N_law_levels ["letters", "sort", "level"] (defScope s_law_levels) := ⟨rfl, rfl, rfl, by decide +kernel, rfl, by decide +kernel, by decide +kernel⟩
abbrev s_law_walk : Stmt := top 64
abbrev N_law_walk : List Str := ["table", "letters", "word", "number", "letter"]
theorem sc_law_walk : FnScope N_law_walk ["table", "letters", "word"] (defScope s_law_walk) := ⟨rfl, rfl, rfl, by decide +kernel, rfl, by decide +kernel, by decide +kernel⟩
abbrev s_law_sight : Stmt := top 65
abbrev N_law_sight : List Str := ["pool", "great", "sort", "letters", "top"]
theorem sc_law_sight : FnScope N_law_sight ["pool", "great"] (defScope s_law_sight) := ⟨rfl, rfl, rfl, by decide +kernel, rfl, by decide +kernel, by decide +kernel⟩
abbrev s_law_refused : Stmt := top 66
abbrev N_law_refused : List Str := ["letters", "sort", "level", "e"]
theorem sc_law_refused : FnScope N_law_refused ["letters", "sort", "level"] (defScope s_law_refused) := ⟨rfl, rfl, rfl, by decide +kernel, rfl, by decide +kernel, by decide +kernel⟩
abbrev s_law_fits : Stmt := top 67
abbrev N_law_fits : List Str := ["kinds", "sight", "table", "told", "due"]
theorem sc_law_fits : FnScope N_law_fits ["kinds", "sight", "table"] (defScope s_law_fits) := ⟨rfl, rfl, rfl, by decide +kernel, rfl, by decide +kernel, by decide +kernel⟩
abbrev s_law_due : Stmt := top 68
abbrev N_law_due : List Str := ["sight", "table", "word", "kind"]
theorem sc_law_due : FnScope N_law_due ["sight", "table", "word"] (defScope s_law_due) := ⟨rfl, rfl, rfl, by decide +kernel, rfl, by decide +kernel, by decide +kernel⟩
abbrev s_law_kind_told : Stmt := top 69
abbrev N_law_kind_told : List Str := ["kinds", "word", "e"]
theorem sc_law_kind_told : FnScope N_law_kind_told ["kinds", "word"] (defScope s_law_kind_told) := ⟨rfl, rfl, rfl, by decide +kernel, rfl, by decide +kernel, by decide +kernel⟩
abbrev s_law_joined : Stmt := top 70
abbrev N_law_joined : List Str := ["kinds", "first", "second", "e"]
theorem sc_law_joined : FnScope N_law_joined ["kinds", "first", "second"] (defScope s_law_joined) := ⟨rfl, rfl, rfl, by decide +kernel, rfl, by decide +kernel, by decide +kernel⟩
abbrev s_law_words_kept : Stmt := top 71
abbrev N_law_words_kept : List Str := ["pool", "kinds", "sight", "table", "k", "word", "due", "sign", "at", "odd"]
theorem sc_law_words_kept : FnScope N_law_words_kept ["pool", "kinds", "sight", "table"] (defScope s_law_words_kept) := ⟨rfl, rfl, rfl, by decide +kernel, rfl, by decide +kernel, by decide +kernel⟩
abbrev s_law_long_kept : Stmt := top 72
abbrev N_law_long_kept : List Str := ["pool", "kinds", "sight", "table", "block", "size", "word", "due"]
theorem sc_law_long_kept : FnScope N_law_long_kept ["pool", "kinds", "sight", "table"] (defScope s_law_long_kept) := ⟨rfl, rfl, rfl, by decide +kernel, rfl, by decide +kernel, by decide +kernel⟩
abbrev s_law_products_kept : Stmt := top 73
abbrev N_law_products_kept : List Str := ["pool", "kinds", "sight", "table", "words", "many", "k", "one", "two", "due", "far", "bad", "other"]
theorem sc_law_products_kept : FnScope N_law_products_kept ["pool", "kinds", "sight", "table"] (defScope s_law_products_kept) := ⟨rfl, rfl, rfl, by decide +kernel, rfl, by decide +kernel, by decide +kernel⟩
abbrev s_law_odd_sort : Stmt := top 74
abbrev N_law_odd_sort : List Str := ["pool", "name", "menu", "k"]
theorem sc_law_odd_sort : FnScope N_law_odd_sort ["pool"] (defScope s_law_odd_sort) := ⟨rfl, rfl, rfl, by decide +kernel, rfl, by decide +kernel, by decide +kernel⟩
abbrev s_law_refusals : Stmt := top 75
abbrev N_law_refusals : List Str := ["pool", "sight", "letters", "sort", "level", "menu", "odd", "name", "far", "bad"]
theorem sc_law_refusals : FnScope N_law_refusals ["pool", "sight"] (defScope s_law_refusals) := ⟨rfl, rfl, rfl, by decide +kernel, rfl, by decide +kernel, by decide +kernel⟩
abbrev s_law_judged : Stmt := top 76
abbrev N_law_judged : List Str := ["pool", "kinds", "sight", "table"]
theorem sc_law_judged : FnScope N_law_judged ["pool", "kinds", "sight", "table"] (defScope s_law_judged) := ⟨rfl, rfl, rfl, by decide +kernel, rfl, by decide +kernel, by decide +kernel⟩
abbrev s_law : Stmt := top 77
abbrev N_law : List Str := ["script", "pool", "great", "sight", "table", "other", "small", "beside", "told", "kinds"]
theorem sc_law : FnScope N_law ["script"] (defScope s_law) := ⟨rfl, rfl, rfl, by decide +kernel, rfl, by decide +kernel, by decide +kernel⟩
end K71
end
section
set_option Elab.async false
set_option linter.all false
set_option maxRecDepth 100000
set_option maxHeartbeats 4000000
/-! Tables of sets of any size: the search's round over a power of two, a slot put in, all laid anew. -/
namespace SG
open PySem PySem.Spec PyProof.Rows L2
/-! ### the round of i -> 5 i + 1 modulo a power of two -/
def rnd (x : Nat) : Nat → Nat
  | 0 => x
  | k + 1 => rnd x k * 5 + 1
theorem rnd_add (x a : Nat) : ∀ b, rnd x (a + b) = rnd (rnd x a) b
  | 0 => rfl
  | b + 1 => by
    show rnd x (a + b) * 5 + 1 = rnd (rnd x a) b * 5 + 1
    rw [rnd_add x a b]
theorem rnd_pow : ∀ n : Nat, ∃ c : Nat, ∀ x, rnd x (2 ^ n) = x + 4 * (2 ^ n * (2 * c + 1)) * x + 2 ^ n * (2 * c + 1)
  | 0 => ⟨0, fun x => by
    show x * 5 + 1 = x + 4 * (1 * (2 * 0 + 1)) * x + 1 * (2 * 0 + 1)
    omega⟩
  | n + 1 => by
    obtain ⟨c, h⟩ := rnd_pow n
    refine ⟨c + (2 * c + 1) * (2 ^ n * (2 * c + 1)), fun x => ?_⟩
    have e : 2 ^ (n + 1) = 2 ^ n + 2 ^ n := by rw [Nat.pow_succ]; omega
    rw [e, rnd_add, h, h]
    generalize hD : 2 ^ n * (2 * c + 1) = D
    -- 2 ^ (n + 1) (2 c' + 1) = 2 D (1 + 2 D)
    have e2 : (2 ^ n + 2 ^ n) * (2 * (c + (2 * c + 1) * D) + 1) = 2 * D + 4 * (D * D) := by
      have e3 : 2 * (c + (2 * c + 1) * D) + 1 = (2 * c + 1) * (1 + 2 * D) := by
        rw [Nat.mul_add, Nat.mul_add (2 * c + 1) 1, Nat.mul_one]
        have e4 : 2 * ((2 * c + 1) * D) = (2 * c + 1) * (2 * D) := Nat.mul_left_comm _ _ _
        omega
      have e5 : 2 ^ n + 2 ^ n = 2 * 2 ^ n := by omega
      rw [e3, e5, Nat.mul_assoc, ← Nat.mul_assoc (2 ^ n), hD, Nat.mul_add, Nat.mul_one, Nat.mul_add]
      have e6 : 2 * (D * (2 * D)) = 4 * (D * D) := by rw [Nat.mul_left_comm D 2 D]; omega
      omega
    rw [e2]
    have a1 : 4 * D * (x + 4 * D * x + D) = 4 * (D * x) + 16 * (D * D * x) + 4 * (D * D) := by
      rw [Nat.mul_add, Nat.mul_add]
      have b1 : 4 * D * x = 4 * (D * x) := Nat.mul_assoc _ _ _
      have b2 : 4 * D * (4 * D * x) = 16 * (D * D * x) := by
        rw [b1, Nat.mul_assoc 4 D, Nat.mul_left_comm D 4, ← Nat.mul_assoc D D x]
        omega
      have b3 : 4 * D * D = 4 * (D * D) := Nat.mul_assoc _ _ _
      omega
    have a2 : 4 * D * x = 4 * (D * x) := Nat.mul_assoc _ _ _
    have a3 : 4 * (2 * D + 4 * (D * D)) * x = 8 * (D * x) + 16 * (D * D * x) := by
      have b1 : 4 * (2 * D + 4 * (D * D)) = 8 * D + 16 * (D * D) := by omega
      rw [b1, Nat.add_mul, Nat.mul_assoc, Nat.mul_assoc 16]
    rw [a1, a2, a3]
    omega
theorem rnd_half (n x : Nat) : rnd x (2 ^ n) % 2 ^ (n + 1) = (x + 2 ^ n) % 2 ^ (n + 1) := by
  obtain ⟨c, h⟩ := rnd_pow n
  rw [h x]
  have e : x + 4 * (2 ^ n * (2 * c + 1)) * x + 2 ^ n * (2 * c + 1) = x + 2 ^ n + 2 ^ (n + 1) * (c + 2 * ((2 * c + 1) * x)) := by
    rw [Nat.pow_succ]
    generalize 2 ^ n = p
    have a1 : 4 * (p * (2 * c + 1)) * x = 4 * (p * ((2 * c + 1) * x)) := by rw [Nat.mul_assoc, Nat.mul_assoc]
    have a2 : p * (2 * c + 1) = 2 * (p * c) + p := by rw [Nat.mul_add, Nat.mul_one, Nat.mul_left_comm]
    have a3 : p * 2 * (c + 2 * ((2 * c + 1) * x)) = 2 * (p * c) + 4 * (p * ((2 * c + 1) * x)) := by
      rw [Nat.mul_comm p 2, Nat.mul_assoc, Nat.mul_add, Nat.mul_add, Nat.mul_left_comm p 2]
      omega
    rw [a1, a2, a3]
    omega
  rw [e, Nat.add_mul_mod_self_left]
theorem rnd_mod (m x y : Nat) (h : x % m = y % m) : ∀ k, rnd x k % m = rnd y k % m
  | 0 => h
  | k + 1 => by
    have ih := rnd_mod m x y h k
    show (rnd x k * 5 + 1) % m = (rnd y k * 5 + 1) % m
    rw [Nat.add_mod, Nat.mul_mod, ih, ← Nat.mul_mod, ← Nat.add_mod]
theorem rnd_all : ∀ (n i j : Nat), j < 2 ^ n → ∃ k, k < 2 ^ n ∧ rnd i k % 2 ^ n = j
  | 0, i, j, h => ⟨0, by decide, by
    have : j = 0 := by simpa using h
    rw [this]; exact Nat.mod_one _⟩
  | n + 1, i, j, h => by
    have e : 2 ^ (n + 1) = 2 ^ n + 2 ^ n := by rw [Nat.pow_succ]; omega
    obtain ⟨k, hk, ek⟩ := rnd_all n i (j % 2 ^ n) (Nat.mod_lt _ (Nat.two_pow_pos n))
    have hr : rnd i k % 2 ^ (n + 1) < 2 ^ (n + 1) := Nat.mod_lt _ (Nat.two_pow_pos _)
    have em : rnd i k % 2 ^ (n + 1) % 2 ^ n = j % 2 ^ n := by
      rw [Nat.mod_mod_of_dvd _ ⟨2, by rw [Nat.pow_succ]⟩]
      exact ek
    have lo : ∀ z, z < 2 ^ (n + 1) → z = z % 2 ^ n ∨ z = z % 2 ^ n + 2 ^ n := fun z hz => by
      by_cases c : z < 2 ^ n
      · exact .inl (Nat.mod_eq_of_lt c).symm
      · right
        have q : z % 2 ^ n = z - 2 ^ n := by
          rw [Nat.mod_eq_sub_mod (by omega), Nat.mod_eq_of_lt (by omega)]
        omega
    rcases Nat.decEq (rnd i k % 2 ^ (n + 1)) j with c | c
    · refine ⟨k + 2 ^ n, by omega, ?_⟩
      rw [rnd_add, rnd_half, Nat.add_mod]
      have p2 : 2 ^ n % 2 ^ (n + 1) = 2 ^ n := Nat.mod_eq_of_lt (by have := Nat.two_pow_pos n; omega)
      rw [p2]
      have l1 := lo _ hr
      have l2 := lo j h
      rw [em] at l1
      have hp := Nat.two_pow_pos n
      rcases l1 with l1 | l1 <;> rcases l2 with l2 | l2
      · exact absurd (l1.trans l2.symm) c
      · rw [l1, ← l2]; exact Nat.mod_eq_of_lt h
      · rw [l1]
        have : j % 2 ^ n + 2 ^ n + 2 ^ n = j + 2 ^ (n + 1) := by omega
        rw [this, Nat.add_mod_right]
        exact Nat.mod_eq_of_lt h
      · exact absurd (l1.trans l2.symm) c
    · exact ⟨k, by omega, c⟩
/-! ### masks -/
def Msk (m : Nat) : Prop := ∃ n, 3 ≤ n ∧ n ≤ 16 ∧ m + 1 = 2 ^ n
theorem lcg_rnd {m : Nat} (i : Nat) (hi : i ≤ m) : ∀ k, lcgI m i k = rnd i k % (m + 1)
  | 0 => (Nat.mod_eq_of_lt (Nat.lt_succ_of_le hi)).symm
  | k + 1 => by
    show (lcgI m i k * 5 + 1) % (m + 1) = (rnd i k * 5 + 1) % (m + 1)
    rw [lcg_rnd i hi k, Nat.add_mod, Nat.mul_mod, Nat.mod_mod, ← Nat.mul_mod, ← Nat.add_mod]
theorem meets {m : Nat} (hm : Msk m) (h : Int) {j : Nat} (hj : j ≤ m) : ∃ n, n ≤ m + 12 ∧ runI m (SetTable.bits h) n = j := by
  obtain ⟨n, _, _, e⟩ := hm
  obtain ⟨k, hk, ek⟩ := rnd_all n (runI m (SetTable.bits h) 12) j (by omega)
  refine ⟨12 + k, by omega, ?_⟩
  rw [runI_tail (bits_lt h), lcg_rnd _ (runI_le m _ 12), e]
  exact ek
theorem way_bd {m : Nat} {h : Int} {k : Nat} : way m h k ≤ m := by
  have hi : SetTable.bits h % (m + 1) ≤ m := Nat.le_of_lt_succ (Nat.mod_lt _ (Nat.succ_pos _))
  have r := runEnd_bd hi
  have q := nth_in (m := m) k (runAt m (SetTable.bits h % (m + 1)) (SetTable.bits h)) (by
    show SetTable.bits h % (m + 1) + (SetTable.runEnd m (SetTable.bits h % (m + 1)) - SetTable.bits h % (m + 1)) ≤ m
    omega)
  exact Nat.le_trans (Nat.le_add_right _ _) q
end SG
end
section
set_option Elab.async false
set_option linter.all false
set_option maxRecDepth 100000
set_option maxHeartbeats 4000000
namespace SG
open PySem PySem.Spec PyProof.Rows L2
/-- a table without dummies whose slots are found again from their hashes -/
structure Tb (t : SetTable) (hs : List Int) : Prop where
  ris : Ris t.place.toList
  dm : t.dummies = #[]
  sz : t.place.size = hs.length
  msk : Msk t.mask
  bd : ∀ x ∈ t.place.toList, x ≤ t.mask
  way_ : ∀ (i : Nat) (h : Int) (j : Nat), hs[i]? = some h → t.place.toList[i]? = some j → ∃ k, way t.mask h k = j ∧ ∀ k', k' < k → way t.mask h k' ∈ t.place.toList
theorem msk_odd {m : Nat} (h : Msk m) : m % 2 = 1 := by
  obtain ⟨n, h3, _, e⟩ := h
  obtain ⟨k, rfl⟩ : ∃ k, n = k + 1 := ⟨n - 1, by omega⟩
  rw [Nat.pow_succ] at e
  omega
theorem msk_le {m : Nat} (h : Msk m) : m + 1 ≤ 65536 := by
  obtain ⟨n, _, h16, e⟩ := h
  rw [e]
  exact Nat.pow_le_pow_right (by decide) h16
section
variable {t : SetTable} {hs : List Int} {h : Int}
theorem Tb.first (T : Tb t hs) (hl : hs.length ≤ t.mask) (h : Int) : ∃ K, K < 10 * SetTable.turns t.mask ∧ way t.mask h K ∉ t.place.toList ∧ ∀ k, k < K → way t.mask h k ∈ t.place.toList := by
  obtain ⟨j, hj, hn⟩ := st_missing t.place.toList (t.mask + 1) (by rw [Array.length_toList, T.sz]; omega)
  obtain ⟨n, hn12, en⟩ := meets T.msk h (Nat.le_of_lt_succ hj)
  obtain ⟨k, hk, ek⟩ := run_nth t.mask (SetTable.bits h) n
  have kj : way t.mask h k = j := by
    show (nth _ _ k).j = j
    rw [ek]
    exact en
  obtain ⟨K, h1, h2, h3⟩ := st_least (p := fun k => way t.mask h k ∉ t.place.toList) k (by show way t.mask h k ∉ _; rw [kj]; exact hn)
  refine ⟨K, by unfold SetTable.turns; omega, h2, fun k' hk' => Classical.byContradiction fun c => h3 k' hk' c⟩
theorem Tb.before (T : Tb t hs) {K i j : Nat} (hK : way t.mask h K ∉ t.place.toList) (hi : hs[i]? = some h) (hj : t.place.toList[i]? = some j) : ∃ k, k < K ∧ way t.mask h k = j := by
  obtain ⟨k, e, hb⟩ := T.way_ i h j hi hj
  refine ⟨k, Classical.byContradiction fun c => ?_, e⟩
  rcases Nat.lt_or_ge K k with q | q
  · exact hK (hb K q)
  · have : k = K := by omega
    rw [← this, e] at hK
    exact hK (List.mem_of_getElem? hj)
theorem Tb.put (T : Tb t hs) {j K : Nat} (ej : way t.mask h K = j) (hK : j ∉ t.place.toList) (hb : ∀ k, k < K → way t.mask h k ∈ t.place.toList) :
    ∃ p, (t.put j).2 = p ∧ SetTable.below t.place j = p ∧ p ≤ hs.length ∧ Tb (t.put j).1 (hs.take p ++ h :: hs.drop p) ∧ (t.put j).1.mask = t.mask ∧ (t.put j).1.led = t.led ∧ (t.put j).1.fill = hs.length + 1 := by
  obtain ⟨c1, _, _⟩ := below_cut T.ris j
  refine ⟨SetTable.below t.place j, rfl, rfl, by rw [← T.sz]; exact c1, ?_, rfl, rfl, ?_⟩
  all_goals
    have hpp := put_place t j
    have hpl : SetTable.below t.place j ≤ t.place.toList.length := by rw [Array.length_toList]; exact c1
    have hph : SetTable.below t.place j ≤ hs.length := by rw [← T.sz]; exact c1
    have hsz : t.place.toList.length = hs.length := by rw [Array.length_toList]; exact T.sz
    have size1 : (t.put j).1.place.size = hs.length + 1 := by rw [← Array.length_toList, hpp, len_ins _ hpl, hsz]
  · have sub : ∀ {x : Nat}, x ∈ t.place.toList → x ∈ (t.put j).1.place.toList := fun {x} hx => by
      rw [hpp]
      exact mem_ins.2 (.inr hx)
    refine ⟨ris_insert T.ris fun e => hK (List.mem_of_getElem? (by rw [Array.getElem?_toList]; exact e)), put_dm T.dm j, by rw [len_ins _ hph]; exact size1, T.msk, fun x hx => ?_, fun i h' j' h1 h2 => ?_⟩
    · rw [hpp] at hx
      rcases mem_ins.1 hx with z | z
      · rw [z, ← ej]; exact way_bd
      · exact T.bd x z
    · rw [tins_get hs hph] at h1
      rw [hpp, tins_get _ hpl] at h2
      have old : ∀ i, hs[i]? = some h' → t.place.toList[i]? = some j' → ∃ k, way (t.put j).1.mask h' k = j' ∧ ∀ k', k' < k → way (t.put j).1.mask h' k' ∈ (t.put j).1.place.toList := fun i a b => by
        obtain ⟨k, e, z⟩ := T.way_ i h' j' a b
        exact ⟨k, e, fun k' hk' => sub (z k' hk')⟩
      by_cases c : i < SetTable.below t.place j
      · rw [if_pos c] at h1 h2
        exact old i h1 h2
      · rw [if_neg c] at h1 h2
        by_cases d : i = SetTable.below t.place j
        · rw [if_pos d] at h1 h2
          cases h1
          cases h2
          exact ⟨K, ej, fun k' hk' => sub (hb k' hk')⟩
        · rw [if_neg d] at h1 h2
          exact old _ h1 h2
  · show (t.put j).1.place.size + (t.put j).1.dummies.size = _
    rw [size1, put_dm T.dm j] <;> rfl
end
/-! ### all laid anew -/
theorem free_at {m : Nat} (hm : Msk m) (owner : Array (Option Nat)) (h : Int) {j : Nat} (hj : j ≤ m) (hf : oAt owner j = none) :
    ∃ K, SetTable.layClean.free m owner (SetTable.turns m) (SetTable.bits h % (m + 1)) (SetTable.bits h) = some (way m h K) ∧ oAt owner (way m h K) = none ∧ ∀ k, k < K → oAt owner (way m h k) ≠ none := by
  obtain ⟨n, hn, e⟩ := meets hm h hj
  have hw : way m h (off m (SetTable.bits h % (m + 1)) (SetTable.bits h) n) = j := by
    show (nth _ _ _).j = j
    rw [nth_off, itL_run]
    exact e
  obtain ⟨K, k1, k2, k3⟩ := st_least (p := fun k => oAt owner (way m h k) = none) _ (by show oAt owner (way m h (off m (SetTable.bits h % (m + 1)) (SetTable.bits h) n)) = none; rw [hw]; exact hf)
  refine ⟨K, free_spec m owner (SetTable.turns m) n _ _ K (by unfold SetTable.turns; omega) k1 (fun k hk => ?_) ?_, k2, k3⟩
  · have q := k3 k hk
    cases z : oAt owner (way m h k) with
    | none => exact absurd z q
    | some x => rfl
  · show (oAt owner (way m h K)).isNone = true
    rw [k2] <;> rfl
theorem own_step {m : Nat} (hm : Msk m) {done : List Int} {owner : Array (Option Nat)} (W : Own m done owner) (hl : done.length ≤ m) (h : Int) :
    ∃ j, SetTable.layClean.free m owner (SetTable.turns m) (SetTable.bits h % (m + 1)) (SetTable.bits h) = some j ∧ Own m (done ++ [h]) (owner.setIfInBounds j (some done.length)) := by
  obtain ⟨ps, hps, hin⟩ := W.ps
  obtain ⟨j0, h0, hn0⟩ := st_missing ps (m + 1) (by omega)
  have f0 : oAt owner j0 = none := Classical.byContradiction fun c => hn0 (hin j0 (Nat.le_of_lt_succ h0) c)
  obtain ⟨K, e1, e2, e3⟩ := free_at hm owner h (Nat.le_of_lt_succ h0) f0
  obtain ⟨j, ej⟩ : ∃ j, way m h K = j := ⟨_, rfl⟩
  have hjm : j ≤ m := by rw [← ej]; exact way_bd
  rw [ej] at e1 e2
  have self := oAt_set_self (owner := owner) (some done.length) (by rw [W.sz]; exact Nat.lt_succ_of_le hjm : j < owner.size)
  have up : ∀ {i : Nat}, oAt owner i ≠ none → oAt (owner.setIfInBounds j (some done.length)) i ≠ none := fun {i} hi => by
    by_cases c : i = j
    · rw [c, self]; simp
    · rw [oAt_set_ne _ c]; exact hi
  refine ⟨j, e1, by rw [Array.size_setIfInBounds]; exact W.sz, fun i k hi e => ?_, fun k hk => ?_, j :: ps, by simp [hps], fun i hi e => ?_⟩
  · by_cases c : i = j
    · rw [c, self] at e
      cases e
      exact ⟨h, K, by simp, by rw [c]; exact ej, fun k' hk' => up (e3 k' hk')⟩
    · rw [oAt_set_ne _ c] at e
      obtain ⟨h', K', a1, a2, a3⟩ := W.at_ i k hi e
      exact ⟨h', K', by rw [List.getElem?_append_left (List.getElem?_eq_some_iff.mp a1).1]; exact a1, a2, fun k' hk' => up (a3 k' hk')⟩
  · rw [List.length_append, List.length_singleton] at hk
    by_cases c : k < done.length
    · obtain ⟨i, hi, e⟩ := W.all k c
      exact ⟨i, hi, by rw [oAt_set_ne _ (fun z => by rw [z, e2] at e; cases e)]; exact e⟩
    · have : k = done.length := by omega
      exact ⟨j, hjm, by rw [this]; exact self⟩
  · by_cases c : i = j
    · rw [c]; exact List.mem_cons_self
    · rw [oAt_set_ne _ c] at e
      exact List.mem_cons_of_mem _ (hin i hi e)
theorem own_fold {m : Nat} (hm : Msk m) : ∀ (rest done : List Int) (owner : Array (Option Nat)), Own m done owner → done.length + rest.length ≤ m →
    ∃ owner', rest.foldl (stepF m) (some (owner, done.length)) = some (owner', (done ++ rest).length) ∧ Own m (done ++ rest) owner'
  | [], done, owner, W, _ => ⟨owner, by rw [List.append_nil] <;> rfl, by rw [List.append_nil]; exact W⟩
  | h :: rest, done, owner, W, hl => by
    rw [List.length_cons] at hl
    obtain ⟨j, e, W'⟩ := own_step hm W (by omega) h
    have l1 : (done ++ [h]).length = done.length + 1 := by simp
    obtain ⟨owner', f, W2⟩ := own_fold hm rest (done ++ [h]) _ W' (by omega)
    rw [List.append_assoc] at f W2
    rw [l1] at f
    exact ⟨owner', by rw [List.foldl_cons, stepF_some e]; exact f, W2⟩
theorem relaid_tb (t : SetTable) {hs : Array Int} {wanted M : Nat} (hw : SetTable.sizeAbove wanted - 1 = M) (hM : Msk M) (hn : hs.size ≤ M) :
    ∃ t' order, t.relaid hs wanted = some (t', order) ∧ order.toList.Perm (List.range hs.size) ∧ Tb t' (order.toList.map fun i => hs.getD i 0) ∧ t'.mask = M ∧ t'.led = t.led := by
  obtain ⟨owner, f, W⟩ := own_fold hM hs.toList [] _ (Own.init M) (by rw [Array.length_toList]; show 0 + hs.size ≤ M; omega)
  rw [List.nil_append] at f W
  have e : SetTable.layClean M hs = some owner := by
    rw [layClean_eq]
    have f' : hs.toList.foldl (stepF M) (some (Array.replicate (M + 1) none, 0)) = some (owner, hs.toList.length) := f
    rw [f'] <;> rfl
  have hr : t.relaid hs wanted = some (tabOf t M owner, ((liveOf M owner).map (·.2)).toArray) := by
    rw [relaid_eq, hw, e] <;> rfl
  have ris := ris_live (fun j => owner.getD j none) (List.range (M + 1)) (by
    unfold Ris
    first | exact List.pairwise_lt_range | exact List.pairwise_lt_range _)
  have r1 : Ris ((liveOf M owner).map (·.1)) := ris.1
  have r2 : ∀ x ∈ (liveOf M owner).map (·.1), x ∈ List.range (M + 1) := ris.2
  have nd : ((liveOf M owner).map (·.1)).Nodup := List.Pairwise.imp (fun h => Nat.ne_of_lt h) r1
  have hz : hs.toList.length = hs.size := rfl
  have len : (liveOf M owner).length = hs.size := by
    obtain ⟨ps, p1, p2⟩ := W.ps
    have a := nat_nodup_len ((liveOf M owner).map (·.1)) ps nd fun x hx => by
      obtain ⟨⟨y, k⟩, hq, rfl⟩ := List.mem_map.mp hx
      obtain ⟨b1, b2⟩ := (mem_live W.sz).1 hq
      exact p2 y b1 (by rw [b2]; simp)
    have b := nat_nodup_len (List.range hs.size) ((liveOf M owner).map (·.2)) List.nodup_range fun k hk => by
      obtain ⟨j, b1, b2⟩ := W.all k (by rw [Array.length_toList]; exact List.mem_range.mp hk)
      exact List.mem_map.mpr ⟨(j, k), (mem_live W.sz).2 ⟨b1, b2⟩, rfl⟩
    rw [List.length_map] at a
    rw [List.length_map, List.length_range] at b
    omega
  refine ⟨_, _, hr, perm_range hs.size _ (by show ((liveOf M owner).map (·.2)).length = _; rw [List.length_map]; exact len) fun k hk => ?_, ⟨r1, rfl, ?_, hM, fun x hx => Nat.le_of_lt_succ (List.mem_range.mp (r2 x hx)), fun i h j h1 h2 => ?_⟩, rfl, rfl⟩
  · obtain ⟨j, b1, b2⟩ := W.all k (by rw [Array.length_toList]; exact hk)
    exact List.mem_map.mpr ⟨(j, k), (mem_live W.sz).2 ⟨b1, b2⟩, rfl⟩
  · show ((liveOf M owner).map (·.1)).toArray.size = (((liveOf M owner).map (·.2)).map fun i => hs.getD i 0).length
    simp
  · have h1' : (((liveOf M owner).map (·.2)).map fun i => hs.getD i 0)[i]? = some h := h1
    have h2' : ((liveOf M owner).map (·.1))[i]? = some j := h2
    rw [List.map_map, List.getElem?_map] at h1'
    rw [List.getElem?_map] at h2'
    obtain ⟨⟨y, k⟩, hq, e1⟩ := Option.map_eq_some_iff.mp h2'
    rw [hq] at h1'
    have eh : hs.getD k 0 = h := Option.some.inj h1'
    have ej : y = j := e1
    subst ej
    obtain ⟨b1, b2⟩ := (mem_live W.sz).1 (List.mem_of_getElem? hq)
    obtain ⟨h0, K, a1, a2, a3⟩ := W.at_ y k b1 b2
    have e0 : hs.getD k 0 = h0 := by rw [Array.getD_eq_getD_getElem?, ← Array.getElem?_toList, a1] <;> rfl
    have : h0 = h := e0.symm.trans eh
    subst this
    refine ⟨K, a2, fun k' hk' => ?_⟩
    show way M h0 k' ∈ (liveOf M owner).map (·.1)
    cases z : oAt owner (way M h0 k') with
    | none => exact absurd z (a3 k' hk')
    | some k2 => exact List.mem_map.mpr ⟨(way M h0 k', k2), (mem_live W.sz).2 ⟨way_bd, z⟩, rfl⟩
end SG
end
section
set_option Elab.async false
set_option linter.all false
set_option maxRecDepth 100000
set_option maxHeartbeats 4000000
/-! Sets of tuples of any depth: texts and whole numbers within, up to a thousand members. -/
namespace SG
open PySem PySem.Spec PyProof.Rows L2
abbrev IsN (P : Program) (w : World) (h : Heap) (k : NestedKey) (b : Addr) : Prop := (nestedKind P w).is h k b
section
variable {P : Program} {w : World} {A : Around} {E : Value → Shared → Prop} {s : Shared}
/-- a question asked of v that tells b and changes nothing -/
def Says (P : Program) (w : World) (q : Sem Bool) (b : Bool) (s : Shared) : Prop := ∀ (A : Around) (E : Value → Shared → Prop) (Q : Bool → Shared → Prop), Q b s → wpAny (model P w) A q Q E s
/-! ### small questions -/
mutual
theorem of_class : ∀ (k : NestedKey) (v : Value) (n : Nat), NestedIs s.heap k v → k.depth ≤ n → Says P w (ofAClassStatement n v) false s
  | .none, _, n, x, _ => by cases x; cases n <;> exact fun A E Q h => wpAny_pure h
  | .num i, _, n, x, _ => by cases x <;> cases n <;> exact fun A E Q h => wpAny_pure h
  | .text y, _, n, x, _ => by cases x; cases n <;> exact fun A E Q h => wpAny_pure h
  | .tup ks, _, n, x, hn => by
    cases x with
    | @tup a o vs m _ ho hc hd hk =>
      simp only [NestedKey.depth] at hn
      obtain ⟨n, rfl⟩ : ∃ m, n = m + 1 := ⟨n - 1, by omega⟩
      intro A E Q h
      have hT : s.TypeIs (.ref a) "tuple" := ⟨o, ho, hc⟩
      have all := of_classes ks vs.toList n hk (by omega)
      unfold ofAClassStatement
      refine wpAny_bind (wpAny_typeOf hT ?_)
      dsimp only
      have e : (("tuple" : String) == "tuple") = true := by decide
      simp only [e, if_true, Bool.not_true, Bool.false_eq_true, if_false]
      try refine wpAny_bind (wpAny_pure ?_)
      try simp only [Bool.not_true, Bool.false_eq_true, if_false]
      refine wpAny_bind (wpAny_seqItems ho hd ?_)
      dsimp only
      refine wpAny_bind ?_
      show wpAny _ _ (forIn vs _ _) _ _ s
      rw [← Array.forIn_toList]
      refine wpAny_forIn_list _ (fun todo r s' => s' = s ∧ r.1 = none ∧ ∀ v ∈ todo, Says P w (ofAClassStatement n v) false s) _ ?_ ?_ _ _ ⟨rfl, rfl, all⟩
      · rintro v todo r s' ⟨rfl, hr, hall⟩
        refine wpAny_bind (hall v List.mem_cons_self _ _ _ ?_)
        simp only [Bool.false_eq_true, if_false]
        exact wpAny_pure ⟨rfl, rfl, fun u hu => hall u (List.mem_cons_of_mem _ hu)⟩
      · rintro ⟨r1, r2⟩ s' ⟨rfl, hr, _⟩
        simp only at hr
        subst hr
        exact wpAny_pure h
theorem of_classes : ∀ (ks : List NestedKey) (vs : List Value) (n : Nat), NestedAll s.heap ks vs → NestedKey.depthAll ks ≤ n → ∀ v ∈ vs, Says P w (ofAClassStatement n v) false s
  | [], _, n, x, _, v, hv => by cases x; cases hv
  | k :: ks, _, n, x, hn, v, hv => by
    cases x with
    | cons x1 x2 =>
      simp only [NestedKey.depthAll] at hn
      rcases List.mem_cons.mp hv with e | hv
      · rw [e]; exact of_class k _ n x1 (by omega)
      · exact of_classes ks _ n x2 (by omega) v hv
end
mutual
theorem by_value : ∀ (k : NestedKey) (v : Value) (n : Nat), NestedIs s.heap k v → ∃ b, Says P w (hashByValue n v) b s
  | .none, _, n, x => by cases x; cases n <;> exact ⟨true, fun A E Q h => wpAny_pure h⟩
  | .num i, _, n, x => by cases x <;> cases n <;> exact ⟨true, fun A E Q h => wpAny_pure h⟩
  | .text y, _, n, x => by cases x; cases n <;> exact ⟨false, fun A E Q h => wpAny_pure h⟩
  | .tup ks, _, n, x => by
    cases x with
    | @tup a o vs m _ ho hc hd hk =>
      cases n with
      | zero => exact ⟨false, fun A E Q h => wpAny_pure h⟩
      | succ n =>
        have hT : s.TypeIs (.ref a) "tuple" := ⟨o, ho, hc⟩
        obtain ⟨f, all⟩ := by_values ks vs.toList n hk
        refine ⟨vs.toList.all f, fun A E Q h => ?_⟩
        unfold hashByValue
        refine wpAny_bind (wpAny_specialOf hT F.slot_tuple_hash.lookup ?_)
        show wpAny _ _ (seqItems? (.ref a) >>= _) _ _ s
        refine wpAny_bind (wpAny_seqItems ho hd ?_)
        refine wpAny_bind ?_
        show wpAny _ _ (forIn vs _ _) _ _ s
        rw [← Array.forIn_toList]
        refine wpAny_forIn_list _ (fun todo r s' => s' = s ∧ r.1 = none ∧ todo.all f = vs.toList.all f ∧ ∀ v ∈ todo, Says P w (hashByValue n v) (f v) s) _ ?_ ?_ _ _ ⟨rfl, rfl, rfl, all⟩
        · rintro v todo r s' ⟨rfl, hr, he, hall⟩
          refine wpAny_bind (hall v List.mem_cons_self _ _ _ ?_)
          rw [List.all_cons] at he
          cases hf : f v with
          | false =>
            rw [hf, Bool.false_and] at he
            simp only [Bool.not_false, if_true]
            refine wpAny_pure ?_
            show wpAny _ _ _ _ _ _
            exact wpAny_pure (by rw [he]; exact h)
          | true =>
            rw [hf, Bool.true_and] at he
            simp only [Bool.not_true, Bool.false_eq_true, if_false]
            exact wpAny_pure ⟨rfl, rfl, he, fun u hu => hall u (List.mem_cons_of_mem _ hu)⟩
        · rintro ⟨r1, r2⟩ s' ⟨rfl, hr, he, _⟩
          simp only at hr
          subst hr
          exact wpAny_pure (by rw [List.all_nil] at he; rw [he]; exact h)
theorem by_values : ∀ (ks : List NestedKey) (vs : List Value) (n : Nat), NestedAll s.heap ks vs → ∃ f : Value → Bool, ∀ v ∈ vs, Says P w (hashByValue n v) (f v) s
  | ks, vs, n, x => by
    have each : ∀ v ∈ vs, ∃ b, Says P w (hashByValue n v) b s := by_value_each ks vs n x
    classical
    refine ⟨fun v => if h : ∃ b, Says P w (hashByValue n v) b s then h.choose else false, fun v hv => ?_⟩
    have h := each v hv
    show Says P w (hashByValue n v) (if h : ∃ b, Says P w (hashByValue n v) b s then h.choose else false) s
    rw [dif_pos h]
    exact h.choose_spec
theorem by_value_each : ∀ (ks : List NestedKey) (vs : List Value) (n : Nat), NestedAll s.heap ks vs → ∀ v ∈ vs, ∃ b, Says P w (hashByValue n v) b s
  | [], _, n, x, v, hv => by cases x; cases hv
  | k :: ks, _, n, x, v, hv => by
    cases x with
    | cons x1 x2 =>
      rcases List.mem_cons.mp hv with e | hv
      · rw [e]; exact by_value k _ n x1
      · exact by_value_each ks _ n x2 v hv
end
end
end SG
end
section
set_option Elab.async false
set_option linter.all false
set_option maxRecDepth 100000
set_option maxHeartbeats 4000000
/-! Adding to a set of tuples. -/
namespace SG
open PySem PySem.Spec PyProof.Rows L2
/-- an item: its address and its key -/
abbrev It := Addr × NestedKey
def hv (w : World) (p : It) : Int := p.2.hash w
def ent (w : World) (p : It) : Int × Value := (hv w p, Value.ref p.1)
/-- the most members that are followed -/
def most : Nat := 1000
structure SetN (P : Program) (w : World) (h : Heap) (a : Addr) (L : List It) (es : Array (Int × Value)) (ep : Nat) (t : SetTable) : Prop where
  ob : ∃ o, h.get? a = some o ∧ o.ExactSet ∧ o.data = .set es ep t
  ents : es.toList = L.map (ent w)
  tab : Tb t (L.map (hv w))
  nd : (L.map (·.2)).Nodup
  keys : ∀ p ∈ L, IsN P w h p.2 p.1
  led : w.params.followText "set-order" = true ∨ t.led = true
  room : L.length * 5 < t.mask * 3
  few : L.length < most
  low : t.mask ≤ 4095
section
variable {P : Program} {w : World} {A : Around} {E : Value → Shared → Prop} {s : Shared} {a : Addr} {L : List It} {es : Array (Int × Value)} {ep : Nat} {t : SetTable}
theorem SetN.len (R : SetN P w s.heap a L es ep t) : es.size = L.length := by
  rw [← Array.length_toList, R.ents, List.length_map]
theorem SetN.ok (R : SetN P w s.heap a L es ep t) : t.fits es.size = true := by
  have h1 := R.tab.sz
  rw [List.length_map] at h1
  have h3 := R.room
  unfold SetTable.fits SetTable.fill
  rw [R.tab.dm, Bool.and_eq_true, beq_iff_eq, decide_eq_true_eq, R.len]
  show t.place.size = L.length ∧ t.place.size + 0 ≤ t.mask
  omega
theorem SetN.at_ (R : SetN P w s.heap a L es ep t) {i : Nat} {p : It} (h : L[i]? = some p) : es[i]? = some (ent w p) := by
  rw [← Array.getElem?_toList, R.ents, List.getElem?_map, h] <;> rfl
theorem SetN.whole (R : SetN P w s.heap a L es ep t) : ¬ t.gaveWay = true := by
  unfold SetTable.gaveWay
  rw [msk_odd R.tab.msk]
  decide
theorem nothing_seen {k : NestedKey} {b : Addr} {Q : Bool → Shared → Prop} (hk : IsN P w s.heap k b) {ys : List Value} (hy : ∀ y ∈ ys, ∃ p : It, y = Value.ref p.1 ∧ IsN P w s.heap p.2 p.1) (h : Q false s) :
    wpAny (model P w) A (searchCouldBeSeen (.ref b) ys) Q E s := by
  unfold searchCouldBeSeen
  refine wpAny_bind (wpAny_forIn_list _ (fun todo r s' => s' = s ∧ r.1 = none ∧ ∀ y ∈ todo, ∃ p : It, y = Value.ref p.1 ∧ IsN P w s.heap p.2 p.1) _ ?_ ?_ _ _ ⟨rfl, rfl, hy⟩)
  · rintro v todo r s' ⟨rfl, hr, hall⟩
    obtain ⟨p, rfl, hp⟩ := hall v List.mem_cons_self
    have more : ∀ y ∈ todo, ∃ p : It, y = Value.ref p.1 ∧ IsN P w s'.heap p.2 p.1 := fun u hu => hall u (List.mem_cons_of_mem _ hu)
    dsimp only
    by_cases hq : (b == p.1 || (carriedByValue (.ref b) && carriedByValue (.ref p.1))) = true
    · exact wp_if_pos hq (wpAny_pure ⟨rfl, rfl, more⟩)
    · refine wp_if_neg hq (wpAny_bind (quiet_key _ _ 8 s' hk.1 hk.2 _ _ _ ?_))
      simp only [Bool.not_true, Bool.false_eq_true, if_false]
      refine wpAny_bind (quiet_key _ _ 8 s' hp.1 hp.2 _ _ _ ?_)
      simp only [Bool.not_true, Bool.false_eq_true, if_false]
      refine wpAny_bind (of_class _ _ 8 hk.1 hk.2 _ _ _ ?_)
      simp only [Bool.false_eq_true, if_false]
      refine wpAny_bind (of_class _ _ 8 hp.1 hp.2 _ _ _ ?_)
      simp only [Bool.false_eq_true, if_false]
      exact wpAny_pure ⟨rfl, rfl, more⟩
  · rintro ⟨r1, r2⟩ s' ⟨rfl, hr, _⟩
    simp only at hr
    subst hr
    exact wpAny_pure h
/-- the way of a hash, from its c-th step on -/
def prb (m : Nat) (h : Int) (c : Nat) : SetTable.Probe := nth m (runAt m (SetTable.bits h % (m + 1)) (SetTable.bits h)) c
theorem prb_j {m : Nat} {h : Int} (c q : Nat) : (nth m (prb m h c) q).j = way m h (c + q) := by
  unfold prb
  exact congrArg SetTable.Probe.j (nth_add m c _ q).symm
theorem prb_next {m : Nat} {h : Int} (c q : Nat) : nth m (prb m h c) q = prb m h (c + q) := (nth_add m c _ q).symm
theorem nth_clean (m : Nat) : ∀ (n : Nat) (p : SetTable.Probe), p.dummy = none → (nth m p n).dummy = none
  | 0, _, h => h
  | n + 1, p, h => nth_clean m n (adv m p) (by unfold adv; split <;> exact h)
theorem prb_clean {m : Nat} {h : Int} (c : Nat) : (prb m h c).dummy = none := nth_clean m c _ rfl
theorem seek (R : SetN P w s.heap a L es ep t) {x : It} (hx : IsN P w s.heap x.2 x.1) (hu : A.units + 8 < cLine) {K : Nat} (hKf : K < 10 * SetTable.turns t.mask)
    (hK : way t.mask (hv w x) K ∉ t.place.toList) (hKb : ∀ c, c < K → way t.mask (hv w x) c ∈ t.place.toList) {Q : SetFound → Shared → Prop}
    (hin : x.2 ∈ L.map (·.2) → Q (.there none) s) (hout : x.2 ∉ L.map (·.2) → Q (.free (way t.mask (hv w x) K) false) s) :
    ∀ (f c : Nat) (stand : Option SetTable.Probe), stand.getD (t.probeStart (hv w x)) = prb t.mask (hv w x) c → c ≤ K → K - c < f →
      (∀ (i : Nat) p, L[i]? = some p → p.2 = x.2 → ∃ c', c ≤ c' ∧ c' < K ∧ t.place.toList[i]? = some (way t.mask (hv w x) c')) →
      wpAny (model P w) A (setSearchFrom a (.ref x.1) (hv w x) true f stand) Q E s
  | 0, _, _, _, _, hf, _ => absurd hf (Nat.not_lt_zero _)
  | f + 1, c, stand, hst, hc, hf, ahead => by
    obtain ⟨o, ho, hex, hd⟩ := R.ob
    rw [setSearchFrom_succ]
    refine wpAny_bind (wpAny_setState_of ho hd R.ok ?_)
    dsimp only
    refine wp_if_neg R.whole ?_
    try refine wpAny_bind (wpAny_pure ?_)
    have spec := go_spec t R.tab.ris R.tab.dm (fun i => (es[i]?.map (·.1)).getD 0) (hv w x) (10 * SetTable.turns t.mask) (K - c) (prb t.mask (hv w x) c) (prb_clean c) (by omega)
      (fun q hq => by rw [prb_j]; exact hKb (c + q) (by omega)) (by rw [prb_j, show c + (K - c) = K by omega]; exact hK)
    have hashAt : ∀ (i : Nat) p, L[i]? = some p → (fun i => (es[i]?.map (·.1)).getD 0) i = hv w p := fun i p hp => by
      show (es[i]?.map (·.1)).getD 0 = _
      rw [R.at_ hp] <;> rfl
    rcases spec with ⟨q, i, hq, hi, hh, hno, hpr⟩ | ⟨hno, hpr⟩
    · have hpr' : t.probe (fun i => (es[i]?.map (·.1)).getD 0) (hv w x) (stand.getD (t.probeStart (hv w x))) = some (.candidate (way t.mask (hv w x) (c + q)) i (prb t.mask (hv w x) (c + (q + 1)))) := by
        rw [hst, ← prb_j, ← prb_next]
        exact hpr
      rw [hpr']
      dsimp only
      rw [prb_j] at hi
      have hil : i < L.length := by
        have h1 : i < t.place.toList.length := (List.getElem?_eq_some_iff.mp hi).1
        have h2 := R.tab.sz
        rw [List.length_map] at h2
        rw [Array.length_toList] at h1
        omega
      obtain ⟨p, hp⟩ : ∃ p, L[i]? = some p := ⟨_, List.getElem?_eq_getElem hil⟩
      have hmem : p ∈ L := List.mem_of_getElem? hp
      have isk := R.keys p hmem
      have onward : wpAny (model P w) A (searchRest a (.ref x.1) (hv w x) true f es t (way t.mask (hv w x) (c + q)) i (prb t.mask (hv w x) (c + (q + 1)))) Q E s := by
        unfold searchRest
        rw [R.at_ hp]
        dsimp only [ent]
        refine wpAny_bind (wpAny_holding ((nestedKind P w).eqBool (hu) isk hx ?_))
        refine wpAny_bind (wpAny_setState_of ho hd R.ok ?_)
        dsimp only
        by_cases same : p.2 = x.2
        · exact wp_if_pos (by simp [same]) (wpAny_pure (hin (List.mem_map.mpr ⟨p, hmem, same⟩)))
        · refine wp_if_neg (by simp [same]) ?_
          try refine wpAny_bind (wpAny_pure ?_)
          rw [sameMem]
          dsimp only
          have hsl : t.slot (way t.mask (hv w x) (c + q)) = .live i := slot_live R.tab.ris hi
          simp only [if_true, hsl, R.at_ hp, ent]
          refine wpAny_bind (wpAny_isSame_ref_self (wpAny_bind (wpAny_pure ?_)))
          simp only [if_true]
          refine wp_if_neg (by simp [same]) ?_
          refine seek R hx hu hKf hK hKb hin hout f (c + (q + 1)) _ rfl (by omega) (by omega) fun i0 p0 h0 hk0 => ?_
          obtain ⟨c', a1, a2, a3⟩ := ahead i0 p0 h0 hk0
          refine ⟨c', ?_, a2, a3⟩
          rcases Nat.lt_trichotomy c' (c + q) with z | z | z
          · refine absurd ?_ (hno (c' - c) i0 (by omega) (by rw [prb_j, show c + (c' - c) = c' by omega]; exact a3))
            exact (hashAt i0 p0 h0).trans (congrArg (NestedKey.hash w) hk0)
          · rw [z] at a3
            have s0 := slot_live R.tab.ris a3
            rw [hsl] at s0
            injection s0 with s0
            rw [← s0, hp] at h0
            cases h0
            exact absurd hk0 same
          · omega
      by_cases hl : t.led = true
      · refine wp_if_neg (by simp [hl]) ?_
        try refine wpAny_bind (wpAny_pure ?_)
        exact onward
      · refine wp_if_pos (by simp [hl]) (wpAny_bind (nothing_seen hx (fun y hy => ?_) ?_))
        · obtain ⟨e, he, ee⟩ := List.mem_map.mp hy
          have he1 : e ∈ es ∧ e.1 = hv w x := by simpa using he
          have he2 : e ∈ es.toList := by simpa using he1.1
          rw [R.ents] at he2
          obtain ⟨p2, hp2, rfl⟩ := List.mem_map.mp he2
          exact ⟨p2, ee.symm, R.keys p2 hp2⟩
        · refine wp_if_neg (by decide) ?_
          try refine wpAny_bind (wpAny_pure ?_)
          exact onward
    · have hpr' : t.probe (fun i => (es[i]?.map (·.1)).getD 0) (hv w x) (stand.getD (t.probeStart (hv w x))) = some (.empty (way t.mask (hv w x) K) none) := by
        have e2 : way t.mask (hv w x) K = (nth t.mask (prb t.mask (hv w x) c) (K - c)).j := by rw [prb_j, show c + (K - c) = K by omega]
        rw [hst, e2]
        exact hpr
      rw [hpr']
      dsimp only
      refine wpAny_pure (hout fun hm => ?_)
      obtain ⟨p0, h0, hk0⟩ := List.mem_map.mp hm
      obtain ⟨i0, hi0, e0⟩ := List.getElem_of_mem h0
      have h00 : L[i0]? = some p0 := by rw [List.getElem?_eq_getElem hi0, e0]
      obtain ⟨c', a1, a2, a3⟩ := ahead i0 p0 h00 hk0
      refine hno (c' - c) i0 (by omega) (by rw [prb_j, show c + (c' - c) = c' by omega]; exact a3) ?_
      exact (hashAt i0 p0 h00).trans (congrArg (NestedKey.hash w) hk0)
/-- the search as adding asks for it -/
theorem sought (R : SetN P w s.heap a L es ep t) {x : It} (hx : IsN P w s.heap x.2 x.1) (hu : A.units + 8 < cLine) {Q : SetFound → Shared → Prop}
    (hin : x.2 ∈ L.map (·.2) → Q (.there none) s)
    (hout : ∀ K, x.2 ∉ L.map (·.2) → way t.mask (hv w x) K ∉ t.place.toList → (∀ c, c < K → way t.mask (hv w x) c ∈ t.place.toList) → Q (.free (way t.mask (hv w x) K) false) s) :
    wpAny (model P w) A (setSearch a (.ref x.1) (hv w x) true) Q E s := by
  have hroom := R.room
  have hlow := R.low
  obtain ⟨K, hKf, hK, hKb⟩ := R.tab.first (by rw [List.length_map]; omega) (hv w x)
  have hbig : K < 100000 := by
    unfold SetTable.turns at hKf
    omega
  unfold setSearch
  refine seek R hx hu hKf hK hKb hin (fun hn => hout K hn hK hKb) 100000 0 none rfl (Nat.zero_le _) (by omega) fun i p hp hk => ?_
  have hi : (L.map (hv w))[i]? = some (hv w x) := by
    rw [List.getElem?_map, hp]
    exact congrArg some (congrArg (NestedKey.hash w) hk)
  have hil : i < t.place.toList.length := by
    have h1 : i < L.length := (List.getElem?_eq_some_iff.mp hp).1
    have h2 := R.tab.sz
    rw [List.length_map] at h2
    rw [Array.length_toList]
    omega
  have hj := List.getElem?_eq_getElem hil
  obtain ⟨c, hc, e⟩ := R.tab.before hK hi hj
  exact ⟨c, Nat.zero_le _, hc, by rw [hj, e]⟩
/-! ### growing -/
theorem size_all : ((List.range 1001).all fun n => n < 5 || ((List.range 17).any fun k => SetTable.sizeAbove (SetTable.grown n) == 2 ^ k && 3 ≤ k) && decide (SetTable.sizeAbove (SetTable.grown n) ≤ 4096) && decide (4 * n < SetTable.sizeAbove (SetTable.grown n))) = true := by decide +kernel
theorem size_of {n : Nat} (h5 : 5 ≤ n) (h : n ≤ 1000) : Msk (SetTable.sizeAbove (SetTable.grown n) - 1) ∧ SetTable.sizeAbove (SetTable.grown n) ≤ 4096 ∧ 4 * n ≤ SetTable.sizeAbove (SetTable.grown n) - 1 := by
  have q := List.all_eq_true.mp size_all n (List.mem_range.mpr (by omega))
  have n5 : decide (n < 5) = false := by simpa using h5
  rw [n5, Bool.false_or, Bool.and_eq_true, Bool.and_eq_true, decide_eq_true_eq, decide_eq_true_eq] at q
  obtain ⟨⟨q1, q2⟩, q3⟩ := q
  obtain ⟨k, hk, e⟩ := List.any_eq_true.mp q1
  rw [Bool.and_eq_true, beq_iff_eq, decide_eq_true_eq] at e
  exact ⟨⟨k, e.2, by have := List.mem_range.mp hk; omega, by rw [← e.1]; omega⟩, q2, by omega⟩
theorem isN_same {h h' : Heap} {k : NestedKey} {b : Addr} {o : Obj} (hb : IsN P w h k b) (ho : h.get? a = some o) (hd : o.data = .set es ep t) (hs : Heap.SameBut a h h') : IsN P w h' k b :=
  ⟨NestedIs.at (fun c oc vs n hc he => (hs.2 c fun e => by
    subst e
    rw [ho] at hc
    cases hc
    rw [hd] at he
    cases he).trans hc) k _ hb.1, hb.2⟩
theorem isN_keep {h h' : Heap} {k : NestedKey} {b : Addr} (x : IsN P w h k b) (hk : ∀ c o, h.get? c = some o → h'.get? c = some o) : IsN P w h' k b :=
  ⟨NestedIs.at (fun c oc vs n hc he => hk c oc hc) k _ x.1, x.2⟩
theorem sorted_out (L : List It) (es : Array (Int × Value)) (order : Array Nat) (hr : es.toList = L.map (ent w)) (hp : order.toList.Perm (List.range L.length)) :
    ∃ L2 : List It, (order.filterMap (es[·]?)).toList = L2.map (ent w) ∧ L2.Perm L ∧ L2.map (hv w) = order.toList.map fun i => (es.map (·.1)).getD i 0 := by
  have ent_ : ∀ i (h : i < L.length), es[i]? = some (ent w L[i]) := fun i h => by
    rw [← Array.getElem?_toList, hr, List.getElem?_map, List.getElem?_eq_getElem h] <;> rfl
  have key : ∀ l : List Nat, (∀ i ∈ l, i < L.length) → l.filterMap (fun i => es[i]?) = (l.filterMap (fun i => L[i]?)).map (ent w) ∧ (l.filterMap (fun i => L[i]?)).map (hv w) = l.map fun i => (es.map (·.1)).getD i 0 := by
    intro l
    induction l with
    | nil => intro _; exact ⟨rfl, rfl⟩
    | cons i l ih =>
      intro hl
      have hi := hl i List.mem_cons_self
      obtain ⟨e1, e2⟩ := ih fun j hj => hl j (List.mem_cons_of_mem _ hj)
      rw [List.filterMap_cons_some (ent_ i hi), List.filterMap_cons_some (List.getElem?_eq_getElem hi), e1]
      refine ⟨rfl, ?_⟩
      rw [List.map_cons, List.map_cons, e2]
      have e5 : (es.map (·.1))[i]? = some (hv w L[i]) := by rw [Array.getElem?_map, ent_ i hi] <;> rfl
      simp [Array.getD_eq_getD_getElem?, e5]
  obtain ⟨e1, e2⟩ := key order.toList fun i hi => List.mem_range.mp (hp.mem_iff.mp hi)
  refine ⟨_, by rw [Array.toList_filterMap]; exact e1, ?_, e2⟩
  have h2 : (List.range L.length).filterMap (fun i => L[i]?) = L := by
    have gen : ∀ n, n ≤ L.length → (List.range n).filterMap (fun i => L[i]?) = L.take n := by
      intro n
      induction n with
      | zero => intro _; rfl
      | succ n ih =>
        intro hn
        rw [List.range_succ, List.filterMap_append, ih (Nat.le_of_lt hn), List.take_succ, List.getElem?_eq_getElem hn, List.filterMap_cons_some (List.getElem?_eq_getElem hn)] <;> rfl
    rw [gen L.length (Nat.le_refl _), List.take_length]
  have h1 := hp.filterMap (fun i => L[i]?)
  rwa [h2] at h1
theorem len_eq (hr : es.toList = L.map (ent w)) : es.size = L.length := by rw [← Array.length_toList, hr, List.length_map]
theorem laid_anew {o : Obj} (ho : s.heap.get? a = some o) (hex : o.ExactSet) (hd : o.data = .set es ep t) (hr : es.toList = L.map (ent w)) (hsz : t.place.size = es.size) (hdm : t.dummies = #[]) (hfl : es.size ≤ t.mask)
    (nd : (L.map (·.2)).Nodup) (keys : ∀ p ∈ L, IsN P w s.heap p.2 p.1) (ld : w.params.followText "set-order" = true ∨ t.led = true) (few : L.length < most) {n : Nat} (hn : L.length = n) (h5 : 5 ≤ n) {Q : Unit → Shared → Prop}
    (hQ : ∀ h' L' es' ep' t', Heap.SameBut a s.heap h' → SetN P w h' a L' es' ep' t' → L'.Perm L → Q () { s with heap := h' }) : wpAny (model P w) A (setRelay a (SetTable.grown n)) Q E s := by
  have hsl := len_eq hr
  have few' : L.length < 1000 := few
  obtain ⟨m1, m2, m3⟩ := size_of h5 (by omega)
  have hfits : t.fits es.size = true := by
    unfold SetTable.fits SetTable.fill
    rw [hdm, Bool.and_eq_true, beq_iff_eq, decide_eq_true_eq]
    show t.place.size = es.size ∧ t.place.size + 0 ≤ t.mask
    omega
  obtain ⟨t', order, e, hp, T, em, el⟩ := relaid_tb t (hs := es.map (·.1)) (wanted := SetTable.grown n) rfl m1 (by rw [Array.size_map, hsl]; omega)
  rw [Array.size_map, hsl] at hp
  obtain ⟨L2, r1, r2, r3⟩ := sorted_out L es order hr hp
  rw [← r3] at T
  have hs2 : (order.filterMap (es[·]?)).size = es.size := by rw [len_eq r1, r2.length_eq, hsl]
  rw [setRelay_eq]
  refine wpAny_bind (wpAny_setState_of ho hd hfits ?_)
  dsimp only
  refine wp_if_neg (by rw [sizeLine_eq]; omega) ?_
  try refine wpAny_bind (wpAny_pure ?_)
  rw [e]
  dsimp only
  refine wpAny_bind ?_
  refine wp_if_neg (by rw [hs2]; simp) ?_
  try refine wpAny_bind (wpAny_pure ?_)
  refine wpAny_pure ?_
  dsimp only
  refine wpAny_storeSet_of ho hd ?_ (by rw [hs2, hsl, sizeLine_eq]; omega)
  have sb : Heap.SameBut a s.heap (s.heap.update a (Obj.putSet (order.filterMap (es[·]?)) t')) := Heap.SameBut.update ..
  refine hQ _ L2 (order.filterMap (es[·]?)) (ep + 1) t' sb ⟨⟨_, store_at ho hd, ⟨hex.1, hex.2.1, hex.2.2⟩, rfl⟩, r1, T, (r2.map (·.2)).nodup_iff.mpr nd, fun p hpm => isN_same (keys p (r2.mem_iff.mp hpm)) ho hd sb, by rw [el]; exact ld, ?_, by rw [r2.length_eq]; exact few, by rw [em]; omega⟩ r2
  rw [r2.length_eq, em]
  omega
end
end SG
end
section
set_option Elab.async false
set_option linter.all false
set_option maxRecDepth 100000
set_option maxHeartbeats 4000000
/-! A set of tuples made of a list, and sorted. -/
namespace SG
open PySem PySem.Spec PyProof.Rows L2
section
variable {P : Program} {w : World} {A : Around} {E : Value → Shared → Prop} {s : Shared} {a : Addr} {L : List It} {es : Array (Int × Value)} {ep : Nat} {t : SetTable}
theorem Tb.dull {hs : List Int} {b : Bool} (T : Tb t hs) : Tb (if b = true then t else { t with plain := false }) hs := by
  cases b
  · exact ⟨T.ris, T.dm, T.sz, T.msk, T.bd, T.way_⟩
  · exact T
theorem dull_mask {b : Bool} : (if b = true then t else { t with plain := false }).mask = t.mask := by cases b <;> rfl
theorem dull_led {b : Bool} : (if b = true then t else { t with plain := false }).led = t.led := by cases b <;> rfl
theorem dull_fill {b : Bool} : (if b = true then t else { t with plain := false }).fill = t.fill := by cases b <;> rfl
theorem full_fill : t.tooFull = decide (t.fill * 5 ≥ t.mask * 3) := rfl
theorem joined (R : SetN P w s.heap a L es ep t) {x : It} (hx : IsN P w s.heap x.2 x.1) (hu : A.units + 8 < cLine) (hfew : L.length + 1 < most) {Q : Bool → Shared → Prop}
    (hQ : ∀ b h' L' es' ep' t', Heap.SameBut a s.heap h' → SetN P w h' a L' es' ep' t' → (x.2 ∈ L.map (·.2) → L' = L) → (x.2 ∉ L.map (·.2) → L'.Perm (x :: L)) → Q b { s with heap := h' }) :
    wpAny (model P w) A (setAddHashed a (.ref x.1) (hv w x)) Q E s := by
  obtain ⟨o, ho, hex, hd⟩ := R.ob
  have hsl := R.len
  have hroom := R.room
  unfold setAddHashed
  refine wpAny_holding ?_
  rw [show (100000 : Nat) = 99999 + 1 from rfl, setAddHashedIn_succ]
  refine wpAny_bind (wpAny_setState_of ho hd R.ok ?_)
  dsimp only
  refine wp_if_neg (by simp [byScan, Value.scannable]) ?_
  try refine wpAny_bind (wpAny_pure ?_)
  refine wpAny_bind (sought R hx hu (fun hm => ?_) fun K hm hK hb => ?_)
  · dsimp only
    exact wpAny_pure (hQ false s.heap L es ep t (Heap.SameBut.refl a s.heap) R (fun _ => rfl) fun z => absurd hm z)
  · dsimp only
    refine wpAny_bind (wpAny_setState_of ho hd R.ok ?_)
    dsimp only
    obtain ⟨p, q1, q2, q3, q4, q5, q6, q7⟩ := R.tab.put (rfl : way t.mask (hv w x) K = _) hK hb
    rw [List.length_map] at q7
    generalize hpt : t.put (way t.mask (hv w x) K) = pt at q1 q4 q5 q6 q7 ⊢
    obtain ⟨t1, p'⟩ := pt
    dsimp only at q1 q4 q5 q6 q7 ⊢
    subst q1
    obtain ⟨bv, hbv⟩ := by_value (P := P) (w := w) (s := s) x.2 (.ref x.1) 8 hx.1
    have hin : (SetTable.insertAt es p' (hv w x, Value.ref x.1)).toList = (L.take p' ++ x :: L.drop p').map (ent w) := by
      rw [SetTable.toList_insertAt, R.ents, List.map_append, List.map_cons, List.map_take, List.map_drop] <;> rfl
    have pm := put_perm L p' x
    have hlen : (L.take p' ++ x :: L.drop p').length = L.length + 1 := pm.length_eq
    have hhs : (L.take p' ++ x :: L.drop p').map (hv w) = (L.map (hv w)).take p' ++ hv w x :: (L.map (hv w)).drop p' := by
      rw [List.map_append, List.map_cons, List.map_take, List.map_drop]
    rw [← hhs] at q4
    have nd1 : ((L.take p' ++ x :: L.drop p').map (·.2)).Nodup := by
      refine (pm.map (·.2)).nodup_iff.mpr ?_
      rw [List.map_cons]
      exact List.nodup_cons.mpr ⟨hm, R.nd⟩
    have hes := len_eq hin
    rw [hlen] at hes
    generalize SetTable.insertAt es p' (hv w x, Value.ref x.1) = es1 at hin hes ⊢
    generalize L.take p' ++ x :: L.drop p' = L1 at pm hlen q4 nd1 hin
    have after : ∀ b : Bool, wpAny (model P w) A (do
        storeSet a es1 (if b = true then t1 else { t1 with plain := false })
        if (!false && (if b = true then t1 else { t1 with plain := false }).tooFull) = true then setRelay a (SetTable.grown (es.size + 1))
        return true) Q E s := fun b => by
      have T2 := q4.dull (b := b)
      have m2 : (if b = true then t1 else { t1 with plain := false }).mask = t.mask := dull_mask.trans q5
      have l2 : w.params.followText "set-order" = true ∨ (if b = true then t1 else { t1 with plain := false }).led = true := by rw [dull_led, q6]; exact R.led
      have f2 : (if b = true then t1 else { t1 with plain := false }).fill = L.length + 1 := dull_fill.trans q7
      generalize (if b = true then t1 else { t1 with plain := false }) = t2 at T2 m2 l2 f2 ⊢
      refine wpAny_bind (wpAny_storeSet_of ho hd ?_ (by rw [hes, sizeLine_eq]; unfold most at hfew; omega))
      have sb : Heap.SameBut a s.heap (s.heap.update a (Obj.putSet es1 t2)) := Heap.SameBut.update ..
      have ho1 := store_at (es' := es1) (t' := t2) ho hd
      generalize s.heap.update a (Obj.putSet es1 t2) = h1 at sb ho1 ⊢
      have keys1 : ∀ p ∈ L1, IsN P w h1 p.2 p.1 := fun p hp => by
        rcases List.mem_cons.mp (pm.mem_iff.mp hp) with e | hp
        · rw [e]; exact isN_same hx ho hd sb
        · exact isN_same (R.keys p hp) ho hd sb
      have e1 : t2.tooFull = decide ((L.length + 1) * 5 ≥ t.mask * 3) := by rw [full_fill, f2, m2]
      by_cases hf : (L.length + 1) * 5 ≥ t.mask * 3
      · have m7 : 7 ≤ t.mask := by
          obtain ⟨n, n3, _, en⟩ := R.tab.msk
          have : 2 ^ 3 ≤ 2 ^ n := Nat.pow_le_pow_right (by decide) n3
          omega
        have hp1 : t2.place.size = es1.size := by
          have h := T2.sz
          rw [List.length_map, hlen] at h
          rw [h, hes]
        rw [hsl]
        have go : wpAny (model P w) A (setRelay a (SetTable.grown (L.length + 1))) (fun _ s' => wpAny (model P w) A (pure true) Q E s') E { s with heap := h1 } :=
          laid_anew (s := { s with heap := h1 }) ho1 ⟨hex.1, hex.2.1, hex.2.2⟩ rfl hin hp1 T2.dm (by rw [hes, m2]; omega) nd1 keys1 l2 (by rw [hlen]; exact hfew) hlen (by omega)
            fun h2 L2 es2 ep2 t3 sb2 R2 pm2 => wpAny_pure (hQ true h2 L2 es2 ep2 t3 (sb.trans sb2) R2 (fun z => absurd z hm) fun _ => pm2.trans pm)
        have e2 : (!false && t2.tooFull) = true := by rw [e1]; simpa using hf
        first
          | (refine wpAny_bind ?_; refine wp_if_pos e2 ?_; exact go)
          | (refine wp_if_pos e2 ?_; exact wpAny_bind go)
      · have e2 : ¬ (!false && t2.tooFull) = true := by rw [e1]; simpa using hf
        first
          | refine wp_if_neg e2 ?_
          | (refine wpAny_bind ?_; refine wp_if_neg e2 ?_; refine wpAny_pure ?_)
        refine wpAny_pure (hQ true h1 L1 es1 (ep + 1) t2 sb ⟨⟨_, ho1, ⟨hex.1, hex.2.1, hex.2.2⟩, rfl⟩, hin, T2, nd1, keys1, l2, by rw [hlen, m2]; omega, by rw [hlen]; exact hfew, by rw [m2]; exact R.low⟩ (fun z => absurd z hm) fun _ => pm)
    by_cases hpl : t1.plain = true
    · first
        | (refine wpAny_bind ?_; refine wp_if_pos hpl ?_; refine hbv _ _ _ ?_; exact after bv)
        | (refine wp_if_pos hpl (wpAny_bind (hbv _ _ _ ?_)); exact after bv)
    · first
        | (refine wpAny_bind ?_; refine wp_if_neg hpl ?_; refine wpAny_pure ?_; exact after true)
        | (refine wp_if_neg hpl (wpAny_bind (wpAny_pure ?_)); exact after true)
/-! ### all of a list -/
/-- what the set has of the first i items -/
structure Has (ks : List It) (i : Nat) (L : List It) : Prop where
  sub : ∀ p ∈ L, p ∈ ks.take i
  all : ∀ p ∈ ks.take i, p.2 ∈ L.map (·.2)
theorem Has.none (ks : List It) : Has ks 0 [] := ⟨fun p h => (by cases h), fun p h => (by simp at h)⟩
theorem Has.next {ks L L' : List It} {i : Nat} {x : It} (g : Has ks i L) (h : ks[i]? = some x) (c1 : x.2 ∈ L.map (·.2) → L' = L) (c2 : x.2 ∉ L.map (·.2) → L'.Perm (x :: L)) : Has ks (i + 1) L' := by
  have e := take_next h
  rcases Classical.em (x.2 ∈ L.map (·.2)) with c | c
  · rw [c1 c]
    refine ⟨fun p hp => by rw [e]; exact List.mem_append_left _ (g.sub p hp), fun p hp => ?_⟩
    rw [e] at hp
    rcases List.mem_append.mp hp with z | z
    · exact g.all p z
    · rw [List.mem_singleton.mp z]; exact c
  · have pm := c2 c
    refine ⟨fun p hp => ?_, fun p hp => ?_⟩
    · rw [e]
      rcases List.mem_cons.mp (pm.mem_iff.mp hp) with z | z
      · rw [z]; exact List.mem_append_right _ (List.mem_singleton.mpr rfl)
      · exact List.mem_append_left _ (g.sub p z)
    · rw [(pm.map (·.2)).mem_iff, List.map_cons]
      rw [e] at hp
      rcases List.mem_append.mp hp with z | z
      · exact List.mem_cons_of_mem _ (g.all p z)
      · rw [List.mem_singleton.mp z]; exact List.mem_cons_self
theorem SetN.kept {h h' : Heap} (R : SetN P w h a L es ep t) (ha : ∀ o, h.get? a = some o → h'.get? a = some o) (ht : ∀ p ∈ L, IsN P w h' p.2 p.1) : SetN P w h' a L es ep t := by
  obtain ⟨o, ho, r⟩ := R.ob
  exact ⟨⟨o, ha o ho, r⟩, R.ents, R.tab, R.nd, ht, R.led, R.room, R.few, R.low⟩
/-- the object of a new set -/
def setObj (w : World) : Obj := { cls := .type "set", dict := none, data := .set #[] 0 (.fresh 0 0 (!w.params.followText "set-order")) }
theorem setN_new {h : Heap} {a : Addr} (ho : h.get? a = some (setObj w)) : SetN P w h a [] #[] 0 (.fresh 0 0 (!w.params.followText "set-order")) where
  ob := ⟨_, ho, ⟨rfl, rfl, rfl⟩, rfl⟩
  ents := rfl
  tab := ⟨List.Pairwise.nil, rfl, rfl, ⟨3, by decide, by decide, rfl⟩, fun x hx => (by cases hx), fun i h j hi => (by simp at hi)⟩
  nd := List.nodup_nil
  keys := fun p hp => (by cases hp)
  led := by
    show _ ∨ (!w.params.followText "set-order") = true
    cases w.params.followText "set-order"
    · exact .inr rfl
    · exact .inl rfl
  room := by
    show 0 * 5 < 7 * 3
    decide
  few := by
    show 0 < 1000
    decide
  low := by
    show 7 ≤ 4095
    decide
/-- what adding the values vals one by one to a set keeps true -/
structure Adder (P : Program) (w : World) (vals : List Value) (h0 : Heap) (SI : Heap → Addr → Nat → Prop) : Prop where
  new : ∀ h a, h.get? a = some (setObj w) → SI h a 0
  keep : ∀ h h' a i, SI h a i → (∀ o, h.get? a = some o → h'.get? a = some o) → (∀ b o, h0.get? b = some o → h'.get? b = some o) → SI h' a i
  add : ∀ (A : Around) (E : Value → Shared → Prop) (s : Shared) (a : Addr) (i : Nat) (v : Value) (Q : Bool → Shared → Prop), vals[i]? = some v → (∀ b o, h0.get? b = some o → s.heap.get? b = some o) → h0.get? a = none → SI s.heap a i → A.units + 8 < cLine →
    (∀ b h' tk, Heap.SameBut a s.heap h' → s.toks ≤ tk → SI h' a (i + 1) → Q b { s with heap := h', toks := tk }) → wpAny (model P w) A (setAdd a v) Q E s
theorem add_all {I : Addr} {fp wr : List Addr} {G : Array GenState → Array GenState → Prop} {n : Nat} {Pv : Nat → Value → Prop} {St : Nat → Shared → Prop} {R : Result → Shared → Prop}
    (W : WalksS P w A.in1 I fp wr G n Pv St) (S : Addr) (hSf : S ∉ fp) {vals : List Value} {h0 : Heap} {SI : Heap → Addr → Nat → Prop} (D : Adder P w vals h0 SI) (hval : ∀ i v, Pv i v → vals[i]? = some v)
    (hS0 : h0.get? S = none) (hw0 : ∀ b ∈ wr, h0.get? b = none) (hu : A.in1.units + 8 < cLine) :
    ∀ (k i : Nat) (s : Shared), n - i = k → i ≤ n → St i s → (∀ b o, h0.get? b = some o → s.heap.get? b = some o) → SI s.heap S i →
      (∀ s', Moved (S :: wr) G s s' → SI s'.heap S n → (∀ b o, h0.get? b = some o → s'.heap.get? b = some o) → R (.ok (.ret .none)) s') →
      codeAny (model P w) A (.builtin "set.update.loop" ⟨[.ref S, .ref I], []⟩) R s := by
  have hSw : S ∉ wr := fun h => hSf (W.sub _ h)
  have hsub : ∀ b ∈ wr, b ∈ S :: wr := fun b hb => List.mem_cons_of_mem _ hb
  have keepM : ∀ {s s' : Shared}, Moved wr G s s' → (∀ b o, h0.get? b = some o → s.heap.get? b = some o) → ∀ b o, h0.get? b = some o → s'.heap.get? b = some o := fun hm hkp b o e =>
    hm.heap b o (fun hb => by rw [hw0 b hb] at e; cases e) (hkp b o e)
  intro k
  induction k with
  | zero =>
    intro i s hk' hi hst hkp hS hR
    obtain rfl : i = n := by omega
    refine codeAny_builtin F.entry_set_update_loop ?_
    rw [Around.under_plainId F.plain_set_update_loop _]
    show wpAny _ A.in1 (pyNext (.ref I) >>= _) _ _ s
    refine wpAny_bind (W.done s _ _ hst fun s' hm => ?_)
    show wpAny _ A.in1 (ret Value.none) _ _ s'
    have hkp' := keepM hm hkp
    exact wpAny_pure (hR s' (hm.mono hsub) (D.keep _ _ _ _ hS (fun o e => hm.heap S o hSw e) hkp') hkp')
  | succ k ih =>
    intro i s hk' hi hst hkp hS hR
    have hlt : i < n := by omega
    refine codeAny_builtin F.entry_set_update_loop ?_
    rw [Around.under_plainId F.plain_set_update_loop _]
    show wpAny _ A.in1 (pyNext (.ref I) >>= _) _ _ s
    refine wpAny_bind (W.item i s _ _ hlt hst fun v s' hP hst' hm => ?_)
    have hkp' := keepM hm hkp
    have hS' := D.keep _ s'.heap _ _ hS (fun o e => hm.heap S o hSw e) hkp'
    show wpAny _ A.in1 (holding [v] (setAdd S v) >>= _) _ _ s'
    refine wpAny_bind (wpAny_holding (D.add _ _ s' S i v _ (hval i v hP) hkp' hS0 hS' hu fun b h' tk hsb htk hS2 => ?_))
    have hkp2 : ∀ b o, h0.get? b = some o → h'.get? b = some o := fun b o e => (hsb.2 b (fun z => by rw [z, hS0] at e; cases e)).trans (hkp' b o e)
    refine wpAny_pure ⟨plainId_quiet F.plain_set_update_loop _, ih (i + 1) _ (by omega) hlt (W.frame _ s' _ _ hst' htk fun b hb o e => ?_) hkp2 hS2 fun s'' hm'' hS'' hkp'' => ?_⟩
    · rw [hsb.2 b (fun h : b = S => hSf (by rw [← h]; exact hb))]; exact e
    · refine hR s'' (Moved.trans W.gtrans ((hm.mono hsub).then_heap htk fun b o hb e => ?_) hm'') hS'' hkp''
      rw [hsb.2 b (fun h : b = S => hb (by rw [h]; exact List.mem_cons_self))]; exact e
/-- the set of the first i tuples -/
def SetI (P : Program) (w : World) (ks : List It) (h : Heap) (S : Addr) (i : Nat) : Prop := ∃ L es ep t, SetN P w h S L es ep t ∧ Has ks i L ∧ L.length ≤ i
theorem adder_tups (ks : List It) (hfew : ks.length < most) (h0 : Heap) (hk : ∀ p ∈ ks, IsN P w h0 p.2 p.1) : Adder P w (ks.map fun p => Value.ref p.1) h0 (SetI P w ks) where
  new := fun h a ho => ⟨[], #[], 0, _, setN_new ho, Has.none ks, Nat.le_refl _⟩
  keep := fun h h' a i ⟨L, es, ep, t, R, g, l⟩ h1 h2 => ⟨L, es, ep, t, R.kept h1 fun p hp => isN_keep (hk p (List.mem_of_mem_take (g.sub p hp))) h2, g, l⟩
  add := fun A E s a i v Q hv hkp ha ⟨L, es, ep, t, R, g, l⟩ hu hQ => by
    rw [List.getElem?_map] at hv
    obtain ⟨p, hp, rfl⟩ := Option.map_eq_some_iff.mp hv
    have hx : IsN P w s.heap p.2 p.1 := isN_keep (hk p (List.mem_of_getElem? hp)) hkp
    have hi : i < ks.length := (List.getElem?_eq_some_iff.mp hp).1
    unfold setAdd
    refine wpAny_holding (wpAny_bind (pyHash_key p.2 _ _ s _ hx.1 (by have := hx.2; omega) ?_))
    refine joined (s := { s with toks := s.toks + p.2.draws }) R hx hu (by omega) fun b h' L' es' ep' t' hsb hS2 c1 c2 => ?_
    refine hQ b h' _ hsb (Nat.le_add_right _ _) ⟨L', es', ep', t', hS2, g.next hp c1 c2, ?_⟩
    rcases Classical.em (p.2 ∈ L.map (·.2)) with c | c
    · rw [c1 c]; omega
    · rw [(c2 c).length_eq, List.length_cons]; omega
end
end SG
end
section
set_option Elab.async false
set_option linter.all false
set_option maxRecDepth 100000
set_option maxHeartbeats 4000000
/-! Dicts whose keys are ints and texts, or tuples of any depth, under one word: TabAt. -/
namespace L2
open PySem PySem.Spec PyProof.Rows
/-- the value v stands for the key k -/
def KeyAt (K : PySem.W.Frag) (H : Hp) (v : V) (k : NestedKey) : Prop := Dp K H v k.data
/-- .. for the keys ks -/
def KeysAt (K : PySem.W.Frag) (H : Hp) (vs : List V) (ks : List NestedKey) : Prop := DpAll K H vs (NestedKey.datas ks)
section
variable {X : Cx} {pins : List (Addr × Obj)} {σ : St} {H : Hp} {s : Shared}
mutual
theorem Inv.nested (I : Inv X pins σ H s) : ∀ (k : NestedKey) (v : V) (u : Value), KeyAt X.K H v k → RelV v u → NestedIs s.heap k u
  | .none, v, u, d, r => by
    cases d
    obtain rfl : u = Value.none := r
    exact .none
  | .num i, v, u, d, r => by
    cases d
    obtain ⟨t, rfl⟩ := r
    exact .int i t
  | .text x, v, u, d, r => by
    cases d
    obtain ⟨t, rfl⟩ := r
    exact .text x t
  | .tup ks, v, u, d, r => by
    cases d with
    | @tup a xs ds hs ha =>
      obtain rfl : u = Value.ref a := r
      obtain ⟨its, rv, ⟨o, ho, hc, n, hd⟩, _⟩ := I.tuple hs
      exact .tup ho hc hd (Inv.nesteds I ks xs its.toArray.toList ha (by simpa using rv))
theorem Inv.nesteds (I : Inv X pins σ H s) : ∀ (ks : List NestedKey) (vs : List V) (us : List Value), KeysAt X.K H vs ks → Vals vs us → NestedAll s.heap ks us
  | [], _, _, d, r => by
    cases d
    cases r
    exact .nil
  | k :: ks, _, _, d, r => by
    cases d with
    | cons d1 d2 =>
      cases r with
      | cons r1 r2 => exact .cons (Inv.nested I k _ _ d1 r1) (Inv.nesteds I ks _ _ d2 r2)
end
end
/-! ### tables -/
/-- the dict object at d with these entries -/
def DnO (P : Program) (w : World) (d : Addr) (xs : List (NestedKey × Addr × Value)) : HO := .ext fun h => ∃ o es ep, h.get? d = some o ∧ o.ExactDict ∧ o.data = .dict es ep ∧ es.toList = xs.map (entryOfKey (nestedKind P w)) ∧ (xs.map (·.1)).Nodup
theorem dnO_tup {P : Program} {w : World} {d : Addr} {xs : List (NestedKey × Addr × Value)} {ys : List V} : DnO P w d xs ≠ .tup ys := fun z => by
  unfold DnO at z
  cases z
/-- an entry of the table and what stands there -/
structure EntAt (K : PySem.W.Frag) (H : Hp) (p : NestedKey × V) (q : NestedKey × Addr × Value) : Prop where
  key : p.1 = q.1
  at_ : KeyAt K H (.ref q.2.1) p.1
  dep : p.1.depth ≤ 8
  val : RelV p.2 q.2.2
def scalK : NestedKey → Option Key
  | .num i => some (.inl i)
  | .text x => some (.inr x)
  | _ => none
def kN : Key → NestedKey
  | .inl i => .num i
  | .inr x => .text x
theorem scalK_some {k : NestedKey} {q : Key} (h : scalK k = some q) : k = kN q := by
  cases k with
  | num i => cases h; rfl
  | text x => cases h; rfl
  | none => cases h
  | tup ks => cases h
theorem kN_inj {a b : Key} (h : kN a = kN b) : a = b := by
  cases a <;> cases b <;> simp [kN] at h <;> rw [h]
/-- sc: the keys are ints and texts; else they are tuples -/
def FitK (sc : Bool) (k : NestedKey) : Prop := if sc = true then (∃ q, k = kN q) else (∃ ks, k = .tup ks) ∧ k.depth ≤ 8
/-- at d stands a dict with the table m -/
def TabAt (K : PySem.W.Frag) (P : Program) (w : World) (H : Hp) (sc : Bool) (d : Addr) (m : List (NestedKey × V)) : Prop :=
  if sc = true then ∃ kvs : List (Key × V), H d = some (.dK kvs) ∧ m = kvs.map fun p => (kN p.1, p.2)
  else m.length ≤ sizeLine ∧ (d == sysModules) = false ∧ ∃ xs : List (NestedKey × Addr × Value), H d = some (DnO P w d xs) ∧ Paired (EntAt K H) m xs
theorem valV_kN (kvs : List (Key × V)) (q : Key) : valV (kvs.map fun p => (kN p.1, p.2)) (kN q) = valV kvs q := by
  induction kvs with
  | nil => rfl
  | cons p r ih =>
    rw [List.map_cons]
    by_cases h : p.1 = q
    · rw [valV_pos h, valV_pos (p := (kN p.1, p.2)) (by rw [h])]
    · rw [valV_neg h, valV_neg (p := (kN p.1, p.2)) (fun e => h (kN_inj e)), ih]
theorem putK_kN (kvs : List (Key × V)) (q : Key) (v : V) : putK (kvs.map fun p => (kN p.1, p.2)) (kN q) v = (putK kvs q v).map fun p => (kN p.1, p.2) := by
  have e1 : ((kvs.map fun p => (kN p.1, p.2)).any fun kv => decide (kv.1 = kN q)) = kvs.any fun kv => decide (kv.1 = q) := by
    rw [List.any_map]
    congr 1
    funext p
    show decide (kN p.1 = kN q) = decide (p.1 = q)
    by_cases h : p.1 = q
    · rw [h]; simp
    · have h2 : ¬ kN p.1 = kN q := fun e => h (kN_inj e)
      simp [h, h2]
  unfold putK
  rw [e1]
  split
  · rw [List.map_map, List.map_map]
    refine List.map_congr_left fun p _ => ?_
    show (if kN p.1 = kN q then (kN p.1, v) else (kN p.1, p.2)) = _
    by_cases h : p.1 = q
    · simp [h, Function.comp]
    · have h2 : ¬ kN p.1 = kN q := fun e => h (kN_inj e)
      simp [h, h2, Function.comp]
  · rw [List.map_append]
    rfl
section
variable {K : PySem.W.Frag} {P : Program} {w : World} {H H' : Hp}
theorem ent_val {k : NestedKey} : ∀ {m : List (NestedKey × V)} {xs : List (NestedKey × Addr × Value)}, Paired (EntAt K H) m xs → RelO (valV m k) ((atKey xs k).map (·.2))
  | _, _, .nil => trivial
  | _, _, .cons (a := p) (b := q) (l₁ := m) (l₂ := xs) e r => by
    have ih := ent_val (k := k) r
    by_cases h : p.1 = k
    · rw [valV_pos h]
      have h2 : q.1 = k := e.key.symm.trans h
      have z : atKey (q :: xs) k = some q.2 := by simp [atKey, List.find?_cons, h2]
      rw [z]
      exact e.val
    · rw [valV_neg h]
      have h2 : ¬ q.1 = k := fun z => h (e.key.trans z)
      have z : atKey (q :: xs) k = atKey xs k := by simp [atKey, List.find?_cons, h2]
      rw [z]
      exact ih
theorem ent_has {k : NestedKey} {m : List (NestedKey × V)} {xs : List (NestedKey × Addr × Value)} (r : Paired (EntAt K H) m xs) : (valV m k).isSome = (atKey xs k).isSome := by
  have q := ent_val (k := k) r
  cases h1 : valV m k with
  | none =>
    cases h2 : atKey xs k with
    | none => rfl
    | some p =>
      rw [h1, h2] at q
      exact q.elim
  | some v =>
    cases h2 : atKey xs k with
    | none =>
      rw [h1, h2] at q
      exact q.elim
    | some p => rfl
theorem any_val (m : List (NestedKey × V)) (k : NestedKey) : (m.any fun kv => decide (kv.1 = k)) = (valV m k).isSome := by
  induction m with
  | nil => rfl
  | cons p r ih =>
    rw [List.any_cons, ih]
    by_cases h : p.1 = k
    · rw [valV_pos h]; simp [h]
    · rw [valV_neg h]; simp [h]
theorem ent_map {k : NestedKey} {v : V} {u : Value} (rv : RelV v u) : ∀ {m : List (NestedKey × V)} {xs : List (NestedKey × Addr × Value)}, Paired (EntAt K H) m xs →
    Paired (EntAt K H) (m.map fun kv => if kv.1 = k then (kv.1, v) else kv) (xs.map (putAt k u))
  | _, _, .nil => .nil
  | _, _, .cons (a := p) (b := q) (l₁ := m) (l₂ := xs) e r => by
    rw [List.map_cons, List.map_cons]
    refine .cons ?_ (ent_map rv r)
    obtain ⟨p1, p2⟩ := p
    obtain ⟨q1, q2⟩ := q
    obtain ⟨e1, e2, e3, e4⟩ := e
    dsimp only at e1 e2 e3 e4
    subst e1
    unfold putAt
    dsimp only
    by_cases h : p1 = k
    · rw [if_pos h, if_pos h]; exact ⟨rfl, e2, e3, rv⟩
    · rw [if_neg h, if_neg h]; exact ⟨rfl, e2, e3, e4⟩
theorem ent_put {k : NestedKey} {v : V} {a : Addr} {u : Value} {m : List (NestedKey × V)} {xs : List (NestedKey × Addr × Value)} (r : Paired (EntAt K H) m xs) (e : EntAt K H (k, v) (k, a, u)) : Paired (EntAt K H) (putK m k v) (storedH xs k a u) := by
  unfold putK storedH
  rw [any_val, ent_has r]
  split
  · exact ent_map e.val r
  · exact Paired.snoc r e
/-- what was a tuple is one -/
structure TupsStay (H H' : Hp) : Prop where
  tup : ∀ a xs, H a = some (.tup xs) → H' a = some (.tup xs)
  frz : ∀ a o u, H a = some (.frz o u) → H' a = some (.frz o u)
theorem TupsStay.refl (H : Hp) : TupsStay H H := ⟨fun _ _ h => h, fun _ _ _ h => h⟩
theorem TupsStay.trans {H1 : Hp} (a : TupsStay H H1) (b : TupsStay H1 H') : TupsStay H H' := ⟨fun x y h => b.tup x y (a.tup x y h), fun x o u h => b.frz x o u (a.frz x o u h)⟩
theorem TupsStay.of {H H' : Hp} (e : ∀ a o, H a = some o → H' a = some o) : TupsStay H H' := ⟨fun a xs h => e a _ h, fun a o u h => e a _ h⟩
theorem TupsStay.upd {d : Addr} {o : HO} (h1 : ∀ xs, H d ≠ some (.tup xs)) (h2 : ∀ o u, H d ≠ some (.frz o u)) : TupsStay H (upd H d o) :=
  ⟨fun a xs h => by rw [upd_ne (fun e => h1 xs (by rw [← e]; exact h))]; exact h, fun a o u h => by rw [upd_ne (fun e => h2 o u (by rw [← e]; exact h))]; exact h⟩
theorem TupsStay.sqT {a : Addr} {xs : List V} (e : TupsStay H H') (h : SqT K H a xs) : SqT K H' a xs := by
  rcases h with (h | ⟨o, h⟩) | h
  · exact .inl (.inl (e.tup _ _ h))
  · exact .inl (.inr ⟨o, e.frz _ _ _ h⟩)
  · exact .inr h
mutual
theorem KeyAt.stay (e : TupsStay H H') : ∀ (k : NestedKey) (v : V), KeyAt K H v k → KeyAt K H' v k
  | .none, v, d => by cases d; exact .non
  | .num i, v, d => by cases d; exact .int i
  | .text x, v, d => by cases d; exact .str x
  | .tup ks, v, d => by
    cases d with
    | tup hs ha => exact .tup (e.sqT hs) (KeysAt.stay e ks _ ha)
theorem KeysAt.stay (e : TupsStay H H') : ∀ (ks : List NestedKey) (vs : List V), KeysAt K H vs ks → KeysAt K H' vs ks
  | [], _, d => by cases d; exact .nil
  | k :: ks, _, d => by
    cases d with
    | cons d1 d2 => exact .cons (KeyAt.stay e k _ d1) (KeysAt.stay e ks _ d2)
end
theorem ents_stay (e : TupsStay H H') {m : List (NestedKey × V)} {xs : List (NestedKey × Addr × Value)} (r : Paired (EntAt K H) m xs) : Paired (EntAt K H') m xs :=
  L2.Paired.mapP r fun _ _ x => ⟨x.key, KeyAt.stay e _ _ x.at_, x.dep, x.val⟩
theorem TabAt.stay {sc : Bool} {d : Addr} {m : List (NestedKey × V)} (t : TabAt K P w H sc d m) (e : TupsStay H H') (hd : H' d = H d) : TabAt K P w H' sc d m := by
  unfold TabAt at t ⊢
  cases sc with
  | true =>
    obtain ⟨kvs, h, em⟩ := t
    exact ⟨kvs, by rw [hd]; exact h, em⟩
  | false =>
    obtain ⟨z, hs, xs, h, r⟩ := t
    exact ⟨z, hs, xs, by rw [hd]; exact h, ents_stay e r⟩
theorem TabAt.notup {sc : Bool} {d : Addr} {m : List (NestedKey × V)} (t : TabAt K P w H sc d m) : (∀ xs, H d ≠ some (.tup xs)) ∧ ∀ o u, H d ≠ some (.frz o u) := by
  unfold TabAt at t
  cases sc with
  | true =>
    obtain ⟨kvs, h, em⟩ := t
    exact ⟨fun xs e => (by rw [h] at e; cases e), fun o u e => (by rw [h] at e; cases e)⟩
  | false =>
    obtain ⟨z, hs, xs, h, r⟩ := t
    exact ⟨fun ys e => (by rw [h] at e; exact dnO_tup (Option.some.inj e)), fun o u e => (by rw [h] at e; unfold DnO at e; cases e)⟩
theorem TabAt.write {sc : Bool} {d : Addr} {m : List (NestedKey × V)} (t : TabAt K P w H sc d m) (o : HO) : TupsStay H (upd H d o) := .upd t.notup.1 t.notup.2
end
section
variable {X : Cx} {pins : List (Addr × Obj)} {σ : St} {H : Hp} {s : Shared}
theorem dn_of (I : Inv X pins σ H s) {d : Addr} {m : List (NestedKey × V)} {xs : List (NestedKey × Addr × Value)} (h : H d = some (DnO X.prog X.w d xs)) (r : Paired (EntAt X.K H) m xs) : s.heap.DictOfH (nestedKind X.prog X.w) d xs := by
  obtain ⟨⟨o, es, ep, ho, hx, hd, he, hn⟩, _, _⟩ := I.hok d _ h
  refine ⟨o, es, ep, ho, hx, hd, he, fun x hm => ?_, hn⟩
  have key : ∀ {m : List (NestedKey × V)} {xs : List (NestedKey × Addr × Value)}, Paired (EntAt X.K H) m xs → x ∈ xs → NestedIs s.heap x.1 (.ref x.2.1) ∧ x.1.depth ≤ 8 := by
    intro m xs r
    induction r with
    | nil => intro h; cases h
    | cons e r ih =>
      intro h
      rcases List.mem_cons.mp h with rfl | h
      · rw [← e.key]
        exact ⟨I.nested _ _ _ e.at_ rfl, e.dep⟩
      · exact ih h
  exact key r hm
theorem dn_new {P : Program} {w : World} {H' : Hp} {h' : Heap} {d : Addr} {xs : List (NestedKey × Addr × Value)} (D : h'.DictOfH (nestedKind P w) d xs) : ObjOk P w H' h' d (DnO P w d xs) := by
  obtain ⟨o, es, ep, ho, hx, hd, he, _, hn⟩ := D
  exact ⟨⟨o, es, ep, ho, hx, hd, he, hn⟩, ⟨o, ho⟩, fun h1 h2 z k => by
    obtain ⟨o, es, ep, ho, hx, hd, he, hn⟩ := z
    exact ⟨o, es, ep, k _ ho, hx, hd, he, hn⟩⟩
theorem room8 {A : Around} (h : A.units + 64 < cLine) : A.in1.units + 8 < cLine := by
  show A.units + 1 + 8 < cLine
  omega
/-- d[y] there -/
def rGetT (K : PySem.W.Frag) (P : Program) (w : World) (x y : V) (H : Hp) (Q : VK) : Prop := ∃ sc d m k v, x = .ref d ∧ TabAt K P w H sc d m ∧ KeyAt K H y k ∧ FitK sc k ∧ valV m k = some v ∧ Q v H
theorem t_getItem {x y : V} {u iv : Value} {Q : VK} {A : Around} {E : Value → Shared → Prop} (hu : A.units + 64 < cLine) (I : Inv X pins σ H s) (rx : RelV x u) (ry : RelV y iv) (h : rGetT X.K X.prog X.w x y H Q) :
    wpAny (model X.prog X.w) A (getItem u iv) (EP X pins σ Q) E s := by
  obtain ⟨sc, d, m, k, v, rfl, t, ky, fk, hv, q⟩ := h
  obtain rfl : u = Value.ref d := rx
  unfold TabAt at t
  unfold FitK at fk
  cases sc with
  | true =>
    obtain ⟨kvs, hd, rfl⟩ := t
    obtain ⟨z, rfl⟩ := fk
    have ey : y = kV z := by
      cases z with
      | inl i => cases ky; rfl
      | inr x => cases ky; rfl
    subst ey
    rw [valV_kN] at hv
    have g : DGet H d (kV z) (some v) := hv ▸ DGet.k hd
    exact d_getItem (by omega) I g ry fun w' s3 I3 rw' => ⟨v, H, I3, rw', q⟩
  | false =>
    obtain ⟨z, hs, xs, hd, r⟩ := t
    obtain ⟨⟨ks, rfl⟩, dk⟩ := fk
    obtain ⟨b, eb⟩ : ∃ b, y = .ref b := by cases ky; exact ⟨_, rfl⟩
    subst eb
    obtain rfl : iv = Value.ref b := ry
    have nk := I.nested _ _ _ ky rfl
    have ev := ent_val (k := .tup ks) r
    rw [hv] at ev
    cases ea : atKey xs (.tup ks) with
    | none =>
      rw [ea] at ev
      exact ev.elim
    | some p =>
      rw [ea] at ev
      exact wpAny_getItem_heap (knd := nestedKind X.prog X.w) (room8 hu) ⟨nk, dk⟩ (dn_of I hd r) ea ⟨v, H, I.tok _, ev, q⟩
def tGetT (K : PySem.W.Frag) (P : Program) (w : World) (td ty : TE) : TE := tOp (rGetT K P w) td ty
theorem tab_type (I : Inv X pins σ H s) {sc : Bool} {d : Addr} {m : List (NestedKey × V)} (t : TabAt X.K X.prog X.w H sc d m) : s.TypeIs (.ref d) "dict" := by
  unfold TabAt at t
  cases sc with
  | true =>
    obtain ⟨kvs, hd, _⟩ := t
    obtain ⟨_, _, vs, _, dd⟩ := dk_of I.hok hd
    exact dd.typeIs
  | false =>
    obtain ⟨_, _, xs, hd, r⟩ := t
    exact (dn_of I hd r).typeIs
theorem pe_getT {o i : Expr} {td ty : TE} {pos : Pos} (hu : X.A.units + 64 < cLine) (ho : PE X o td) (hi : PE X i ty) (hs : NoSl i) : PE X (.Subscript o i pos) (tGetT X.K X.prog X.w td ty) := by
  refine ⟨fun pins s σ H Q I h => ?_⟩
  refine subD_of PySem.F.slot_dict_getitem.lookup hs (thn (ho.run pins s σ H _ I h) fun u s1 ⟨x, H1, I1, rx, q1⟩ => thn (hi.run pins s1 σ H1 _ I1 q1) fun iv s2 ⟨y, H2, I2, ry, q2⟩ => ?_)
  have z := q2
  obtain ⟨sc, d, m, k, v, rfl, t, _⟩ := z
  obtain rfl : u = Value.ref d := rx
  exact ⟨tab_type I2 t, t_getItem (x := .ref d) hu I2 rfl ry q2⟩
/-- y in d, y not in d -/
def rInT (K : PySem.W.Frag) (P : Program) (w : World) (neg : Bool) : R2 := fun y x H Q => ∃ sc d m k, x = .ref d ∧ TabAt K P w H sc d m ∧ KeyAt K H y k ∧ FitK sc k ∧ Q (.bl (if neg then !(valV m k).isSome else (valV m k).isSome)) H
theorem t_in {x y : V} {u iv : Value} {A : Around} {E : Value → Shared → Prop} {R : Value → Shared → Prop} (hu : A.units + 64 < cLine) (I : Inv X pins σ H s) (rx : RelV x u) (ry : RelV y iv) {sc : Bool} {d : Addr} {m : List (NestedKey × V)} {k : NestedKey} (ex : x = .ref d) (t : TabAt X.K X.prog X.w H sc d m)
    (ky : KeyAt X.K H y k) (fk : FitK sc k) (q : ∀ s', Inv X pins σ H s' → R (.bool (valV m k).isSome) s') : wpAny (model X.prog X.w) A (compareOp .In iv u) R E s := by
  subst ex
  obtain rfl : u = Value.ref d := rx
  unfold TabAt at t
  unfold FitK at fk
  cases sc with
  | true =>
    obtain ⟨kvs, hd, rfl⟩ := t
    obtain ⟨z, rfl⟩ := fk
    have ey : y = kV z := by
      cases z with
      | inl i => cases ky; rfl
      | inr x => cases ky; rfl
    subst ey
    rw [valV_kN] at q
    exact d_in (by omega) I (DGet.k hd) ry fun s3 I3 => q s3 I3
  | false =>
    obtain ⟨z, hs, xs, hd, r⟩ := t
    obtain ⟨⟨ks, rfl⟩, dk⟩ := fk
    obtain ⟨b, eb⟩ : ∃ b, y = .ref b := by cases ky; exact ⟨_, rfl⟩
    subst eb
    obtain rfl : iv = Value.ref b := ry
    have nk := I.nested _ _ _ ky rfl
    refine wpAny_in_heap (knd := nestedKind X.prog X.w) (room8 hu) ⟨nk, dk⟩ hs (dn_of I hd r) ?_
    rw [← ent_has r]
    exact q _ (I.tok _)
theorem op_inT (hu : X.A.units + 64 < cLine) : OpR X (compareOp .In) (rInT X.K X.prog X.w false) := by
  intro pins s σ H y x iv u Q I ry rx h
  obtain ⟨sc, d, m, k, ex, t, ky, fk, q⟩ := h
  exact t_in hu I rx ry ex t ky fk fun s' I' => ⟨.bl _, H, I', rfl, q⟩
theorem t_notin {x y : V} {u iv : Value} {A : Around} {E : Value → Shared → Prop} {R : Value → Shared → Prop} (hu : A.units + 64 < cLine) (I : Inv X pins σ H s) (rx : RelV x u) (ry : RelV y iv) {sc : Bool} {d : Addr} {m : List (NestedKey × V)} {k : NestedKey} (ex : x = .ref d) (t : TabAt X.K X.prog X.w H sc d m)
    (ky : KeyAt X.K H y k) (fk : FitK sc k) (q : ∀ s', Inv X pins σ H s' → R (.bool (!(valV m k).isSome)) s') : wpAny (model X.prog X.w) A (compareOp .NotIn iv u) R E s := by
  subst ex
  obtain rfl : u = Value.ref d := rx
  unfold TabAt at t
  unfold FitK at fk
  cases sc with
  | true =>
    obtain ⟨kvs, hd, rfl⟩ := t
    obtain ⟨z, rfl⟩ := fk
    have ey : y = kV z := by
      cases z with
      | inl i => cases ky; rfl
      | inr x => cases ky; rfl
    subst ey
    rw [valV_kN] at q
    exact d_notIn (by omega) I (DGet.k hd) ry fun s3 I3 => q s3 I3
  | false =>
    obtain ⟨z, hs, xs, hd, r⟩ := t
    obtain ⟨⟨ks, rfl⟩, dk⟩ := fk
    obtain ⟨b, eb⟩ : ∃ b, y = .ref b := by cases ky; exact ⟨_, rfl⟩
    subst eb
    obtain rfl : iv = Value.ref b := ry
    have nk := I.nested _ _ _ ky rfl
    refine wpAny_notIn_heap (knd := nestedKind X.prog X.w) (room8 hu) ⟨nk, dk⟩ hs (dn_of I hd r) ?_
    rw [← ent_has r]
    exact q _ (I.tok _)
theorem op_notinT (hu : X.A.units + 64 < cLine) : OpR X (compareOp .NotIn) (rInT X.K X.prog X.w true) := by
  intro pins s σ H y x iv u Q I ry rx h
  obtain ⟨sc, d, m, k, ex, t, ky, fk, q⟩ := h
  exact t_notin hu I rx ry ex t ky fk fun s' I' => ⟨.bl _, H, I', rfl, q⟩
/-- d[y] = v -/
def rPutT (K : PySem.W.Frag) (P : Program) (w : World) (x y v : V) (H : Hp) (Q : Hp → Prop) : Prop := ∃ sc d m k, x = .ref d ∧ TabAt K P w H sc d m ∧ KeyAt K H y k ∧ FitK sc k ∧ m.length < sizeLine ∧
  ∀ o, TupsStay H (upd H d o) → TabAt K P w (upd H d o) sc d (putK m k v) → Q (upd H d o)
theorem t_setItem {x y v : V} {u iv r : Value} {Q : Hp → Prop} {A : Around} {E : Value → Shared → Prop} {R : Unit → Shared → Prop} (hu : A.units + 64 < cLine) (I : Inv X pins σ H s) (rx : RelV x u) (ry : RelV y iv) (rv : RelV v r) (h : rPutT X.K X.prog X.w x y v H Q)
    (q : ∀ s' H', Inv X pins σ H' s' → Q H' → R () s') : wpAny (model X.prog X.w) A (setItem u iv r) R E s := by
  obtain ⟨sc, d, m, k, rfl, t, ky, fk, hl, nx⟩ := h
  obtain rfl : u = Value.ref d := rx
  have stay := fun o => TabAt.write t o
  unfold TabAt at t
  unfold FitK at fk
  cases sc with
  | true =>
    obtain ⟨kvs, hd, rfl⟩ := t
    obtain ⟨z, rfl⟩ := fk
    have ey : y = kV z := by
      cases z with
      | inl i => cases ky; rfl
      | inr x => cases ky; rfl
    subst ey
    rw [List.length_map] at hl
    refine d_setItem (by omega) I (DPut.k hd hl) ry rv fun s4 I4 => q s4 _ I4 (nx _ (stay _) ?_)
    exact ⟨_, upd_same, putK_kN kvs z v⟩
  | false =>
    obtain ⟨z, hs, xs, hd, r2⟩ := t
    obtain ⟨⟨ks, rfl⟩, dk⟩ := fk
    obtain ⟨b, eb⟩ : ∃ b, y = .ref b := by cases ky; exact ⟨_, rfl⟩
    subst eb
    obtain rfl : iv = Value.ref b := ry
    have nk := I.nested _ _ _ ky rfl
    have lx : m.length = xs.length := r2.length
    refine wpAny_setItem_heap (knd := nestedKind X.prog X.w) (room8 hu) ⟨nk, dk⟩ (dn_of I hd r2) (fun h' D hs' => ?_) (by omega)
    have he : ∃ z, h'.get? d = some z := let ⟨z, _, _, hz, _⟩ := D; ⟨z, hz⟩
    have I2 := d_write (ob := DnO X.prog X.w d (storedH xs (.tup ks) b r)) (t' := s.toks + (nestedKind X.prog X.w).draws (.tup ks)) I (by rw [hd]; exact True.intro) hs' he (dn_new D)
    refine q _ _ I2 (nx _ (stay _) ?_)
    have l2 := length_putK m (.tup ks) v
    exact ⟨by omega, hs, _, upd_same, ent_put (ents_stay (stay _) r2) ⟨rfl, KeyAt.stay (stay _) _ _ ky, dk, rv⟩⟩
def sPutT (K : PySem.W.Frag) (P : Program) (w : World) (td ty tv : TE) : TS := fun D σ H => tv σ H fun v H1 => td σ H1 fun x H2 => ty σ H2 fun y H3 => rPutT K P w x y v H3 fun H4 => D.nx σ H4
theorem ps_putT {o i value : Expr} {td ty tv : TE} {pos pos' : Pos} (hu : X.A.units + 64 < cLine) (ho : PE X o td) (hi : PE X i ty) (hv : PE X value tv) (hs : swapsWith value (some (.Subscript o i pos')) pos.line X.env = pure false) :
    PS X (.Assign [.Subscript o i pos'] value pos) (sPutT X.K X.prog X.w td ty tv) := by
  refine ⟨fun pins s σ H D I h => ?_⟩
  refine wpAny_Assign_Subscript (thn (hv.run pins s σ H _ I h) fun r s1 ⟨v, H1, I1, rv, q1⟩ => thn (ho.run pins s1 σ H1 _ I1 q1) fun u s2 ⟨x, H2, I2, rx, q2⟩ => thn (hi.run pins s2 σ H2 _ I2 q2) fun iv s3 ⟨y, H3, I3, ry, q3⟩ => ?_) hs
  exact t_setItem hu I3 rx ry rv q3 fun s4 H4 I4 q4 => ⟨σ, H4, I4, q4⟩
/-- an empty table -/
def empT (P : Program) (w : World) (sc : Bool) (p : Addr) : HO := if sc = true then .dK [] else DnO P w p []
theorem empT_tab {K : PySem.W.Frag} {H : Hp} {sc : Bool} {p : Addr} (I : Inv X pins σ H s) (h : s.heap.objs.size ≤ p) : TabAt K X.prog X.w (upd H p (empT X.prog X.w sc p)) sc p [] := by
  unfold TabAt empT
  cases sc with
  | true => exact ⟨[], by simp [upd_same], rfl⟩
  | false =>
    refine ⟨Nat.zero_le _, ?_, [], by simp [upd_same], .nil⟩
    exact beq_eq_false_iff_ne.mpr (Nat.ne_of_gt (Nat.lt_of_lt_of_le I.big h))
theorem empT_laid {sc : Bool} (I : Inv X pins σ H s) : Inv X pins σ (upd H s.heap.objs.size (empT X.prog X.w sc s.heap.objs.size)) { s with heap := s.heap.push { cls := .type "dict", data := .dict #[] } } := by
  refine I.laid (t' := s.toks) (fun _ _ q => Heap.get?_push_of_some _ q) (Nat.le_refl _) ?_
  unfold empT
  cases sc with
  | true => exact dk_empty s.heap I.big
  | false => exact dn_new (Heap.DictOfH.new _)
/-- {} -/
def tNewT (K : PySem.W.Frag) (P : Program) (w : World) (sc : Bool) : TE := fun _ H Q => ∀ p o, H p = none → TabAt K P w (upd H p o) sc p [] → Q (.ref p) (upd H p o)
theorem pe_newT (sc : Bool) {pos : Pos} : PE X (.Dict [] [] pos) (tNewT X.K X.prog X.w sc) := ⟨fun pins s σ H Q I h =>
  wpAny_Dict_empty ⟨.ref s.heap.objs.size, _, empT_laid (sc := sc) I, rfl, h _ _ (I.hok.fresh (Nat.le_refl _)) (empT_tab I (Nat.le_refl _))⟩⟩
/-- {k: v} -/
def tDisT (K : PySem.W.Frag) (P : Program) (w : World) (sc : Bool) (tk tv : TE) : TE := fun σ H Q => ∀ p, H p = none → tk σ (upd H p (empT P w sc p)) fun x H1 => tv σ H1 fun y H2 => H2 p = some (empT P w sc p) ∧
  ∃ k, KeyAt K H2 x k ∧ FitK sc k ∧ ∀ o, TupsStay H2 (upd H2 p o) → TabAt K P w (upd H2 p o) sc p [(k, y)] → Q (.ref p) (upd H2 p o)
theorem pe_disT (sc : Bool) {ke ve : Expr} {tk tv : TE} {pos : Pos} (hu : X.A.units + 64 < cLine) (hk : PE X ke tk) (hv : PE X ve tv) : PE X (.Dict [some ke] [ve] pos) (tDisT X.K X.prog X.w sc tk tv) := by
  refine ⟨fun pins s σ H Q I q => ?_⟩
  have q0 := q _ (I.hok.fresh (Nat.le_refl s.heap.objs.size))
  have I1 := empT_laid (sc := sc) I
  have big : (s.heap.objs.size == sysModules) = false := beq_eq_false_iff_ne.mpr (Nat.ne_of_gt I.big)
  cases sc with
  | true =>
    refine wpAny_Dict_walk (knd := mixKind X.prog X.w) rfl rfl (by simp) (by simp) (pairTrees_cons_walk (thn (hk.run pins _ σ _ _ I1 q0) fun u s1 ⟨x, H1, I1, rx, q1⟩ =>
      thn (hv.run pins s1 σ H1 _ I1 q1) fun w2 s2 ⟨y, H2, I2, ry, e, k, ky, fk, q2⟩ => pairTrees_nil_walk ?_))
    unfold FitK at fk
    obtain ⟨z, rfl⟩ := fk
    have ex : x = kV z := by
      cases z with
      | inl i => cases ky; rfl
      | inr x => cases ky; rfl
    subst ex
    have e : H2 s.heap.objs.size = some (.dK []) := e
    have rel : VV ([(z, y)].map fun kv => (kV kv.1, kv.2)) [(u, w2)] := .cons ⟨rx, ry⟩ .nil
    obtain ⟨rs, c, rk⟩ := carries_of (P := X.prog) (w := X.w) rel
    obtain ⟨zl, hd, vs0, r0, dd⟩ := dk_of I2.hok e
    cases r0
    refine ⟨rs, c, dd, fun h' dd' hs => ?_⟩
    have he : ∃ q, h'.get? s.heap.objs.size = some q := let ⟨q, _, _, hq, _⟩ := dd'; ⟨q, hq⟩
    have l1 : (mergeK [] [(z, y)]).length ≤ sizeLine := by
      have h1 := length_mergeK [(z, y)] []
      have h2 : 1 ≤ sizeLine := by decide
      exact Nat.le_trans h1 h2
    have I3 := d_write (t' := s2.toks + [(u, w2)].length) I2 (by rw [e]; exact True.intro) hs he (dk_new (P := X.prog) (w := X.w) l1 hd (rk.merge .nil) dd')
    exact ⟨.ref s.heap.objs.size, _, I3, rfl, q2 _ (.upd (fun xs z => by rw [e] at z; cases z) fun o u z => by rw [e] at z; cases z) ⟨_, upd_same, rfl⟩⟩
  | false =>
    rw [arm_eval_Dict, zip_pairTrees [some ke] [ve] X.env pos rfl rfl, dictDisplay_pairs _ (by simp [pairTrees]) (by simp [pairTrees])]
    refine wpAny_bind (wpAny_standAt (wpAny_bind (wpAny_subDictH (knd := nestedKind X.prog X.w) (Q := fun d s' => wpAny (model X.prog X.w) X.A (pure (Value.ref d)) _ X.xe s') (by show X.A.units + 8 < cLine; omega) (by simp [pairTrees])
      (pairTrees_cons_walk (thn (hk.run pins _ σ _ _ I1 q0) fun u s1 ⟨x, H1, I1, rx, q1⟩ =>
      thn (hv.run pins s1 σ H1 _ I1 q1) fun w2 s2 ⟨y, H2, I2, ry, e, k, ky, fk, q2⟩ => pairTrees_nil_walk ?_)))))
    unfold FitK at fk
    obtain ⟨⟨ks, rfl⟩, dk⟩ := fk
    obtain ⟨b, eb⟩ : ∃ b, x = .ref b := by cases ky; exact ⟨_, rfl⟩
    subst eb
    obtain rfl : u = Value.ref b := rx
    have e : H2 s.heap.objs.size = some (DnO X.prog X.w s.heap.objs.size []) := e
    have nk := I2.nested _ _ _ ky rfl
    refine ⟨[(.tup ks, b, w2)], ⟨rfl, rfl, ⟨nk, dk⟩, trivial⟩, dn_of (m := []) I2 e .nil, fun h' tk' D hs' => wpAny_pure ?_⟩
    have he : ∃ z, h'.get? s.heap.objs.size = some z := let ⟨z, _, _, hz, _⟩ := D; ⟨z, hz⟩
    have D2 : h'.DictOfH (nestedKind X.prog X.w) s.heap.objs.size [(.tup ks, b, w2)] := D
    have I3 := d_write (ob := DnO X.prog X.w s.heap.objs.size [(.tup ks, b, w2)]) (t' := tk') I2 (by rw [e]; exact True.intro) hs' he (dn_new D2)
    have st : TupsStay H2 (upd H2 s.heap.objs.size (DnO X.prog X.w s.heap.objs.size [(.tup ks, b, w2)])) := .upd (fun xs z => by rw [e] at z; exact dnO_tup (Option.some.inj z)) fun o u z => by rw [e] at z; unfold DnO at z; cases z
    refine ⟨.ref s.heap.objs.size, _, I3, rfl, q2 _ st ?_⟩
    exact ⟨(by decide : 1 ≤ sizeLine), big, _, upd_same, .cons ⟨rfl, KeyAt.stay st _ _ ky, dk, ry⟩ .nil⟩
end
end L2
end
section
set_option Elab.async false
set_option linter.all false
set_option maxRecDepth 100000
set_option maxHeartbeats 4000000
/-! set(xs) and sorted(set) as rules; xs a list of tuples. -/
namespace SG
open PySem PySem.Spec PyProof.Rows L2
section
variable {P : Program} {w : World} {A : Around} {E : Value → Shared → Prop} {s : Shared}
set_option maxHeartbeats 6400000 in
theorem set_of {l : Addr} {xs : Array Value} {SI : Heap → Addr → Nat → Prop} {Q : Value → Shared → Prop} (hh : A.handled = none) (hl : s.heap.IsList l xs) (D : Adder P w xs.toList s.heap SI) (hu : A.units + 20 < cLine)
    (h : ∀ (h' : Heap) (tk : Nat), SI h' s.heap.objs.size xs.size → (∀ b o, s.heap.get? b = some o → h'.get? b = some o) → Q (.ref s.heap.objs.size) { s with heap := h', toks := tk }) :
    wpAny (model P w) A (call (.type "set") [.ref l]) Q E s := by
  obtain ⟨c, tl, hmro⟩ := F.called_set.mro
  have c1 := F.called_set.made
  have c2 := F.called_set.sub
  have c3 := F.called_set.notType
  have c4 := F.called_set.canCreate
  have c5 := F.typeCall_set_1 (.ref l)
  obtain ⟨hp1, e1⟩ : ∃ hp1, hp1 = s.heap.push (setObj w) := ⟨_, rfl⟩
  have oS : hp1.get? s.heap.objs.size = some (setObj w) := by rw [e1]; exact Heap.get?_push_size _ rfl
  have old : ∀ b o, s.heap.get? b = some o → hp1.get? b = some o := fun b o e => by rw [e1]; exact Heap.get?_push_of_some _ e
  have z1 : hp1.objs.size = s.heap.objs.size + 1 := by rw [e1]; exact Heap.size_push ..
  have oT : Shared.TypeIs { s with heap := hp1 } (.ref s.heap.objs.size) "set" := ⟨_, oS, rfl⟩
  have hl1 : hp1.IsList l xs := by rw [e1]; exact hl.push _
  have lS : l < s.heap.objs.size := by obtain ⟨o, ho, _⟩ := hl; exact Heap.lt_size ho
  refine wpAny_call (codeAny_of_tree ?_)
  show wpAny _ _ (callAny (.type "set") _) _ _ _
  refine wpAny_pure ⟨Code.quiet_builtin _ (by decide +kernel), codeAny_builtin F.entry_type_call ?_⟩
  rw [Around.under_plain (weight_type_call_type "set" [.ref l] []) rfl]
  repeat (any_goals (first | assumption | wp_step))
  refine codeAny_mono (code_set_led1 (.ref l) (E := E) (Q₁ := fun obj s₁ => obj = .ref s.heap.objs.size ∧ s₁ = { s with heap := hp1 }) ⟨rfl, by rw [e1]; rfl⟩) fun r s₁ hr => ?_
  match r, hr with
  | .error e, hr => exact hr
  | .ok .next, hr => exact hr.elim
  | .ok .brk, hr => exact hr.elim
  | .ok .cont, hr => exact hr.elim
  | .ok (.ret obj), hr =>
    obtain ⟨rfl, rfl⟩ := hr
    have i1 := F.called_set.init.lookup
    have i2 := F.called_set.init.bind (.ref s.heap.objs.size)
    repeat (any_goals (first | assumption | wp_step))
    refine codeAny_mono (codeAny_call_builtin (R := wants (fun r s₂ => r = .none ∧ ∃ h' tk, s₂ = { s with heap := h', toks := tk } ∧ SI h' s.heap.objs.size xs.size ∧ ∀ b o, s.heap.get? b = some o → h'.get? b = some o) E) F.called_set.init.plain F.entry_set_init (check_set_init_1 oT ?_)) fun r₂ s₂ hr₂ => ?_
    · obtain ⟨⟨ocls, odict, odata, oslots⟩, hol, hcl, nl, hdl⟩ := hl1
      simp only at hcl hdl
      subst hcl; subst hdl
      have g1 := F.sub_list_set
      have g2 := F.sub_list_frozenset
      have g3 : (Value.type "list" == Value.type "dict") = false := by decide
      have hl2 : hp1.IsList l xs := ⟨_, hol, rfl, nl, rfl⟩
      unfold Builtin.«set.__init__» noKeywords Builtin.Frozenset.updateFrom
      generalize hPI : pyIter = PI
      wp_walk
      subst hPI
      refine wpAny_pyIter_list hl2 (wpAny_bind (wpAny_runValue ?_))
      have hneI : l ≠ hp1.objs.size := by rw [z1]; exact Nat.ne_of_lt (Nat.lt_succ_of_lt lS)
      have fresh : ∀ b, s.heap.objs.size ≤ b → s.heap.get? b = none := fun b hb => by
        cases q : s.heap.get? b with
        | none => rfl
        | some o => exact absurd (Heap.lt_size q) (Nat.not_lt.mpr hb)
      refine add_all ((Walks.list (by simp [hh]) _ l hneI xs).toS) s.heap.objs.size (by
          rw [z1]
          simp only [List.mem_cons, List.mem_singleton, List.not_mem_nil, or_false, not_or]
          exact ⟨Nat.ne_of_lt (Nat.lt_succ_self _), Nat.ne_of_gt lS⟩) D (fun i v hv => ?_) (fresh _ (Nat.le_refl _))
        (fun b hb => fresh b (by rw [List.mem_singleton.mp hb, z1]; exact Nat.le_succ _)) (by simp only [Around.in1_units]; omega) (xs.size - 0) 0 _ (by omega) (Nat.zero_le _)
        ⟨⟨_, Heap.get?_push_size _ rfl, rfl, rfl⟩, (hl2.push _)⟩ (fun b o e => Heap.get?_push_of_some _ (old b o e)) (D.new _ _ (Heap.get?_push_of_some _ oS)) ?_
      · rw [Array.getElem?_toList]; exact hv
      · intro s' hm hS' hkp
        obtain ⟨h', g2, d', tk', os'⟩ := s'
        obtain rfl : g2 = s.gens := hm.gens
        obtain rfl : d' = s.drawn := hm.drawn
        obtain rfl : os' = s.os := hm.os
        show wpAny _ _ _ _ _ _
        refine wpAny_pure ?_
        show wpAny _ _ (ret Value.none) _ _ _
        exact wpAny_pure ⟨rfl, h', tk', rfl, hS', hkp⟩
    · match r₂, hr₂ with
      | .error e, hr₂ => exact hr₂
      | .ok .next, hr₂ => exact hr₂.elim
      | .ok .brk, hr₂ => exact hr₂.elim
      | .ok .cont, hr₂ => exact hr₂.elim
      | .ok (.ret r), hr₂ =>
        obtain ⟨rfl, h', tk, rfl, m1, m2⟩ := hr₂
        repeat (any_goals (first | assumption | wp_step))
        exact h _ _ m1 m2
end
end SG
end
section
set_option Elab.async false
set_option linter.all false
set_option maxRecDepth 100000
set_option maxHeartbeats 4000000
/-! The rules: set(xs), sorted(a set), sorted(a list of data). -/
namespace SG
open PySem PySem.Spec PyProof.Rows L2 PySem.W
theorem perm_lift {α β : Type} (f : α → β) : ∀ {vs us : List β}, vs.Perm us → ∀ L : List α, us = L.map f → ∃ L1 : List α, L1.Perm L ∧ vs = L1.map f := by
  intro vs us p
  induction p with
  | nil => intro L e; exact ⟨L, List.Perm.refl _, e⟩
  | cons x p ih =>
    intro L e
    match L, e with
    | a :: L, e =>
      obtain ⟨h1, h2⟩ := List.cons.inj e
      obtain ⟨L1, q1, q2⟩ := ih L h2
      exact ⟨a :: L1, q1.cons a, by rw [List.map_cons, h1, q2]⟩
  | swap x y l =>
    intro L e
    match L, e with
    | a :: b :: L, e =>
      obtain ⟨h1, h2⟩ := List.cons.inj e
      obtain ⟨h3, h4⟩ := List.cons.inj h2
      exact ⟨b :: a :: L, List.Perm.swap a b L, by rw [List.map_cons, List.map_cons, h1, h3, h4]⟩
  | trans _ _ ih1 ih2 =>
    intro L e
    obtain ⟨L1, a1, a2⟩ := ih2 L e
    obtain ⟨L2, b1, b2⟩ := ih1 L1 a2
    exact ⟨L2, b1.trans a1, b2⟩
/-- the order in which sorted tells keys -/
def srt (L : List It) : List It := L.mergeSort (dataLe false fun p => p.2.data)
theorem eachRefs : ∀ L : List It, EachIs (fun v (p : It) => v = Value.ref p.1) (L.map fun p => Value.ref p.1) L
  | [] => .nil
  | p :: L => .cons rfl (eachRefs L)
theorem refsOf : ∀ {vs : List Value} {L : List It}, EachIs (fun v (p : It) => v = Value.ref p.1) vs L → vs = L.map fun p => Value.ref p.1
  | _, _, .nil => rfl
  | _, _, .cons h r => by rw [List.map_cons, h, refsOf r]
mutual
theorem data_depth : ∀ k : NestedKey, k.data.depth = k.depth
  | .none => rfl
  | .num _ => rfl
  | .text _ => rfl
  | .tup ks => by rw [NestedKey.data, PyData.depth, NestedKey.depth, datas_depth ks]
theorem datas_depth : ∀ ks : List NestedKey, PyData.depthAll (NestedKey.datas ks) = NestedKey.depthAll ks
  | [] => rfl
  | k :: ks => by rw [NestedKey.datas, PyData.depthAll, NestedKey.depthAll, data_depth k, datas_depth ks]
end
mutual
theorem no_lists {h : Heap} : ∀ (k : NestedKey) (v : Value) (as : List Addr), Reads h v k.data as → as = []
  | .none, _, _, r => by cases r; rfl
  | .num _, _, _, r => by cases r; rfl
  | .text _, _, _, r => by cases r; rfl
  | .tup ks, _, _, r => by
    cases r with
    | tuple _ _ _ r => exact no_lists_all ks _ _ r
theorem no_lists_all {h : Heap} : ∀ (ks : List NestedKey) (vs : List Value) (as : List Addr), ReadsAll h vs (NestedKey.datas ks) as → as = []
  | [], _, _, r => by cases r; rfl
  | k :: ks, _, _, r => by
    cases r with
    | cons r1 r2 => rw [no_lists k _ _ r1, no_lists_all ks _ _ r2] <;> rfl
end
/-- the items can be sorted: alike, and all tuples with an item -/
def Kin (L : List It) : Prop := AllAlike (L.map fun p => p.2.data) ∧ Sortable (L.map fun p => p.2.data)
theorem Kin.perm {L L' : List It} (h : Kin L) (p : L'.Perm L) : Kin L' := by
  have q : ∀ d, d ∈ L'.map (fun p => p.2.data) → d ∈ L.map fun p => p.2.data := fun d hd => (p.map _).mem_iff.mp hd
  exact ⟨fun d hd d' hd' => h.1 d (q d hd) d' (q d' hd'), h.2.imp (fun k d hd => k d (q d hd)) fun k d hd => k d (q d hd)⟩
/-- the set's own object, without what its members are -/
def SetNO (P : Program) (w : World) (a : Addr) (L : List It) : HO := .ext fun h => ∃ es ep t h0, SetN P w h0 a L es ep t ∧ ∃ o, h.get? a = some o ∧ o.ExactSet ∧ o.data = .set es ep t
section
variable {X : Cx} {pins : List (Addr × Obj)} {σ : L2.St} {H : Hp} {s : Shared}
theorem setNO_new {P : Program} {w : World} {H : Hp} {h : Heap} {a : Addr} {L : List It} {es : Array (Int × Value)} {ep : Nat} {t : SetTable} (R : SetN P w h a L es ep t) : ObjOk P w H h a (SetNO P w a L) := by
  have ⟨o, ho, r⟩ := R.ob
  refine ⟨⟨es, ep, t, h, R, o, ho, r⟩, ⟨o, ho⟩, fun h1 h2 p k => ?_⟩
  obtain ⟨es', ep', t', h0, R', o', ho', r'⟩ := p
  exact ⟨es', ep', t', h0, R', o', k o' ho', r'⟩
/-- an item as the walk knows it -/
def ItAt (K : PySem.W.Frag) (H : Hp) (p : It) : Prop := KeyAt K H (.ref p.1) p.2 ∧ p.2.depth ≤ 8
theorem Inv.item (I : Inv X pins σ H s) {p : It} (h : ItAt X.K H p) : IsN X.prog X.w s.heap p.2 p.1 := ⟨L2.Inv.nested I p.2 (.ref p.1) (.ref p.1) h.1 rfl, h.2⟩
theorem refs_vals : ∀ {ks : List It} {us : List Value}, Vals (ks.map fun p => V.ref p.1) us → us = ks.map fun p => Value.ref p.1
  | [], _, .nil => rfl
  | p :: ks, _, .cons r t => by
    cases r
    rw [refs_vals t] <;> rfl
theorem vals_refs : ∀ (ks : List It), Vals (ks.map fun p => V.ref p.1) (ks.map fun p => Value.ref p.1)
  | [] => .nil
  | p :: ks => .cons rfl (vals_refs ks)
def rSetN (K : PySem.W.Frag) (P : Program) (w : World) : List V → Hp → VK → Prop := fun vs H Q => ∃ (l : Addr) (ks : List It), vs = [V.ref l] ∧ SqL K H l (ks.map fun p => V.ref p.1) ∧ (∀ p ∈ ks, ItAt K H p) ∧ ks.length < most ∧
  ∀ a L, H a = none → (∀ p ∈ L, p ∈ ks) → (∀ p ∈ ks, p.2 ∈ L.map (·.2)) → (L.map (·.2)).Nodup → Q (.ref a) (upd H a (SetNO P w a L))
theorem cr_setN (hc : X.calm = true) (hu : X.A.units + 64 < cLine) : CallR X (.type "set") (rSetN X.K X.prog X.w) := by
  intro pins s σ H vs us Q I r h
  obtain ⟨l, ks, rfl, hl, hk, hf, q⟩ := h
  rw [Vals.ref1 r]
  obtain ⟨its, rv, pl, hz⟩ := I.list hl
  have hn : H s.heap.objs.size = none := I.hok.fresh (Nat.le_refl _)
  have ei : its.toArray.toList = ks.map fun p => Value.ref p.1 := by simpa using refs_vals rv
  have nn : its.toArray.size = ks.length := by rw [← Array.length_toList, ei, List.length_map]
  refine set_of (P := X.prog) (w := X.w) (SI := SetI X.prog X.w ks) (I.ok.hd hc) pl.isList (by rw [ei]; exact adder_tups ks hf _ fun p hp => Inv.item I (hk p hp)) (by omega) fun h' tk m k => ?_
  rw [nn] at m
  obtain ⟨L, es, ep, t, R, g, _⟩ := m
  exact ⟨.ref s.heap.objs.size, upd H s.heap.objs.size (SetNO X.prog X.w s.heap.objs.size L), I.laid (t' := tk) k (Nat.le_refl _) (setNO_new R), rfl,
    q _ L hn (fun p hp => List.mem_of_mem_take (g.sub p hp)) (fun p hp => g.all p (by rw [List.take_length]; exact hp)) R.nd⟩
def rSortedN (K : PySem.W.Frag) (P : Program) (w : World) : List V → Hp → VK → Prop := fun vs H Q => ∃ (a : Addr) (L : List It), vs = [V.ref a] ∧ H a = some (SetNO P w a L) ∧ (∀ p ∈ L, ItAt K H p) ∧ Kin L ∧
  ∀ (L' : List It) (p : Addr), L'.Perm L → H p = none → Q (.ref p) (upd H p (.lst ((srt L').map fun q => V.ref q.1)))
theorem srt_perm (L : List It) : (srt L).Perm L := List.mergeSort_perm _ _
theorem cr_sortedN (hc : X.calm = true) (hu : X.A.units + 64 < cLine) : CallR X (.builtin "sorted") (rSortedN X.K X.prog X.w) := by
  intro pins s σ H vs us Q I r h
  obtain ⟨a, L, rfl, ha, hk, kin, q⟩ := h
  obtain ⟨es, ep, t, h0, R, o, ho, hex, hd⟩ := (I.hok a _ ha).1
  rw [Vals.ref1 r]
  have few : L.length < 1000 := R.few
  have hsl : es.size = L.length := len_eq R.ents
  have ok : t.fits es.size = true := R.ok (s := { s with heap := h0 })
  refine Calls.call_function_entry kind_sorted plain_sorted entry_sorted (args_sorted1 _) ?_
  unfold Builtin.«sorted»
  refine wpAny_bind (m := checkCount "sorted" 1 1 _) (wpAny_pure ?_)
  refine wpAny_bind (collect_set (A := X.A.in1) (I.ok.hd hc) ⟨o, ho, hex.1, hd⟩ ok (by unfold scanBound; omega) R.tab.ris R.led fun s1 vs k1 hz g1 o1 pm => ?_)
  have hes : es.toList.map (·.2) = L.map fun q => Value.ref q.1 := by
    rw [R.ents, List.map_map] <;> rfl
  rw [hes] at pm
  obtain ⟨L1, pL, rfl⟩ := perm_lift (fun q : It => Value.ref q.1) pm L rfl
  have len1 : L1.length < 1000 := by rw [pL.length_eq]; exact few
  refine wpAny_bind (wpAny_newList ?_ (by rw [sizeLine_eq, List.length_map]; omega))
  generalize hvs : L1.map (fun q : It => Value.ref q.1) = vs
  have hoL : (s1.heap.push (seqObj "list" vs.toArray 0)).get? s1.heap.objs.size = some (seqObj "list" vs.toArray 0) := Heap.get?_push_size _ rfl
  have er : EachIs (fun v (p : It) => ∃ as, Reads (s1.heap.push (seqObj "list" vs.toArray 0)) v p.2.data as ∧ s1.heap.objs.size ∉ as) vs L1 := by
    rw [← hvs]
    refine (each_mem (eachRefs L1)).mono fun v p ⟨e, hp⟩ => ?_
    obtain ⟨as, r⟩ := Dp.reads I p.2.data (.ref p.1) v (hk p (pL.mem_iff.mp hp)).1 e
    have z := no_lists p.2 v as r
    subst z
    exact ⟨[], Reads.keeps (fun b u e => Heap.get?_push_of_some _ (k1 b u e)) r, by simp⟩
  have kin1 := kin.perm pL
  refine wpAny_bind (wpAny_holding (list_sort_data (s := { s1 with heap := s1.heap.push (seqObj "list" vs.toArray 0) }) (enc := fun p : It => p.2.data) (R := fun v p => v = Value.ref p.1) hoL (by rw [← hvs]; exact eachRefs L1) er kin1.1 kin1.2
    (by rw [sizeLine_eq]; omega) (fun p hp => ?_) fun out h1 h2 => ?_))
  · have := (hk p (pL.mem_iff.mp hp)).2
    rw [data_depth]
    have e1 : X.A.in1.units ≤ X.A.units + 1 := by simp only [Around.in1_units]; omega
    omega
  · obtain ⟨c, hcc⟩ := sortedHeap_at (vs := vs) (out := out.toArray) hoL
    have eo := refsOf h2
    have k2 : ∀ b u, s.heap.get? b = some u → (sortedHeap (s1.heap.push (seqObj "list" vs.toArray 0)) s1.heap.objs.size vs out.toArray).get? b = some u := fun b u e => by
      have q := k1 b u e
      have hlt := Heap.lt_size q
      rw [sortedHeap_old (Nat.ne_of_lt hlt) (by rw [size_push']; exact Nat.lt_succ_of_lt hlt)]
      exact Heap.get?_push_of_some _ q
    have hn : H s1.heap.objs.size = none := I.hok.fresh hz
    have hlen : ((srt L1).map fun q => V.ref q.1).length ≤ sizeLine := by rw [List.length_map, (srt_perm L1).length_eq, sizeLine_eq]; omega
    have J : Inv X pins σ (upd H s1.heap.objs.size (.lst ((srt L1).map fun q => V.ref q.1))) { s with heap := sortedHeap (s1.heap.push (seqObj "list" vs.toArray 0)) s1.heap.objs.size vs out.toArray, gens := s1.gens, drawn := s1.drawn, toks := s1.toks } :=
      I.call (ch := []) (Un.laid k2 hz hn) (I.hok.laid k2 hz ⟨hlen, out, c, by rw [eo]; exact vals_refs _, hcc⟩) (by rw [g1]; exact I.bare) (fun _ z => nomatch z)
    have e : { s1 with heap := sortedHeap (s1.heap.push (seqObj "list" vs.toArray 0)) s1.heap.objs.size vs out.toArray } = ({ s with heap := sortedHeap (s1.heap.push (seqObj "list" vs.toArray 0)) s1.heap.objs.size vs out.toArray, gens := s1.gens, drawn := s1.drawn, toks := s1.toks } : Shared) := by
      cases s1
      cases s
      cases o1
      rfl
    refine wpAny_pure ⟨_, rfl, ?_⟩
    rw [e]
    exact ⟨.ref s1.heap.objs.size, _, J, rfl, q L1 s1.heap.objs.size pL hn⟩
/-- sorted(xs) of data that are alike -/
def srtD (L : List (V × PyData)) : List (V × PyData) := L.mergeSort (dataLe false fun p => p.2)
def rSortedD (K : PySem.W.Frag) : List V → Hp → VK → Prop := fun vs H Q => ∃ (a : Addr) (L : List (V × PyData)), vs = [V.ref a] ∧ SqL K H a (L.map (·.1)) ∧ (∀ p ∈ L, Dp K H p.1 p.2 ∧ p.2.depth ≤ 8) ∧ AllAlike (L.map (·.2)) ∧ Sortable (L.map (·.2)) ∧
  ∀ p, H p = none → Q (.ref p) (upd H p (.lst ((srtD L).map (·.1))))
theorem eachVals : ∀ {L : List (V × PyData)} {us : List Value}, Vals (L.map (·.1)) us → EachIs (fun v (p : V × PyData) => RelV p.1 v) us L
  | [], _, .nil => .nil
  | p :: L, _, .cons r t => .cons r (eachVals t)
theorem valsEach : ∀ {us : List Value} {L : List (V × PyData)}, EachIs (fun v (p : V × PyData) => RelV p.1 v) us L → Vals (L.map (·.1)) us
  | _, _, .nil => .nil
  | _, _, .cons h r => .cons h (valsEach r)
theorem cr_sortedD (hu : X.A.units + 64 < cLine) : CallR X (.builtin "sorted") (rSortedD X.K) := by
  intro pins s σ H vs us Q I r h
  obtain ⟨a, L, rfl, hs, hd, hal, hso, q⟩ := h
  obtain ⟨its, rv, hl, hz⟩ := I.list hs
  rw [Vals.ref1 r]
  have e0 := eachVals rv
  have er : EachIs (fun v (p : V × PyData) => ∃ as, Reads s.heap v p.2 as) its L := (each_mem e0).mono fun v p ⟨e, hp⟩ => Dp.reads I p.2 p.1 v (hd p hp).1 e
  have hz2 : L.length ≤ sizeLine := by rw [← e0.length, ← rv.length]; exact hz
  refine sorted_data (enc := fun p : V × PyData => p.2) hl.isList e0 er hal hso hz2 (fun p hp => ?_) fun out h1 h2 => ?_
  · have := (hd p hp).2
    omega
  · have k : ∀ b o, s.heap.get? b = some o → (sortedAll s.heap its out.toArray).get? b = some o := fun b o e => sortedAll_old e
    obtain ⟨c, hcc⟩ := sortedAll_at s.heap its out.toArray
    have hn : H (s.heap.objs.size + 1) = none := I.hok.fresh (Nat.le_succ _)
    refine ⟨.ref (s.heap.objs.size + 1), upd H (s.heap.objs.size + 1) (.lst ((srtD L).map (·.1))), I.laid (t' := s.toks) k (Nat.le_succ _) ⟨?_, out, c, valsEach h2, hcc⟩, rfl, q _ hn⟩
    rw [List.length_map]
    unfold srtD
    rw [(List.mergeSort_perm _ _).length_eq]
    exact hz2
end
end SG
end
section
set_option Elab.async false
set_option linter.all false
set_option maxRecDepth 100000
set_option maxHeartbeats 4000000
/-! Sets of texts, and sorted of such a set. -/
namespace SG
open PySem PySem.Spec PyProof.Rows L2 PySem.W
def TxE (w : World) (e : Int × Value) : Prop := ∃ x tk, e.2 = Value.str x tk ∧ e.1 = hashStr w x
def txOf (e : Int × Value) : Str := match e.2 with | .str x _ => x | _ => Str.empty
structure SetTx (w : World) (h : Heap) (a : Addr) (L : List Str) (es : Array (Int × Value)) (ep : Nat) (t : SetTable) : Prop where
  ob : ∃ o, h.get? a = some o ∧ o.ExactSet ∧ o.data = .set es ep t
  good : ∀ e ∈ es.toList, TxE w e
  txs : es.toList.map txOf = L
  nd : L.Nodup
  big : es.size < scanBound
  fit : t.fits es.size = true
  ris : Ris t.place.toList
  led : w.params.followText "set-order" = true ∨ t.led = true
theorem nodup_le {α : Type} : ∀ (l D : List α), l.Nodup → (∀ x ∈ l, x ∈ D) → l.length ≤ D.length
  | [], _, _, _ => Nat.zero_le _
  | x :: l, D, n, h => by
    obtain ⟨A, B, rfl⟩ := List.append_of_mem (h x List.mem_cons_self)
    obtain ⟨n1, n2⟩ := List.nodup_cons.mp n
    have := nodup_le l (A ++ B) n2 fun y hy => by
      have q := h y (List.mem_cons_of_mem _ hy)
      rcases List.mem_append.mp q with z | z
      · exact List.mem_append_left _ z
      · rcases List.mem_cons.mp z with z | z
        · rw [z] at hy; exact absurd hy n1
        · exact List.mem_append_right _ z
    simp only [List.length_append, List.length_cons] at this ⊢
    omega
section
variable {P : Program} {w : World} {A : Around} {E : Value → Shared → Prop} {s : Shared} {a : Addr} {L : List Str} {es : Array (Int × Value)} {ep : Nat} {t : SetTable}
abbrev SK (P : Program) (w : World) := PySem.strKind P w
theorem sk_is (x : Str) (tk : Tok) : (SK P w).is x (.str x tk) = true := by
  show Value.isStrOf x (.str x tk) = true
  simp [Value.isStrOf]
theorem tx_is {e : Int × Value} (g : TxE w e) (x : Str) : (SK P w).is x e.2 = true ↔ txOf e = x := by
  obtain ⟨y, tk, h1, _⟩ := g
  unfold txOf
  rw [h1]
  show (Value.isStrOf x (.str y tk) = true) ↔ y = x
  simp [Value.isStrOf]
theorem tx_elems {l : List (Int × Value)} (g : ∀ e ∈ l, TxE w e) : ElemsOf (SK P w) l := fun e he => by
  obtain ⟨x, tk, h1, h2⟩ := g e he
  exact ⟨⟨x, by rw [h1]; exact sk_is x tk, h2⟩, by rw [h1] <;> rfl⟩
theorem SetTx.kept {h h' : Heap} (R : SetTx w h a L es ep t) (ha : ∀ o, h.get? a = some o → h'.get? a = some o) : SetTx w h' a L es ep t := by
  obtain ⟨o, ho, r⟩ := R.ob
  exact ⟨⟨o, ha o ho, r⟩, R.good, R.txs, R.nd, R.big, R.fit, R.ris, R.led⟩
theorem SetTx.size (R : SetTx w s.heap a L es ep t) : es.size = L.length := by rw [← R.txs, List.length_map, Array.length_toList]
/-- the last part of adding: stored, and laid anew where it is too full -/
theorem tx_tail {g : Bool → Sem Unit} (hg : ∀ (b : Bool) (s₁ : Shared) (Q' : Unit → Shared → Prop), Q' () s₁ → wpAny (model P w) A (g b) Q' E s₁)
    {o : Obj} {es0 : Array (Int × Value)} {t0 : SetTable} (ho : s.heap.get? a = some o) (hex : o.ExactSet) (hd : o.data = .set es0 ep t0)
    (g1 : ∀ e ∈ es.toList, TxE w e) (nd : (es.toList.map txOf).Nodup) (hb : es.size < scanBound) (hf : t.fits es.size = true) (hr : Ris t.place.toList) (hl : w.params.followText "set-order" = true ∨ t.led = true) {wasDummy : Bool} {R : Option Bool → Shared → Prop}
    (hR : ∀ h' L' es' ep' t', Heap.SameBut a s.heap h' → SetTx w h' a L' es' ep' t' → L'.Perm (es.toList.map txOf) → R (some true) { s with heap := h' }) :
    wpAny (model P w) A (do
        storeSet a es t
        if (!wasDummy && t.tooFull) = true then do
            g (relayAll t es (SetTable.grown es.size)).2.2
            storeSet a (relayAll t es (SetTable.grown es.size)).1 (relayAll t es (SetTable.grown es.size)).2.1
            pure (some true)
          else pure (some true)) R E s := by
  refine wpAny_bind (wpAny_storeSet_of ho hd ?_ (fits_of_scanBound hb))
  have ho1 := store_at (es' := es) (t' := t) ho hd
  have sb1 := Heap.SameBut.update s.heap a (Obj.putSet es t)
  split
  · have pm := relayAll_perm t es (SetTable.grown es.size)
    have hf3 := relayAll_fits t es (SetTable.grown es.size)
    have hr3 := relayAll_ris t es (SetTable.grown es.size)
    have hl3 := relayAll_led t es (SetTable.grown es.size)
    generalize relayAll t es (SetTable.grown es.size) = Z at pm hf3 hr3 hl3 ⊢
    obtain ⟨es2, t3, gave⟩ := Z
    dsimp only at pm hf3 hr3 hl3 ⊢
    have hsz : es2.size = es.size := by rw [← Array.length_toList, pm.length_eq, Array.length_toList]
    have hb2 : es2.size < scanBound := by rw [hsz]; exact hb
    refine wpAny_bind (hg _ _ _ (wpAny_bind (wpAny_storeSet_of ho1 rfl ?_ (fits_of_scanBound hb2))))
    exact wpAny_pure (hR _ _ es2 _ t3 (sb1.trans (Heap.SameBut.update _ a _)) ⟨⟨_, store_at (es' := es2) (t' := t3) ho1 rfl, hex, rfl⟩, fun e he => g1 e (pm.mem_iff.mp he), rfl, (pm.map txOf).nodup_iff.mpr nd, hb2, hf3, hr3, hl.imp id fun z => by rw [hl3]; exact z⟩ (pm.map txOf))
  · exact wpAny_pure (hR _ _ es _ t sb1 ⟨⟨_, ho1, hex, rfl⟩, g1, rfl, nd, hb, hf, hr, hl⟩ (List.Perm.refl _))
theorem tx_add {x : Str} {tk : Tok} {Q : Bool → Shared → Prop} (R : SetTx w s.heap a L es ep t) (room : L.length + 1 < scanBound ∨ x ∈ L)
    (hQ : ∀ b h' L' es' ep' t', Heap.SameBut a s.heap h' → SetTx w h' a L' es' ep' t' → (x ∈ L → L' = L) → (x ∉ L → L'.Perm (x :: L)) → Q b { s with heap := h' }) :
    wpAny (model P w) A (setAddHashed a (.str x tk) ((SK P w).hash x)) Q E s := by
  obtain ⟨o, ho, hex, hd⟩ := R.ob
  have hkey : (SK P w).is x (.str x tk) = true := sk_is x tk
  have hsc : (Value.str x tk).scannable = true := rfl
  have hel : ElemsOf (SK P w) es.toList := tx_elems R.good
  have hmem : x ∈ L ↔ ∃ e ∈ es.toList, (SK P w).is x e.2 = true := by
    rw [← R.txs, List.mem_map]
    exact ⟨fun ⟨e, he, q⟩ => ⟨e, he, (tx_is (R.good e he) x).2 q⟩, fun ⟨e, he, q⟩ => ⟨e, he, (tx_is (R.good e he) x).1 q⟩⟩
  have hsz0 := R.size
  unfold setAddHashed setAddHashedIn
  refine wpAny_holding (wpAny_bind (wpAny_setState_of ho hd R.fit ?_))
  dsimp only
  rw [byScan_of hsc R.big hel]
  simp only [↓reduceIte]
  unfold setAddByScan
  refine wpAny_bind (wpAny_bind (wpAny_rule (wpAny_bind (wpAny_setScan_of hkey ho hd R.fit hel ?_))))
  cases hfi : List.findIdx? (fun e => (SK P w).is x e.2) es.toList with
  | some j =>
    dsimp only
    obtain ⟨hj, pj, _⟩ := List.findIdx?_eq_some_iff_getElem.mp hfi
    have hx : x ∈ L := hmem.2 ⟨es.toList[j], List.getElem_mem hj, pj⟩
    exact wpAny_pure (wpAny_pure (hQ false s.heap L es ep t (Heap.SameBut.refl a s.heap) R (fun _ => rfl) fun z => absurd hx z))
  | none =>
    dsimp only
    have hx : x ∉ L := fun z => by
      obtain ⟨e, he, q⟩ := hmem.1 z
      have c := List.findIdx?_eq_none_iff.mp hfi e he
      rw [q] at c
      cases c
    have room' : L.length + 1 < scanBound := room.elim id fun z => absurd z hx
    have hgw : ∀ (b : Bool) {s₁ : Shared} {Q' : Unit → Shared → Prop}, Q' () s₁ → wpAny (model P w) A (match b with | true => rule "set.scan.the-table-gave-way" | false => pure ()) Q' E s₁ :=
      fun b s₁ Q' q => by cases b <;> first | exact wpAny_pure q | exact wpAny_rule q
    have pm := layNew_perm t es ((SK P w).hash x) (.str x tk)
    have hf1 := layNew_fits t es ((SK P w).hash x) (.str x tk)
    have hr1 := layNew_ris t es ((SK P w).hash x) (.str x tk) R.ris
    have hl1 := layNew_led t es ((SK P w).hash x) (.str x tk)
    generalize layNew t es ((SK P w).hash x) (.str x tk) = Z at pm hf1 hr1 hl1 ⊢
    obtain ⟨es1, t1, wasDummy, gave⟩ := Z
    dsimp only at pm hf1 hr1 hl1 ⊢
    rw [Array.toList_push] at pm
    have pc : es1.toList.Perm (((SK P w).hash x, Value.str x tk) :: es.toList) := pm.trans (List.perm_append_singleton _ _)
    have pk : (es1.toList.map txOf).Perm (x :: L) := by
      have := pc.map txOf
      rw [List.map_cons, R.txs] at this
      exact this
    have g1 : ∀ e ∈ es1.toList, TxE w e := fun e he => by
      rcases List.mem_cons.mp (pc.mem_iff.mp he) with z | z
      · rw [z]; exact ⟨x, tk, rfl, rfl⟩
      · exact R.good e z
    have nd1 : (es1.toList.map txOf).Nodup := pk.nodup_iff.mpr (List.nodup_cons.mpr ⟨hx, R.nd⟩)
    have hsz : es1.size = L.length + 1 := by rw [← Array.length_toList, pc.length_eq, List.length_cons, Array.length_toList, hsz0]
    have hb1 : es1.size < scanBound := by rw [hsz]; exact room'
    have hled : w.params.followText "set-order" = true ∨ t1.led = true := R.led.imp id fun z => by rw [hl1]; exact z
    have fin : ∀ h' L' es' ep' t', Heap.SameBut a s.heap h' → SetTx w h' a L' es' ep' t' → L'.Perm (es1.toList.map txOf) → Q true { s with heap := h' } := fun h' L' es' ep' t' sb r p =>
      hQ true h' L' es' ep' t' sb r (fun z => absurd z hx) fun _ => p.trans pk
    refine wpAny_bind (hgw _ ?_)
    split
    · refine wpAny_bind ?_
      rw [hashByValue_scannable 8 hsc]
      refine wpAny_pure ?_
      refine tx_tail ?_ ho hex hd g1 nd1 hb1 ?_ ?_ ?_ ?_
      · intro b s₁ Q' q; cases b <;> first | exact wpAny_pure q | exact wpAny_rule q
      · first | (split <;> first | exact hf1 | exact SetTable.fits_plain_off hf1) | exact hf1
      · first | (split <;> exact hr1) | exact hr1
      · first | (split <;> exact hled) | exact hled
      · intro h' L' es' ep' t' sb r p; dsimp only; exact wpAny_pure (fin h' L' es' ep' t' sb r p)
    · refine wpAny_bind (wpAny_pure ?_)
      simp only [↓reduceIte]
      refine tx_tail ?_ ho hex hd g1 nd1 hb1 hf1 hr1 hled ?_
      · intro b s₁ Q' q; cases b <;> first | exact wpAny_pure q | exact wpAny_rule q
      · intro h' L' es' ep' t' sb r p; dsimp only; exact wpAny_pure (fin h' L' es' ep' t' sb r p)
theorem setTx_new {h : Heap} {a : Addr} (ho : h.get? a = some (setObj w)) : SetTx w h a [] #[] 0 (.fresh 0 0 (!w.params.followText "set-order")) where
  ob := ⟨_, ho, ⟨rfl, rfl, rfl⟩, rfl⟩
  good := fun e he => (by simp at he)
  txs := rfl
  nd := List.nodup_nil
  big := by
    show 0 < 4096
    decide
  fit := rfl
  ris := List.Pairwise.nil
  led := by
    show _ ∨ (!w.params.followText "set-order") = true
    cases w.params.followText "set-order"
    · exact .inr rfl
    · exact .inl rfl
def SetTI (w : World) (xs : List Str) (h : Heap) (S : Addr) (i : Nat) : Prop := ∃ L es ep t, SetTx w h S L es ep t ∧ (∀ x, x ∈ L ↔ x ∈ xs.take i)
theorem adder_texts {vals : List Value} (xs U : List Str) (hv : ∀ (i : Nat) (v : Value), vals[i]? = some v → ∃ x tk, v = Value.str x tk ∧ xs[i]? = some x) (hU : ∀ x ∈ xs, x ∈ U) (hl : U.length < scanBound) (h0 : Heap) : Adder P w vals h0 (SetTI w xs) where
  new := fun h a ho => ⟨[], #[], 0, _, setTx_new ho, fun x => by simp⟩
  keep := fun h h' a i ⟨L, es, ep, t, R, g⟩ h1 _ => ⟨L, es, ep, t, R.kept h1, g⟩
  add := fun A E s a i v Q hvi hkp ha ⟨L, es, ep, t, R, g⟩ hu hQ => by
    obtain ⟨x, tk, rfl, hx⟩ := hv i v hvi
    have xU : x ∈ U := hU x (List.mem_of_getElem? hx)
    have LU : ∀ y ∈ L, y ∈ U := fun y hy => hU y (List.mem_of_mem_take ((g y).1 hy))
    unfold setAdd
    refine wpAny_holding (wpAny_bind ((SK P w).pyHash (k := x) (sk_is x tk) ?_))
    refine tx_add (s := { s with toks := s.toks + 1 }) R ?_ fun b h' L' es' ep' t' sb r c1 c2 => ?_
    · rcases Classical.em (x ∈ L) with c | c
      · exact .inr c
      · have := nodup_le (x :: L) U (List.nodup_cons.mpr ⟨c, R.nd⟩) fun y hy => by
          rcases List.mem_cons.mp hy with z | z
          · rw [z]; exact xU
          · exact LU y z
        rw [List.length_cons] at this
        exact .inl (by omega)
    · refine hQ b h' _ sb (Nat.le_succ _) ⟨L', es', ep', t', r, fun y => ?_⟩
      rw [take_next hx, List.mem_append, List.mem_singleton]
      rcases Classical.em (x ∈ L) with c | c
      · rw [c1 c, g y]
        exact ⟨.inl, fun z => z.elim id fun e => by rw [e]; exact (g x).1 c⟩
      · rw [(c2 c).mem_iff, List.mem_cons, g y]
        exact Or.comm
end
/-! ### the rules -/
def SetXO (w : World) (a : Addr) (L : List Str) : HO := .ext fun h => ∃ es ep t, SetTx w h a L es ep t
section
variable {X : Cx} {pins : List (Addr × Obj)} {σ : L2.St} {H : Hp} {s : Shared}
theorem setXO_new {P : Program} {w : World} {H : Hp} {h : Heap} {a : Addr} {L : List Str} {es : Array (Int × Value)} {ep : Nat} {t : SetTable} (R : SetTx w h a L es ep t) : ObjOk P w H h a (SetXO w a L) := by
  have ⟨o, ho, r⟩ := R.ob
  refine ⟨⟨es, ep, t, R⟩, ⟨o, ho⟩, fun h1 h2 p k => ?_⟩
  obtain ⟨es', ep', t', R'⟩ := p
  exact ⟨es', ep', t', R'.kept k⟩
def rSetX (K : PySem.W.Frag) (w : World) : List V → Hp → VK → Prop := fun vs H Q => ∃ (l : Addr) (xs U : List Str), vs = [V.ref l] ∧ SqL K H l (xs.map V.str) ∧ (∀ x ∈ xs, x ∈ U) ∧ U.length < scanBound ∧
  ∀ a L, H a = none → (∀ x, x ∈ L ↔ x ∈ xs) → L.Nodup → Q (.ref a) (upd H a (SetXO w a L))
theorem vals_strs : ∀ {xs : List Str} {us : List Value}, Vals (xs.map V.str) us → ∀ (i : Nat) (v : Value), us[i]? = some v → ∃ x tk, v = Value.str x tk ∧ xs[i]? = some x
  | [], _, .nil, i, v, h => by simp at h
  | x :: xs, _, .cons r t, i, v, h => by
    obtain ⟨tk, e⟩ := r
    cases i with
    | zero => exact ⟨x, tk, by rw [← e]; exact (Option.some.inj h).symm, rfl⟩
    | succ i => exact vals_strs t i v h
theorem cr_setX (hc : X.calm = true) (hu : X.A.units + 64 < cLine) : CallR X (.type "set") (rSetX X.K X.w) := by
  intro pins s σ H vs us Q I r h
  obtain ⟨l, xs, U, rfl, hl, hU, hz, q⟩ := h
  rw [Vals.ref1 r]
  obtain ⟨its, rv, pl, hzz⟩ := I.list hl
  have hn : H s.heap.objs.size = none := I.hok.fresh (Nat.le_refl _)
  have nn : its.toArray.size = xs.length := by
    have := rv.length
    rw [List.length_map] at this
    rw [← Array.length_toList]
    exact this.symm
  refine set_of (P := X.prog) (w := X.w) (SI := SetTI X.w xs) (I.ok.hd hc) pl.isList (adder_texts xs U (fun i v hv => vals_strs rv i v (by simpa using hv)) hU hz _) (by omega) fun h' tk m k => ?_
  rw [nn] at m
  obtain ⟨L, es, ep, t, R, g⟩ := m
  exact ⟨.ref s.heap.objs.size, upd H s.heap.objs.size (SetXO X.w s.heap.objs.size L), I.laid (t' := tk) k (Nat.le_refl _) (setXO_new R), rfl,
    q _ L hn (fun x => by rw [g x, List.take_length]) R.nd⟩
/-- the order in which sorted tells texts -/
def srtX (L : List Str) : List Str := L.mergeSort (dataLe false fun x => .str x)
theorem srtX_perm (L : List Str) : (srtX L).Perm L := List.mergeSort_perm _ _
def rSortedX (w : World) : List V → Hp → VK → Prop := fun vs H Q => ∃ (a : Addr) (L : List Str), vs = [V.ref a] ∧ H a = some (SetXO w a L) ∧
  ∀ (L' : List Str) (p : Addr), L'.Perm L → H p = none → Q (.ref p) (upd H p (.lst ((srtX L').map V.str)))
theorem alike_texts (L : List Str) : AllAlike (L.map fun x => PyData.str x) ∧ Sortable (L.map fun x => PyData.str x) :=
  ⟨AllAlike.of fun x y => rfl, Sortable.others fun x => ⟨nofun, nofun⟩⟩
theorem cr_sortedX (hc : X.calm = true) (hu : X.A.units + 64 < cLine) : CallR X (.builtin "sorted") (rSortedX X.w) := by
  intro pins s σ H vs us Q I r h
  obtain ⟨a, L, rfl, ha, q⟩ := h
  obtain ⟨es, ep, t, R⟩ := (I.hok a _ ha).1
  obtain ⟨o, ho, hex, hd⟩ := R.ob
  rw [Vals.ref1 r]
  have big := R.big
  have hsl : es.size = L.length := R.size
  refine Calls.call_function_entry kind_sorted plain_sorted entry_sorted (args_sorted1 _) ?_
  unfold Builtin.«sorted»
  refine wpAny_bind (m := checkCount "sorted" 1 1 _) (wpAny_pure ?_)
  refine wpAny_bind (collect_set (A := X.A.in1) (I.ok.hd hc) ⟨o, ho, hex.1, hd⟩ R.fit big R.ris R.led fun s1 vs k1 hz g1 o1 pm => ?_)
  obtain ⟨es1, pL, rfl⟩ := perm_lift (fun e : Int × Value => e.2) pm es.toList rfl
  have gd : ∀ e ∈ es1, TxE X.w e := fun e he => R.good e (pL.mem_iff.mp he)
  have pT : (es1.map txOf).Perm L := by rw [← R.txs]; exact pL.map txOf
  have len1 : es1.length < 4096 := by rw [pL.length_eq, Array.length_toList]; exact big
  refine wpAny_bind (wpAny_newList ?_ (by rw [sizeLine_eq, List.length_map]; omega))
  generalize hvs : es1.map (fun e : Int × Value => e.2) = vs
  have hoL : (s1.heap.push (seqObj "list" vs.toArray 0)).get? s1.heap.objs.size = some (seqObj "list" vs.toArray 0) := Heap.get?_push_size _ rfl
  have each : ∀ l : List (Int × Value), (∀ e ∈ l, TxE X.w e) → EachIs (fun v (x : Str) => RelV (.str x) v) (l.map (·.2)) (l.map txOf) := by
    intro l
    induction l with
    | nil => intro _; exact .nil
    | cons e l ih =>
      intro hl
      refine .cons ?_ (ih fun e he => hl e (List.mem_cons_of_mem _ he))
      obtain ⟨x, tk, e1, _⟩ := hl e List.mem_cons_self
      have e2 : txOf e = x := by
        unfold txOf
        rw [e1]
      rw [e2]
      exact ⟨tk, e1⟩
  have e0 : EachIs (fun v (x : Str) => RelV (.str x) v) vs (es1.map txOf) := by rw [← hvs]; exact each es1 gd
  have er : EachIs (fun v (x : Str) => ∃ as, Reads (s1.heap.push (seqObj "list" vs.toArray 0)) v (.str x) as ∧ s1.heap.objs.size ∉ as) vs (es1.map txOf) := e0.mono fun v x ⟨tk, e⟩ => by
    rw [e]
    exact ⟨[], Reads.str x tk, by simp⟩
  obtain ⟨q1, q2⟩ := alike_texts (es1.map txOf)
  refine wpAny_bind (wpAny_holding (list_sort_data (s := { s1 with heap := s1.heap.push (seqObj "list" vs.toArray 0) }) (enc := fun x : Str => .str x) (R := fun v x => RelV (.str x) v) hoL e0 er q1 q2
    (by rw [sizeLine_eq, List.length_map]; omega) (fun x hx => ?_) fun out h1 h2 => ?_))
  · have e1 : X.A.in1.units ≤ X.A.units + 1 := by simp only [Around.in1_units]; omega
    show X.A.in1.units + 1 + 0 < cLine
    omega
  · obtain ⟨c, hcc⟩ := sortedHeap_at (vs := vs) (out := out.toArray) hoL
    have k2 : ∀ b u, s.heap.get? b = some u → (sortedHeap (s1.heap.push (seqObj "list" vs.toArray 0)) s1.heap.objs.size vs out.toArray).get? b = some u := fun b u e => by
      have q := k1 b u e
      have hlt := Heap.lt_size q
      rw [sortedHeap_old (Nat.ne_of_lt hlt) (by rw [size_push']; exact Nat.lt_succ_of_lt hlt)]
      exact Heap.get?_push_of_some _ q
    have hn : H s1.heap.objs.size = none := I.hok.fresh hz
    have vv : ∀ {us : List Value} {l : List Str}, EachIs (fun v (x : Str) => RelV (.str x) v) us l → Vals (l.map V.str) us := by
      intro us l h
      induction h with
      | nil => exact .nil
      | cons h _ ih => exact .cons h ih
    have hlen : ((srtX (es1.map txOf)).map V.str).length ≤ sizeLine := by rw [List.length_map, (srtX_perm _).length_eq, List.length_map, sizeLine_eq]; omega
    have J : Inv X pins σ (upd H s1.heap.objs.size (.lst ((srtX (es1.map txOf)).map V.str))) { s with heap := sortedHeap (s1.heap.push (seqObj "list" vs.toArray 0)) s1.heap.objs.size vs out.toArray, gens := s1.gens, drawn := s1.drawn, toks := s1.toks } :=
      I.call (ch := []) (Un.laid k2 hz hn) (I.hok.laid k2 hz ⟨hlen, out, c, vv h2, hcc⟩) (by rw [g1]; exact I.bare) (fun _ z => nomatch z)
    have e : { s1 with heap := sortedHeap (s1.heap.push (seqObj "list" vs.toArray 0)) s1.heap.objs.size vs out.toArray } = ({ s with heap := sortedHeap (s1.heap.push (seqObj "list" vs.toArray 0)) s1.heap.objs.size vs out.toArray, gens := s1.gens, drawn := s1.drawn, toks := s1.toks } : Shared) := by
      cases s1
      cases s
      cases o1
      rfl
    refine wpAny_pure ⟨_, rfl, ?_⟩
    rw [e]
    exact ⟨.ref s1.heap.objs.size, _, J, rfl, q _ s1.heap.objs.size pT hn⟩
end
end SG
end
section
set_option Elab.async false
set_option linter.all false
set_option maxRecDepth 100000
set_option maxHeartbeats 4000000
/-! sorted(d), d a dict of texts, any number of them; and: one set, one row. -/
namespace SG
open PySem PySem.Spec PyProof.Rows L2 PySem.W
section
variable {X : Cx} {pins : List (Addr × Obj)} {σ : L2.St} {H : Hp} {s : Shared}
theorem txts_of {us : List Value} {vs : List (Key × Value)} {ks : List Str} (hl : us.length = vs.length) (hk : vs.map (·.1) = ks.map Sum.inr)
    (h : ∀ (j : Nat) (v : Value), us[j]? = some v → ∃ (k : Key) (x : Value), vs[j]? = some (k, x) ∧ keyIs k v = true) : EachIs (fun v (x : Str) => RelV (.str x) v) us ks := by
  have hl2 : us.length = ks.length := by
    have e := congrArg List.length hk
    rw [List.length_map, List.length_map] at e
    omega
  refine EachIs.of_zip hl2 fun p hp => ?_
  obtain ⟨j, hj, e⟩ := List.getElem_of_mem hp
  rw [List.getElem_zip] at e
  have h1 : j < us.length := by rw [List.length_zip] at hj; omega
  have h2 : j < ks.length := by rw [List.length_zip] at hj; omega
  obtain ⟨k, x, q1, q2⟩ := h j _ (List.getElem?_eq_getElem h1)
  have q3 : (vs.map (·.1))[j]? = some k := by rw [List.getElem?_map, q1]; all_goals rfl
  rw [hk, List.getElem?_map, List.getElem?_eq_getElem h2] at q3
  have q4 : Sum.inr ks[j] = k := Option.some.inj q3
  subst q4
  obtain ⟨t, ev⟩ := Value.isStrOf_shape (x := ks[j]) (v := us[j]) q2
  subst e
  exact ⟨t, ev⟩
theorem relStrs : ∀ {us : List Value} {l : List Str}, EachIs (fun v (x : Str) => RelV (.str x) v) us l → Vals (l.map V.str) us
  | _, _, .nil => .nil
  | _, _, .cons h r => .cons h (relStrs r)
def rSortedK : List V → Hp → VK → Prop := fun xs H Q => ∃ (a : Addr) (kvs : List (Key × V)) (ks : List Str), xs = [.ref a] ∧ H a = some (.dK kvs) ∧ kvs.map (·.1) = ks.map Sum.inr ∧ ∀ p, H p = none → Q (.ref p) (upd H p (.lst ((srtX ks).map V.str)))
theorem cr_sortedK (hc : X.calm = true) (hu : X.A.units + 64 < cLine) : CallR X (.builtin "sorted") rSortedK := by
  intro pins s σ H xs us Q I r q
  obtain ⟨a, kvs, ks, rfl, hd, hks, q⟩ := q
  rw [Vals.ref1 r]
  obtain ⟨z, lo, vs, rel, dd⟩ := dk_rd I.hok (.inl hd)
  obtain ⟨ep, hat⟩ := dd.dictAt
  have hkeys : vs.map (·.1) = ks.map Sum.inr := rel.keys.symm.trans hks
  have hl : vs.length = ks.length := by
    have e := congrArg List.length hkeys
    rw [List.length_map, List.length_map] at e
    exact e
  have h16 : vs.length ≤ sizeLine := by rw [← rel.length]; exact z
  refine Calls.call_function_entry PyProof.Rows.kind_sorted PyProof.Rows.plain_sorted PyProof.Rows.entry_sorted (PyProof.Rows.args_sorted1 _) ?_
  unfold Builtin.«sorted»
  refine wpAny_bind (m := checkCount "sorted" 1 1 _) (wpAny_pure ?_)
  refine wpAny_bind (PySem.W.kdu_collect (A := X.A.in1) (PySem.W.kdl_dict (knd := mixKind X.prog X.w) (kvs := vs) (ep := ep) lo) (I.ok.hd hc) hat h16 fun h' tk acc hk hacc => ?_)
  have hal : acc.toList.length = vs.length := by rw [Array.length_toList, hacc.1]
  have e0 : EachIs (fun v (x : Str) => RelV (.str x) v) acc.toList ks := txts_of hal hkeys fun j v e => hacc.2 j v (by rw [← Array.getElem?_toList]; exact e)
  have I1 : Inv X pins σ H { s with heap := h', toks := tk } := I.kept hk
  refine wpAny_bind (wpAny_newList ?_ (by rw [hal]; exact h16))
  generalize acc.toList = us at hal e0
  have hoL : (h'.push (seqObj "list" us.toArray 0)).get? h'.objs.size = some (seqObj "list" us.toArray 0) := Heap.get?_push_size _ rfl
  show wpAny _ _ _ _ _ { s with heap := h'.push (seqObj "list" us.toArray 0), toks := tk }
  have er : EachIs (fun v (x : Str) => ∃ as, Reads (h'.push (seqObj "list" us.toArray 0)) v (.str x) as ∧ h'.objs.size ∉ as) us ks := e0.mono fun v x ⟨tk, e⟩ => by
    rw [e]
    exact ⟨[], Reads.str x tk, by simp⟩
  obtain ⟨q1, q2⟩ := alike_texts ks
  refine wpAny_bind (wpAny_holding (list_sort_data (s := { s with heap := h'.push (seqObj "list" us.toArray 0), toks := tk }) (enc := fun x : Str => .str x) (R := fun v x => RelV (.str x) v) hoL e0 er q1 q2
    (by rw [← hl]; exact h16) (fun x hx => ?_) fun out h1 h2 => ?_))
  · have e1 : X.A.in1.units ≤ X.A.units + 1 := by simp only [Around.in1_units]; omega
    show X.A.in1.units + 1 + 0 < cLine
    omega
  · obtain ⟨c, hcc⟩ := sortedHeap_at (vs := us) (out := out.toArray) hoL
    have hlen : ((srtX ks).map V.str).length ≤ sizeLine := by rw [List.length_map, (srtX_perm _).length_eq, ← hl]; exact h16
    refine wpAny_pure ⟨_, rfl, .ref h'.objs.size, upd H h'.objs.size (.lst ((srtX ks).map V.str)), I1.laid (t' := tk) (fun b u e => ?_) (Nat.le_refl _)
      (show ObjOk X.prog X.w _ _ _ (.lst ((srtX ks).map V.str)) from ⟨hlen, out, c, relStrs h2, hcc⟩), rfl, q _ (I1.hok.fresh (Nat.le_refl _))⟩
    have hb : b < h'.objs.size := Heap.lt_size e
    rw [sortedHeap_old (Nat.ne_of_lt hb) (by rw [size_push']; exact Nat.lt_succ_of_lt hb)]
    exact Heap.get?_push_of_some _ e
end
end SG
end
section
set_option Elab.async false
set_option linter.all false
set_option maxRecDepth 100000
set_option maxHeartbeats 4000000
/-! Own errors X(Base(ValueError)) whose __init__ says super().__init__(text) and keeps one field: made, at the library's level. -/
namespace PySem
namespace Nxc
open PySem.W PySem.Calls PyProof.Rows PySem.HandSPX L2
/-- __init__(self, f): super().__init__(msg); self.f = f -/
def nArgs (f : Str) (p1 p2 : Pos) : Arguments :=
  ⟨[], [⟨"self", none, p1⟩, ⟨f, none, p2⟩], none, [], [], none, []⟩
def nBody (f : Str) (msg : PySem.Expr) (p0 p1 p2 p3 p4 q1 q2 q3 q4 : Pos) : List Stmt :=
  [.Expr (.Call (.Attribute (.Call (.Name "super" p0) [] [] p1) "__init__" p2) [msg] [] p3) p4,
   .Assign [.Attribute (.Name "self" q1) f q2] (.Name f q3) q4]
def nScope (f : Str) : Scope :=
  ⟨.function, [(PySem.Str.ofString "self", .local), (f, .local), (PySem.Str.ofString "__class__", .free), (PySem.Str.ofString "super", .globalImplicit)], false, false, []⟩

abbrev viId : String := "ValueError.__init__"

section
variable {prog : Program} {w : World} {A : Around} {E : Value → Shared → Prop} {hp : Heap} {g : Array GenState} {d : Drawn} {t : Nat} {os : OsState}
variable {nm q : Str} {C N : Addr} {bs bm : List Value} {hdct : Bool} {sn : List Str} {sub : List Value} {ab : Bool} {col : Option Bool} {dd : Option Addr} {k0 k1 k2 k3 k5 : Option Value}
/-- the bound ValueError.__init__ is called -/
theorem call_mw {u e t0 : Addr} {us : List Value} {Q : Value → Shared → Prop}
    (hC : hp.get? C = some (excClassObj nm q C N bs bm hdct sn sub ab col dd k0 k1 k2 k3 k5 "ValueError.__new__"))
    (he : hp.get? e = some (excO C t0)) (hu : hp.get? u = some (kxs_mw viId e)) (hz : us.length ≤ sizeLine)
    (hq : ∀ h' t1, (∀ b o, b ≠ e → hp.get? b = some o → h'.get? b = some o) → h'.get? e = some (excO C t1) → Q .none ⟨h', g, d, t, os⟩) :
    wpAny (model prog w) A (call (.ref u) us) Q E ⟨hp, g, d, t, os⟩ := by
  refine wpAny_call (codeAny_of_tree ?_)
  show wpAny _ A.in1 (callAny (.ref u) ⟨us, []⟩) _ _ _
  simp only [callAny]
  refine wpAny_bind (wpAny_load hu ?_)
  have c1 : (Value.type "method-wrapper" == Value.type "method" || Value.type "method-wrapper" == Value.type "builtin_function_or_method" || Value.type "method-wrapper" == Value.type "method-wrapper") = true := by decide
  simp only [kxs_mw, c1, if_true]
  refine KFB.if_so (by decide) ?_
  refine wpAny_bind (check_bound_init F.excBase_ValueError.toExcCallFacts hC he rfl ?_)
  refine wpAny_bind (wpAny_pure (wpAny_pure ?_))
  refine ⟨plainId_quiet F.excBase_ValueError.init.plain _, codeAny_builtin F.excBase_ValueError.initEntry ?_⟩
  exact exc_init_tree (cls := .ref C) (t0 := t0) (dv := none) (c2 := .none) (c3 := .none) (b4 := .bool false) he hz fun h' k e' _ => hq h' _ k e'
end

/-- the message's value: some text; only tokens are drawn -/
def MsgOk (prog : Program) (w : World) (f : Str) (msg : PySem.Expr) (v : Value) : Prop :=
  ∀ (A : Around) (env : Env) (E : Value → Shared → Prop) (s : Shared) (x : Addr) (Q : Value → Shared → Prop), env.scope = nScope f →
    s.heap.Ns env.locals (fun y => if y = f then some v else if y = "self" then some (.ref x) else none) →
    (∀ z tk n, Q (.str z tk) { s with toks := n }) → wpAny (model prog w) A (eval msg env) Q E s
theorem msg_const {prog : Program} {w : World} {f : Str} {z : Str} {j : Nat} {pos : Pos} {v : Value} : MsgOk prog w f (.Constant (.str z) j pos) v := fun _ _ _ _ _ _ _ _ q => Constant_str (q _ _ _)

/-- how the call of the message is read -/
def CallRead (msg : PySem.Expr) (a0 a1 a2 a3 : Pos) : Prop := ∀ env : Env,
  eval (.Call (.Attribute (.Call (.Name "super" a0) [] [] a1) "__init__" a2) [msg] [] a3) env = (do
      let ov ← attributeBase (.Call (.Name "super" a0) [] [] a1) "__init__" env (eval (.Call (.Name "super" a0) [] [] a1) env)
      standAt a2.atName
      let (f, first) ← holding [ov] (getMethod ov "__init__" (plainOf (.Call (.Name "super" a0) [] [] a1) env))
      callWith a3 f first (backTo a3 (starEach [msg] env)) [])
/-- what the written part says of the class at C and of its __init__ at fI, whose cell is at cc and whose code is at cda -/
structure EFacts (P : Program) (K : Frag) (f : Str) (C fI cc cda : Addr) (msg : PySem.Expr) : Prop where
  cls : ∃ nm q N bs bm sn sub ab col dd k0 k1 k2 k3 k5, K.lookup C = some (excClassObj nm q C N bs bm true sn sub ab col dd k0 k1 k2 k3 k5 "ValueError.__new__") ∧ refsVE bm = true
  sa : findIn K (.ref C) "__setattr__" = some (some (.builtin "object.__setattr__"))
  noF : findIn K (.ref C) f = some none
  iC : findIn K (.ref C) "__init__" = some (some (.ref fI))
  tC : typeIn K (.ref fI) = some (.type "function")
  sup : ks_superIn K C C "__init__" = some (some (.builtin viId))
  isV : subIn K (.ref C) (.type "ValueError") = some true
  selfSub : mroIn K C (.ref C) = some true
  opq : nsIn K cStatics "thirdparty.any" = some none
  cell : ∃ cl cld csl, K.lookup cc = some ⟨cl, cld, .cell (some (.ref C)), csl⟩
  code : ∃ ccl cdd vs ccs file tf, K.lookup cda = some ⟨ccl, cdd, .fields vs, ccs⟩ ∧ vs[2]? = some (.str file tf) ∧ ((P.main.file : Str) == file) = true
  fn : ∃ (oc : Value) (od : Option Addr) (qual : Str) (doc pm : Value) (an : Option Addr) (ct : Value) (osl : Array (Option Value)) (p1 p2 a0 a1 a2 a3 a4 b1 b2 b3 b4 : Pos),
    K.lookup fI = some ⟨oc, od, .func (ksFn "__init__" qual (nArgs f p1 p2) (nBody f msg a0 a1 a2 a3 a4 b1 b2 b3 b4) (nScope f) .none .none doc pm an (.ref cda) ct cc), osl⟩ ∧ codeIn K (.ref cda) qual = true ∧ CallRead msg a0 a1 a2 a3

/-- what __init__ leaves of a fresh error at x -/
structure Inited (f : Str) (h h' : Heap) (x C dx t1 : Addr) (v : Value) : Prop where
  keep : ∀ b o, b ≠ x → h.get? b = some o → h'.get? b = some o
  obj : h'.get? x = some { cls := .ref C, dict := some dx, data := .fields #[.ref t1, .none, .none, .none, .bool false, .none] }
  dbig : h.objs.size ≤ dx
  dne : dx ≠ x
  ns : h'.Ns1 dx (fun y => if y = f then some v else none)
/-- the name of a field and its text -/
structure FieldOk (f : Str) (msg : PySem.Expr) : Prop where
  bind : ∀ (qual : Str) (p1 p2 : Pos) (body : List Stmt) (doc pm : Value) (an : Option Addr) (cdv ct : Value) (cc : Addr) (x v : Value),
    bindArgs (ksFn "__init__" qual (nArgs f p1 p2) body (nScope f) .none .none doc pm an cdv ct cc) ⟨[x, v], []⟩ = pure [(("self" : Str), x), (f, v)]
  dbg : (f == ("__debug__" : Str)) = false
  nself : f ≠ "self"
  ncls : f ≠ "__class__"
  nsup : f ≠ "super"
  star : ∀ env : Env, starEach [msg] env = (false, eval msg env) :: starEach [] env
section
variable {prog : Program} {w : World} {A : Around} {E : Value → Shared → Prop} {R : Result → Shared → Prop} {s : Shared} {K : Frag} {mg : Str → Option Value} {f : Str} {C fI cc cda : Addr} {msg : PySem.Expr}
theorem one_le_line (v : Value) : [v].length ≤ sizeLine := by
  rw [sizeLine_eq]
  exact (by decide : 1 ≤ 16777216)
theorem ns_push {h h' : Heap} {L : Addr} {m : Str → Option Value} (hn : h.Ns L m) (k : ∀ b o, h.get? b = some o → h'.get? b = some o) : h'.Ns L m := hn.keeps k
theorem init_run (T : EFacts prog K f C fI cc cda msg) (F : FieldOk f msg) {x t0 : Addr} {v : Value} (hm : MsgOk prog w f msg v) (X : K.In s.heap) (G : s.heap.Ns mainGlobals mg) (hsu : mg "super" = none)
    (B : ∃ mb, s.heap.Ns builtinsNs mb ∧ ∀ x : Str, x ≠ "__name__" → mb x = bootBuiltins x) (hlim : s.heap.NoLimit) (htop : (prog.main.scope.names.lookup ("super" : Str)).isSome = false)
    (hx : s.heap.get? x = some (excO C t0)) (hxK : ¬ ∃ o, K.lookup x = some o) (hroom : A.depth < recursionLimit)
    (hq : ∀ h' tk dx t1, Inited f s.heap h' x C dx t1 v → R (.ok (.ret .none)) { s with heap := h', toks := tk }) :
    codeAny (model prog w) A (.call (.ref fI) ⟨[.ref x, v], []⟩) R s := by
  obtain ⟨oc, od, qual, doc, pm, an, ct, osl, p1, p2, a0, a1, a2, a3, a4, b1, b2, b3, b4, ho, hcd, hcr⟩ := T.fn
  obtain ⟨nm, q, N, bs, bm, sn, sub, ab, col, dd, k0, k1, k2, k3, k5, hC, hbm⟩ := T.cls
  obtain ⟨mb, hnb, hbb⟩ := B
  obtain ⟨cl, cld, csl, hcell⟩ := T.cell
  obtain ⟨ccl, cdd, vs, ccs, file, tf, hcda, hv2, hfile⟩ := T.code
  have hcl : clsIn K C = some { name := nm, bases := bs, mro := .ref C :: bm, ns := N, qualname := q, hasDict := true, slotNames := sn, subclasses := sub, abstract := ab, collection := col, hasDel := false } := by
    unfold clsIn
    rw [hC] <;> rfl
  have hks : (nScope f).names.lookup ("super" : Str) = some .globalImplicit := by
    have e : (("super" : Str) == f) = false := by simpa using Ne.symm F.nsup
    have e1 : (("super" : Str) == ("self" : Str)) = false := by decide
    have e2 : (("super" : Str) == ("__class__" : Str)) = false := by decide
    simp [nScope, List.lookup, e, e1, e2]
  have hkc : (nScope f).names.lookup ("__class__" : Str) = some .free := by
    have e : (("__class__" : Str) == f) = false := by simpa using Ne.symm F.ncls
    have e1 : (("__class__" : Str) == ("self" : Str)) = false := by decide
    simp [nScope, List.lookup, e, e1]
  have hkf : (nScope f).names.lookup f = some .local := by
    have e : (f == ("self" : Str)) = false := by simpa using F.nself
    simp [nScope, List.lookup, e]
  have hkz : (nScope f).names.lookup ("self" : Str) = some .local := by simp [nScope, List.lookup]
  refine ks_codeAny_call_defAt (fd := ksFn "__init__" qual (nArgs f p1 p2) (nBody f msg a0 a1 a2 a3 a4 b1 b2 b3 b4) (nScope f) .none .none doc pm an (.ref cda) ct cc)
    (body := nBody f msg a0 a1 a2 a3 a4 b1 b2 b3 b4) (binds := [(("self" : Str), Value.ref x), (f, v)]) hroom (X _ _ ho) rfl hlim (codeRec_of X hcd) rfl (BindsTo.of_eq (F.bind _ _ _ _ _ _ _ _ _ _ _ _)) ?_ ?_ (fun h₁ hns hk₁ => ?_)
  · intro y hy
    simp [nScope] at hy
    rcases hy with rfl | rfl | rfl | rfl <;> simp
  · intro y hy
    simp at hy
    rcases hy with rfl | rfl
    · exact hkz
    · exact hkf
  obtain ⟨hp, g, d, t, os⟩ := s
  have hns' : h₁.Ns hp.objs.size (fun y => if y = f then some v else if y = "self" then some (.ref x) else none) := by
    have e : (fun y : Str => List.lookup y (List.reverse [(("self" : Str), Value.ref x), (f, v)])) = fun y => if y = f then some v else if y = "self" then some (.ref x) else none := by
      funext y
      show List.lookup y [(f, v), (("self" : Str), Value.ref x)] = _
      by_cases h1 : y = f
      · subst h1
        simp [List.lookup]
      · have e1 : (y == f) = false := by simpa using h1
        by_cases h2 : y = "self"
        · subst h2
          simp [List.lookup, e1, h1]
        · have e2 : (y == ("self" : Str)) = false := by simpa using h2
          simp [List.lookup, e1, e2, h1, h2]
    rw [← e]
    exact hns
  have X₁ : K.In h₁ := X.keeps hk₁
  have hx₁ := hk₁ _ _ hx
  have hC₁ : h₁.get? C = _ := X₁ _ _ hC
  have hxC : x ≠ C := fun e => by
    rw [e, hC₁] at hx₁
    have := congrArg Obj.cls (Option.some.inj hx₁)
    cases this
  show wpAt _ _ _ (execs (nBody f msg a0 a1 a2 a3 a4 b1 b2 b3 b4) (ksEnv qual (nScope f) hp.objs.size fI (.ref cda) cc)) _ _ _
  refine ks_wpAt_execs_cons (ks_wpAt_Expr_any (ks_wpAt_MethodCall ?_ (hcr _)))
  refine ks_wpAt_super_base (env := ksEnv qual (nScope f) hp.objs.size fI (.ref cda) cc) hks hkc (by decide) rfl (X₁ _ _ ho) rfl rfl rfl (X₁ _ _ hcda) rfl hv2 hfile htop ?_
  refine ks_loadName_global rfl hks (loadGlobal_builtin (env := ksEnv qual (nScope f) hp.objs.size fI (.ref cda) cc) (G.keeps hk₁) hsu (hnb.keeps hk₁) ((hbb _ (by decide +kernel)).trans (by decide +kernel)) ⟨rfl, ?_⟩)
  refine wpAny_loadName_free rfl hkc rfl ⟨_, X₁ _ _ hcell, rfl⟩ ?_
  refine wpAny_loadName_local (m := fun y => if y = f then some v else if y = "self" then some (.ref x) else none) (v := .ref x) rfl hkz hns' (by rw [if_neg (Ne.symm F.nself), if_pos rfl]) ?_
  refine ks_wpAny_isType_cls hC₁ rfl ⟨rfl, ?_⟩
  refine ks_wpAny_call_super hC₁ rfl hx₁ rfl (fun c e => by cases e) (looks_mroIn X₁ T.selfSub) (fun h₂ hso hk₂ => ?_)
  have X₂ : K.In h₂ := X₁.keeps hk₂
  have hC₂ := hk₂ _ _ hC₁
  have hx₂ := hk₂ _ _ hx₁
  have I₂ : InstAt h₂ x (excO C t0) C none := ⟨hx₂, rfl, rfl, trivial⟩
  have hal : alongIn K "__init__" bm = some (some (.builtin viId)) := by
    have e := T.sup
    unfold ks_superIn at e
    rw [hcl] at e
    simpa [List.dropWhile_cons] using e
  refine kxs_getMethod kxs_ValueError (D := C) (x := x) (C := C) hso (looks_opaque X₂ T.opq) (l₀ := .ref C :: bm) (l := bm) ?_ (by simp [List.dropWhile_cons]) X₂ hal (I₂.type.andThen (looks_subIn X₂ T.isV)) hxC (by decide) ?_
  · exact fun A Q E s k q => wpAny_bind ((looks_clsIn X₂ hcl) A _ E s k (wpAny_pure q))
  have k3 : ∀ b o, h₂.get? b = some o → (h₂.push (kxs_mw viId x)).get? b = some o := fun b o e => Heap.get?_push_of_some _ e
  have hu : (h₂.push (kxs_mw viId x)).get? h₂.objs.size = some (kxs_mw viId x) := Heap.get?_push_at rfl rfl
  have kA : ∀ b o, h₁.get? b = some o → (h₂.push (kxs_mw viId x)).get? b = some o := fun b o e => k3 b o (hk₂ b o e)
  refine kxs_callWith (i := viId) (x := x) (by rw [F.star] <;> rfl) ?_
  rw [F.star]
  refine evalArgs_plain (Calls.spliced_cons (hm _ _ _ _ x _ rfl (hns'.keeps kA) fun z tk n => Calls.spliced_nil ⟨hu, ?_⟩))
  refine call_mw (k3 _ _ hC₂) (k3 _ _ hx₂) hu (one_le_line _) fun h₃ t1 k₃ hx₃ => ?_
  have kB : ∀ b o, b ≠ x → h₁.get? b = some o → h₃.get? b = some o := fun b o hb e => k₃ b o hb (kA b o e)
  have notx : ∀ b o, K.lookup b = some o → b ≠ x := fun b o e z => hxK (by rw [← z]; exact ⟨o, e⟩)
  have X₃ : K.In h₃ := fun b o e => kB b o (notx b o e) (X₁ b o e)
  have hL : hp.objs.size ≠ x := Nat.ne_of_gt (Heap.lt_size hx)
  have hns₃ : h₃.Ns hp.objs.size (fun y => if y = f then some v else if y = "self" then some (.ref x) else none) := by
    obtain ⟨oL, es, ep, eL, r⟩ := hns'
    exact ⟨oL, es, ep, kB _ _ hL eL, r⟩
  refine wpAt_of_wpAny (wpAny_execs_cons (plainObj_wpAny_Assign_Attribute ?_))
  refine wpAny_Name (wpAny_loadName_local rfl hkf hns₃ (by rw [if_pos rfl]) ?_) F.dbg
  refine wpAny_Name (wpAny_loadName_local rfl hkz hns₃ (v := .ref x) (by rw [if_neg (Ne.symm F.nself), if_pos rfl]) ?_) (by decide)
  refine set_plain X₃ (ox := excO C t1) (od := none) ⟨hx₃, rfl, rfl, trivial⟩ T.sa ?_
  refine exc_osa X₃ hx₃ hcl (show refsVE (.ref C :: bm) = true from hbm) rfl T.noF (fun h₄ tk₄ dx k₄ dn dne hx₄ hn₄ => ?_)
  refine wpAny_execs_nil (hq h₄ tk₄ dx t1 ⟨fun b o hb e => k₄ b o hb (kB b o hb (hk₁ b o e)), hx₄, ?_, dne, hn₄⟩)
  have l1 : hp.objs.size < h₃.objs.size := by
    obtain ⟨oL, es, ep, eL, r⟩ := hns₃
    exact Heap.lt_size eL
  exact Nat.le_trans (Nat.le_of_lt l1) dn
end
/-- a made error -/
structure Made (f : Str) (h h' : Heap) (e C d : Addr) (v : Value) : Prop where
  keep : ∀ b o, h.get? b = some o → h'.get? b = some o
  new : h.objs.size ≤ e
  obj : ∃ t1 : Addr, h'.get? e = some { cls := .ref C, dict := some d, data := .fields #[.ref t1, .none, .none, .none, .bool false, .none] }
  dbig : h.objs.size ≤ d
  dne : d ≠ e
  ns : h'.Ns1 d (fun y => if y = f then some v else none)
section
variable {prog : Program} {w : World} {A : Around} {R : Result → Shared → Prop} {s : Shared} {K : Frag} {mg : Str → Option Value} {f : Str} {C fI cc cda : Addr} {msg : PySem.Expr}
theorem made_run (T : EFacts prog K f C fI cc cda msg) (FO : FieldOk f msg) {v : Value} (hm : MsgOk prog w f msg v) (X : K.In s.heap) (G : s.heap.Ns mainGlobals mg) (hsu : mg "super" = none)
    (B : ∃ mb, s.heap.Ns builtinsNs mb ∧ ∀ x : Str, x ≠ "__name__" → mb x = bootBuiltins x) (hlim : s.heap.NoLimit) (htop : (prog.main.scope.names.lookup ("super" : Str)).isSome = false)
    (hroom : A.depth + 1 < recursionLimit)
    (hq : ∀ h' tk e d, Made f s.heap h' e C d v → R (.ok (.ret (.ref e))) { s with heap := h', toks := tk }) :
    codeAny (model prog w) A (.call (.ref C) ⟨[v], []⟩) R s := by
  obtain ⟨nm, q, N, bs, bm, sn, sub, ab, col, dd, k0, k1, k2, k3, k5, hC, hbm⟩ := T.cls
  obtain ⟨mb, hnb, hbb⟩ := B
  obtain ⟨hp, g, dr, tk, os⟩ := s
  have k : ∀ b o, hp.get? b = some o → ((hp.push (kdv_tup [v])).push (excO C hp.objs.size)).get? b = some o :=
    fun b o e => Heap.get?_push_of_some _ (Heap.get?_push_of_some _ e)
  have at1 : ((hp.push (kdv_tup [v])).push (excO C hp.objs.size)).get? (hp.objs.size + 1) = some (excO C hp.objs.size) := by heap_get
  have fresh : ¬ ∃ o, K.lookup (hp.objs.size + 1) = some o := fun ⟨o, e⟩ => by
    have z : hp.get? (hp.objs.size + 1) = some o := X _ _ e
    exact absurd (Nat.lt_of_succ_lt (Heap.lt_size z)) (Nat.lt_irrefl _)
  refine call_own F.excBase_ValueError (fun Y => refsVE_contains Y bm hbm) (X _ _ hC) (looks_findIn X T.iC) (fun self => bind_fn X self T.tC) (one_le_line v) ?_
  refine init_run (s := ⟨(hp.push (kdv_tup [v])).push (excO C hp.objs.size), g, dr, tk, os⟩) (mg := mg) T FO hm (X.keeps k) (G.keeps k) hsu ⟨mb, hnb.keeps k, hbb⟩ (hlim.keeps k) htop at1 fresh ?_
    fun h' tk' dx t1 I => ?_
  · show A.depth + 1 < recursionLimit
    exact hroom
  · have old : ∀ b o, hp.get? b = some o → h'.get? b = some o := fun b o e =>
      I.keep b o (Nat.ne_of_lt (Nat.lt_succ_of_lt (Heap.lt_size e))) (k b o e)
    have z : hp.objs.size + 1 + 1 ≤ dx := by
      have q := I.dbig
      first
        | exact q
        | (simpa only [Heap.size_push] using q)
    exact ⟨rfl, hq h' tk' (hp.objs.size + 1) dx ⟨old, Nat.le_succ _, ⟨t1, I.obj⟩, Nat.le_trans (Nat.le_trans (Nat.le_succ _) (Nat.le_succ _)) z, I.dne, I.ns⟩⟩
end
end Nxc
end PySem
namespace L2
open PySem PySem.Spec PyProof.Rows
theorem relO_one {f : Str} {v : V} {v' : Value} (r : RelV v v') (y : Str) : RelO (List.lookup y [(f, v)]) (if y = f then some v' else none) := by
  by_cases h : y = f
  · subst h
    rw [if_pos rfl]
    have q : List.lookup y [(y, v)] = some v := by simp [List.lookup]
    rw [q]
    exact r
  · rw [if_neg h]
    have q1 : (y == f) = false := by simpa using h
    have q2 : List.lookup y [(f, v)] = none := by simp [List.lookup, q1]
    rw [q2]
    trivial
/-- what the text has written about the error X (its field f, its class at C) -/
structure ErrX (P : Program) (w : World) (K : PySem.W.Frag) (mg : Str → Option Value) (x f : Str) (C : Addr) (ok : V → Prop) : Prop where
  gC : mg x = some (.ref C)
  kC : PySem.W.keepIn K (.ref C) = true
  exC : PySem.W.subIn K (.ref C) (.type "BaseException") = some true
  tyC : PySem.W.typeIn K (.ref C) = some (.type "type")
  ga : PySem.W.findIn K (.ref C) "__getattribute__" = some (some (.builtin "BaseException.__getattribute__"))
  gg : PySem.W.findIn K (.ref C) "__getattr__" = some none
  noF : PySem.W.findIn K (.ref C) f = some none
  hdC : PySem.W.hasDictIn K C = true
  nsu : mg "super" = none
  top : (P.main.scope.names.lookup ("super" : Str)).isSome = false
  run : ∃ fI cc cda msg, PySem.Nxc.EFacts P K f C fI cc cda msg ∧ PySem.Nxc.FieldOk f msg ∧ ∀ v v', RelV v v' → ok v → PySem.Nxc.MsgOk P w f msg v'
section
variable {X : Cx} {x f : Str} {C : Addr} {ok : V → Prop}
/-- X(e) -/
def tMkE (f : Str) (C : Addr) (ok : V → Prop) (ta : TA) : St → Hp → XK → Prop := fun σ H Q => ta σ H fun vs H1 => ∃ v, vs = [v] ∧ ok v ∧ ∀ d, H1 d = none → Q (.ref C) (some d) (upd H1 d (.xd [(f, v)]))
theorem pmk_err {a : Expr} {ta : TA} {p pos : Pos} {k : Nat} (T : ErrX X.prog X.w X.K X.mg x f C ok) (hr : Room k X.A) (ha : PA X [a] ta) (hg : Gl X x)
    (he : starEach (a :: []) X.env = (false, eval a X.env) :: starEach [] X.env := by rfl) (hpl : (backTo pos (starEach [] X.env)).any (·.1) = false := by rfl) (hdb : (x == ("__debug__" : Str)) = false := by decide) :
    L2N.PMk X (.Call (.Name x p) [a] [] pos) (tMkE f C ok ta) := by
  intro pins s σ H Q I h
  refine wpAny_Call_Name_kw (ld_glob I hg T.gC ?_ hdb)
  refine PySem.W.callWith_K (h₀ := X.base) I.ok.mod.kin T.kC (thn (ha.run pos pins s σ H _ I h) fun us s1 hh => ?_) he hpl
  obtain ⟨vs, H1, I1, r1, v, ev, hok, q1⟩ := hh
  subst ev
  refine ⟨I1.kIn, ?_⟩
  cases r1 with
  | cons rv rn =>
    rename_i v' us'
    cases rn
    show wpAny _ _ (call (.ref C) [v']) _ _ _
    obtain ⟨fI, cc, cda, msg, E, FO, hm⟩ := T.run
    have hlim := I1.nolimit
    have B : ∃ mb, s1.heap.Ns builtinsNs mb ∧ ∀ y : Str, y ≠ "__name__" → mb y = bootBuiltins y := by
      obtain ⟨mb, h1, h2⟩ := I1.mod.blt
      exact ⟨mb, h1.keeps I1.bk, h2⟩
    have G : s1.heap.Ns mainGlobals X.mg := I1.mod.glob.keeps I1.bk
    obtain ⟨hp, g, dr, tk, os⟩ := s1
    refine wpAny_call (PySem.Nxc.made_run E FO (hm v v' rv hok) I1.kIn G T.nsu B hlim T.top (by have := hr.dp; omega) fun h' tk' e d M => ?_)
    show L2N.MkP X pins σ Q (.ref e) ⟨h', g, dr, tk', os⟩
    obtain ⟨t1, hoe⟩ := M.obj
    obtain ⟨G', g1, g2⟩ := restrict h' fun b => decide (b ≠ e)
    have gk : ∀ b, b ≠ e → G'.get? b = h'.get? b := fun b hb => g1 b (decide_eq_true hb)
    have ge : G'.get? e = none := g2 e (by simp)
    have old : ∀ b o, hp.get? b = some o → G'.get? b = some o := fun b o q =>
      (gk b (Nat.ne_of_lt (Nat.lt_of_lt_of_le (Heap.lt_size q) M.new))).trans (M.keep b o q)
    have ob : ObjOk X.prog X.w (upd H1 d (.xd [(f, v)])) G' d (.xd [(f, v)]) :=
      ⟨_, M.ns.at (fun o q => (gk d M.dne).trans q), fun y => relO_one rv y⟩
    have J : Inv X pins σ (upd H1 d (.xd [(f, v)])) ⟨G', g, dr, tk', os⟩ := I1.laid (t' := tk') old M.dbig ob
    refine ⟨e, _, _, ⟨G', g, dr, tk', os⟩, _, .ref C, some d, rfl, J, fun b o q => ?_, ge, hoe, ⟨rfl, rfl, fun vs z => by cases z; rfl⟩, rfl, rfl, ?_, rfl, I1.bare, raises_own T.exC T.tyC, q1 d (I1.hok.fresh M.dbig)⟩
    · by_cases hb : b = e
      · have q' : G'.get? b = some o := q
        rw [hb, ge] at q'
        cases q'
      · exact (gk b hb).symm.trans q
    · rw [upd_ne (Ne.symm M.dne)]
      exact I1.hok.fresh M.new
/-- raise X(e) -/
def tRaiseE (f : Str) (C : Addr) (ok : V → Prop) (W : WX) (ta : TA) : TS := fun _ σ H => tMkE f C ok ta σ H fun cls d H' => W cls d σ H'
theorem ps_raiseE {a : Expr} {ta : TA} {W : WX} {p pos pos2 : Pos} {k : Nat} (hc : X.calm = true) (T : ErrX X.prog X.w X.K X.mg x f C ok) (hr : Room k X.A) (tk : L2N.Takes X W) (ha : PA X [a] ta) (hg : Gl X x)
    (he : starEach (a :: []) X.env = (false, eval a X.env) :: starEach [] X.env := by rfl) (hpl : (backTo pos (starEach [] X.env)).any (·.1) = false := by rfl) (hdb : (x == ("__debug__" : Str)) = false := by decide) :
    PS X (.Raise (some (.Call (.Name x p) [a] [] pos)) none pos2) (tRaiseE f C ok W ta) := L2N.ps_raise hc tk (pmk_err T hr ha hg he hpl hdb)
/-- e.f, e the error that the suite holds (at a; its class cls, its dict d) -/
def tFldE (f : Str) (C : Addr) (a : Addr) (cls : Value) (d : Option Addr) (te : TE) : TE := fun σ H Q => te σ H fun x H1 => x = .ref a ∧ cls = .ref C ∧ ∃ (dd : Addr) (v : V), d = some dd ∧ H1 dd = some (.xd [(f, v)]) ∧ Q v H1
theorem pe_fldE {a : Addr} {oe : Obj} {cls : Value} {d : Option Addr} {pn : List (Addr × Obj)} {e : Expr} {te : TE} {pos : Pos} (T : ErrX X.prog X.w X.K X.mg x f C ok) (hz : Zc cls d oe) (hf : ∃ vs, oe.data = .fields vs) (he : PE (X.suite a ((a, oe) :: pn)) e te)
    (hb : attributeBase e f X.env (eval e X.env) = eval e X.env := by rfl) :
    PE (X.suite a ((a, oe) :: pn)) (.Attribute e f pos) (tFldE f C a cls d te) := by
  refine ⟨fun pins s σ H Q I h => ?_⟩
  refine attr_of hb (thn (he.run pins s σ H _ I h) fun u s1 hh => ?_)
  obtain ⟨y, H1, I1, rx, ex, ec, dd, v, ed, ea, q⟩ := hh
  subst ex
  obtain rfl : u = Value.ref a := rx
  subst ec
  subst ed
  obtain ⟨ha, _⟩ := I1.pin (a, oe) (List.mem_append_left _ List.mem_cons_self)
  obtain ⟨vs, hd⟩ := hf
  have hx : ObjOk X.prog X.w H1 s1.heap dd (.xd [(f, v)]) := I1.hok dd _ ea
  obtain ⟨mA, hns, hr⟩ := hx
  obtain ⟨od, ho, hl⟩ := lookIn_ns hns
  have l : List.lookup f [(f, v)] = some v := by simp [List.lookup]
  obtain ⟨u, hu, ru⟩ := RelO.some_of (v := v) (o := mA f) (by rw [← l]; exact hr f)
  have J : PySem.W.InstAt s1.heap a oe C (some od) := ⟨ha, hz.1, by unfold PySem.W.notCls; rw [hd] <;> rfl, by rw [hz.2]; exact ho⟩
  exact HandSPX.exc_get I1.kIn J T.ga T.gg T.exC (PySem.W.findObj_own T.hdC T.noF rfl (by rw [hl, hu])) (handed_of ru) ⟨v, H1, I1.tok _, ru, q⟩
end
end L2
end
section
set_option Elab.async false
set_option linter.all false
set_option maxRecDepth 100000
set_option maxHeartbeats 1000000
/-! Words shared by the walk: data, texts of signs, loops over a text. -/
namespace K71
open PySem PySem.Spec L2
open PyProof.Rows hiding St
/-- a def that stands at f -/
structure Df (K : PySem.W.Frag) (mg : Str → Option Value) (x : Str) (f : Addr) (fd : FuncData) (ps : List Str) : Prop where
  m : mg x = some (.ref f)
  k : PySem.W.keepIn K (.ref f) = true
  b : Binds K fd ps []
/-- the built-ins are still themselves -/
structure Blt (mg : Str → Option Value) : Prop where
  len : mg "len" = none
  tuple : mg "tuple" = none
  sorted : mg "sorted" = none
  set : mg "set" = none
  list : mg "list" = none
  range : mg "range" = none
  zip : mg "zip" = none
  max : mg "max" = none
  min : mg "min" = none
  abs : mg "abs" = none
  int : mg "int" = none
  bool : mg "bool" = none
  str : mg "str" = none
  isinstance : mg "isinstance" = none
end K71
namespace L2
open PySem PySem.Spec PyProof.Rows
section
variable {K : PySem.W.Frag} {H H' : Hp}
mutual
theorem Dp.same (e : Same H H') : ∀ (d : PyData) (v : V), Dp K H v d → Dp K H' v d
  | .none, _, h => by cases h; exact .non
  | .bool _, _, h => by cases h; exact .bl _
  | .int _, _, h => by cases h; exact .int _
  | .str _, _, h => by cases h; exact .str _
  | .list ds, _, h => by
    cases h with
    | lst hs ha => exact .lst (e.seq hs) (DpAll.same e ds _ ha)
  | .tuple ds, _, h => by
    cases h with
    | tup hs ha => exact .tup (TupsStay.sqT (.of e) hs) (DpAll.same e ds _ ha)
  | .dict _, _, h => by cases h
theorem DpAll.same (e : Same H H') : ∀ (ds : List PyData) (vs : List V), DpAll K H vs ds → DpAll K H' vs ds
  | [], _, h => by cases h; exact .nil
  | d :: ds, _, h => by
    cases h with
    | cons h1 h2 => exact .cons (Dp.same e d _ h1) (DpAll.same e ds _ h2)
end
theorem DpAll.len : ∀ {xs : List V} {ds : List PyData}, DpAll K H xs ds → xs.length = ds.length
  | _, _, .nil => rfl
  | _, _, .cons _ r => by rw [List.length_cons, List.length_cons, DpAll.len r]
theorem DpAll.get : ∀ {xs : List V} {ds : List PyData} {i : Nat} {d : PyData}, DpAll K H xs ds → ds[i]? = some d → ∃ x, xs[i]? = some x ∧ Dp K H x d
  | _, _, 0, _, .cons h _, e => by
    cases Option.some.inj e
    exact ⟨_, rfl, h⟩
  | _, _, i + 1, _, .cons _ r, e => DpAll.get (i := i) r e
theorem DpAll.get' {xs : List V} {ds : List PyData} {i : Nat} {x : V} (h : DpAll K H xs ds) (e : xs[i]? = some x) : ∃ d, ds[i]? = some d ∧ Dp K H x d := by
  have hi : i < ds.length := by rw [← h.len]; exact (List.getElem?_eq_some_iff.mp e).1
  obtain ⟨y, e1, e2⟩ := h.get (List.getElem?_eq_getElem hi)
  rw [e] at e1
  cases Option.some.inj e1
  exact ⟨_, List.getElem?_eq_getElem hi, e2⟩
theorem DpAll.app : ∀ {xs ys : List V} {ds es : List PyData}, DpAll K H xs ds → DpAll K H ys es → DpAll K H (xs ++ ys) (ds ++ es)
  | _, _, _, _, .nil, h => h
  | _, _, _, _, .cons a r, h => .cons a (DpAll.app r h)
theorem Dp.tupOf {v : V} {ds : List PyData} (h : Dp K H v (.tuple ds)) : ∃ a xs, v = .ref a ∧ SqT K H a xs ∧ DpAll K H xs ds := by
  cases h with
  | tup h1 h2 => exact ⟨_, _, rfl, h1, h2⟩
theorem Dp.lstOf {v : V} {ds : List PyData} (h : Dp K H v (.list ds)) : ∃ a xs, v = .ref a ∧ SqL K H a xs ∧ DpAll K H xs ds := by
  cases h with
  | lst h1 h2 => exact ⟨_, _, rfl, h1, h2⟩
theorem Dp.intOf {v : V} {i : Int} (h : Dp K H v (.int i)) : v = .int i := by cases h; rfl
theorem Dp.strOf {v : V} {x : Str} (h : Dp K H v (.str x)) : v = .str x := by cases h; rfl
theorem dp_ints : ∀ ns : List Int, DpAll K H (ns.map V.int) (ns.map PyData.int)
  | [] => .nil
  | n :: ns => .cons (.int n) (dp_ints ns)
theorem ints_dp : ∀ {xs : List V} {ns : List Int}, DpAll K H xs (ns.map PyData.int) → xs = ns.map V.int
  | _, [], .nil => rfl
  | _, n :: ns, .cons h r => by
    cases h
    rw [List.map_cons, ints_dp r]
theorem dp_strs : ∀ ns : List Str, DpAll K H (ns.map V.str) (ns.map PyData.str)
  | [] => .nil
  | n :: ns => .cons (.str n) (dp_strs ns)
theorem strs_dp : ∀ {xs : List V} {ns : List Str}, DpAll K H xs (ns.map PyData.str) → xs = ns.map V.str
  | _, [], .nil => rfl
  | _, n :: ns, .cons h r => by
    cases h
    rw [List.map_cons, strs_dp r]
end
end L2
namespace K71
open PySem PySem.Spec L2
open PyProof.Rows hiding St
theorem same_new {H : Hp} {p : Addr} {o : HO} (h : H p = none) : Same H (upd H p o) := fun b x e => by
  rw [upd_ne (ne_of_none e h)]
  exact e
/-- everything but p stands -/
def But (p : Addr) (H H' : Hp) : Prop := ∀ b o, b ≠ p → H b = some o → H' b = some o
theorem But.refl (p : Addr) (H : Hp) : But p H H := fun _ _ _ h => h
theorem But.trans {p : Addr} {H H1 H2 : Hp} (a : But p H H1) (b : But p H1 H2) : But p H H2 := fun c o n h => b c o n (a c o n h)
theorem Same.but {p : Addr} {H H' : Hp} (a : Same H H') : But p H H' := fun c o _ h => a c o h
theorem but_upd {p : Addr} {o : HO} (H : Hp) : But p H (upd H p o) := fun c x n h => by rw [upd_ne n]; exact h
/-! ### texts -/
/-- the text of the signs w -/
abbrev tx (w : List Nat) : Str := ⟨w.toArray⟩
theorem tx_list (w : List Nat) : (tx w).cps.toList = w := by simp
theorem tx_of (x : Str) : tx x.cps.toList = x := by cases x; simp
theorem tx_len (w : List Nat) : (tx w).length = w.length := by
  show w.toArray.size = _
  simp
theorem tx_inj {u w : List Nat} (h : tx u = tx w) : u = w := by
  have e := congrArg (fun x : Str => x.cps.toList) h
  simpa using e
theorem tx_app (u w : List Nat) : tx u ++ tx w = tx (u ++ w) := by
  show (⟨u.toArray ++ w.toArray⟩ : Str) = _
  congr 1
  simp
/-- a loop over the signs of a text -/
theorem for_str {w : List Nat} {g : TG} {tb : TS} {D : Ends} {σ : St} {H : Hp} (Pv : Nat → St → Hp → Prop) (h0 : Pv 0 σ H)
    (hs : ∀ i c σ H, w[i]? = some c → Pv i σ H → g (.str (tx [c])) σ H fun σ2 H2 => tb { D with nx := Pv (i + 1), ct := Pv (i + 1), bk := D.nx } σ2 H2) (hd : ∀ σ H, Pv w.length σ H → D.nx σ H) :
    ∃ W : Nat → Nat → St → Hp → Prop, (∃ m, W 0 m σ H) ∧ ∀ i m σ H, W i m σ H →
      ((Its (tx w)).stop i H ∧ D.nx σ H) ∨ ((Its (tx w)).go i H ∧ ∃ N : St → Hp → Prop, (∀ σ' H', N σ' H' → ∃ m', m' < m ∧ W (i + 1) m' σ' H') ∧ ∀ x H', (Its (tx w)).yld i H x H' → g x σ H' fun σ2 H2 => tb { D with nx := N, ct := N, bk := D.nx } σ2 H2) := by
  have hz : (tx w).cps.size = w.length := by simp
  refine ⟨fun i m σ H => m = w.length - i ∧ i ≤ w.length ∧ Pv i σ H, ⟨w.length, by simp, Nat.zero_le _, h0⟩, ?_⟩
  rintro i m σ H ⟨rfl, hi, p⟩
  by_cases hlt : i < w.length
  · refine .inr ⟨by show i < (tx w).cps.size; omega, Pv (i + 1), fun σ' H' p' => ⟨w.length - (i + 1), by omega, rfl, hlt, p'⟩, fun x H' y => ?_⟩
    obtain ⟨e, c, hc, rfl⟩ := y
    subst e
    have hc' : w[i]? = some c := by simpa using hc
    exact hs i c σ _ hc' p
  · have e : i = w.length := by omega
    subst e
    exact .inl ⟨by show (tx w).cps.size ≤ _; omega, hd σ H p⟩
/-! ### the alphabets -/
def Alph (L : List Nat) : Prop := L = [97] ∨ L = [97, 98] ∨ L = [97, 98, 99]
theorem Alph.len {L : List Nat} (h : Alph L) : 1 ≤ L.length ∧ L.length ≤ 3 := by
  rcases h with rfl | rfl | rfl <;> decide
theorem Alph.at_ {L : List Nat} (h : Alph L) {c : Nat} (hc : c ∈ L) : L.idxOf c < L.length ∧ Txt.index0 (tx L) (tx [c]) = some (L.idxOf c) ∧ Txt.find (tx L) (tx [c]) = (L.idxOf c : Int) := by
  rcases h with rfl | rfl | rfl <;> simp only [List.mem_cons, List.not_mem_nil, or_false] at hc
  · subst hc
    refine ⟨by decide, by decide +kernel, by decide +kernel⟩
  · rcases hc with rfl | rfl
    · refine ⟨by decide, by decide +kernel, by decide +kernel⟩
    · refine ⟨by decide, by decide +kernel, by decide +kernel⟩
  · rcases hc with rfl | rfl | rfl
    · refine ⟨by decide, by decide +kernel, by decide +kernel⟩
    · refine ⟨by decide, by decide +kernel, by decide +kernel⟩
    · refine ⟨by decide, by decide +kernel, by decide +kernel⟩
/-! ### tables of numbers -/
def rowD (r : List Nat) : PyData := .tuple (r.map fun (x : Nat) => .int (x : Int))
def RowsOk (rows : List (List Nat)) (m : Nat) : Prop := ∀ r ∈ rows, r.length = m ∧ ∀ x ∈ r, x < rows.length
def stepN (rows : List (List Nat)) (s j : Nat) : Nat := (rows.getD s []).getD j 0
def walkN (L : List Nat) (rows : List (List Nat)) (s : Nat) (w : List Nat) : Nat := w.foldl (fun s c => stepN rows s (L.idxOf c)) s
theorem stepN_get {rows : List (List Nat)} {m s j : Nat} (h : RowsOk rows m) (hs : s < rows.length) (hj : j < m) : ∃ r, rows[s]? = some r ∧ r[j]? = some (stepN rows s j) ∧ stepN rows s j < rows.length := by
  have e : rows[s]? = some rows[s] := List.getElem?_eq_getElem hs
  have hr := h rows[s] (List.getElem_mem hs)
  have hj' : j < rows[s].length := by rw [hr.1]; exact hj
  have e2 : rows[s][j]? = some rows[s][j] := List.getElem?_eq_getElem hj'
  have e3 : stepN rows s j = rows[s][j] := by
    unfold stepN
    have e4 : rows.getD s [] = rows[s] := by rw [List.getD_eq_getElem?_getD, e] <;> rfl
    rw [e4, List.getD_eq_getElem?_getD, e2] <;> rfl
  refine ⟨rows[s], e, by rw [e3]; exact e2, by rw [e3]; exact hr.2 _ (List.getElem_mem hj')⟩
theorem walkN_lt {L : List Nat} {rows : List (List Nat)} (h : RowsOk rows L.length) : ∀ (w : List Nat) (s : Nat), s < rows.length → (∀ c ∈ w, c ∈ L) → walkN L rows s w < rows.length
  | [], s, hs, _ => hs
  | c :: w, s, hs, hw => by
    have hc : L.idxOf c < L.length := List.idxOf_lt_length_iff.mpr (hw c List.mem_cons_self)
    obtain ⟨_, _, _, q⟩ := stepN_get h hs hc
    exact walkN_lt h w _ q fun d hd => hw d (List.mem_cons_of_mem _ hd)
/-- an error is never let out here -/
theorem takes_never {X : Cx} : Takes X (fun _ _ _ _ => False) := fun u s' h => by
  obtain ⟨_, _, _, _, _, _, _, _, _, _, _, _, _, _, _, _, w⟩ := h
  exact w.elim
section
variable {P : Program} {w : World} {K : PySem.W.Frag} {mg : Str → Option Value} {base : Heap}
/-- a def that errors leave, with fields -/
theorem Fun.okN {x qual : Str} {st : Stmt} {f : Addr} {fd : FuncData} {N ps : List Str} {k : Nat} {sp : Sp} (F : Fun K x qual st f fd) (S : FnScope N ps (defScope st)) (len : ∀ vs H Q E, sp vs H Q E → vs.length = ps.length)
    (hbody : ∀ (cdv : Value) (A : Around) (outer : List Env) (s : Shared) (H : Hp) (vs : List V) (Q : VK) (E : XK), Room k (A.deeper (envOfC qual (defScope st) s.heap.objs.size f cdv)) → sp vs H Q E →
      ∃ t, PSs (cxOf (L2N.CX P w) P w K mg base N qual (defScope st) f cdv A outer s H E) (defBody st) t ∧ t { nx := fun _ H' => Q .non H', rt := Q } (start N vs) H) : FnOk P w K mg base (L2N.CX P w) (k + 1) f fd ps sp := by
  obtain ⟨oc, od, kV, doc, pm, an, cdv, ct, osl, rfl, lk, hcd⟩ := F.ex
  exact fn_of lk hcd S len fun A outer s H vs Q E hr hsp => hbody cdv A outer s H vs Q E hr hsp
end
end K71
end
section
set_option Elab.async false
set_option linter.all false
set_option maxRecDepth 100000
set_option maxHeartbeats 4000000
/-! isinstance of an own error that has a field, in a def to which it was handed. -/
namespace PySem
namespace Nxc
open PySem.W PySem.Calls PyProof.Rows PySem.HandSPX L2
/-- what a class says so that isinstance may ask its instances for __class__ -/
structure AskC (K : Frag) (D : Addr) : Prop where
  ga : findIn K (.ref D) "__getattribute__" = some (some (.builtin "BaseException.__getattribute__"))
  gg : findIn K (.ref D) "__getattr__" = some none
  exc : subIn K (.ref D) (.type "BaseException") = some true
  cls : (clsIn K D).isSome = true
  cat : findIn K (.ref D) "__class__" = some (some (.builtin "object.__class__"))
  get : specialIn K (.builtin "object.__class__") "__get__" = some (some (.builtin "getset_descriptor.__get__"))
  tk : takesIn K (.builtin "object.__class__") = some true
  mro : mroIn K D (.type "object") = some true
section
variable {prog : Program} {w : World} {A : Around} {E : Value → Shared → Prop} {s : Shared} {K : Frag} {x D : Addr} {ox od : Obj}
theorem ask_class {Q : Option Value → Shared → Prop} (T : AskC K D) (X : K.In s.heap) (I : InstAt s.heap x ox D (some od)) (h : Q (some (.ref D)) { s with toks := s.toks + 1 }) :
    wpAny (model prog w) A (getAttr? (.ref x) "__class__") Q E s := by
  have hf : findObj K D (some od) "__class__" = some (.bind (.builtin "getset_descriptor.__get__") (.builtin "object.__class__")) := findObj_data T.cls T.cat T.get T.tk
  obtain ⟨hp, g, d, t, os⟩ := s
  have n1 : (Value.builtin "BaseException.__getattribute__" == Value.builtin "object.__getattribute__") = false := by decide +kernel
  unfold getAttr? getAttrBy? getAttrBy
  refine wpAny_bind (wpAny_mkText (wpAny_bind (wpAny_attempt (wpAny_holding (wpAny_bind (I.type.at (wpAny_bind ((looks_findIn X T.ga).at ?_))))))))
  dsimp only
  rw [n1, Bool.and_false, if_neg Bool.false_ne_true]
  unfold getAttrByItsOwn hookBefore
  refine wpAny_bind ?_
  rw [if_pos (show onTheHeap (Value.ref D) = true from rfl)]
  refine (looks_findIn X T.gg).at (wpAny_bind (wpAny_attempt (wpAny_holding ?_)))
  unfold callGetattribute
  rw [show (false && onTheHeap (Value.builtin "BaseException.__getattribute__")) = false from rfl, if_neg Bool.false_ne_true]
  unfold boundAndCalled
  rw [PySem.F.excAttr_ValueError.ga.bind (.ref x)]
  refine wpAny_bind (wpAny_pure ?_)
  refine wpAny_call (codeAny_call_builtin PySem.F.excAttr_ValueError.ga.plain PySem.F.entry_bexc_ga ?_)
  have sub : Looks (model prog w) hp (isInstance (.ref x) (.type "BaseException")) true := I.type.andThen (looks_subIn X T.exc)
  refine @check_slot (model prog w) _ _ ⟨hp, g, d, t + 1, os⟩ "BaseException.__getattribute__" "BaseException" "__getattribute__" (.ref x) [.str "__class__" t] [] _ (by decide +kernel) (by decide +kernel) sub (PySem.F.args_bexc_ga (.ref x) (.str "__class__" t)) ?_
  unfold Builtin.«object.__getattribute__»
  refine wpAny_bind (wpAny_of_eq (a := ((Value.ref x : Value), [Value.str "__class__" t])) (by first | rfl | (simp only [slotArgs]; rfl)) ?_)
  refine wpAny_bind (wpAny_pure (wpAny_bind (I.type.at (wpAny_bind ((looks_find X I hf).at ?_)))))
  refine wpAny_bind (wpAny_holding (wpAny_call (class_get (s := ⟨hp, g, d, t + 1, os⟩) X I T.mro ?_)))
  refine wpAny_pure ?_
  show wpAny _ _ (handedOut (.ref D)) _ _ _
  rw [handedOut_of (v := .ref D) rfl]
  first
    | exact wpAny_pure (wpAny_pure h)
    | exact wpAny_pure h
    | exact wpAny_pure (wpAny_bind (wpAny_pure (wpAny_pure h)))
theorem isType_cls {M : Model} {h : Heap} (hc : (clsIn K D).isSome = true) (X : K.In h) : Looks M h (isType (.ref D)) true := by
  obtain ⟨cd, e⟩ := Option.isSome_iff_exists.mp hc
  unfold clsIn at e
  split at e
  · rename_i c' d' cd' sl' ho
    intro A' Q' E' s' k q
    unfold isType loadHead
    exact wpAny_bind (wpAny_loadPart (k _ _ (X _ _ ho)) (wpAny_pure q))
  · cases e
theorem kitx_err (T : AskC K D) : KitX K (.ref x) (.ref D) (fun h => ∃ od, InstAt h x ox D (some od)) where
  ty := fun _ _ _ ⟨_, I⟩ => I.type
  it := fun _ _ X _ => isType_cls T.cls X
  ne := fun h tp dd its n sl X htp => by
    refine Bool.eq_false_iff.mpr fun q => ?_
    have e : D = tp := Value.ref.inj (beq_iff_eq.mp q)
    subst e
    obtain ⟨cd, ec⟩ := Option.isSome_iff_exists.mp T.cls
    unfold clsIn at ec
    split at ec
    · rename_i c' d' cd' sl' ho
      have z := (X _ _ ho).symm.trans htp
      cases z
    · cases ec
  ca := fun X ⟨_, I⟩ k => ask_class T X I k
end
end Nxc
end PySem
namespace L2
open PySem PySem.Spec PyProof.Rows
/-- the error at a, of the class at D, whose own dict is at d: known to every body over this base -/
def ErrAt (base : Heap) (a D d : Addr) : Prop := ∃ oe vs, base.get? a = some oe ∧ oe.cls = .ref D ∧ oe.dict = some d ∧ oe.data = .fields vs
/-- isinstance(e, c): e such an error -/
def rIsX (K : PySem.W.Frag) (base : Heap) : List V → Hp → VK → Prop := fun xs H Q => ∃ (a D d : Addr) (fs : List (Str × V)) (c : V) (cv : Value) (b : Bool), xs = [.ref a, c] ∧ ErrAt base a D d ∧ H d = some (.xd fs) ∧
  PySem.Nxc.AskC K D ∧ (∀ u, RelV c u → u = cv) ∧ PySem.W.kitOne K (.ref D) cv = some b ∧ Q (.bl b) H
theorem call_isX {X : Cx} : CallR X (.builtin "isinstance") (rIsX X.K X.base) := by
  intro pins s σ H xs us Q I r h
  obtain ⟨a, D, d, fs, c, cv, b, rfl, ⟨oe, vs, hb, h1, h2, h3⟩, hd, T, hcv, e, q⟩ := h
  cases r with
  | cons rx rr =>
    cases rr with
    | cons rt rr =>
      cases rr
      cases rx
      have ec := hcv _ rt
      subst ec
      have hget := I.bk a oe hb
      have hx : ObjOk X.prog X.w H s.heap d (.xd fs) := I.hok d _ hd
      obtain ⟨mA, hns, _⟩ := hx
      obtain ⟨od, ho, _⟩ := lookIn_ns hns
      have J : ∃ od, PySem.W.InstAt s.heap a oe D (some od) := ⟨od, hget, h1, by unfold PySem.W.notCls; rw [h3] <;> rfl, by rw [h2]; exact ho⟩
      exact PySem.W.kia_one (PySem.Nxc.kitx_err T) I.kIn J e (fun z => nomatch z) fun tk => ⟨.bl b, H, I.kept (t' := tk) fun _ _ z => z, rfl, q⟩
end L2
end
section
set_option Elab.async false
set_option linter.all false
set_option maxRecDepth 100000
set_option maxHeartbeats 4000000
/-! A callee that is to know objects which nothing tracks: it runs over a wider base. And a list comprehension over a range where an error is handled. -/
namespace L2
open PySem PySem.Spec PyProof.Rows L2H
/-- what a running body knows of its heap, but for the frames and what is tracked -/
def widB (X : Cx) (H : Hp) (s : Shared) : Heap := PySem.W.hideAll s.heap ((List.range s.heap.objs.size).filter fun a => (H a).isSome || decide (a ∈ frs X.stack))
section
variable {X : Cx} {pins : List (Addr × Obj)} {σ : St} {H : Hp} {s : Shared}
theorem widB_of {b : Addr} {o : Obj} (e : (widB X H s).get? b = some o) : s.heap.get? b = some o ∧ H b = none ∧ b ∉ frs X.stack := by
  have e' : s.heap.get? b = some o := PySem.W.of_hideAll _ e
  have nin : b ∉ (List.range s.heap.objs.size).filter fun a => (H a).isSome || decide (a ∈ frs X.stack) := fun hm => by
    have z : (widB X H s).get? b = none := PySem.W.hideAll_none _ hm
    rw [z] at e
    cases e
  have q : ¬ ((H b).isSome || decide (b ∈ frs X.stack)) = true := fun hq => nin (List.mem_filter.mpr ⟨List.mem_range.mpr (Heap.lt_size e'), hq⟩)
  rw [Bool.or_eq_true, decide_eq_true_eq] at q
  refine ⟨e', ?_, fun hm => q (.inr hm)⟩
  cases hb : H b with
  | none => rfl
  | some u => exact absurd (.inl (by rw [hb]; rfl)) q
theorem widB_get {b : Addr} {o : Obj} (e : s.heap.get? b = some o) (h1 : H b = none) (h2 : b ∉ frs X.stack) : (widB X H s).get? b = some o :=
  PySem.W.hideAll_get _ e fun hm => by
    have q := (List.mem_filter.mp hm).2
    rw [h1, Bool.or_eq_true, decide_eq_true_eq] at q
    rcases q with q | q
    · cases q
    · exact h2 q
theorem Inv.noframe (I : Inv X pins σ H s) {b : Addr} {o : Obj} (e : X.base.get? b = some o) : b ∉ frs X.stack := fun hm => by
  rcases List.mem_cons.mp (I.stkSub b hm) with z | z
  · have l := Heap.lt_size e
    rw [z] at l
    exact absurd (Nat.lt_of_lt_of_le l (Nat.le_trans I.ok.bsz I.ok.above)) (Nat.lt_irrefl _)
  · exact I.ok.nofr e z
theorem Inv.wid_base (I : Inv X pins σ H s) : ∀ b o, X.base.get? b = some o → (widB X H s).get? b = some o := fun b o e =>
  widB_get (I.bs b o e).1 (I.bs b o e).2 (I.noframe e)
theorem Inv.wid_mod (I : Inv X pins σ H s) : Mod X.K X.mg (widB X H s) :=
  ⟨I.mod.kin.keeps I.wid_base, I.mod.glob.keeps I.wid_base, by
    obtain ⟨mb, h1, h2⟩ := I.mod.blt
    exact ⟨mb, h1.keeps I.wid_base, h2⟩, I.mod.nolimit.keeps I.wid_base⟩
theorem Inv.wid_env (I : Inv X pins σ H s) : Env0 X.prog X.w X.K X.mg (widB X H s) X.A X.stack s H :=
  ⟨I.ok.frames, I.wid_mod, fun b o e => ⟨(widB_of e).1, (widB_of e).2.1⟩, by unfold widB; rw [PySem.W.hideAll_size] <;> exact Nat.le_refl _,
    funFrames_none I.stack fun L hL => by
      cases e : (widB X H s).get? L with
      | none => rfl
      | some o => exact absurd hL (widB_of e).2.2, I.stkFree, I.hok, I.bare⟩
theorem Inv.wid_pin (I : Inv X pins σ H s) {p : Addr × Obj} (hp : p ∈ X.pn ++ pins) : (widB X H s).get? p.1 = some p.2 := by
  obtain ⟨h1, h2, h3, h4, h5⟩ := I.pin p hp
  exact widB_get h1 h2 fun hm => by
    rcases List.mem_cons.mp (I.stkSub p.1 hm) with z | z
    · exact h3 z
    · exact h4 z
variable {CX : CXT} {k : Nat} {f : Addr} {fd : FuncData} {ps : List Str} {sp : Heap → Sp} {E : St → XK}
/-- where an error is handled: the callee knows it -/
theorem run_fnHW {Q : VK} {us : List Value} {vs : List V} (F : ∀ B, FnH X.prog X.w X.K X.mg B CX k f fd ps (sp B)) (hr : RoomH k X.A) (hc : HotC X) (hb : Binds X.K fd ps []) (hx : PassesAt CX X σ (E σ))
    (I : Inv X pins σ H s) (r : Vals vs us) (h : ∀ B : Heap, (∀ p ∈ X.pn ++ pins, B.get? p.1 = some p.2) → sp B vs H Q (E σ)) : wpAny (model X.prog X.w) X.A (call (.ref f) us) (EP X pins σ Q) X.xe s := by
  obtain ⟨p, hot, hp⟩ := hc
  have hsp := h (widB X H s) fun q hq => I.wid_pin hq
  have hl : us.length = ps.length := by rw [← r.length]; exact (F _).len _ _ _ _ hsp
  have b := hb s us I.kIn (by rw [List.append_nil]; exact hl)
  rw [List.append_nil] at b
  have P1 := I.pin p (List.mem_append_left _ hp)
  have hpin : PinOk X.stack H s p := ⟨P1.1, P1.2.1, fun hm => (List.mem_cons.mp (I.stkSub p.1 hm)).elim P1.2.2.1 P1.2.2.2.1, P1.2.2.2.2⟩
  refine wpAny_call (codeAny_mono ((F (widB X H s)).run X.A X.stack s H ⟨us, []⟩ us vs Q (E σ) p hr hot hpin I.wid_env b r hsp) fun r s' hq => ?_)
  cases r with
  | error e => exact hx pins H s e s' I hq
  | ok fl =>
    cases fl with
    | ret u => exact I.after hq
    | next => exact False.elim hq
    | brk => exact False.elim hq
    | cont => exact False.elim hq
/-- f(e, ..) there; pn: the objects that the body's pins tell -/
def tCallHW (pn : List (Addr × Obj)) (sp : Heap → Sp) (E : St → XK) (t : TA) : TE := fun σ H Q => t σ H fun vs H1 => ∀ B : Heap, (∀ p ∈ pn, B.get? p.1 = some p.2) → sp B vs H1 Q (E σ)
theorem pe_callHW {x : Str} {q pos : Pos} {e : Expr} {es : List Expr} {t : TA} (F : ∀ B, FnH X.prog X.w X.K X.mg B CX k f fd ps (sp B)) (hr : RoomH k X.A) (hc : HotC X) (hg : Gl X x) (hm : X.mg x = some (.ref f)) (hk : PySem.W.keepIn X.K (.ref f) = true) (hb : Binds X.K fd ps []) (hx : ∀ σ, PassesAt CX X σ (E σ))
    (ha : PA X (e :: es) t) (hdb : (x == ("__debug__" : Str)) = false := by decide) (he : starEach (e :: es) X.env = (false, eval e X.env) :: starEach es X.env := by rfl) (hpl : (backTo pos (starEach es X.env)).any (·.1) = false := by rfl) :
    PE X (.Call (.Name x q) (e :: es) [] pos) (tCallHW X.pn sp E t) := by
  refine ⟨fun pins s σ H Q I h => ?_⟩
  refine wpAny_Call_Name_kw (ld_glob I hg hm ?_ hdb)
  refine PySem.W.callWith_K (h₀ := X.base) I.ok.mod.kin hk (thn (ha.run pos pins s σ H _ I h) fun us s1 ⟨vs, H1, I1, r, q⟩ => ⟨I1.kIn, ?_⟩) he hpl
  exact run_fnHW F hr hc hb (hx σ) I1 r fun B hB => q B fun p hp => hB p (List.mem_append_left _ hp)
end
end L2
end
section
set_option Elab.async false
set_option linter.all false
set_option maxRecDepth 100000
set_option maxHeartbeats 4000000
/-! A list comprehension over a range where an error is handled; a try with several named clauses. -/
namespace L2
open PySem PySem.Spec PyProof.Rows L2H
theorem Inv.fewer {X : Cx} {pins : List (Addr × Obj)} {σ : St} {H : Hp} {s : Shared} (I : Inv X pins σ H s) : Inv X [] σ H s :=
  ⟨I.ok, I.os, I.bare, I.base, I.loc, I.cell, I.free, I.freeC, fun r hr => I.pin r (List.mem_append_left _ (by simpa using hr)), I.hok, I.len⟩
section
variable {X : Cx}
theorem pe_lcHot {elt tg iter : Expr} {ifs : List Expr} {scope : Scope} {own : List (Str × Nat)} {pos : Pos} {wi : TI} {g : TG} {tt : TT} {te : TE} (hot : HotC X) (hN : X.N.Nodup) (hi : PIH X tg iter wi) (ok : BlkOk X.N X.env.scope scope own)
    (hg : ∀ (s : Shared) (H : Hp) (C : Addr) (cl : List (Str × Addr)) (fp : List Addr), PG (X.blk s H scope (compEnvC scope cl C X.env) fp) tg g)
    (ht : ∀ (s : Shared) (H : Hp) (C : Addr) (cl : List (Str × Addr)) (fp : List Addr), PTs (X.blk s H scope (compEnvC scope cl C X.env) fp) ifs tt)
    (he : ∀ (s : Shared) (H : Hp) (C : Addr) (cl : List (Str × Addr)) (fp : List Addr), PE (X.blk s H scope (compEnvC scope cl C X.env) fp) elt te) (hs : ∀ x, foldedSetIterable iter X.env x = pure x := by intro _; rfl) :
    PE X (.ListComp elt [⟨tg, iter, ifs, 0⟩] scope pos) (tLc wi g tt te (own.map (·.2))) := by
  obtain ⟨p, hp1, hpn⟩ := hot
  refine ⟨fun pins s σ H Q I h => ?_⟩
  rw [eval_ListComp]
  have clo : ∀ y ∈ scope.names, y.2 = .free → ∃ c, X.env.cells.lookup y.1 = some c := fun y hy e => (ok.free y hy e).elim (fun k => I.ok.has _ (.inl k)) fun k => I.ok.has _ (.inr k)
  refine wpAny_comprehension_free (use := none) rfl hs (closure_ok clo) ok.kind (fun y hy e => by rw [ok.uniq y hy, e])
    (thn (hi.run pins s σ H _ I h) fun xv s1 hx => thn hx fun itv s2 h2 => ?_)
  obtain ⟨it, fp, tn, J, H2, rfl, I2, T, st2, f2, q⟩ := h2
  refine wpAny_newObj_type (newEnv_comp ?_) (by show 0 ≤ sizeLine; decide)
  generalize hD : s2.heap.objs.size = D
  obtain ⟨W, ⟨m0, w0⟩, turn⟩ := q D (I2.hok.fresh (Nat.le_of_eq hD))
  -- the new list at D
  generalize hs3 : ({ s2 with heap := s2.heap.push { cls := .type "list", data := .seq ([] : List Value).toArray } } : Shared) = s3
  have h3 : s3.heap = s2.heap.push { cls := .type "list", data := .seq ([] : List Value).toArray } := by rw [← hs3]
  have I3 : Inv X pins σ (upd H2 D (.lst [])) s3 := by
    rw [← hs3]
    refine I2.laid (t' := s2.toks) (fun b o e => Heap.get?_push_of_some _ e) (Nat.le_of_eq hD) ⟨Nat.zero_le _, [], 0, .nil, ?_⟩
    rw [← hD]
    exact Heap.get?_push_size _ rfl
  have lt2 : ∀ b ∈ fp, b < s2.heap.objs.size := fun b hb => by
    obtain ⟨o, e, _⟩ := T.obj _ _ st2 b hb
    exact Heap.lt_size e
  have f3 : ∀ b ∈ fp, FpOk X pins (upd H2 D (.lst [])) b ∧ b < s3.heap.objs.size := fun b hb => by
    refine ⟨⟨?_, (f2 b hb).2⟩, by rw [h3, Heap.size_push]; exact Nat.lt_succ_of_lt (lt2 b hb)⟩
    rw [upd_ne (by rw [← hD]; exact Nat.ne_of_lt (lt2 b hb))]
    exact (f2 b hb).1
  have st3 : tn 0 s3.heap := T.keep _ _ _ st2 fun b _ o e => by rw [h3]; exact Heap.get?_push_of_some _ e
  have I4 := block_start I3 ok hN f3
  have pg := hg s3 (upd H2 D (.lst [])) s3.heap.objs.size (cellsFrom (s3.heap.objs.size + 1) scope.names (cloFrom X.env.cells scope.names [])) fp
  have pt := ht s3 (upd H2 D (.lst [])) s3.heap.objs.size (cellsFrom (s3.heap.objs.size + 1) scope.names (cloFrom X.env.cells scope.names [])) fp
  have pe := he s3 (upd H2 D (.lst [])) s3.heap.objs.size (cellsFrom (s3.heap.objs.size + 1) scope.names (cloFrom X.env.cells scope.names [])) fp
  show codeAny _ _ (.compStart (.ListComp elt [⟨tg, iter, ifs, 0⟩] scope pos) 0 (.ref it) (.ref D) (compEnvC scope (cellsFrom (s3.heap.objs.size + 1) scope.names (cloFrom X.env.cells scope.names [])) s3.heap.objs.size X.env)) _ { s3 with heap := pushCells (s3.heap.push { cls := .type "dict", data := .dict #[] }) scope.names }
  generalize hce : compEnvC scope (cellsFrom (s3.heap.objs.size + 1) scope.names (cloFrom X.env.cells scope.names [])) s3.heap.objs.size X.env = ce at I4 pg pt pe ⊢
  have cL : ce.locals = s3.heap.objs.size := by subst hce; rfl
  have nfp : ∀ b ∈ fp, (upd H2 D (.lst [])) b = none := fun b hb => (f3 b hb).1.1
  generalize hH3 : upd H2 D (.lst []) = H3 at I3 I4 pg pt pe w0 nfp f3
  generalize hs4 : ({ s3 with heap := pushCells (s3.heap.push { cls := .type "dict", data := .dict #[] }) scope.names } : Shared) = s4 at I4 ⊢
  have st4 : tn 0 s4.heap := T.keep _ _ _ st3 fun b _ o e => by rw [← hs4]; exact pushCells_keeps _ _ _ _ (Heap.get?_push_of_some _ e)
  -- the handled error stands through the block
  have P3 := I3.pin p (List.mem_append_left _ hpn)
  have pfp : p.1 ∉ fp := fun hb => (f3 p.1 hb).1.2.2.2.2.2 p (List.mem_append_left _ hpn) rfl
  have pst : p.1 ∉ frs X.stack := fun hm => (List.mem_cons.mp (I3.stkSub p.1 hm)).elim P3.2.2.1 P3.2.2.2.1
  have pin5 : ∀ {σ' : St} {H' : Hp} {s' : Shared}, Inv (X.blk s3 H3 scope ce fp) [] σ' H' s' → Inv (X.blk s3 H3 scope ce fp) [p] σ' H' s' := fun {σ' H' s'} I' =>
    I'.pins_of fun r hr => by
      have er : r = p := List.mem_singleton.mp hr
      subst er
      refine ⟨I'.base.keep r.1 r.2 P3.1 P3.2.1 pst pfp, I'.base.free r.1 r.2 P3.1 P3.2.1 pfp, ?_, pst, P3.2.2.2.2⟩
      show r.1 ≠ ce.locals
      rw [cL]
      exact Nat.ne_of_lt (Heap.lt_size P3.1)
  have stat : ∀ {H' : Hp}, (∀ b ∈ fp, H' b = none) → ∀ {σ' : St} {s' : Shared}, Inv (X.blk s3 H3 scope ce fp) [] σ' H' s' → ∀ b ∈ fp, FpOk ((X.blk s3 H3 scope ce fp).tr ([] ++ [p]) fun _ _ => False) [] H' b := fun {H'} hn {σ' s'} I' b hb =>
    ⟨hn b hb, (I'.ok.exf b hb).1, I'.ok.exfs b hb, .inl hb, fun x c e => (I'.ok.exf b hb).2 x c e, fun r hr => by
      have er : r = p := by simpa using hr
      subst er
      exact fun z => pfp (by rw [z]; exact hb)⟩
  have hotB : HotC ((X.blk s3 H3 scope ce fp).tr ([] ++ [p]) fun _ _ => False) := ⟨p, hp1, by simp⟩
  have loop : codeAny (model X.prog X.w) X.A (.compLoop (.ListComp elt [⟨tg, iter, ifs, 0⟩] scope pos) 0 (.ref it) (.ref D) ce) (compPost (model X.prog X.w) X.A X.xe none (EP X pins σ Q) (.ref D) s3.heap.objs.size) s4 := by
    refine compLoop_any (fun n s' => ∃ i H', Inv (X.blk s3 H3 scope ce fp) [] (wipe σ (own.map (·.2))) H' s' ∧ tn i s'.heap ∧ (∀ b ∈ fp, H' b = none) ∧ W i n H') ?_ m0 ⟨0, H3, I4, st4, nfp, w0⟩
    rintro n s5 ⟨i, H5, I5, st5, n5, w5⟩
    have I5p := (pin5 I5).toTry fun _ _ => False
    rcases turn i n H5 w5 with ⟨stop, qq⟩ | ⟨go, Nx, hNx, step⟩
    · have td := T.done ((X.blk s3 H3 scope ce fp).tr ([] ++ [p]) fun _ _ => False) rfl rfl rfl hotB i [] s5 _ H5 (fun _ _ => False) I5p (stat n5 I5) st5 stop
      refine thnF td fun r s6 ⟨hr, I6p⟩ => ?_
      subst hr
      have I6 : Inv (X.blk s3 H3 scope ce fp) [] (wipe σ (own.map (·.2))) H5 s6 := (I6p.ofTry (X := X.blk s3 H3 scope ce fp) (pins := [p]) I5.ok).fewer
      have I7 : Inv X pins σ H5 s6 := I3.call' (ch := fp) I6.os I6.base I6.hok I6.bare fun b hb => ⟨(f3 b hb).1.2.2.2.1, (f3 b hb).1.2.1, (f3 b hb).1.2.2.2.2.1, (f3 b hb).1.2.2.2.2.2⟩
      have nC : H5 s3.heap.objs.size = none := by
        have z : H5 ce.locals = none := I6.free
        rwa [cL] at z
      obtain ⟨m, hn, _⟩ := I6.loc
      have hn : s6.heap.Ns ce.locals m := hn
      rw [cL] at hn
      refine ⟨m, hn, fun h'' sb => ?_⟩
      obtain ⟨k0, k1, k2, k3, k4, k5⟩ := I3.fpOk (Nat.le_refl _) nC
      exact ⟨.ref D, H5, I7.turned (t' := s6.toks) (fun b o hb e => (sb.2 b hb).trans e) k0 k1 k3 k4 k5, rfl, qq⟩
    · have ti := T.item ((X.blk s3 H3 scope ce fp).tr ([] ++ [p]) fun _ _ => False) rfl rfl rfl hotB i [] s5 _ H5 (fun _ _ => False) I5p (stat n5 I5) st5 go
      refine thnF ti fun r s6 ⟨u, hr, h6⟩ => ?_
      subst hr
      refine thnF h6 fun _ s7 ⟨x, H7, I7p, r7, y7, st7, n7⟩ => ?_
      have I7 : Inv (X.blk s3 H3 scope ce fp) [] (wipe σ (own.map (·.2))) H7 s7 := (I7p.ofTry (X := X.blk s3 H3 scope ce fp) (pins := [p]) I5.ok).fewer
      have fp7 : ∀ b ∈ fp, FpOk (X.blk s3 H3 scope ce fp) [] H7 b := fun b hb =>
        ⟨n7 b hb, (I7.ok.exf b hb).1, I7.ok.exfs b hb, .inl hb, fun x c e => (I7.ok.exf b hb).2 x c e, fun r hr => nomatch hr⟩
      have I7' := I7.pinned fp7 (T.obj _ _ st7)
      refine thnF (pg.run _ s7 _ H7 x u _ I7' r7 (step x H7 y7)) fun _ s8 ⟨σ8, H8, I8, hw8, q8⟩ => ?_
      refine thnF (pt.run _ s8 σ8 H8 _ I8 q8) fun b s9 ⟨H9, I9, q9⟩ => ?_
      have fin : ∀ {s' : Shared} {H' : Hp}, Inv (X.blk s3 H3 scope ce fp) ([] ++ pinsAt fp s7.heap) σ8 H' s' → Nx H' → ∃ m, m < n ∧ ∃ i H', Inv (X.blk s3 H3 scope ce fp) [] (wipe σ (own.map (·.2))) H' s' ∧ tn i s'.heap ∧ (∀ b ∈ fp, H' b = none) ∧ W i m H' := fun {s' H'} I' nx => by
        obtain ⟨m', hm, w'⟩ := hNx H' nx
        have kept : ∀ b ∈ fp, ∀ o, s7.heap.get? b = some o → s'.heap.get? b = some o ∧ H' b = none := fun b hb o e =>
          have z := I'.pin (b, o) (List.mem_append_right _ (List.mem_append_right _ (mem_pinsAt hb e)))
          ⟨z.1, z.2.1⟩
        refine ⟨m', hm, i + 1, H', (I'.unpinned (pins := [])).weak (by rw [← hw8, wipe_length]) (fun j v e => ?_), T.keep _ _ _ st7 fun b hb o e => (kept b hb o e).1, fun b hb => ?_, w'⟩
        · rw [← hw8] at e
          exact (wipe_some e).1
        · obtain ⟨o, e, _⟩ := T.obj _ _ st7 b hb
          exact (kept b hb o e).2
      cases b with
      | false => exact fin I9 (by simpa using q9)
      | true =>
        have q9' := q9
        simp only [if_true] at q9' ⊢
        refine thnF (pe.run _ s9 σ8 H9 _ I9 q9') fun z s10 ⟨yv, H10, I10, r10, acc, hD10, hz10, nx⟩ => ?_
        exact app_ok (X := X.blk s3 H3 scope ce fp) I10 hD10 hz10 r10 fun s11 I11 => fin I11 nx
  exact codeAny_compStart_list loop (T.self X.A 0 _ _ _ st4 loop)
end

/-! ### try: body; except X as n: suite; except Y as m: suite; .. -/
/-- a clause: the slot of its name, its class, its suite's reading -/
abbrev Cl : Type := Nat × Value × (Addr → Value → Option Addr → TS)
/-- behind a suite its name is gone -/
def goneD (i : Nat) (D : Ends) : Ends := { nx := fun σ' H' => D.nx (σ'.set i none) H', rt := D.rt, bk := fun σ' H' => D.bk (σ'.set i none) H', ct := fun σ' H' => D.ct (σ'.set i none) H' }
def wNamed (K : PySem.W.Frag) (Wout : WX) (D : Ends) : List Cl → WX
  | [] => Wout
  | (i, c, ts) :: r => fun cls d σ H => ∃ b, PySem.W.exmOne K cls c = some b ∧ (b = true → ∀ a, H a = none → ts a cls d (goneD i D) (σ.set i (some (.ref a))) H) ∧ (b = false → wNamed K Wout D r cls d σ H)
inductive Clauses (X : Cx) : List ExceptHandler → List Cl → Prop
  | nil : Clauses X [] []
  | cons {i : Nat} {x n : Str} {c : Value} {ts : Addr → Value → Option Addr → TS} {b₀ : Stmt} {suite : List Stmt} {np pos' : Pos} {hds : List ExceptHandler} {l : List Cl} (hc : Names X x c) (hi : X.N[i]? = some n) (hln : X.env.kindOf n = some .local)
      (hsu : ∀ (a : Addr) (oe : Obj) (cls : Value) (d : Option Addr) (pn : List (Addr × Obj)), L2N.Zn cls d oe → (∃ vs, oe.data = .fields vs) → PSs (X.suite a ((a, oe) :: pn)) (b₀ :: suite) (ts a cls d)) (r : Clauses X hds l) :
      Clauses X (.ExceptHandler (some (.Name x np)) (some n) (b₀ :: suite) pos' :: hds) ((i, c, ts) :: l)
section
variable {X : Cx} {body : List Stmt} {h₀ : ExceptHandler} {hds : List ExceptHandler} {l : List Cl} {pos : Pos} {tb : WX → TS} {Wout : WX}
theorem ps_try_named (hs : X.stack = X.env :: X.outer) (hf : X.env.frame = some X.env.locals) (hN : X.N.Nodup) (tk : L2N.Takes X Wout)
    (hb : ∀ (W : WX) (pn : List (Addr × Obj)) (xe : Value → Shared → Prop), L2N.Takes (X.tr pn xe) W → PassesOwn (model X.prog X.w) X.A X.env xe → PSs (X.tr pn xe) body (tb W))
    (hh : Clauses X (h₀ :: hds) l) : PS X (.Try body (h₀ :: hds) [] [] pos) (fun D σ H => tb (wNamed X.K Wout D l) D σ H) := by
  refine ⟨fun pins s σ H D I h => ?_⟩
  have ok := I.ok
  have hfr : X.A.frames = some (X.env :: X.outer) := by rw [ok.frames, hs]
  refine wpAny_Try_except ?_
  let xeT : Value → Shared → Prop := fun e s₁ => wpAny (model X.prog X.w) X.A (noteFrame e X.env) (fun _ s₂ => wpAny (model X.prog X.w) X.A (setFlight e none) (fun _ s₃ =>
    wpAny (model X.prog X.w) X.A (handleBy e X.env (h₀ :: hds)) (SP X pins D) X.xe s₃) X.xe s₂) X.xe s₁
  refine wpAny_mono ((hb (wNamed X.K Wout D l) (X.pn ++ pins) xeT (fun u s' xx => ?_) PassesOwn.looking).run [] s σ H D (I.toTry _) h) (fun f s1 hsp => ?_) (fun e s1 he => he)
  · obtain ⟨a, B, sI, pins', σ', H', cls, d, rfl, J', nb, up, sky, na, os, ag, w⟩ := xx
    have J : Inv X pins σ' H' sI := J'.ofTry ok
    have sky' : Sky B (X.env :: X.outer) a (L2N.Zn cls d) X.env.locals s'.heap := by rw [← hs]; exact sky
    show wpAny (model X.prog X.w) X.A (noteFrame (.ref a) X.env) _ _ _
    refine L2N.Sky.land L2N.Zn.steady hfr hf sky' fun h3 fl3 up3 => ?_
    have J3 : Inv X pins σ' H' { s' with heap := h3 } := J.landed nb fl3.1 (up.trans up3) os ag
    obtain ⟨oe3, vs3, he3, hz3, hd3⟩ := fl3.there
    have nfr : a ∉ frs (X.env :: X.outer) := fun hm => by
      obtain ⟨_, o', e', hnf⟩ := fl3.2.2.1.mem hm
      rw [he3] at e'
      cases e'
      exact hnf _ hd3
    have nL : a ≠ X.env.locals := fun z => nfr (List.mem_filterMap.mpr ⟨X.env, List.mem_cons_self, by rw [hf, z]⟩)
    have nF : a ∉ X.fs := fun hm => by
      obtain ⟨e, he, q⟩ := List.mem_filterMap.mp hm
      exact nfr (List.mem_filterMap.mpr ⟨e, List.mem_cons_of_mem _ he, q⟩)
    have S3 := J3.suite he3 hd3 na nL nF
    have all : ∀ {hs' : List ExceptHandler} {ls : List Cl}, Clauses X hs' ls → wNamed X.K Wout D ls cls d σ' H' →
        wpAny (model X.prog X.w) X.A (handleBy (.ref a) X.env hs') (SP X pins D) X.xe { s' with heap := h3 } := by
      intro hs' ls hk
      induction hk with
      | nil =>
        intro w
        refine wpAny_handleBy_nil ?_
        obtain ⟨k1, k2, k3, oe, vs, T, oT, ts', he, hz, hd, h1, hr⟩ := id fl3
        unfold PySem.passOn
        refine wpAny_bind (wpAny_field he hd h1 ?_)
        have nT : ¬ ((Value.ref T == Value.none) = true) := by simp
        rw [if_neg nT]
        have fin : wpAny (model X.prog X.w) X.A (setFlight (.ref a) X.env.frame) (fun _ s4 => wpAny (model X.prog X.w) X.A (throw (.ref a) : Sem Flow) (SP X pins D) X.xe s4) X.xe { s' with heap := h3 } := by
          rw [hf]
          refine HandSPX.setFlight_upZ fl3 fun h4 hh4 up4 => wpAny_throw (tk _ _ ?_)
          exact ⟨a, B, sI, pins, σ', H', cls, d, rfl, J, nb, (up.trans up3).trans up4, .inr (.inr (by rw [hs]; exact hh4)), na, os, ag, w⟩
        first
          | exact wpAny_bind (wpAny_pure (wpAny_bind fin))
          | exact wpAny_bind fin
      | @cons i x n c ts b₀ suite np pos' hds2 l2 hc hi hln hsu r ih =>
        intro w
        obtain ⟨b, hb1, hyes, hno⟩ := w
        refine wpAny_handleBy_cons (codeAny_handlers_test ?_) (by intro q; cases q)
        have LT : PySem.W.Looks (model X.prog X.w) h3 (typeOf (.ref a)) cls := fun A Q E s k q => wpAny_typeOf_ref (k _ _ he3) (by rw [hz3.1]; exact q)
        have LM := PySem.W.exm_one (M := model X.prog X.w) (J3.kIn) LT hb1
        have test : ∀ {Q : Value → Shared → Prop} {E : Value → Shared → Prop}, Q c { s' with heap := h3 } → wpAny (model X.prog X.w) (X.A.mark (some (.ref a))) (eval (.Name x np) X.env) Q E { s' with heap := h3 } := fun {Q E} q => by
          obtain ⟨hg, hdbg, hm | ⟨hm, hv, hnn⟩⟩ := hc
          · exact ld_glob (X := X.suite a ((a, oe3) :: (X.pn ++ pins))) S3 hg hm q hdbg
          · exact ld_blt (X := X.suite a ((a, oe3) :: (X.pn ++ pins))) S3 hg hm hv q hnn hdbg
        refine test (LM.here ?_)
        cases b with
        | false =>
          show wpAny _ X.A (handleBy (.ref a) X.env hds2) _ _ _
          exact ih (hno rfl)
        | true =>
          refine codeAny_handlers_suite_as ?_
          refine HandSPX.lands_againZ fl3 fun h4 fl4 up4 => ?_
          have J4 : Inv X pins σ' H' { s' with heap := h4 } := J.landed nb fl4.1 ((up.trans up3).trans up4) os ag
          obtain ⟨oe4, vs4, he4, hz4, hd4⟩ := fl4.there
          have S4 := J4.suite he4 hd4 na nL nF
          refine store_ok (X := X.suite a ((a, oe4) :: (X.pn ++ pins))) (v := .ref a) S4 hN hi (.inl hln) rfl (fun s5 S5 => ?_) (.inr hln)
          refine wpAny_mono ((hsu a oe4 cls d (X.pn ++ pins) hz4 ⟨_, hd4⟩).run [] s5 _ H' _ S5 (hyes rfl a na)) (fun f s6 hsp => ?_) (fun _ _ z => False.elim z)
          have end_ : ∀ {σ6 : St} {H6 : Hp} {Q : Shared → Prop}, Inv (X.suite a ((a, oe4) :: (X.pn ++ pins))) [] σ6 H6 s6 → (∀ s7, Inv X pins (σ6.set i none) H6 s7 → Q s7) →
              wpAny (model X.prog X.w) X.A (do bindName X.env n .none; unbindBehindTheSuite X.env n pos') (fun _ s7 => Q s7) X.xe s6 := fun {σ6 H6 Q} S6 hq => gone_ok (S6.unsuite ok) hN hi hln hq
          cases f with
          | next =>
            obtain ⟨σ6, H6, S6, q6⟩ := hsp
            exact end_ S6 fun s7 J7 => ⟨_, _, J7, q6⟩
          | brk =>
            obtain ⟨σ6, H6, S6, q6⟩ := hsp
            exact end_ S6 fun s7 J7 => ⟨_, _, J7, q6⟩
          | cont =>
            obtain ⟨σ6, H6, S6, q6⟩ := hsp
            exact end_ S6 fun s7 J7 => ⟨_, _, J7, q6⟩
          | ret u =>
            obtain ⟨v6, σ6, H6, S6, r6, q6⟩ := hsp
            exact end_ S6 fun s7 J7 => ⟨_, _, _, J7, r6, q6⟩
    exact all hh w
  · cases f with
    | next =>
      obtain ⟨σ', H', J', q⟩ := hsp
      exact wpAny_execs_nil ⟨σ', H', J'.ofTry ok, q⟩
    | brk =>
      obtain ⟨σ', H', J', q⟩ := hsp
      exact ⟨σ', H', J'.ofTry ok, q⟩
    | cont =>
      obtain ⟨σ', H', J', q⟩ := hsp
      exact ⟨σ', H', J'.ofTry ok, q⟩
    | ret u =>
      obtain ⟨v, σ', H', J', r, q⟩ := hsp
      exact ⟨v, σ', H', J'.ofTry ok, r, q⟩
end
end L2
end
section
set_option Elab.async false
set_option linter.all false
set_option maxRecDepth 100000
set_option maxHeartbeats 1000000
/-! a method, an instance made, in the body of a try -/
namespace L2
open PySem PySem.Spec PyProof.Rows
section
variable {X : Cx} {CX : CXT} {k : Nat} {f C : Addr} {fd : FuncData} {ps : List Str} {sp : Sp} {E : St → XK} {x m : Str} {p pos apos : Pos} {e o : Expr} {es : List Expr} {ta : TE} {t : TA} {ds : List Value} {dvs : List V}
def tMethE (C : Addr) (m : Str) (sp : Sp) (E : St → XK) (ta : TE) (t : TA) : TE := fun σ H Q => ta σ H fun x H1 => ∃ a dx fs, x = .ref a ∧ H1 a = some (.ins C dx fs) ∧ fs.lookup m = none ∧ t σ H1 fun vs H2 => sp (.ref a :: vs) H2 Q (E σ)
theorem pe_methE {pl : Sem Bool} (he : PE X o ta) (c : Cls X.K C) (hm : Meth X.K C m f) (F : FnOk X.prog X.w X.K X.mg X.base CX k f fd ps sp) (hr : Room k X.A) (hb : Binds X.K fd ps []) (hx : ∀ σ, PassesAt CX X σ (E σ)) (ha : PA X (e :: es) t)
    (hst : starEach (e :: es) X.env = (false, eval e X.env) :: starEach es X.env := by rfl) (hpl : (backTo pos (starEach es X.env)).any (·.1) = false := by rfl)
    (ht : eval (.Call (.Attribute o m apos) (e :: es) [] pos) X.env = (do
      let ov ← eval o X.env
      standAt apos.atName
      let (f, first) ← holding [ov] (getMethod ov m pl)
      callWith pos f first (backTo pos (starEach (e :: es) X.env)) (backToKw pos (keywordEach [] X.env))) := by rfl) :
    PE X (.Call (.Attribute o m apos) (e :: es) [] pos) (tMethE C m sp E ta t) := by
  refine ⟨fun pins s σ H Q I h => ?_⟩
  refine PySem.W.methodCall_KW (pl := pl) (thn (he.run pins s σ H _ I h) fun u s1 ⟨x, H1, I1, rx, a, dx, fs, ex, ea, l, q⟩ => ?_) ht
  subst ex
  obtain rfl : u = Value.ref a := rx
  refine getmeth_ok I1 ea c hm l ?_
  refine PySem.W.callWith_K (first := [.ref a]) (h₀ := X.base) I.ok.mod.kin hm.kp (thn (ha.run pos pins s1 σ H1 _ I1 q) fun us s2 ⟨vs, H2, I2, r, q2⟩ => ⟨I2.kIn, ?_⟩) hst hpl
  exact run_fnS (us := .ref a :: us) (vs := .ref a :: vs) F hr hb (hx σ) I2 (.cons rfl r) q2
theorem run_makeS {pins : List (Addr × Obj)} {σ : St} {H : Hp} {s : Shared} {Q : VK} {us : List Value} {vs : List V} (M : Mk X.K C f) (F : FnOk X.prog X.w X.K X.mg X.base CX k f fd ps sp) (hr : Room (k + 1) X.A) (hb : Binds X.K fd ps ds) (hd : Vals dvs ds)
    (hx : PassesAt CX X σ (E σ)) (I : Inv X pins σ H s) (r : Vals vs us)
    (h : ∀ x dx, H x = none → H dx = none → dx ≠ x → sp (.ref x :: (vs ++ dvs)) (upd (upd H dx (.own x)) x (.ins C dx [])) (fun v H2 => v = .non ∧ Q (.ref x) H2) (E σ)) :
    wpAny (model X.prog X.w) X.A (call (.ref C) us) (EP X pins σ Q) X.xe s := by
  have hq := h (s.heap.objs.size + 1) s.heap.objs.size (I.hok.fresh (Nat.le_succ _)) (I.hok.fresh (Nat.le_refl _)) (Nat.ne_of_lt (Nat.lt_succ_self _))
  have I2 := Inv.made (C := C) I
  have r2 : Vals (V.ref (s.heap.objs.size + 1) :: (vs ++ dvs)) (Value.ref (s.heap.objs.size + 1) :: (us ++ ds)) := .cons rfl (r.append hd)
  have hl : (Value.ref (s.heap.objs.size + 1) :: us ++ ds).length = ps.length := by
    have e := r2.length
    rw [F.len _ _ _ _ hq] at e
    exact e.symm
  refine wpAny_call (make_map (f := f) I.kIn M.makes M.init (beq_iff_eq.mp M.fn) (codeAny_mono (F.run _ X.stack _ _ ⟨Value.ref (s.heap.objs.size + 1) :: us, []⟩ (Value.ref (s.heap.objs.size + 1) :: (us ++ ds)) _ _ (E σ) (hr.make C us [])
    (I2.env0.make C us []) (hb _ (Value.ref (s.heap.objs.size + 1) :: us) I2.kIn hl) r2 hq) fun r s' hq' => ?_))
  cases r with
  | error e => exact hx pins _ _ e s' I2 hq'
  | ok fl =>
    cases fl with
    | ret u =>
      obtain ⟨v, H', I3, rv, ev, q3⟩ := I2.after hq'
      subst ev
      exact ⟨rv, ⟨V.ref (s.heap.objs.size + 1), H', I3, rfl, q3⟩⟩
    | next => exact False.elim hq'
    | brk => exact False.elim hq'
    | cont => exact False.elim hq'
def tMakeE (C : Addr) (sp : Sp) (dvs : List V) (E : St → XK) (t : TA) : TE := fun σ H Q => t σ H fun vs H1 => ∀ x dx, H1 x = none → H1 dx = none → dx ≠ x → sp (.ref x :: (vs ++ dvs)) (upd (upd H1 dx (.own x)) x (.ins C dx [])) (fun v H2 => v = .non ∧ Q (.ref x) H2) (E σ)
theorem pe_makeE (M : Mk X.K C f) (F : FnOk X.prog X.w X.K X.mg X.base CX k f fd ps sp) (hr : Room (k + 1) X.A) (hg : Gl X x) (hm : X.mg x = some (.ref C)) (hb : Binds X.K fd ps ds) (hd : Vals dvs ds) (hx : ∀ σ, PassesAt CX X σ (E σ))
    (ha : PA X (e :: es) t) (hdb : (x == ("__debug__" : Str)) = false := by decide) (he : starEach (e :: es) X.env = (false, eval e X.env) :: starEach es X.env := by rfl) (hpl : (backTo pos (starEach es X.env)).any (·.1) = false := by rfl) :
    PE X (.Call (.Name x p) (e :: es) [] pos) (tMakeE C sp dvs E t) := by
  refine ⟨fun pins s σ H Q I h => ?_⟩
  refine wpAny_Call_Name_kw (ld_glob I hg hm ?_ hdb)
  refine PySem.W.callWith_K (h₀ := X.base) I.ok.mod.kin M.kp (thn (ha.run pos pins s σ H _ I h) fun us s1 ⟨vs, H1, I1, r, q⟩ => ⟨I1.kIn, ?_⟩) he hpl
  exact run_makeS M F hr hb hd (hx σ) I1 r q
end
end L2
end
section
set_option Elab.async false
set_option linter.all false
set_option maxRecDepth 100000
set_option maxHeartbeats 4000000
/-! What the head tells: as HeadHook4, the statics too, and the __init__ of own errors. -/
namespace Hy
open PySem PySem.Spec PyProof.Rows L2 He
/-- a function with one captured cell -/
abbrev FnE : Type := Option (Str × Str × Arguments × FuncBody × Scope × Addr × List Str × Addr)
def fnE (K : PySem.W.Frag) (p : Defn) : FnE := match K.lookup (fAd K p) with
  | some ⟨_, _, .func fd, _⟩ => some (fd.name, fd.qualname, fd.params, fd.body, fd.scope, fd.globals, fd.closure.map (·.1), fd.builtins)
  | _ => none
/-- an own error's __init__: the class, the field, the text -/
structure ErD where
  cls : Str
  f : Str
  qual : Str
  params : Arguments
  body : List Stmt
  scope : Scope
def ErD.val (d : ErD) : FnE := some ("__init__", d.qual, d.params, .stmts d.body, d.scope, mainGlobals, ["__class__"], builtinsNs)
/-- .. its cell, its code, defaults -/
def ErD.ok (P : Program) (K : PySem.W.Frag) (d : ErD) : Bool := match K.lookup (fAd K (d.cls, some "__init__")) with
  | some ⟨_, _, .func fd, _⟩ => (match fd.closure, fd.defaults, fd.kwdefaults, fd.code with
    | [(_, cc)], .none, .none, .ref cda => PySem.W.codeIn K fd.code d.qual && ((match K.lookup cc with
        | some ⟨_, _, .cell (some (.ref c)), _⟩ => decide (c = ga K d.cls)
        | _ => false) && (match K.lookup cda with
        | some ⟨_, _, .fields vs, _⟩ => (match vs[2]? with
          | some (Value.str file _) => ((P.main.file : Str) == file)
          | _ => false)
        | _ => false))
    | _, _, _, _ => false)
  | _ => false
def asY (g : Addr → Option Obj) (n : Nat) : List Addr := cStatics :: asD g n
def kY (g : Addr → Option Obj) (n : Nat) : PySem.W.Frag := frT g (asY g n)
structure SaysY (P : Program) (fa : List Fa) (fn : List DefD) (ts : List Tab) (tf : List Defn) (er : List ErD) (ex : PySem.W.Frag → Bool) (w : World) (h : Heap) (K : PySem.W.Frag) : Prop where
  x : SaysX fa fn ts tf ex w h K
  e : er.map (fun d => fnE K (d.cls, some "__init__")) = er.map ErD.val
  ok : ∀ d ∈ er, d.ok P K = true
abbrev AlY : Type := AlX × (List FnE × Bool)
def obsY (P : Program) (n : Nat) (fa : List Fa) (fn : List DefD) (ts : List Tab) (tf : List Defn) (er : List ErD) (ex : PySem.W.Frag → Bool) (g : Addr → Option Obj) : AlY :=
  ((obsT fa fn ts (kY g n), ex (kY g n) && tabsB g tf (kY g n)), (er.map fun d => fnE (kY g n) (d.cls, some "__init__")), er.all fun d => d.ok P (kY g n))
def valY (fn : List DefD) (ts : List Tab) (er : List ErD) (w : World) : AlY := (valX fn ts w, er.map ErD.val, true)
theorem saysY_of {P : Program} {n : Nat} {fa : List Fa} {fn : List DefD} {ts : List Tab} {tf : List Defn} {er : List ErD} {ex : PySem.W.Frag → Bool} {w : World} {h : Heap} (e : obsY P n fa fn ts tf er ex h.get? = valY fn ts er w) :
    SaysY P fa fn ts tf er ex w h (kY h.get? n) := by
  have e0 : (obsT fa fn ts (kY h.get? n), ex (kY h.get? n) && tabsB h.get? tf (kY h.get? n)) = valX fn ts w := congrArg (fun z : AlY => z.1) e
  have e1 : obsT fa fn ts (kY h.get? n) = valT fn ts w := congrArg (fun z : AlX => z.1) e0
  have e2 : (ex (kY h.get? n) && tabsB h.get? tf (kY h.get? n)) = true := congrArg (fun z : AlX => z.2) e0
  have e3 : er.map (fun d => fnE (kY h.get? n) (d.cls, some "__init__")) = er.map ErD.val := congrArg (fun z : AlY => z.2.1) e
  have e4 : (er.all fun d => d.ok P (kY h.get? n)) = true := congrArg (fun z : AlY => z.2.2) e
  obtain ⟨h1, h2⟩ := ba e2
  have key : ∀ p ∈ tf, PySem.W.codeHdIn (kY h.get? n) (cT (kY h.get? n) p).1 (cT (kY h.get? n) p).2 = true ∧ ∃ o, h.get? (cT (kY h.get? n) p).2 = some o ∧ emptyTab o = true := fun p hp => by
    obtain ⟨h3, h4⟩ := ba (List.all_eq_true.mp h2 p hp)
    refine ⟨h3, ?_⟩
    cases q : h.get? (cT (kY h.get? n) p).2 with
    | none =>
      rw [q] at h4
      cases h4
    | some o =>
      rw [q] at h4
      exact ⟨o, rfl, h4⟩
  exact ⟨⟨e1, h1, fun p hp => (key p hp).1, fun p hp => by
    obtain ⟨_, o, q, z⟩ := key p hp
    exact frT_none q z, fun p hp => by
    obtain ⟨_, o, q, z⟩ := key p hp
    rw [q, emptyTab_eq z]⟩, e3, List.all_eq_true.mp e4⟩
def hookY (P : Program) (n : Nat) (fa : List Fa) (fn : List DefD) (ts : List Tab) (tf : List Defn) (er : List ErD) (ex : PySem.W.Frag → Bool) : PySem.W.Hook where
  α := AlY
  obs := fun s => obsY P n fa fn ts tf er ex s.heap.get?
  val := fun w => valY fn ts er w
  says := fun w h => ∃ K : PySem.W.Frag, K.In h ∧ SaysY P fa fn ts tf er ex w h K
  of := fun _ _ e => ⟨_, frT_in, saysY_of e⟩
  keeps := fun _ _ _ ⟨K, hK, c⟩ k => ⟨K, PySem.W.Frag.In.keeps hK k, ⟨⟨c.x.t, c.x.more, c.x.hd, c.x.out, fun p hp => k _ _ (c.x.empty p hp)⟩, c.e, c.ok⟩⟩
theorem obsY_eq {P : Program} {n : Nat} {fa : List Fa} {fn : List DefD} {ts : List Tab} {tf : List Defn} {er : List ErD} {ex : PySem.W.Frag → Bool} {g : Addr → Option Obj} {s : Shared} (h : ∀ a, g a = s.heap.get? a) :
    obsY P n fa fn ts tf er ex g = (hookY P n fa fn ts tf er ex).obs s := by
  have e : g = s.heap.get? := funext h
  rw [e] <;> rfl
/-! ### what it says, read -/
section
variable {P : Program} {w : World} {K : PySem.W.Frag} {mg : Str → Option Value}
theorem fun_of {x q : Str} {st : Stmt} {f : Addr} {fd : FuncData} (F : FunD K x q (defArgs st) (defBody st) (defScope st) [] [] f fd) : Fun K x q st f fd := by
  obtain ⟨oc, od, dV, kV, doc, pm, an, cdv, ct, osl, rfl, lk, hcd, hd, _⟩ := F.ex
  rcases hd with ⟨_, rfl⟩ | ⟨h, _⟩
  · exact ⟨⟨oc, od, kV, doc, pm, an, cdv, ct, osl, rfl, lk, hcd⟩, F.kp⟩
  · exact absurd rfl h
/-- an own error, whole -/
theorem efacts {d : ErD} {er : List ErD} (hd : d ∈ er) (e : er.map (fun d => fnE K (d.cls, some "__init__")) = er.map ErD.val) (ok : ∀ d ∈ er, d.ok P K = true) :
    ∃ (fI cc cda : Addr) (oc : Value) (od : Option Addr) (doc pm : Value) (an : Option Addr) (ct : Value) (osl : Array (Option Value)), fI = fAd K (d.cls, some "__init__") ∧
      K.lookup fI = some ⟨oc, od, .func (PySem.W.ksFn "__init__" d.qual d.params d.body d.scope .none .none doc pm an (.ref cda) ct cc), osl⟩ ∧ PySem.W.codeIn K (.ref cda) d.qual = true ∧
      (∃ cl cld csl, K.lookup cc = some ⟨cl, cld, .cell (some (.ref (ga K d.cls))), csl⟩) ∧ ∃ ccl cdd vs ccs file tf, K.lookup cda = some ⟨ccl, cdd, .fields vs, ccs⟩ ∧ vs[2]? = some (.str file tf) ∧ ((P.main.file : Str) == file) = true := by
  obtain ⟨i, hi, ei⟩ := List.mem_iff_getElem.mp hd
  have e2 : (er.map (fun d => fnE K (d.cls, some "__init__")))[i]? = (er.map ErD.val)[i]? := by rw [e]
  rw [List.getElem?_map, List.getElem?_map, List.getElem?_eq_getElem hi, ei] at e2
  have e3 : fnE K (d.cls, some "__init__") = d.val := Option.some.inj e2
  have c := ok d hd
  unfold ErD.ok at c
  unfold fnE at e3
  cases q : K.lookup (fAd K (d.cls, some "__init__")) with
  | none =>
    rw [q] at c
    cases c
  | some o =>
    obtain ⟨oc, od, dt, osl⟩ := o
    rw [q] at c e3
    cases dt with
    | func fd =>
      obtain ⟨n1, n2, n3, n4, n5, n6, n7, n8, n9, n10, n11, n12, n13, n14, n15⟩ := fd
      have e4 : (some (n1, n2, n3, n4, n5, n6, n7.map (·.1), n15) : FnE) = (some (("__init__" : Str), d.qual, d.params, FuncBody.stmts d.body, d.scope, mainGlobals, [("__class__" : Str)], builtinsNs) : FnE) := e3
      simp only [Option.some.injEq, Prod.mk.injEq] at e4
      obtain ⟨h1, h2, h3, h4, h5, h6, h7, h8⟩ := e4
      subst h1 h2 h3 h4 h5 h6 h8
      dsimp only at c
      split at c
      · rename_i y cc cda
        simp only [List.map_cons, List.map_nil, List.cons.injEq, and_true] at h7
        subst h7
        obtain ⟨c1, c⟩ := ba c
        obtain ⟨c2, c3⟩ := ba c
        refine ⟨_, cc, cda, oc, od, n10, n11, n12, n14, osl, rfl, q, c1, ?_, ?_⟩
        · split at c2
          · rename_i cl cld c0 csl hc
            have e5 := of_decide_eq_true c2
            subst e5
            exact ⟨_, _, _, hc⟩
          · cases c2
        · split at c3
          · rename_i ccl cdd vs ccs hc
            split at c3
            · rename_i file tf hv
              exact ⟨_, _, _, _, _, _, hc, hv, c3⟩
            · cases c3
          · cases c3
      · cases c
    | _ => cases c
end
/-! ### the class of an own error -/
def clsB (K : PySem.W.Frag) (C : Addr) : Bool := match K.lookup C with
  | some ⟨.type t, _, .cls cd, sl⟩ => decide (t = "type") && (match cd.mro, sl.toList with
    | .ref C' :: bm, [_, _, _, _, some (.builtin n), _] => decide (C' = C) && (decide (n = "ValueError.__new__") && (!cd.hasDel && (cd.hasDict && PySem.HandSPX.refsVE bm)))
    | _, _ => false)
  | _ => false
theorem clsB_ok {K : PySem.W.Frag} {C : Addr} (h : clsB K C = true) : ∃ nm q N bs bm sn sub ab col dd k0 k1 k2 k3 k5, K.lookup C = some (excClassObj nm q C N bs bm true sn sub ab col dd k0 k1 k2 k3 k5 "ValueError.__new__") ∧ PySem.HandSPX.refsVE bm = true := by
  unfold clsB at h
  split at h
  · rename_i t dd cd sl ho
    obtain ⟨h1, h⟩ := ba h
    split at h
    · rename_i C' bm k0 k1 k2 k3 n k5 hm hs
      obtain ⟨h2, h⟩ := ba h
      obtain ⟨h3, h⟩ := ba h
      obtain ⟨h4, h⟩ := ba h
      obtain ⟨h5, h6⟩ := ba h
      obtain ⟨nm, bs, mro, ns, qn, hd, sn, sub, ab, col, del⟩ := cd
      have e1 := of_decide_eq_true h1
      have e2 := of_decide_eq_true h2
      have e3 := of_decide_eq_true h3
      simp only [Bool.not_eq_true'] at h4
      simp only at hm h5
      subst e1 e2 e3 hm h4 h5
      have es : sl = #[k0, k1, k2, k3, some (.builtin "ValueError.__new__"), k5] := by
        have := congrArg List.toArray hs
        simpa using this
      subst es
      exact ⟨nm, qn, ns, bs, bm, sn, sub, ab, col, dd, k0, k1, k2, k3, k5, ho, h6⟩
    · cases h
  · cases h
end Hy
end
section
set_option Elab.async false
set_option linter.all false
set_option maxRecDepth 100000
set_option maxHeartbeats 4000000
/-! An own error's facts as one Bool. -/
namespace Hy
open PySem PySem.Spec PyProof.Rows L2 He PySem.Nxc
/-- all that the class must say -/
def errB (K : PySem.W.Frag) (x f : Str) : Bool :=
  PySem.W.keepIn K (.ref (ga K x)) && (decide (PySem.W.subIn K (.ref (ga K x)) (.type "BaseException") = some true) && (decide (PySem.W.typeIn K (.ref (ga K x)) = some (.type "type")) &&
  (eqO (PySem.W.findIn K (.ref (ga K x)) "__getattribute__") (some (some (.builtin "BaseException.__getattribute__"))) && (eqO (PySem.W.findIn K (.ref (ga K x)) "__getattr__") (some none) && (eqO (PySem.W.findIn K (.ref (ga K x)) f) (some none) &&
  (PySem.W.hasDictIn K (ga K x) && (clsB K (ga K x) && (eqO (PySem.W.findIn K (.ref (ga K x)) "__setattr__") (some (some (.builtin "object.__setattr__"))) &&
  (eqO (PySem.W.findIn K (.ref (ga K x)) "__init__") (some (some (.ref (fAd K (x, some "__init__"))))) && (decide (PySem.W.typeIn K (.ref (fAd K (x, some "__init__"))) = some (.type "function")) &&
  (eqO (PySem.W.ks_superIn K (ga K x) (ga K x) "__init__") (some (some (.builtin viId))) && (decide (PySem.W.subIn K (.ref (ga K x)) (.type "ValueError") = some true) &&
  (decide (PySem.W.mroIn K (ga K x) (.ref (ga K x)) = some true) && eqO (PySem.W.nsIn K cStatics "thirdparty.any") (some none))))))))))))))
theorem errX_of {P : Program} {w : World} {K : PySem.W.Frag} {mg : Str → Option Value} {d : ErD} {er : List ErD} {msg : PySem.Expr} {a0 a1 a2 a3 a4 b1 b2 b3 b4 p1 p2 : Pos} {okv : V → Prop} (g : mg d.cls = some (.ref (ga K d.cls))) (nsu : mg "super" = none) (top : (P.main.scope.names.lookup ("super" : Str)).isSome = false)
    (h : errB K d.cls d.f = true) (hd : d ∈ er) (e : er.map (fun d => fnE K (d.cls, some "__init__")) = er.map ErD.val) (ok : ∀ d ∈ er, d.ok P K = true)
    (hp : d.params = nArgs d.f p1 p2) (hb : d.body = nBody d.f msg a0 a1 a2 a3 a4 b1 b2 b3 b4) (hs : d.scope = nScope d.f) (hc : CallRead msg a0 a1 a2 a3) (FO : FieldOk d.f msg) (hm : ∀ v v', RelV v v' → okv v → MsgOk P w d.f msg v') :
    ErrX P w K mg d.cls d.f (ga K d.cls) okv := by
  obtain ⟨h1, h⟩ := ba h
  obtain ⟨h2, h⟩ := ba h
  obtain ⟨h3, h⟩ := ba h
  obtain ⟨h4, h⟩ := ba h
  obtain ⟨h5, h⟩ := ba h
  obtain ⟨h6, h⟩ := ba h
  obtain ⟨h7, h⟩ := ba h
  obtain ⟨h8, h⟩ := ba h
  obtain ⟨h9, h⟩ := ba h
  obtain ⟨h10, h⟩ := ba h
  obtain ⟨h11, h⟩ := ba h
  obtain ⟨h12, h⟩ := ba h
  obtain ⟨h13, h⟩ := ba h
  obtain ⟨h14, h15⟩ := ba h
  obtain ⟨fI, cc, cda, oc, od, doc, pm, an, ct, osl, rfl, lk, cd, cell, code⟩ := efacts hd e ok
  rw [hp, hb, hs] at lk
  exact ⟨g, h1, of_decide_eq_true h2, of_decide_eq_true h3, eqO_ok h4, eqO_ok h5, eqO_ok h6, h7, nsu, top, _, cc, cda, msg,
    ⟨clsB_ok h8, eqO_ok h9, eqO_ok h6, eqO_ok h10, of_decide_eq_true h11, eqO_ok h12, of_decide_eq_true h13, of_decide_eq_true h14, eqO_ok h15, cell, code, oc, od, d.qual, doc, pm, an, ct, osl, p1, p2, a0, a1, a2, a3, a4, b1, b2, b3, b4, lk, cd, hc⟩, FO, hm⟩
def askB (K : PySem.W.Frag) (D : Addr) : Bool :=
  eqO (PySem.W.findIn K (.ref D) "__getattribute__") (some (some (.builtin "BaseException.__getattribute__"))) && (eqO (PySem.W.findIn K (.ref D) "__getattr__") (some none) && (decide (PySem.W.subIn K (.ref D) (.type "BaseException") = some true) &&
  ((PySem.W.clsIn K D).isSome && (eqO (PySem.W.findIn K (.ref D) "__class__") (some (some (.builtin "object.__class__"))) && (eqO (PySem.W.specialIn K (.builtin "object.__class__") "__get__") (some (some (.builtin "getset_descriptor.__get__"))) &&
  (decide (PySem.W.takesIn K (.builtin "object.__class__") = some true) && decide (PySem.W.mroIn K D (.type "object") = some true)))))))
theorem askB_ok {K : PySem.W.Frag} {D : Addr} (h : askB K D = true) : AskC K D := by
  obtain ⟨h1, h⟩ := ba h
  obtain ⟨h2, h⟩ := ba h
  obtain ⟨h3, h⟩ := ba h
  obtain ⟨h4, h⟩ := ba h
  obtain ⟨h5, h⟩ := ba h
  obtain ⟨h6, h⟩ := ba h
  obtain ⟨h7, h8⟩ := ba h
  exact ⟨eqO_ok h1, eqO_ok h2, of_decide_eq_true h3, h4, eqO_ok h5, eqO_ok h6, of_decide_eq_true h7, of_decide_eq_true h8⟩
end Hy
namespace K71
open PySem PySem.Spec PyProof.Rows L2 He PySem.Nxc Hy
/-- the class names in the law's order -/
def errNames : List Str := ["BadDeed", "BadLetters", "BadName", "BadNumber", "BadRow", "BadSort", "BadState", "BadText", "BadWord", "Free", "Future", "NoElement", "NoMember", "NoName", "NoneThere", "NothingThere", "OtherLetters", "Past", "Refused", "SameName", "TooLarge", "Untrue"]
def errC (K : PySem.W.Frag) (i : Nat) : Addr := ga K (errNames.getD i "")
def ofErrB (K : PySem.W.Frag) (j : Nat) : Bool := decide (j < 22) && (askB K (errC K j) && (((List.range 22).all fun i => decide (PySem.W.kitOne K (.ref (errC K j)) (.ref (errC K i)) = some (decide (i = j)))) &&
  (decide (PySem.W.kitOne K (.ref (errC K j)) (.ref (ga K "NocountersError")) = some true) && decide (PySem.W.kitOne K (.ref (errC K j)) (.type "ValueError") = some true))))
theorem len_app (a b : Str) : (a ++ b).length = a.length + b.length := by
  show (a.cps ++ b.cps).size = _
  rw [Array.size_append] <;> rfl
/-- the text of TooLarge, for 201 -/
theorem msg_many {P : Program} {w : World} {z1 z2 : Str} {j1 j2 : Nat} {q0 q1 q2 q3 q4 : Pos} {v : V} {u : Value} (r : RelV v u) (h : v = .int 201) (l1 : z1.length ≤ 100) (l2 : z2.length ≤ 100) :
    MsgOk P w "many" (.JoinedStr [.Constant (.str z1) j1 q1, .FormattedValue (.Name "many" q2) (-1) none q3, .Constant (.str z2) j2 q4] q0) u := by
  intro A env E s x Q hsc hns q
  subst h
  obtain ⟨t, rfl⟩ := r
  have hk : env.kindOf "many" = some .local := by
    unfold PySem.Env.kindOf
    rw [hsc] <;> rfl
  have z : ∀ {n : Nat}, n ≤ 1000 → n ≤ sizeLine := fun {n} h => by rw [sizeLine_eq]; omega
  have e201 : (toString (201 : Int) : Str).length ≤ 100 := by decide +kernel
  refine wpAny_JoinedStr ?_
  show Joins _ _ _ [eval (.Constant (.str z1) j1 q1) env, eval (.FormattedValue (.Name "many" q2) (-1) none q3) env, eval (.Constant (.str z2) j2 q4) env] _ _ _
  refine PySem.Calls.Constant_str ⟨_, _, rfl, z (by show (Str.empty ++ z1).length ≤ _; rw [len_app]; show 0 + z1.length ≤ _; omega), ?_⟩
  refine wpAny_FormattedValue_plain (wpAny_Name (wpAny_loadName_local (m := fun y => if y = "many" then some (.int 201 t) else if y = "self" then some (.ref x) else none) (v := .int 201 t) (by rw [hsc]; rfl) hk hns (by rw [if_pos rfl]) ?_) (by decide))
  refine wpAny_formatField_int (by decide +kernel) ⟨_, _, rfl, z (by rw [len_app, len_app]; show 0 + z1.length + _ ≤ _; omega), ?_⟩
  refine PySem.Calls.Constant_str ⟨_, _, rfl, z (by rw [len_app, len_app, len_app]; show 0 + z1.length + _ + z2.length ≤ _; omega), ?_⟩
  exact ⟨z (by rw [len_app, len_app, len_app]; show 0 + z1.length + _ + z2.length ≤ _; omega), q _ _ _⟩
end K71
end
section
set_option Elab.async false
set_option linter.all false
set_option maxRecDepth 100000
set_option maxHeartbeats 0
/-! The head of the law: data, the run of the top. -/
namespace K71
open PySem PySem.Spec PyProof.Rows L2 He PySem.Nxc Hy
def d_walk : He.DefD := ⟨("walk", none), "walk", "walk", defArgs s_walk, defBody s_walk, defScope s_walk, [], []⟩
def d_reached : He.DefD := ⟨("reached", none), "reached", "reached", defArgs s_reached, defBody s_reached, defScope s_reached, [], []⟩
def d_first_words : He.DefD := ⟨("first_words", none), "first_words", "first_words", defArgs s_first_words, defBody s_first_words, defScope s_first_words, [], []⟩
def d_met : He.DefD := ⟨("met", none), "met", "met", defArgs s_met, defBody s_met, defScope s_met, [], []⟩
def d_rank_items : He.DefD := ⟨("rank_items", none), "rank_items", "rank_items", defArgs s_rank_items, defBody s_rank_items, defScope s_rank_items, [], []⟩
def d_since_items : He.DefD := ⟨("since_items", none), "since_items", "since_items", defArgs s_since_items, defBody s_since_items, defScope s_since_items, [], []⟩
def d_once_items : He.DefD := ⟨("once_items", none), "once_items", "once_items", defArgs s_once_items, defBody s_once_items, defScope s_once_items, [], []⟩
def d_layer_above : He.DefD := ⟨("layer_above", none), "layer_above", "layer_above", defArgs s_layer_above, defBody s_layer_above, defScope s_layer_above, [], []⟩
def d_last_letters : He.DefD := ⟨("last_letters", none), "last_letters", "last_letters", defArgs s_last_letters, defBody s_last_letters, defScope s_last_letters, [], []⟩
def d_longer_pieces : He.DefD := ⟨("longer_pieces", none), "longer_pieces", "longer_pieces", defArgs s_longer_pieces, defBody s_longer_pieces, defScope s_longer_pieces, [], []⟩
def d_flat_layer : He.DefD := ⟨("flat_layer", none), "flat_layer", "flat_layer", defArgs s_flat_layer, defBody s_flat_layer, defScope s_flat_layer, [], []⟩
def d_kind_layers : He.DefD := ⟨("kind_layers", none), "kind_layers", "kind_layers", defArgs s_kind_layers, defBody s_kind_layers, defScope s_kind_layers, [], []⟩
def d_check_letters : He.DefD := ⟨("check_letters", none), "check_letters", "check_letters", defArgs s_check_letters, defBody s_check_letters, defScope s_check_letters, [], []⟩
def d_is_word : He.DefD := ⟨("is_word", none), "is_word", "is_word", defArgs s_is_word, defBody s_is_word, defScope s_is_word, [], []⟩
def d_check_sight : He.DefD := ⟨("check_sight", none), "check_sight", "check_sight", defArgs s_check_sight, defBody s_check_sight, defScope s_check_sight, [], []⟩
def d_law_open : He.DefD := ⟨("_law_open", none), "_law_open", "_law_open", defArgs s_law_open, defBody s_law_open, defScope s_law_open, [], []⟩
def d_law_mixed : He.DefD := ⟨("_law_mixed", none), "_law_mixed", "_law_mixed", defArgs s_law_mixed, defBody s_law_mixed, defScope s_law_mixed, [], []⟩
def d_law_draw : He.DefD := ⟨("_law_draw", none), "_law_draw", "_law_draw", defArgs s_law_draw, defBody s_law_draw, defScope s_law_draw, [], []⟩
def d_law_fault : He.DefD := ⟨("_law_fault", none), "_law_fault", "_law_fault", defArgs s_law_fault, defBody s_law_fault, defScope s_law_fault, [], []⟩
def d_law_plain : He.DefD := ⟨("_law_plain", none), "_law_plain", "_law_plain", defArgs s_law_plain, defBody s_law_plain, defScope s_law_plain, [], []⟩
def d_law_same : He.DefD := ⟨("_law_same", none), "_law_same", "_law_same", defArgs s_law_same, defBody s_law_same, defScope s_law_same, [], []⟩
def d_law_sign : He.DefD := ⟨("_law_sign", none), "_law_sign", "_law_sign", defArgs s_law_sign, defBody s_law_sign, defScope s_law_sign, [], []⟩
def d_law_word : He.DefD := ⟨("_law_word", none), "_law_word", "_law_word", defArgs s_law_word, defBody s_law_word, defScope s_law_word, [], []⟩
def d_law_pieces : He.DefD := ⟨("_law_pieces", none), "_law_pieces", "_law_pieces", defArgs s_law_pieces, defBody s_law_pieces, defScope s_law_pieces, [], []⟩
def d_law_items : He.DefD := ⟨("_law_items", none), "_law_items", "_law_items", defArgs s_law_items, defBody s_law_items, defScope s_law_items, [], []⟩
def d_law_number : He.DefD := ⟨("_law_number", none), "_law_number", "_law_number", defArgs s_law_number, defBody s_law_number, defScope s_law_number, [], []⟩
def d_law_kind : He.DefD := ⟨("_law_kind", none), "_law_kind", "_law_kind", defArgs s_law_kind, defBody s_law_kind, defScope s_law_kind, [], []⟩
def d_law_table : He.DefD := ⟨("_law_table", none), "_law_table", "_law_table", defArgs s_law_table, defBody s_law_table, defScope s_law_table, [], []⟩
def d_law_chain : He.DefD := ⟨("_law_chain", none), "_law_chain", "_law_chain", defArgs s_law_chain, defBody s_law_chain, defScope s_law_chain, [], []⟩
def d_law_levels : He.DefD := ⟨("_law_levels", none), "_law_levels", "_law_levels", defArgs s_law_levels, defBody s_law_levels, defScope s_law_levels, [], []⟩
def d_law_walk : He.DefD := ⟨("_law_walk", none), "_law_walk", "_law_walk", defArgs s_law_walk, defBody s_law_walk, defScope s_law_walk, [], []⟩
def d_law_sight : He.DefD := ⟨("_law_sight", none), "_law_sight", "_law_sight", defArgs s_law_sight, defBody s_law_sight, defScope s_law_sight, [], []⟩
def d_law_refused : He.DefD := ⟨("_law_refused", none), "_law_refused", "_law_refused", defArgs s_law_refused, defBody s_law_refused, defScope s_law_refused, [], []⟩
def d_law_fits : He.DefD := ⟨("_law_fits", none), "_law_fits", "_law_fits", defArgs s_law_fits, defBody s_law_fits, defScope s_law_fits, [], []⟩
def d_law_due : He.DefD := ⟨("_law_due", none), "_law_due", "_law_due", defArgs s_law_due, defBody s_law_due, defScope s_law_due, [], []⟩
def d_law_kind_told : He.DefD := ⟨("_law_kind_told", none), "_law_kind_told", "_law_kind_told", defArgs s_law_kind_told, defBody s_law_kind_told, defScope s_law_kind_told, [], []⟩
def d_law_joined : He.DefD := ⟨("_law_joined", none), "_law_joined", "_law_joined", defArgs s_law_joined, defBody s_law_joined, defScope s_law_joined, [], []⟩
def d_law_words_kept : He.DefD := ⟨("_law_words_kept", none), "_law_words_kept", "_law_words_kept", defArgs s_law_words_kept, defBody s_law_words_kept, defScope s_law_words_kept, [], []⟩
def d_law_long_kept : He.DefD := ⟨("_law_long_kept", none), "_law_long_kept", "_law_long_kept", defArgs s_law_long_kept, defBody s_law_long_kept, defScope s_law_long_kept, [], []⟩
def d_law_products_kept : He.DefD := ⟨("_law_products_kept", none), "_law_products_kept", "_law_products_kept", defArgs s_law_products_kept, defBody s_law_products_kept, defScope s_law_products_kept, [], []⟩
def d_law_odd_sort : He.DefD := ⟨("_law_odd_sort", none), "_law_odd_sort", "_law_odd_sort", defArgs s_law_odd_sort, defBody s_law_odd_sort, defScope s_law_odd_sort, [], []⟩
def d_law_refusals : He.DefD := ⟨("_law_refusals", none), "_law_refusals", "_law_refusals", defArgs s_law_refusals, defBody s_law_refusals, defScope s_law_refusals, [], []⟩
def d_law_judged : He.DefD := ⟨("_law_judged", none), "_law_judged", "_law_judged", defArgs s_law_judged, defBody s_law_judged, defScope s_law_judged, [], []⟩
def d_law : He.DefD := ⟨("law", none), "law", "law", defArgs s_law, defBody s_law, defScope s_law, [], []⟩
def d_Kinds__init : He.DefD := ⟨("Kinds", some "__init__"), "__init__", "Kinds.__init__", defArgs s_Kinds__init, defBody s_Kinds__init, defScope s_Kinds__init, [], []⟩
def d_Kinds__len : He.DefD := ⟨("Kinds", some "__len__"), "__len__", "Kinds.__len__", defArgs s_Kinds__len, defBody s_Kinds__len, defScope s_Kinds__len, [], []⟩
def d_Kinds_kind_of : He.DefD := ⟨("Kinds", some "kind_of"), "kind_of", "Kinds.kind_of", defArgs s_Kinds_kind_of, defBody s_Kinds_kind_of, defScope s_Kinds_kind_of, [], []⟩
def d_Kinds_product : He.DefD := ⟨("Kinds", some "product"), "product", "Kinds.product", defArgs s_Kinds_product, defBody s_Kinds_product, defScope s_Kinds_product, [], []⟩
def fn0 : List He.DefD := [d_walk, d_reached, d_first_words, d_met, d_rank_items, d_since_items, d_once_items, d_layer_above, d_last_letters, d_longer_pieces, d_flat_layer, d_kind_layers, d_check_letters, d_is_word, d_check_sight, d_law_open, d_law_mixed, d_law_draw, d_law_fault, d_law_plain, d_law_same, d_law_sign, d_law_word, d_law_pieces, d_law_items]
def fn1 : List He.DefD := [d_law_number, d_law_kind, d_law_table, d_law_chain, d_law_levels, d_law_walk, d_law_sight, d_law_refused, d_law_fits, d_law_due, d_law_kind_told, d_law_joined, d_law_words_kept, d_law_long_kept, d_law_products_kept, d_law_odd_sort, d_law_refusals, d_law_judged, d_law, d_Kinds__init, d_Kinds__len, d_Kinds_kind_of, d_Kinds_product]
def fn : List He.DefD := fn0 ++ fn1
def loose0 : List Str := ["walk", "reached", "first_words", "met", "rank_items", "since_items", "once_items", "layer_above", "last_letters", "longer_pieces", "flat_layer", "kind_layers", "check_letters", "is_word", "check_sight", "_law_open", "_law_mixed", "_law_draw", "_law_fault", "_law_plain", "_law_same", "_law_sign", "_law_word", "_law_pieces", "_law_items", "_law_number", "_law_kind", "_law_table", "_law_chain", "_law_levels"]
def loose1 : List Str := ["_law_walk", "_law_sight", "_law_refused", "_law_fits", "_law_due", "_law_kind_told", "_law_joined", "_law_words_kept", "_law_long_kept", "_law_products_kept", "_law_odd_sort", "_law_refusals", "_law_judged", "NocountersError", "BadLetters", "BadWord", "BadNumber", "OtherLetters", "TooLarge", "BadText", "BadState", "BadRow", "Future", "Past", "Free", "NoneThere", "NoElement", "NoMember", "BadSort", "BadName"]
def loose2 : List Str := ["NoName", "SameName", "NothingThere", "BadDeed", "Refused", "Untrue", "Kinds", "MOST", "ALPHABETS", "SORTS", "HIGHEST"]
def loose : List Str := loose0 ++ loose1 ++ loose2
def fa0 : List He.Fa := [.glo "walk", .glo "reached", .glo "first_words", .glo "met", .glo "rank_items", .glo "since_items", .glo "once_items", .glo "layer_above", .glo "last_letters", .glo "longer_pieces", .glo "flat_layer", .glo "kind_layers", .glo "check_letters", .glo "is_word", .glo "check_sight", .glo "_law_open", .glo "_law_mixed", .glo "_law_draw", .glo "_law_fault", .glo "_law_plain", .glo "_law_same", .glo "_law_sign", .glo "_law_word", .glo "_law_pieces", .glo "_law_items", .glo "_law_number", .glo "_law_kind", .glo "_law_table", .glo "_law_chain", .glo "_law_levels"]
def fa1 : List He.Fa := [.glo "_law_walk", .glo "_law_sight", .glo "_law_refused", .glo "_law_fits", .glo "_law_due", .glo "_law_kind_told", .glo "_law_joined", .glo "_law_words_kept", .glo "_law_long_kept", .glo "_law_products_kept", .glo "_law_odd_sort", .glo "_law_refusals", .glo "_law_judged", .glo "law", .glo "NocountersError", .glo "BadLetters", .glo "BadWord", .glo "BadNumber", .glo "OtherLetters", .glo "TooLarge", .glo "BadText", .glo "BadState", .glo "BadRow", .glo "Future", .glo "Past", .glo "Free", .glo "NoneThere", .glo "NoElement", .glo "NoMember", .glo "BadSort"]
def fa2 : List He.Fa := [.glo "BadName", .glo "NoName", .glo "SameName", .glo "NothingThere", .glo "BadDeed", .glo "Refused", .glo "Untrue", .glo "Kinds", .glo "SORTS", .glo "ALPHABETS"]
def faB : List He.Fa := [.free "len", .free "tuple", .free "sorted", .free "set", .free "list", .free "range", .free "zip", .free "max", .free "min", .free "abs", .free "int", .free "bool", .free "str", .free "isinstance", .free "super", .free "ValueError", .int "MOST" 200, .int "HIGHEST" 7, .cls "Kinds", .mkr "Kinds", .noat "Kinds" "letters", .noat "Kinds" "name", .noat "Kinds" "level", .noat "Kinds" "words", .noat "Kinds" "steps", .noat "Kinds" "layers", .meth "Kinds" "__len__", .meth "Kinds" "kind_of", .meth "Kinds" "product"]
def fa : List He.Fa := fa0 ++ fa1 ++ fa2 ++ faB
def tf : List He.Defn := [("layer_above", none), ("flat_layer", none)]
abbrev s_BadLetters : Stmt := inClass (top 2) 0
def e_BadLetters : ErD := ⟨"BadLetters", "given", "BadLetters.__init__", defArgs s_BadLetters, defBody s_BadLetters, defScope s_BadLetters⟩
abbrev s_BadSort : Stmt := inClass (top 16) 0
def e_BadSort : ErD := ⟨"BadSort", "name", "BadSort.__init__", defArgs s_BadSort, defBody s_BadSort, defScope s_BadSort⟩
abbrev s_BadNumber : Stmt := inClass (top 4) 0
def e_BadNumber : ErD := ⟨"BadNumber", "number", "BadNumber.__init__", defArgs s_BadNumber, defBody s_BadNumber, defScope s_BadNumber⟩
abbrev s_TooLarge : Stmt := inClass (top 6) 0
def e_TooLarge : ErD := ⟨"TooLarge", "many", "TooLarge.__init__", defArgs s_TooLarge, defBody s_TooLarge, defScope s_TooLarge⟩
abbrev s_BadWord : Stmt := inClass (top 3) 0
def e_BadWord : ErD := ⟨"BadWord", "word", "BadWord.__init__", defArgs s_BadWord, defBody s_BadWord, defScope s_BadWord⟩
abbrev s_NoElement : Stmt := inClass (top 14) 0
def e_NoElement : ErD := ⟨"NoElement", "number", "NoElement.__init__", defArgs s_NoElement, defBody s_NoElement, defScope s_NoElement⟩
def er : List ErD := [e_BadLetters, e_BadSort, e_BadNumber, e_TooLarge, e_BadWord, e_NoElement]
def ex (K : PySem.W.Frag) : Bool := tupB K "SORTS" [.str "rank", .str "since", .str "once", .str "yesterday", .str "pieces"] && (tupB K "ALPHABETS" [.str "a", .str "ab", .str "abc"] && ((er.all fun d => errB K d.cls d.f) && (([1, 5, 3, 20, 8, 11].all fun j => ofErrB K j) && (([1, 5, 3, 20].all fun i => [1, 5, 3, 20].all fun j => decide (PySem.W.exmOne K (.ref (errC K i)) (.ref (errC K j)) = some (decide (i = j)))) && (decide (PySem.W.exmOne K (.ref (errC K 8)) (.ref (errC K 8)) = some true) && (decide (PySem.W.exmOne K (.ref (errC K 11)) (.ref (errC K 11)) = some true) && (!decide ((cT K ("layer_above", none)).2 = (cT K ("flat_layer", none)).2))))))))
abbrev R : PySem.W.OpenRow := PySem.W.OpenLaw.row PySem.Challenge.rw_nocounters_k71_kinds_table
abbrev hk : PySem.W.Hook := hookY R.prog 4 fa fn [] tf er ex
def ob (s : PySem.W.SharedT) : AlY := obsY R.prog 4 fa fn [] tf er ex (HandSHeadRun.getT s)
theorem ob_eq (s : PySem.W.SharedT) : ob s = hk.obs s.abs := obsY_eq (HandSHeadRun.getT_eq s)
theorem run (w : World) : HandSHeadRun.RunEq R (PySem.W.view R.prog [77]) hk ob 20000 loose w := by
  intro os
  kernel_rfl
end K71
end
section
set_option Elab.async false
set_option linter.all false
set_option maxRecDepth 100000
set_option maxHeartbeats 1000000
namespace K71
open PySem PySem.Spec L2
open PyProof.Rows hiding St
section
variable {P : Program} {w : World} {K : PySem.W.Frag} {mg : Str → Option Value} {base : Heap}
/-! ### walk -/
def spWalk (K : PySem.W.Frag) : Sp := fun vs H Q _ => ∃ (L word : List Nat) (t : V) (rows : List (List Nat)) (s : Nat), vs = [.str (tx L), t, .int s, .str (tx word)] ∧ Alph L ∧ Dp K H t (.tuple (rows.map rowD)) ∧ RowsOk rows L.length ∧ s < rows.length ∧
  (∀ c ∈ word, c ∈ L) ∧ Q (.int (walkN L rows s word : Nat)) H
theorem rows_get {H : Hp} {xs : List V} {rows : List (List Nat)} {s j m : Nat} (h : DpAll K H xs (rows.map rowD)) (ok : RowsOk rows m) (hs : s < rows.length) (hj : j < m) :
    ∃ p ys, xs[s]? = some (.ref p) ∧ SqT K H p ys ∧ ys[j]? = some (.int (stepN rows s j : Nat)) := by
  obtain ⟨r, e1, e2, _⟩ := stepN_get ok hs hj
  obtain ⟨x, h1, h2⟩ := h.get (i := s) (d := rowD r) (by rw [List.getElem?_map, e1] <;> rfl)
  obtain ⟨p, ys, rfl, h3, h4⟩ := Dp.tupOf h2
  obtain ⟨y, h5, h6⟩ := h4.get (i := j) (d := .int (stepN rows s j : Nat)) (by rw [List.getElem?_map, e2] <;> rfl)
  cases h6.intOf
  exact ⟨p, ys, h1, h3, h5⟩
theorem walkN_snoc (L : List Nat) (rows : List (List Nat)) (s : Nat) (u : List Nat) (c : Nat) : walkN L rows s (u ++ [c]) = stepN rows (walkN L rows s u) (L.idxOf c) := by
  unfold walkN
  rw [List.foldl_append] <;> rfl
theorem take_snoc {w : List Nat} {i c : Nat} (h : w[i]? = some c) : w.take (i + 1) = w.take i ++ [c] := by
  rw [List.take_succ, h] <;> rfl
theorem ok_walk {f : Addr} {fd : FuncData} {k : Nat} (F : Fun K "walk" "walk" s_walk f fd) : FnOk P w K mg base CX0 (k + 1) f fd ["letters", "steps", "state", "word"] (spWalk K) := by
  refine F.ok sc_walk (fun vs H Q E h => ?_) (fun cdv A outer s H vs Q E hr h => ?_)
  · obtain ⟨L, word, t, rows, s, rfl, _⟩ := h
    rfl
  · obtain ⟨L, word, t, rows, s0, rfl, hA, hT, ok, hs, hw, q⟩ := h
    refine ⟨_, (pss_cons (ps_for PassesOwn.never rfl (pi_str (pv 3)) (pg_name (i := 4) sc_walk.nd rfl (Or.inl rfl))
        (pss_one (ps_set (i := 2) sc_walk.nd rfl (Or.inl rfl) (pe_ix ix_tup (pe_ix ix_tup (pv 1) (pv 2) (fun _ _ => rfl)) (pe_bmS PySem.F.plainAttrs_str PySem.F.slot_str_index PySem.F.type_str_index (mt_indexX rfl takes_never) (pv 0) (pa_cons (pv 4) pa_nil)) (fun _ _ => rfl)))))
      (pss_one (ps_ret (pv 2)))), ?_⟩
    refine ⟨_, rfl, tx word, rfl, for_str (w := word) (fun i σ H' => H' = H ∧ ∃ v4, σ = [some (.str (tx L)), some t, some (.int (walkN L rows s0 (word.take i) : Nat)), some (.str (tx word)), v4]) ⟨rfl, none, rfl⟩ (fun i c σ H' hc hP => ?_) (fun σ H' hP => ?_)⟩
    · obtain ⟨rfl, v4, rfl⟩ := hP
      obtain ⟨p, xs, rfl, h1, h2⟩ := Dp.tupOf hT
      have hcL : c ∈ L := hw c (List.mem_of_getElem? hc)
      obtain ⟨j1, j2, _⟩ := hA.at_ hcL
      have hst := walkN_lt ok (word.take i) s0 hs fun d hd => hw d (List.mem_of_mem_take hd)
      obtain ⟨p2, ys, g1, g2, g3⟩ := rows_get h2 ok hst j1
      refine ⟨_, rfl, _, rfl, p, xs, _, _, rfl, rfl, h1, atI_nat g1, ?_⟩
      refine ⟨_, rfl, rfl, _, rfl, tx L, tx [c], rfl, rfl, fun j hj => ?_, fun z => by rw [j2] at z; cases z⟩
      rw [j2] at hj
      cases hj
      refine ⟨p2, ys, _, _, rfl, rfl, g2, atI_nat g3, rfl, some (.str (tx [c])), ?_⟩
      rw [take_snoc hc, walkN_snoc] <;> rfl
    · obtain ⟨rfl, v4, rfl⟩ := hP
      rw [List.take_length]
      exact ⟨_, rfl, q⟩
/-! ### _law_walk -/
def spLwalk (K : PySem.W.Frag) : Sp := fun vs H Q _ => ∃ (L word : List Nat) (T : Addr) (xs : List V) (v0 t : V) (rows : List (List Nat)), vs = [.ref T, .str (tx L), .str (tx word)] ∧ Alph L ∧ SqL K H T xs ∧ xs[1]? = some t ∧ Dp K H t (.list (rows.map rowD)) ∧ RowsOk rows L.length ∧ 0 < rows.length ∧
  (∀ c ∈ word, c ∈ L) ∧ Q (.int (walkN L rows 0 word : Nat)) H
theorem ok_lwalk {f : Addr} {fd : FuncData} {k : Nat} (F : Fun K "_law_walk" "_law_walk" s_law_walk f fd) : FnOk P w K mg base CX0 (k + 1) f fd ["table", "letters", "word"] (spLwalk K) := by
  refine F.ok sc_law_walk (fun vs H Q E h => ?_) (fun cdv A outer s H vs Q E hr h => ?_)
  · obtain ⟨L, word, T, xs, v0, t, rows, rfl, _⟩ := h
    rfl
  · obtain ⟨L, word, T, tb, v0, t, rows, rfl, hA, hTb, ht1, hT, ok, hs, hw, q⟩ := h
    refine ⟨_, (pss_cons (ps_set (i := 3) sc_law_walk.nd rfl (Or.inl rfl) pe_int)
      (pss_cons (ps_for PassesOwn.never rfl (pi_str (pv 2)) (pg_name (i := 4) sc_law_walk.nd rfl (Or.inl rfl))
        (pss_one (ps_set (i := 3) sc_law_walk.nd rfl (Or.inl rfl) (pe_ix ix_tup (pe_ix ix_list (pe_ix ix_list (pv 0) pe_int (fun _ _ => rfl)) (pv 3) (fun _ _ => rfl)) (pe_m1 PySem.F.slot_str_find PySem.F.type_str_find mt_find (pv 1) (pv 4)) (fun _ _ => rfl)))))
      (pss_one (ps_ret (pv 3))))), ?_⟩
    refine ⟨_, rfl, tx word, rfl, for_str (w := word) (fun i σ H' => H' = H ∧ ∃ v4, σ = [some (.ref T), some (.str (tx L)), some (.str (tx word)), some (.int (walkN L rows 0 (word.take i) : Nat)), v4]) ⟨rfl, none, rfl⟩ (fun i c σ H' hc hP => ?_) (fun σ H' hP => ?_)⟩
    · obtain ⟨rfl, v4, rfl⟩ := hP
      obtain ⟨p, xs, rfl, h1, h2⟩ := Dp.lstOf hT
      have hcL : c ∈ L := hw c (List.mem_of_getElem? hc)
      obtain ⟨j1, _, j2⟩ := hA.at_ hcL
      have hst := walkN_lt ok (word.take i) 0 hs fun d hd => hw d (List.mem_of_mem_take hd)
      obtain ⟨p2, ys, g1, g2, g3⟩ := rows_get h2 ok hst j1
      refine ⟨_, rfl, T, tb, 1, _, rfl, rfl, hTb, atI_nat (j := 1) ht1, _, rfl, p, xs, _, _, rfl, rfl, h1, atI_nat g1, ?_⟩
      refine ⟨_, rfl, ⟨_, rfl⟩, _, rfl, tx L, tx [c], rfl, rfl, ?_⟩
      rw [j2]
      refine ⟨p2, ys, _, _, rfl, rfl, g2, atI_nat g3, rfl, some (.str (tx [c])), ?_⟩
      rw [take_snoc hc, walkN_snoc] <;> rfl
    · obtain ⟨rfl, v4, rfl⟩ := hP
      rw [List.take_length]
      exact ⟨_, rfl, q⟩
end
end K71
end
section
set_option Elab.async false
set_option linter.all false
/-! Rules whose reading names the written part: with that part said outright (for a comprehension's own block). -/
namespace K71
open PySem PySem.Spec L2
open PyProof.Rows hiding St
section
variable {X : Cx} {K : PySem.W.Frag}
theorem ix_listK (e : X.K = K) : IxR X (rIxL K) := by subst e; exact ix_list
theorem ix_tupK (e : X.K = K) : IxR X (rIxT K) := by subst e; exact ix_tup
theorem pg_tupK {es : List Expr} {k : Nat} {t : TGs} {n : Nat} {pos : Pos} (e : X.K = K) (hc : X.calm = true) (h : PGs X es t)
    (hn : (assignEach es X.env).length = n := by rfl) (hst : (assignEach es X.env).findIdx? (·.1) = none := by rfl) : PG X (.Tuple es k pos) (gTup K n t) := by subst e; exact pg_tup hc h hn hst
theorem op_neDK (e : X.K = K) (hu : X.A.units + 64 < cLine) : OpR X (compareOp .NotEq) (rNeD K) := by subst e; exact op_neD hu
theorem op_eqDK (e : X.K = K) (hu : X.A.units + 64 < cLine) : OpR X (compareOp .Eq) (rEqD K) := by subst e; exact op_eqD hu
end
end K71
end
section
set_option Elab.async false
set_option linter.all false
set_option maxRecDepth 100000
/-! One set, one row: sorting keys that are alike. And rows without what comes again. -/
namespace Cn
open PySem PySem.W PyProof.Rows
section
variable {α : Type} [DecidableEq α]
/-- each item once, where it first stands -/
def dd : List α → List α
  | [] => []
  | x :: l => x :: (dd l).filter (fun y => decide (y ≠ x))
theorem mem_dd {x : α} : ∀ {l : List α}, x ∈ dd l ↔ x ∈ l
  | [] => Iff.rfl
  | y :: l => by
    rw [dd, List.mem_cons, List.mem_cons, List.mem_filter, decide_eq_true_eq, mem_dd]
    by_cases h : x = y <;> simp [h]
theorem nodup_dd : ∀ l : List α, (dd l).Nodup
  | [] => List.nodup_nil
  | y :: l => by
    rw [dd, List.nodup_cons, List.mem_filter, decide_eq_true_eq]
    exact ⟨fun h => h.2 rfl, (nodup_dd l).filter _⟩
theorem dd_nodup : ∀ {l : List α}, l.Nodup → dd l = l
  | [], _ => rfl
  | y :: l, h => by
    obtain ⟨h1, h2⟩ := List.nodup_cons.mp h
    rw [dd, dd_nodup h2, List.filter_eq_self.mpr fun x hx => by
      rw [decide_eq_true_eq]
      intro e
      rw [e] at hx
      exact h1 hx]
theorem dd_dd (l : List α) : dd (dd l) = dd l := dd_nodup (nodup_dd l)
theorem dd_filter (p : α → Bool) : ∀ l : List α, dd (l.filter p) = (dd l).filter p
  | [] => rfl
  | y :: l => by
    by_cases h : p y = true
    · rw [List.filter_cons_of_pos h, dd, dd, List.filter_cons_of_pos h, dd_filter p l, List.filter_filter, List.filter_filter]
      congr 1
      exact List.filter_congr fun x _ => Bool.and_comm _ _
    · rw [List.filter_cons_of_neg h, dd, List.filter_cons_of_neg h, dd_filter p l, List.filter_filter]
      refine List.filter_congr fun x _ => ?_
      by_cases hx : x = y
      · subst hx
        simp [h]
      · simp [hx]
/-- one more behind: it is put there if it is new -/
theorem dd_snoc (x : α) : ∀ l : List α, dd (l ++ [x]) = if x ∈ l then dd l else dd l ++ [x]
  | [] => rfl
  | y :: l => by
    rw [List.cons_append, dd, dd_snoc x l]
    by_cases h : x ∈ l
    · rw [if_pos h, if_pos (List.mem_cons_of_mem _ h), dd]
    · rw [if_neg h, List.filter_append]
      by_cases e : x = y
      · subst e
        rw [if_pos List.mem_cons_self, dd]
        simp
      · rw [if_neg (by rw [List.mem_cons]; rintro (z | z); exact e z; exact h z), dd]
        simp [e]
theorem dd_map {β : Type} [DecidableEq β] (f : α → β) : ∀ l : List α, dd ((dd l).map f) = dd (l.map f)
  | [] => rfl
  | y :: l => by
    have go : ∀ m : List α, ((m.filter fun z => decide (z ≠ y)).map f).filter (fun z => decide (z ≠ f y)) = (m.map f).filter fun z => decide (z ≠ f y) := by
      intro m
      induction m with
      | nil => rfl
      | cons z m ih =>
        by_cases hz : z = y
        · subst hz
          simp only [List.map_cons]
          rw [List.filter_cons_of_neg (by simp), List.filter_cons_of_neg (by simp)]
          exact ih
        · rw [List.filter_cons_of_pos (by simpa using hz), List.map_cons, List.map_cons, List.filter_cons, List.filter_cons, ih]
    have e1 := dd_filter (fun z => decide (z ≠ f y)) (((dd l).filter fun z => decide (z ≠ y)).map f)
    have e2 := dd_filter (fun z => decide (z ≠ f y)) ((dd l).map f)
    rw [go (dd l), e2, dd_map f l] at e1
    show f y :: (dd (((dd l).filter fun z => decide (z ≠ y)).map f)).filter (fun z => decide (z ≠ f y)) = f y :: (dd (l.map f)).filter (fun z => decide (z ≠ f y))
    rw [e1]
theorem dd_inj {β : Type} [DecidableEq β] (f : α → β) : ∀ l : List α, (∀ x ∈ l, ∀ y ∈ l, f x = f y → x = y) → dd (l.map f) = (dd l).map f
  | [], _ => rfl
  | y :: l, h => by
    have ih := dd_inj f l fun a ha b hb => h a (List.mem_cons_of_mem _ ha) b (List.mem_cons_of_mem _ hb)
    rw [List.map_cons, dd, ih, dd, List.map_cons]
    congr 1
    have go : ∀ m : List α, (∀ x ∈ m, x ∈ l) → (m.map f).filter (fun z => decide (z ≠ f y)) = (m.filter fun z => decide (z ≠ y)).map f := by
      intro m
      induction m with
      | nil => intro _; rfl
      | cons z m ihm =>
        intro hm
        have e : decide (f z ≠ f y) = decide (z ≠ y) := by
          by_cases hz : z = y
          · simp [hz]
          · have : f z ≠ f y := fun q => hz (h z (List.mem_cons_of_mem _ (hm z List.mem_cons_self)) y List.mem_cons_self q)
            simp [hz, this]
        rw [List.map_cons, List.filter_cons, List.filter_cons, e, ihm fun x hx => hm x (List.mem_cons_of_mem _ hx)]
        split <;> rfl
    exact go (dd l) fun x hx => mem_dd.mp hx
end
/-! ### sorted -/
mutual
theorem eqv_key : ∀ a b : NestedKey, PyData.eqv a.data b.data = NestedKey.beq a b
  | .none, .none | .none, .num _ | .none, .text _ | .none, .tup _ => rfl
  | .num _, .none | .num _, .text _ | .num _, .tup _ => rfl
  | .text _, .none | .text _, .num _ | .text _, .tup _ => rfl
  | .tup _, .none | .tup _, .num _ | .tup _, .text _ => rfl
  | .num a, .num b => by
    show (a == b) = decide (a = b)
    by_cases h : a = b <;> simp [h]
  | .text a, .text b => by
    show (a == b) = decide (a = b)
    by_cases h : a = b <;> simp [h]
  | .tup a, .tup b => eqv_keys a b
theorem eqv_keys : ∀ a b : List NestedKey, PyData.eqvAll (NestedKey.datas a) (NestedKey.datas b) = NestedKey.beqAll a b
  | [], [] => rfl
  | [], _ :: _ => rfl
  | _ :: _, [] => rfl
  | x :: a, y :: b => by
    show (PyData.eqv x.data y.data && PyData.eqvAll (NestedKey.datas a) (NestedKey.datas b)) = _
    rw [eqv_key x y, eqv_keys a b] <;> rfl
end
theorem lt_anti {x y : PyData} (h : alike x y = true) (h1 : dataLt x y = false) (h2 : dataLt y x = false) : PyData.eqv x y = true := by
  cases e : PyData.eqv x y with
  | true => rfl
  | false =>
    have q := (toks_eqv x y h).2 e
    have t : keyToks x = keyToks y := (listOrd itemOrd).total _ _ h1 h2
    have q1 := q [] [Sum.inl 0]
    rw [t, lex_pre, lex_irrefl] at q1
    cases q1
abbrev le : NestedKey → NestedKey → Bool := dataLe false NestedKey.data
theorem le_anti {a b : NestedKey} (h : alike b.data a.data = true) (h1 : le a b = true) (h2 : le b a = true) : a = b := by
  have k1 : (!dataLt b.data a.data) = true := h1
  have k2 : (!dataLt a.data b.data) = true := h2
  rw [Bool.not_eq_true'] at k1 k2
  have e := lt_anti h k1 k2
  rw [eqv_key] at e
  exact (NestedKey.eq_of_beq _ _ e).symm
theorem le_total : TotalLe le := sortLe_total _ _ _
/-- two rows in order with the same members, each once, are one -/
theorem one_row : ∀ {l m : List NestedKey}, l.Pairwise (fun a b => le a b = true) → m.Pairwise (fun a b => le a b = true) → l.Nodup → m.Nodup → (∀ x, x ∈ l ↔ x ∈ m) → (∀ a ∈ l, ∀ b ∈ l, alike a.data b.data = true) → l = m
  | [], [], _, _, _, _, _, _ => rfl
  | [], y :: m, _, _, _, _, h, _ => absurd ((h y).mpr List.mem_cons_self) (by simp)
  | x :: l, [], _, _, _, _, h, _ => absurd ((h x).mp List.mem_cons_self) (by simp)
  | x :: l, y :: m, p, q, n1, n2, h, al => by
    obtain ⟨p1, p2⟩ := List.pairwise_cons.mp p
    obtain ⟨q1, q2⟩ := List.pairwise_cons.mp q
    obtain ⟨a1, a2⟩ := List.nodup_cons.mp n1
    obtain ⟨b1, b2⟩ := List.nodup_cons.mp n2
    have hy : y ∈ x :: l := (h y).mpr List.mem_cons_self
    have hx : x ∈ y :: m := (h x).mp List.mem_cons_self
    have e : x = y := by
      rcases List.mem_cons.mp hy with z | z
      · exact z.symm
      · rcases List.mem_cons.mp hx with z2 | z2
        · exact z2
        · exact le_anti (al y hy x List.mem_cons_self) (p1 y z) (q1 x z2)
    subst e
    congr 1
    refine one_row p2 q2 a2 b2 (fun z => ⟨fun hz => ?_, fun hz => ?_⟩) fun a ha b hb => al a (List.mem_cons_of_mem _ ha) b (List.mem_cons_of_mem _ hb)
    · rcases List.mem_cons.mp ((h z).mp (List.mem_cons_of_mem _ hz)) with w | w
      · rw [w] at hz; exact absurd hz a1
      · exact w
    · rcases List.mem_cons.mp ((h z).mpr (List.mem_cons_of_mem _ hz)) with w | w
      · rw [w] at hz; exact absurd hz b1
      · exact w
/-- the members of l in order, each once -/
def canon (l : List NestedKey) : List NestedKey := (dd l).mergeSort le
theorem canon_mem {l : List NestedKey} {x : NestedKey} : x ∈ canon l ↔ x ∈ l := (List.mergeSort_perm _ _).mem_iff.trans mem_dd
theorem canon_nodup (l : List NestedKey) : (canon l).Nodup := (List.mergeSort_perm _ _).nodup_iff.mpr (nodup_dd l)
theorem canon_sorted (l : List NestedKey) : (canon l).Pairwise (fun a b => le a b = true) := sort_pairwise le_total _
def Alike (l : List NestedKey) : Prop := ∀ a ∈ l, ∀ b ∈ l, alike a.data b.data = true
theorem canon_of {m l : List NestedKey} (nd : m.Nodup) (hm : ∀ x, x ∈ m ↔ x ∈ l) (al : Alike l) : m.mergeSort le = canon l := by
  have pm := List.mergeSort_perm m le
  refine one_row (sort_pairwise le_total m) (canon_sorted l) (pm.nodup_iff.mpr nd) (canon_nodup l) (fun x => pm.mem_iff.trans ((hm x).trans canon_mem.symm)) fun a ha b hb => al a ((hm a).mp (pm.mem_iff.mp ha)) b ((hm b).mp (pm.mem_iff.mp hb))
theorem canon_eq {l m : List NestedKey} (al : Alike l) : canon l = canon m ↔ ∀ x, x ∈ l ↔ x ∈ m := by
  constructor
  · intro h x
    rw [← canon_mem, h, canon_mem]
  · intro h
    have am : Alike m := fun a ha b hb => al a ((h a).mpr ha) b ((h b).mpr hb)
    exact canon_of (nodup_dd l) (fun x => mem_dd.trans (h x)) am
end Cn
end
section
set_option Elab.async false
set_option linter.all false
set_option maxRecDepth 100000
/-! The kinds of words, level by level, up to their names. -/
namespace Lv
open Cn
abbrev Wd := List Nat
inductive Srt where
  | rank
  | since
  | once
  deriving DecidableEq
/-- an item: what stands ahead, the letter, what stands behind -/
abbrev IT := Nat × Nat × Nat
def splits (w : Wd) : List (Wd × Nat × Wd) := (List.range w.length).reverse.map fun i => (w.take i, w.getD i 0, w.drop (i + 1))
theorem splits_nil : splits [] = [] := rfl
theorem splits_snoc (u : Wd) (a : Nat) : splits (u ++ [a]) = (u, a, []) :: (splits u).map fun x => (x.1, x.2.1, x.2.2 ++ [a]) := by
  unfold splits
  rw [List.length_append, List.length_singleton, List.range_succ, List.reverse_append, List.reverse_singleton, List.singleton_append, List.map_cons, List.map_map]
  congr 1
  · simp
  · refine List.map_congr_left fun i hi => ?_
    have h : i < u.length := by simpa using hi
    show _ = (u.take i, u.getD i 0, u.drop (i + 1) ++ [a])
    rw [List.take_append_of_le_length (by omega), List.drop_append_of_le_length (by omega)]
    congr 2
    rw [List.getD_eq_getElem?_getD, List.getD_eq_getElem?_getD, List.getElem?_append_left h]
theorem splits_len (w : Wd) : (splits w).length = w.length := by simp [splits]
def item (s : Srt) (ν : Wd → Nat) (x : Wd × Nat × Wd) : IT := (ν x.1, x.2.1, if s = .rank then ν x.2.2 else 0)
def itemsOf (s : Srt) (ν : Wd → Nat) (w : Wd) : List IT := (splits w).map (item s ν)
/-- the two rows of items are one kind -/
def KeyEq (s : Srt) (l m : List IT) : Prop := if s = .since then dd l = dd m else ∀ x, x ∈ l ↔ x ∈ m
theorem keyEq_since {s : Srt} {l m : List IT} (h : s = .since) : KeyEq s l m ↔ dd l = dd m := by unfold KeyEq; rw [if_pos h]
theorem keyEq_set {s : Srt} {l m : List IT} (h : s ≠ .since) : KeyEq s l m ↔ ∀ x, x ∈ l ↔ x ∈ m := by unfold KeyEq; rw [if_neg h]
theorem KeyEq.refl (s : Srt) (l : List IT) : KeyEq s l l := by
  by_cases e : s = .since
  · exact (keyEq_since e).mpr rfl
  · exact (keyEq_set e).mpr fun _ => Iff.rfl
theorem KeyEq.symm {s : Srt} {l m : List IT} (h : KeyEq s l m) : KeyEq s m l := by
  by_cases e : s = .since
  · exact (keyEq_since e).mpr ((keyEq_since e).mp h).symm
  · exact (keyEq_set e).mpr fun x => ((keyEq_set e).mp h x).symm
theorem KeyEq.trans {s : Srt} {l m n : List IT} (h : KeyEq s l m) (k : KeyEq s m n) : KeyEq s l n := by
  by_cases e : s = .since
  · exact (keyEq_since e).mpr (((keyEq_since e).mp h).trans ((keyEq_since e).mp k))
  · exact (keyEq_set e).mpr fun x => ((keyEq_set e).mp h x).trans ((keyEq_set e).mp k x)
theorem KeyEq.map {s : Srt} {l m : List IT} (f : IT → IT) (h : KeyEq s l m) : KeyEq s (l.map f) (m.map f) := by
  by_cases e : s = .since
  · refine (keyEq_since e).mpr ?_
    rw [← dd_map f l, ← dd_map f m, (keyEq_since e).mp h]
  · refine (keyEq_set e).mpr fun x => ?_
    have h := (keyEq_set e).mp h
    rw [List.mem_map, List.mem_map]
    exact ⟨fun ⟨y, hy, e⟩ => ⟨y, (h y).mp hy, e⟩, fun ⟨y, hy, e⟩ => ⟨y, (h y).mpr hy, e⟩⟩
theorem KeyEq.cons {s : Srt} {l m : List IT} (x : IT) (h : KeyEq s l m) : KeyEq s (x :: l) (x :: m) := by
  by_cases e : s = .since
  · refine (keyEq_since e).mpr ?_
    rw [dd, dd, (keyEq_since e).mp h]
  · refine (keyEq_set e).mpr fun y => ?_
    rw [List.mem_cons, List.mem_cons, (keyEq_set e).mp h y]
/-- ν told through the numbers of μ -/
noncomputable def via (μ ν : Wd → Nat) (n : Nat) : Nat := open Classical in if h : ∃ x, μ x = n then ν h.choose else 0
theorem via_at {μ ν : Wd → Nat} (h : ∀ x y, μ x = μ y → ν x = ν y) (x : Wd) : via μ ν (μ x) = ν x := by
  unfold via
  have e : ∃ y, μ y = μ x := ⟨x, rfl⟩
  rw [dif_pos e]
  exact h _ _ e.choose_spec
theorem items_via {s : Srt} {μ ν : Wd → Nat} (h : ∀ x y, μ x = μ y → ν x = ν y) (w : Wd) : itemsOf s ν w = (itemsOf s μ w).map fun t => (via μ ν t.1, t.2.1, if s = .rank then via μ ν t.2.2 else 0) := by
  unfold itemsOf
  rw [List.map_map]
  refine List.map_congr_left fun x _ => ?_
  show item s ν x = (via μ ν (μ x.1), x.2.1, if s = .rank then via μ ν (if s = .rank then μ x.2.2 else 0) else 0)
  unfold item
  rw [via_at h]
  by_cases e : s = .rank
  · rw [if_pos e, if_pos e, if_pos e, via_at h]
  · rw [if_neg e, if_neg e]
theorem keyEq_via {s : Srt} {μ ν : Wd → Nat} (h : ∀ x y, μ x = μ y → ν x = ν y) {u v : Wd} (k : KeyEq s (itemsOf s μ u) (itemsOf s μ v)) : KeyEq s (itemsOf s ν u) (itemsOf s ν v) := by
  rw [items_via h u, items_via h v]
  exact k.map _
/-! ### a numbering of the classes -/
def code : Wd → Nat
  | [] => 0
  | c :: w => 2 ^ c * (2 * code w + 1)
theorem odd_cancel : ∀ (c d a b : Nat), 2 ^ c * (2 * a + 1) = 2 ^ d * (2 * b + 1) → c = d ∧ a = b
  | 0, 0, a, b, h => by rw [Nat.pow_zero, Nat.one_mul, Nat.one_mul] at h; exact ⟨rfl, by omega⟩
  | 0, d + 1, a, b, h => by
    exfalso
    rw [Nat.pow_succ, Nat.pow_zero, Nat.one_mul] at h
    have : 2 * a + 1 = 2 * (2 ^ d * (2 * b + 1)) := by rw [h, Nat.mul_comm (2 ^ d) 2, Nat.mul_assoc]
    omega
  | c + 1, 0, a, b, h => by
    exfalso
    rw [Nat.pow_succ, Nat.pow_zero, Nat.one_mul] at h
    have : 2 * b + 1 = 2 * (2 ^ c * (2 * a + 1)) := by rw [← h, Nat.mul_comm (2 ^ c) 2, Nat.mul_assoc]
    omega
  | c + 1, d + 1, a, b, h => by
    rw [Nat.pow_succ, Nat.pow_succ, Nat.mul_comm (2 ^ c) 2, Nat.mul_comm (2 ^ d) 2, Nat.mul_assoc, Nat.mul_assoc] at h
    obtain ⟨e1, e2⟩ := odd_cancel c d a b (by omega)
    exact ⟨by omega, e2⟩
theorem code_pos (c : Nat) (w : Wd) : 0 < code (c :: w) := Nat.mul_pos (Nat.pow_pos (by decide)) (Nat.succ_pos _)
theorem code_inj : ∀ u v : Wd, code u = code v → u = v
  | [], [], _ => rfl
  | [], c :: w, h => absurd h (Nat.ne_of_lt (code_pos c w))
  | c :: w, [], h => absurd h (Nat.ne_of_gt (code_pos c w))
  | c :: u, d :: v, h => by
    obtain ⟨e1, e2⟩ := odd_cancel c d _ _ h
    rw [e1, code_inj u v e2]
structure Eqv (R : Wd → Wd → Prop) : Prop where
  refl : ∀ u, R u u
  symm : ∀ {u v}, R u v → R v u
  trans : ∀ {u v w}, R u v → R v w → R u w
theorem least {p : Nat → Prop} : ∀ n, p n → ∃ k, p k ∧ ∀ k', k' < k → ¬ p k' := by
  intro n
  induction n using Nat.strongRecOn with
  | _ n ih =>
    intro h
    rcases Classical.em (∃ m, m < n ∧ p m) with ⟨m, hm, q⟩ | no
    · exact ih m hm q
    · exact ⟨n, h, fun k' hk q => no ⟨k', hk, q⟩⟩
/-- ν numbers the classes of R -/
def Num (R : Wd → Wd → Prop) (ν : Wd → Nat) : Prop := ∀ x y, ν x = ν y ↔ R x y
theorem num_ex {R : Wd → Wd → Prop} (E : Eqv R) : ∃ ν, Num R ν := by
  have ex : ∀ u, ∃ k, (∃ v, code v = k ∧ R u v) ∧ ∀ k', k' < k → ¬ ∃ v, code v = k' ∧ R u v := fun u => least (code u) ⟨u, rfl, E.refl u⟩
  refine ⟨fun u => (ex u).choose, fun x y => ⟨fun h => ?_, fun h => ?_⟩⟩
  · obtain ⟨v, e1, r1⟩ := (ex x).choose_spec.1
    obtain ⟨v', e2, r2⟩ := (ex y).choose_spec.1
    have e : v = v' := code_inj _ _ (e1.trans (h.trans e2.symm))
    rw [e] at r1
    exact E.trans r1 (E.symm r2)
  · show (ex x).choose = (ex y).choose
    obtain ⟨⟨v, e1, r1⟩, m1⟩ := (ex x).choose_spec
    obtain ⟨⟨v', e2, r2⟩, m2⟩ := (ex y).choose_spec
    rcases Nat.lt_trichotomy (ex x).choose (ex y).choose with z | z | z
    · exact absurd ⟨v, e1, E.trans (E.symm h) r1⟩ (m2 _ z)
    · exact z
    · exact absurd ⟨v', e2, E.trans h r2⟩ (m1 _ z)
/-! ### the levels -/
def Rel (s : Srt) : Nat → Wd → Wd → Prop
  | 0, _, _ => True
  | l + 1, u, v => ∀ ν, Num (Rel s l) ν → KeyEq s (itemsOf s ν u) (itemsOf s ν v)
theorem rel_eqv (s : Srt) : ∀ l, Eqv (Rel s l)
  | 0 => ⟨fun _ => trivial, fun _ => trivial, fun _ _ => trivial⟩
  | l + 1 => ⟨fun u ν _ => KeyEq.refl s _, fun h ν n => (h ν n).symm, fun h k ν n => (h ν n).trans (k ν n)⟩
theorem rel_of {s : Srt} {l : Nat} {ν : Wd → Nat} (n : Num (Rel s l) ν) {u v : Wd} : Rel s (l + 1) u v ↔ KeyEq s (itemsOf s ν u) (itemsOf s ν v) :=
  ⟨fun h => h ν n, fun h μ m => keyEq_via (fun x y e => (m x y).mpr ((n x y).mp e)) h⟩
theorem rel_down (s : Srt) : ∀ l {u v : Wd}, Rel s (l + 1) u v → Rel s l u v
  | 0, _, _, _ => trivial
  | l + 1, u, v, h => by
    obtain ⟨ν, n⟩ := num_ex (rel_eqv s l)
    obtain ⟨μ, m⟩ := num_ex (rel_eqv s (l + 1))
    exact (rel_of n).mpr (keyEq_via (fun x y e => (n x y).mpr (rel_down s l ((m x y).mp e))) ((rel_of m).mp h))
theorem items_snoc (s : Srt) (ν : Wd → Nat) (u : Wd) (a : Nat) : itemsOf s ν (u ++ [a]) = (ν u, a, if s = .rank then ν [] else 0) :: (splits u).map (fun x => (ν x.1, x.2.1, if s = .rank then ν (x.2.2 ++ [a]) else 0)) := by
  unfold itemsOf
  rw [splits_snoc, List.map_cons, List.map_map] <;> rfl
theorem rel_snoc (s : Srt) (a : Nat) : ∀ l {u v : Wd}, Rel s l u v → Rel s l (u ++ [a]) (v ++ [a])
  | 0, _, _, _ => trivial
  | l + 1, u, v, h => by
    obtain ⟨ν, n⟩ := num_ex (rel_eqv s l)
    refine (rel_of n).mpr ?_
    have hk := (rel_of n).mp h
    have cg : ∀ x y, ν x = ν y → ν (x ++ [a]) = ν (y ++ [a]) := fun x y e => (n _ _).mpr (rel_snoc s a l ((n x y).mp e))
    have tell : ∀ w : Wd, (splits w).map (fun x => (ν x.1, x.2.1, if s = .rank then ν (x.2.2 ++ [a]) else 0)) = (itemsOf s ν w).map fun t => (t.1, t.2.1, if s = .rank then via ν (fun x => ν (x ++ [a])) t.2.2 else 0) := fun w => by
      unfold itemsOf
      rw [List.map_map]
      refine List.map_congr_left fun x _ => ?_
      show _ = (ν x.1, x.2.1, if s = .rank then via ν (fun x => ν (x ++ [a])) (if s = .rank then ν x.2.2 else 0) else 0)
      by_cases e : s = .rank
      · rw [if_pos e, if_pos e, if_pos e, via_at cg]
      · rw [if_neg e, if_neg e]
    have e : ν u = ν v := (n u v).mpr (rel_down s l h)
    rw [items_snoc, items_snoc, tell u, tell v, e]
    exact (hk.map _).cons _
theorem rel_le (s : Srt) {l l' : Nat} (h : l ≤ l') {u v : Wd} (r : Rel s l' u v) : Rel s l u v := by
  induction h with
  | refl => exact r
  | step _ ih => exact ih (rel_down s _ r)
end Lv
end
section
set_option Elab.async false
set_option linter.all false
set_option maxRecDepth 100000
/-! Words that are new by their kind, letter by letter, and the table of steps. -/
namespace Bf
open Lv
open Classical
variable (R : Wd → Wd → Prop)
noncomputable def place (ws : List Wd) (u : Wd) : Option Nat := ws.findIdx? (fun x => decide (R x u))
noncomputable def one (w : Wd) (s : List Wd × List Nat) (a : Nat) : List Wd × List Nat := match place R s.1 (w ++ [a]) with
  | some i => (s.1, s.2 ++ [i])
  | none => (s.1 ++ [w ++ [a]], s.2 ++ [s.1.length])
noncomputable def rowOf (w : Wd) (L : List Nat) (ws : List Wd) : List Wd × List Nat := L.foldl (one R w) (ws, [])
noncomputable def st (L : List Nat) : Nat → List Wd × List (List Nat)
  | 0 => ([[]], [])
  | k + 1 => match (st L k).1[k]? with
    | some w => ((rowOf R w L (st L k).1).1, (st L k).2 ++ [(rowOf R w L (st L k).1).2])
    | none => st L k
theorem rowOf_snoc (w : Wd) (L : List Nat) (a : Nat) (ws : List Wd) : rowOf R w (L ++ [a]) ws = one R w (rowOf R w L ws) a := by
  unfold rowOf
  rw [List.foldl_append] <;> rfl
/-- no two are one kind -/
def Apart (ws : List Wd) : Prop := ∀ (i j : Nat) (u v : Wd), ws[i]? = some u → ws[j]? = some v → i < j → ¬ R u v
variable {R} (E : Eqv R)
include E
theorem place_some {ws : List Wd} {u : Wd} {i : Nat} (h : place R ws u = some i) : ∃ x, ws[i]? = some x ∧ R x u ∧ i < ws.length := by
  obtain ⟨h1, h2, _⟩ := List.findIdx?_eq_some_iff_getElem.mp h
  exact ⟨ws[i], List.getElem?_eq_getElem h1, of_decide_eq_true h2, h1⟩
theorem place_none {ws : List Wd} {u : Wd} (h : place R ws u = none) : ∀ x ∈ ws, ¬ R x u := fun x hx q => by
  have z := List.findIdx?_eq_none_iff.mp h x hx
  rw [decide_eq_true q] at z
  cases z
theorem place_of {ws : List Wd} (A : Apart R ws) {u x : Wd} {i : Nat} (h : ws[i]? = some x) (r : R x u) : place R ws u = some i := by
  cases e : place R ws u with
  | none => exact absurd r (place_none E e x (List.mem_of_getElem? h))
  | some j =>
    obtain ⟨y, hy, ry, _⟩ := place_some E e
    rcases Nat.lt_trichotomy i j with z | z | z
    · exact absurd (E.trans r (E.symm ry)) (A i j x y h hy z)
    · rw [z]
    · exact absurd (E.trans ry (E.symm r)) (A j i y x hy h z)
theorem apart_snoc {ws : List Wd} (A : Apart R ws) {u : Wd} (h : ∀ x ∈ ws, ¬ R x u) : Apart R (ws ++ [u]) := fun i j x y hi hj hij => by
  have hj2 : j < ws.length + 1 := by
    have := (List.getElem?_eq_some_iff.mp hj).1
    simpa using this
  have hi2 : i < ws.length := by omega
  rw [List.getElem?_append_left hi2] at hi
  by_cases c : j < ws.length
  · rw [List.getElem?_append_left c] at hj
    exact A i j x y hi hj hij
  · have : j = ws.length := by omega
    subst this
    rw [List.getElem?_append_right (Nat.le_refl _), Nat.sub_self] at hj
    cases hj
    exact h x (List.mem_of_getElem? hi)
/-- what a row has become behind the letters L -/
structure RowInv (w : Wd) (ws : List Wd) (L : List Nat) (s : List Wd × List Nat) : Prop where
  pre : ∃ t, s.1 = ws ++ t
  len : s.2.length = L.length
  apart : Apart R s.1
  at_ : ∀ (j x : Nat), s.2[j]? = some x → ∃ a u, L[j]? = some a ∧ s.1[x]? = some u ∧ R u (w ++ [a])
  new : ∀ u ∈ s.1, u ∈ ws ∨ ∃ a ∈ L, u = w ++ [a]
theorem one_inv {w : Wd} {ws : List Wd} {L : List Nat} {s : List Wd × List Nat} (I : RowInv (R := R) w ws L s) (a : Nat) : RowInv (R := R) w ws (L ++ [a]) (one R w s a) := by
  obtain ⟨⟨t, pre⟩, len, apart, at_, new⟩ := I
  have atL : ∀ (j x : Nat) (l : List Nat), l.length = L.length → (l ++ [x])[j]? = some x ∨ True := fun _ _ _ _ => .inr trivial
  unfold one
  cases e : place R s.1 (w ++ [a]) with
  | some i =>
    obtain ⟨x, hx, rx, _⟩ := place_some E e
    refine ⟨⟨t, pre⟩, by simp [len], apart, fun j y hj => ?_, fun u hu => ?_⟩
    · by_cases c : j < s.2.length
      · rw [List.getElem?_append_left c] at hj
        obtain ⟨b, u, h1, h2, h3⟩ := at_ j y hj
        exact ⟨b, u, by rw [List.getElem?_append_left (by omega)]; exact h1, h2, h3⟩
      · have hj2 := (List.getElem?_eq_some_iff.mp hj).1
        rw [List.length_append, List.length_singleton] at hj2
        have : j = s.2.length := by omega
        subst this
        rw [List.getElem?_append_right (Nat.le_refl _), Nat.sub_self] at hj
        cases hj
        refine ⟨a, x, ?_, hx, rx⟩
        rw [len, List.getElem?_append_right (Nat.le_refl _), Nat.sub_self] <;> rfl
    · rcases new u hu with z | ⟨b, hb, z⟩
      · exact .inl z
      · exact .inr ⟨b, List.mem_append_left _ hb, z⟩
  | none =>
    have nw := place_none E e
    refine ⟨⟨t ++ [w ++ [a]], by rw [← List.append_assoc, ← pre]⟩, by simp [len], apart_snoc E apart nw, fun j y hj => ?_, fun u hu => ?_⟩
    · by_cases c : j < s.2.length
      · rw [List.getElem?_append_left c] at hj
        obtain ⟨b, u, h1, h2, h3⟩ := at_ j y hj
        exact ⟨b, u, by rw [List.getElem?_append_left (by omega)]; exact h1, by rw [List.getElem?_append_left (List.getElem?_eq_some_iff.mp h2).1]; exact h2, h3⟩
      · have hj2 := (List.getElem?_eq_some_iff.mp hj).1
        rw [List.length_append, List.length_singleton] at hj2
        have : j = s.2.length := by omega
        subst this
        rw [List.getElem?_append_right (Nat.le_refl _), Nat.sub_self] at hj
        cases hj
        refine ⟨a, w ++ [a], ?_, ?_, E.refl _⟩
        · rw [len, List.getElem?_append_right (Nat.le_refl _), Nat.sub_self] <;> rfl
        · rw [List.getElem?_append_right (Nat.le_refl _), Nat.sub_self] <;> rfl
    · rcases List.mem_append.mp hu with z | z
      · rcases new u z with z | ⟨b, hb, z⟩
        · exact .inl z
        · exact .inr ⟨b, List.mem_append_left _ hb, z⟩
      · exact .inr ⟨a, by simp, List.mem_singleton.mp z⟩
theorem row_inv {w : Wd} {ws : List Wd} (A : Apart R ws) (L : List Nat) : RowInv (R := R) w ws L (rowOf R w L ws) := by
  have go : ∀ (n : Nat) (L : List Nat), L.length = n → RowInv (R := R) w ws L (rowOf R w L ws) := by
    intro n
    induction n with
    | zero =>
      intro L h
      have : L = [] := List.eq_nil_of_length_eq_zero h
      subst this
      exact ⟨⟨[], by simp [rowOf]⟩, rfl, A, fun j x h => by simp [rowOf] at h, fun u hu => .inl hu⟩
    | succ n ih =>
      intro L h
      have hne : L ≠ [] := fun e => by rw [e] at h; cases h
      obtain ⟨L0, a, rfl⟩ : ∃ L0 a, L = L0 ++ [a] := ⟨L.dropLast, L.getLast hne, (List.dropLast_concat_getLast hne).symm⟩
      rw [rowOf_snoc]
      exact one_inv E (ih L0 (by simpa using h)) a
  exact go _ L rfl
/-- the state of the search -/
structure StInv (L : List Nat) (k : Nat) (s : List Wd × List (List Nat)) : Prop where
  first : s.1[0]? = some []
  apart : Apart R s.1
  len : s.2.length = min k s.1.length
  at_ : ∀ (i : Nat) (r : List Nat), s.2[i]? = some r → ∃ w, s.1[i]? = some w ∧ r.length = L.length ∧ ∀ (j x : Nat), r[j]? = some x → ∃ a u, L[j]? = some a ∧ s.1[x]? = some u ∧ R u (w ++ [a])
  over : ∀ u ∈ s.1, ∀ c ∈ u, c ∈ L
  short : ∀ (i : Nat) (u : Wd), s.1[i]? = some u → u.length ≤ i
theorem st_succ (L : List Nat) (k : Nat) : (st R L (k + 1) = st R L k ∧ (st R L k).1.length ≤ k) ∨ ∃ w, (st R L k).1[k]? = some w ∧ st R L (k + 1) = ((rowOf R w L (st R L k).1).1, (st R L k).2 ++ [(rowOf R w L (st R L k).1).2]) := by
  cases e : (st R L k).1[k]? with
  | none =>
    refine .inl ⟨?_, List.getElem?_eq_none_iff.mp e⟩
    rw [st, e]
  | some w =>
    refine .inr ⟨w, rfl, ?_⟩
    rw [st, e]
theorem st_inv (L : List Nat) : ∀ k, StInv (R := R) L k (st R L k)
  | 0 => by
    have e : (st R L 0) = ([[]], []) := rfl
    rw [e]
    refine ⟨rfl, fun i j u v hi hj hij => ?_, rfl, fun i r h => by simp at h, fun u hu c hc => ?_, fun i u h => ?_⟩
    · have h2 : j < 1 := (List.getElem?_eq_some_iff.mp hj).1
      omega
    · rw [List.mem_singleton.mp hu] at hc
      cases hc
    · have h3 : i < 1 := (List.getElem?_eq_some_iff.mp h).1
      have e0 : i = 0 := by omega
      subst e0
      cases h
      exact Nat.le_refl _
  | k + 1 => by
    have I := st_inv L k
    rcases st_succ E L k with ⟨e, hk⟩ | ⟨w, hw, e⟩
    · rw [e]
      exact ⟨I.first, I.apart, by rw [I.len]; omega, I.at_, I.over, I.short⟩
    · rw [e]
      have hkl := (List.getElem?_eq_some_iff.mp hw).1
      have V := row_inv E (w := w) I.apart L
      generalize rowOf R w L (st R L k).1 = q at V
      obtain ⟨⟨t, pre⟩, len, apart, at_, new⟩ := V
      have up : ∀ {i : Nat} {u : Wd}, (st R L k).1[i]? = some u → q.1[i]? = some u := fun {i u} h => by
        rw [pre, List.getElem?_append_left (List.getElem?_eq_some_iff.mp h).1]
        exact h
      have lq : (st R L k).1.length ≤ q.1.length := by rw [pre, List.length_append]; omega
      refine ⟨up I.first, apart, ?_, fun i r h => ?_, fun u hu c hc => ?_, fun i u h => ?_⟩
      · show ((st R L k).2 ++ [q.2]).length = min (k + 1) q.1.length
        rw [List.length_append, List.length_singleton, I.len]
        omega
      · have h : ((st R L k).2 ++ [q.2])[i]? = some r := h
        by_cases c : i < (st R L k).2.length
        · rw [List.getElem?_append_left c] at h
          obtain ⟨w', h1, h2, h3⟩ := I.at_ i r h
          refine ⟨w', up h1, h2, fun j x hj => ?_⟩
          obtain ⟨a, u, g1, g2, g3⟩ := h3 j x hj
          exact ⟨a, u, g1, up g2, g3⟩
        · have h2 := (List.getElem?_eq_some_iff.mp h).1
          rw [List.length_append, List.length_singleton] at h2
          have ei : i = (st R L k).2.length := by omega
          have ek : (st R L k).2.length = k := by rw [I.len]; omega
          rw [ei, List.getElem?_append_right (Nat.le_refl _), Nat.sub_self] at h
          cases h
          rw [ei, ek]
          exact ⟨w, up hw, len, at_⟩
      · rcases new u hu with z | ⟨b, hb, rfl⟩
        · exact I.over u z c hc
        · rcases List.mem_append.mp hc with z | z
          · exact I.over w (List.mem_of_getElem? hw) c z
          · rw [List.mem_singleton.mp z]; exact hb
      · rcases Nat.lt_or_ge i (st R L k).1.length with c | c
        · have h' : q.1[i]? = some u := h
          rw [pre, List.getElem?_append_left c] at h'
          exact I.short i u h'
        · rcases new u (List.mem_of_getElem? h) with z | ⟨b, hb, rfl⟩
          · obtain ⟨j, hj, rfl⟩ := List.getElem_of_mem z
            have := I.short j _ (List.getElem?_eq_getElem hj)
            omega
          · have := I.short k w hw
            rw [List.length_append, List.length_singleton]
            omega
theorem st_pre (L : List Nat) (k : Nat) : ∃ t, (st R L (k + 1)).1 = (st R L k).1 ++ t := by
  rcases st_succ E L k with ⟨e, _⟩ | ⟨w, _, e⟩
  · exact ⟨[], by rw [e, List.append_nil]⟩
  · rw [e]
    exact (row_inv E (st_inv E L k).apart L).pre
theorem st_mono (L : List Nat) {k k' : Nat} (h : k ≤ k') : (st R L k).1.length ≤ (st R L k').1.length := by
  induction h with
  | refl => exact Nat.le_refl _
  | step _ ih =>
    obtain ⟨t, e⟩ := st_pre E L _
    rw [e, List.length_append]
    omega
/-- it is done: nothing new comes -/
theorem st_done (L : List Nat) {k : Nat} (h : (st R L k).1.length ≤ k) : ∀ m, st R L (k + m) = st R L k
  | 0 => rfl
  | m + 1 => by
    have ih := st_done L h m
    rcases st_succ E L (k + m) with ⟨e, _⟩ | ⟨w, hw, _⟩
    · exact e.trans ih
    · rw [ih] at hw
      have := (List.getElem?_eq_some_iff.mp hw).1
      omega
/-! ### a whole table -/
/-- with fewer kinds than rows told -/
structure Whole (L : List Nat) (ws : List Wd) (rows : List (List Nat)) : Prop where
  first : ws[0]? = some []
  apart : Apart R ws
  len : rows.length = ws.length
  at_ : ∀ (i : Nat) (r : List Nat), rows[i]? = some r → ∃ w, ws[i]? = some w ∧ r.length = L.length ∧ ∀ (j x : Nat), r[j]? = some x → ∃ a u, L[j]? = some a ∧ ws[x]? = some u ∧ R u (w ++ [a])
  over : ∀ u ∈ ws, ∀ c ∈ u, c ∈ L
  short : ∀ (i : Nat) (u : Wd), ws[i]? = some u → u.length ≤ i
theorem whole_of {L : List Nat} {k : Nat} (h : (st R L k).1.length ≤ k) : Whole (R := R) L (st R L k).1 (st R L k).2 := by
  have I := st_inv E L k
  exact ⟨I.first, I.apart, by rw [I.len]; omega, I.at_, I.over, I.short⟩
variable {L : List Nat} {ws : List Wd} {rows : List (List Nat)}
omit E in
theorem Whole.ok (T : Whole (R := R) L ws rows) : ∀ r ∈ rows, r.length = L.length ∧ ∀ x ∈ r, x < rows.length := fun r hr => by
  obtain ⟨i, hi, rfl⟩ := List.getElem_of_mem hr
  obtain ⟨w, _, h2, h3⟩ := T.at_ i _ (List.getElem?_eq_getElem hi)
  refine ⟨h2, fun x hx => ?_⟩
  obtain ⟨j, hj, rfl⟩ := List.getElem_of_mem hx
  obtain ⟨a, u, _, g, _⟩ := h3 j _ (List.getElem?_eq_getElem hj)
  rw [T.len]
  exact (List.getElem?_eq_some_iff.mp g).1
/-- the number of a word: where its kind stands -/
theorem Whole.walk (T : Whole (R := R) L ws rows) (cg : ∀ {u v : Wd} (a : Nat), R u v → R (u ++ [a]) (v ++ [a])) (w : Wd) (hw : ∀ c ∈ w, c ∈ L) :
    ∃ x, ws[w.foldl (fun s c => (rows.getD s []).getD (L.idxOf c) 0) 0]? = some x ∧ R x w := by
  have go : ∀ (n : Nat) (w : Wd), w.length = n → (∀ c ∈ w, c ∈ L) → ∃ x, ws[w.foldl (fun s c => (rows.getD s []).getD (L.idxOf c) 0) 0]? = some x ∧ R x w := by
    intro n
    induction n with
    | zero =>
      intro w h _
      have : w = [] := List.eq_nil_of_length_eq_zero h
      subst this
      exact ⟨[], T.first, E.refl _⟩
    | succ n ih =>
      intro w h hw
      have hne : w ≠ [] := fun e => by rw [e] at h; cases h
      obtain ⟨u, c, rfl⟩ : ∃ u c, w = u ++ [c] := ⟨w.dropLast, w.getLast hne, (List.dropLast_concat_getLast hne).symm⟩
      obtain ⟨x, hx, rx⟩ := ih u (by simpa using h) fun d hd => hw d (List.mem_append_left _ hd)
      rw [List.foldl_append]
      show ∃ y, ws[(rows.getD (u.foldl (fun s c => (rows.getD s []).getD (L.idxOf c) 0) 0) []).getD (L.idxOf c) 0]? = some y ∧ R y (u ++ [c])
      generalize u.foldl (fun s c => (rows.getD s []).getD (L.idxOf c) 0) 0 = s at hx
      have hs : s < rows.length := by rw [T.len]; exact (List.getElem?_eq_some_iff.mp hx).1
      have hc : c ∈ L := hw c (by simp)
      obtain ⟨w', g1, g2, g3⟩ := T.at_ s _ (List.getElem?_eq_getElem hs)
      rw [hx] at g1
      cases g1
      have hj : L.idxOf c < rows[s].length := by rw [g2]; exact List.idxOf_lt_length_iff.mpr hc
      obtain ⟨a, y, k1, k2, k3⟩ := g3 _ _ (List.getElem?_eq_getElem hj)
      have ea : a = c := by
        rw [List.getElem?_eq_getElem (List.idxOf_lt_length_iff.mpr hc)] at k1
        rw [← Option.some.inj k1]
        exact List.getElem_idxOf _
      subst ea
      refine ⟨y, ?_, E.trans k3 (cg _ rx)⟩
      have e1 : rows.getD s [] = rows[s] := by rw [List.getD_eq_getElem?_getD, List.getElem?_eq_getElem hs] <;> rfl
      rw [e1, List.getD_eq_getElem?_getD, List.getElem?_eq_getElem hj]
      exact k2
  exact go _ w rfl hw
omit E in
theorem nodup_len {l : List Nat} (n : Nat) (nd : l.Nodup) (h : ∀ x ∈ l, x < n) : l.length ≤ n := by
  have go : ∀ (l D : List Nat), l.Nodup → (∀ x ∈ l, x ∈ D) → l.length ≤ D.length := by
    intro l
    induction l with
    | nil => intro D _ _; exact Nat.zero_le _
    | cons x l ih =>
      intro D n h
      obtain ⟨A, B, rfl⟩ := List.append_of_mem (h x List.mem_cons_self)
      obtain ⟨n1, n2⟩ := List.nodup_cons.mp n
      have := ih (A ++ B) n2 fun y hy => by
        rcases List.mem_append.mp (h y (List.mem_cons_of_mem _ hy)) with z | z
        · exact List.mem_append_left _ z
        · rcases List.mem_cons.mp z with z | z
          · rw [z] at hy; exact absurd hy n1
          · exact List.mem_append_right _ z
      simp only [List.length_append, List.length_cons] at this ⊢
      omega
  have := go l (List.range n) nd fun x hx => List.mem_range.mpr (h x hx)
  rwa [List.length_range] at this
/-- finer kinds are not fewer -/
theorem Whole.bound (T : Whole (R := R) L ws rows) (cg : ∀ {u v : Wd} (a : Nat), R u v → R (u ++ [a]) (v ++ [a])) {R' : Wd → Wd → Prop} (E' : Eqv R') (co : ∀ {u v}, R u v → R' u v) {ws' : List Wd} (A : Apart R' ws') (ov : ∀ u ∈ ws', ∀ c ∈ u, c ∈ L) : ws'.length ≤ ws.length := by
  have num : ∀ u ∈ ws', ∃ i x, ws[i]? = some x ∧ R x u := fun u hu => ⟨_, T.walk E cg u (ov u hu)⟩
  have f : ∀ i, i < ws'.length → ∃ n x, ws[n]? = some x ∧ ∃ u, ws'[i]? = some u ∧ R x u := fun i hi => by
    obtain ⟨n, x, h1, h2⟩ := num ws'[i] (List.getElem_mem hi)
    exact ⟨n, x, h1, _, List.getElem?_eq_getElem hi, h2⟩
  let g : Nat → Nat := fun i => if h : i < ws'.length then (f i h).choose else 0
  have gs : ∀ i, i < ws'.length → ∃ x, ws[g i]? = some x ∧ ∃ u, ws'[i]? = some u ∧ R x u := fun i hi => by
    have e : g i = (f i hi).choose := dif_pos hi
    rw [e]
    exact (f i hi).choose_spec
  have nd : ((List.range ws'.length).map g).Nodup := by
    refine List.pairwise_map.mpr (List.Pairwise.imp_of_mem (fun {i j} hi hj hij e => ?_) List.pairwise_lt_range)
    obtain ⟨x, hx, u, hu, ru⟩ := gs i (List.mem_range.mp hi)
    obtain ⟨y, hy, v, hv, rv⟩ := gs j (List.mem_range.mp hj)
    rw [e, hy] at hx
    cases hx
    exact A i j u v hu hv hij (E'.trans (E'.symm (co ru)) (co rv))
  have := nodup_len (l := (List.range ws'.length).map g) ws.length nd fun n hn => by
    obtain ⟨i, hi, rfl⟩ := List.mem_map.mp hn
    obtain ⟨x, hx, _⟩ := gs i (List.mem_range.mp hi)
    exact (List.getElem?_eq_some_iff.mp hx).1
  rwa [List.length_map, List.length_range] at this
end Bf
end
section
set_option Elab.async false
set_option linter.all false
set_option maxRecDepth 100000
set_option maxHeartbeats 1000000
/-! rank_items, since_items, once_items -/
namespace K71
open PySem PySem.Spec SG
open L2 hiding It
open PyProof.Rows hiding St
def k3 (t : Lv.IT) : NestedKey := .tup [.num t.1, .text (tx [t.2.1]), .num t.2.2]
def k2 (t : Lv.IT) : NestedKey := .tup [.text (tx [t.2.1]), .num t.1]
theorem alike3 (a b : Lv.IT) : PySem.W.alike (k3 a).data (k3 b).data = true := rfl
theorem alike2 (a b : Lv.IT) : PySem.W.alike (k2 a).data (k2 b).data = true := rfl
theorem depth3 (a : Lv.IT) : (k3 a).depth = 1 := rfl
theorem depth2 (a : Lv.IT) : (k2 a).depth = 1 := rfl
section
variable {K : PySem.W.Frag} {H H' : Hp}
theorem itAt_same {p : It} (e : Same H H') (h : ItAt K H p) : ItAt K H' p := ⟨KeyAt.stay (TupsStay.of e) _ _ h.1, h.2⟩
theorem items_dp : ∀ {xs : List V} {ks : List NestedKey}, DpAll K H xs (NestedKey.datas ks) → (∀ k ∈ ks, (∃ l, k = .tup l) ∧ k.depth ≤ 8) → ∃ L : List It, xs = L.map (fun p => V.ref p.1) ∧ L.map (·.2) = ks ∧ ∀ p ∈ L, ItAt K H p
  | _, [], .nil, _ => ⟨[], rfl, rfl, fun p h => nomatch h⟩
  | _, k :: ks, .cons h r, hk => by
    obtain ⟨⟨l, rfl⟩, hd⟩ := hk k List.mem_cons_self
    obtain ⟨L, e1, e2, e3⟩ := items_dp r fun k' h' => hk k' (List.mem_cons_of_mem _ h')
    obtain ⟨a, ys, rfl, h1, h2⟩ := Dp.tupOf (show Dp K H _ (.tuple (NestedKey.datas l)) from h)
    refine ⟨(a, .tup l) :: L, by rw [e1, List.map_cons], by rw [List.map_cons, e2], fun p hp => ?_⟩
    rcases List.mem_cons.mp hp with z | z
    · rw [z]; exact ⟨h, hd⟩
    · exact e3 p z
theorem dp_items : ∀ {L : List It}, (∀ p ∈ L, ItAt K H p) → DpAll K H (L.map fun p => V.ref p.1) (NestedKey.datas (L.map (·.2)))
  | [], _ => .nil
  | p :: L, h => .cons (h p List.mem_cons_self).1 (dp_items fun q hq => h q (List.mem_cons_of_mem _ hq))
theorem datas_map (ks : List NestedKey) : NestedKey.datas ks = ks.map NestedKey.data := by
  induction ks with
  | nil => rfl
  | cons k ks ih => rw [NestedKey.datas, ih] <;> rfl
theorem srt_canon {L L' ks : List It} (p : L'.Perm L) (nd : (L.map (·.2)).Nodup) (h1 : ∀ q ∈ L, q ∈ ks) (h2 : ∀ q ∈ ks, q.2 ∈ L.map (·.2)) (al : Cn.Alike (ks.map (·.2))) : (srt L').map (·.2) = Cn.canon (ks.map (·.2)) := by
  unfold srt
  rw [PySem.W.sort_maps (r := PySem.W.dataLe false fun p : It => p.2.data) (s := Cn.le) (fun q : It => q.2) (l := L') (fun a _ b _ => rfl)]
  refine Cn.canon_of ((p.map (·.2)).nodup_iff.mpr nd) (fun x => ?_) al
  rw [(p.map (·.2)).mem_iff]
  constructor
  · intro hx
    obtain ⟨q, hq, rfl⟩ := List.mem_map.mp hx
    exact List.mem_map.mpr ⟨q, h1 q hq, rfl⟩
  · intro hx
    obtain ⟨q, hq, rfl⟩ := List.mem_map.mp hx
    exact h2 q hq
theorem kin_of {L : List It} {f : Lv.IT → NestedKey} (hf : ∀ a b, PySem.W.alike (f a).data (f b).data = true) (ht : ∀ a, ∃ x r, (f a).data = .tuple (x :: r)) (h : ∀ p ∈ L, ∃ t, p.2 = f t) : Kin L := by
  constructor
  · intro d hd d' hd'
    obtain ⟨p, hp, rfl⟩ := List.mem_map.mp hd
    obtain ⟨q, hq, rfl⟩ := List.mem_map.mp hd'
    obtain ⟨a, ea⟩ := h p hp
    obtain ⟨b, eb⟩ := h q hq
    show PySem.W.alike p.2.data q.2.data = true
    rw [ea, eb]
    exact hf a b
  · refine .inl fun d hd => ?_
    obtain ⟨p, hp, rfl⟩ := List.mem_map.mp hd
    obtain ⟨a, ea⟩ := h p hp
    show ∃ x r, p.2.data = _
    rw [ea]
    exact ht a
theorem keyMap {L : List It} {f : Lv.IT → NestedKey} {its : List Lv.IT} (e : L.map (·.2) = its.map f) : ∀ p ∈ L, ∃ t, p.2 = f t := fun p hp => by
  have : p.2 ∈ its.map f := by rw [← e]; exact List.mem_map.mpr ⟨p, hp, rfl⟩
  obtain ⟨t, _, q⟩ := List.mem_map.mp this
  exact ⟨t, q.symm⟩
theorem its_fit (f : Lv.IT → NestedKey) (h : ∀ a, (∃ l, f a = .tup l) ∧ (f a).depth ≤ 8) (its : List Lv.IT) : ∀ k ∈ its.map f, (∃ l, k = .tup l) ∧ k.depth ≤ 8 := fun k hk => by
  obtain ⟨t, _, rfl⟩ := List.mem_map.mp hk
  exact h t
theorem fit3 (a : Lv.IT) : (∃ l, k3 a = .tup l) ∧ (k3 a).depth ≤ 8 := ⟨⟨_, rfl⟩, by rw [depth3]; decide⟩
theorem fit2 (a : Lv.IT) : (∃ l, k2 a = .tup l) ∧ (k2 a).depth ≤ 8 := ⟨⟨_, rfl⟩, by rw [depth2]; decide⟩
theorem alikeAll3 (its : List Lv.IT) : Cn.Alike (its.map k3) := fun a ha b hb => by
  obtain ⟨x, _, rfl⟩ := List.mem_map.mp ha
  obtain ⟨y, _, rfl⟩ := List.mem_map.mp hb
  exact alike3 x y
theorem alikeAll2 (its : List Lv.IT) : Cn.Alike (its.map k2) := fun a ha b hb => by
  obtain ⟨x, _, rfl⟩ := List.mem_map.mp ha
  obtain ⟨y, _, rfl⟩ := List.mem_map.mp hb
  exact alike2 x y
end
/-- tuple(sorted(set(xs))) -/
theorem sortset {K : PySem.W.Frag} {P : Program} {w : World} {H : Hp} {D : Addr} {ks : List It} {Q : VK} (hl : SqL K H D (ks.map fun p => V.ref p.1)) (hk : ∀ p ∈ ks, ItAt K H p) (few : ks.length < most) (kin : Kin ks) (al : Cn.Alike (ks.map (·.2)))
    (q : ∀ v H', Same H H' → Dp K H' v (.tuple (NestedKey.datas (Cn.canon (ks.map (·.2))))) → Q v H') :
    rSetN K P w [.ref D] H fun v1 H1 => rSortedN K P w [v1] H1 fun v2 H2 => ∃ p ys, [v2] = [V.ref p] ∧ ((SqL K H2 p ys ∧ ∀ l, H2 l = none → Q (.ref l) (upd H2 l (.tup ys))) ∨ (SqT K H2 p ys ∧ Q (.ref p) H2)) := by
  refine ⟨D, ks, rfl, hl, hk, few, fun a L na h1 h2 nd => ?_⟩
  have s1 : Same H (upd H a (SetNO P w a L)) := same_new na
  refine ⟨a, L, rfl, upd_same, fun p hp => itAt_same s1 (hk p (h1 p hp)), ?_, fun L' p pm np => ?_⟩
  · have sub : ∀ d, d ∈ L.map (fun p => p.2.data) → d ∈ ks.map fun p => p.2.data := fun d hd => by
      obtain ⟨x, hx, rfl⟩ := List.mem_map.mp hd
      exact List.mem_map.mpr ⟨x, h1 x hx, rfl⟩
    exact ⟨fun d hd d' hd' => kin.1 d (sub d hd) d' (sub d' hd'), kin.2.imp (fun k d hd => k d (sub d hd)) fun k d hd => k d (sub d hd)⟩
  · have s2 := s1.trans (same_new (o := .lst ((srt L').map fun q => V.ref q.1)) np)
    refine ⟨p, _, rfl, .inl ⟨SqL.of upd_same, fun l nl => ?_⟩⟩
    have s3 := s2.trans (same_new (o := .tup ((srt L').map fun q => V.ref q.1)) nl)
    refine q _ _ s3 ?_
    rw [← srt_canon pm nd h1 h2 al]
    exact .tup (.of upd_same) (dp_items fun r hr => itAt_same s3 (hk r (h1 r (pm.mem_iff.mp ((srt_perm L').mem_iff.mp hr)))))
/-- the items of a kind, a letter further: rank -/
def rankNext (rows : List (List Nat)) (L : List Nat) (number at_ : Nat) (its : List Lv.IT) : List Lv.IT := its.map (fun t => (t.1, t.2.1, stepN rows t.2.2 at_)) ++ [(number, L.getD at_ 0, 0)]
section
variable {P : Program} {w : World} {K : PySem.W.Frag} {mg : Str → Option Value} {base : Heap}
def spRank (K : PySem.W.Frag) : Sp := fun vs H Q _ => ∃ (L : List Nat) (rows : List (List Nat)) (its : List Lv.IT) (number at_ : Nat) (vi vb : V), vs = [vi, .int number, .str (tx L), .int at_, vb] ∧ Dp K H vi (.tuple (NestedKey.datas (its.map k3))) ∧ Dp K H vb (.list (rows.map rowD)) ∧
  RowsOk rows L.length ∧ at_ < L.length ∧ L.length ≤ 3 ∧ (∀ t ∈ its, t.2.2 < rows.length) ∧ its.length + 2 < most ∧
  ∀ v H', Same H H' → Dp K H' v (.tuple (NestedKey.datas (Cn.canon ((rankNext rows L number at_ its).map k3)))) → Q v H'
theorem sizeLine_le {n : Nat} (h : n ≤ 100000) : n ≤ sizeLine := by rw [sizeLine_eq]; omega
theorem take_snoc_map {its : List Lv.IT} {i : Nat} {t : Lv.IT} {f : Lv.IT → NestedKey} (h : its[i]? = some t) : (its.take (i + 1)).map f = (its.take i).map f ++ [f t] := by rw [List.take_succ, h, List.map_append] <;> rfl
theorem ok_rank {f : Addr} {fd : FuncData} {k : Nat} (F : Fun K "rank_items" "rank_items" s_rank_items f fd) (T : Blt mg) : FnOk P w K mg base CX0 (k + 1) f fd ["items", "number", "letters", "at", "below"] (spRank K) := by
  refine F.ok sc_rank_items (fun vs H Q E h => ?_) (fun cdv A outer s H vs Q E hr h => ?_)
  · obtain ⟨L, rows, its, number, at_, vi, vb, rfl, _⟩ := h
    rfl
  · obtain ⟨L, rows, its, number, at_, vi, vb, rfl, hI, hB, ok, hat, hL3, hbe, hfew, q⟩ := h
    refine ⟨_, (pss_cons (ps_setLc (i := 5) (own := [("before", 6), ("letter", 7), ("behind", 8)]) (g := gTup K 3 (gCons (gName 6) (gCons (gName 7) (gCons (gName 8) gNil)))) rfl sc_rank_items.nd rfl rfl (sw_true rfl rfl rfl (by decide +kernel)) (pi_tup (pv 0)) (blkOk_by (own := [("before", 6), ("letter", 7), ("behind", 8)]) (N := N_rank_items) (sc := defScope s_rank_items) (by decide +kernel)) (fun _ _ _ _ _ => (pg_tupK rfl rfl (pgs_cons (pg_name (i := 6) sc_rank_items.nd rfl (Or.inl rfl)) (pgs_cons (pg_name (i := 7) sc_rank_items.nd rfl (Or.inl rfl)) (pgs_cons (pg_name (i := 8) sc_rank_items.nd rfl (Or.inl rfl)) pgs_nil))))) (fun _ _ _ _ _ => pts_nil) (fun _ _ _ _ _ => (pe_tup (pa_cons (pv 6) (pa_cons (pv 7) (pa_cons (pe_ix (ix_tupK (K := K) rfl) (pe_ix (ix_listK (K := K) rfl) (pv 4) (pv 8) (fun _ _ => rfl)) (pv 3) (fun _ _ => rfl)) pa_nil))))))
      (pss_cons (ps_expr (pe_bm PySem.F.plainAttrs_list PySem.F.slot_list_append PySem.F.type_list_append mt_append (pv 5) (pa_cons (pe_tup (pa_cons (pv 1) (pa_cons (pe_ix ix_str (pv 2) (pv 3) (fun _ _ => rfl)) (pa_cons pe_int pa_nil)))) pa_nil)))
      (pss_one (ps_ret (pe_callTy call_tuple_of (by rfl) T.tuple (by decide +kernel) (pa_cons (pe_callB (SG.cr_sortedN rfl hr.units) (by rfl) T.sorted (by decide +kernel) (pa_cons (pe_callTy (SG.cr_setN rfl hr.units) (by rfl) T.set (by decide +kernel) (pa_cons (pv 5) pa_nil)) pa_nil)) pa_nil)))))), ?_⟩
    obtain ⟨ai, xs, rfl, i1, i2⟩ := Dp.tupOf hI
    obtain ⟨ab, bs, rfl, b1, b2⟩ := Dp.lstOf hB
    obtain ⟨Li, e1, e2, e3⟩ := items_dp i2 (its_fit k3 fit3 its)
    have hlen : Li.length = its.length := by
      have := congrArg List.length e2
      simpa using this
    refine ⟨_, rfl, ai, rfl, ⟨_, i1⟩, fun D hD => ?_⟩
    have s0 : Same H (upd H D (.lst [])) := same_new hD
    refine lc_tup (K := K) (a := ai) (xs := xs) (fun i H' => Same H H' ∧ ∃ M : List It, H' D = some (.lst (M.map fun p => V.ref p.1)) ∧ (∀ p ∈ M, ItAt K H' p) ∧ M.map (·.2) = ((its.take i).map fun t => k3 (t.1, t.2.1, stepN rows t.2.2 at_))) ⟨s0, [], upd_same, (fun p h => by cases h), rfl⟩ (fun i H' _ hP => TupsStay.sqT (.of hP.1) i1) (fun i x H' hx hP => ?_) (fun H' hP => ?_)
    · obtain ⟨sm, M, hM, hMk, hMe⟩ := hP
      rw [e1, List.getElem?_map] at hx
      obtain ⟨p, hp, rfl⟩ := Option.map_eq_some_iff.mp hx
      have hpm : p ∈ Li := List.mem_of_getElem? hp
      have hit : ∃ t, its[i]? = some t ∧ p.2 = k3 t := by
        have q1 : (Li.map (·.2))[i]? = some p.2 := by rw [List.getElem?_map, hp] <;> rfl
        rw [e2, List.getElem?_map] at q1
        obtain ⟨t, ht, q2⟩ := Option.map_eq_some_iff.mp q1
        exact ⟨t, ht, q2.symm⟩
      obtain ⟨t, ht, ek⟩ := hit
      have pk := (itAt_same sm (e3 p hpm)).1
      unfold KeyAt at pk
      rw [ek] at pk
      obtain ⟨a, ys, ea, y1, y2⟩ := Dp.tupOf (show Dp K H' (.ref p.1) (.tuple [.int t.1, .str (tx [t.2.1]), .int t.2.2]) from pk)
      cases ea
      cases y2 with
      | cons c1 y2 => cases y2 with
        | cons c2 y2 => cases y2 with
          | cons c3 y2 =>
            cases y2
            cases c1; cases c2; cases c3
            refine ⟨_, _, rfl, y1, rfl, _, _, rfl, _, _, rfl, _, _, rfl, rfl, ?_⟩
            refine ⟨rfl, ?_⟩
            have hb : t.2.2 < rows.length := hbe t (List.mem_of_getElem? ht)
            obtain ⟨p2, zs, g1, g2, g3⟩ := rows_get (b2.same sm) ok hb hat
            refine ⟨_, rfl, _, rfl, _, rfl, _, rfl, ab, bs, _, _, rfl, rfl, sm.seq b1, atI_nat g1, _, rfl, p2, zs, _, _, rfl, rfl, g2, atI_nat g3, ?_⟩
            refine ⟨sizeLine_le (by show 3 ≤ _; decide), fun C hC => ?_⟩
            have nD : D ≠ C := fun z => by rw [z, hC] at hM; cases hM
            have s2 : Same H' (upd H' C (.tup [.int t.1, .str (tx [t.2.1]), .int (stepN rows t.2.2 at_ : Nat)])) := same_new hC
            have lM : M.length = min i its.length := by
              have := congrArg List.length hMe
              simpa using this
            refine ⟨M.map (fun p => V.ref p.1), by rw [upd_ne nD]; exact hM, by rw [List.length_map]; exact Nat.lt_of_le_of_lt (show M.length ≤ 1000 by unfold most at hfew; omega) (by rw [sizeLine_eq]; decide), ?_⟩
            have new : ItAt K (upd H' C (.tup [.int t.1, .str (tx [t.2.1]), .int (stepN rows t.2.2 at_ : Nat)])) (C, k3 (t.1, t.2.1, stepN rows t.2.2 at_)) :=
              ⟨.tup (.of upd_same) (.cons (.int _) (.cons (.str _) (.cons (.int _) .nil))), by rw [depth3]; decide⟩
            have s3 : TupsStay (upd H' C (.tup [.int t.1, .str (tx [t.2.1]), .int (stepN rows t.2.2 at_ : Nat)])) (upd (upd H' C (.tup [.int t.1, .str (tx [t.2.1]), .int (stepN rows t.2.2 at_ : Nat)])) D (.lst (M.map (fun p => V.ref p.1) ++ [V.ref C]))) :=
              .upd (fun xs z => by rw [upd_ne nD, hM] at z; cases z) fun o u z => by rw [upd_ne nD, hM] at z; cases z
            refine ⟨fun b o e => ?_, M ++ [(C, k3 (t.1, t.2.1, stepN rows t.2.2 at_))], by rw [upd_same, List.map_append] <;> rfl, fun p hp => ?_, ?_⟩
            · have nb : b ≠ D := fun z => by rw [z, hD] at e; cases e
              rw [upd_ne nb]
              exact s2 b o (sm b o e)
            · rcases List.mem_append.mp hp with z | z
              · exact ⟨KeyAt.stay s3 _ _ (itAt_same s2 (hMk p z)).1, (hMk p z).2⟩
              · rw [List.mem_singleton.mp z]
                exact ⟨KeyAt.stay s3 _ _ new.1, new.2⟩
            · rw [List.map_append, hMe, take_snoc_map ht] <;> rfl
    · obtain ⟨sm, M, hM, hMk, hMe⟩ := hP
      have exl : xs.length = its.length := by rw [e1, List.length_map, hlen]
      rw [exl, List.take_length] at hMe
      -- longer.append(..)
      have hc : L[at_]? = some (L.getD at_ 0) := by rw [List.getD_eq_getElem?_getD, List.getElem?_eq_getElem hat] <;> rfl
      refine ⟨_, rfl, .inl ⟨rfl, _, SqL.of hM⟩, _, rfl, _, rfl, _, rfl, tx L, at_, L.getD at_ 0, rfl, rfl, by rw [tx_len]; exact sizeLine_le (by omega), by rw [tx_list]; exact atI_nat hc, ?_⟩
      refine ⟨sizeLine_le (by show 3 ≤ _; decide), fun C hC => ?_⟩
      have nD : D ≠ C := fun z => by rw [z, hC] at hM; cases hM
      have lM : M.length = its.length := by
        have := congrArg List.length hMe
        simpa using this
      have s1 : Same H' (upd H' C (.tup [.int number, .str (tx [L.getD at_ 0]), .int 0])) := same_new hC
      have s2 : TupsStay (upd H' C (.tup [.int number, .str (tx [L.getD at_ 0]), .int 0])) (upd (upd H' C (.tup [.int number, .str (tx [L.getD at_ 0]), .int 0])) D (.lst (M.map (fun p => V.ref p.1) ++ [V.ref C]))) :=
        .upd (fun xs z => by rw [upd_ne nD, hM] at z; cases z) fun o u z => by rw [upd_ne nD, hM] at z; cases z
      refine ⟨D, _, _, rfl, rfl, by rw [upd_ne nD]; exact hM, by rw [List.length_map]; exact Nat.lt_of_le_of_lt (show M.length ≤ 1000 by unfold most at hfew; omega) (by rw [sizeLine_eq]; decide), ?_⟩
      have sm2 : Same H (upd (upd H' C (.tup [.int number, .str (tx [L.getD at_ 0]), .int 0])) D (.lst (M.map (fun p => V.ref p.1) ++ [V.ref C]))) := fun b o e => by
        have nb : b ≠ D := fun z => by rw [z, hD] at e; cases e
        rw [upd_ne nb]
        exact s1 b o (sm b o e)
      have ek : (M ++ [(C, k3 (number, L.getD at_ 0, 0))]).map (·.2) = (rankNext rows L number at_ its).map k3 := by
        unfold rankNext
        rw [List.map_append, List.map_append, hMe, List.map_map] <;> rfl
      refine ⟨_, rfl, sortset (ks := M ++ [(C, k3 (number, L.getD at_ 0, 0))]) (SqL.of (by rw [upd_same, List.map_append] <;> rfl)) (fun p hp => ?_) (by rw [List.length_append, lM]; show its.length + 1 < most; omega) (kin_of alike3 (fun a => ⟨_, _, rfl⟩) (keyMap ek)) (by rw [ek]; exact alikeAll3 _) fun v H2 s3 hv => ?_⟩
      · rcases List.mem_append.mp hp with z | z
        · exact ⟨KeyAt.stay s2 _ _ (itAt_same s1 (hMk p z)).1, (hMk p z).2⟩
        · rw [List.mem_singleton.mp z]
          exact ⟨KeyAt.stay s2 _ _ (show Dp K _ _ _ from .tup (.of upd_same) (.cons (.int _) (.cons (.str _) (.cons (.int _) .nil)))), by rw [depth3]; decide⟩
      · rw [ek] at hv
        exact q v H2 (sm2.trans s3) hv
end
end K71
end
section
set_option Elab.async false
set_option linter.all false
set_option maxRecDepth 100000
set_option maxHeartbeats 1000000
/-! since_items, once_items -/
namespace K71
open PySem PySem.Spec SG
open L2 hiding It
open PyProof.Rows hiding St
theorem eqv2 (a b : Lv.IT) (ha : a.2.2 = 0) (hb : b.2.2 = 0) : PyData.eqv (k2 a).data (k2 b).data = decide (a = b) := by
  rw [Cn.eqv_key]
  by_cases h : a = b
  · subst h
    rw [NestedKey.beq_self, decide_eq_true rfl]
  · rw [decide_eq_false h]
    cases e : NestedKey.beq (k2 a) (k2 b) with
    | false => rfl
    | true =>
      exfalso
      have q := NestedKey.eq_of_beq _ _ e
      unfold k2 at q
      injection q with q
      injection q with q1 q2
      injection q2 with q2 _
      injection q1 with q1
      injection q2 with q2
      have q3 : [a.2.1] = [b.2.1] := tx_inj q1
      obtain ⟨a1, a2, a3⟩ := a
      obtain ⟨b1, b2, b3⟩ := b
      simp only at ha hb q2 q3
      simp only [List.cons.injEq, and_true] at q3
      have q4 : a1 = b1 := by omega
      subst q4 q3 ha hb
      exact h rfl
theorem strOk_of {w : List Nat} (h : ∀ c ∈ w, c < 128) : PyData.strOk (tx w) = true := by
  unfold PyData.strOk
  rw [Array.all_eq_true']
  intro c hc
  have hc2 : c ∈ w := by simpa using hc
  exact decide_eq_true (Nat.lt_trans (h c hc2) (by decide))
theorem shaped2 (a : Lv.IT) (h : a.2.1 < 128) : SeqAt.shaped (k2 a).data = true := by
  have hs : PyData.strOk (tx [a.2.1]) = true := strOk_of fun c hc => by rw [List.mem_singleton.mp hc]; exact h
  show ((k2 a).data.canLay0 && decide ((k2 a).data.depth ≤ 64)) = true
  rw [SG.data_depth, depth2]
  simp [k2, NestedKey.data, NestedKey.datas, PyData.canLay0, PyData.canLayAll0, hs]
/-- the items of a kind, a letter further: since -/
def sinceNext (L : List Nat) (number at_ : Nat) (its : List Lv.IT) : List Lv.IT := (number, L.getD at_ 0, 0) :: its.filter fun t => decide (t ≠ (number, L.getD at_ 0, 0))
section
variable {P : Program} {w : World} {K : PySem.W.Frag} {mg : Str → Option Value} {base : Heap}
def spSince (K : PySem.W.Frag) : Sp := fun vs H Q _ => ∃ (L : List Nat) (its : List Lv.IT) (number at_ : Nat) (vi : V), vs = [vi, .int number, .str (tx L), .int at_] ∧ Dp K H vi (.tuple (NestedKey.datas (its.map k2))) ∧ at_ < L.length ∧ L.length ≤ 3 ∧ (∀ t ∈ its, t.2.2 = 0 ∧ t.2.1 < 128) ∧ L.getD at_ 0 < 128 ∧ its.length + 2 < most ∧
  ∀ v H', Same H H' → Dp K H' v (.tuple (NestedKey.datas ((sinceNext L number at_ its).map k2))) → Q v H'
theorem filter_snoc {its : List Lv.IT} {i : Nat} {t : Lv.IT} {p : Lv.IT → Bool} (h : its[i]? = some t) : (its.take (i + 1)).filter p = (its.take i).filter p ++ (if p t = true then [t] else []) := by
  rw [List.take_succ, h, List.filter_append]
  show _ ++ [t].filter p = _
  by_cases q : p t = true
  · rw [if_pos q, List.filter_cons_of_pos q] <;> rfl
  · rw [if_neg q, List.filter_cons_of_neg q] <;> rfl
theorem ok_since {f : Addr} {fd : FuncData} {k : Nat} (F : Fun K "since_items" "since_items" s_since_items f fd) (T : Blt mg) : FnOk P w K mg base CX0 (k + 1) f fd ["items", "number", "letters", "at"] (spSince K) := by
  refine F.ok sc_since_items (fun vs H Q E h => ?_) (fun cdv A outer s H vs Q E hr h => ?_)
  · obtain ⟨L, its, number, at_, vi, rfl, _⟩ := h
    rfl
  · obtain ⟨L, its, number, at_, vi, rfl, hI, hat, hL3, hz, hcL, hfew, q⟩ := h
    refine ⟨_, (pss_cons (ps_set (i := 4) sc_since_items.nd rfl (Or.inr rfl) (pe_tup (pa_cons (pe_ix ix_str (pv 2) (pv 3) (fun _ _ => rfl)) (pa_cons (pv 1) pa_nil))))
      (pss_one (ps_ret (pe_callTy call_tuple_of (by rfl) T.tuple (by decide +kernel) (pa_cons (pe_op op_cat (pe_lst (pa_cons (pv 4) pa_nil)) (pe_lc (own := [("other", 5)]) (g := gName 5) rfl sc_since_items.nd (pi_tup (pv 0)) (blkOk_by (own := [("other", 5)]) (N := N_since_items) (sc := defScope s_since_items) (by decide +kernel)) (fun _ _ _ _ _ => (pg_name (i := 5) sc_since_items.nd rfl (Or.inl rfl))) (fun _ _ _ _ _ => (pts_one (pt_cmpR (op_neDK (K := K) rfl hr.units) (pv 5) (pv 4) (nomark _)))) (fun _ _ _ _ _ => (pv 5)))) pa_nil))))), ?_⟩
    obtain ⟨ai, xs, rfl, i1, i2⟩ := Dp.tupOf hI
    obtain ⟨Li, e1, e2, e3⟩ := items_dp i2 (its_fit k2 fit2 its)
    have hc : L[at_]? = some (L.getD at_ 0) := by rw [List.getD_eq_getElem?_getD, List.getElem?_eq_getElem hat] <;> rfl
    refine ⟨_, rfl, _, rfl, tx L, at_, L.getD at_ 0, rfl, rfl, by rw [tx_len]; exact sizeLine_le (by omega), by rw [tx_list]; exact atI_nat hc, ?_⟩
    refine ⟨_, rfl, sizeLine_le (by show 2 ≤ _; decide), fun C hC => ?_⟩
    generalize hH1 : upd H C (.tup [.str (tx [L.getD at_ 0]), .int number]) = H1
    have s1 : Same H H1 := by rw [← hH1]; exact same_new hC
    have itC : ItAt K H1 (C, k2 (number, L.getD at_ 0, 0)) := ⟨show Dp K _ _ _ from .tup (.of (by rw [← hH1]; exact upd_same)) (.cons (.str _) (.cons (.int _) .nil)), by rw [depth2]; decide⟩
    -- [item] + [..]
    refine ⟨_, rfl, sizeLine_le (by show 1 ≤ _; decide), fun B hB => ?_⟩
    have s2 : Same H1 (upd H1 B (.lst [.ref C])) := same_new hB
    refine ⟨_, rfl, ai, rfl, ⟨_, TupsStay.sqT (.of (s1.trans s2)) i1⟩, fun D hD => ?_⟩
    have s3 : Same (upd H1 B (.lst [.ref C])) (upd (upd H1 B (.lst [.ref C])) D (.lst [])) := same_new hD
    refine lc_tup (K := K) (a := ai) (xs := xs) (fun i H' => Same (upd H1 B (.lst [.ref C])) H' ∧ ∃ M : List It, H' D = some (.lst (M.map fun p => V.ref p.1)) ∧ (∀ p ∈ M, ItAt K H' p) ∧ M.map (·.2) = (((its.take i).filter fun t => decide (t ≠ (number, L.getD at_ 0, 0))).map k2)) ⟨s3, [], upd_same, (fun p h => by cases h), rfl⟩ (fun i H' _ hP => TupsStay.sqT (.of ((s1.trans s2).trans hP.1)) i1) (fun i x H' hx hP => ?_) (fun H' hP => ?_)
    · obtain ⟨sm, M, hM, hMk, hMe⟩ := hP
      rw [e1, List.getElem?_map] at hx
      obtain ⟨p, hp, rfl⟩ := Option.map_eq_some_iff.mp hx
      have hpm : p ∈ Li := List.mem_of_getElem? hp
      obtain ⟨t, ht, ek⟩ : ∃ t, its[i]? = some t ∧ p.2 = k2 t := by
        have q1 : (Li.map (·.2))[i]? = some p.2 := by rw [List.getElem?_map, hp] <;> rfl
        rw [e2, List.getElem?_map] at q1
        obtain ⟨t, ht, q2⟩ := Option.map_eq_some_iff.mp q1
        exact ⟨t, ht, q2.symm⟩
      have sA := (s1.trans s2).trans sm
      have pk := itAt_same sA (e3 p hpm)
      have ck := itAt_same (s2.trans sm) itC
      refine ⟨rfl, _, rfl, _, rfl, p.2.data, (k2 (number, L.getD at_ 0, 0)).data, pk.1, ck.1, by rw [ek]; exact shaped2 t (hz t (List.mem_of_getElem? ht)).2, shaped2 _ hcL, _, rfl, ?_⟩
      have hd : (!PyData.eqv p.2.data (k2 (number, L.getD at_ 0, 0)).data) = decide (t ≠ (number, L.getD at_ 0, 0)) := by
        rw [ek, eqv2 _ _ (hz t (List.mem_of_getElem? ht)).1 rfl]
        by_cases h : t = (number, L.getD at_ 0, 0) <;> simp [h]
      rw [hd]
      have fs := filter_snoc (p := fun t => decide (t ≠ (number, L.getD at_ 0, 0))) ht
      by_cases h : decide (t ≠ (number, L.getD at_ 0, 0)) = true
      · rw [if_pos h] at fs
        rw [h]
        refine iteT ?_
        have lM : M.length ≤ its.length := by
          have q := congrArg List.length hMe
          rw [List.length_map, List.length_map] at q
          rw [q]
          exact Nat.le_trans (List.length_filter_le _ _) (by rw [List.length_take]; omega)
        have s4 : TupsStay H' (upd H' D (.lst (M.map (fun p => V.ref p.1) ++ [V.ref p.1]))) := .upd (fun xs z => by rw [hM] at z; cases z) fun o u z => by rw [hM] at z; cases z
        refine ⟨_, rfl, _, hM, by rw [List.length_map]; exact Nat.lt_of_le_of_lt (show M.length ≤ 1000 by unfold most at hfew; omega) (by rw [sizeLine_eq]; decide), fun b o e => ?_, M ++ [p], by rw [upd_same, List.map_append] <;> rfl, fun r hr => ?_, by rw [List.map_append, hMe, fs, List.map_append]; show _ ++ [p.2] = _ ++ [k2 t]; rw [ek]⟩
        · have nb : b ≠ D := fun z => by rw [z, hD] at e; cases e
          rw [upd_ne nb]
          exact sm b o e
        · rcases List.mem_append.mp hr with z | z
          · exact ⟨KeyAt.stay s4 _ _ (hMk r z).1, (hMk r z).2⟩
          · rw [List.mem_singleton.mp z]
            exact ⟨KeyAt.stay s4 _ _ pk.1, pk.2⟩
      · rw [if_neg h, List.append_nil] at fs
        rw [Bool.not_eq_true _ |>.mp h]
        exact iteF ⟨sm, M, hM, hMk, by rw [fs]; exact hMe⟩
    · obtain ⟨sm, M, hM, hMk, hMe⟩ := hP
      have exl : xs.length = its.length := by
        have := congrArg List.length e2
        rw [e1, List.length_map]
        simpa using this
      rw [exl, List.take_length] at hMe
      have lM : M.length ≤ its.length := by
        have q := congrArg List.length hMe
        rw [List.length_map, List.length_map] at q
        rw [q]
        exact List.length_filter_le _ _
      have hB2 : H' B = some (.lst [.ref C]) := sm B _ upd_same
      refine ⟨B, D, _, _, rfl, rfl, hB2, hM, sizeLine_le (by rw [List.length_map]; show 1 + M.length ≤ _; unfold most at hfew; omega), fun p hp => ?_⟩
      have s5 : Same H' (upd H' p (.lst ([V.ref C] ++ M.map fun p => V.ref p.1))) := same_new hp
      refine ⟨p, _, rfl, .inl ⟨SqL.of upd_same, fun l nl => ?_⟩⟩
      have s6 := s5.trans (same_new (o := .tup ([V.ref C] ++ M.map fun p => V.ref p.1)) nl)
      have sH := (s1.trans s2).trans (sm.trans s6)
      refine q _ _ sH ?_
      have ek : ((C, k2 (number, L.getD at_ 0, 0)) :: M).map (·.2) = (sinceNext L number at_ its).map k2 := by
        unfold sinceNext
        rw [List.map_cons, List.map_cons, hMe]
      rw [← ek]
      refine .tup (xs := ((C, k2 (number, L.getD at_ 0, 0)) :: M).map fun p => V.ref p.1) (.of upd_same) (dp_items fun r hr => ?_)
      rcases List.mem_cons.mp hr with z | z
      · rw [z]
        exact itAt_same ((s2.trans sm).trans s6) itC
      · exact itAt_same s6 (hMk r z)
/-! ### once_items -/
def onceNext (L : List Nat) (number at_ : Nat) (its : List Lv.IT) : List Lv.IT := its ++ [(number, L.getD at_ 0, 0)]
def spOnce (K : PySem.W.Frag) : Sp := fun vs H Q _ => ∃ (L : List Nat) (its : List Lv.IT) (number at_ : Nat) (vi : V), vs = [vi, .int number, .str (tx L), .int at_] ∧ Dp K H vi (.tuple (NestedKey.datas (its.map k2))) ∧ at_ < L.length ∧ L.length ≤ 3 ∧ its.length + 2 < most ∧
  ∀ v H', Same H H' → Dp K H' v (.tuple (NestedKey.datas (Cn.canon ((onceNext L number at_ its).map k2)))) → Q v H'
theorem ok_once {f : Addr} {fd : FuncData} {k : Nat} (F : Fun K "once_items" "once_items" s_once_items f fd) (T : Blt mg) : FnOk P w K mg base CX0 (k + 1) f fd ["items", "number", "letters", "at"] (spOnce K) := by
  refine F.ok sc_once_items (fun vs H Q E h => ?_) (fun cdv A outer s H vs Q E hr h => ?_)
  · obtain ⟨L, its, number, at_, vi, rfl, _⟩ := h
    rfl
  · obtain ⟨L, its, number, at_, vi, rfl, hI, hat, hL3, hfew, q⟩ := h
    refine ⟨_, (pss_one (ps_ret (pe_callTy call_tuple_of (by rfl) T.tuple (by decide +kernel) (pa_cons (pe_callB (SG.cr_sortedN rfl hr.units) (by rfl) T.sorted (by decide +kernel) (pa_cons (pe_callTy (SG.cr_setN rfl hr.units) (by rfl) T.set (by decide +kernel) (pa_cons
      (pe_lst (StX.pa_star (pv 0) (pa_cons (pe_tup (pa_cons (pe_ix ix_str (pv 2) (pv 3) (fun _ _ => rfl)) (pa_cons (pv 1) pa_nil))) pa_nil))) pa_nil)) pa_nil)) pa_nil)))), ?_⟩
    obtain ⟨ai, xs, rfl, i1, i2⟩ := Dp.tupOf hI
    obtain ⟨Li, e1, e2, e3⟩ := items_dp i2 (its_fit k2 fit2 its)
    have hc : L[at_]? = some (L.getD at_ 0) := by rw [List.getD_eq_getElem?_getD, List.getElem?_eq_getElem hat] <;> rfl
    have lL : Li.length = its.length := by
      have := congrArg List.length e2
      simpa using this
    refine ⟨_, rfl, ai, xs, rfl, .inl i1, _, rfl, _, rfl, tx L, at_, L.getD at_ 0, rfl, rfl, by rw [tx_len]; exact sizeLine_le (by omega), by rw [tx_list]; exact atI_nat hc, ?_⟩
    refine ⟨_, rfl, sizeLine_le (by show 2 ≤ _; decide), fun C hC => ?_⟩
    have s1 : Same H (upd H C (.tup [.str (tx [L.getD at_ 0]), .int number])) := same_new hC
    refine ⟨sizeLine_le (by rw [List.length_append, e1, List.length_map, lL]; show its.length + 1 ≤ _; unfold most at hfew; omega), fun D hD => ?_⟩
    have s2 : Same (upd H C (.tup [.str (tx [L.getD at_ 0]), .int number])) (upd (upd H C (.tup [.str (tx [L.getD at_ 0]), .int number])) D (.lst (xs ++ [V.ref C]))) := same_new hD
    have ek : (Li ++ [(C, k2 (number, L.getD at_ 0, 0))]).map (·.2) = (onceNext L number at_ its).map k2 := by
      unfold onceNext
      rw [List.map_append, List.map_append, e2] <;> rfl
    refine sortset (ks := Li ++ [(C, k2 (number, L.getD at_ 0, 0))]) (SqL.of (by rw [upd_same, List.map_append, ← e1] <;> rfl)) (fun p hp => ?_) (by rw [List.length_append, lL]; show its.length + 1 < most; omega) (kin_of alike2 (fun a => ⟨_, _, rfl⟩) (keyMap ek)) (by rw [ek]; exact alikeAll2 _) fun v H2 s3 hv => ?_
    · rcases List.mem_append.mp hp with z | z
      · exact itAt_same (s1.trans s2) (e3 p z)
      · rw [List.mem_singleton.mp z]
        refine itAt_same s2 ⟨show Dp K _ _ _ from .tup (.of upd_same) (.cons (.str _) (.cons (.int _) .nil)), by rw [depth2]; decide⟩
    · rw [ek] at hv
      exact q v H2 ((s1.trans s2).trans s3) hv
end
end K71
end
section
set_option Elab.async false
set_option linter.all false
set_option maxRecDepth 100000
set_option maxHeartbeats 1000000
/-! last_letters, longer_pieces, is_word -/
namespace K71
open PySem PySem.Spec SG
open L2 hiding It
open PyProof.Rows hiding St
theorem cutS_drop (w : List Nat) (n : Nat) : cutS (tx w) (some (n : Int)) none = tx (w.drop n) := by
  unfold cutS
  rw [HT.sIx_nat, HT.sIx_none, tx_len, tx_list]
  congr 2
  rcases Nat.le_total n w.length with h | h
  · rw [Nat.min_eq_left h]
    exact List.take_of_length_le (by rw [List.length_drop]; omega)
  · rw [Nat.min_eq_right h, List.drop_of_length_le h, List.drop_of_length_le (Nat.le_refl _)]
    exact List.take_nil
/-- the last l letters -/
def lastN (w : List Nat) (l : Nat) : List Nat := w.drop (w.length - l)
section
variable {P : Program} {w : World} {K : PySem.W.Frag} {mg : Str → Option Value} {base : Heap}
def spLast : Sp := fun vs H Q _ => ∃ (u : List Nat) (c l : Nat), vs = [.str (tx u), .str (tx [c]), .int l] ∧ u.length ≤ 1000 ∧ Q (.str (tx (lastN (u ++ [c]) l))) H
theorem ok_last {f : Addr} {fd : FuncData} {k : Nat} (F : Fun K "last_letters" "last_letters" s_last_letters f fd) (T : Blt mg) : FnOk P w K mg base CX0 (k + 1) f fd ["known", "letter", "level"] spLast := by
  refine F.ok sc_last_letters (fun vs H Q E h => ?_) (fun cdv A outer s H vs Q E hr h => ?_)
  · obtain ⟨u, c, l, rfl, _⟩ := h
    rfl
  · obtain ⟨u, c, l, rfl, hu, q⟩ := h
    refine ⟨_, (pss_cons (ps_set (i := 3) sc_last_letters.nd rfl (Or.inl rfl) (pe_op op_add_str (pv 0) (pv 1)))
      (pss_one (ps_ret (pe_slice sl_str (pv 3) (po_some (pe_callB (call_max2 rfl) (by rfl) T.max (by decide +kernel) (pa_cons pe_int (pa_cons (pe_op op_sub (pe_callB call_len_str (by rfl) T.len PySem.boot_len (pa_cons (pv 3) pa_nil)) (pv 2)) pa_nil)))) po_none)))), ?_⟩
    refine ⟨_, rfl, _, rfl, tx u, tx [c], rfl, rfl, sizeLine_le (by rw [tx_len, tx_len]; show u.length + 1 ≤ _; omega), ?_⟩
    rw [tx_app]
    have hl : (u ++ [c]).length = u.length + 1 := by simp
    refine ⟨_, rfl, _, rfl, _, rfl, sizeLine_le (by rw [tx_len, hl]; omega), _, rfl, _, _, rfl, rfl, _, _, rfl, ?_⟩
    rw [tx_len, hl]
    have e : (if ((u.length + 1 : Nat) : Int) - (l : Int) > 0 then ((u.length + 1 : Nat) : Int) - (l : Int) else 0) = ((u.length + 1 - l : Nat) : Int) := by
      split <;> omega
    rw [e]
    refine ⟨_, rfl, _, rfl, sizeLine_le (by rw [tx_len, hl]; omega), ?_⟩
    rw [cutS_drop]
    unfold lastN at q
    rw [hl] at q
    exact q
/-! ### longer_pieces -/
def tk (p : List Nat) : NestedKey := .text (tx p)
def piecesNext (ps : List (List Nat)) (c l : Nat) : List (List Nat) := (ps.filter fun p => decide (p.length < l)).map (· ++ [c]) ++ ps
theorem alikeTk (ps : List (List Nat)) : Cn.Alike (ps.map tk) := fun a ha b hb => by
  obtain ⟨x, _, rfl⟩ := List.mem_map.mp ha
  obtain ⟨y, _, rfl⟩ := List.mem_map.mp hb
  rfl
theorem tk_inj {a b : List Nat} (h : tk a = tk b) : a = b := by
  unfold tk at h
  injection h with h
  exact tx_inj h
theorem srtX_canon {xs : List (List Nat)} {L L' : List Str} (p : L'.Perm L) (nd : L.Nodup) (h : ∀ x, x ∈ L ↔ x ∈ xs.map tx) : (srtX L').map NestedKey.text = Cn.canon (xs.map tk) := by
  unfold srtX
  rw [PySem.W.sort_maps (r := PySem.W.dataLe false fun x : Str => .str x) (s := Cn.le) (fun x : Str => NestedKey.text x) (l := L') (fun a _ b _ => rfl)]
  refine Cn.canon_of (List.pairwise_map.mpr ((p.nodup_iff.mpr nd).imp fun hne e => hne (by injection e))) (fun x => ?_) (alikeTk xs)
  constructor
  · intro hx
    obtain ⟨y, hy, rfl⟩ := List.mem_map.mp hx
    obtain ⟨z, hz, rfl⟩ := List.mem_map.mp ((h y).mp (p.mem_iff.mp hy))
    exact List.mem_map.mpr ⟨z, hz, rfl⟩
  · intro hx
    obtain ⟨z, hz, rfl⟩ := List.mem_map.mp hx
    exact List.mem_map.mpr ⟨tx z, p.mem_iff.mpr ((h _).mpr (List.mem_map.mpr ⟨z, hz, rfl⟩)), rfl⟩
theorem datas_strs (L : List Str) : NestedKey.datas (L.map NestedKey.text) = L.map PyData.str := by
  rw [datas_map, List.map_map] <;> rfl
theorem datas_tk (ps : List (List Nat)) : NestedKey.datas (ps.map tk) = (ps.map tx).map PyData.str := by
  rw [datas_map, List.map_map, List.map_map] <;> rfl
/-- tuple(sorted(set(xs))), xs texts -/
theorem sortsetX {K : PySem.W.Frag} {w : World} {H : Hp} {D : Addr} {xs U : List (List Nat)} {Q : VK} (hl : SqL K H D ((xs.map tx).map V.str)) (hU : ∀ x ∈ xs, x ∈ U) (hz : U.length < scanBound)
    (q : ∀ v H', Same H H' → Dp K H' v (.tuple (NestedKey.datas (Cn.canon (xs.map tk)))) → Q v H') :
    rSetX K w [.ref D] H fun v1 H1 => rSortedX w [v1] H1 fun v2 H2 => ∃ p ys, [v2] = [V.ref p] ∧ ((SqL K H2 p ys ∧ ∀ l, H2 l = none → Q (.ref l) (upd H2 l (.tup ys))) ∨ (SqT K H2 p ys ∧ Q (.ref p) H2)) := by
  refine ⟨D, xs.map tx, U.map tx, rfl, hl, fun x hx => ?_, by rw [List.length_map]; exact hz, fun a L na h nd => ?_⟩
  · obtain ⟨y, hy, rfl⟩ := List.mem_map.mp hx
    exact List.mem_map.mpr ⟨y, hU y hy, rfl⟩
  have s1 : Same H (upd H a (SetXO w a L)) := same_new na
  refine ⟨a, L, rfl, upd_same, fun L' p pm np => ?_⟩
  have s2 := s1.trans (same_new (o := .lst ((srtX L').map V.str)) np)
  refine ⟨p, _, rfl, .inl ⟨SqL.of upd_same, fun l nl => ?_⟩⟩
  have s3 := s2.trans (same_new (o := .tup ((srtX L').map V.str)) nl)
  refine q _ _ s3 ?_
  rw [← srtX_canon pm nd h, datas_strs]
  exact .tup (.of upd_same) (dp_strs _)
def spPieces (K : PySem.W.Frag) : Sp := fun vs H Q _ => ∃ (ps U : List (List Nat)) (c l : Nat) (vk : V), vs = [vk, .str (tx [c]), .int l] ∧ Dp K H vk (.tuple (NestedKey.datas (ps.map tk))) ∧ (∀ p ∈ piecesNext ps c l, p ∈ U) ∧ U.length < scanBound ∧ ps.length ≤ 40000 ∧ (∀ p ∈ ps, p.length ≤ 1000) ∧
  ∀ v H', Same H H' → Dp K H' v (.tuple (NestedKey.datas (Cn.canon ((piecesNext ps c l).map tk)))) → Q v H'
theorem filter_snoc' {α : Type} {its : List α} {i : Nat} {t : α} {p : α → Bool} (h : its[i]? = some t) : (its.take (i + 1)).filter p = (its.take i).filter p ++ (if p t = true then [t] else []) := by
  rw [List.take_succ, h, List.filter_append]
  show _ ++ [t].filter p = _
  by_cases q : p t = true
  · rw [if_pos q, List.filter_cons_of_pos q] <;> rfl
  · rw [if_neg q, List.filter_cons_of_neg q] <;> rfl
theorem ok_pieces {f : Addr} {fd : FuncData} {k : Nat} (F : Fun K "longer_pieces" "longer_pieces" s_longer_pieces f fd) (T : Blt mg) : FnOk P w K mg base CX0 (k + 1) f fd ["known", "letter", "level"] (spPieces K) := by
  refine F.ok sc_longer_pieces (fun vs H Q E h => ?_) (fun cdv A outer s H vs Q E hr h => ?_)
  · obtain ⟨ps, U, c, l, vk, rfl, _⟩ := h
    rfl
  · obtain ⟨ps, U, c, l, vk, rfl, hI, hU, hz, hps, hlen, q⟩ := h
    refine ⟨_, (pss_cons (ps_setLc (i := 3) (own := [("piece", 4)]) (g := gName 4) rfl sc_longer_pieces.nd rfl rfl (sw_true rfl rfl rfl (by decide +kernel)) (pi_tup (pv 0)) (blkOk_by (own := [("piece", 4)]) (N := N_longer_pieces) (sc := defScope s_longer_pieces) (by decide +kernel)) (fun _ _ _ _ _ => (pg_name (i := 4) sc_longer_pieces.nd rfl (Or.inl rfl))) (fun _ _ _ _ _ => (pts_one (pt_cmpR op_lt (pe_callB call_len_str (by rfl) T.len PySem.boot_len (pa_cons (pv 4) pa_nil)) (pv 2) (nomark _)))) (fun _ _ _ _ _ => (pe_op op_add_str (pv 4) (pv 1))))
      (pss_one (ps_ret (pe_callTy call_tuple_of (by rfl) T.tuple (by decide +kernel) (pa_cons (pe_callB (SG.cr_sortedX rfl hr.units) (by rfl) T.sorted (by decide +kernel) (pa_cons (pe_callTy (SG.cr_setX rfl hr.units) (by rfl) T.set (by decide +kernel) (pa_cons (pe_op op_cat (pv 3) (pe_callTy call_list_of (by rfl) T.list (by decide +kernel) (pa_cons (pv 0) pa_nil))) pa_nil)) pa_nil)) pa_nil))))), ?_⟩
    obtain ⟨ai, xs, rfl, i1, i2⟩ := Dp.tupOf hI
    rw [datas_tk] at i2
    have ex := strs_dp i2
    subst ex
    refine ⟨_, rfl, ai, rfl, ⟨_, i1⟩, fun D hD => ?_⟩
    refine lc_tup (K := K) (a := ai) (xs := (ps.map tx).map V.str) (fun i H' => Same H H' ∧ H' D = some (.lst (((((ps.take i).filter fun p => decide (p.length < l)).map (· ++ [c])).map tx).map V.str))) ⟨same_new hD, upd_same⟩ (fun i H' _ hP => TupsStay.sqT (.of hP.1) i1) (fun i x H' hx hP => ?_) (fun H' hP => ?_)
    · obtain ⟨sm, hM⟩ := hP
      rw [List.getElem?_map, List.getElem?_map, Option.map_map] at hx
      obtain ⟨p, hp, rfl⟩ := Option.map_eq_some_iff.mp hx
      have fs := filter_snoc' (p := fun p => decide (p.length < l)) hp
      have hpl := hlen p (List.mem_of_getElem? hp)
      refine ⟨rfl, _, rfl, tx p, rfl, sizeLine_le (by rw [tx_len]; omega), _, rfl, _, _, rfl, rfl, _, rfl, ?_⟩
      rw [tx_len]
      have e1 : decide ((p.length : Int) < (l : Int)) = decide (p.length < l) := by
        by_cases h : p.length < l
        · rw [decide_eq_true h, decide_eq_true (by omega)]
        · rw [decide_eq_false h, decide_eq_false (by omega)]
      rw [e1]
      by_cases h : decide (p.length < l) = true
      · rw [if_pos h] at fs
        rw [h]
        refine iteT ?_
        refine ⟨_, rfl, _, rfl, tx p, tx [c], rfl, rfl, sizeLine_le (by rw [tx_len, tx_len]; show p.length + 1 ≤ _; omega), ?_⟩
        rw [tx_app]
        refine ⟨_, hM, ?_, fun b o e => ?_, by rw [upd_same, fs]; simp⟩
        · rw [List.length_map, List.length_map, List.length_map]
          refine Nat.lt_of_le_of_lt (Nat.le_trans (List.length_filter_le _ _) (show (ps.take i).length ≤ 40000 by rw [List.length_take]; omega)) (by rw [sizeLine_eq]; decide)
        · have nb : b ≠ D := fun z => by rw [z, hD] at e; cases e
          rw [upd_ne nb]
          exact sm b o e
      · rw [if_neg h, List.append_nil] at fs
        rw [Bool.not_eq_true _ |>.mp h]
        exact iteF ⟨sm, by rw [fs]; exact hM⟩
    · obtain ⟨sm, hM⟩ := hP
      rw [List.length_map, List.length_map, List.take_length] at hM
      refine ⟨_, rfl, _, rfl, ai, _, rfl, .inr (TupsStay.sqT (.of sm) i1), fun B hB => ?_⟩
      have nD : D ≠ B := fun z => by rw [z, hB] at hM; cases hM
      have fl : (ps.filter fun p => decide (p.length < l)).length ≤ 40000 := Nat.le_trans (List.length_filter_le _ _) hps
      refine ⟨D, B, _, _, rfl, rfl, by rw [upd_ne nD]; exact hM, upd_same, sizeLine_le (by simp only [List.length_map]; omega), fun C hC => ?_⟩
      refine sortsetX (xs := piecesNext ps c l) (U := U) (SqL.of ?_) hU hz fun v H2 s3 hv => q v H2 ((sm.trans (same_new hB)).trans ((same_new hC).trans s3)) hv
      rw [upd_same]
      unfold piecesNext
      rw [List.map_append, List.map_append]
/-! ### is_word -/
theorem strip_none {w L : List Nat} : Txt.stripChars (tx w) (tx L) = tx [] ↔ ∀ c ∈ w, c ∈ L := by
  unfold Txt.stripChars
  rw [PyProof.Rows.stripBy_eq]
  have hc : ∀ c, (tx L).cps.contains c = decide (c ∈ L) := fun c => by simp
  obtain ⟨l1, l2, l3⟩ := PyProof.Rows.lo_facts ((tx L).cps.contains) (tx w)
  obtain ⟨h1, h2, h3, h4⟩ := PyProof.Rows.hi_facts ((tx L).cps.contains) (tx w) _ l1
  generalize PySem.stripLo ((tx L).cps.contains) true (tx w) = lo at l1 l2 l3 h1 h2 h3 h4 ⊢
  generalize PySem.stripHi ((tx L).cps.contains) true (tx w) lo = hi at h1 h2 h3 h4 ⊢
  rw [tx_len] at l1 l3 h2 h3
  have gt : ∀ k, k < w.length → (tx w).cps.getD k 0 = w.getD k 0 := fun k hk => by simp [Array.getD, List.getD, hk]
  constructor
  · intro e c hcw
    have sz : hi - lo = 0 := by
      have := congrArg (fun x : Str => x.cps.size) e
      simp only [Builtin.Str.strSub, Array.size_extract] at this
      have : min hi w.length - lo = 0 := by simpa using this
      omega
    obtain ⟨k, hk, rfl⟩ := List.getElem_of_mem hcw
    have g := gt k hk
    have eg : w.getD k 0 = w[k] := by simp [List.getD, hk]
    rw [eg] at g
    rcases Nat.lt_or_ge k lo with z | z
    · have := l2 k z
      rw [g, hc] at this
      exact of_decide_eq_true this
    · have := h3 k (by omega) hk
      rw [g, hc] at this
      exact of_decide_eq_true this
  · intro all
    have lo_eq : lo = w.length := by
      rcases l3 with z | z
      · exact z
      · rcases Nat.lt_or_ge lo w.length with y | y
        · rw [gt lo y, hc] at z
          have : w.getD lo 0 ∈ L := by
            rw [List.getD_eq_getElem?_getD, List.getElem?_eq_getElem y]
            exact all _ (List.getElem_mem y)
          rw [decide_eq_true this] at z
          cases z
        · omega
    have hi_eq : hi = w.length := by omega
    rw [lo_eq, hi_eq]
    unfold Builtin.Str.strSub
    congr 1
    simp
def spIsWord : Sp := fun vs H Q _ => ∃ (L w : List Nat), vs = [.str (tx L), .str (tx w)] ∧ w.length ≤ 100000 ∧ Q (.bl (decide (∀ c ∈ w, c ∈ L))) H
theorem ok_isword {f : Addr} {fd : FuncData} {k : Nat} (F : Fun K "is_word" "is_word" s_is_word f fd) : FnOk P w K mg base CX0 (k + 1) f fd ["letters", "word"] spIsWord := by
  refine F.ok sc_is_word (fun vs H Q E h => ?_) (fun cdv A outer s H vs Q E hr h => ?_)
  · obtain ⟨L, w, rfl, _⟩ := h
    rfl
  · obtain ⟨L, w, rfl, hw, q⟩ := h
    refine ⟨_, (pss_one (ps_ret (pe_cmpR op_eq (pe_bm PySem.F.plainAttrs_str PySem.F.slot_str_strip PySem.F.type_str_strip mt_stripChars (pv 1) (pa_cons (pv 0) pa_nil)) pe_str (nomark _)))), ?_⟩
    refine ⟨_, rfl, rfl, _, rfl, tx w, tx L, rfl, rfl, sizeLine_le (by rw [tx_len]; exact hw), ?_⟩
    refine ⟨rfl, ?_⟩
    have e : decide (V.str (Txt.stripChars (tx w) (tx L)) = V.str ("" : Str)) = decide (∀ c ∈ w, c ∈ L) := by
      have e0 : ("" : Str) = tx [] := by decide
      by_cases h : ∀ c ∈ w, c ∈ L
      · rw [decide_eq_true h, decide_eq_true (by rw [e0, strip_none.mpr h])]
      · rw [decide_eq_false h, decide_eq_false (fun z => h (strip_none.mp ((V.str.inj z).trans e0)))]
    rw [← e] at q
    exact q
end
end K71
end
section
set_option Elab.async false
set_option linter.all false
set_option maxRecDepth 100000
set_option maxHeartbeats 1000000
/-! A function that is handed on: it stands in a slot, and the base knows the cells that it captured. -/
namespace L2
open PySem PySem.Spec PyProof.Rows NdefX LamX
/-- what the captured cells hold, as the base tells it -/
structure CellsIn (B : Heap) (cl : List (Str × Addr)) (fr : List Str) (ws : List (Option V)) : Prop where
  len : ws.length = fr.length
  all : ∀ y c, cl.lookup y = some c → ∃ v, B.IsCell c v
  inj : ∀ x y c, cl.lookup x = some c → cl.lookup y = some c → x = y
  has : ∀ (i : Nat) (y : Str), fr[i]? = some y → ∃ c, cl.lookup y = some c ∧ ∀ v, ws[i]? = some (some v) → ∃ u, RelV v u ∧ B.IsCell c (some u)
section
variable {X : Cx} {pins : List (Addr × Obj)} {σ : L2.St} {H : Hp} {s : Shared} {cl : List (Str × Addr)} {fr : List Str} {ws : List (Option V)} {js : List Nat}
theorem CellsIn.at_ (C : CellsIn X.base cl fr ws) (I : Inv X pins σ H s) : CellsAt cl fr ws s.heap H := by
  have up : ∀ {c : Addr} {v : Option Value}, X.base.IsCell c v → s.heap.IsCell c v := fun ⟨o, ho, hd⟩ => ⟨o, I.bk _ o ho, hd⟩
  refine ⟨C.len, fun y c e => ?_, C.inj, fun i y e => ?_⟩
  · obtain ⟨v, o, ho, hd⟩ := C.all y c e
    exact ⟨(I.bs c o ho).2, v, up ⟨o, ho, hd⟩⟩
  · obtain ⟨c, hc, h⟩ := C.has i y e
    refine ⟨c, hc, fun v hv => ?_⟩
    obtain ⟨u, r, z⟩ := h v hv
    exact ⟨u, r, up z⟩
theorem cell_apart (hfn : ∀ x, X.fn x = true) (I : Inv X pins σ H s) {x : Str} {c : Addr} (e : X.env.cells.lookup x = some c) : c ∉ frs X.stack := fun hm => by
  obtain ⟨v, o, ho, hd⟩ := I.cell x c e
  rcases List.mem_cons.mp (I.stkSub c hm) with z | z
  · obtain ⟨m, hn, _⟩ := I.loc
    obtain ⟨od, es, ep, hod, hdd, _⟩ := hn
    rw [z, hod] at ho
    cases ho
    rw [hd] at hdd
    cases hdd
  · obtain ⟨_, o', ho', _⟩ := I.ok.funs.mem z
    exact absurd (Heap.lt_size ho') (Nat.not_lt.mpr (I.ok.cab x c (hfn x) e))
theorem cells_wid (hfn : ∀ x, X.fn x = true) (I : Inv X pins σ H s) (cp : Caps X cl fr js) : CellsIn (widB X H s) cl fr (js.map (NdefX.slotAt σ)) := by
  have C := cells_of I cp
  have up : ∀ {y : Str} {c : Addr} {v : Option Value}, cl.lookup y = some c → s.heap.IsCell c v → (widB X H s).IsCell c v := fun {y c v} e ⟨o, ho, hd⟩ =>
    ⟨o, widB_get ho (C.all y c e).1 (cell_apart hfn I (cp.sub y c e)), hd⟩
  refine ⟨C.len, fun y c e => ?_, C.inj, fun i y e => ?_⟩
  · obtain ⟨_, v, z⟩ := C.all y c e
    exact ⟨v, up e z⟩
  · obtain ⟨c, hc, h⟩ := C.has i y e
    refine ⟨c, hc, fun v hv => ?_⟩
    obtain ⟨u, r, z⟩ := h v hv
    exact ⟨u, r, up hc z⟩
/-- g(..), g a def that knows what the cells hold -/
def tCallW (cl : List (Str × Addr)) (fr : List Str) (js : List Nat) (sp : Heap → Sp) (E : XK) (t : TA) : TE := fun σ H Q => t σ H fun vs H1 => ∀ B : Heap, CellsIn B cl fr (js.map (NdefX.slotAt σ)) → sp B vs H1 Q E
theorem pe_callW {CX : CXT} {k : Nat} {f : Addr} {fd : FuncData} {ps : List Str} {sp : Heap → Sp} {E : XK} {x : Str} {q pos : Pos} {e : Expr} {es : List Expr} {t : TA} (F : ∀ B, FnOk X.prog X.w X.K X.mg B CX k f fd ps (sp B)) (hr : Room k X.A) (hfn : ∀ x, X.fn x = true) (cp : X.Ok → Caps X cl fr js)
    (hg : Gl X x) (hm : X.mg x = some (.ref f)) (hk : PySem.W.keepIn X.K (.ref f) = true) (hb : Binds X.K fd ps []) (hx : Passes CX X E) (ha : PA X (e :: es) t) (hdb : (x == ("__debug__" : Str)) = false := by decide) (he : starEach (e :: es) X.env = (false, eval e X.env) :: starEach es X.env := by rfl)
    (hpl : (backTo pos (starEach es X.env)).any (·.1) = false := by rfl) : PE X (.Call (.Name x q) (e :: es) [] pos) (tCallW cl fr js sp E t) := by
  refine ⟨fun pins s σ H Q I h => ?_⟩
  refine wpAny_Call_Name_kw (ld_glob I hg hm ?_ hdb)
  refine PySem.W.callWith_K (h₀ := X.base) I.ok.mod.kin hk (thn (ha.run pos pins s σ H _ I h) fun us s1 ⟨vs, H1, I1, r, hq⟩ => ⟨I1.kIn, ?_⟩) he hpl
  have hsp := hq (widB X H1 s1) (cells_wid hfn I1 (cp I1.ok))
  have hl : us.length = ps.length := by rw [← r.length]; exact (F _).len _ _ _ _ hsp
  have b := hb s1 us I1.kIn (by rw [List.append_nil]; exact hl)
  rw [List.append_nil] at b
  show wpAny _ _ (call (.ref f) us) _ _ _
  refine wpAny_call (codeAny_mono ((F (widB X H1 s1)).run X.A X.stack s1 H1 ⟨us, []⟩ us vs Q E hr I1.wid_env b r hsp) fun r s' hq => ?_)
  cases r with
  | error e => exact hx pins σ H1 s1 e s' I1 hq
  | ok fl =>
    cases fl with
    | ret u => exact I1.after hq
    | next => exact False.elim hq
    | brk => exact False.elim hq
    | cont => exact False.elim hq
/-- at f stands a function that keeps the promise sp -/
def Oracle (P : Program) (w : World) (K : PySem.W.Frag) (mg : Str → Option Value) (B : Heap) (k : Nat) (H : Hp) (f : Addr) (sp : Sp) : Prop := ∃ (F : NF) (ps fr : List Str) (ws : List (Option V)) (spF : List (Option V) → Sp),
  NOk P w K mg B (fun _ _ _ _ _ _ => False) k f F ps fr spF ∧ H f = some (FnO f F) ∧ H F.c = some (CodeO F.c F.qual) ∧ CellsIn B F.cl fr ws ∧ ∀ vs H' Q, sp vs H' Q (fun _ _ _ => False) → spF ws vs H' Q (fun _ _ _ => False)
theorem Oracle.same {P : Program} {w : World} {K : PySem.W.Frag} {mg : Str → Option Value} {B : Heap} {k : Nat} {H H' : Hp} {f : Addr} {sp : Sp} (o : Oracle P w K mg B k H f sp) (e : Same H H') : Oracle P w K mg B k H' f sp := by
  obtain ⟨F, ps, fr, ws, spF, h1, h2, h3, h4, h5⟩ := o
  exact ⟨F, ps, fr, ws, spF, h1, e _ _ h2, e _ _ h3, h4, h5⟩
def tOra (P : Program) (w : World) (K : PySem.W.Frag) (mg : Str → Option Value) (B : Heap) (k i : Nat) (t : TA) : TE := fun σ H Q => ∃ (f : Addr) (sp : Sp), σ[i]? = some (some (.ref f)) ∧ Oracle P w K mg B k H f sp ∧
  t σ H fun vs H1 => Oracle P w K mg B k H1 f sp ∧ sp vs H1 Q (fun _ _ _ => False)
theorem pe_callOr {k i : Nat} {x : Str} {p pos : Pos} {e : Expr} {es : List Expr} {t : TA} (hr : Room k X.A) (hN : X.N[i]? = some x) (hv : Vis X.env.scope x) (ha : PA X (e :: es) t)
    (hd : (x == ("__debug__" : Str)) = false := by decide) (hcd : (x == ("__classdict__" : Str)) = false := by decide)
    (he : starEach (e :: es) X.env = (false, eval e X.env) :: starEach es X.env := by rfl) (hpl : (backTo pos (starEach es X.env)).any (·.1) = false := by rfl) :
    PE X (.Call (.Name x p) (e :: es) [] pos) (tOra X.prog X.w X.K X.mg X.base k i t) := by
  refine ⟨fun pins s σ H Q I h => ?_⟩
  obtain ⟨f, sp, hs, hO, ht⟩ := h
  refine wpAny_Call_Name_kw (thn ((pe_var (pos := p) hN hv hd hcd).run pins s σ H (fun v H1 => v = .ref f ∧ H1 = H) I ⟨.ref f, hs, rfl, rfl⟩) fun u s1 ⟨v, H1, I1, r1, ev, eH⟩ => ?_)
  subst ev
  rw [eH] at I1
  obtain rfl : u = Value.ref f := r1
  obtain ⟨F0, _, _, _, _, _, hf0, _⟩ := id hO
  refine PySem.W.callWith_F (first := []) (fnAt_of I1 hf0) (thn (ha.run pos pins s1 σ H _ I1 ht) fun us s2 ⟨vs, H2, I2, r, o2, q⟩ => ?_) he hpl
  obtain ⟨F, ps, fr, ws, spF, h1, h2, h3, h4, h5⟩ := o2
  refine ⟨fnAt_of I2 h2, ?_⟩
  show wpAny _ _ (call (.ref f) us) _ _ _
  refine wpAny_call (codeAny_mono (h1.run X.A X.stack s2 H2 us vs ws Q (fun _ _ _ => False) hr I2.env0 h2 h3 (h4.at_ I2) r (h5 _ _ _ q)) fun r s' hq => ?_)
  cases r with
  | error e => exact False.elim hq
  | ok fl =>
    cases fl with
    | ret u => exact I2.after hq
    | next => exact False.elim hq
    | brk => exact False.elim hq
    | cont => exact False.elim hq
end
end L2
end
section
set_option Elab.async false
set_option linter.all false
set_option maxRecDepth 100000
set_option maxHeartbeats 2000000
/-! met -/
namespace K71
open PySem PySem.Spec SG
open L2 hiding It
open PyProof.Rows hiding St
open Lv (Wd)
/-- a row as a key -/
def rk (r : List Nat) : NestedKey := .tup (r.map fun (x : Nat) => .num (x : Int))
theorem rowD_rk (r : List Nat) : rowD r = (rk r).data := by
  unfold rowD rk
  rw [NestedKey.data, datas_map, List.map_map] <;> rfl
theorem rows_rk (rows : List (List Nat)) : rows.map rowD = NestedKey.datas (rows.map rk) := by
  rw [datas_map, List.map_map]
  exact List.map_congr_left fun r _ => rowD_rk r
/-- the kinds by their keys -/
def RK (kd : Wd → NestedKey) (u v : Wd) : Prop := kd u = kd v
theorem rk_eqv (kd : Wd → NestedKey) : Lv.Eqv (RK kd) := ⟨fun _ => rfl, fun h => Eq.symm h, fun h k => Eq.trans h k⟩
/-- the table of numbers -/
def tabOf (kd : Wd → NestedKey) (ws : List Wd) : List (NestedKey × V) := ws.zipIdx.map fun p => (kd p.1, V.int (p.2 : Nat))
theorem tab_val (kd : Wd → NestedKey) (u : Wd) : ∀ (ws : List Wd) (n : Nat), valV ((ws.zipIdx n).map fun p => (kd p.1, V.int (p.2 : Nat))) (kd u) = (Bf.place (RK kd) ws u).map fun i => V.int ((n + i : Nat) : Int)
  | [], n => rfl
  | x :: ws, n => by
    rw [List.zipIdx_cons, List.map_cons]
    unfold Bf.place
    rw [List.findIdx?_cons]
    by_cases h : kd x = kd u
    · have hq : @decide (RK kd x u) (Classical.propDecidable _) = true := @decide_eq_true _ (Classical.propDecidable _) h
      rw [valV_pos (p := (kd x, V.int (n : Nat))) h, hq] <;> rfl
    · have hq : @decide (RK kd x u) (Classical.propDecidable _) = false := @decide_eq_false _ (Classical.propDecidable _) h
      rw [valV_neg (p := (kd x, V.int (n : Nat))) h, hq, if_neg (by decide), tab_val kd u ws (n + 1)]
      unfold Bf.place
      rw [Option.map_map]
      congr 1
      funext i
      show V.int ((n + 1 + i : Nat) : Int) = V.int ((n + (i + 1) : Nat) : Int)
      congr 2
      omega
theorem tab_at (kd : Wd → NestedKey) (ws : List Wd) (u : Wd) : valV (tabOf kd ws) (kd u) = (Bf.place (RK kd) ws u).map fun i => V.int ((i : Nat) : Int) := by
  unfold tabOf
  rw [tab_val kd u ws 0]
  congr 1
  funext i
  rw [Nat.zero_add]
theorem tab_put (kd : Wd → NestedKey) {ws : List Wd} {u : Wd} (h : Bf.place (RK kd) ws u = none) : putK (tabOf kd ws) (kd u) (.int (ws.length : Nat)) = tabOf kd (ws ++ [u]) := by
  have hv := tab_at kd ws u
  rw [h] at hv
  have e : ((tabOf kd ws).any fun kv => decide (kv.1 = kd u)) = false := by
    rw [any_val, hv] <;> rfl
  unfold putK
  rw [if_neg (by rw [e]; decide)]
  unfold tabOf
  rw [List.zipIdx_append, List.map_append]
  simp
theorem tab_len (kd : Wd → NestedKey) (ws : List Wd) : (tabOf kd ws).length = ws.length := by simp [tabOf]
/-- the row so far has no fewer words -/
theorem row_up {R : Wd → Wd → Prop} (w : Wd) (L M : List Nat) (ws : List Wd) : (Bf.rowOf R w L ws).1.length ≤ (Bf.rowOf R w (L ++ M) ws).1.length := by
  unfold Bf.rowOf
  rw [List.foldl_append]
  generalize L.foldl (Bf.one R w) (ws, []) = s
  induction M generalizing s with
  | nil => exact Nat.le_refl _
  | cons a M ih =>
    refine Nat.le_trans ?_ (ih (Bf.one R w s a))
    unfold Bf.one
    split
    · exact Nat.le_refl _
    · show s.1.length ≤ (s.1 ++ [w ++ [a]]).length
      rw [List.length_append]
      omega
section
variable {K : PySem.W.Frag} {P : Program} {w : World}
/-- what met holds: the table at d, the keys at a, the rows at b -/
structure MetH (K : PySem.W.Frag) (P : Program) (w : World) (H0 H : Hp) (sc : Bool) (kd : Wd → NestedKey) (d a b : Addr) (ws : List Wd) (rows : List (List Nat)) : Prop where
  same : Same H0 H
  nd : H0 d = none
  na : H0 a = none
  nb : H0 b = none
  ab : a ≠ b
  tab : TabAt K P w H sc d (tabOf kd ws)
  keys : ∃ kv, H a = some (.lst kv) ∧ KeysAt K H kv (ws.map kd)
  rows : ∃ rv, H b = some (.lst rv) ∧ KeysAt K H rv (rows.map rk)
variable {H0 H H' : Hp} {sc : Bool} {kd : Wd → NestedKey} {d a b : Addr} {ws : List Wd} {rows : List (List Nat)}
theorem tab_ne {m : List (NestedKey × V)} {xs : List V} (t : TabAt K P w H sc d m) (h : H a = some (.lst xs)) : a ≠ d := fun e => by
  subst e
  unfold L2.TabAt at t
  cases sc with
  | true =>
    rw [if_pos rfl] at t
    obtain ⟨kvs, hk, _⟩ := t
    rw [h] at hk
    cases hk
  | false =>
    rw [if_neg (by decide)] at t
    obtain ⟨_, _, xs, hk, _⟩ := t
    rw [h] at hk
    unfold DnO at hk
    cases hk
theorem MetH.same' (M : MetH K P w H0 H sc kd d a b ws rows) (e : Same H H') : MetH K P w H0 H' sc kd d a b ws rows := by
  obtain ⟨kv, k1, k2⟩ := M.keys
  obtain ⟨rv, r1, r2⟩ := M.rows
  have hd : ∃ o, H d = some o := by
    have t := M.tab
    unfold L2.TabAt at t
    cases sc with
    | true =>
      rw [if_pos rfl] at t
      obtain ⟨kvs, hk, _⟩ := t
      exact ⟨_, hk⟩
    | false =>
      rw [if_neg (by decide)] at t
      obtain ⟨_, _, xs, hk, _⟩ := t
      exact ⟨_, hk⟩
  obtain ⟨o, ho⟩ := hd
  exact ⟨M.same.trans e, M.nd, M.na, M.nb, M.ab, M.tab.stay (.of e) (by rw [ho]; exact e _ _ ho), ⟨kv, e _ _ k1, KeysAt.stay (.of e) _ _ k2⟩, ⟨rv, e _ _ r1, KeysAt.stay (.of e) _ _ r2⟩⟩
/-- a list is written, none of met's -/
theorem MetH.other (M : MetH K P w H0 H sc kd d a b ws rows) {c : Addr} {xs ys : List V} (hc : H c = some (.lst xs)) (h0 : H0 c = none) (ca : c ≠ a) (cb : c ≠ b) : MetH K P w H0 (upd H c (.lst ys)) sc kd d a b ws rows := by
  obtain ⟨kv, k1, k2⟩ := M.keys
  obtain ⟨rv, r1, r2⟩ := M.rows
  have st : TupsStay H (upd H c (.lst ys)) := .upd (fun xs z => by rw [hc] at z; cases z) fun o u z => by rw [hc] at z; cases z
  refine ⟨fun x o e => ?_, M.nd, M.na, M.nb, M.ab, M.tab.stay st (upd_ne (Ne.symm (tab_ne M.tab hc))), ⟨kv, by rw [upd_ne (Ne.symm ca)]; exact k1, KeysAt.stay st _ _ k2⟩, ⟨rv, by rw [upd_ne (Ne.symm cb)]; exact r1, KeysAt.stay st _ _ r2⟩⟩
  rw [upd_ne (fun z => by rw [z, h0] at e; cases e)]
  exact M.same x o e
theorem keys_snoc : ∀ {vs : List V} {ks : List NestedKey} {v : V} {k : NestedKey}, KeysAt K H vs ks → KeyAt K H v k → KeysAt K H (vs ++ [v]) (ks ++ [k])
  | [], [], _, _, _, h => .cons h .nil
  | v :: vs, k :: ks, _, _, .cons a r, h => .cons a (keys_snoc r h)
theorem keys_len : ∀ {vs : List V} {ks : List NestedKey}, KeysAt K H vs ks → vs.length = ks.length
  | [], [], _ => rfl
  | _ :: vs, _ :: ks, .cons _ r => by rw [List.length_cons, List.length_cons, keys_len r]
theorem keys_get : ∀ {vs : List V} {ks : List NestedKey} {i : Nat} {k : NestedKey}, KeysAt K H vs ks → ks[i]? = some k → ∃ v, vs[i]? = some v ∧ KeyAt K H v k
  | [], [], _, _, _, e => by simp at e
  | v :: vs, k :: ks, 0, _, .cons a r, e => by
    cases Option.some.inj e
    exact ⟨v, rfl, a⟩
  | v :: vs, k :: ks, i + 1, _, .cons a r, e => keys_get (i := i) (show KeysAt K H vs ks from r) e
/-- a new key is kept -/
theorem MetH.key (M : MetH K P w H0 H sc kd d a b ws rows) {u : V} {x : Wd} {o : HO} (ku : KeyAt K H u (kd x)) (st : TupsStay H (upd H d o)) (t : TabAt K P w (upd H d o) sc d (tabOf kd (ws ++ [x]))) {kv : List V} (hk : H a = some (.lst kv)) : MetH K P w H0 (upd (upd H d o) a (.lst (kv ++ [u]))) sc kd d a b (ws ++ [x]) rows := by
  obtain ⟨kv', k1, k2⟩ := M.keys
  rw [hk] at k1
  cases k1
  obtain ⟨rv, r1, r2⟩ := M.rows
  have ad : a ≠ d := tab_ne M.tab hk
  have bd : b ≠ d := tab_ne M.tab r1
  have ha : upd H d o a = some (.lst kv) := by rw [upd_ne ad]; exact hk
  have st2 : TupsStay (upd H d o) (upd (upd H d o) a (.lst (kv ++ [u]))) := .upd (fun xs z => by rw [ha] at z; cases z) fun o' u z => by rw [ha] at z; cases z
  have s12 := st.trans st2
  refine ⟨fun c o' e => ?_, M.nd, M.na, M.nb, M.ab, t.stay st2 (upd_ne (Ne.symm ad)), ⟨kv ++ [u], upd_same, ?_⟩, ⟨rv, by rw [upd_ne (Ne.symm M.ab), upd_ne bd]; exact r1, KeysAt.stay s12 _ _ r2⟩⟩
  · rw [upd_ne (fun z => by rw [z, M.na] at e; cases e), upd_ne (fun z => by rw [z, M.nd] at e; cases e)]
    exact M.same c o' e
  · rw [List.map_append]
    exact keys_snoc (KeysAt.stay s12 _ _ k2) (KeyAt.stay s12 _ _ ku)
/-- a row is kept -/
theorem MetH.row (M : MetH K P w H0 H sc kd d a b ws rows) {u : V} {r : List Nat} (ku : KeyAt K H u (rk r)) {rv : List V} (hr : H b = some (.lst rv)) : MetH K P w H0 (upd H b (.lst (rv ++ [u]))) sc kd d a b ws (rows ++ [r]) := by
  obtain ⟨kv, k1, k2⟩ := M.keys
  obtain ⟨rv', r1, r2⟩ := M.rows
  rw [hr] at r1
  cases r1
  have st : TupsStay H (upd H b (.lst (rv ++ [u]))) := .upd (fun xs z => by rw [hr] at z; cases z) fun o' u z => by rw [hr] at z; cases z
  refine ⟨fun c o' e => ?_, M.nd, M.na, M.nb, M.ab, M.tab.stay st (upd_ne (Ne.symm (tab_ne M.tab hr))), ⟨kv, by rw [upd_ne M.ab]; exact k1, KeysAt.stay st _ _ k2⟩, ⟨rv ++ [u], upd_same, ?_⟩⟩
  · rw [upd_ne (fun z => by rw [z, M.nb] at e; cases e)]
    exact M.same c o' e
  · rw [List.map_append]
    exact keys_snoc (KeysAt.stay st _ _ r2) (KeyAt.stay st _ _ ku)
end
end K71
end
section
set_option Elab.async false
set_option linter.all false
set_option maxRecDepth 100000
set_option maxHeartbeats 4000000
/-! met, its body -/
namespace K71
open PySem PySem.Spec SG
open L2 hiding It
open PyProof.Rows hiding St
open Lv (Wd)
section
variable {P : Program} {w : World} {K : PySem.W.Frag} {mg : Str → Option Value} {base : Heap}
/-- one letter further: what met asks of the function that it was handed -/
def spStep (K : PySem.W.Frag) (H0 : Hp) (kd : Wd → NestedKey) (L : List Nat) : Sp := fun vs H Q _ => ∃ (x : Wd) (j : Nat) (v : V), vs = [v, .int j] ∧ Same H0 H ∧ KeyAt K H v (kd x) ∧ x.length ≤ 200 ∧ (∀ c ∈ x, c ∈ L) ∧ j < L.length ∧
  ∀ u H', Same H H' → KeyAt K H' u (kd (x ++ [L.getD j 0])) → Q u H'
/-- a pair, its second part new -/
def PairD (K : PySem.W.Frag) (H H' : Hp) (v : V) (d1 d2 : PyData) : Prop := ∃ t x b, v = .ref t ∧ SqT K H' t [x, .ref b] ∧ H b = none ∧ Dp K H' x d1 ∧ Dp K H' (.ref b) d2
def TooMany (C : Addr) (H : Hp) (E : XK) : Prop := ∀ d H', Same H H' → H d = none → H' d = some (.xd [("many", .int 201)]) → E (.ref C) (some d) H'
def spMet (P : Program) (w : World) (K : PySem.W.Frag) (mg : Str → Option Value) (C : Addr) (k : Nat) (B : Heap) : Sp := fun vs H Q E => ∃ (L : List Nat) (kd : Wd → NestedKey) (sc : Bool) (st : V) (f : Addr), vs = [st, .ref f, .int (L.length : Nat), .int 200] ∧ L.length ≤ 3 ∧
  KeyAt K H st (kd []) ∧ (∀ x, FitK sc (kd x)) ∧ Oracle P w K mg B k H f (spStep K H kd L) ∧
  ((Bf.st (RK kd) L 200).1.length ≤ 200 → ∀ v H', Same H H' → PairD K H H' v (.list (NestedKey.datas ((Bf.st (RK kd) L 200).1.map kd))) (.list ((Bf.st (RK kd) L 200).2.map rowD)) → Q v H') ∧
  (200 < (Bf.st (RK kd) L 200).1.length → TooMany C H E)
theorem ok_met {f : Addr} {fd : FuncData} {k : Nat} {C : Addr} {ok : V → Prop} (F : Fun K "met" "met" s_met f fd) (T : Blt mg) (TL : ErrX P w K mg "TooLarge" "many" C ok) (hok : ok (.int 201)) : ∀ B, FnOk P w K mg B (L2N.CX P w) (k + 1) f fd ["start", "step", "width", "most"] (spMet P w K mg C k B) := by
  intro B
  refine Fun.okN F sc_met (fun vs H Q E h => ?_) (fun cdv A outer s H vs Q E hr h => ?_)
  · obtain ⟨L, kd, sc, st, f, rfl, _⟩ := h
    rfl
  · obtain ⟨L, kd, sc, st, fs, rfl, hL3, hst, hfit, hor, hq, hx⟩ := h
    refine ⟨_, (pss_cons (ps_set (i := 4) sc_met.nd rfl (Or.inl rfl) (pe_disT sc hr.units (pv 0) pe_int))
      (pss_cons (ps_set (i := 5) sc_met.nd rfl (Or.inl rfl) (pe_lst (pa_cons (pv 0) pa_nil)))
      (pss_cons (ps_set (i := 6) sc_met.nd rfl (Or.inl rfl) (pe_lst pa_nil))
      (pss_cons (ps_while (passes_of rfl) (pt_cmpR op_lt (pe_callB call_len_seq (by rfl) T.len PySem.boot_len (pa_cons (pv 6) pa_nil)) (pe_callB call_len_seq (by rfl) T.len PySem.boot_len (pa_cons (pv 5) pa_nil)) (nomark _))
        (pss_cons (ps_set (i := 7) sc_met.nd rfl (Or.inl rfl) (pe_lst pa_nil))
      (pss_cons (ps_for (passes_of rfl) rfl (pi_range1 (by rfl) T.range (pa_cons (pv 2) pa_nil)) (pg_name (i := 8) sc_met.nd rfl (Or.inl rfl))
        (pss_cons (ps_set (i := 9) sc_met.nd rfl (Or.inl rfl) (pe_callOr (i := 1) hr rfl (.inl rfl) (pa_cons (pe_ix ix_list (pv 5) (pe_callB call_len_seq (by rfl) T.len PySem.boot_len (pa_cons (pv 6) pa_nil)) (fun _ _ => rfl)) (pa_cons (pv 8) pa_nil))))
      (pss_cons (ps_if (pt_cmpR (op_notinT hr.units) (pv 9) (pv 4) (by rfl)) (pss_cons (ps_if (pt_cmpR op_eq (pe_callB call_len_seq (by rfl) T.len PySem.boot_len (pa_cons (pv 5) pa_nil)) (pv 3) (nomark _)) (pss_one (ps_raiseE rfl TL hr (L2N.takes_of rfl rfl rfl rfl) (pa_cons (pe_op op_add (pv 3) pe_int) pa_nil) (by rfl))) pss_nil)
      (pss_cons (ps_putT hr.units (pv 4) (pv 9) (pe_callB call_len_seq (by rfl) T.len PySem.boot_len (pa_cons (pv 5) pa_nil)) rfl)
      (pss_one (ps_expr (pe_bm PySem.F.plainAttrs_list PySem.F.slot_list_append PySem.F.type_list_append mt_append (pv 5) (pa_cons (pv 9) pa_nil)))))) pss_nil)
      (pss_one (ps_expr (pe_bm PySem.F.plainAttrs_list PySem.F.slot_list_append PySem.F.type_list_append mt_append (pv 7) (pa_cons (pe_getT hr.units (pv 4) (pv 9) (fun _ _ => rfl)) pa_nil)))))))
      (pss_one (ps_expr (pe_bm PySem.F.plainAttrs_list PySem.F.slot_list_append PySem.F.type_list_append mt_append (pv 6) (pa_cons (pe_callTy call_tuple_of (by rfl) T.tuple (by decide +kernel) (pa_cons (pv 7) pa_nil)) pa_nil)))))))
      (pss_one (ps_ret (pe_tup (pa_cons (pv 5) (pa_cons (pv 6) pa_nil))))))))), ?_⟩
    -- numbers = {start: 0}
    refine fun d nd => ⟨_, rfl, ?_⟩
    have s0 : Same H (upd H d (empT P w sc d)) := same_new nd
    refine ⟨upd_same, kd [], KeyAt.stay (.of s0) _ _ hst, hfit [], fun o st1 tb => ?_⟩
    dsimp only [cxOf] at st1 tb ⊢
    generalize hH1 : upd (upd H d (empT P w sc d)) d o = H1 at st1 tb ⊢
    have s1 : Same H H1 := fun x u e => by
      have nx : x ≠ d := fun z => by rw [z, nd] at e; cases e
      rw [← hH1, upd_ne nx, upd_ne nx]
      exact e
    -- keys = [start], rows = []
    refine ⟨_, rfl, sizeLine_le (by show 1 ≤ _; decide), fun a na => ⟨sizeLine_le (by show 0 ≤ _; decide), fun b nb => ?_⟩⟩
    have s2 : Same H1 (upd H1 a (.lst [st])) := same_new na
    have s3 : Same (upd H1 a (.lst [st])) (upd (upd H1 a (.lst [st])) b (.lst [])) := same_new nb
    have nab : a ≠ b := fun z => by rw [z, upd_same] at nb; cases nb
    have hd1 : ∃ o', H1 d = some o' := ⟨o, by rw [← hH1]; exact upd_same⟩
    obtain ⟨o1, ho1⟩ := hd1
    have M0 : MetH K P w H (upd (upd H1 a (.lst [st])) b (.lst [])) sc kd d a b (Bf.st (RK kd) L 0).1 (Bf.st (RK kd) L 0).2 := by
      refine ⟨s1.trans (s2.trans s3), nd, s1.free na, s1.free (s2.free nb), nab, ?_, ⟨[st], by rw [upd_ne nab]; exact upd_same, ?_⟩, ⟨[], upd_same, .nil⟩⟩
      · refine TabAt.stay (m := tabOf kd [[]]) tb (.of (s2.trans s3)) ?_
        rw [ho1]
        exact (s2.trans s3) d o1 ho1
      · exact .cons (KeyAt.stay (.of (s1.trans (s2.trans s3))) _ _ hst) .nil
    refine ⟨fun m σ H' => ∃ r, m = 200 - r ∧ (Bf.st (RK kd) L r).1.length ≤ 200 ∧ r ≤ (Bf.st (RK kd) L r).1.length ∧ MetH K P w H H' sc kd d a b (Bf.st (RK kd) L r).1 (Bf.st (RK kd) L r).2 ∧
      ∃ v7 v8 v9, σ = [some st, some (.ref fs), some (.int (L.length : Nat)), some (.int 200), some (.ref d), some (.ref a), some (.ref b), v7, v8, v9], ⟨200, 0, rfl, by show 1 ≤ 200; decide, Nat.zero_le _, M0, none, none, none, rfl⟩, ?_⟩
    rintro m σ H2 ⟨r, rfl, hw200, hrw, M, v7, v8, v9, rfl⟩
    have SI := Bf.st_inv (rk_eqv kd) L r
    have SA := SI.apart
    have hst_succ := Bf.st_succ (rk_eqv kd) L r
    have hdone := Bf.st_done (rk_eqv kd) L (k := r)
    have hmono : ∀ k', r ≤ k' → _ := fun k' => Bf.st_mono (rk_eqv kd) L (k := r) (k' := k')
    obtain ⟨kv, k1, k2⟩ := M.keys
    obtain ⟨rv, r1, r2⟩ := M.rows
    have lk : kv.length = (Bf.st (RK kd) L r).1.length := by rw [keys_len k2, List.length_map]
    have lr : rv.length = r := by
      rw [keys_len r2, List.length_map, SI.len]
      omega
    refine ⟨_, rfl, b, rv, rfl, .inl (SqL.of r1), _, rfl, a, kv, rfl, .inl (SqL.of k1), _, _, rfl, rfl, _, rfl, ?_⟩
    by_cases hlt : r < (Bf.st (RK kd) L r).1.length
    · have eb : decide (((rv.length : Nat) : Int) < (kv.length : Nat)) = true := decide_eq_true (by rw [lk, lr]; omega)
      rw [eb]
      refine iteT ?_
      obtain ⟨wr, hwr⟩ : ∃ x, (Bf.st (RK kd) L r).1[r]? = some x := ⟨_, List.getElem?_eq_getElem hlt⟩
      have es : Bf.st (RK kd) L (r + 1) = ((Bf.rowOf (RK kd) wr L (Bf.st (RK kd) L r).1).1, (Bf.st (RK kd) L r).2 ++ [(Bf.rowOf (RK kd) wr L (Bf.st (RK kd) L r).1).2]) := by
        rcases hst_succ with ⟨_, z⟩ | ⟨x, z1, z2⟩
        · omega
        · rw [hwr] at z1
          cases z1
          exact z2
      have mono1 := Bf.st_mono (rk_eqv kd) L (k := r + 1) (k' := 200) (by omega)
      rw [es] at mono1
      have wshort := SI.short r wr hwr
      have wover := SI.over wr (List.mem_of_getElem? hwr)
      refine ⟨fun σ' H' => ∃ r', r' = r + 1 ∧ (Bf.st (RK kd) L r').1.length ≤ 200 ∧ r' ≤ (Bf.st (RK kd) L r').1.length ∧ MetH K P w H H' sc kd d a b (Bf.st (RK kd) L r').1 (Bf.st (RK kd) L r').2 ∧
        ∃ v7 v8 v9, σ' = [some st, some (.ref fs), some (.int (L.length : Nat)), some (.int 200), some (.ref d), some (.ref a), some (.ref b), v7, v8, v9], ?_, ?_⟩
      · rintro σ' H' ⟨r', rfl, h1, h2, h3, h4⟩
        exact ⟨200 - (r + 1), by omega, r + 1, rfl, h1, h2, h3, h4⟩
      -- row = []
      refine ⟨sizeLine_le (by show 0 ≤ _; decide), fun c nc => ?_⟩
      have M1 := M.same' (same_new (o := .lst []) nc)
      have nca : c ≠ a := fun z => by rw [z, k1] at nc; cases nc
      have ncb : c ≠ b := fun z => by rw [z, r1] at nc; cases nc
      have nc0 : H c = none := M.same.free nc
      generalize hws : (Bf.st (RK kd) L r).1 = ws at *
      generalize hrows : (Bf.st (RK kd) L r).2 = rows at *
      refine ⟨_, rfl, (L.length : Int), rfl, by omega, by omega, for_range (lo := 0) (n := L.length) (fun j σ H' => (Bf.rowOf (RK kd) wr (L.take j) ws).1.length ≤ 200 ∧ MetH K P w H H' sc kd d a b (Bf.rowOf (RK kd) wr (L.take j) ws).1 rows ∧ H' c = some (.lst ((Bf.rowOf (RK kd) wr (L.take j) ws).2.map fun (x : Nat) => V.int (x : Int))) ∧
        ∃ v8 v9, σ = [some st, some (.ref fs), some (.int (L.length : Nat)), some (.int 200), some (.ref d), some (.ref a), some (.ref b), some (.ref c), v8, v9]) ⟨hw200, M1, upd_same, v8, v9, rfl⟩ (fun j σ H' hj hP => ?_) (fun σ H' hP => ?_)⟩
      · obtain ⟨hj200, MJ, hc, v8', v9', rfl⟩ := hP
        have hLj : L[j]? = some (L.getD j 0) := by rw [List.getD_eq_getElem?_getD, List.getElem?_eq_getElem hj] <;> rfl
        have etk : L.take (j + 1) = L.take j ++ [L.getD j 0] := take_snoc hLj
        have eone : Bf.rowOf (RK kd) wr (L.take (j + 1)) ws = Bf.one (RK kd) wr (Bf.rowOf (RK kd) wr (L.take j) ws) (L.getD j 0) := by
          rw [etk, Bf.rowOf_snoc]
        have up1 := row_up (R := RK kd) wr (L.take (j + 1)) (L.drop (j + 1)) ws
        rw [List.take_append_drop] at up1
        have RI := Bf.row_inv (rk_eqv kd) (w := wr) SA (L.take j)
        rw [eone] at up1 ⊢
        obtain ⟨tl, pre⟩ := RI.pre
        generalize hS : Bf.rowOf (RK kd) wr (L.take j) ws = S at *
        have hwrS : S.1[r]? = some wr := by
          rw [pre, List.getElem?_append_left hlt]
          exact hwr
        obtain ⟨kv', k1', k2'⟩ := MJ.keys
        obtain ⟨rv', r1', r2'⟩ := MJ.rows
        have lr' : rv'.length = r := by rw [keys_len r2', ← keys_len r2, lr]
        have lk' : kv'.length = S.1.length := by rw [keys_len k2', List.length_map]
        obtain ⟨kx, kx1, kx2⟩ := keys_get k2' (i := r) (k := kd wr) (by rw [List.getElem?_map, hwrS] <;> rfl)
        have e0 : (0 : Int) + (j : Int) = (j : Int) := Int.zero_add _
        rw [e0]
        -- key = step(keys[len(rows)], index)
        refine ⟨fs, spStep K H kd L, rfl, hor.same MJ.same, _, rfl, _, rfl, b, rv', rfl, .inl (SqL.of r1'), a, kv', _, kx, rfl, rfl, SqL.of k1', by rw [lr']; exact atI_nat kx1, _, rfl, hor.same MJ.same, wr, j, kx, rfl, MJ.same, kx2, by omega, wover, hj, fun u H3 s3 ku => ?_⟩
        have M3 := MJ.same' s3
        obtain ⟨kv3, q1, q2⟩ := M3.keys
        have lk3 : kv3.length = S.1.length := by rw [keys_len q2, List.length_map]
        have hc3 : H3 c = some (.lst (S.2.map fun (x : Nat) => V.int (x : Int))) := s3 c _ hc
        refine ⟨_, rfl, _, rfl, sc, d, _, _, rfl, M3.tab, ku, hfit _, _, rfl, ?_⟩
        rw [if_pos rfl, tab_at]
        have fin : ∀ (S' : List Wd × List Nat) (H4 : Hp) (i : Nat), S' = (S'.1, S.2 ++ [i]) → S'.1.length ≤ 200 → MetH K P w H H4 sc kd d a b S'.1 rows → H4 c = some (.lst ((S.2.map fun (x : Nat) => V.int (x : Int)) ++ [V.int (i : Int)])) → 
            S'.1.length ≤ 200 ∧ MetH K P w H H4 sc kd d a b S'.1 rows ∧ H4 c = some (.lst (S'.2.map fun (x : Nat) => V.int (x : Int))) ∧
            ∃ w8 w9, [some st, some (.ref fs), some (.int (L.length : Nat)), some (.int 200), some (.ref d), some (.ref a), some (.ref b), some (.ref c), some (.int (j : Int)), some u] = [some st, some (.ref fs), some (.int (L.length : Nat)), some (.int 200), some (.ref d), some (.ref a), some (.ref b), some (.ref c), w8, w9] :=
          fun S' H4 i e h1 h2 h3 => ⟨h1, h2, by rw [h3, e, List.map_append] <;> rfl, _, _, rfl⟩
        have lS2 : S.2.length ≤ 3 := by
          rw [RI.len, List.length_take]
          omega
        cases hp : Bf.place (RK kd) S.1 (wr ++ [L.getD j 0]) with
        | some i =>
          refine iteF ?_
          -- row.append(numbers[key])
          have hv : valV (tabOf kd S.1) (kd (wr ++ [L.getD j 0])) = some (.int (i : Nat)) := by rw [tab_at, hp] <;> rfl
          refine ⟨_, rfl, .inl ⟨rfl, _, SqL.of hc3⟩, _, rfl, _, rfl, sc, d, _, _, _, rfl, M3.tab, ku, hfit _, hv, c, _, _, rfl, rfl, hc3, by rw [List.length_map]; exact Nat.lt_of_le_of_lt lS2 (by rw [sizeLine_eq]; decide), ?_⟩
          have eS : Bf.one (RK kd) wr S (L.getD j 0) = (S.1, S.2 ++ [i]) := by
            unfold Bf.one
            rw [hp]
          rw [eS]
          refine fin (S.1, S.2 ++ [i]) _ i rfl hj200 (M3.other hc3 nc0 nca ncb) ?_
          exact upd_same
        | none =>
          refine iteT ?_
          have eS : Bf.one (RK kd) wr S (L.getD j 0) = (S.1 ++ [wr ++ [L.getD j 0]], S.2 ++ [S.1.length]) := by
            unfold Bf.one
            rw [hp]
          rw [eS] at up1 ⊢
          -- if len(keys) == most
          refine ⟨_, rfl, a, kv3, rfl, .inl (SqL.of q1), _, rfl, rfl, _, rfl, ?_⟩
          rw [lk3]
          by_cases full : S.1.length = 200
          · have eqd : decide (V.int ((S.1.length : Nat) : Int) = V.int 200) = true := decide_eq_true (by rw [full] <;> rfl)
            rw [eqd]
            refine iteT ?_
            refine ⟨_, rfl, _, _, rfl, rfl, _, rfl, hok, fun dd ndd => ?_⟩
            refine hx ?_ dd _ ?_ ?_ upd_same
            · rw [List.length_append, full] at up1
              exact Nat.lt_of_lt_of_le (show 200 < 201 by decide) (Nat.le_trans up1 mono1)
            · exact M3.same.trans (same_new ndd)
            · exact M3.same.free ndd
          · have ne : decide (V.int ((S.1.length : Nat) : Int) = V.int 200) = false := decide_eq_false fun z => full (by injection z with z; omega)
            rw [ne]
            refine iteF ?_
            -- numbers[key] = len(keys)
            refine ⟨_, rfl, a, kv3, rfl, .inl (SqL.of q1), _, rfl, _, rfl, sc, d, _, _, rfl, M3.tab, ku, hfit _, by rw [tab_len]; exact Nat.lt_of_le_of_lt hj200 (by rw [sizeLine_eq]; decide), fun o' st4 tb4 => ?_⟩
            rw [lk3, tab_put kd hp] at tb4
            -- keys.append(key)
            have nad : a ≠ d := tab_ne M3.tab q1
            have ncd : c ≠ d := tab_ne M3.tab hc3
            have q1' : upd H3 d o' a = some (.lst kv3) := by rw [upd_ne nad]; exact q1
            refine ⟨_, rfl, .inl ⟨rfl, _, SqL.of q1'⟩, _, rfl, a, _, _, rfl, rfl, q1', by rw [lk3]; exact Nat.lt_of_le_of_lt hj200 (by rw [sizeLine_eq]; decide), ?_⟩
            have M4 := M3.key ku st4 tb4 q1
            have hc4 : upd (upd H3 d o') a (.lst (kv3 ++ [u])) c = some (.lst (S.2.map fun (x : Nat) => V.int (x : Int))) := by
              rw [upd_ne nca, upd_ne ncd]
              exact hc3
            have st5 : TupsStay (upd H3 d o') (upd (upd H3 d o') a (.lst (kv3 ++ [u]))) := .upd (fun xs z => by rw [q1'] at z; cases z) fun o u z => by rw [q1'] at z; cases z
            have hv : valV (tabOf kd (S.1 ++ [wr ++ [L.getD j 0]])) (kd (wr ++ [L.getD j 0])) = some (.int (S.1.length : Nat)) := by
              have A2 := Bf.apart_snoc (rk_eqv kd) RI.apart (Bf.place_none (rk_eqv kd) hp)
              rw [tab_at, Bf.place_of (rk_eqv kd) A2 (i := S.1.length) (x := wr ++ [L.getD j 0]) (by rw [List.getElem?_append_right (Nat.le_refl _), Nat.sub_self] <;> rfl) rfl] <;> rfl
            -- row.append(numbers[key])
            refine ⟨_, rfl, .inl ⟨rfl, _, SqL.of hc4⟩, _, rfl, _, rfl, sc, d, _, _, _, rfl, M4.tab, KeyAt.stay (st4.trans st5) _ _ ku, hfit _, hv, c, _, _, rfl, rfl, hc4, by rw [List.length_map]; exact Nat.lt_of_le_of_lt lS2 (by rw [sizeLine_eq]; decide), ?_⟩
            refine fin (S.1 ++ [wr ++ [L.getD j 0]], S.2 ++ [S.1.length]) _ S.1.length rfl (by rw [List.length_append]; show S.1.length + 1 ≤ 200; omega) (M4.other hc4 nc0 nca ncb) ?_
            exact upd_same
      · obtain ⟨h200, MJ, hc, v8', v9', rfl⟩ := hP
        rw [List.take_length] at h200 MJ hc
        have RI := Bf.row_inv (rk_eqv kd) (w := wr) SA L
        obtain ⟨rv', r1', r2'⟩ := MJ.rows
        have lr' : rv'.length = r := by rw [keys_len r2', ← keys_len r2, lr]
        -- rows.append(tuple(row))
        refine ⟨_, rfl, .inl ⟨rfl, _, SqL.of r1'⟩, _, rfl, c, _, rfl, .inl ⟨SqL.of hc, fun e ne => ?_⟩⟩
        have se := same_new (o := .tup ((Bf.rowOf (RK kd) wr L ws).2.map fun (x : Nat) => V.int (x : Int))) ne
        have M5 := MJ.same' se
        have r1e := se b _ r1'
        refine ⟨b, _, _, rfl, rfl, r1e, by rw [lr']; exact Nat.lt_of_le_of_lt (show r ≤ 200 by omega) (by rw [sizeLine_eq]; decide), ?_⟩
        have ke : KeyAt K (upd H' e (.tup ((Bf.rowOf (RK kd) wr L ws).2.map fun (x : Nat) => V.int (x : Int)))) (.ref e) (rk (Bf.rowOf (RK kd) wr L ws).2) := by
          show Dp K _ _ (rk _).data
          rw [← rowD_rk]
          refine .tup (.of upd_same) ?_
          have := dp_ints (K := K) (H := upd H' e (.tup ((Bf.rowOf (RK kd) wr L ws).2.map fun (x : Nat) => V.int (x : Int)))) ((Bf.rowOf (RK kd) wr L ws).2.map fun (x : Nat) => (x : Int))
          rw [List.map_map, List.map_map] at this
          exact this
        have M6 := M5.row ke r1e
        refine ⟨r + 1, rfl, by rw [es]; exact h200, ?_, by rw [es]; exact M6, _, _, _, rfl⟩
        rw [es]
        obtain ⟨tl, pre⟩ := RI.pre
        show r + 1 ≤ (Bf.rowOf (RK kd) wr L ws).1.length
        rw [pre, List.length_append]
        omega
    · have eb : decide (((rv.length : Nat) : Int) < (kv.length : Nat)) = false := decide_eq_false (by rw [lk, lr]; omega)
      rw [eb]
      refine iteF ?_
      have e200 : Bf.st (RK kd) L 200 = Bf.st (RK kd) L r := by
        have := hdone (by omega) (200 - r)
        rw [show r + (200 - r) = 200 by omega] at this
        exact this
      refine ⟨_, rfl, _, rfl, sizeLine_le (by show 2 ≤ _; decide), fun e ne => ?_⟩
      refine hq (by rw [e200]; exact hw200) _ _ (M.same.trans (same_new ne)) ?_
      rw [e200]
      have M7 := M.same' (same_new (o := .tup [.ref a, .ref b]) ne)
      obtain ⟨kv7, g1, g2⟩ := M7.keys
      obtain ⟨rv7, g3, g4⟩ := M7.rows
      rw [rows_rk]
      exact ⟨e, _, b, rfl, .of upd_same, M.nb, .lst (SqL.of g1) g2, .lst (SqL.of g3) g4⟩
end
end K71
end
section
set_option Elab.async false
set_option linter.all false
set_option maxRecDepth 100000
set_option maxHeartbeats 2000000
/-! longer_kind: a kind, a letter further -/
namespace K71
open PySem PySem.Spec SG
open L2 hiding It
open PyProof.Rows hiding St
open Lv (Wd Srt IT)
def nmS : Srt → Str
  | .rank => "rank"
  | .since => "since"
  | .once => "once"
/-- the number of a word in a table -/
abbrev numW (L : List Nat) (rows : List (List Nat)) (w : Wd) : Nat := walkN L rows 0 w
/-- an item as a key -/
def pk (s : Srt) (t : IT) : NestedKey := if s = .rank then k3 t else k2 t
/-- the items of a word as they stand in its kind -/
def itemsK (s : Srt) (ν : Wd → Nat) (w : Wd) : List NestedKey := if s = .since then (Cn.dd (Lv.itemsOf s ν w)).map k2 else Cn.canon ((Lv.itemsOf s ν w).map (pk s))
def kdL (s : Srt) (L : List Nat) (rows : List (List Nat)) (w : Wd) : NestedKey := .tup [.num (numW L rows w : Nat), .tup (itemsK s (numW L rows) w)]
theorem k3_inj {a b : IT} (h : k3 a = k3 b) : a = b := by
  obtain ⟨a1, a2, a3⟩ := a
  obtain ⟨b1, b2, b3⟩ := b
  unfold k3 at h
  injection h with h
  injection h with q1 h
  injection h with q2 h
  injection h with q3 _
  injection q1 with q1
  injection q2 with q2
  injection q3 with q3
  have q4 := tx_inj q2
  simp only [List.cons.injEq, and_true] at q4
  have e1 : a1 = b1 := Int.ofNat.inj q1
  have e3 : a3 = b3 := Int.ofNat.inj q3
  rw [e1, q4, e3]
theorem k2_inj {a b : IT} (ha : a.2.2 = 0) (hb : b.2.2 = 0) (h : k2 a = k2 b) : a = b := by
  have e := eqv2 a b ha hb
  rw [Cn.eqv_key, h, NestedKey.beq_self] at e
  exact of_decide_eq_true e.symm
theorem items_zero {s : Srt} (hs : s ≠ .rank) (ν : Wd → Nat) (w : Wd) : ∀ t ∈ Lv.itemsOf s ν w, t.2.2 = 0 := fun t ht => by
  obtain ⟨x, _, rfl⟩ := List.mem_map.mp ht
  exact if_neg hs
theorem pk_inj {s : Srt} {ν μ : Wd → Nat} {u v : Wd} {a b : IT} (ha : a ∈ Lv.itemsOf s ν u) (hb : b ∈ Lv.itemsOf s μ v) (h : pk s a = pk s b) : a = b := by
  by_cases e : s = .rank
  · unfold pk at h
    rw [if_pos e, if_pos e] at h
    exact k3_inj h
  · unfold pk at h
    rw [if_neg e, if_neg e] at h
    exact k2_inj (items_zero e ν u a ha) (items_zero e μ v b hb) h
theorem alikePk (s : Srt) (its : List IT) : Cn.Alike (its.map (pk s)) := by
  by_cases e : s = .rank
  · have : its.map (pk s) = its.map k3 := List.map_congr_left fun t _ => if_pos e
    rw [this]
    exact alikeAll3 its
  · have : its.map (pk s) = its.map k2 := List.map_congr_left fun t _ => if_neg e
    rw [this]
    exact alikeAll2 its
theorem map_inj_on {α β : Type} {f : α → β} : ∀ {l m : List α}, (∀ a ∈ l, ∀ b ∈ m, f a = f b → a = b) → l.map f = m.map f → l = m
  | [], [], _, _ => rfl
  | [], _ :: _, _, h => by cases h
  | _ :: _, [], _, h => by cases h
  | a :: l, b :: m, h, e => by
    rw [List.map_cons, List.map_cons] at e
    injection e with e1 e2
    rw [h a List.mem_cons_self b List.mem_cons_self e1, map_inj_on (fun x hx y hy => h x (List.mem_cons_of_mem _ hx) y (List.mem_cons_of_mem _ hy)) e2]
/-- two kinds have the same items -/
theorem itemsK_eq {s : Srt} {ν μ : Wd → Nat} {u v : Wd} : itemsK s ν u = itemsK s μ v ↔ Lv.KeyEq s (Lv.itemsOf s ν u) (Lv.itemsOf s μ v) := by
  unfold itemsK
  by_cases e : s = .since
  · rw [if_pos e, if_pos e, Lv.keyEq_since e]
    constructor
    · intro h
      have hs : s ≠ .rank := by rw [e]; decide
      exact map_inj_on (fun a ha b hb q => k2_inj (items_zero hs ν u a (Cn.mem_dd.mp ha)) (items_zero hs μ v b (Cn.mem_dd.mp hb)) q) h
    · intro h
      rw [h]
  · rw [if_neg e, if_neg e, Lv.keyEq_set e, Cn.canon_eq (alikePk s _)]
    constructor
    · intro h t
      constructor
      · intro ht
        obtain ⟨t', ht', q⟩ := List.mem_map.mp ((h (pk s t)).mp (List.mem_map.mpr ⟨t, ht, rfl⟩))
        rw [← pk_inj ht' ht q]
        exact ht'
      · intro ht
        obtain ⟨t', ht', q⟩ := List.mem_map.mp ((h (pk s t)).mpr (List.mem_map.mpr ⟨t, ht, rfl⟩))
        rw [← pk_inj ht' ht q]
        exact ht'
    · intro h x
      rw [List.mem_map, List.mem_map]
      exact ⟨fun ⟨t, ht, q⟩ => ⟨t, (h t).mp ht, q⟩, fun ⟨t, ht, q⟩ => ⟨t, (h t).mpr ht, q⟩⟩
/-- the items of a kind, as items -/
theorem itemsK_its (s : Srt) (ν : Wd → Nat) (w : Wd) : ∃ its : List IT, its.map (pk s) = itemsK s ν w ∧ its.length ≤ w.length ∧ (∀ t, t ∈ its ↔ t ∈ Lv.itemsOf s ν w) ∧ (s = .since → its = Cn.dd (Lv.itemsOf s ν w)) := by
  have len : (Lv.itemsOf s ν w).length = w.length := by
    unfold Lv.itemsOf
    rw [List.length_map, Lv.splits_len]
  have dl : (Cn.dd (Lv.itemsOf s ν w)).length ≤ w.length := by
    rw [← len]
    exact nodup_le _ _ (Cn.nodup_dd _) fun x hx => Cn.mem_dd.mp hx
  by_cases e : s = .since
  · refine ⟨Cn.dd (Lv.itemsOf s ν w), ?_, dl, fun t => Cn.mem_dd, fun _ => rfl⟩
    unfold itemsK
    rw [if_pos e]
    exact List.map_congr_left fun t _ => if_neg (by rw [e]; decide)
  · have hc : itemsK s ν w = (Cn.dd ((Lv.itemsOf s ν w).map (pk s))).mergeSort Cn.le := by
      unfold itemsK
      rw [if_neg e] <;> rfl
    have hd : Cn.dd ((Lv.itemsOf s ν w).map (pk s)) = (Cn.dd (Lv.itemsOf s ν w)).map (pk s) := Cn.dd_inj _ _ fun x hx y hy q => pk_inj hx hy q
    rw [hd] at hc
    obtain ⟨its, p, q⟩ := SG.perm_lift (pk s) (List.mergeSort_perm ((Cn.dd (Lv.itemsOf s ν w)).map (pk s)) Cn.le) (Cn.dd (Lv.itemsOf s ν w)) rfl
    refine ⟨its, by rw [hc, q], by rw [p.length_eq]; exact dl, fun t => p.mem_iff.trans Cn.mem_dd, fun z => absurd z e⟩
theorem walkN_nil (L : List Nat) (rows : List (List Nat)) : walkN L rows 0 [] = 0 := rfl
theorem idx_at {L : List Nat} (nd : L.Nodup) {j : Nat} (hj : j < L.length) : L.idxOf (L.getD j 0) = j := by
  have e : L.getD j 0 = L[j] := by rw [List.getD_eq_getElem?_getD, List.getElem?_eq_getElem hj] <;> rfl
  rw [e]
  exact List.Nodup.idxOf_getElem nd j hj
theorem Alph.nodup {L : List Nat} (h : Alph L) : L.Nodup := by
  rcases h with rfl | rfl | rfl <;> decide
theorem Alph.low {L : List Nat} (h : Alph L) : ∀ c ∈ L, c < 128 := by
  rcases h with rfl | rfl | rfl <;> decide
/-- the next items, by the sort -/
def nextK (s : Srt) (rows : List (List Nat)) (L : List Nat) (number j : Nat) (its : List IT) : List NestedKey := match s with
  | .rank => Cn.canon ((rankNext rows L number j its).map k3)
  | .since => (sinceNext L number j its).map k2
  | .once => Cn.canon ((onceNext L number j its).map k2)
theorem next_ok {L : List Nat} (hA : Alph L) (s : Srt) (rows : List (List Nat)) (w : Wd) {j : Nat} (hj : j < L.length) {its : List IT} (h1 : ∀ t, t ∈ its ↔ t ∈ Lv.itemsOf s (numW L rows) w) (h2 : s = .since → its = Cn.dd (Lv.itemsOf s (numW L rows) w)) :
    nextK s rows L (numW L rows w) j its = itemsK s (numW L rows) (w ++ [L.getD j 0]) := by
  have ej := idx_at hA.nodup hj
  have es : ∀ x : Wd, numW L rows (x ++ [L.getD j 0]) = stepN rows (numW L rows x) j := fun x => by
    show walkN L rows 0 (x ++ [L.getD j 0]) = _
    rw [walkN_snoc, ej]
  cases s with
  | rank =>
    unfold itemsK
    rw [if_neg (by decide)]
    show Cn.canon ((rankNext rows L (numW L rows w) j its).map k3) = Cn.canon ((Lv.itemsOf .rank (numW L rows) (w ++ [L.getD j 0])).map k3)
    refine (Cn.canon_eq (alikeAll3 _)).mpr fun x => ?_
    rw [Lv.items_snoc]
    unfold rankNext
    have m : x ∈ (its.map fun t => (t.1, t.2.1, stepN rows t.2.2 j)).map k3 ↔ x ∈ ((Lv.splits w).map fun x => (numW L rows x.1, x.2.1, if Srt.rank = .rank then numW L rows (x.2.2 ++ [L.getD j 0]) else 0)).map k3 := by
      constructor
      · intro hx
        obtain ⟨t', ht', rfl⟩ := List.mem_map.mp hx
        obtain ⟨t, ht, rfl⟩ := List.mem_map.mp ht'
        obtain ⟨y, hy, rfl⟩ := List.mem_map.mp ((h1 t).mp ht)
        refine List.mem_map.mpr ⟨_, List.mem_map.mpr ⟨y, hy, rfl⟩, ?_⟩
        show k3 (numW L rows y.1, y.2.1, if Srt.rank = .rank then numW L rows (y.2.2 ++ [L.getD j 0]) else 0) = k3 (numW L rows y.1, y.2.1, stepN rows (if Srt.rank = .rank then numW L rows y.2.2 else 0) j)
        rw [if_pos rfl, if_pos rfl, es]
      · intro hx
        obtain ⟨t', ht', rfl⟩ := List.mem_map.mp hx
        obtain ⟨y, hy, rfl⟩ := List.mem_map.mp ht'
        refine List.mem_map.mpr ⟨_, List.mem_map.mpr ⟨_, (h1 _).mpr (List.mem_map.mpr ⟨y, hy, rfl⟩), rfl⟩, ?_⟩
        show k3 (numW L rows y.1, y.2.1, stepN rows (if Srt.rank = .rank then numW L rows y.2.2 else 0) j) = k3 (numW L rows y.1, y.2.1, if Srt.rank = .rank then numW L rows (y.2.2 ++ [L.getD j 0]) else 0)
        rw [if_pos rfl, if_pos rfl, es]
    rw [List.map_append, List.mem_append, m]
    show (_ ∨ x ∈ [k3 (numW L rows w, L.getD j 0, 0)]) ↔ x ∈ k3 (numW L rows w, L.getD j 0, if Srt.rank = .rank then numW L rows [] else 0) :: _
    rw [List.mem_singleton, if_pos rfl, List.mem_cons]
    exact Or.comm
  | since =>
    unfold itemsK
    rw [if_pos rfl]
    show (sinceNext L (numW L rows w) j its).map k2 = _
    rw [h2 rfl, Lv.items_snoc]
    unfold sinceNext
    rw [Cn.dd]
    rfl
  | once =>
    unfold itemsK
    rw [if_neg (by decide)]
    show Cn.canon ((onceNext L (numW L rows w) j its).map k2) = Cn.canon ((Lv.itemsOf .once (numW L rows) (w ++ [L.getD j 0])).map k2)
    refine (Cn.canon_eq (alikeAll2 _)).mpr fun x => ?_
    rw [Lv.items_snoc]
    unfold onceNext
    have m : x ∈ its.map k2 ↔ x ∈ ((Lv.splits w).map fun x => (numW L rows x.1, x.2.1, if Srt.once = .rank then numW L rows (x.2.2 ++ [L.getD j 0]) else 0)).map k2 := by
      rw [List.mem_map, List.mem_map]
      constructor
      · rintro ⟨t, ht, rfl⟩
        exact ⟨t, (h1 t).mp ht, rfl⟩
      · rintro ⟨t, ht, rfl⟩
        exact ⟨t, (h1 t).mpr ht, rfl⟩
    rw [List.map_append, List.mem_append, m]
    show (_ ∨ x ∈ [k2 (numW L rows w, L.getD j 0, 0)]) ↔ x ∈ k2 (numW L rows w, L.getD j 0, if Srt.once = .rank then numW L rows [] else 0) :: _
    rw [List.mem_singleton, if_neg (by decide), List.mem_cons]
    exact Or.comm
end K71
end
section
set_option Elab.async false
set_option linter.all false
set_option maxRecDepth 100000
set_option maxHeartbeats 2000000
/-! longer_kind (of layer_above), by its body -/
namespace K71
open PySem PySem.Spec SG NdefX
open L2 hiding It
open PyProof.Rows hiding St
open Lv (Wd Srt IT)
abbrev s_longer : Stmt := (defBody s_layer_above).getD 0 (.Pass ⟨0, 0, 0, 0⟩)
abbrev N_longer : List Str := ["kind", "at", "below", "letters", "sort", "number", "items", "longer"]
theorem sc_longer : NScope N_longer ["kind", "at"] ["below", "letters", "sort"] (C8.fnScope s_longer) := nscope_by (by decide +kernel)
theorem eqS (a b : Str) : decide (V.str a = V.str b) = decide (a = b) := by
  by_cases h : a = b
  · rw [h, decide_eq_true rfl, decide_eq_true rfl]
  · rw [decide_eq_false h, decide_eq_false fun z => h (V.str.inj z)]
section
variable {P : Program} {w : World} {K : PySem.W.Frag} {mg : Str → Option Value} {base : Heap}
def spLonger (K : PySem.W.Frag) (ws : List (Option V)) : Sp := fun vs H Q _ => ∃ (s : Srt) (L : List Nat) (rows : List (List Nat)) (x : Wd) (j : Nat) (vb vk : V), ws = [some vb, some (.str (tx L)), some (.str (nmS s))] ∧ vs = [vk, .int j] ∧ Alph L ∧ Dp K H vb (.list (rows.map rowD)) ∧ RowsOk rows L.length ∧
  0 < rows.length ∧ KeyAt K H vk (kdL s L rows x) ∧ x.length ≤ 200 ∧ (∀ c ∈ x, c ∈ L) ∧ j < L.length ∧ ∀ u H', Same H H' → KeyAt K H' u (kdL s L rows (x ++ [L.getD j 0])) → Q u H'
theorem ok_longer {f c fr fs fo : Addr} {qual : Str} {cl : List (Str × Addr)} {fdr fds fdo : FuncData} {k : Nat}
    (G_rank : ∀ B, FnOk P w K mg B CX0 k fr fdr ["items", "number", "letters", "at", "below"] (spRank K)) (c_rank : Df K mg "rank_items" fr fdr ["items", "number", "letters", "at", "below"])
    (G_since : ∀ B, FnOk P w K mg B CX0 k fs fds ["items", "number", "letters", "at"] (spSince K)) (c_since : Df K mg "since_items" fs fds ["items", "number", "letters", "at"])
    (G_once : ∀ B, FnOk P w K mg B CX0 k fo fdo ["items", "number", "letters", "at"] (spOnce K)) (c_once : Df K mg "once_items" fo fdo ["items", "number", "letters", "at"]) :
    NOk P w K mg base CX0 (k + 1) f (NF.of s_longer "longer_kind" qual cl c) ["kind", "at"] ["below", "letters", "sort"] (spLonger K) := by
  refine nok_of (N := N_longer) sc_longer (fun _ _ _ us hl => match us, hl with | [_, _], _ => rfl) (fun ws vs H Q E h => ?_) (fun A outer s H vs ws Q E hr hf hc hl h => ?_)
  · obtain ⟨s, L, rows, x, j, vb, vk, _, rfl, _⟩ := h
    rfl
  · obtain ⟨srt, L, rows, x, j, vb, vk, rfl, rfl, hA, hB, ok, h0, hk, hx, hxL, hj, q⟩ := h
    refine ⟨_, pss_cons (ps_asg (pv 0) (pg_tup (by rfl) (pgs_cons (pg_name (i := 5) sc_longer.nd rfl (Or.inl rfl)) (pgs_cons (pg_name (i := 6) sc_longer.nd rfl (Or.inl rfl)) pgs_nil))))
      (pss_cons (ps_if (pt_cmpR op_eq (pv 4) pe_str (nomark _))
          (pss_one (ps_set (i := 7) sc_longer.nd rfl (Or.inl rfl) (pe_call (G_rank _) hr (by rfl) c_rank.m c_rank.k c_rank.b .nil pass0 (pa_cons (pv 6) (pa_cons (pv 5) (pa_cons (pv 3) (pa_cons (pv 1) (pa_cons (pv 2) pa_nil))))))))
          (pss_one (ps_if (pt_cmpR op_eq (pv 4) pe_str (nomark _))
            (pss_one (ps_set (i := 7) sc_longer.nd rfl (Or.inl rfl) (pe_call (G_since _) hr (by rfl) c_since.m c_since.k c_since.b .nil pass0 (pa_cons (pv 6) (pa_cons (pv 5) (pa_cons (pv 3) (pa_cons (pv 1) pa_nil)))))))
            (pss_one (ps_set (i := 7) sc_longer.nd rfl (Or.inl rfl) (pe_call (G_once _) hr (by rfl) c_once.m c_once.k c_once.b .nil pass0 (pa_cons (pv 6) (pa_cons (pv 5) (pa_cons (pv 3) (pa_cons (pv 1) pa_nil)))))))))) 
      (pss_one (ps_ret (pe_tup (pa_cons (pe_ix ix_tup (pe_ix ix_list (pv 2) (pv 5) (fun _ _ => rfl)) (pv 1) (fun _ _ => rfl)) (pa_cons (pv 7) pa_nil)))))), ?_⟩
    obtain ⟨ak, ks, rfl, g1, g2⟩ := Dp.tupOf (show Dp K H vk (.tuple [.int (numW L rows x : Nat), .tuple (NestedKey.datas (itemsK srt (numW L rows) x))]) from hk)
    obtain ⟨ab, bs, rfl, b1, b2⟩ := Dp.lstOf hB
    cases g2 with
    | @cons v1 vs1 _ _ d1 g2 => cases g2 with
      | @cons v2 vs2 _ _ d2 g2 =>
        cases g2
        cases d1
        obtain ⟨its, i1, i2, i3, i4⟩ := itemsK_its srt (numW L rows) x
        have hn := walkN_lt ok x 0 h0 hxL
        refine ⟨_, rfl, ak, _, rfl, g1, rfl, _, _, rfl, _, _, rfl, rfl, ?_⟩
        -- the end: the pair
        have fin : ∀ (v : V) (H' : Hp), Same H H' → Dp K H' v (.tuple (NestedKey.datas (nextK srt rows L (numW L rows x) j its))) → 
            (tRet (tTup (tCons (tOp (rIxT K) (tOp (rIxL K) (tVar 2) (tVar 5)) (tVar 1)) (tCons (tVar 7) tNil)))) { nx := fun _ H' => Q .non H', rt := Q } [some (.ref ak), some (.int j), some (.ref ab), some (.str (tx L)), some (.str (nmS srt)), some (.int (numW L rows x : Nat)), some v2, some v] H' := fun v H' sm hv => by
          obtain ⟨p2, zs, e1, e2, e3⟩ := rows_get (b2.same sm) ok hn hj
          refine ⟨_, rfl, _, rfl, ab, bs, _, _, rfl, rfl, sm.seq b1, atI_nat e1, _, rfl, p2, zs, _, _, rfl, rfl, e2, atI_nat e3, _, rfl, sizeLine_le (by show 2 ≤ _; decide), fun t nt => ?_⟩
          have st := same_new (o := .tup [.int (stepN rows (numW L rows x) j : Nat), v]) nt
          refine q _ _ (sm.trans st) ?_
          have ej := idx_at hA.nodup hj
          have en : numW L rows (x ++ [L.getD j 0]) = stepN rows (numW L rows x) j := by
            show walkN L rows 0 (x ++ [L.getD j 0]) = _
            rw [walkN_snoc, ej]
          have ei := next_ok hA srt rows x hj i3 i4
          show Dp K _ _ (.tuple [.int (numW L rows (x ++ [L.getD j 0]) : Nat), .tuple (NestedKey.datas (itemsK srt (numW L rows) (x ++ [L.getD j 0])))])
          rw [en, ← ei]
          exact .tup (.of upd_same) (.cons (.int _) (.cons (Dp.same st _ _ hv) .nil))
        have hd2 : Dp K H v2 (.tuple (NestedKey.datas (its.map (pk srt)))) := by rw [i1]; exact d2
        have few : its.length + 2 < most := by unfold most; omega
        have hL3 := hA.len.2
        have itL : ∀ t ∈ its, t.2.1 ∈ x := fun t ht => by
          obtain ⟨y, hy, rfl⟩ := List.mem_map.mp ((i3 t).mp ht)
          obtain ⟨i, hi, rfl⟩ := List.mem_map.mp hy
          have : i < x.length := by simpa using hi
          show x.getD i 0 ∈ x
          rw [List.getD_eq_getElem?_getD, List.getElem?_eq_getElem this]
          exact List.getElem_mem this
        refine ⟨_, rfl, rfl, _, rfl, ?_⟩
        rw [eqS]
        cases srt with
        | rank =>
          rw [decide_eq_true (show nmS .rank = "rank" from rfl)]
          refine iteT ?_
          have e3 : its.map (pk .rank) = its.map k3 := List.map_congr_left fun t _ => if_pos rfl
          rw [e3] at hd2
          refine ⟨_, rfl, _, rfl, _, rfl, _, rfl, _, rfl, L, rows, its, numW L rows x, j, v2, .ref ab, rfl, hd2, hB, ok, hj, hL3, fun t ht => ?_, few, fun v H' sm hv => fin v H' sm hv⟩
          obtain ⟨y, hy, rfl⟩ := List.mem_map.mp ((i3 t).mp ht)
          obtain ⟨i, hi, rfl⟩ := List.mem_map.mp hy
          exact walkN_lt ok (x.drop (i + 1)) 0 h0 fun c hc => hxL c (List.mem_of_mem_drop hc)
        | since =>
          rw [decide_eq_false (show ¬ nmS .since = "rank" by decide)]
          refine iteF ?_
          refine ⟨_, rfl, rfl, _, rfl, ?_⟩
          rw [eqS, decide_eq_true (show nmS .since = "since" from rfl)]
          refine iteT ?_
          have e3 : its.map (pk .since) = its.map k2 := List.map_congr_left fun t _ => if_neg (by decide)
          rw [e3] at hd2
          refine ⟨_, rfl, _, rfl, _, rfl, _, rfl, L, its, numW L rows x, j, v2, rfl, hd2, hj, hL3, fun t ht => ⟨items_zero (by decide) _ _ t ((i3 t).mp ht), hA.low _ (hxL _ (itL t ht))⟩, hA.low _ ?_, few, fun v H' sm hv => fin v H' sm hv⟩
          rw [List.getD_eq_getElem?_getD, List.getElem?_eq_getElem hj]
          exact List.getElem_mem hj
        | once =>
          rw [decide_eq_false (show ¬ nmS .once = "rank" by decide)]
          refine iteF ?_
          refine ⟨_, rfl, rfl, _, rfl, ?_⟩
          rw [eqS, decide_eq_false (show ¬ nmS .once = "since" by decide)]
          refine iteF ?_
          have e3 : its.map (pk .once) = its.map k2 := List.map_congr_left fun t _ => if_neg (by decide)
          rw [e3] at hd2
          exact ⟨_, rfl, _, rfl, _, rfl, _, rfl, L, its, numW L rows x, j, v2, rfl, hd2, hj, hL3, few, fun v H' sm hv => fin v H' sm hv⟩
end
end K71
end
section
set_option Elab.async false
set_option linter.all false
set_option maxRecDepth 100000
set_option maxHeartbeats 2000000
/-! longer_kind (of flat_layer), by its body -/
namespace K71
open PySem PySem.Spec SG NdefX
open L2 hiding It
open PyProof.Rows hiding St
open Lv (Wd Srt IT)
theorem lastN_snoc (w : Wd) (c l : Nat) : lastN (lastN w l ++ [c]) l = lastN (w ++ [c]) l := by
  unfold lastN
  rw [List.length_append, List.length_append, List.length_drop, List.length_singleton]
  cases l with
  | zero =>
    rw [List.drop_of_length_le (by rw [List.length_append, List.length_drop, List.length_singleton]; omega), List.drop_of_length_le (by rw [List.length_append, List.length_singleton]; omega)]
  | succ l =>
    rw [List.drop_append_of_le_length (by rw [List.length_drop]; omega), List.drop_append_of_le_length (by omega), List.drop_drop]
    congr 2
    omega
def kdY (l : Nat) (w : Wd) : NestedKey := tk (lastN w l)
/-- the pieces of a word, of at most l letters -/
def piecesOf (l : Nat) (w : Wd) : List Wd := w.foldl (fun ps c => piecesNext ps c l) [[]]
theorem pieces_snoc (l : Nat) (w : Wd) (c : Nat) : piecesOf l (w ++ [c]) = piecesNext (piecesOf l w) c l := by
  unfold piecesOf
  rw [List.foldl_append] <;> rfl
def kdP (l : Nat) (w : Wd) : NestedKey := .tup (Cn.canon ((piecesOf l w).map tk))
theorem next_mem {ps qs : List Wd} {c l : Nat} (h : ∀ p, p ∈ ps ↔ p ∈ qs) (p : Wd) : p ∈ piecesNext ps c l ↔ p ∈ piecesNext qs c l := by
  unfold piecesNext
  simp only [List.mem_append, List.mem_map, List.mem_filter, h]
/-- all words of at most n letters -/
def allW (L : List Nat) : Nat → List Wd
  | 0 => [[]]
  | n + 1 => [] :: (allW L n).flatMap fun p => L.map fun c => c :: p
theorem allW_mem (L : List Nat) : ∀ (n : Nat) (p : Wd), p.length ≤ n → (∀ c ∈ p, c ∈ L) → p ∈ allW L n
  | 0, [], _, _ => List.mem_singleton.mpr rfl
  | 0, _ :: _, h, _ => absurd h (by simp)
  | n + 1, [], _, _ => List.mem_cons_self
  | n + 1, c :: p, h, hp => List.mem_cons_of_mem _ (List.mem_flatMap.mpr ⟨p, allW_mem L n p (by simpa using h) fun d hd => hp d (List.mem_cons_of_mem _ hd), List.mem_map.mpr ⟨c, hp c List.mem_cons_self, rfl⟩⟩)
theorem allW_len {L : List Nat} (h : L.length ≤ 3) : ∀ n, (allW L n).length ≤ (3 ^ (n + 1) - 1) / 2
  | 0 => by show 1 ≤ (3 ^ (0 + 1) - 1) / 2; decide
  | n + 1 => by
    have ih := allW_len h n
    have e : ((allW L n).flatMap fun p => L.map fun c => c :: p).length = L.length * (allW L n).length := by
      generalize allW L n = l
      induction l with
      | nil => simp
      | cons p l ih2 => rw [List.flatMap_cons, List.length_append, ih2, List.length_map, List.length_cons, Nat.mul_succ, Nat.add_comm]
    rw [allW, List.length_cons, e]
    have h1 : L.length * (allW L n).length ≤ 3 * ((3 ^ (n + 1) - 1) / 2) := Nat.mul_le_mul h ih
    have h2 : 3 ^ (n + 1 + 1) = 3 * 3 ^ (n + 1) := by rw [Nat.pow_succ, Nat.mul_comm]
    have h3 : 0 < 3 ^ (n + 1) := Nat.pow_pos (by decide)
    have odd : 3 ^ (n + 1) % 2 = 1 := by rw [Nat.pow_mod]; simp
    omega
theorem pieces_fit {L : List Nat} {l : Nat} : ∀ (w : Wd), (∀ c ∈ w, c ∈ L) → ∀ p ∈ piecesOf l w, p.length ≤ l ∧ ∀ c ∈ p, c ∈ L := by
  intro w
  have go : ∀ (n : Nat) (w : Wd), w.length = n → (∀ c ∈ w, c ∈ L) → ∀ p ∈ piecesOf l w, p.length ≤ l ∧ ∀ c ∈ p, c ∈ L := by
    intro n
    induction n with
    | zero =>
      intro w h _ p hp
      have : w = [] := List.eq_nil_of_length_eq_zero h
      subst this
      have : p = [] := List.mem_singleton.mp hp
      subst this
      exact ⟨Nat.zero_le _, fun c hc => nomatch hc⟩
    | succ n ih =>
      intro w h hw p hp
      have hne : w ≠ [] := fun e => by rw [e] at h; cases h
      obtain ⟨u, c, rfl⟩ : ∃ u c, w = u ++ [c] := ⟨w.dropLast, w.getLast hne, (List.dropLast_concat_getLast hne).symm⟩
      have q := ih u (by simpa using h) fun d hd => hw d (List.mem_append_left _ hd)
      rw [pieces_snoc] at hp
      unfold piecesNext at hp
      rcases List.mem_append.mp hp with z | z
      · obtain ⟨p', hp', rfl⟩ := List.mem_map.mp z
        obtain ⟨z1, z2⟩ := List.mem_filter.mp hp'
        obtain ⟨_, q2⟩ := q p' z1
        refine ⟨?_, fun d hd => ?_⟩
        · have := of_decide_eq_true z2
          rw [List.length_append, List.length_singleton]
          omega
        · rcases List.mem_append.mp hd with y | y
          · exact q2 d y
          · rw [List.mem_singleton.mp y]; exact hw c (by simp)
      · exact q p z
  exact go _ w rfl
/-- the pieces as a kind has them -/
theorem kdP_its {L : List Nat} (hL : L.length ≤ 3) {l : Nat} (hl : l ≤ 7) (w : Wd) (hw : ∀ c ∈ w, c ∈ L) : ∃ ps : List Wd, ps.map tk = Cn.canon ((piecesOf l w).map tk) ∧ (∀ p, p ∈ ps ↔ p ∈ piecesOf l w) ∧ ps.length ≤ 4000 := by
  have hd : Cn.dd ((piecesOf l w).map tk) = (Cn.dd (piecesOf l w)).map tk := Cn.dd_inj _ _ fun x _ y _ q => tk_inj q
  obtain ⟨ps, p, q⟩ := SG.perm_lift tk (List.mergeSort_perm ((Cn.dd (piecesOf l w)).map tk) Cn.le) (Cn.dd (piecesOf l w)) rfl
  refine ⟨ps, ?_, fun x => p.mem_iff.trans Cn.mem_dd, ?_⟩
  · unfold Cn.canon
    rw [hd, q]
  · rw [p.length_eq]
    have h1 := nodup_le (Cn.dd (piecesOf l w)) (allW L 7) (Cn.nodup_dd _) fun x hx => by
      obtain ⟨z1, z2⟩ := pieces_fit w hw x (Cn.mem_dd.mp hx)
      exact allW_mem L 7 x (by omega) z2
    exact Nat.le_trans h1 (Nat.le_trans (allW_len hL 7) (by decide))
abbrev s_longerF : Stmt := (defBody s_flat_layer).getD 0 (.Pass ⟨0, 0, 0, 0⟩)
abbrev N_longerF : List Str := ["kind", "at", "letters", "level", "sort"]
theorem sc_longerF : NScope N_longerF ["kind", "at"] ["letters", "level", "sort"] (C8.fnScope s_longerF) := nscope_by (by decide +kernel)
/-- which of the two flat sorts: yesterday (true), pieces -/
def nmF (y : Bool) : Str := if y then "yesterday" else "pieces"
def kdF (y : Bool) (l : Nat) (w : Wd) : NestedKey := if y then kdY l w else kdP l w
section
variable {P : Program} {w : World} {K : PySem.W.Frag} {mg : Str → Option Value} {base : Heap}
def spLongerF (K : PySem.W.Frag) (ws : List (Option V)) : Sp := fun vs H Q _ => ∃ (y : Bool) (L : List Nat) (l : Nat) (x : Wd) (j : Nat) (vk : V), ws = [some (.str (tx L)), some (.int (l : Nat)), some (.str (nmF y))] ∧ vs = [vk, .int j] ∧ Alph L ∧ l ≤ 7 ∧ KeyAt K H vk (kdF y l x) ∧ x.length ≤ 200 ∧ (∀ c ∈ x, c ∈ L) ∧ j < L.length ∧
  ∀ u H', Same H H' → KeyAt K H' u (kdF y l (x ++ [L.getD j 0])) → Q u H'
theorem ok_longerF {f c fl fp : Addr} {qual : Str} {cl : List (Str × Addr)} {fdl fdp : FuncData} {k : Nat}
    (G_last : ∀ B, FnOk P w K mg B CX0 k fl fdl ["known", "letter", "level"] spLast) (c_last : Df K mg "last_letters" fl fdl ["known", "letter", "level"])
    (G_pieces : ∀ B, FnOk P w K mg B CX0 k fp fdp ["known", "letter", "level"] (spPieces K)) (c_pieces : Df K mg "longer_pieces" fp fdp ["known", "letter", "level"]) :
    NOk P w K mg base CX0 (k + 1) f (NF.of s_longerF "longer_kind" qual cl c) ["kind", "at"] ["letters", "level", "sort"] (spLongerF K) := by
  refine nok_of (N := N_longerF) sc_longerF (fun _ _ _ us hl => match us, hl with | [_, _], _ => rfl) (fun ws vs H Q E h => ?_) (fun A outer s H vs ws Q E hr hf hc hlen h => ?_)
  · obtain ⟨y, L, l, x, j, vk, _, rfl, _⟩ := h
    rfl
  · obtain ⟨y, L, l, x, j, vk, rfl, rfl, hA, hl, hk, hx, hxL, hj, q⟩ := h
    refine ⟨_, pss_cons (ps_if (pt_cmpR op_eq (pv 4) pe_str (nomark _))
          (pss_one (ps_ret (pe_call (G_last _) hr (by rfl) c_last.m c_last.k c_last.b .nil pass0 (pa_cons (pv 0) (pa_cons (pe_ix ix_str (pv 2) (pv 1) (fun _ _ => rfl)) (pa_cons (pv 3) pa_nil)))))) pss_nil)
      (pss_one (ps_ret (pe_call (G_pieces _) hr (by rfl) c_pieces.m c_pieces.k c_pieces.b .nil pass0 (pa_cons (pv 0) (pa_cons (pe_ix ix_str (pv 2) (pv 1) (fun _ _ => rfl)) (pa_cons (pv 3) pa_nil)))))), ?_⟩
    have hc : L[j]? = some (L.getD j 0) := by rw [List.getD_eq_getElem?_getD, List.getElem?_eq_getElem hj] <;> rfl
    have hL3 := hA.len.2
    refine ⟨_, rfl, rfl, _, rfl, ?_⟩
    rw [eqS]
    cases y with
    | true =>
      rw [decide_eq_true (show nmF true = "yesterday" from rfl)]
      refine iteT ?_
      cases (show vk = .str (tx (lastN x l)) from Dp.strOf hk)
      refine ⟨_, rfl, _, rfl, _, rfl, tx L, j, L.getD j 0, rfl, rfl, by rw [tx_len]; exact sizeLine_le (by omega), by rw [tx_list]; exact atI_nat hc, _, rfl, lastN x l, L.getD j 0, l, rfl, ?_, ?_⟩
      · unfold lastN
        rw [List.length_drop]
        omega
      · refine q _ _ (Same.refl _) ?_
        rw [lastN_snoc]
        exact .str _
    | false =>
      rw [decide_eq_false (show ¬ nmF false = "yesterday" by decide)]
      refine iteF ?_
      obtain ⟨ps, p1, p2, p3⟩ := kdP_its hL3 hl x hxL
      have hk' : Dp K H vk (.tuple (NestedKey.datas (ps.map tk))) := by rw [p1]; exact hk
      refine ⟨_, rfl, _, rfl, _, rfl, tx L, j, L.getD j 0, rfl, rfl, by rw [tx_len]; exact sizeLine_le (by omega), by rw [tx_list]; exact atI_nat hc, _, rfl, ps, allW L 7, L.getD j 0, l, vk, rfl, hk', fun p hp => ?_, ?_, by omega, fun p hp => ?_, fun v H' sm hv => q v H' sm ?_⟩
      · have hp2 := (next_mem p2 p).mp hp
        rw [← pieces_snoc] at hp2
        obtain ⟨z1, z2⟩ := pieces_fit (L := L) (x ++ [L.getD j 0]) (fun d hd => by
          rcases List.mem_append.mp hd with z | z
          · exact hxL d z
          · rw [List.mem_singleton.mp z]; exact List.mem_of_getElem? hc) p hp2
        exact allW_mem L 7 p (by omega) z2
      · exact Nat.lt_of_le_of_lt (allW_len hL3 7) (by unfold scanBound; decide)
      · have := (pieces_fit x hxL p ((p2 p).mp hp)).1
        omega
      · have e : Cn.canon ((piecesNext ps (L.getD j 0) l).map tk) = Cn.canon ((piecesOf l (x ++ [L.getD j 0])).map tk) := by
          refine (Cn.canon_eq (alikeTk _)).mpr fun k => ?_
          rw [pieces_snoc, List.mem_map, List.mem_map]
          exact ⟨fun ⟨p, hp, e⟩ => ⟨p, (next_mem p2 p).mp hp, e⟩, fun ⟨p, hp, e⟩ => ⟨p, (next_mem p2 p).mpr hp, e⟩⟩
        rw [e] at hv
        exact hv
end
end K71
end
section
set_option Elab.async false
set_option linter.all false
set_option maxRecDepth 100000
set_option maxHeartbeats 2000000
/-! layer_above, flat_layer -/
namespace K71
open PySem PySem.Spec SG NdefX LamX
open L2 hiding It
open PyProof.Rows hiding St
open Lv (Wd Srt IT)
/-- a def whose code object stands at c -/
structure FunC (K : PySem.W.Frag) (x qual : Str) (st : Stmt) (f : Addr) (fd : FuncData) (c : Addr) : Prop where
  ex : ∃ (oc : Value) (od : Option Addr) (kV doc pm : Value) (an : Option Addr) (ct : Value) (osl : Array (Option Value)),
    fd = PySem.W.fnOf x qual (defArgs st) (defBody st) (defScope st) .none kV doc pm an (.ref c) ct ∧ K.lookup f = some ⟨oc, od, .func fd, osl⟩ ∧ PySem.W.codeIn K (.ref c) qual = true
section
variable {P : Program} {w : World} {K : PySem.W.Frag} {mg : Str → Option Value} {base : Heap}
theorem FunC.okN {x qual : Str} {st : Stmt} {f c : Addr} {fd : FuncData} {N ps : List Str} {k : Nat} {sp : Sp} (F : FunC K x qual st f fd c) (S : FnScope N ps (defScope st)) (len : ∀ vs H Q E, sp vs H Q E → vs.length = ps.length)
    (hbody : ∀ (A : Around) (outer : List Env) (s : Shared) (H : Hp) (vs : List V) (Q : VK) (E : XK), Room k (A.deeper (envOfC qual (defScope st) s.heap.objs.size f (.ref c))) → sp vs H Q E →
      ∃ t, PSs (cxOf (L2N.CX P w) P w K mg base N qual (defScope st) f (.ref c) A outer s H E) (defBody st) t ∧ t { nx := fun _ H' => Q .non H', rt := Q } (start N vs) H) : FnOk P w K mg base (L2N.CX P w) (k + 1) f fd ps sp := by
  obtain ⟨oc, od, kV, doc, pm, an, ct, osl, rfl, lk, hcd⟩ := F.ex
  exact fn_of lk hcd S len fun A outer s H vs Q E hr hsp => hbody A outer s H vs Q E hr hsp
end
/-- what was tracked stands, but for the tables of code objects -/
structure Ext (TT : List NTab) (H H' : Hp) : Prop where
  ext : ExtN H H'
  none_ : ∀ b, H' b = none → H b = none
  tabs : TabsN TT H'
theorem Ext.same {TT : List NTab} {H H1 H2 : Hp} (e : Ext TT H H1) (s : Same H1 H2) : Ext TT H H2 := ⟨e.ext.trans (.of s), fun b h => e.none_ b (s.free h), e.tabs.ext s⟩
theorem Ext.refl {TT : List NTab} {H : Hp} (t : TabsN TT H) : Ext TT H H := ⟨ExtN.refl H, fun _ h => h, t⟩
theorem Ext.trans {TT : List NTab} {H H1 H2 : Hp} (a : Ext TT H H1) (b : Ext TT H1 H2) : Ext TT H H2 := ⟨a.ext.trans b.ext, fun c h => a.none_ c (b.none_ c h), b.tabs⟩
theorem extN_frz {o : Obj} {u : HO} : ∀ ps, HO.frz o u ≠ .tbl ps := fun ps z => by cases z
section
variable {K : PySem.W.Frag} {H H' : Hp}
theorem ExtN.seq (e : ExtN H H') {a : Addr} {xs : List V} (h : SqL K H a xs) : SqL K H' a xs := by
  rcases h with (h | ⟨o, h⟩) | h
  · exact .inl (.inl (e _ _ h fun ps z => by cases z))
  · exact .inl (.inr ⟨o, e _ _ h fun ps z => by cases z⟩)
  · exact .inr h
theorem ExtN.seqT (e : ExtN H H') {a : Addr} {xs : List V} (h : SqT K H a xs) : SqT K H' a xs := by
  rcases h with (h | ⟨o, h⟩) | h
  · exact .inl (.inl (e _ _ h fun ps z => by cases z))
  · exact .inl (.inr ⟨o, e _ _ h fun ps z => by cases z⟩)
  · exact .inr h
mutual
theorem Dp.extN (e : ExtN H H') : ∀ (d : PyData) (v : V), Dp K H v d → Dp K H' v d
  | .none, _, h => by cases h; exact .non
  | .bool _, _, h => by cases h; exact .bl _
  | .int _, _, h => by cases h; exact .int _
  | .str _, _, h => by cases h; exact .str _
  | .list ds, _, h => by
    cases h with
    | lst hs ha => exact .lst (ExtN.seq e hs) (DpAll.extN e ds _ ha)
  | .tuple ds, _, h => by
    cases h with
    | tup hs ha => exact .tup (ExtN.seqT e hs) (DpAll.extN e ds _ ha)
  | .dict _, _, h => by cases h
theorem DpAll.extN (e : ExtN H H') : ∀ (ds : List PyData) (vs : List V), DpAll K H vs ds → DpAll K H' vs ds
  | [], _, h => by cases h; exact .nil
  | d :: ds, _, h => by
    cases h with
    | cons h1 h2 => exact .cons (Dp.extN e d _ h1) (DpAll.extN e ds _ h2)
end
end
def TooManyN (TT : List NTab) (C : Addr) (H : Hp) (E : XK) : Prop := ∀ d H', Ext TT H H' → H d = none → H' d = some (.xd [("many", .int 201)]) → E (.ref C) (some d) H'
def nmL : Nat → Nat → Str := fun _ _ => "layer_above.<locals>.longer_kind"
def nmFl : Nat → Nat → Str := fun _ _ => "flat_layer.<locals>.longer_kind"
section
variable {P : Program} {w : World} {K : PySem.W.Frag} {mg : Str → Option Value} {base : Heap}
def spLayer (K : PySem.W.Frag) (TT : List NTab) (C : Addr) : Sp := fun vs H Q E => ∃ (s : Srt) (L : List Nat) (rows : List (List Nat)) (vb : V), vs = [.str (tx L), .str (nmS s), vb] ∧ TabsN TT H ∧ Alph L ∧ Dp K H vb (.list (rows.map rowD)) ∧ RowsOk rows L.length ∧ 0 < rows.length ∧
  ((Bf.st (RK (kdL s L rows)) L 200).1.length ≤ 200 → ∀ v ds H', Ext TT H H' → PairD K H H' v (.list ds) (.list ((Bf.st (RK (kdL s L rows)) L 200).2.map rowD)) → Q v H') ∧
  (200 < (Bf.st (RK (kdL s L rows)) L 200).1.length → TooManyN TT C H E)
theorem fit_kdL (s : Srt) (L : List Nat) (rows : List (List Nat)) (x : Wd) : FitK false (kdL s L rows x) := by
  refine ⟨⟨_, rfl⟩, ?_⟩
  have h : ∀ l : List NestedKey, (∀ k ∈ l, k.depth ≤ 1) → NestedKey.depthAll l ≤ 1 := by
    intro l
    induction l with
    | nil => intro _; exact Nat.zero_le _
    | cons k l ih =>
      intro hk
      rw [NestedKey.depthAll]
      exact Nat.max_le.mpr ⟨hk k List.mem_cons_self, ih fun q hq => hk q (List.mem_cons_of_mem _ hq)⟩
  have hi : NestedKey.depthAll (itemsK s (numW L rows) x) ≤ 1 := h _ fun k hk => by
    obtain ⟨its, e, _⟩ := itemsK_its s (numW L rows) x
    rw [← e] at hk
    obtain ⟨t, _, rfl⟩ := List.mem_map.mp hk
    unfold pk
    split
    · rw [depth3]; decide
    · rw [depth2]; decide
  show NestedKey.depth (.tup [.num _, .tup (itemsK s (numW L rows) x)]) ≤ 8
  simp only [NestedKey.depth, NestedKey.depthAll]
  omega
theorem ok_layer {f c Pt fm fr fs fo C : Addr} {fd fdm fdr fds fdo : FuncData} {TT : List NTab} {tm : Tok} {k : Nat} (F : FunC K "layer_above" "layer_above" s_layer_above f fd c) (T : Blt mg) (hmost : mg "MOST" = some (.int 200 tm)) (TB : TabB base mg c Pt) (hmT : (Pt, nmL) ∈ TT) (huT : ∀ p ∈ TT, p.1 = Pt → p.2 = nmL)
    (G_met : ∀ B, FnOk P w K mg B (L2N.CX P w) (k + 2) fm fdm ["start", "step", "width", "most"] (spMet P w K mg C (k + 1) B)) (c_met : Df K mg "met" fm fdm ["start", "step", "width", "most"])
    (G_rank : ∀ B, FnOk P w K mg B CX0 k fr fdr ["items", "number", "letters", "at", "below"] (spRank K)) (c_rank : Df K mg "rank_items" fr fdr ["items", "number", "letters", "at", "below"])
    (G_since : ∀ B, FnOk P w K mg B CX0 k fs fds ["items", "number", "letters", "at"] (spSince K)) (c_since : Df K mg "since_items" fs fds ["items", "number", "letters", "at"])
    (G_once : ∀ B, FnOk P w K mg B CX0 k fo fdo ["items", "number", "letters", "at"] (spOnce K)) (c_once : Df K mg "once_items" fo fdo ["items", "number", "letters", "at"]) :
    FnOk P w K mg base (L2N.CX P w) (k + 3) f fd ["letters", "sort", "below"] (spLayer K TT C) := by
  refine F.okN sc_layer_above (fun vs H Q E h => ?_) (fun A outer s H vs Q E hr h => ?_)
  · obtain ⟨s, L, rows, vb, rfl, _⟩ := h
    rfl
  · obtain ⟨srt, L, rows, vb, rfl, hT, hA, hB, ok, h0, hq, hx⟩ := h
    have NB : ndefB (defScope s_layer_above) (C8.fnScope s_longer) ["below", "letters", "sort"] = true := by decide +kernel
    refine ⟨_, (pss_cons (ps_ndefMS (st := s_longer) (T := TT) (nm := nmL) (i := 3) rfl TB rfl hmT rfl huT (ndef_free NB) rfl rfl rfl sc_layer_above.nd rfl (.inl rfl) (.inl rfl))
      (pss_cons (ps_asg (pe_callW (js := [2, 0, 1]) G_met hr (fun _ => rfl) (fun ok => Caps.made (scope := C8.fnScope s_longer) (fr := ["below", "letters", "sort"]) ok (ndef_free NB) (ndef_fr NB) rfl) (by rfl) c_met.m c_met.k c_met.b (L2N.passes_call (L2N.takes_of rfl rfl rfl rfl) fun _ _ _ _ h => h)
          (pa_cons (pe_tup (pa_cons pe_int (pa_cons (pe_tup pa_nil) pa_nil))) (pa_cons (pv 3) (pa_cons (pe_callB call_len_str (by rfl) T.len PySem.boot_len (pa_cons (pv 0) pa_nil)) (pa_cons (pe_glob (v := .int 200) (by rfl) hmost ⟨_, rfl⟩) pa_nil))))) (pg_tup (by rfl) (pgs_cons (pg_name (i := 4) sc_layer_above.nd rfl (Or.inl rfl)) (pgs_cons (pg_name (i := 5) sc_layer_above.nd rfl (Or.inl rfl)) pgs_nil))))
      (pss_one (ps_ret (pe_tup (pa_cons (pe_lc (own := [("kind", 6)]) (g := gName 6) rfl sc_layer_above.nd (pi_list (pv 4)) (blkOk_by (own := [("kind", 6)]) (N := N_layer_above) (sc := defScope s_layer_above) (by decide +kernel)) (fun _ _ _ _ _ => (pg_name (i := 6) sc_layer_above.nd rfl (Or.inl rfl))) (fun _ _ _ _ _ => pts_nil) (fun _ _ _ _ _ => (pe_ix (ix_tupK (K := K) rfl) (pv 6) pe_int (fun _ _ => rfl)))) (pa_cons (pv 5) pa_nil))))))), ?_⟩
    refine ⟨hT, fun f c' H1 e1 n1 T1 nf hf hc' => ?_⟩
    have X1 : Ext TT H H1 := ⟨e1, n1, T1⟩
    refine ⟨sizeLine_le (by show 0 ≤ _; decide), fun t1 nt1 => ⟨sizeLine_le (by show 2 ≤ _; decide), fun t2 nt2 => ?_⟩⟩
    have s1 := same_new (o := .tup []) nt1
    have s2 := same_new (o := .tup [.int 0, .ref t1]) nt2
    have s12 := s1.trans s2
    refine ⟨_, rfl, _, rfl, tx L, rfl, sizeLine_le (by rw [tx_len]; have := hA.len.2; omega), ?_⟩
    rw [tx_len]
    refine fun B CB => ⟨L, kdL srt L rows, false, .ref t2, f, rfl, hA.len.2, ?_, fit_kdL srt L rows, ?_, fun hle v H' sm hv => ?_, fun hgt d H' sm nd hd => ?_⟩
    · have ei : itemsK srt (numW L rows) [] = [] := by
        unfold itemsK
        have : Lv.itemsOf srt (numW L rows) [] = [] := rfl
        rw [this]
        split
        · rfl
        · show ([] : List NestedKey).mergeSort Cn.le = []
          exact List.mergeSort_nil
      show Dp K _ _ (.tuple [.int (numW L rows [] : Nat), .tuple (NestedKey.datas (itemsK srt (numW L rows) []))])
      rw [ei]
      exact .tup (.of upd_same) (.cons (.int _) (.cons (.tup (.of (by rw [upd_ne (fun z => by rw [z, upd_same] at nt2; cases nt2)]; exact upd_same)) .nil) .nil))
    · refine ⟨_, _, _, _, spLonger K, ok_longer G_rank c_rank G_since c_since G_once c_once, s12 _ _ hf, s12 _ _ hc', CB, ?_⟩
      rintro vs H' Q' ⟨x, j, v, rfl, sm, hk, hx1, hx2, hj, q⟩
      exact ⟨srt, L, rows, x, j, vb, v, rfl, rfl, hA, Dp.same sm _ _ (Dp.same s12 _ _ (Dp.extN e1 _ _ hB)), ok, h0, hk, hx1, hx2, hj, q⟩
    · -- kinds, steps
      have X2 := X1.same (s12.trans sm)
      obtain ⟨a, v1, b2, rfl, g1, nb2, d1, d2⟩ := hv
      refine ⟨a, _, rfl, g1, rfl, _, _, rfl, _, _, rfl, rfl, ?_⟩
      obtain ⟨ak, ks, rfl, k1, k2⟩ := Dp.lstOf d1
      refine ⟨_, rfl, ak, rfl, ⟨_, k1⟩, fun D hD => ?_⟩
      have s3 := same_new (o := .lst []) hD
      have kl : ks.length ≤ 200 := by
        rw [k2.len, datas_map, List.length_map, List.length_map]
        exact hle
      refine lc_list (K := K) (a := ak) (xs := ks) (fun i H2 => Same H' H2 ∧ ∃ ys ds, H2 D = some (.lst ys) ∧ ys.length ≤ i ∧ KeysAt K H2 ys ds) ⟨s3, [], [], upd_same, Nat.le_refl _, .nil⟩ (fun i H2 _ hP => hP.1.seq k1) (fun i x H2 hx hP => ?_) (fun H2 hP => ?_)
      · obtain ⟨s4, ys, ds, hys, hl, hk⟩ := hP
        obtain ⟨dd, e1', e2'⟩ := k2.get' hx
        rw [datas_map, List.map_map, List.getElem?_map] at e1'
        obtain ⟨x0, _, rfl⟩ := Option.map_eq_some_iff.mp e1'
        obtain ⟨b, zs, rfl, z1, z2⟩ := Dp.tupOf (show Dp K H' x (.tuple [.int (numW L rows x0 : Nat), .tuple (NestedKey.datas (itemsK srt (numW L rows) x0))]) from e2')
        cases z2 with
        | @cons w1 ws1 _ _ f1 z2 => cases z2 with
          | @cons w2 ws2 _ _ f2 z2 =>
            cases z2
            refine ⟨rfl, _, rfl, b, _, 1, w2, rfl, rfl, TupsStay.sqT (.of s4) z1, atI_nat (j := 1) rfl, ?_⟩
            have hi : i < ks.length := (List.getElem?_eq_some_iff.mp hx).1
            have st : TupsStay H2 (upd H2 D (.lst (ys ++ [w2]))) := .upd (fun xs z => by rw [hys] at z; cases z) fun o u z => by rw [hys] at z; cases z
            refine ⟨ys, hys, Nat.lt_of_le_of_lt (show ys.length ≤ 200 by omega) (by rw [sizeLine_eq]; decide), fun b' o e => ?_, ys ++ [w2], ds ++ [.tup (itemsK srt (numW L rows) x0)], upd_same, by rw [List.length_append]; exact Nat.succ_le_succ hl, ?_⟩
            · rw [upd_ne (fun z => by rw [z, hD] at e; cases e)]
              exact s4 b' o e
            · exact keys_snoc (KeysAt.stay st _ _ hk) (KeyAt.stay st _ _ (Dp.same s4 _ _ f2))
      · obtain ⟨s4, ys, ds, hys, hl, hk⟩ := hP
        refine ⟨_, rfl, sizeLine_le (by show 2 ≤ _; decide), fun e ne => ?_⟩
        have s5 := same_new (o := .tup [.ref D, (.ref b2)]) ne
        refine hq hle _ (NestedKey.datas ds) _ ((X2.same s4).same s5) ⟨e, _, b2, rfl, .of upd_same, X1.none_ _ (s12.free nb2), .lst (SqL.of (s5 _ _ hys)) (DpAll.same s5 _ _ hk), Dp.same (s4.trans s5) _ _ d2⟩
    · refine hx hgt d H' (X1.same (s12.trans sm)) ?_ hd
      exact X1.none_ d (s12.free nd)
/-! ### flat_layer -/
def spFlatL (K : PySem.W.Frag) (TT : List NTab) (C : Addr) : Sp := fun vs H Q E => ∃ (y : Bool) (L : List Nat) (l : Nat), vs = [.str (tx L), .str (nmF y), .int (l : Nat)] ∧ TabsN TT H ∧ Alph L ∧ l ≤ 7 ∧
  ((Bf.st (RK (kdF y l)) L 200).1.length ≤ 200 → ∀ v ds H', Ext TT H H' → PairD K H H' v (.list ds) (.list ((Bf.st (RK (kdF y l)) L 200).2.map rowD)) → Q v H') ∧
  (200 < (Bf.st (RK (kdF y l)) L 200).1.length → TooManyN TT C H E)
theorem fit_kdF (y : Bool) (l : Nat) (x : Wd) : FitK y (kdF y l x) := by
  cases y with
  | true => exact ⟨.inr (tx (lastN x l)), rfl⟩
  | false =>
    refine ⟨⟨_, rfl⟩, ?_⟩
    have h : ∀ l : List NestedKey, (∀ k ∈ l, k.depth ≤ 0) → NestedKey.depthAll l ≤ 0 := by
      intro l
      induction l with
      | nil => intro _; exact Nat.zero_le _
      | cons k l ih =>
        intro hk
        rw [NestedKey.depthAll]
        exact Nat.max_le.mpr ⟨hk k List.mem_cons_self, ih fun q hq => hk q (List.mem_cons_of_mem _ hq)⟩
    have hi := h (Cn.canon ((piecesOf l x).map tk)) fun k hk => by
      obtain ⟨p, _, rfl⟩ := List.mem_map.mp (Cn.canon_mem.mp hk)
      exact Nat.le_refl _
    show NestedKey.depth (.tup (Cn.canon ((piecesOf l x).map tk))) ≤ 8
    simp only [NestedKey.depth]
    omega
theorem ok_flat {f c Pt fm fl fp C : Addr} {fd fdm fdl fdp : FuncData} {TT : List NTab} {tm : Tok} {k : Nat} (F : FunC K "flat_layer" "flat_layer" s_flat_layer f fd c) (T : Blt mg) (hmost : mg "MOST" = some (.int 200 tm)) (TB : TabB base mg c Pt) (hmT : (Pt, nmFl) ∈ TT) (huT : ∀ p ∈ TT, p.1 = Pt → p.2 = nmFl)
    (G_met : ∀ B, FnOk P w K mg B (L2N.CX P w) (k + 2) fm fdm ["start", "step", "width", "most"] (spMet P w K mg C (k + 1) B)) (c_met : Df K mg "met" fm fdm ["start", "step", "width", "most"])
    (G_last : ∀ B, FnOk P w K mg B CX0 k fl fdl ["known", "letter", "level"] spLast) (c_last : Df K mg "last_letters" fl fdl ["known", "letter", "level"])
    (G_pieces : ∀ B, FnOk P w K mg B CX0 k fp fdp ["known", "letter", "level"] (spPieces K)) (c_pieces : Df K mg "longer_pieces" fp fdp ["known", "letter", "level"]) :
    FnOk P w K mg base (L2N.CX P w) (k + 3) f fd ["letters", "sort", "level"] (spFlatL K TT C) := by
  refine F.okN sc_flat_layer (fun vs H Q E h => ?_) (fun A outer s H vs Q E hr h => ?_)
  · obtain ⟨y, L, l, rfl, _⟩ := h
    rfl
  · obtain ⟨y, L, l, rfl, hT, hA, hl, hq, hx⟩ := h
    have NB : ndefB (defScope s_flat_layer) (C8.fnScope s_longerF) ["letters", "level", "sort"] = true := by decide +kernel
    refine ⟨_, (pss_cons (ps_ndefMS (st := s_longerF) (T := TT) (nm := nmFl) (i := 3) rfl TB rfl hmT rfl huT (ndef_free NB) rfl rfl rfl sc_flat_layer.nd rfl (.inl rfl) (.inl rfl))
      (pss_cons (ps_set (i := 4) sc_flat_layer.nd rfl (Or.inl rfl) (pe_ifExp (pt_cmpR op_eq (pv 1) pe_str (nomark _)) pe_str (pe_tup (pa_cons pe_str pa_nil))))
      (pss_one (ps_ret (pe_callW (js := [0, 2, 1]) G_met hr (fun _ => rfl) (fun ok => Caps.made (scope := C8.fnScope s_longerF) (fr := ["letters", "level", "sort"]) ok (ndef_free NB) (ndef_fr NB) rfl) (by rfl) c_met.m c_met.k c_met.b (L2N.passes_call (L2N.takes_of rfl rfl rfl rfl) fun _ _ _ _ h => h)
          (pa_cons (pv 4) (pa_cons (pv 3) (pa_cons (pe_callB call_len_str (by rfl) T.len PySem.boot_len (pa_cons (pv 0) pa_nil)) (pa_cons (pe_glob (v := .int 200) (by rfl) hmost ⟨_, rfl⟩) pa_nil))))))))), ?_⟩
    refine ⟨hT, fun f c' H1 e1 n1 T1 nf hf hc' => ?_⟩
    have X1 : Ext TT H H1 := ⟨e1, n1, T1⟩
    refine ⟨_, rfl, rfl, _, rfl, ?_⟩
    rw [eqS]
    cases y with
    | true =>
      rw [decide_eq_true (show nmF true = "yesterday" from rfl)]
      refine iteT ?_
      refine ⟨_, rfl, _, rfl, _, rfl, tx L, rfl, sizeLine_le (by rw [tx_len]; have := hA.len.2; omega), ?_⟩
      rw [tx_len]
      refine fun B CB => ⟨L, kdF true l, true, _, f, rfl, hA.len.2, ?_, fit_kdF true l, ?_, fun hle v H' sm hv => ?_, fun hgt d H' sm nd hd => ?_⟩
      · have e : lastN [] l = [] := by simp [lastN]
        show Dp K H1 _ (.str (tx (lastN [] l)))
        rw [e]
        exact .str _
      · refine ⟨_, _, _, _, spLongerF K, ok_longerF G_last c_last G_pieces c_pieces, (Same.refl H1) _ _ hf, (Same.refl H1) _ _ hc', CB, ?_⟩
        rintro vs H' Q' ⟨x, j, v, rfl, sm, hk, hx1, hx2, hj, q⟩
        exact ⟨true, L, l, x, j, v, rfl, rfl, hA, hl, hk, hx1, hx2, hj, q⟩
      · obtain ⟨t, x, b, e1, e2, e3, e4, e5⟩ := hv
        exact hq hle v _ H' (X1.same (Same.trans (Same.refl H1) sm)) ⟨t, x, b, e1, e2, X1.none_ _ e3, e4, e5⟩
      · exact hx hgt d H' (X1.same (Same.trans (Same.refl H1) sm)) (X1.none_ d (Same.free (Same.refl H1) nd)) hd
    | false =>
      rw [decide_eq_false (show ¬ nmF false = "yesterday" by decide)]
      refine iteF ?_
      refine ⟨sizeLine_le (by show 1 ≤ _; decide), fun t1 nt1 => ?_⟩
      have s1 := same_new (o := .tup [.str ""]) nt1
      refine ⟨_, rfl, _, rfl, _, rfl, tx L, rfl, sizeLine_le (by rw [tx_len]; have := hA.len.2; omega), ?_⟩
      rw [tx_len]
      refine fun B CB => ⟨L, kdF false l, false, _, f, rfl, hA.len.2, ?_, fit_kdF false l, ?_, fun hle v H' sm hv => ?_, fun hgt d H' sm nd hd => ?_⟩
      · have e : Cn.canon ([[]].map tk) = [tk []] := by decide +kernel
        show Dp K _ _ (.tuple (NestedKey.datas (Cn.canon ([[]].map tk))))
        rw [e]
        exact .tup (.of upd_same) (.cons (.str _) .nil)
      · refine ⟨_, _, _, _, spLongerF K, ok_longerF G_last c_last G_pieces c_pieces, s1 _ _ hf, s1 _ _ hc', CB, ?_⟩
        rintro vs H' Q' ⟨x, j, v, rfl, sm, hk, hx1, hx2, hj, q⟩
        exact ⟨false, L, l, x, j, v, rfl, rfl, hA, hl, hk, hx1, hx2, hj, q⟩
      · obtain ⟨t, x, b, e1, e2, e3, e4, e5⟩ := hv
        exact hq hle v _ H' (X1.same (Same.trans s1 sm)) ⟨t, x, b, e1, e2, X1.none_ _ (s1.free e3), e4, e5⟩
      · exact hx hgt d H' (X1.same (Same.trans s1 sm)) (X1.none_ d (Same.free s1 nd)) hd
end
end K71
end
section
set_option Elab.async false
set_option linter.all false
set_option maxRecDepth 100000
/-! a tuple, once -/
namespace L2
open PySem PySem.Spec PyProof.Rows
theorem tuple_mul1 (l : Addr) (items : Array Value) (n : Nat) (dd : Option Addr) (sl : Array (Option Value)) (u : Tok) :
    Meets (Builtin.«tuple.__mul__» ⟨[.ref l, .int 1 u], []⟩) (fun _ R s => s.heap.get? l = some { cls := .type "tuple", dict := dd, data := .seq items n, slots := sl } ∧ R (.ok (.ret (Value.ref l))) s) :=
  .of_wp fun prog w A R s h => by
    obtain ⟨hp, g, d, tk, os⟩ := s
    obtain ⟨hl, h⟩ := h
    have f1 := AutoSeq1.idx_int
    have c0 : (decide ((1 : Int) < -(2 ^ 63)) || decide ((1 : Int) ≥ 2 ^ 63)) = false := by decide
    have c1 : (items.isEmpty || (1 : Int) == 1) = true := by
      cases items.isEmpty <;> rfl
    wp_walk using wpAny_loadPart' hl
    repeat (first
      | (refine wpAny_ite_false (decide_eq_false (by rw [c0]; exact Bool.false_ne_true)) ?_; wp_walk using wpAny_loadPart' hl)
      | (refine wpAny_ite_true (decide_eq_true c1) ?_; wp_walk using wpAny_loadPart' hl))
    exact ⟨_, rfl, h⟩
section
variable {X : Cx}
/-- t * k, k from 1 on -/
def rRepTn (K : PySem.W.Frag) : R2 := fun x y H Q => (∃ l xs, x = .ref l ∧ y = .int 1 ∧ SqT K H l xs ∧ Q (.ref l) H) ∨ rRepT K x y H Q
theorem op_repTn : OpR X (binaryOp .Mult) (rRepTn X.K) := by
  intro pins s σ H x y v u Q I rx ry h
  rcases h with ⟨l, xs, rfl, rfl, hT, q⟩ | h
  · cases rx
    obtain ⟨t, rfl⟩ := ry
    obtain ⟨its, r, ⟨⟨cls, dd, data, sl⟩, ho, hc, n, hd⟩, hs⟩ := I.tuple hT
    simp only at hc hd
    subst hc hd
    refine wpAny_binaryOp_repeat_ref (T := "tuple") (U := "int") (by decide) ⟨_, ho, rfl⟩ (fun s' => typeIs_int s' 1 t) noFill_tuple_mul F.fills_int_mul F.slot_int_rmul repeat_tuple F.slot_int_index.lookup
      (call_meets F.slot_int_rmul (typeIs_int s 1 t) F.entry_int_rmul (F.args_int_rmul_2 _ _) (int_rmul_tuple 1 t l its.toArray n dd sl)
        ⟨ho, rfl, ⟨_, ho, rfl⟩, call_meets F.slot_tuple_mul ⟨_, ho, rfl⟩ F.entry_tuple_mul (F.args_tuple_mul_2 _ _) (tuple_mul1 l its.toArray n dd sl t) ⟨ho, ?_⟩⟩)
    exact ⟨.ref l, H, I, rfl, q⟩
  · exact op_repT pins s σ H x y v u Q I rx ry h
end
end L2
end
section
set_option Elab.async false
set_option linter.all false
set_option maxRecDepth 100000
set_option maxHeartbeats 2000000
/-! kind_layers -/
namespace K71
open PySem PySem.Spec SG NdefX LamX
open L2 hiding It
open PyProof.Rows hiding St
open Lv (Wd Srt IT)
/-- the five sorts -/
inductive Sort5 where
  | lv (s : Srt)
  | fl (y : Bool)
  deriving DecidableEq
def nm5 : Sort5 → Str
  | .lv s => nmS s
  | .fl y => nmF y
/-- the steps, level by level -/
noncomputable def rowsL (s : Srt) (L : List Nat) : Nat → List (List Nat)
  | 0 => [List.replicate L.length 0]
  | n + 1 => (Bf.st (RK (kdL s L (rowsL s L n))) L 200).2
/-- the search at a level above -/
noncomputable def stL (s : Srt) (L : List Nat) (n : Nat) : List Wd × List (List Nat) := Bf.st (RK (kdL s L (rowsL s L n))) L 200
noncomputable def stF (y : Bool) (L : List Nat) (l : Nat) : List Wd × List (List Nat) := Bf.st (RK (kdF y l)) L 200
/-- the table of a sight: its words and steps -/
noncomputable def tab5 (q : Sort5) (L : List Nat) (l : Nat) : List Wd × List (List Nat) := match q with
  | .fl y => stF y L l
  | .lv s => match l with
    | 0 => ([[]], rowsL s L 0)
    | n + 1 => stL s L n
/-- no table on the way is too large -/
def Fits5 (q : Sort5) (L : List Nat) (l : Nat) : Prop := match q with
  | .fl y => (stF y L l).1.length ≤ 200
  | .lv s => ∀ i, i < l → (stL s L i).1.length ≤ 200
theorem fits_not (q : Sort5) (L : List Nat) (l : Nat) (h : ¬ Fits5 q L l) : (∃ y, q = .fl y ∧ 200 < (stF y L l).1.length) ∨ ∃ s i, q = .lv s ∧ i < l ∧ 200 < (stL s L i).1.length := by
  cases q with
  | fl y => exact .inl ⟨y, rfl, Nat.lt_of_not_le h⟩
  | lv s =>
    refine .inr ?_
    apply Classical.byContradiction
    intro no
    exact h fun i hi => Classical.byContradiction fun c => no ⟨s, i, rfl, hi, Nat.lt_of_not_le c⟩
theorem rowsL_ok {s : Srt} {L : List Nat} {n : Nat} (h : ∀ i, i < n → (stL s L i).1.length ≤ 200) : RowsOk (rowsL s L n) L.length ∧ 0 < (rowsL s L n).length ∧ (rowsL s L n).length ≤ 200 := by
  cases n with
  | zero =>
    refine ⟨fun r hr => ?_, by show 0 < 1; decide, by show 1 ≤ 200; decide⟩
    rw [List.mem_singleton.mp hr]
    refine ⟨List.length_replicate, fun x hx => ?_⟩
    rw [List.eq_of_mem_replicate hx]
    show 0 < 1
    decide
  | succ n =>
    have hn : (Bf.st (RK (kdL s L (rowsL s L n))) L 200).1.length ≤ 200 := h n (Nat.lt_succ_self n)
    have T := Bf.whole_of (rk_eqv (kdL s L (rowsL s L n))) (L := L) hn
    refine ⟨T.ok, ?_, ?_⟩
    · show 0 < (Bf.st (RK (kdL s L (rowsL s L n))) L 200).2.length
      rw [T.len]
      exact (List.getElem?_eq_some_iff.mp T.first).1
    · show (Bf.st (RK (kdL s L (rowsL s L n))) L 200).2.length ≤ 200
      rw [T.len]
      exact hn
theorem Ext.write {TT : List NTab} {H H2 : Hp} {a : Addr} {ys zs : List V} (X : Ext TT H H2) (h0 : H a = none) (h2 : H2 a = some (.lst ys)) : Ext TT H (upd H2 a (.lst zs)) := by
  refine ⟨fun b o e n => ?_, fun b e => ?_, fun p hp => ?_⟩
  · rw [upd_ne (fun z => by rw [z, h0] at e; cases e)]
    exact X.ext b o e n
  · by_cases c : b = a
    · rw [c]; exact h0
    · rw [upd_ne c] at e
      exact X.none_ b e
  · obtain ⟨ps, t1, t2, t3⟩ := X.tabs p hp
    refine ⟨ps, by rw [upd_ne (fun z => by rw [z, h2] at t1; cases t1)]; exact t1, t2, fun pos cv hc => ?_⟩
    obtain ⟨c, e1, e2⟩ := t3 pos cv hc
    refine ⟨c, e1, ?_⟩
    rw [upd_ne (fun z => by
      rw [z, h2] at e2
      unfold CodeO at e2
      cases e2)]
    exact e2
section
variable {P : Program} {w : World} {K : PySem.W.Frag} {mg : Str → Option Value} {base : Heap}
/-- a list of lists, at a -/
def LayersOk (K : PySem.W.Frag) (H : Hp) (v : V) : Prop := ∃ a ys, v = .ref a ∧ H a = some (.lst ys) ∧ ys.length ≤ 10 ∧ ∀ y ∈ ys, ∃ b xs, y = .ref b ∧ SqL K H b xs
def spKinds (K : PySem.W.Frag) (TT : List NTab) (C : Addr) : Sp := fun vs H Q E => ∃ (q : Sort5) (L : List Nat) (l : Nat), vs = [.str (tx L), .str (nm5 q), .int (l : Nat)] ∧ TabsN TT H ∧ Alph L ∧ l ≤ 7 ∧
  (Fits5 q L l → ∀ t v1 v2 H', Ext TT H H' → SqT K H' t [v1, v2] → LayersOk K H' v1 → Dp K H' v2 (.list ((tab5 q L l).2.map rowD)) → Q (.ref t) H') ∧
  (¬ Fits5 q L l → TooManyN TT C H E)
theorem LayersOk.extN {H H' : Hp} {v : V} (h : LayersOk K H v) (e : ExtN H H') : LayersOk K H' v := by
  obtain ⟨a, ys, rfl, h1, h2, h3⟩ := h
  refine ⟨a, ys, rfl, e _ _ h1 (fun ps z => by cases z), h2, fun y hy => ?_⟩
  obtain ⟨b, xs, e1, e3⟩ := h3 y hy
  exact ⟨b, xs, e1, ExtN.seq e e3⟩
theorem layers_push {H : Hp} {a b : Addr} {ys xs : List V} (h1 : H a = some (.lst ys)) (h2 : ys.length ≤ 9) (h3 : ∀ y ∈ ys, ∃ b xs, y = .ref b ∧ SqL K H b xs) (hb : SqL K H b xs) : LayersOk K (upd H a (.lst (ys ++ [.ref b]))) (.ref a) := by
  have go : ∀ {c : Addr} {zs : List V}, SqL K H c zs → ∃ zs', SqL K (upd H a (.lst (ys ++ [.ref b]))) c zs' := fun {c zs} hc => by
    by_cases e : c = a
    · rw [e]; exact ⟨_, SqL.of upd_same⟩
    · refine ⟨zs, ?_⟩
      rcases hc with (h | ⟨o, h⟩) | h
      · exact .inl (.inl (by rw [upd_ne e]; exact h))
      · exact .inl (.inr ⟨o, by rw [upd_ne e]; exact h⟩)
      · exact .inr h
  refine ⟨a, _, rfl, upd_same, by rw [List.length_append]; show ys.length + 1 ≤ 10; omega, fun y hy => ?_⟩
  rcases List.mem_append.mp hy with z | z
  · obtain ⟨c, zs, e1, e2⟩ := h3 y z
    obtain ⟨zs', e3⟩ := go e2
    exact ⟨c, zs', e1, e3⟩
  · obtain ⟨zs', e3⟩ := go hb
    exact ⟨b, zs', List.mem_singleton.mp z, e3⟩
theorem replicate_flat (n : Nat) : (List.replicate n [V.int 0]).flatten = List.replicate n (V.int 0) := by
  induction n with
  | zero => rfl
  | succ n ih => rw [List.replicate_succ, List.flatten_cons, ih] <;> rfl
theorem dp_zero {H : Hp} (n : Nat) : DpAll K H (List.replicate n (V.int 0)) ((List.replicate n 0).map fun (x : Nat) => PyData.int (x : Int)) := by
  induction n with
  | zero => exact .nil
  | succ n ih => exact .cons (.int 0) ih
theorem ok_kinds {f ff fl C : Addr} {fd fdf fdl : FuncData} {TT : List NTab} {k : Nat} (F : Fun K "kind_layers" "kind_layers" s_kind_layers f fd) (T : Blt mg)
    (G_flat : FnOk P w K mg base (L2N.CX P w) k ff fdf ["letters", "sort", "level"] (spFlatL K TT C)) (c_flat : Df K mg "flat_layer" ff fdf ["letters", "sort", "level"])
    (G_layer : FnOk P w K mg base (L2N.CX P w) k fl fdl ["letters", "sort", "below"] (spLayer K TT C)) (c_layer : Df K mg "layer_above" fl fdl ["letters", "sort", "below"]) :
    FnOk P w K mg base (L2N.CX P w) (k + 1) f fd ["letters", "sort", "level"] (spKinds K TT C) := by
  refine Fun.okN F sc_kind_layers (fun vs H Q E h => ?_) (fun cdv A outer s H vs Q E hr h => ?_)
  · obtain ⟨q, L, l, rfl, _⟩ := h
    rfl
  · obtain ⟨q5, L, l, rfl, hT, hA, hl, hq, hx⟩ := h
    refine ⟨_, (pss_cons (ps_if (pt_cmpR op_in_seq (pv 1) (pe_tup (pa_cons pe_str (pa_cons pe_str pa_nil))) (by rfl)) (pss_cons (ps_asg (pe_call G_flat hr (by rfl) c_flat.m c_flat.k c_flat.b .nil (L2N.passes_call (L2N.takes_of rfl rfl rfl rfl) fun _ _ _ _ h => h) (pa_cons (pv 0) (pa_cons (pv 1) (pa_cons (pv 2) pa_nil)))) (pg_tup (by rfl) (pgs_cons (pg_name (i := 3) sc_kind_layers.nd rfl (Or.inl rfl)) (pgs_cons (pg_name (i := 4) sc_kind_layers.nd rfl (Or.inl rfl)) pgs_nil))))
      (pss_one (ps_ret (pe_tup (pa_cons (pe_lst (pa_cons (pv 3) pa_nil)) (pa_cons (pv 4) pa_nil)))))) pss_nil)
      (pss_cons (ps_set (i := 5) sc_kind_layers.nd rfl (Or.inl rfl) (pe_lst (pa_cons (pe_lst (pa_cons (pe_tup pa_nil) pa_nil)) pa_nil)))
      (pss_cons (ps_set (i := 4) sc_kind_layers.nd rfl (Or.inl rfl) (pe_lst (pa_cons (pe_op op_repTn (pe_tup (pa_cons pe_int pa_nil)) (pe_callB call_len_str (by rfl) T.len PySem.boot_len (pa_cons (pv 0) pa_nil))) pa_nil)))
      (pss_cons (ps_for (passes_of rfl) rfl (pi_range1 (by rfl) T.range (pa_cons (pv 2) pa_nil)) (pg_name (i := 6) sc_kind_layers.nd rfl (Or.inl rfl))
        (pss_cons (ps_asg (pe_call G_layer hr (by rfl) c_layer.m c_layer.k c_layer.b .nil (L2N.passes_call (L2N.takes_of rfl rfl rfl rfl) fun _ _ _ _ h => h) (pa_cons (pv 0) (pa_cons (pv 1) (pa_cons (pv 4) pa_nil)))) (pg_tup (by rfl) (pgs_cons (pg_name (i := 7) sc_kind_layers.nd rfl (Or.inl rfl)) (pgs_cons (pg_name (i := 4) sc_kind_layers.nd rfl (Or.inl rfl)) pgs_nil))))
      (pss_one (ps_expr (pe_bm PySem.F.plainAttrs_list PySem.F.slot_list_append PySem.F.type_list_append mt_append (pv 5) (pa_cons (pv 7) pa_nil))))))
      (pss_one (ps_ret (pe_tup (pa_cons (pv 5) (pa_cons (pv 4) pa_nil))))))))), ?_⟩
    refine ⟨_, rfl, sizeLine_le (by show 2 ≤ _; decide), fun p np => ?_⟩
    have s0 := same_new (o := .tup [.str "yesterday", .str "pieces"]) np
    have X0 : Ext TT H _ := (Ext.refl hT).same s0
    refine ⟨p, _, rfl, .inr (.of upd_same), rfl, rfl, _, rfl, ?_⟩
    cases q5 with
    | fl y =>
      have e : (if false = true then !inV (V.str (nm5 (.fl y))) [.str "yesterday", .str "pieces"] else inV (V.str (nm5 (.fl y))) [.str "yesterday", .str "pieces"]) = true := by
        cases y <;> decide +kernel
      rw [e]
      refine iteT ?_
      refine ⟨_, rfl, _, rfl, _, rfl, y, L, l, rfl, X0.tabs, hA, hl, fun hle v ds H' X1 hv => ?_, fun hgt d H' X1 nd hd => hx (fun z => absurd hgt (Nat.not_lt.mpr z)) d H' (X0.trans X1) (X0.none_ d nd) hd⟩
      obtain ⟨a, v1, b2, rfl, g1, nb2, d1, d2⟩ := hv
      obtain ⟨ak, ks, rfl, k1, k2⟩ := Dp.lstOf d1
      refine ⟨a, _, rfl, g1, rfl, _, _, rfl, _, _, rfl, rfl, _, rfl, sizeLine_le (by show 1 ≤ _; decide), fun b nb => ⟨_, rfl, sizeLine_le (by show 2 ≤ _; decide), fun t nt => ?_⟩⟩
      have s1 := same_new (o := .lst [.ref ak]) nb
      have s2 := same_new (o := .tup [.ref b, (.ref b2)]) nt
      refine hq hle t _ _ _ ((X0.trans X1).same (s1.trans s2)) (.of upd_same) ⟨b, [.ref ak], rfl, s2 _ _ upd_same, by show 1 ≤ 10; decide, fun y hy => ⟨ak, ks, List.mem_singleton.mp hy, (s1.trans s2).seq k1⟩⟩ (Dp.same (s1.trans s2) _ _ d2)
    | lv srt =>
      have e : (if false = true then !inV (V.str (nm5 (.lv srt))) [.str "yesterday", .str "pieces"] else inV (V.str (nm5 (.lv srt))) [.str "yesterday", .str "pieces"]) = false := by
        cases srt <;> decide +kernel
      rw [e]
      refine iteF ?_
      -- layers = [[()]]
      refine ⟨sizeLine_le (by show 0 ≤ _; decide), fun t1 nt1 => ⟨sizeLine_le (by show 1 ≤ _; decide), fun b nb => ⟨sizeLine_le (by show 1 ≤ _; decide), fun a na => ?_⟩⟩⟩
      have s1 := same_new (o := .tup []) nt1
      have s2 := same_new (o := .lst [.ref t1]) nb
      have s3 := same_new (o := .lst [.ref b]) na
      -- steps = [(0,) * len(letters)]
      refine ⟨sizeLine_le (by show 1 ≤ _; decide), fun t2 nt2 => ⟨_, rfl, tx L, rfl, sizeLine_le (by rw [tx_len]; have := hA.len.2; omega), ?_⟩⟩
      rw [tx_len]
      have s4 := same_new (o := .tup [.int 0]) nt2
      have X4 : Ext TT H _ := X0.same (((s1.trans s2).trans s3).trans s4)
      have hlay : LayersOk K _ (.ref a) := ⟨a, [.ref b], rfl, s4 _ _ upd_same, by show 1 ≤ 10; decide, fun y hy => ⟨b, _, List.mem_singleton.mp hy, SqL.of (s4 _ _ (s3 _ _ upd_same))⟩⟩
      have hlay1 : ∃ ys, (upd (upd (upd (upd (upd H p (.tup [.str "yesterday", .str "pieces"])) t1 (.tup [])) b (.lst [.ref t1])) a (.lst [.ref b])) t2 (.tup [.int 0])) a = some (.lst ys) ∧ ys.length ≤ 1 := ⟨_, s4 _ _ upd_same, by show 1 ≤ 1; decide⟩
      have ha0 : H a = none := s0.free (s1.free (s2.free na))
      generalize hH4 : upd (upd (upd (upd (upd H p (.tup [.str "yesterday", .str "pieces"])) t1 (.tup [])) b (.lst [.ref t1])) a (.lst [.ref b])) t2 (.tup [.int 0]) = H4 at X4 hlay hlay1 ⊢
      have ht2 : H4 t2 = some (.tup [.int 0]) := by rw [← hH4]; exact upd_same
      have lem : ∀ (Q : VK), (∀ (t3 : Addr) (H5 : Hp), Ext TT H H5 → LayersOk K H5 (.ref a) → (∃ ys, H5 a = some (.lst ys) ∧ ys.length ≤ 1) → Dp K H5 (.ref t3) (rowD (List.replicate L.length 0)) → Q (.ref t3) H5) → rRepTn K (.ref t2) (.int (L.length : Nat)) H4 Q := fun Q h => by
        have hlen := hA.len
        by_cases h1 : L.length = 1
        · rw [h1]
          refine .inl ⟨t2, [.int 0], rfl, rfl, .of ht2, h t2 H4 X4 hlay hlay1 ?_⟩
          rw [h1]
          exact .tup (.of ht2) (.cons (.int 0) .nil)
        · refine .inr ⟨t2, _, [.int 0], rfl, rfl, .of ht2, by simp, by omega, by omega, by show 1 ≤ 1000; decide, fun p' np' => ?_⟩
          have s5 := same_new (o := .tup (List.replicate (L.length : Int).toNat [V.int 0]).flatten) np'
          refine h p' _ (X4.same s5) (hlay.extN (.of s5)) (by obtain ⟨ys, e1, e2⟩ := hlay1; exact ⟨ys, s5 _ _ e1, e2⟩) ?_
          unfold rowD
          refine .tup (.of upd_same) ?_
          rw [Int.toNat_natCast, replicate_flat]
          exact dp_zero _
      refine lem _ fun t3 H5 X5 hlay5 hys5 hd5 => ⟨sizeLine_le (by show 1 ≤ _; decide), fun t4 nt4 => ?_⟩
      have s6 := same_new (o := .lst [.ref t3]) nt4
      refine ⟨_, rfl, (l : Int), rfl, by omega, by omega, for_range (lo := 0) (n := l) (fun i σ H' => Ext TT H H' ∧ LayersOk K H' (.ref a) ∧ (∃ ys, H' a = some (.lst ys) ∧ ys.length ≤ i + 1) ∧ (∀ j, j < i → (stL srt L j).1.length ≤ 200) ∧
        ∃ v3 v4 v6 v7, Dp K H' v4 (.list ((rowsL srt L i).map rowD)) ∧ σ = [some (.str (tx L)), some (.str (nm5 (.lv srt))), some (.int (l : Nat)), v3, some v4, some (.ref a), v6, v7])
        ⟨X5.same s6, hlay5.extN (.of s6), ?_, (fun j hj => absurd hj (Nat.not_lt_zero _)), none, .ref t4, none, none, ?_, rfl⟩ (fun i σ H' hi hP => ?_) (fun σ H' hP => ?_)⟩
      · obtain ⟨a', ys, ea, q1, q2, q3⟩ := hlay5
        cases ea
        refine ⟨ys, s6 _ _ q1, ?_⟩
        obtain ⟨ys0, e0, e1⟩ := hys5
        rw [q1] at e0
        cases e0
        exact e1
      · exact .lst (SqL.of upd_same) (.cons (Dp.same s6 _ _ hd5) .nil)
      · obtain ⟨X, hl', ⟨ys, hys, hyl⟩, hfit, v3, v4, v6, v7, hd, rfl⟩ := hP
        obtain ⟨ok, h0, _⟩ := rowsL_ok hfit
        refine ⟨_, rfl, _, rfl, _, rfl, srt, L, rowsL srt L i, v4, rfl, X.tabs, hA, hd, ok, h0, fun hle v ds H2 X2 hv => ?_, fun hgt d H2 X2 nd hdd => ?_⟩
        · obtain ⟨av, w1, b2, rfl, g1, nb2, d1, d2⟩ := hv
          obtain ⟨ak, ks, rfl, k1, k2⟩ := Dp.lstOf d1
          have hys2 : H2 a = some (.lst ys) := X2.ext a _ hys fun ps z => by cases z
          obtain ⟨a', ys', ea, q1, q2, q3⟩ := hl'.extN X2.ext
          cases ea
          rw [hys2] at q1
          cases q1
          refine ⟨av, _, rfl, g1, rfl, _, _, rfl, _, _, rfl, rfl, _, rfl, .inl ⟨rfl, _, SqL.of hys2⟩, _, rfl, a, _, _, rfl, rfl, hys2, Nat.lt_of_le_of_lt (show ys.length ≤ 10 from q2) (by rw [sizeLine_eq]; decide), ?_⟩
          have nba : b2 ≠ a := fun z => by rw [z, hys] at nb2; cases nb2
          refine ⟨(X.trans X2).write ha0 hys2, layers_push hys2 (by omega) q3 k1, ⟨_, upd_same, by rw [List.length_append]; exact Nat.succ_le_succ hyl⟩, fun j hj => ?_, _, .ref b2, _, _, ?_, rfl⟩
          · rcases Nat.lt_succ_iff_lt_or_eq.mp hj with z | z
            · exact hfit j z
            · rw [z]; exact hle
          · obtain ⟨c2, rv, ec, r1, r2⟩ := Dp.lstOf d2
            cases ec
            have st : TupsStay H2 (upd H2 a (.lst (ys ++ [.ref ak]))) := .upd (fun xs z => by rw [hys2] at z; cases z) fun o u z => by rw [hys2] at z; cases z
            show Dp K _ _ (.list ((stL srt L i).2.map rowD))
            rw [rows_rk]
            have r2' : KeysAt K H2 rv ((stL srt L i).2.map rk) := by
              have := r2
              rw [rows_rk] at this
              exact this
            refine .lst ?_ (KeysAt.stay st _ _ r2')
            rcases r1 with (h | ⟨o, h⟩) | h
            · exact .inl (.inl (by rw [upd_ne nba]; exact h))
            · exact .inl (.inr ⟨o, by rw [upd_ne nba]; exact h⟩)
            · exact .inr h
        · refine hx (fun z => absurd hgt (Nat.not_lt.mpr (z i hi))) d H2 (X.trans X2) (X.none_ d nd) hdd
      · obtain ⟨X, hl', _, hfit, v3, v4, v6, v7, hd, rfl⟩ := hP
        refine ⟨_, rfl, _, rfl, sizeLine_le (by show 2 ≤ _; decide), fun t nt => ?_⟩
        have s7 := same_new (o := .tup [.ref a, v4]) nt
        refine hq hfit t _ _ _ (X.same s7) (.of upd_same) (hl'.extN (.of s7)) (Dp.same s7 _ _ ?_)
        have e : (tab5 (.lv srt) L l).2 = rowsL srt L l := by cases l <;> rfl
        rw [e]
        exact hd
end
end K71
end
section
set_option Elab.async false
set_option linter.all false
set_option maxRecDepth 100000
/-! How a table grows: each step's number is known, or the next one. -/
namespace Bf
open Lv
open Classical
structure Grow (L : List Nat) (ws : List Wd) (rows : List (List Nat)) (f : Nat → Nat → Nat) : Prop where
  first : ws[0]? = some []
  len : rows.length = ws.length
  pos : 0 < ws.length
  start : f 0 0 = 1
  next : ∀ k, k < ws.length → f k L.length = f (k + 1) 0
  last : f ws.length 0 = ws.length
  open_ : ∀ k, k < ws.length → k < f k 0
  le : ∀ k j, k < ws.length → j ≤ L.length → f k j ≤ ws.length
  rl : ∀ (k : Nat) (r : List Nat), rows[k]? = some r → r.length = L.length
  at_ : ∀ k j, k < ws.length → j < L.length → ∃ r w e a, rows[k]? = some r ∧ r.length = L.length ∧ ws[k]? = some w ∧ L[j]? = some a ∧ r[j]? = some e ∧
    ((e < f k j ∧ f k (j + 1) = f k j) ∨ (e = f k j ∧ f k (j + 1) = f k j + 1 ∧ ws[e]? = some (w ++ [a])))
section
variable {R : Wd → Wd → Prop} (E : Eqv R)
theorem one_pre1 (w : Wd) (s : List Wd × List Nat) (a : Nat) : ∃ t, (one R w s a).1 = s.1 ++ t := by
  unfold one
  cases place R s.1 (w ++ [a]) with
  | none => exact ⟨_, rfl⟩
  | some i => exact ⟨[], by rw [List.append_nil]⟩
theorem one_pre2 (w : Wd) (s : List Wd × List Nat) (a : Nat) : ∃ e, (one R w s a).2 = s.2 ++ [e] := by
  unfold one
  cases place R s.1 (w ++ [a]) with
  | none => exact ⟨_, rfl⟩
  | some i => exact ⟨_, rfl⟩
theorem fold_pre1 (w : Wd) : ∀ (B : List Nat) (s : List Wd × List Nat), ∃ t, (B.foldl (one R w) s).1 = s.1 ++ t
  | [], s => ⟨[], by rw [List.append_nil] <;> rfl⟩
  | b :: B, s => by
    obtain ⟨t1, e1⟩ := one_pre1 (R := R) w s b
    obtain ⟨t2, e2⟩ := fold_pre1 w B (one R w s b)
    refine ⟨t1 ++ t2, ?_⟩
    show (B.foldl (one R w) (one R w s b)).1 = _
    rw [e2, e1, List.append_assoc]
theorem fold_pre2 (w : Wd) : ∀ (B : List Nat) (s : List Wd × List Nat), ∃ t, (B.foldl (one R w) s).2 = s.2 ++ t ∧ t.length = B.length
  | [], s => ⟨[], by rw [List.append_nil] <;> rfl, rfl⟩
  | b :: B, s => by
    obtain ⟨t1, e1⟩ := one_pre2 (R := R) w s b
    obtain ⟨t2, e2, l2⟩ := fold_pre2 w B (one R w s b)
    refine ⟨t1 :: t2, ?_, by rw [List.length_cons, l2, List.length_cons]⟩
    show (B.foldl (one R w) (one R w s b)).2 = _
    rw [e2, e1, List.append_assoc] <;> rfl
theorem rowOf_split (w : Wd) (A B : List Nat) (ws : List Wd) : rowOf R w (A ++ B) ws = B.foldl (one R w) (rowOf R w A ws) := by
  unfold rowOf
  rw [List.foldl_append]
theorem rowOf_len (w : Wd) (L : List Nat) (ws : List Wd) : (rowOf R w L ws).2.length = L.length := by
  obtain ⟨t, e, l⟩ := fold_pre2 (R := R) w L (ws, [])
  unfold rowOf
  rw [e, List.nil_append, l]
/-- letter j of a row -/
theorem rowOf_at (w : Wd) {L : List Nat} (ws : List Wd) {j a : Nat} (h : L[j]? = some a) : ∃ e, (rowOf R w L ws).2[j]? = some e ∧
    ((e < (rowOf R w (L.take j) ws).1.length ∧ (rowOf R w (L.take (j + 1)) ws).1.length = (rowOf R w (L.take j) ws).1.length) ∨
     (e = (rowOf R w (L.take j) ws).1.length ∧ (rowOf R w (L.take (j + 1)) ws).1.length = (rowOf R w (L.take j) ws).1.length + 1 ∧ (rowOf R w L ws).1[e]? = some (w ++ [a]))) := by
  have hj : j < L.length := (List.getElem?_eq_some_iff.mp h).1
  have eL : L = L.take j ++ (a :: L.drop (j + 1)) := by
    have := (List.getElem?_eq_some_iff.mp h).2
    rw [← this, ← List.drop_eq_getElem_cons hj, List.take_append_drop]
  have eT : L.take (j + 1) = L.take j ++ [a] := by rw [List.take_succ, h] <;> rfl
  have eA : (L.take j).length = j := by rw [List.length_take]; omega
  have lA := rowOf_len (R := R) w (L.take j) ws
  have e1 : rowOf R w (L.take (j + 1)) ws = one R w (rowOf R w (L.take j) ws) a := by rw [eT, rowOf_split] <;> rfl
  have e2 : rowOf R w L ws = (L.drop (j + 1)).foldl (one R w) (one R w (rowOf R w (L.take j) ws) a) := by
    have := rowOf_split (R := R) w (L.take j) (a :: L.drop (j + 1)) ws
    rw [← eL] at this
    exact this
  rw [e1]
  generalize hs : rowOf R w (L.take j) ws = s at *
  obtain ⟨t1, p1⟩ := fold_pre1 (R := R) w (L.drop (j + 1)) (one R w s a)
  obtain ⟨t2, p2, _⟩ := fold_pre2 (R := R) w (L.drop (j + 1)) (one R w s a)
  rw [e2, p1, p2]
  unfold one
  cases hp : place R s.1 (w ++ [a]) with
  | some i =>
    refine ⟨i, ?_, .inl ⟨?_, rfl⟩⟩
    · show (s.2 ++ [i] ++ t2)[j]? = _
      rw [List.append_assoc, List.getElem?_append_right (by omega), lA, eA, Nat.sub_self] <;> rfl
    · exact (List.findIdx?_eq_some_iff_getElem.mp hp).1
  | none =>
    refine ⟨s.1.length, ?_, .inr ⟨rfl, ?_, ?_⟩⟩
    · show (s.2 ++ [s.1.length] ++ t2)[j]? = _
      rw [List.append_assoc, List.getElem?_append_right (by omega), lA, eA, Nat.sub_self] <;> rfl
    · show (s.1 ++ [w ++ [a]]).length = _
      rw [List.length_append] <;> rfl
    · show (s.1 ++ [w ++ [a]] ++ t1)[s.1.length]? = _
      rw [List.append_assoc, List.getElem?_append_right (Nat.le_refl _), Nat.sub_self] <;> rfl
end
section
variable {R : Wd → Wd → Prop} (E : Eqv R)
include E
theorem st_pre2 (L : List Nat) (k : Nat) : ∃ t, (st R L (k + 1)).2 = (st R L k).2 ++ t := by
  rcases st_succ E L k with ⟨e, _⟩ | ⟨w, _, e⟩
  · exact ⟨[], by rw [e, List.append_nil]⟩
  · rw [e]
    exact ⟨_, rfl⟩
theorem st_at1 (L : List Nat) {k k' i : Nat} {u : Wd} (h : k ≤ k') (hu : (st R L k).1[i]? = some u) : (st R L k').1[i]? = some u := by
  induction h with
  | refl => exact hu
  | step _ ih =>
    obtain ⟨t, e⟩ := st_pre E L _
    rw [e, List.getElem?_append_left (List.getElem?_eq_some_iff.mp ih).1]
    exact ih
theorem st_at2 (L : List Nat) {k k' i : Nat} {u : List Nat} (h : k ≤ k') (hu : (st R L k).2[i]? = some u) : (st R L k').2[i]? = some u := by
  induction h with
  | refl => exact hu
  | step _ ih =>
    obtain ⟨t, e⟩ := st_pre2 E L _
    rw [e, List.getElem?_append_left (List.getElem?_eq_some_iff.mp ih).1]
    exact ih
noncomputable def growF (R : Wd → Wd → Prop) (L : List Nat) (n : Nat) (k j : Nat) : Nat := (rowOf R ((st R L n).1.getD k []) (L.take j) (st R L k).1).1.length
theorem grow_of {L : List Nat} {n : Nat} (h : (st R L n).1.length ≤ n) : Grow L (st R L n).1 (st R L n).2 (growF R L n) := by
  have T := whole_of E h
  have hpos : 0 < (st R L n).1.length := (List.getElem?_eq_some_iff.mp T.first).1
  -- done at its own length
  have hN : (st R L (st R L n).1.length) = st R L n := by
    have m := st_mono E L h
    obtain ⟨d, hd⟩ := Nat.le.dest h
    have := st_done E L (k := (st R L n).1.length) m d
    rw [hd] at this
    exact this.symm
  have opn : ∀ k, k < (st R L n).1.length → k < (st R L k).1.length := fun k hk => by
    refine Nat.lt_of_not_le fun c => ?_
    obtain ⟨d, hd⟩ := Nat.le.dest (Nat.le_trans (Nat.le_of_lt hk) h)
    have := st_done E L c d
    rw [hd] at this
    rw [this] at hk
    omega
  have step : ∀ k, k < (st R L n).1.length → ∃ w, (st R L n).1[k]? = some w ∧ (st R L n).1.getD k [] = w ∧ st R L (k + 1) = ((rowOf R w L (st R L k).1).1, (st R L k).2 ++ [(rowOf R w L (st R L k).1).2]) := fun k hk => by
    rcases st_succ E L k with ⟨_, c⟩ | ⟨w, hw, e⟩
    · have := opn k hk; omega
    · have hw2 := st_at1 E L (Nat.le_trans (Nat.le_of_lt hk) h) hw
      exact ⟨w, hw2, by rw [List.getD_eq_getElem?_getD, hw2] <;> rfl, e⟩
  have f0 : ∀ k, growF R L n k 0 = (st R L k).1.length := fun k => rfl
  have fL : ∀ k, k < (st R L n).1.length → growF R L n k L.length = (st R L (k + 1)).1.length := fun k hk => by
    obtain ⟨w, h1, h2, h3⟩ := step k hk
    unfold growF
    rw [h2, h3, List.take_length]
  refine ⟨T.first, T.len, hpos, rfl, fun k hk => by rw [fL k hk, f0], by rw [f0, hN], fun k hk => by rw [f0]; exact opn k hk, fun k j hk hj => ?_, fun k r hr => (T.ok r (List.mem_of_getElem? hr)).1, fun k j hk hj => ?_⟩
  · obtain ⟨w, h1, h2, h3⟩ := step k hk
    have e1 : (st R L (k + 1)).1.length ≤ (st R L n).1.length := st_mono E L (Nat.le_trans hk h)
    refine Nat.le_trans ?_ e1
    unfold growF
    rw [h2, h3]
    have := rowOf_split (R := R) w (L.take j) (L.drop j) (st R L k).1
    rw [List.take_append_drop] at this
    rw [this]
    obtain ⟨t, p⟩ := fold_pre1 (R := R) w (L.drop j) (rowOf R w (L.take j) (st R L k).1)
    rw [p, List.length_append]
    omega
  · obtain ⟨w, h1, h2, h3⟩ := step k hk
    have hle : k + 1 ≤ n := Nat.le_trans hk h
    have I := st_inv E L k
    have lk : (st R L k).2.length = k := by
      rw [I.len]
      have := opn k hk
      omega
    have hr : (st R L n).2[k]? = some (rowOf R w L (st R L k).1).2 := by
      refine st_at2 E L hle ?_
      rw [h3]
      show ((st R L k).2 ++ [_])[k]? = _
      rw [List.getElem?_append_right (by omega), lk, Nat.sub_self] <;> rfl
    obtain ⟨e, g1, g2⟩ := rowOf_at (R := R) w (L := L) (st R L k).1 (List.getElem?_eq_getElem hj)
    refine ⟨_, w, e, L[j], hr, rowOf_len _ _ _, h1, List.getElem?_eq_getElem hj, g1, ?_⟩
    unfold growF
    rw [h2]
    rcases g2 with g2 | ⟨g2, g3, g4⟩
    · exact .inl g2
    · refine .inr ⟨g2, g3, st_at1 E L hle ?_⟩
      rw [h3]
      exact g4
end
end Bf
end
section
set_option Elab.async false
set_option linter.all false
set_option maxRecDepth 100000
set_option maxHeartbeats 1000000
/-! zip of a text and a tuple -/
namespace L2
open PySem PySem.Spec PyProof.Rows RZ
/-- the signs of x and the items of the tuple at b, in new pairs -/
def ItzS (K : PySem.W.Frag) (x : Str) (b : Addr) : It :=
  ⟨fun i H => ∃ (ys : List V) (y : V), SqT K H b ys ∧ i < x.cps.size ∧ ys[i]? = some y,
    fun i H v H' => ∃ T c y, v = .ref T ∧ H T = none ∧ H' = upd H T (.tup [.str ⟨#[c]⟩, y]) ∧ x.cps[i]? = some c ∧ ∀ ys, SqT K H b ys → ys[i]? = some y,
    fun i H => ∃ ys : List V, SqT K H b ys ∧ i ≤ x.cps.size ∧ i ≤ ys.length ∧ (i = x.cps.size ∨ i = ys.length)⟩
theorem turn_zipS {P : Program} {w : World} {K : PySem.W.Frag} {elts : List Expr} {kk : Nat} {tpos : Pos} {x : Str} {t : Tok} {b z TI TO i1 i2 : Addr} (D : ZipSep2 z TI TO i1 i2 [i1] [i2, b]) (hb2 : b ≠ i2) :
    Turn P w K (.Tuple elts kk tpos) (ItzS K x b) [z, TI, TO, i1, i2] z (fun i h => IsZip h z TI TO .none ∧ IsTupOf2 h TI (.ref i1) (.ref i2) ∧ (∃ x y, IsTupOf2 h TO x y) ∧ h.IsStrIter i1 (strIterType x) x t i ∧ h.IsTupleIter i2 b i) where
  mem := by simp
  obj := fun i h st c hc => by
    obtain ⟨hz, hTI, ⟨x, y, hTO⟩, ⟨o1, e1, _, d1⟩, ⟨o2, e2, _, d2⟩⟩ := st
    have e' : c = z ∨ c = TI ∨ c = TO ∨ c = i1 ∨ c = i2 := by simpa using hc
    rcases e' with q | q | q | q | q
    · rw [q]; exact ⟨_, hz, fun v q => nomatch q⟩
    · rw [q]; exact ⟨_, hTI, fun v q => nomatch q⟩
    · rw [q]; exact ⟨_, hTO, fun v q => nomatch q⟩
    · rw [q]; exact ⟨o1, e1, fun v q => by rw [d1] at q; cases q⟩
    · rw [q]; exact ⟨o2, e2, fun v q => by rw [d2] at q; cases q⟩
  keep := fun i h h' st k => by
    obtain ⟨hz, hTI, ⟨x, y, hTO⟩, ⟨o1, e1, r1⟩, h2⟩ := st
    exact ⟨k z (by simp) _ hz, k TI (by simp) _ hTI, ⟨x, y, k TO (by simp) _ hTO⟩, ⟨o1, k i1 (by simp) _ e1, r1⟩, h2.at fun o q => k i2 (by simp) o q⟩
  item := by
    intro X hP hw hK hc i pins s σ H E I hf st hg
    subst hP hw hK
    obtain ⟨hz, hTI, ⟨x0, y0, hTO⟩, h1, h2⟩ := st
    obtain ⟨ys, y, hqy, hx, hy⟩ := hg
    obtain ⟨its2, rv2, p2, _⟩ := I.tuple hqy
    obtain ⟨u2, hu2, ru2⟩ := rv2.get hy
    have hzl : z < s.heap.objs.size := Heap.lt_size hz
    have hlt2 : i < its2.toArray.size := by
      rw [List.size_toArray]
      exact (List.getElem?_eq_some_iff.mp hu2).1
    have hx : i < x.cps.size := hx
    refine wpAny_pyNext_zipD2_item (St1 := fun i h => h.IsStrIter i1 (strIterType x) x t i) (St2 := fun i h => h.IsTupleIter i2 b i ∧ h.IsTuple b its2.toArray) D (Draws.text (A := X.A.in1) (I.ok.hd hc) i1 x t) (Draws.tuple (A := X.A.in1) (I.ok.hd hc) i2 b hb2 its2.toArray) hz hTI hTO h1 ⟨h2, p2⟩ hx hlt2 fun x1 x2 h' tk q1 q2 z' TO' h1' h2' hT hsz hk => ?_
    obtain ⟨c, u, hcx, rfl⟩ := q1
    have e2 : x2 = u2 := by
      have := q2
      rw [List.getElem?_toArray, hu2] at this
      exact (Option.some.inj this).symm
    subst e2
    refine ⟨_, rfl, wpAny_letOwnedTupleGo_zip (s := { s with heap := h', toks := tk }) z' fun h'' z'' sb => ?_⟩
    have hT2 : h''.get? s.heap.objs.size = some { cls := .type "tuple", data := .seq #[.str ⟨#[c]⟩ u, x2] } := (sb.2 _ (Nat.ne_of_gt hzl)).trans hT
    have new : ObjOk X.prog X.w (upd H s.heap.objs.size (.tup [.str ⟨#[c]⟩, y])) h'' s.heap.objs.size (.tup [.str ⟨#[c]⟩, y]) :=
      ⟨by show 2 ≤ sizeLine; decide, [.str ⟨#[c]⟩ u, x2], .cons ⟨u, rfl⟩ (.cons ru2 .nil), ⟨_, hT2, rfl, _, rfl⟩⟩
    have I1 : Inv X pins σ (upd H s.heap.objs.size (.tup [.str ⟨#[c]⟩, y])) { s with heap := h'', toks := tk } :=
      I.turnedNew (t' := tk) (ch := [z, TI, TO, i1, i2]) (fun c o hb q => (sb.2 c (fun q' => hb (by simp [q']))).trans (hk c o (fun q' => hb (by simp [q'])) (fun q' => hb (by simp [q'])) (fun q' => hb (by simp [q'])) (fun q' => hb (by simp [q'])) q)) hf (Nat.le_refl _) new
    have TIi1 : TI ≠ i1 := D.TIi1
    have i1z : i1 ≠ z := Ne.symm D.zi1
    have i2z : i2 ≠ z := Ne.symm D.zi2
    refine ⟨.ref s.heap.objs.size, _, I1, rfl, ⟨_, c, y, rfl, I.hok.fresh (Nat.le_refl _), rfl, hcx, fun l hl => by rw [I.tuple_inj hl hqy]; exact hy⟩, ⟨z'', ?_, ⟨.str ⟨#[c]⟩ u, x2, ?_⟩, ?_, ?_⟩, fun c hcm => ?_⟩
    · exact (sb.2 _ D.TIz).trans (hk _ _ D.TIz D.TITO D.TIi1 D.TIi2 hTI)
    · exact (sb.2 _ D.TOz).trans TO'
    · obtain ⟨o, e1, r⟩ := h1'
      exact ⟨o, (sb.2 _ i1z).trans e1, r⟩
    · exact h2'.1.at fun o q => (sb.2 _ i2z).trans q
    · have hlt : c < s.heap.objs.size := by
        have e' : c = z ∨ c = TI ∨ c = TO ∨ c = i1 ∨ c = i2 := by simpa using hcm
        rcases e' with q | q | q | q | q
        · rw [q]; exact hzl
        · rw [q]; exact Heap.lt_size hTI
        · rw [q]; exact Heap.lt_size hTO
        · rw [q]; obtain ⟨_, e1, _⟩ := h1; exact Heap.lt_size e1
        · rw [q]; obtain ⟨_, e2, _⟩ := h2; exact Heap.lt_size e2
      rw [upd_ne (Nat.ne_of_lt hlt)]
      exact (hf c hcm).1
  done := by
    intro X hP hw hK hc i pins s σ H E I hf st hg
    subst hP hw hK
    obtain ⟨hz, hTI, ⟨x0, y0, hTO⟩, h1, h2⟩ := st
    obtain ⟨ys, hqy, g1, g2, hend⟩ := hg
    obtain ⟨its2, rv2, p2, _⟩ := I.tuple hqy
    have l2 := rv2.length
    have g1' : i ≤ x.cps.size := g1
    have g2' : i ≤ its2.toArray.size := by rw [List.size_toArray]; omega
    have he : i = x.cps.size ∨ i = its2.toArray.size := by
      rcases hend with q | q
      · exact .inl q
      · exact .inr (by rw [List.size_toArray]; omega)
    exact wpAny_pyNext_zipD2_end (St1 := fun i h => h.IsStrIter i1 (strIterType x) x t i) (St2 := fun i h => h.IsTupleIter i2 b i ∧ h.IsTuple b its2.toArray) D (Draws.text (A := X.A.in1) (I.ok.hd hc) i1 x t) (Draws.tuple (A := X.A.in1) (I.ok.hd hc) i2 b hb2 its2.toArray) hz hTI hTO h1 ⟨h2, p2⟩ g1' g2' he fun h' tk hk => ⟨rfl, I.turnedL (t' := tk) (ch := [z, TI, TO, i1, i2]) (fun c o hb q =>
      hk c o (fun q' => hb (by simp [q'])) (fun q' => hb (by simp [q'])) (fun q' => hb (by simp [q'])) (fun q' => hb (by simp [q'])) q) hf⟩
  self := fun A i s Q E st h => wpAny_pyIter_zip st.1 h
def iZipS (K : PySem.W.Frag) (ta : TA) : TI := fun σ H R => ta σ H fun vs H1 => ∃ x b ys, vs = [.str x, .ref b] ∧ SqT K H1 b ys ∧ R (ItzS K x b) H1
theorem pi_zipS {X : Cx} {e e2 : Expr} {ta : TA} {p pos tpos : Pos} {elts : List Expr} {kk : Nat} (hg : Gl X "zip") (hm : X.mg "zip" = none) (ha : PA X [e, e2] ta)
    (hs : starEach [e, e2] X.env = (false, eval e X.env) :: starEach [e2] X.env := by rfl) (hpl : (backTo pos (starEach [e2] X.env)).any (·.1) = false := by rfl) :
    PI X (.Tuple elts kk tpos) (.Call (.Name "zip" p) [e, e2] [] pos) (iZipS X.K ta) := by
  refine ⟨fun pins s σ H R I h => ?_⟩
  refine Call_ (ld_blt I hg hm PyProof.Rows.boot_zip (PyProof.Rows.callWith_type1 (thn (ha.run pos pins s σ H _ I h) fun us s1 ⟨vs, H1, I1, r1, q1⟩ => ?_) hs hpl))
  obtain ⟨x, b, ys, ex, hqy, q⟩ := q1
  subst ex
  cases r1 with
  | cons r rr =>
    cases rr with
    | cons r' rr =>
      cases rr
      obtain ⟨t, rfl⟩ := r
      cases r'
      have fresh5 : ∀ c, c ∈ [s1.heap.objs.size + 4, s1.heap.objs.size + 2, s1.heap.objs.size + 3, s1.heap.objs.size, s1.heap.objs.size + 1] → FpOk X pins H1 c := fun c hcm => by
        have e' : c = s1.heap.objs.size + 4 ∨ c = s1.heap.objs.size + 2 ∨ c = s1.heap.objs.size + 3 ∨ c = s1.heap.objs.size ∨ c = s1.heap.objs.size + 1 := by simpa using hcm
        have hle : s1.heap.objs.size ≤ c := by
          rcases e' with z | z | z | z | z
          · rw [z]; exact Nat.le_add_right _ _
          · rw [z]; exact Nat.le_add_right _ _
          · rw [z]; exact Nat.le_add_right _ _
          · rw [z]; exact Nat.le_refl _
          · rw [z]; exact Nat.le_add_right _ _
        exact I1.fpOk hle (I1.hok.fresh hle)
      obtain ⟨its2, rv2, p2, _⟩ := I1.tuple hqy
      have hb : b < s1.heap.objs.size := by obtain ⟨o2, ho2, _⟩ := id p2; exact Heap.lt_size ho2
      refine zip_begins2 (begins_text x t) (begins_tuple b its2.toArray) trivial p2 fun h' hz hTI hTO h1 h2 hsz hk => wpAny_pyIter_zip hz ?_
      have I2 : Inv X pins σ H1 { s1 with heap := h' } := I1.kept (t' := s1.toks) hk
      refine ⟨s1.heap.objs.size + 4, [s1.heap.objs.size + 4, s1.heap.objs.size + 2, s1.heap.objs.size + 3, s1.heap.objs.size, s1.heap.objs.size + 1], _, _, H1, rfl, I2, turn_zipS (t := t) ?_ ?_, ⟨hz, hTI, ⟨_, _, hTO⟩, ⟨_, h1, rfl, rfl⟩, ⟨_, h2, rfl, rfl⟩⟩, fresh5, q⟩
      · exact zip_sep2 (fp1 := []) (fp2 := [b]) (fun _ h => nomatch h) (fun c h => by rw [List.mem_singleton.mp h]; exact hb)
      · exact Nat.ne_of_lt (Nat.lt_of_lt_of_le hb (Nat.le_succ _))
/-- a loop over zip of a text and a tuple of one length -/
theorem for_zipS {K : PySem.W.Frag} {x : Str} {b : Addr} {ys : List V} {g : TG} {tb : TS} {D : Ends} {σ : L2.St} {H : Hp} (hl : x.cps.size = ys.length) (Pv : Nat → L2.St → Hp → Prop) (h0 : Pv 0 σ H) (hq : ∀ i σ H, Pv i σ H → SqT K H b ys)
    (hs : ∀ (i c : Nat) (y : V) (T : Addr) (σ : L2.St) (H : Hp), x.cps[i]? = some c → ys[i]? = some y → Pv i σ H → H T = none → g (.ref T) σ (upd H T (.tup [.str ⟨#[c]⟩, y])) fun σ2 H2 => tb { D with nx := Pv (i + 1), ct := Pv (i + 1), bk := D.nx } σ2 H2) (hd : ∀ σ H, Pv ys.length σ H → D.nx σ H) :
    ∃ W : Nat → Nat → L2.St → Hp → Prop, (∃ m, W 0 m σ H) ∧ ∀ i m σ H, W i m σ H →
      ((ItzS K x b).stop i H ∧ D.nx σ H) ∨ ((ItzS K x b).go i H ∧ ∃ N : L2.St → Hp → Prop, (∀ σ' H', N σ' H' → ∃ m', m' < m ∧ W (i + 1) m' σ' H') ∧ ∀ v H', (ItzS K x b).yld i H v H' → g v σ H' fun σ2 H2 => tb { D with nx := N, ct := N, bk := D.nx } σ2 H2) := by
  refine ⟨fun i m σ H => m = ys.length - i ∧ i ≤ ys.length ∧ Pv i σ H, ⟨ys.length, rfl, Nat.zero_le _, h0⟩, ?_⟩
  rintro i m σ H ⟨rfl, hi, p⟩
  have qy := hq i σ H p
  by_cases hlt : i < ys.length
  · have hy : ys[i]? = some ys[i] := List.getElem?_eq_getElem hlt
    refine .inr ⟨⟨ys, _, qy, by omega, hy⟩, Pv (i + 1), fun σ' H' p' => ⟨ys.length - (i + 1), by omega, rfl, hlt, p'⟩, fun v H' y => ?_⟩
    obtain ⟨T, c, y', rfl, hT, rfl, f1, f2⟩ := y
    exact hs i c y' T σ H f1 (f2 ys qy) p hT
  · have e : i = ys.length := by omega
    subst e
    exact .inl ⟨⟨ys, qy, by omega, Nat.le_refl _, .inr rfl⟩, hd σ H p⟩
end L2
end
section
set_option Elab.async false
set_option linter.all false
set_option maxRecDepth 100000
set_option maxHeartbeats 2000000
/-! reached, first_words -/
namespace K71
open PySem PySem.Spec SG NdefX LamX
open L2 hiding It
open PyProof.Rows hiding St
open Lv (Wd Srt IT)
/-- a list of n, filled up to m -/
def upTo (n m : Nat) (g : Nat → V) (d : V) : List V := (List.range n).map fun i => if i < m then g i else d
theorem upTo_len (n m : Nat) (g : Nat → V) (d : V) : (upTo n m g d).length = n := by simp [upTo]
theorem upTo_get {n m i : Nat} {g : Nat → V} {d : V} (h : i < n) : (upTo n m g d)[i]? = some (if i < m then g i else d) := by
  unfold upTo
  rw [List.getElem?_map, List.getElem?_range h] <;> rfl
theorem upTo_zero (n : Nat) (g : Nat → V) (d : V) : upTo n 0 g d = List.replicate n d := by
  refine List.ext_getElem? fun i => ?_
  by_cases h : i < n
  · rw [upTo_get h, List.getElem?_replicate, if_neg (Nat.not_lt_zero _), if_pos h]
  · rw [List.getElem?_eq_none (by rw [upTo_len]; omega), List.getElem?_replicate, if_neg h]
theorem upTo_set {n m : Nat} (g : Nat → V) (d : V) (h : m < n) : (upTo n m g d).set m (g m) = upTo n (m + 1) g d := by
  refine List.ext_getElem? fun i => ?_
  by_cases hi : i < n
  · rw [upTo_get hi, List.getElem?_set]
    by_cases e : m = i
    · subst e
      rw [if_pos rfl, if_pos (by rw [upTo_len]; exact h), if_pos (Nat.lt_succ_self _)]
    · rw [if_neg e, upTo_get hi]
      by_cases c : i < m
      · rw [if_pos c, if_pos (by omega)]
      · rw [if_neg c, if_neg (by omega)]
  · rw [List.getElem?_eq_none (by rw [List.length_set, upTo_len]; omega), List.getElem?_eq_none (by rw [upTo_len]; omega)]
theorem upTo_full (n : Nat) (g : Nat → V) (d : V) : upTo n n g d = (List.range n).map g := by
  unfold upTo
  refine List.map_congr_left fun i hi => ?_
  rw [if_pos (List.mem_range.mp hi)]
theorem rep_flat (n : Nat) (v : V) : (List.replicate n [v]).flatten = List.replicate n v := by
  induction n with
  | zero => rfl
  | succ n ih => rw [List.replicate_succ, List.flatten_cons, ih] <;> rfl
def nums (n : Nat) : List V := (List.range n).map fun (i : Nat) => V.int (i : Int)
theorem nums_succ (n : Nat) : nums (n + 1) = nums n ++ [.int (n : Nat)] := by
  unfold nums
  rw [List.range_succ, List.map_append] <;> rfl
theorem nums_get {n i : Nat} (h : i < n) : (nums n)[i]? = some (.int (i : Nat)) := by
  unfold nums
  rw [List.getElem?_map, List.getElem?_range h] <;> rfl
theorem nums_len (n : Nat) : (nums n).length = n := by simp [nums]
section
variable {P : Program} {w : World} {K : PySem.W.Frag} {mg : Str → Option Value} {base : Heap}
theorem rows_row {H : Hp} {xs : List V} {rows : List (List Nat)} {s : Nat} {r : List Nat} (h : DpAll K H xs (rows.map rowD)) (e : rows[s]? = some r) : ∃ p, xs[s]? = some (.ref p) ∧ SqT K H p (r.map fun (x : Nat) => V.int (x : Int)) := by
  obtain ⟨x, h1, h2⟩ := h.get (i := s) (d := rowD r) (by rw [List.getElem?_map, e] <;> rfl)
  obtain ⟨p, ys, rfl, h3, h4⟩ := Dp.tupOf h2
  have := ints_dp (ns := r.map fun (x : Nat) => (x : Int)) (by rw [List.map_map]; exact h4)
  rw [List.map_map] at this
  rw [this] at h3
  exact ⟨p, h1, h3⟩
def spReached (K : PySem.W.Frag) : Sp := fun vs H Q _ => ∃ (L : List Nat) (ws : List Wd) (rows : List (List Nat)) (f : Nat → Nat → Nat) (v : V), vs = [v] ∧ Dp K H v (.list (rows.map rowD)) ∧ Bf.Grow L ws rows f ∧ ws.length ≤ 200 ∧
  ∀ p H', Same H H' → H p = none → H' p = some (.lst (nums ws.length)) → Q (.ref p) H'
theorem ok_reached {f : Addr} {fd : FuncData} {k : Nat} (F : Fun K "reached" "reached" s_reached f fd) (T : Blt mg) : FnOk P w K mg base CX0 (k + 1) f fd ["steps"] (spReached K) := by
  refine F.ok sc_reached (fun vs H Q E h => ?_) (fun cdv A outer s H vs Q E hr h => ?_)
  · obtain ⟨L, ws, rows, f, v, rfl, _⟩ := h
    rfl
  · obtain ⟨L, ws, rows, f, v, rfl, hd, G, hl, q⟩ := h
    refine ⟨_, (pss_cons (ps_set (i := 1) sc_reached.nd rfl (Or.inl rfl) (pe_lst (pa_cons pe_int pa_nil)))
      (pss_cons (ps_set (i := 2) sc_reached.nd rfl (Or.inl rfl) (pe_op op_rep (pe_lst (pa_cons pe_bl pa_nil)) (pe_callB call_len_seq (by rfl) T.len PySem.boot_len (pa_cons (pv 0) pa_nil))))
      (pss_cons (ps_asg pe_bl (pg_sub (pv 2) pe_int set_list))
      (pss_cons (ps_set (i := 3) sc_reached.nd rfl (Or.inl rfl) pe_int)
      (pss_cons (ps_while PassesOwn.never (pt_cmpR op_lt (pv 3) (pe_callB call_len_seq (by rfl) T.len PySem.boot_len (pa_cons (pv 1) pa_nil)) (nomark _))
        (pss_cons (ps_for PassesOwn.never rfl (pi_tup (pe_ix ix_list (pv 0) (pe_ix ix_list (pv 1) (pv 3) (fun _ _ => rfl)) (fun _ _ => rfl))) (pg_name (i := 4) sc_reached.nd rfl (Or.inl rfl))
        (pss_one (ps_if (pt_not (pt_val (pe_ix ix_list (pv 2) (pv 4) (fun _ _ => rfl)))) (pss_cons (ps_asg pe_bl (pg_sub (pv 2) (pv 4) set_list))
      (pss_one (ps_expr (pe_bm PySem.F.plainAttrs_list PySem.F.slot_list_append PySem.F.type_list_append mt_append (pv 1) (pa_cons (pv 4) pa_nil))))) pss_nil)))
      (pss_one (ps_aug (i := 3) sc_reached.nd rfl (Or.inl rfl) pe_int ip_add))))
      (pss_one (ps_ret (pv 1)))))))), ?_⟩
    obtain ⟨A0, xs, rfl, a1, a2⟩ := Dp.lstOf hd
    have lx : xs.length = ws.length := by rw [a2.len, List.length_map, G.len]
    -- states = [0], seen = [False] * len(steps)
    refine ⟨sizeLine_le (by show 1 ≤ _; decide), fun p np => ⟨sizeLine_le (by show 1 ≤ _; decide), fun b0 nb0 => ?_⟩⟩
    have s1 := same_new (o := .lst [.int 0]) np
    have s2 := same_new (o := .lst [.bl false]) nb0
    refine ⟨_, rfl, A0, xs, rfl, .inl ((s1.trans s2).seq a1), b0, _, _, rfl, rfl, upd_same, by omega, by omega, by rw [lx, Int.toNat_natCast]; exact sizeLine_le (by show 1 * _ ≤ _; omega), fun b nb => ?_⟩
    rw [lx, Int.toNat_natCast, rep_flat, ← upTo_zero ws.length (fun _ => .bl true) (.bl false)]
    have s3 := same_new (o := .lst (upTo ws.length 0 (fun _ => .bl true) (.bl false))) nb
    have hpos := G.pos
    have npb : p ≠ b := fun z => by rw [← z, s2 _ _ upd_same] at nb; cases nb
    have hb0 : H b = none := (s1.trans s2).free nb
    refine ⟨_, rfl, b, _, 0, 0, rfl, rfl, upd_same, by rw [upTo_len]; unfold ixN; simp [hpos], ?_⟩
    rw [upTo_set (fun _ => V.bl true) (V.bl false) hpos]
    have R0 : ∀ H', H' = upd (upd (upd (upd H p (.lst [.int 0])) b0 (.lst [.bl false])) b (.lst (upTo ws.length 0 (fun _ => .bl true) (.bl false)))) b (.lst (upTo ws.length (0 + 1) (fun _ => .bl true) (.bl false))) →
        Same H H' ∧ H' p = some (.lst (nums 1)) ∧ H' b = some (.lst (upTo ws.length 1 (fun _ => .bl true) (.bl false))) := fun H' e => by
      subst e
      refine ⟨fun c o ho => ?_, ?_, upd_same⟩
      · have : c ≠ b := fun z => by rw [z, hb0] at ho; cases ho
        rw [upd_ne this]
        exact (s1.trans (s2.trans s3)) c o ho
      · rw [upd_ne npb]
        exact (s2.trans s3) p _ upd_same
    generalize hH0 : upd (upd (upd (upd H p (.lst [.int 0])) b0 (.lst [.bl false])) b (.lst (upTo ws.length 0 (fun _ => .bl true) (.bl false)))) b (.lst (upTo ws.length (0 + 1) (fun _ => .bl true) (.bl false))) = H0 at *
    obtain ⟨z1, z2, z3⟩ := R0 H0 rfl
    -- at = 0; while
    refine ⟨fun m σ H' => ∃ r, m = ws.length - r ∧ r ≤ ws.length ∧ Same H H' ∧ H' p = some (.lst (nums (f r 0))) ∧ H' b = some (.lst (upTo ws.length (f r 0) (fun _ => .bl true) (.bl false))) ∧
      ∃ v4, σ = [some (.ref A0), some (.ref p), some (.ref b), some (.int (r : Nat)), v4], ⟨_, 0, rfl, Nat.zero_le _, z1, by rw [G.start]; exact z2, by rw [G.start]; exact z3, none, rfl⟩, ?_⟩
    rintro m σ H2 ⟨r, rfl, hr2, y1, y2, y3, v4, rfl⟩
    refine ⟨_, rfl, _, rfl, p, _, rfl, .inl (SqL.of y2), _, _, rfl, rfl, _, rfl, ?_⟩
    rw [nums_len]
    by_cases hlt : r < ws.length
    · rw [decide_eq_true (show ((r : Nat) : Int) < (f r 0 : Nat) from by have := G.open_ r hlt; omega)]
      refine iteT ?_
      refine ⟨fun σ' H' => ∃ r', r' = r + 1 ∧ Same H H' ∧ H' p = some (.lst (nums (f r' 0))) ∧ H' b = some (.lst (upTo ws.length (f r' 0) (fun _ => .bl true) (.bl false))) ∧
        ∃ v4, σ' = [some (.ref A0), some (.ref p), some (.ref b), some (.int (r' : Nat)), v4], ?_, ?_⟩
      · rintro σ' H' ⟨r', rfl, h1, h2, h3, v4, rfl⟩
        exact ⟨ws.length - (r + 1), by omega, r + 1, rfl, hlt, h1, h2, h3, v4, rfl⟩
      have hx : ∃ rr, rows[r]? = some rr ∧ rr.length = L.length := by
        have hr' : r < rows.length := by rw [G.len]; exact hlt
        exact ⟨rows[r], List.getElem?_eq_getElem hr', G.rl r _ (List.getElem?_eq_getElem hr')⟩
      obtain ⟨rr, hrr, hrl⟩ := hx
      obtain ⟨pr, x1, x2⟩ := rows_row a2 hrr
      refine ⟨_, rfl, _, rfl, _, rfl, p, nums (f r 0), _, _, rfl, rfl, SqL.of y2, atI_nat (nums_get (G.open_ r hlt)), A0, xs, _, _, rfl, rfl, y1.seq a1, atI_nat x1, pr, rfl, ⟨_, TupsStay.sqT (.of y1) x2⟩, ?_⟩
      refine for_tup (xs := rr.map fun (x : Nat) => V.int (x : Int)) (fun j σ H' => Same H H' ∧ H' p = some (.lst (nums (f r j))) ∧ H' b = some (.lst (upTo ws.length (f r j) (fun _ => .bl true) (.bl false))) ∧
        ∃ v4, σ = [some (.ref A0), some (.ref p), some (.ref b), some (.int (r : Nat)), v4]) ⟨y1, y2, y3, v4, rfl⟩ (fun j σ H' _ hP => TupsStay.sqT (.of hP.1) x2) (fun j x σ H' hx hP => ?_) (fun σ H' hP => ?_)
      · obtain ⟨j1, j2, j3, v4', rfl⟩ := hP
        have hj : j < L.length := by
          have := (List.getElem?_eq_some_iff.mp hx).1
          rw [List.length_map, hrl] at this
          exact this
        obtain ⟨r', w', e, a, g1, g2, g3, g4, g5, g6⟩ := G.at_ r j hlt hj
        rw [hrr] at g1
        cases g1
        rw [List.getElem?_map, g5] at hx
        cases hx
        have hmn := G.le r (j + 1) hlt hj
        have hel : e < ws.length := by
          rcases g6 with ⟨c1, c2⟩ | ⟨c1, c2, _⟩ <;> omega
        refine ⟨_, rfl, _, rfl, b, _, e, _, rfl, rfl, SqL.of j3, atI_nat (upTo_get hel), decide (e < f r j), by by_cases c : e < f r j <;> simp [c], ?_⟩
        rcases g6 with ⟨c1, c2⟩ | ⟨c1, c2, c3⟩
        · rw [decide_eq_true c1]
          refine iteF ?_
          rw [c2]
          exact ⟨j1, j2, j3, _, rfl⟩
        · rw [decide_eq_false (by omega)]
          refine iteT ?_
          have hl2 : f r j < ws.length := by omega
          refine ⟨_, rfl, _, rfl, b, _, _, e, rfl, rfl, j3, by rw [upTo_len]; unfold ixN; simp [hel], ?_⟩
          have es : (upTo ws.length (f r j) (fun _ => V.bl true) (V.bl false)).set e (.bl true) = upTo ws.length (f r j + 1) (fun _ => .bl true) (.bl false) := by
            rw [c1]; exact upTo_set (fun _ => V.bl true) (V.bl false) hl2
          rw [es]
          have j2' : (upd H' b (.lst (upTo ws.length (f r j + 1) (fun _ => V.bl true) (.bl false)))) p = some (.lst (nums (f r j))) := by rw [upd_ne npb]; exact j2
          refine ⟨_, rfl, .inl ⟨rfl, _, SqL.of j2'⟩, _, rfl, p, _, _, rfl, rfl, j2', by rw [nums_len, sizeLine_eq]; omega, ?_⟩
          rw [c2, c1, ← nums_succ]
          refine ⟨fun c o ho => ?_, upd_same, ?_, _, rfl⟩
          · have n1 : c ≠ b := fun z => by rw [z, hb0] at ho; cases ho
            have n2 : c ≠ p := fun z => by rw [z, np] at ho; cases ho
            rw [upd_ne n2, upd_ne n1]
            exact j1 c o ho
          · rw [upd_ne (Ne.symm npb)]
            exact upd_same
      · obtain ⟨j1, j2, j3, v4', rfl⟩ := hP
        rw [List.length_map, hrl, G.next r hlt] at j2 j3
        exact ⟨_, rfl, _, _, rfl, rfl, _, rfl, j1, j2, j3, _, rfl⟩
    · have er : r = ws.length := by omega
      subst er
      rw [decide_eq_false (show ¬ (((ws.length : Nat) : Int) < (f ws.length 0 : Nat)) from by rw [G.last]; omega)]
      refine iteF ?_
      rw [G.last] at y2
      exact ⟨_, rfl, q p H2 y1 np y2⟩
end
end K71
end
section
set_option Elab.async false
set_option linter.all false
set_option maxRecDepth 100000
set_option maxHeartbeats 2000000
/-! first_words -/
namespace K71
open PySem PySem.Spec SG NdefX LamX
open L2 hiding It
open PyProof.Rows hiding St
open Lv (Wd Srt IT)
section
variable {P : Program} {w : World} {K : PySem.W.Frag} {mg : Str → Option Value} {base : Heap}
abbrev wv (ws : List Wd) (i : Nat) : V := .str (tx (ws.getD i []))
theorem wv_full (ws : List Wd) : upTo ws.length ws.length (wv ws) .non = ws.map fun u => V.str (tx u) := by
  rw [upTo_full]
  refine List.ext_getElem? fun i => ?_
  by_cases h : i < ws.length
  · rw [List.getElem?_map, List.getElem?_range h, List.getElem?_map, List.getElem?_eq_getElem h]
    show some (V.str (tx (ws.getD i []))) = _
    rw [List.getD_eq_getElem?_getD, List.getElem?_eq_getElem h] <;> rfl
  · rw [List.getElem?_eq_none (by simp; omega), List.getElem?_eq_none (by simp; omega)]
def spFirst (K : PySem.W.Frag) : Sp := fun vs H Q _ => ∃ (L : List Nat) (ws : List Wd) (rows : List (List Nat)) (f : Nat → Nat → Nat) (v : V), vs = [.str (tx L), v] ∧ Dp K H v (.list (rows.map rowD)) ∧ Bf.Grow L ws rows f ∧ ws.length ≤ 200 ∧
  (∀ u ∈ ws, u.length ≤ 1000) ∧
  ∀ p H', Same H H' → H p = none → H' p = some (.lst (ws.map fun u => V.str (tx u))) → Q (.ref p) H'
theorem ok_first {f fr : Addr} {fd fdr : FuncData} {k : Nat} (F : Fun K "first_words" "first_words" s_first_words f fd) (T : Blt mg)
    (G_reached : FnOk P w K mg base CX0 k fr fdr ["steps"] (spReached K)) (c_reached : Df K mg "reached" fr fdr ["steps"]) : FnOk P w K mg base CX0 (k + 1) f fd ["letters", "steps"] (spFirst K) := by
  refine F.ok sc_first_words (fun vs H Q E h => ?_) (fun cdv A outer s H vs Q E hr h => ?_)
  · obtain ⟨L, ws, rows, f, v, rfl, _⟩ := h
    rfl
  · obtain ⟨L, ws, rows, f, v, rfl, hd, G, hl, hsh, q⟩ := h
    refine ⟨_, (pss_cons (ps_set (i := 2) sc_first_words.nd rfl (Or.inl rfl) (pe_op op_rep (pe_lst (pa_cons pe_non pa_nil)) (pe_callB call_len_seq (by rfl) T.len PySem.boot_len (pa_cons (pv 1) pa_nil))))
      (pss_cons (ps_asg pe_str (pg_sub (pv 2) pe_int set_list))
      (pss_cons (ps_for PassesOwn.never rfl (pi_list (pe_call G_reached hr (by rfl) c_reached.m c_reached.k c_reached.b .nil pass0 (pa_cons (pv 1) pa_nil))) (pg_name (i := 3) sc_first_words.nd rfl (Or.inl rfl))
        (pss_one (ps_for PassesOwn.never rfl (pi_zipS (by rfl) T.zip (pa_cons (pv 0) (pa_cons (pe_ix ix_list (pv 1) (pv 3) (fun _ _ => rfl)) pa_nil))) (pg_tup (by rfl) (pgs_cons (pg_name (i := 4) sc_first_words.nd rfl (Or.inl rfl)) (pgs_cons (pg_name (i := 5) sc_first_words.nd rfl (Or.inl rfl)) pgs_nil)))
        (pss_one (ps_if (pt_cmpR op_isN (pe_ix ix_list (pv 2) (pv 5) (fun _ _ => rfl)) pe_non (nomark _)) (pss_one (ps_asg (pe_op op_add_str (pe_ix ix_list (pv 2) (pv 3) (fun _ _ => rfl)) (pv 4)) (pg_sub (pv 2) (pv 5) set_list))) pss_nil)))))
      (pss_one (ps_ret (pv 2)))))), ?_⟩
    obtain ⟨A0, xs, rfl, a1, a2⟩ := Dp.lstOf hd
    have lx : xs.length = ws.length := by rw [a2.len, List.length_map, G.len]
    have hpos := G.pos
    have hw0 : wv ws 0 = .str (tx []) := by
      show V.str (tx (ws.getD 0 [])) = _
      rw [List.getD_eq_getElem?_getD, G.first] <;> rfl
    refine ⟨sizeLine_le (by show 1 ≤ _; decide), fun b0 nb0 => ?_⟩
    have s2 := same_new (o := .lst [.non]) nb0
    refine ⟨_, rfl, A0, xs, rfl, .inl (s2.seq a1), b0, _, _, rfl, rfl, upd_same, by omega, by omega, by rw [lx, Int.toNat_natCast]; exact sizeLine_le (by show 1 * _ ≤ _; omega), fun p np => ?_⟩
    rw [lx, Int.toNat_natCast, rep_flat, ← upTo_zero ws.length (wv ws) .non]
    have s3 := same_new (o := .lst (upTo ws.length 0 (wv ws) .non)) np
    have hp0 : H p = none := s2.free np
    refine ⟨_, rfl, p, _, 0, 0, rfl, rfl, upd_same, by rw [upTo_len]; unfold ixN; simp [hpos], ?_⟩
    have es0 : (upTo ws.length 0 (wv ws) .non).set 0 (.str "") = upTo ws.length (0 + 1) (wv ws) .non := by
      rw [← upTo_set (wv ws) .non hpos, hw0] <;> rfl
    rw [es0]
    have R0 : ∀ H', H' = upd (upd (upd H b0 (.lst [.non])) p (.lst (upTo ws.length 0 (wv ws) .non))) p (.lst (upTo ws.length (0 + 1) (wv ws) .non)) →
        Same H H' ∧ H' p = some (.lst (upTo ws.length 1 (wv ws) .non)) := fun H' e => by
      subst e
      refine ⟨fun c o ho => ?_, upd_same⟩
      have : c ≠ p := fun z => by rw [z, hp0] at ho; cases ho
      rw [upd_ne this]
      exact (s2.trans s3) c o ho
    generalize hH0 : upd (upd (upd H b0 (.lst [.non])) p (.lst (upTo ws.length 0 (wv ws) .non))) p (.lst (upTo ws.length (0 + 1) (wv ws) .non)) = H0 at *
    obtain ⟨z1, z2⟩ := R0 H0 rfl
    refine ⟨_, rfl, L, ws, rows, f, _, rfl, Dp.same z1 _ _ hd, G, hl, fun pr H1 w1 w2 w3 => ?_⟩
    have npr : pr ≠ p := fun z => by rw [z, z2] at w2; cases w2
    have hpr0 : H pr = none := z1.free w2
    refine ⟨pr, rfl, ⟨_, SqL.of w3⟩, for_list (xs := nums ws.length) (fun r σ H' => Same H H' ∧ H' pr = some (.lst (nums ws.length)) ∧ H' p = some (.lst (upTo ws.length (f r 0) (wv ws) .non)) ∧
      ∃ v3 v4 v5, σ = [some (.str (tx L)), some (.ref A0), some (.ref p), v3, v4, v5]) ⟨z1.trans w1, w3, by rw [G.start]; exact w1 _ _ z2, none, none, none, rfl⟩ (fun r σ H' _ hP => SqL.of hP.2.1) (fun r x σ H2 hx hP => ?_) (fun σ H' hP => ?_)⟩
    · obtain ⟨y1, y2, y3, v3, v4, v5, rfl⟩ := hP
      have hlt : r < ws.length := by
        have := (List.getElem?_eq_some_iff.mp hx).1
        rw [nums_len] at this
        exact this
      rw [nums_get hlt] at hx
      cases hx
      have hr' : r < rows.length := by rw [G.len]; exact hlt
      obtain ⟨rr, hrr⟩ : ∃ rr, rows[r]? = some rr := ⟨_, List.getElem?_eq_getElem hr'⟩
      have hrl := G.rl r rr hrr
      obtain ⟨pt, x1, x2⟩ := rows_row a2 hrr
      refine ⟨_, rfl, _, rfl, _, rfl, A0, xs, _, _, rfl, rfl, y1.seq a1, atI_nat x1, tx L, pt, _, rfl, TupsStay.sqT (.of y1) x2, ?_⟩
      refine for_zipS (ys := rr.map fun (x : Nat) => V.int (x : Int)) (by simp [hrl]) (fun j σ H' => Same H H' ∧ H' pr = some (.lst (nums ws.length)) ∧ H' p = some (.lst (upTo ws.length (f r j) (wv ws) .non)) ∧
        ∃ v4 v5, σ = [some (.str (tx L)), some (.ref A0), some (.ref p), some (.int (r : Nat)), v4, v5]) ⟨y1, y2, y3, v4, v5, rfl⟩ (fun j σ H' hP => TupsStay.sqT (.of hP.1) x2) (fun j c y T' σ H' hc hy hP nT => ?_) (fun σ H' hP => ?_)
      · obtain ⟨j1, j2, j3, v4', v5', rfl⟩ := hP
        have hj : j < L.length := by
          have := (List.getElem?_eq_some_iff.mp hy).1
          rw [List.length_map, hrl] at this
          exact this
        obtain ⟨r', w', e, a, g1, g2, g3, g4, g5, g6⟩ := G.at_ r j hlt hj
        rw [hrr] at g1
        cases g1
        rw [List.getElem?_map, g5] at hy
        cases hy
        have hc' : L[j]? = some c := by simpa using hc
        rw [g4] at hc'
        cases hc'
        have hmn := G.le r (j + 1) hlt hj
        have s4 := same_new (o := .tup [.str ⟨#[c]⟩, .int (e : Nat)]) nT
        have hel : e < ws.length := by
          rcases g6 with ⟨c1, c2⟩ | ⟨c1, c2, _⟩ <;> omega
        have hlrj : r < f r j := by
          have h0 := G.open_ r hlt
          have mono : ∀ j', j' ≤ L.length → f r 0 ≤ f r j' := fun j' => by
            induction j' with
            | zero => exact fun _ => Nat.le_refl _
            | succ n ih =>
              intro hn
              have h1 := ih (by omega)
              obtain ⟨_, _, _, _, _, _, _, _, _, g⟩ := G.at_ r n hlt (by omega)
              rcases g with ⟨_, c2⟩ | ⟨_, c2, _⟩ <;> omega
          exact Nat.lt_of_lt_of_le h0 (mono j (Nat.le_of_lt hj))
        have k3 := s4 p _ j3
        refine ⟨T', _, rfl, SqT.of upd_same, rfl, _, _, rfl, _, _, rfl, rfl, ?_⟩
        refine ⟨_, rfl, _, rfl, p, _, e, _, rfl, rfl, SqL.of k3, atI_nat (upTo_get hel), rfl, _, rfl, ?_⟩
        rcases g6 with ⟨c1, c2⟩ | ⟨c1, c2, c3⟩
        · rw [show (if e < f r j then wv ws e else V.non) = wv ws e from if_pos c1, decide_eq_false (by intro z; cases z)]
          refine iteF ?_
          rw [c2]
          exact ⟨j1.trans s4, s4 _ _ j2, k3, _, _, rfl⟩
        · rw [show (if e < f r j then wv ws e else V.non) = V.non from if_neg (by omega), decide_eq_true rfl]
          refine iteT ?_
          have hl2 : f r j < ws.length := by omega
          have ew : ws.getD r [] = w' := by rw [List.getD_eq_getElem?_getD, g3] <;> rfl
          have ee : ws.getD e [] = w' ++ [c] := by rw [List.getD_eq_getElem?_getD, c3] <;> rfl
          have hsr := hsh w' (List.mem_of_getElem? g3)
          refine ⟨_, rfl, _, rfl, p, _, r, _, rfl, rfl, SqL.of k3, atI_nat (upTo_get hlt), ?_⟩
          rw [show (if r < f r j then wv ws r else V.non) = wv ws r from if_pos hlrj]
          refine ⟨_, rfl, _, _, rfl, rfl, by rw [ew, tx_len]; exact sizeLine_le (by show _ + 1 ≤ _; omega), ?_⟩
          refine ⟨_, rfl, _, rfl, p, _, _, e, rfl, rfl, k3, by rw [upTo_len]; unfold ixN; simp [hel], ?_⟩
          have es : (upTo ws.length (f r j) (wv ws) .non).set e (.str (tx (ws.getD r []) ++ ⟨#[c]⟩)) = upTo ws.length (f r j + 1) (wv ws) .non := by
            rw [← upTo_set (wv ws) .non hl2, ← c1]
            congr 1
            show V.str (tx (ws.getD r []) ++ tx [c]) = V.str (tx (ws.getD e []))
            rw [ew, ee, tx_app]
          rw [es, c2]
          refine ⟨fun b o ho => ?_, ?_, upd_same, _, _, rfl⟩
          · have n1 : b ≠ p := fun z => by rw [z, hp0] at ho; cases ho
            rw [upd_ne n1]
            exact (j1.trans s4) b o ho
          · rw [upd_ne npr]
            exact s4 _ _ j2
      · obtain ⟨j1, j2, j3, v4', v5', rfl⟩ := hP
        rw [List.length_map, hrl, G.next r hlt] at j3
        exact ⟨j1, j2, j3, _, _, _, rfl⟩
    · obtain ⟨y1, y2, y3, v3, v4, v5, rfl⟩ := hP
      rw [nums_len, G.last, wv_full] at y3
      exact ⟨_, rfl, q p H' y1 hp0 y3⟩
end
end K71
end
section
set_option Elab.async false
set_option linter.all false
set_option maxRecDepth 100000
set_option maxHeartbeats 2000000
/-! check_letters, check_sight -/
namespace K71
open PySem PySem.Spec SG NdefX LamX
open L2 hiding It
open PyProof.Rows hiding St
open Lv (Wd Srt IT)
/-- the error of the class C with the field f comes out -/
def Outs (C : Addr) (f : Str) (v : V) (H : Hp) (E : XK) : Prop := ∀ d H', Same H H' → H d = none → H' d = some (.xd [(f, v)]) → E (.ref C) (some d) H'
section
variable {P : Program} {w : World} {K : PySem.W.Frag} {mg : Str → Option Value} {base : Heap}
def alphs : List V := [.str "a", .str "ab", .str "abc"]
def spChkL (C : Addr) : Sp := fun vs H Q E => ∃ x : Str, vs = [.str x] ∧ (inV (.str x) alphs = true → ∀ H', Same H H' → Q (.str x) H') ∧ (inV (.str x) alphs = false → Outs C "given" (.str x) H E)
theorem ok_chkL {f aA C : Addr} {fd : FuncData} {k : Nat} {ok : V → Prop} (F : Fun K "check_letters" "check_letters" s_check_letters f fd) (hgl : mg "ALPHABETS" = some (.ref aA)) (hal : ∀ H, SqT K H aA alphs)
    (TE : ErrX P w K mg "BadLetters" "given" C ok) (hok : ∀ x : Str, ok (.str x)) : FnOk P w K mg base (L2N.CX P w) (k + 1) f fd ["letters"] (spChkL C) := by
  refine Fun.okN F sc_check_letters (fun vs H Q E h => ?_) (fun cdv A outer s H vs Q E hr h => ?_)
  · obtain ⟨x, rfl, _⟩ := h
    rfl
  · obtain ⟨x, rfl, h1, h2⟩ := h
    refine ⟨_, (pss_cons (ps_if (pt_cmpR op_notIn_seq (pv 0) (pe_glob (v := .ref aA) (by rfl) hgl rfl) (by rfl)) (pss_one (ps_raiseE rfl TE hr (L2N.takes_of rfl rfl rfl rfl) (pa_cons (pv 0) pa_nil) (by rfl))) pss_nil)
      (pss_one (ps_ret (pv 0)))), ?_⟩
    refine ⟨_, rfl, aA, alphs, rfl, .inr (hal H), rfl, rfl, _, rfl, ?_⟩
    cases e : inV (.str x) alphs with
    | true => exact ⟨_, rfl, h1 e H (Same.refl H)⟩
    | false =>
      refine iteT ?_
      exact ⟨_, rfl, _, rfl, hok x, fun d hd => h2 e d _ (same_new hd) hd upd_same⟩
def sorts5 : List V := [.str "rank", .str "since", .str "once", .str "yesterday", .str "pieces"]
def spChkS (CS CN : Addr) : Sp := fun vs H Q E => ∃ (x : Str) (l : Int), vs = [.str x, .int l] ∧ (inV (.str x) sorts5 = true → 0 ≤ l → l ≤ 7 → ∀ H', Same H H' → Q .non H') ∧ (inV (.str x) sorts5 = false → Outs CS "name" (.str x) H E) ∧
  (inV (.str x) sorts5 = true → ¬ (0 ≤ l ∧ l ≤ 7) → Outs CN "number" (.int l) H E)
theorem ok_chkS {f aA CS CN : Addr} {fd : FuncData} {k : Nat} {ok ok2 : V → Prop} {tm : Tok} (F : Fun K "check_sight" "check_sight" s_check_sight f fd) (hgl : mg "SORTS" = some (.ref aA)) (hal : ∀ H, SqT K H aA sorts5) (hhi : mg "HIGHEST" = some (.int 7 tm))
    (TS : ErrX P w K mg "BadSort" "name" CS ok) (hok : ∀ x : Str, ok (.str x)) (TN : ErrX P w K mg "BadNumber" "number" CN ok2) (hok2 : ∀ x : Int, ok2 (.int x)) : FnOk P w K mg base (L2N.CX P w) (k + 1) f fd ["sort", "level"] (spChkS CS CN) := by
  refine Fun.okN F sc_check_sight (fun vs H Q E h => ?_) (fun cdv A outer s H vs Q E hr h => ?_)
  · obtain ⟨x, l, rfl, _⟩ := h
    rfl
  · obtain ⟨x, l, rfl, h1, h2, h3⟩ := h
    refine ⟨_, (pss_cons (ps_if (pt_cmpR op_notIn_seq (pv 0) (pe_glob (v := .ref aA) (by rfl) hgl rfl) (by rfl)) (pss_one (ps_raiseE rfl TS hr (L2N.takes_of rfl rfl rfl rfl) (pa_cons (pv 0) pa_nil) (by rfl))) pss_nil)
      (pss_one (ps_if (pt_not (pt_chain op_le op_le pe_int (pv 1) (pe_glob (v := .int 7) (by rfl) hhi ⟨tm, rfl⟩))) (pss_one (ps_raiseE rfl TN hr (L2N.takes_of rfl rfl rfl rfl) (pa_cons (pv 1) pa_nil) (by rfl))) pss_nil))), ?_⟩
    refine ⟨_, rfl, aA, sorts5, rfl, .inr (hal H), rfl, rfl, _, rfl, ?_⟩
    cases e : inV (.str x) sorts5 with
    | true =>
      refine ⟨_, rfl, _, _, rfl, rfl, _, rfl, ?_⟩
      by_cases c0 : (0 : Int) ≤ l
      · rw [decide_eq_true c0]
        refine iteT ⟨_, _, rfl, rfl, _, rfl, ?_⟩
        by_cases c7 : l ≤ 7
        · rw [decide_eq_true c7]
          refine iteF ?_
          exact h1 e c0 c7 H (Same.refl H)
        · rw [decide_eq_false c7]
          refine iteT ?_
          exact ⟨_, rfl, _, rfl, hok2 l, fun d hd => h3 e (fun z => c7 z.2) d _ (same_new hd) hd upd_same⟩
      · rw [decide_eq_false c0]
        refine iteF ⟨_, rfl, ?_⟩
        refine iteT ?_
        exact ⟨_, rfl, _, rfl, hok2 l, fun d hd => h3 e (fun z => c0 z.1) d _ (same_new hd) hd upd_same⟩
    | false =>
      refine iteT ?_
      exact ⟨_, rfl, _, rfl, hok x, fun d hd => h2 e d _ (same_new hd) hd upd_same⟩
end
end K71
end
section
set_option Elab.async false
set_option linter.all false
set_option maxRecDepth 100000
set_option maxHeartbeats 2000000
/-! the tables of a sight grow; Kinds.__init__ -/
namespace K71
open PySem PySem.Spec SG NdefX LamX
open L2 hiding It
open PyProof.Rows hiding St
open Lv (Wd Srt IT)
theorem grow_zero {L : List Nat} : Bf.Grow L [[]] [List.replicate L.length 0] (fun _ _ => 1) := by
  refine ⟨rfl, rfl, by decide, rfl, fun _ _ => rfl, rfl, fun k hk => ?_, fun _ _ _ _ => by show 1 ≤ 1; decide, fun k r hr => ?_, fun k j hk hj => ?_⟩
  · have : k < 1 := hk
    show k < 1
    exact this
  · have hk : k < 1 := (List.getElem?_eq_some_iff.mp hr).1
    have : k = 0 := by omega
    subst this
    cases hr
    exact List.length_replicate
  · have h1 : k < 1 := hk
    have : k = 0 := by omega
    subst this
    refine ⟨_, _, 0, L[j], rfl, List.length_replicate, rfl, List.getElem?_eq_getElem hj, by rw [List.getElem?_replicate, if_pos hj], .inl ⟨by decide, rfl⟩⟩
theorem whole_short {R : Wd → Wd → Prop} (E : Lv.Eqv R) {L : List Nat} {n : Nat} (hn : n ≤ 1000) (h : (Bf.st R L n).1.length ≤ n) : ∀ u ∈ (Bf.st R L n).1, u.length ≤ 1000 := fun u hu => by
  have T := Bf.whole_of E h
  obtain ⟨i, hi, rfl⟩ := List.getElem_of_mem hu
  have := T.short i _ (List.getElem?_eq_getElem hi)
  omega
theorem grow_all {R : Wd → Wd → Prop} (E : Lv.Eqv R) {L : List Nat} {n : Nat} (hn : n ≤ 200) (h : (Bf.st R L n).1.length ≤ n) : ∃ f, Bf.Grow L (Bf.st R L n).1 (Bf.st R L n).2 f ∧ (Bf.st R L n).1.length ≤ 200 ∧ (∀ u ∈ (Bf.st R L n).1, u.length ≤ 1000) ∧ RowsOk (Bf.st R L n).2 L.length :=
  ⟨_, Bf.grow_of E h, Nat.le_trans h hn, whole_short E (by omega) h, (Bf.whole_of E h).ok⟩
theorem tab5_grow {q : Sort5} {L : List Nat} {l : Nat} (h : Fits5 q L l) : ∃ f, Bf.Grow L (tab5 q L l).1 (tab5 q L l).2 f ∧ (tab5 q L l).1.length ≤ 200 ∧ (∀ u ∈ (tab5 q L l).1, u.length ≤ 1000) ∧ RowsOk (tab5 q L l).2 L.length := by
  cases q with
  | fl y =>
    exact grow_all (rk_eqv (kdF y l)) (L := L) (Nat.le_refl 200) h
  | lv s =>
    cases l with
    | zero =>
      refine ⟨_, grow_zero, by show 1 ≤ 200; decide, fun u hu => ?_, (rowsL_ok (s := s) (L := L) (n := 0) fun i hi => absurd hi (Nat.not_lt_zero _)).1⟩
      rw [List.mem_singleton.mp hu]
      exact Nat.zero_le _
    | succ n =>
      have h : (stL s L n).1.length ≤ 200 := h n (Nat.lt_succ_self n)
      exact grow_all (rk_eqv (kdL s L (rowsL s L n))) (L := L) (Nat.le_refl 200) h
theorem alph_of {x : Str} (h : inV (.str x) alphs = true) : ∃ L, Alph L ∧ x = tx L := by
  have h1 : ((("a" : Str) == x) || ((("ab" : Str) == x) || ((("abc" : Str) == x) || false))) = true := h
  rcases (Bool.or_eq_true _ _).mp h1 with e | h1
  · exact ⟨[97], .inl rfl, (eq_of_beq e).symm.trans (by decide +kernel)⟩
  rcases (Bool.or_eq_true _ _).mp h1 with e | h1
  · exact ⟨[97, 98], .inr (.inl rfl), (eq_of_beq e).symm.trans (by decide +kernel)⟩
  rcases (Bool.or_eq_true _ _).mp h1 with e | h1
  · exact ⟨[97, 98, 99], .inr (.inr rfl), (eq_of_beq e).symm.trans (by decide +kernel)⟩
  · cases h1
theorem sort_of {x : Str} (h : inV (.str x) sorts5 = true) : ∃ q, x = nm5 q := by
  have h1 : ((("rank" : Str) == x) || ((("since" : Str) == x) || ((("once" : Str) == x) || ((("yesterday" : Str) == x) || ((("pieces" : Str) == x) || false))))) = true := h
  rcases (Bool.or_eq_true _ _).mp h1 with e | h1
  · exact ⟨.lv .rank, (eq_of_beq e).symm.trans rfl⟩
  rcases (Bool.or_eq_true _ _).mp h1 with e | h1
  · exact ⟨.lv .since, (eq_of_beq e).symm.trans rfl⟩
  rcases (Bool.or_eq_true _ _).mp h1 with e | h1
  · exact ⟨.lv .once, (eq_of_beq e).symm.trans rfl⟩
  rcases (Bool.or_eq_true _ _).mp h1 with e | h1
  · exact ⟨.fl true, (eq_of_beq e).symm.trans rfl⟩
  rcases (Bool.or_eq_true _ _).mp h1 with e | h1
  · exact ⟨.fl false, (eq_of_beq e).symm.trans rfl⟩
  · cases h1
end K71
end
section
set_option Elab.async false
set_option linter.all false
set_option maxRecDepth 100000
set_option maxHeartbeats 2000000
/-! Kinds.__init__ -/
namespace K71
open PySem PySem.Spec SG NdefX LamX
open L2 hiding It
open PyProof.Rows hiding St
open Lv (Wd Srt IT)
/-- what the class Kinds must have -/
structure KCls (K : PySem.W.Frag) (C : Addr) : Prop where
  c : Cls K C
  n1 : NoAttr K C "letters"
  n2 : NoAttr K C "name"
  n3 : NoAttr K C "level"
  n4 : NoAttr K C "words"
  n5 : NoAttr K C "steps"
  n6 : NoAttr K C "layers"
section
variable {K : PySem.W.Frag}
theorem call_tuple_ofK {X : Cx} (e : X.K = K) : CallR X (.type "tuple") (fun xs H Q => ∃ p ys, xs = [.ref p] ∧ ((SqL K H p ys ∧ ∀ l, H l = none → Q (.ref l) (upd H l (.tup ys))) ∨ (SqT K H p ys ∧ Q (.ref p) H))) := by subst e; exact call_tuple_of
/-- a table of kinds stands at x -/
structure KindsAt (K : PySem.W.Frag) (C : Addr) (H : Hp) (x : Addr) (q : Sort5) (L : List Nat) (l : Nat) : Prop where
  alph : Alph L
  fits : Fits5 q L l
  at_ : ∃ dx vw vst vly, H x = some (.ins C dx [("letters", .str (tx L)), ("name", .str (nm5 q)), ("level", .int (l : Nat)), ("words", vw), ("steps", vst), ("layers", vly)]) ∧
    Dp K H vw (.tuple ((tab5 q L l).1.map fun u => .str (tx u))) ∧ Dp K H vst (.tuple ((tab5 q L l).2.map rowD))
theorem Ext.put {TT : List NTab} {H H2 : Hp} {a C dx : Addr} {fs : List (Str × V)} {o : HO} (X : Ext TT H H2) (h0 : H a = none) (h2 : H2 a = some (.ins C dx fs)) : Ext TT H (upd H2 a o) := by
  refine ⟨fun b o e n => ?_, fun b e => ?_, fun p hp => ?_⟩
  · rw [upd_ne (fun z => by rw [z, h0] at e; cases e)]
    exact X.ext b o e n
  · by_cases c : b = a
    · rw [c]; exact h0
    · rw [upd_ne c] at e
      exact X.none_ b e
  · obtain ⟨ps, t1, t2, t3⟩ := X.tabs p hp
    refine ⟨ps, by rw [upd_ne (fun z => by rw [z, h2] at t1; cases t1)]; exact t1, t2, fun pos cv hc => ?_⟩
    obtain ⟨c, e1, e2⟩ := t3 pos cv hc
    refine ⟨c, e1, ?_⟩
    rw [upd_ne (fun z => by
      rw [z, h2] at e2
      unfold CodeO at e2
      cases e2)]
    exact e2
/-- what stands is no list, tuple: an instance may change -/
theorem stay_put {H : Hp} {a C dx : Addr} {fs gs : List (Str × V)} (h : H a = some (.ins C dx fs)) : TupsStay H (upd H a (.ins C dx gs)) := .upd (fun xs z => by rw [h] at z; cases z) fun o u z => by rw [h] at z; cases z
mutual
theorem dp_put {H : Hp} {a C dx : Addr} {fs gs : List (Str × V)} (h : H a = some (.ins C dx fs)) : ∀ (d : PyData) (v : V), Dp K H v d → Dp K (upd H a (.ins C dx gs)) v d
  | .none, _, e => by cases e; exact .non
  | .bool _, _, e => by cases e; exact .bl _
  | .int _, _, e => by cases e; exact .int _
  | .str _, _, e => by cases e; exact .str _
  | .list ds, _, e => by
    cases e with
    | lst hs ha => exact .lst (sqL_put h hs) (dpAll_put h ds _ ha)
  | .tuple ds, _, e => by
    cases e with
    | tup hs ha => exact .tup (TupsStay.sqT (stay_put h) hs) (dpAll_put h ds _ ha)
  | .dict _, _, e => by cases e
theorem dpAll_put {H : Hp} {a C dx : Addr} {fs gs : List (Str × V)} (h : H a = some (.ins C dx fs)) : ∀ (ds : List PyData) (vs : List V), DpAll K H vs ds → DpAll K (upd H a (.ins C dx gs)) vs ds
  | [], _, e => by cases e; exact .nil
  | d :: ds, _, e => by
    cases e with
    | cons h1 h2 => exact .cons (dp_put h d _ h1) (dpAll_put h ds _ h2)
theorem sqL_put {H : Hp} {a C dx b : Addr} {fs gs : List (Str × V)} {ys : List V} (h : H a = some (.ins C dx fs)) (s : SqL K H b ys) : SqL K (upd H a (.ins C dx gs)) b ys := by
  rcases s with (z | ⟨o, z⟩) | z
  · exact .inl (.inl (by rw [upd_ne (fun e => by rw [e, h] at z; cases z)]; exact z))
  · exact .inl (.inr ⟨o, by rw [upd_ne (fun e => by rw [e, h] at z; cases z)]; exact z⟩)
  · exact .inr z
end
end
end K71
end
section
set_option Elab.async false
set_option linter.all false
set_option maxRecDepth 100000
set_option maxHeartbeats 4000000
/-! Kinds.__init__ -/
namespace K71
open PySem PySem.Spec SG NdefX LamX
open L2 hiding It
open PyProof.Rows hiding St
open Lv (Wd Srt IT)
section
variable {P : Program} {w : World} {K : PySem.W.Frag} {mg : Str → Option Value} {base : Heap}
def spInit (K : PySem.W.Frag) (TT : List NTab) (CK CL CS CN CT : Addr) : Sp := fun vs H Q E => ∃ (x dx : Addr) (H0 : Hp) (a b : Str) (l : Int), vs = [.ref x, .str a, .str b, .int l] ∧ H x = some (.ins CK dx []) ∧ H0 x = none ∧ Ext TT H0 H ∧
  (inV (.str a) alphs = false → Outs CL "given" (.str a) H E) ∧
  (inV (.str a) alphs = true → inV (.str b) sorts5 = false → Outs CS "name" (.str b) H E) ∧
  (inV (.str a) alphs = true → inV (.str b) sorts5 = true → ¬ (0 ≤ l ∧ l ≤ 7) → Outs CN "number" (.int l) H E) ∧
  (∀ (L : List Nat) (q : Sort5) (n : Nat), a = tx L → b = nm5 q → l = (n : Nat) → Alph L → n ≤ 7 → (Fits5 q L n → ∀ H', Ext TT H0 H' → KindsAt K CK H' x q L n → Q .non H') ∧ (¬ Fits5 q L n → TooManyN TT CT H E))
theorem ok_init {f fl fs fk fw CK CL CS CN CT : Addr} {fd fdl fds fdk fdw : FuncData} {TT : List NTab} {k : Nat} (F : Fun K "__init__" "Kinds.__init__" s_Kinds__init f fd) (T : Blt mg) (KC : KCls K CK)
    (G_chkL : FnOk P w K mg base (L2N.CX P w) k fl fdl ["letters"] (spChkL CL)) (c_chkL : Df K mg "check_letters" fl fdl ["letters"])
    (G_chkS : FnOk P w K mg base (L2N.CX P w) k fs fds ["sort", "level"] (spChkS CS CN)) (c_chkS : Df K mg "check_sight" fs fds ["sort", "level"])
    (G_kinds : FnOk P w K mg base (L2N.CX P w) k fk fdk ["letters", "sort", "level"] (spKinds K TT CT)) (c_kinds : Df K mg "kind_layers" fk fdk ["letters", "sort", "level"])
    (G_first : FnOk P w K mg base CX0 k fw fdw ["letters", "steps"] (spFirst K)) (c_first : Df K mg "first_words" fw fdw ["letters", "steps"]) :
    FnOk P w K mg base (L2N.CX P w) (k + 1) f fd ["self", "letters", "sort", "level"] (spInit K TT CK CL CS CN CT) := by
  refine Fun.okN F sc_Kinds__init (fun vs H Q E h => ?_) (fun cdv A outer s H vs Q E hr h => ?_)
  · obtain ⟨x, dx, H0, a, b, l, rfl, _⟩ := h
    rfl
  · obtain ⟨x, dx, H0, a, b, l, rfl, hx, hx0, X0, hL, hS, hN, hq⟩ := h
    refine ⟨_, (pss_cons (ps_expr (pe_call G_chkL hr (by rfl) c_chkL.m c_chkL.k c_chkL.b .nil (L2N.passes_call (L2N.takes_of rfl rfl rfl rfl) fun _ _ _ _ h => h) (pa_cons (pv 1) pa_nil)))
      (pss_cons (ps_expr (pe_call G_chkS hr (by rfl) c_chkS.m c_chkS.k c_chkS.b .nil (L2N.passes_call (L2N.takes_of rfl rfl rfl rfl) fun _ _ _ _ h => h) (pa_cons (pv 2) (pa_cons (pv 3) pa_nil))))
      (pss_cons (ps_asg (pe_call G_kinds hr (by rfl) c_kinds.m c_kinds.k c_kinds.b .nil (L2N.passes_call (L2N.takes_of rfl rfl rfl rfl) fun _ _ _ _ h => h) (pa_cons (pv 1) (pa_cons (pv 2) (pa_cons (pv 3) pa_nil)))) (pg_tup (by rfl) (pgs_cons (pg_name (i := 4) sc_Kinds__init.nd rfl (Or.inl rfl)) (pgs_cons (pg_name (i := 5) sc_Kinds__init.nd rfl (Or.inl rfl)) pgs_nil))))
      (pss_cons (ps_fld (pv 0) (pv 1) rfl)
      (pss_cons (ps_fld (pv 0) (pv 2) rfl)
      (pss_cons (ps_fld (pv 0) (pv 3) rfl)
      (pss_cons (ps_fld (pv 0) (pe_callTy call_tuple_of (by rfl) T.tuple (by decide +kernel) (pa_cons (pe_call G_first hr (by rfl) c_first.m c_first.k c_first.b .nil pass0 (pa_cons (pv 1) (pa_cons (pv 5) pa_nil))) pa_nil)) rfl)
      (pss_cons (ps_fld (pv 0) (pe_callTy call_tuple_of (by rfl) T.tuple (by decide +kernel) (pa_cons (pv 5) pa_nil)) rfl)
      (pss_one (ps_fld (pv 0) (pe_callTy call_tuple_of (by rfl) T.tuple (by decide +kernel) (pa_cons (pe_lc (own := [("layer", 6)]) (g := gName 6) rfl sc_Kinds__init.nd (pi_list (pv 4)) (blkOk_by (own := [("layer", 6)]) (N := N_Kinds__init) (sc := defScope s_Kinds__init) (by decide +kernel)) (fun _ _ _ _ _ => (pg_name (i := 6) sc_Kinds__init.nd rfl (Or.inl rfl))) (fun _ _ _ _ _ => pts_nil) (fun _ _ _ _ _ => (pe_callTy (call_tuple_ofK (K := K) rfl) (by rfl) T.tuple (by decide +kernel) (pa_cons (pv 6) pa_nil)))) pa_nil)) rfl)))))))))), ?_⟩
    refine ⟨_, rfl, a, rfl, fun eL H1 s1 => ?_, fun eL => hL eL⟩
    refine ⟨_, rfl, _, rfl, b, l, rfl, fun eS l0 l7 H2 s2 => ?_, fun eS d H' s' hd hh => hS eL eS d H' (s1.trans s') (s1.free hd) hh, fun eS nl d H' s' hd hh => hN eL eS nl d H' (s1.trans s') (s1.free hd) hh⟩
    obtain ⟨L, hA, rfl⟩ := alph_of eL
    obtain ⟨q5, rfl⟩ := sort_of eS
    obtain ⟨n, rfl⟩ : ∃ n : Nat, l = n := ⟨l.toNat, by omega⟩
    have hn7 : n ≤ 7 := by omega
    obtain ⟨hfit, hbad⟩ := hq L q5 n rfl rfl rfl hA hn7
    have X2 : Ext TT H0 H2 := X0.same (s1.trans s2)
    refine ⟨_, rfl, _, rfl, _, rfl, q5, L, n, rfl, X2.tabs, hA, hn7, fun hF t v1 v2 H3 X3 ht hly hst => ?_, fun nF d H' X' hd hh => hbad nF d H' ((Ext.refl X0.tabs).same (s1.trans s2) |>.trans X') ((s1.trans s2).free hd) hh⟩
    -- what stands while the instance gets its fields
    have X3' : Ext TT H0 H3 := X2.trans X3
    have hx3 : H3 x = some (.ins CK dx []) := X3.ext x _ ((s1.trans s2) _ _ hx) (fun ps z => by cases z)
    have step : ∀ {Hi : Hp} {fs : List (Str × V)} (gs : List (Str × V)) {D : PyData}, Ext TT H0 Hi → Hi x = some (.ins CK dx fs) → Dp K Hi v2 D → LayersOk K Hi v1 →
        Ext TT H0 (upd Hi x (.ins CK dx gs)) ∧ (upd Hi x (.ins CK dx gs)) x = some (.ins CK dx gs) ∧ Dp K (upd Hi x (.ins CK dx gs)) v2 D ∧ LayersOk K (upd Hi x (.ins CK dx gs)) v1 := fun {Hi fs} gs {D} a1 a2 a3 a4 => by
      refine ⟨a1.put hx0 a2, upd_same, dp_put a2 _ _ a3, ?_⟩
      obtain ⟨al, ys, e, b1, b2, b3⟩ := a4
      refine ⟨al, ys, e, by rw [upd_ne (fun z => by rw [z, a2] at b1; cases b1)]; exact b1, b2, fun y hy => ?_⟩
      obtain ⟨b, xs, e1, e2⟩ := b3 y hy
      exact ⟨b, xs, e1, sqL_put a2 e2⟩
    refine ⟨t, _, rfl, ht, rfl, _, _, rfl, _, _, rfl, rfl, ?_⟩
    refine ⟨_, rfl, _, rfl, x, CK, dx, [], rfl, hx3, KC.c, KC.n1, by show 0 < 1000; decide, ?_⟩
    obtain ⟨y1, y2, y3, y4⟩ := step [("letters", .str (tx L))] X3' hx3 hst hly
    generalize hH4 : upd H3 x (.ins CK dx (putF "letters" (.str (tx L)) [])) = H4
    have eH4 : upd H3 x (.ins CK dx [("letters", .str (tx L))]) = H4 := hH4
    rw [eH4] at y1 y2 y3 y4
    refine ⟨_, rfl, _, rfl, x, CK, dx, _, rfl, y2, KC.c, KC.n2, by show 1 < 1000; decide, ?_⟩
    obtain ⟨z1, z2, z3, z4⟩ := step [("letters", .str (tx L)), ("name", .str (nm5 q5))] y1 y2 y3 y4
    generalize hH5 : upd H4 x (.ins CK dx (putF "name" (.str (nm5 q5)) [("letters", .str (tx L))])) = H5
    have eH5 : upd H4 x (.ins CK dx [("letters", .str (tx L)), ("name", .str (nm5 q5))]) = H5 := hH5
    rw [eH5] at z1 z2 z3 z4
    refine ⟨_, rfl, _, rfl, x, CK, dx, _, rfl, z2, KC.c, KC.n3, by show 2 < 1000; decide, ?_⟩
    obtain ⟨p1, p2, p3, p4⟩ := step [("letters", .str (tx L)), ("name", .str (nm5 q5)), ("level", .int (n : Nat))] z1 z2 z3 z4
    generalize hH6 : upd H5 x (.ins CK dx (putF "level" (.int (n : Nat)) [("letters", .str (tx L)), ("name", .str (nm5 q5))])) = H6
    have eH6 : upd H5 x (.ins CK dx [("letters", .str (tx L)), ("name", .str (nm5 q5)), ("level", .int (n : Nat))]) = H6 := hH6
    rw [eH6] at p1 p2 p3 p4
    -- words
    obtain ⟨fg, G, hl200, hsh, hro⟩ := tab5_grow hF
    refine ⟨_, rfl, _, rfl, L, _, _, fg, v2, rfl, p3, G, hl200, hsh, fun pw H7 s7 npw h7 => ?_⟩
    refine ⟨pw, _, rfl, .inl ⟨SqL.of h7, fun tw ntw => ?_⟩⟩
    have s8 := s7.trans (same_new (o := .tup ((tab5 q5 L n).1.map fun u => V.str (tx u))) ntw)
    have hw8 : Dp K (upd H7 tw (.tup ((tab5 q5 L n).1.map fun u => V.str (tx u)))) (.ref tw) (.tuple ((tab5 q5 L n).1.map fun u => .str (tx u))) := by
      refine .tup (.of upd_same) ?_
      have := dp_strs (K := K) (H := upd H7 tw (.tup ((tab5 q5 L n).1.map fun u => V.str (tx u)))) ((tab5 q5 L n).1.map tx)
      rw [List.map_map, List.map_map] at this
      exact this
    generalize upd H7 tw (.tup ((tab5 q5 L n).1.map fun u => V.str (tx u))) = H8 at s8 hw8 ⊢
    have q2 : H8 x = _ := s8 _ _ p2
    refine ⟨_, rfl, x, CK, dx, _, rfl, q2, KC.c, KC.n4, by show 3 < 1000; decide, ?_⟩
    obtain ⟨r1, r2, r3, r4⟩ := step [("letters", .str (tx L)), ("name", .str (nm5 q5)), ("level", .int (n : Nat)), ("words", .ref tw)] (p1.same s8) q2 (Dp.same s8 _ _ p3) (p4.extN (.of s8))
    have rw9 := dp_put (gs := [("letters", .str (tx L)), ("name", .str (nm5 q5)), ("level", .int (n : Nat)), ("words", .ref tw)]) q2 _ _ hw8
    generalize hH9 : upd H8 x (.ins CK dx (putF "words" (.ref tw) [("letters", .str (tx L)), ("name", .str (nm5 q5)), ("level", .int (n : Nat))])) = H9
    have eH9 : upd H8 x (.ins CK dx [("letters", .str (tx L)), ("name", .str (nm5 q5)), ("level", .int (n : Nat)), ("words", .ref tw)]) = H9 := hH9
    rw [eH9] at r1 r2 r3 r4 rw9
    -- steps
    obtain ⟨A0, xs, rfl, a1, a2⟩ := Dp.lstOf r3
    refine ⟨_, rfl, A0, xs, rfl, .inl ⟨a1, fun ts nts => ?_⟩⟩
    have s10 := same_new (o := .tup xs) nts
    have hs10 : Dp K (upd H9 ts (.tup xs)) (.ref ts) (.tuple ((tab5 q5 L n).2.map rowD)) := .tup (.of upd_same) (DpAll.same s10 _ _ a2)
    generalize upd H9 ts (.tup xs) = H10 at s10 hs10 ⊢
    refine ⟨_, rfl, x, CK, dx, _, rfl, s10 _ _ r2, KC.c, KC.n5, by show 4 < 1000; decide, ?_⟩
    obtain ⟨u1, u2, u3, u4⟩ := step [("letters", .str (tx L)), ("name", .str (nm5 q5)), ("level", .int (n : Nat)), ("words", .ref tw), ("steps", .ref ts)] (r1.same s10) (s10 _ _ r2) (Dp.same s10 _ _ (.lst a1 a2)) (r4.extN (.of s10))
    have us11 := dp_put (gs := [("letters", .str (tx L)), ("name", .str (nm5 q5)), ("level", .int (n : Nat)), ("words", .ref tw), ("steps", .ref ts)]) (s10 _ _ r2) _ _ hs10
    have uw11 := dp_put (gs := [("letters", .str (tx L)), ("name", .str (nm5 q5)), ("level", .int (n : Nat)), ("words", .ref tw), ("steps", .ref ts)]) (s10 _ _ r2) _ _ (Dp.same s10 _ _ rw9)
    generalize hH11 : upd H10 x (.ins CK dx (putF "steps" (.ref ts) [("letters", .str (tx L)), ("name", .str (nm5 q5)), ("level", .int (n : Nat)), ("words", .ref tw)])) = H11
    have eH11 : upd H10 x (.ins CK dx [("letters", .str (tx L)), ("name", .str (nm5 q5)), ("level", .int (n : Nat)), ("words", .ref tw), ("steps", .ref ts)]) = H11 := hH11
    rw [eH11] at u1 u2 u4 us11 uw11
    -- layers
    obtain ⟨al, ys, rfl, b1, b2, b3⟩ := u4
    refine ⟨_, rfl, al, rfl, ⟨_, SqL.of b1⟩, fun D hD => ?_⟩
    have s12 : Same H11 (upd H11 D (.lst [])) := same_new hD
    refine lc_list (K := K) (a := al) (xs := ys) (fun i H' => Same H11 H' ∧ ∃ zs : List V, H' D = some (.lst zs) ∧ zs.length = i) ⟨s12, [], upd_same, rfl⟩ (fun i H' _ hP => SqL.of (hP.1 _ _ b1)) (fun i y H' hy hP => ?_) (fun H' hP => ?_)
    · obtain ⟨sm, zs, hz, hzl⟩ := hP
      obtain ⟨b, xs', rfl, e2⟩ := b3 y (List.mem_of_getElem? hy)
      have hi : i < ys.length := (List.getElem?_eq_some_iff.mp hy).1
      refine ⟨rfl, ?_⟩
      refine ⟨_, rfl, b, xs', rfl, .inl ⟨sm.seq e2, fun l nl => ?_⟩⟩
      have s13 := same_new (o := .tup xs') nl
      refine ⟨zs, s13 _ _ hz, by rw [hzl, sizeLine_eq]; omega, fun c o e => ?_, zs ++ [.ref l], upd_same, by rw [List.length_append, hzl] <;> rfl⟩
      have nc : c ≠ D := fun z => by rw [z, hD] at e; cases e
      rw [upd_ne nc]
      exact (sm.trans s13) c o e
    · obtain ⟨sm, zs, hz, _⟩ := hP
      refine ⟨D, zs, rfl, .inl ⟨SqL.of hz, fun ty nty => ?_⟩⟩
      have s14 := sm.trans (same_new (o := .tup zs) nty)
      generalize upd H' ty (.tup zs) = H14 at s14 ⊢
      refine ⟨_, rfl, x, CK, dx, _, rfl, s14 _ _ u2, KC.c, KC.n6, by show 5 < 1000; decide, ?_⟩
      refine hfit hF _ ((u1.same s14).put hx0 (s14 _ _ u2)) ⟨hA, hF, dx, .ref tw, .ref ts, .ref ty, upd_same, dp_put (s14 _ _ u2) _ _ (Dp.same s14 _ _ uw11), dp_put (s14 _ _ u2) _ _ (Dp.same s14 _ _ us11)⟩
end
end K71
end
section
set_option Elab.async false
set_option linter.all false
set_option maxRecDepth 100000
set_option maxHeartbeats 1000000
/-! len(o), o of an own class with __len__ -/
namespace L2
open PySem PySem.Spec PyProof.Rows
section
variable {X : Cx} {k : Nat} {C f : Addr} {fd : FuncData} {ps : List Str} {sp : Sp}
def rLenO (C : Addr) (sp : Sp) : List V → Hp → VK → Prop := fun xs H Q => ∃ (a dx : Addr) (fs : List (Str × V)), xs = [.ref a] ∧ H a = some (.ins C dx fs) ∧ sp [.ref a] H (fun v H' => ∃ n : Nat, v = .int (n : Nat) ∧ n < 2 ^ 62 ∧ Q (.int (n : Nat)) H') E0
theorem call_lenO (hm : PySem.W.findIn X.K (.ref C) "__len__" = some (some (.ref f))) (hf : PySem.W.isFn X.K (.ref f) = true) (F : FnOk X.prog X.w X.K X.mg X.base CX0 k f fd ps sp) (hr : Room (k + 1) X.A) (hb : Binds X.K fd ps []) : CallR X (.builtin "len") (rLenO C sp) := by
  intro pins s σ H xs us Q I r h
  obtain ⟨a, dx, fs, rfl, ha, hsp⟩ := h
  obtain ⟨u, rfl, ru⟩ := vals1 r
  obtain rfl : u = Value.ref a := ru
  obtain ⟨mA, J, _⟩ := ins_get I.hok ha
  obtain ⟨od, J, _⟩ := J.look
  refine Calls.call_function_entry kind_len plain_len entry_len (args_len1 _) ?_
  unfold Builtin.«len»
  refine wpAny_bind (m := oneArg "len" _) (wpAny_pure ?_)
  have sb : Sub X k X.A.in1 := ⟨hr.in1, rfl⟩
  have e0 : Env0 X.prog X.w X.K X.mg X.base X.A.in1 X.stack s H := by
    have e := I.env0
    exact ⟨by rw [sb.fr]; exact e.frames, e.mod, e.bs, e.bsz, e.funs, e.frf, e.hok, e.bare⟩
  have hl := F.len _ _ _ _ hsp
  have r2 : Vals [V.ref a] [Value.ref a] := .cons rfl .nil
  refine wpAny_bind (m := callSpecial? (.ref a) (PySem.Str.ofString "__len__")) (PySem.W.special_fn (name := "__len__") (args := []) I.kIn J hm (beq_iff_eq.mp hf) ?_)
  refine wpAny_call (codeAny_mono (F.run X.A.in1 X.stack s H ⟨[.ref a], []⟩ [.ref a] [.ref a] _ E0 sb.room e0 (by
    have := hb s [.ref a] I.kIn (by simpa using hl)
    simpa using this) r2 hsp) fun r s' hq => ?_)
  cases r with
  | error e => exact absurd hq (fun z => z)
  | ok fl =>
    cases fl with
    | ret v =>
      obtain ⟨z, H', I', rz, n, rfl, hn, q⟩ := I.after hq
      obtain ⟨t, rfl⟩ := rz
      show wpAny _ _ _ _ _ _
      refine wpAny_bind (wpAny_holding (wpAny_pure ?_))
      refine wpAny_bind (wpAny_letGo ?_)
      show wpAny _ _ (if ((n : Nat) : Int) < 0 then _ else _) _ _ _
      rw [if_neg (by omega)]
      show wpAny _ _ (if ((n : Nat) : Int) ≥ 2 ^ 63 then _ else _) _ _ _
      rw [if_neg (by omega)]
      exact wpAny_bind (wpAny_mkInt (wpAny_pure ⟨_, rfl, .int n, H', I'.tok _, ⟨_, rfl⟩, q⟩))
    | next => exact False.elim hq
    | brk => exact False.elim hq
    | cont => exact False.elim hq
end
end L2
end
section
set_option Elab.async false
set_option linter.all false
set_option maxRecDepth 100000
set_option maxHeartbeats 4000000
/-! Kinds.__len__, kind_of, product -/
namespace K71
open PySem PySem.Spec SG NdefX LamX
open L2 hiding It
open PyProof.Rows hiding St
open Lv (Wd Srt IT)
section
variable {P : Program} {w : World} {K : PySem.W.Frag} {mg : Str → Option Value} {base : Heap}
def spLenM (K : PySem.W.Frag) (C : Addr) : Sp := fun vs H Q _ => ∃ (x : Addr) (q : Sort5) (L : List Nat) (l : Nat), vs = [.ref x] ∧ KindsAt K C H x q L l ∧ Q (.int ((tab5 q L l).1.length : Nat)) H
theorem ok_lenM {f C : Addr} {fd : FuncData} {k : Nat} (F : Fun K "__len__" "Kinds.__len__" s_Kinds__len f fd) (T : Blt mg) (KC : KCls K C) : FnOk P w K mg base CX0 (k + 1) f fd ["self"] (spLenM K C) := by
  refine F.ok sc_Kinds__len (fun vs H Q E h => ?_) (fun cdv A outer s H vs Q E hr h => ?_)
  · obtain ⟨x, q, L, l, rfl, _⟩ := h
    rfl
  · obtain ⟨x, q5, L, l, rfl, ⟨hA, hF, dx, vw, vst, vly, hx, hw, hs⟩, q⟩ := h
    refine ⟨_, (pss_one (ps_ret (pe_callB call_len_seq (by rfl) T.len PySem.boot_len (pa_cons (pe_fld (pv 0) rfl) pa_nil)))), ?_⟩
    obtain ⟨aw, xs, rfl, w1, w2⟩ := Dp.tupOf hw
    refine ⟨_, rfl, x, C, dx, _, .ref aw, rfl, hx, KC.c, KC.n4, rfl, aw, xs, rfl, .inr w1, ?_⟩
    rw [w2.len, List.length_map]
    exact q
def spKindOf (K : PySem.W.Frag) (C CB : Addr) : Sp := fun vs H Q E => ∃ (x : Addr) (q : Sort5) (L : List Nat) (l : Nat) (u : List Nat), vs = [.ref x, .str (tx u)] ∧ KindsAt K C H x q L l ∧ u.length ≤ 100000 ∧
  ((∀ c ∈ u, c ∈ L) → Q (.int (walkN L (tab5 q L l).2 0 u : Nat)) H) ∧ ((¬ ∀ c ∈ u, c ∈ L) → Outs CB "word" (.str (tx u)) H E)
theorem tab5_pos {q : Sort5} {L : List Nat} {l : Nat} (h : Fits5 q L l) : RowsOk (tab5 q L l).2 L.length ∧ 0 < (tab5 q L l).2.length ∧ (tab5 q L l).2.length = (tab5 q L l).1.length := by
  obtain ⟨f, G, _, _, ok⟩ := tab5_grow h
  exact ⟨ok, by rw [G.len]; exact G.pos, G.len⟩
theorem tab5_over (q : Sort5) (L : List Nat) (l : Nat) : ∀ u ∈ (tab5 q L l).1, ∀ c ∈ u, c ∈ L := by
  cases q with
  | fl y => exact (Bf.st_inv (rk_eqv (kdF y l)) L 200).over
  | lv s =>
    cases l with
    | zero =>
      intro u hu c hc
      rw [List.mem_singleton.mp hu] at hc
      cases hc
    | succ n => exact (Bf.st_inv (rk_eqv (kdL s L (rowsL s L n))) L 200).over
theorem ok_kindOf {f C CB fi fw : Addr} {fd fdi fdw : FuncData} {k : Nat} {ok : V → Prop} (F : Fun K "kind_of" "Kinds.kind_of" s_Kinds_kind_of f fd) (T : Blt mg) (KC : KCls K C)
    (TB : ErrX P w K mg "BadWord" "word" CB ok) (hok : ∀ x : Str, ok (.str x))
    (G_isw : FnOk P w K mg base CX0 k fi fdi ["letters", "word"] spIsWord) (c_isw : Df K mg "is_word" fi fdi ["letters", "word"])
    (G_walk : FnOk P w K mg base CX0 k fw fdw ["letters", "steps", "state", "word"] (spWalk K)) (c_walk : Df K mg "walk" fw fdw ["letters", "steps", "state", "word"]) :
    FnOk P w K mg base (L2N.CX P w) (k + 1) f fd ["self", "word"] (spKindOf K C CB) := by
  refine Fun.okN F sc_Kinds_kind_of (fun vs H Q E h => ?_) (fun cdv A outer s H vs Q E hr h => ?_)
  · obtain ⟨x, q, L, l, u, rfl, _⟩ := h
    rfl
  · obtain ⟨x, q5, L, l, u, rfl, ⟨hA, hF, dx, vw, vst, vly, hx, hw, hs⟩, hu, q1, q2⟩ := h
    refine ⟨_, (pss_cons (ps_if (pt_not (pt_val (pe_call G_isw hr (by rfl) c_isw.m c_isw.k c_isw.b .nil pass0 (pa_cons (pe_fld (pv 0) rfl) (pa_cons (pv 1) pa_nil))))) (pss_one (ps_raiseE rfl TB hr (L2N.takes_of rfl rfl rfl rfl) (pa_cons (pv 1) pa_nil) (by rfl))) pss_nil)
      (pss_one (ps_ret (pe_call G_walk hr (by rfl) c_walk.m c_walk.k c_walk.b .nil pass0 (pa_cons (pe_fld (pv 0) rfl) (pa_cons (pe_fld (pv 0) rfl) (pa_cons pe_int (pa_cons (pv 1) pa_nil)))))))), ?_⟩
    refine ⟨_, rfl, x, C, dx, _, .str (tx L), rfl, hx, KC.c, KC.n1, rfl, _, rfl, L, u, rfl, hu, _, rfl, ?_⟩
    by_cases c : ∀ c ∈ u, c ∈ L
    · rw [decide_eq_true c]
      refine iteF ?_
      obtain ⟨p1, p2, p3⟩ := tab5_pos hF
      exact ⟨_, rfl, x, C, dx, _, .str (tx L), rfl, hx, KC.c, KC.n1, rfl, _, rfl, x, C, dx, _, vst, rfl, hx, KC.c, KC.n5, rfl, _, rfl, L, u, vst, _, 0, rfl, hA, hs, p1, p2, c, q1 c⟩
    · rw [decide_eq_false c]
      refine iteT ?_
      exact ⟨_, rfl, _, rfl, hok _, fun d hd => q2 c d _ (same_new hd) hd upd_same⟩
def spProd (K : PySem.W.Frag) (C CN : Addr) : Sp := fun vs H Q E => ∃ (x : Addr) (q : Sort5) (L : List Nat) (l : Nat) (i j : Int), vs = [.ref x, .int i, .int j] ∧ KindsAt K C H x q L l ∧
  (∀ (a b : Nat) (u : List Nat), i = a → j = b → a < (tab5 q L l).1.length → (tab5 q L l).1[b]? = some u → ∀ H', Same H H' → Q (.int (walkN L (tab5 q L l).2 a u : Nat)) H') ∧
  (¬ (0 ≤ i ∧ i < (tab5 q L l).1.length) → Outs CN "number" (.int i) H E) ∧
  (0 ≤ i ∧ i < (tab5 q L l).1.length → ¬ (0 ≤ j ∧ j < (tab5 q L l).1.length) → Outs CN "number" (.int j) H E)
theorem ok_prod {f C CN fw : Addr} {fd fdw : FuncData} {k : Nat} {ok : V → Prop} (F : Fun K "product" "Kinds.product" s_Kinds_product f fd) (T : Blt mg) (KC : KCls K C)
    (TN : ErrX P w K mg "NoElement" "number" CN ok) (hok : ∀ x : Int, ok (.int x))
    (G_walk : FnOk P w K mg base CX0 k fw fdw ["letters", "steps", "state", "word"] (spWalk K)) (c_walk : Df K mg "walk" fw fdw ["letters", "steps", "state", "word"]) :
    FnOk P w K mg base (L2N.CX P w) (k + 1) f fd ["self", "i", "j"] (spProd K C CN) := by
  refine Fun.okN F sc_Kinds_product (fun vs H Q E h => ?_) (fun cdv A outer s H vs Q E hr h => ?_)
  · obtain ⟨x, q, L, l, i, j, rfl, _⟩ := h
    rfl
  · obtain ⟨x, q5, L, l, i, j, rfl, ⟨hA, hF, dx, vw, vst, vly, hx, hw, hs⟩, q1, q2, q3⟩ := h
    refine ⟨_, (pss_cons (ps_for (passes_of rfl) rfl (pi_tup (pe_tup (pa_cons (pv 1) (pa_cons (pv 2) pa_nil)))) (pg_name (i := 3) sc_Kinds_product.nd rfl (Or.inl rfl))
        (pss_one (ps_if (pt_not (pt_chain op_le op_lt pe_int (pv 3) (pe_callB call_len_seq (by rfl) T.len PySem.boot_len (pa_cons (pe_fld (pv 0) rfl) pa_nil)))) (pss_one (ps_raiseE rfl TN hr (L2N.takes_of rfl rfl rfl rfl) (pa_cons (pv 3) pa_nil) (by rfl))) pss_nil)))
      (pss_one (ps_ret (pe_call G_walk hr (by rfl) c_walk.m c_walk.k c_walk.b .nil pass0 (pa_cons (pe_fld (pv 0) rfl) (pa_cons (pe_fld (pv 0) rfl) (pa_cons (pv 1) (pa_cons (pe_ix ix_tup (pe_fld (pv 0) rfl) (pv 2) (fun _ _ => rfl)) pa_nil)))))))), ?_⟩
    obtain ⟨p1, p2, p3⟩ := tab5_pos hF
    obtain ⟨aw, xs, rfl, w1, w2⟩ := Dp.tupOf hw
    have lw : xs.length = (tab5 q5 L l).1.length := by rw [w2.len, List.length_map]
    refine ⟨_, rfl, _, rfl, sizeLine_le (by show 2 ≤ _; decide), fun tp ntp => ?_⟩
    have s1 := same_new (o := .tup [.int i, .int j]) ntp
    refine ⟨tp, rfl, ⟨_, SqT.of upd_same⟩, for_tup (xs := [.int i, .int j]) (fun n σ H' => H' = upd H tp (.tup [.int i, .int j]) ∧ (1 ≤ n → 0 ≤ i ∧ i < (tab5 q5 L l).1.length) ∧ (2 ≤ n → 0 ≤ j ∧ j < (tab5 q5 L l).1.length) ∧ ∃ v3, σ = [some (.ref x), some (.int i), some (.int j), v3])
      ⟨rfl, fun z => absurd z (by decide), fun z => absurd z (by decide), none, rfl⟩ (fun n σ H' _ hP => by rw [hP.1]; exact SqT.of upd_same) (fun n v σ H' hv hP => ?_) (fun σ H' hP => ?_)⟩
    · obtain ⟨rfl, b1, b2, v3, rfl⟩ := hP
      have hx' := s1 _ _ hx
      have key : ∃ z : Int, v = .int z ∧ ((0 ≤ z ∧ z < (tab5 q5 L l).1.length) → (1 ≤ n + 1 → 0 ≤ i ∧ i < (tab5 q5 L l).1.length) ∧ (2 ≤ n + 1 → 0 ≤ j ∧ j < (tab5 q5 L l).1.length)) ∧ (¬ (0 ≤ z ∧ z < (tab5 q5 L l).1.length) → Outs CN "number" (.int z) H E) := by
        match n, hv, b1 with
        | 0, hv, _ =>
          cases hv
          exact ⟨i, rfl, fun g => ⟨fun _ => g, fun z => absurd z (by omega)⟩, q2⟩
        | 1, hv, b1 =>
          cases hv
          exact ⟨j, rfl, fun g => ⟨fun _ => b1 (Nat.le_refl _), fun _ => g⟩, q3 (b1 (Nat.le_refl _))⟩
        | n + 2, hv, _ =>
          rw [List.getElem?_eq_none (by show 2 ≤ n + 2; omega)] at hv
          cases hv
      obtain ⟨z, rfl, h1, h2⟩ := key
      refine ⟨_, rfl, _, _, rfl, rfl, _, rfl, ?_⟩
      by_cases c0 : (0 : Int) ≤ z
      · rw [decide_eq_true c0]
        refine iteT ⟨_, rfl, x, C, dx, _, .ref aw, rfl, hx', KC.c, KC.n4, rfl, aw, xs, rfl, .inr (TupsStay.sqT (.of s1) w1), _, _, rfl, rfl, _, rfl, ?_⟩
        rw [lw]
        by_cases c7 : z < ((tab5 q5 L l).1.length : Nat)
        · rw [decide_eq_true c7]
          refine iteF ?_
          exact ⟨rfl, (h1 ⟨c0, c7⟩).1, (h1 ⟨c0, c7⟩).2, _, rfl⟩
        · rw [decide_eq_false c7]
          refine iteT ?_
          exact ⟨_, rfl, _, rfl, hok z, fun d hd => h2 (fun g => c7 g.2) d _ (s1.trans (same_new hd)) (s1.free hd) upd_same⟩
      · rw [decide_eq_false c0]
        refine iteF ⟨_, rfl, ?_⟩
        refine iteT ?_
        exact ⟨_, rfl, _, rfl, hok z, fun d hd => h2 (fun g => c0 g.1) d _ (s1.trans (same_new hd)) (s1.free hd) upd_same⟩
    · obtain ⟨rfl, b1, b2, v3, rfl⟩ := hP
      have hi := b1 (show 1 ≤ 2 by decide)
      have hj := b2 (show 2 ≤ 2 by decide)
      obtain ⟨a, rfl⟩ : ∃ a : Nat, i = a := ⟨i.toNat, by omega⟩
      obtain ⟨b, rfl⟩ : ∃ b : Nat, j = b := ⟨j.toNat, by omega⟩
      have hx' := s1 _ _ hx
      obtain ⟨u, hu⟩ : ∃ u, (tab5 q5 L l).1[b]? = some u := ⟨_, List.getElem?_eq_getElem (by omega)⟩
      obtain ⟨y, hy, dy⟩ := w2.get (i := b) (d := .str (tx u)) (by rw [List.getElem?_map, hu] <;> rfl)
      cases dy.strOf
      have hover : ∀ c ∈ u, c ∈ L := tab5_over q5 L l u (List.mem_of_getElem? hu)
      exact ⟨_, rfl, x, C, dx, _, .str (tx L), rfl, hx', KC.c, KC.n1, rfl, _, rfl, x, C, dx, _, vst, rfl, hx', KC.c, KC.n5, rfl, _, rfl, _, rfl, x, C, dx, _, .ref aw, rfl, hx', KC.c, KC.n4, rfl, _, rfl, aw, xs, b, _, rfl, rfl, TupsStay.sqT (.of s1) w1, atI_nat hy, L, u, vst, _, a, rfl, hA, Dp.same s1 _ _ hs, p1, by omega, hover, q1 a b u rfl rfl (by omega) hu _ s1⟩
end
end K71
end
section
set_option Elab.async false
set_option linter.all false
set_option maxRecDepth 100000
set_option maxHeartbeats 2000000
/-! the pool of digits -/
namespace K71
open PySem PySem.Spec SG NdefX LamX
open L2 hiding It
open PyProof.Rows hiding St
open Lv (Wd Srt IT)
theorem fmod_nat {a n : Int} (h : 0 < n) : 0 ≤ a.fmod n ∧ a.fmod n < n := by
  rw [Int.fmod_eq_emod_of_nonneg _ (Int.le_of_lt h)]
  exact ⟨Int.emod_nonneg _ (by omega), Int.emod_lt_of_pos _ h⟩
theorem shaped_ints (ns : List Int) : SeqAt.shaped (.list (ns.map PyData.int)) = true := by
  have h1 : ∀ l : List Int, PyData.canLayAll0 (l.map PyData.int) = true := fun l => by
    induction l with
    | nil => rfl
    | cons a l ih =>
      show (PyData.canLay0 (.int a) && PyData.canLayAll0 (l.map PyData.int)) = true
      rw [ih] <;> rfl
  have h2 : ∀ l : List Int, PyData.depthAll (l.map PyData.int) = 0 := fun l => by
    induction l with
    | nil => rfl
    | cons a l ih =>
      show max (PyData.depth (.int a)) (PyData.depthAll (l.map PyData.int)) = 0
      rw [ih] <;> rfl
  show (PyData.canLay0 (.list (ns.map PyData.int)) && decide ((PyData.list (ns.map PyData.int)).depth ≤ 64)) = true
  have e1 : PyData.canLay0 (.list (ns.map PyData.int)) = true := h1 ns
  have e2 : (PyData.list (ns.map PyData.int)).depth ≤ 64 := by
    show (PyData.depthAll (ns.map PyData.int)) + 1 ≤ 64
    rw [h2]
    decide
  rw [e1, decide_eq_true e2] <;> rfl
section
variable {P : Program} {w : World} {K : PySem.W.Frag} {mg : Str → Option Value} {base : Heap}
def spMixed (K : PySem.W.Frag) : Sp := fun vs H Q _ => ∃ (b : Addr) (ss : List Int) (at_ : Nat), vs = [.ref b, .int (at_ : Nat)] ∧ SqL K H b (ss.map V.int) ∧ (∀ z ∈ ss, 0 ≤ z ∧ z < 2147483647) ∧ at_ ≤ 1000000 ∧
  ∀ (r : Int) H', 0 ≤ r → r < 998244353 → Same H H' → Q (.int r) H'
theorem ok_mixed {f : Addr} {fd : FuncData} {k : Nat} (F : Fun K "_law_mixed" "_law_mixed" s_law_mixed f fd) (T : Blt mg) : FnOk P w K mg base CX0 (k + 1) f fd ["small", "at"] (spMixed K) := by
  refine F.ok sc_law_mixed (fun vs H Q E h => ?_) (fun cdv A outer s H vs Q E hr h => ?_)
  · obtain ⟨b, ss, at_, rfl, _⟩ := h
    rfl
  · obtain ⟨b, ss, at_, rfl, hb, hss, hat, q⟩ := h
    refine ⟨_, (pss_cons (ps_set (i := 2) sc_law_mixed.nd rfl (Or.inl rfl) pe_int)
      (pss_cons (ps_if (pt_cmpR (op_neD hr.units) (pv 0) (pe_lst pa_nil) (nomark _)) (pss_one (ps_set (i := 2) sc_law_mixed.nd rfl (Or.inl rfl) (pe_ix ix_list (pv 0) (pe_op op_modN (pe_callTy call_int1 (by rfl) T.int (by decide +kernel) (pa_cons (pv 1) pa_nil)) (pe_callB call_len_seq (by rfl) T.len PySem.boot_len (pa_cons (pv 0) pa_nil))) (fun _ _ => rfl)))) pss_nil)
      (pss_cons (ps_set (i := 3) sc_law_mixed.nd rfl (Or.inl rfl) (pe_op op_modN (pe_callTy call_int1 (by rfl) T.int (by decide +kernel) (pa_cons (pe_op op_add (pe_op op_add (pe_op op_mulW (pv 2) pe_int) (pe_op op_mulW (pv 1) pe_int)) pe_int) pa_nil)) pe_int))
      (pss_cons (ps_set (i := 4) sc_law_mixed.nd rfl (Or.inl rfl) (pe_op op_modN (pe_callTy call_int1 (by rfl) T.int (by decide +kernel) (pa_cons (pe_op op_add (pe_op op_mulW (pv 3) (pv 3)) (pv 1)) pa_nil)) pe_int))
      (pss_one (ps_ret (pe_op op_modN (pe_callTy call_int1 (by rfl) T.int (by decide +kernel) (pa_cons (pe_op op_add (pe_op op_mulW (pv 4) (pv 4)) (pv 3)) pa_nil)) pe_int))))))), ?_⟩
    refine ⟨_, rfl, sizeLine_le (by show 0 ≤ _; decide), fun p np => ?_⟩
    have s1 := same_new (o := .lst []) np
    have hb1 := s1.seq hb
    have hsh : SeqAt.shaped (.list []) = true := by decide +kernel
    refine ⟨.list (ss.map PyData.int), .list [], .lst hb1 (dp_ints ss), .lst (SqL.of upd_same) .nil, shaped_ints ss, hsh, _, rfl, ?_⟩
    cases ss with
    | nil =>
      refine iteF ?_
      have f1 := fmod_nat (a := (5 : Int) * 48271 + (at_ : Nat) * 69621 + 12345) (n := 2147483647) (by decide)
      have w0 : CMulW (5 : Int) 48271 := wide_mul (a := 40) (b := 40) (by omega) (by decide) (by decide) (by decide) (by decide)
      have w0' : CMulW (at_ : Nat) 69621 := wide_mul (a := 40) (b := 40) (by omega) (by decide) (by decide) (by decide) (by decide)
      have w1 : CMulW (Int.fmod ((5 : Int) * 48271 + (at_ : Nat) * 69621 + 12345) 2147483647) (Int.fmod ((5 : Int) * 48271 + (at_ : Nat) * 69621 + 12345) 2147483647) := wide_mul (a := 40) (b := 40) (by omega) (by omega) (by decide) (by decide) (by decide)
      have f2 := fmod_nat (a := (Int.fmod ((5 : Int) * 48271 + (at_ : Nat) * 69621 + 12345) 2147483647) * (Int.fmod ((5 : Int) * 48271 + (at_ : Nat) * 69621 + 12345) 2147483647) + (at_ : Nat)) (n := 2147483629) (by decide)
      have w2 : CMulW (Int.fmod ((Int.fmod ((5 : Int) * 48271 + (at_ : Nat) * 69621 + 12345) 2147483647) * (Int.fmod ((5 : Int) * 48271 + (at_ : Nat) * 69621 + 12345) 2147483647) + (at_ : Nat)) 2147483629) (Int.fmod ((Int.fmod ((5 : Int) * 48271 + (at_ : Nat) * 69621 + 12345) 2147483647) * (Int.fmod ((5 : Int) * 48271 + (at_ : Nat) * 69621 + 12345) 2147483647) + (at_ : Nat)) 2147483629) := wide_mul (a := 40) (b := 40) (by omega) (by omega) (by decide) (by decide) (by decide)
      have f3 := fmod_nat (a := (Int.fmod ((Int.fmod ((5 : Int) * 48271 + (at_ : Nat) * 69621 + 12345) 2147483647) * (Int.fmod ((5 : Int) * 48271 + (at_ : Nat) * 69621 + 12345) 2147483647) + (at_ : Nat)) 2147483629) * (Int.fmod ((Int.fmod ((5 : Int) * 48271 + (at_ : Nat) * 69621 + 12345) 2147483647) * (Int.fmod ((5 : Int) * 48271 + (at_ : Nat) * 69621 + 12345) 2147483647) + (at_ : Nat)) 2147483629) + (Int.fmod ((5 : Int) * 48271 + (at_ : Nat) * 69621 + 12345) 2147483647)) (n := 998244353) (by decide)
      have n1 : (2147483647 : Int) ≠ 0 := by decide
      have n2 : (2147483629 : Int) ≠ 0 := by decide
      have n3 : (998244353 : Int) ≠ 0 := by decide
      refine ⟨_, rfl, _, _, rfl, rfl, w0, _, rfl, _, _, rfl, rfl, w0', _, _, rfl, rfl, _, _, rfl, rfl, .inl ⟨_, rfl, _, _, rfl, rfl, n1, ?_⟩⟩
      refine ⟨_, rfl, _, rfl, _, _, rfl, rfl, w1, _, rfl, _, _, rfl, rfl, .inl ⟨_, rfl, _, _, rfl, rfl, n2, ?_⟩⟩
      refine ⟨_, rfl, _, rfl, _, _, rfl, rfl, w2, _, rfl, _, _, rfl, rfl, .inl ⟨_, rfl, _, _, rfl, rfl, n3, ?_⟩⟩
      exact q _ _ f3.1 f3.2 s1
    | cons z0 zs =>
      refine iteT ?_
      have f0 := fmod_nat (a := (at_ : Nat)) (n := ((z0 :: zs).length : Nat)) (by rw [List.length_cons]; omega)
      obtain ⟨j, hj⟩ : ∃ j : Nat, Int.fmod (at_ : Nat) ((z0 :: zs).length : Nat) = j := ⟨_, (Int.toNat_of_nonneg f0.1).symm⟩
      have hj2 : j < (z0 :: zs).length := by omega
      obtain ⟨s0, hs0⟩ : ∃ s0, (z0 :: zs)[j]? = some s0 := ⟨_, List.getElem?_eq_getElem hj2⟩
      have hb0 := hss s0 (List.mem_of_getElem? hs0)
      refine ⟨_, rfl, _, rfl, .inl ⟨_, rfl, _, rfl, b, _, rfl, .inl hb1, _, _, rfl, rfl, by rw [List.length_map, List.length_cons]; omega, b, _, _, .int s0, rfl, rfl, hb1, by rw [List.length_map, hj]; exact atI_nat (by rw [List.getElem?_map, hs0] <;> rfl), ?_⟩⟩
      have f1 := fmod_nat (a := s0 * 48271 + (at_ : Nat) * 69621 + 12345) (n := 2147483647) (by decide)
      have w0 : CMulW s0 48271 := wide_mul (a := 40) (b := 40) (by omega) (by decide) (by decide) (by decide) (by decide)
      have w0' : CMulW (at_ : Nat) 69621 := wide_mul (a := 40) (b := 40) (by omega) (by decide) (by decide) (by decide) (by decide)
      have w1 : CMulW (Int.fmod (s0 * 48271 + (at_ : Nat) * 69621 + 12345) 2147483647) (Int.fmod (s0 * 48271 + (at_ : Nat) * 69621 + 12345) 2147483647) := wide_mul (a := 40) (b := 40) (by omega) (by omega) (by decide) (by decide) (by decide)
      have f2 := fmod_nat (a := (Int.fmod (s0 * 48271 + (at_ : Nat) * 69621 + 12345) 2147483647) * (Int.fmod (s0 * 48271 + (at_ : Nat) * 69621 + 12345) 2147483647) + (at_ : Nat)) (n := 2147483629) (by decide)
      have w2 : CMulW (Int.fmod ((Int.fmod (s0 * 48271 + (at_ : Nat) * 69621 + 12345) 2147483647) * (Int.fmod (s0 * 48271 + (at_ : Nat) * 69621 + 12345) 2147483647) + (at_ : Nat)) 2147483629) (Int.fmod ((Int.fmod (s0 * 48271 + (at_ : Nat) * 69621 + 12345) 2147483647) * (Int.fmod (s0 * 48271 + (at_ : Nat) * 69621 + 12345) 2147483647) + (at_ : Nat)) 2147483629) := wide_mul (a := 40) (b := 40) (by omega) (by omega) (by decide) (by decide) (by decide)
      have f3 := fmod_nat (a := (Int.fmod ((Int.fmod (s0 * 48271 + (at_ : Nat) * 69621 + 12345) 2147483647) * (Int.fmod (s0 * 48271 + (at_ : Nat) * 69621 + 12345) 2147483647) + (at_ : Nat)) 2147483629) * (Int.fmod ((Int.fmod (s0 * 48271 + (at_ : Nat) * 69621 + 12345) 2147483647) * (Int.fmod (s0 * 48271 + (at_ : Nat) * 69621 + 12345) 2147483647) + (at_ : Nat)) 2147483629) + (Int.fmod (s0 * 48271 + (at_ : Nat) * 69621 + 12345) 2147483647)) (n := 998244353) (by decide)
      have n1 : (2147483647 : Int) ≠ 0 := by decide
      have n2 : (2147483629 : Int) ≠ 0 := by decide
      have n3 : (998244353 : Int) ≠ 0 := by decide
      refine ⟨_, rfl, _, _, rfl, rfl, w0, _, rfl, _, _, rfl, rfl, w0', _, _, rfl, rfl, _, _, rfl, rfl, .inl ⟨_, rfl, _, _, rfl, rfl, n1, ?_⟩⟩
      refine ⟨_, rfl, _, rfl, _, _, rfl, rfl, w1, _, rfl, _, _, rfl, rfl, .inl ⟨_, rfl, _, _, rfl, rfl, n2, ?_⟩⟩
      refine ⟨_, rfl, _, rfl, _, _, rfl, rfl, w2, _, rfl, _, _, rfl, rfl, .inl ⟨_, rfl, _, _, rfl, rfl, n3, ?_⟩⟩
      exact q _ _ f3.1 f3.2 s1
end
end K71
end
section
set_option Elab.async false
set_option linter.all false
set_option maxRecDepth 100000
set_option maxHeartbeats 2000000
/-! a draw -/
namespace K71
open PySem PySem.Spec SG NdefX LamX
open L2 hiding It
open PyProof.Rows hiding St
open Lv (Wd Srt IT)
section
variable {P : Program} {w : World} {K : PySem.W.Frag} {mg : Str → Option Value} {base : Heap}
/-- the pool at p, its lists at a and b, behind at most n draws -/
structure PoolAt (H : Hp) (p a b : Addr) (n : Nat) : Prop where
  nap : a ≠ p
  nbp : b ≠ p
  ex : ∃ (cs ss : List Int) (at_ : Nat) (rest cnt : Int), H p = some (.lst [.ref a, .ref b, .int (at_ : Nat), .int rest, .int cnt]) ∧ H a = some (.lst (cs.map V.int)) ∧ H b = some (.lst (ss.map V.int)) ∧
    (∀ z ∈ cs, 0 ≤ z) ∧ (∀ z ∈ ss, 0 ≤ z ∧ z < 2147483647) ∧ at_ ≤ n ∧ 0 ≤ rest
theorem PoolAt.same {H H' : Hp} {p a b : Addr} {n : Nat} (e : Same H H') (h : PoolAt H p a b n) : PoolAt H' p a b n := by
  obtain ⟨h2, h3, cs, ss, at_, rest, cnt, h1, h4, h5, h6, h7, h8, h9⟩ := h
  exact ⟨h2, h3, cs, ss, at_, rest, cnt, e _ _ h1, e _ _ h4, e _ _ h5, h6, h7, h8, h9⟩
theorem PoolAt.le {H : Hp} {p a b : Addr} {n m : Nat} (h : PoolAt H p a b n) (l : n ≤ m) : PoolAt H p a b m := by
  obtain ⟨h2, h3, cs, ss, at_, rest, cnt, h1, h4, h5, h6, h7, h8, h9⟩ := h
  exact ⟨h2, h3, cs, ss, at_, rest, cnt, h1, h4, h5, h6, h7, by omega, h9⟩
/-- p, a, b stand in H0: what is written at a place that H0 does not know leaves the pool -/
theorem PoolAt.put {H0 H : Hp} {p a b D : Addr} {o : HO} {n m : Nat} (h : PoolAt H p a b n) (h0 : PoolAt H0 p a b m) (hD : H0 D = none) : PoolAt (upd H D o) p a b n := by
  obtain ⟨h2, h3, cs, ss, at_, rest, cnt, h1, h4, h5, h6, h7, h8, h9⟩ := h
  obtain ⟨_, _, cs0, ss0, at0, r0, c0, k1, k4, k5, _⟩ := h0
  have n1 : p ≠ D := fun z => by rw [z, hD] at k1; cases k1
  have n2 : a ≠ D := fun z => by rw [z, hD] at k4; cases k4
  have n3 : b ≠ D := fun z => by rw [z, hD] at k5; cases k5
  exact ⟨h2, h3, cs, ss, at_, rest, cnt, by rw [upd_ne n1]; exact h1, by rw [upd_ne n2]; exact h4, by rw [upd_ne n3]; exact h5, h6, h7, h8, h9⟩
/-- everything but the pool stands -/
def Stand (p : Addr) (H H' : Hp) : Prop := But p H H' ∧ ∀ b, H' b = none → H b = none
theorem Stand.refl (p : Addr) (H : Hp) : Stand p H H := ⟨But.refl p H, fun _ h => h⟩
theorem Stand.trans {p : Addr} {H H1 H2 : Hp} (a : Stand p H H1) (b : Stand p H1 H2) : Stand p H H2 := ⟨a.1.trans b.1, fun c h => a.2 c (b.2 c h)⟩
theorem Stand.of {p : Addr} {H H' : Hp} (e : Same H H') : Stand p H H' := ⟨Same.but e, fun _ h => e.free h⟩
theorem Stand.putNew {p D : Addr} {H H' : Hp} {o : HO} (s : Stand p H H') (hD : H D = none) : Stand p H (upd H' D o) := ⟨fun c u n e => by
  rw [upd_ne (fun z => by rw [z, hD] at e; cases e)]
  exact s.1 c u n e, fun c e => by
  by_cases z : c = D
  · rw [z]; exact hD
  · rw [upd_ne z] at e
    exact s.2 c e⟩
theorem sqL_but {p a : Addr} {H H' : Hp} {xs : List V} (e : But p H H') (n : a ≠ p) (h : SqL K H a xs) : SqL K H' a xs := by
  rcases h with (z | ⟨o, z⟩) | z
  · exact .inl (.inl (e a _ n z))
  · exact .inl (.inr ⟨o, e a _ n z⟩)
  · exact .inr z
def spDraw (K : PySem.W.Frag) : Sp := fun vs H Q _ => ∃ (p a b : Addr) (n : Nat) (many : Int), vs = [.ref p, .int many] ∧ PoolAt H p a b n ∧ n < 1000000 ∧ 0 < many ∧ many.natAbs < 2 ^ 9000 ∧
  ∀ (d : Nat) H', (d : Int) < many → PoolAt H' p a b (n + 1) → Stand p H H' → Q (.int (d : Nat)) H'
theorem ok_draw {f fm : Addr} {fd fdm : FuncData} {k : Nat} (F : Fun K "_law_draw" "_law_draw" s_law_draw f fd) (T : Blt mg) (G_mixed : FnOk P w K mg base CX0 k fm fdm ["small", "at"] (spMixed K)) (c_mixed : Df K mg "_law_mixed" fm fdm ["small", "at"]) :
    FnOk P w K mg base CX0 (k + 1) f fd ["pool", "many"] (spDraw K) := by
  refine F.ok sc_law_draw (fun vs H Q E h => ?_) (fun cdv A outer s H vs Q E hr h => ?_)
  · obtain ⟨p, a, b, n, many, rfl, _⟩ := h
    rfl
  · obtain ⟨p, a, b, n, many, rfl, ⟨nap, nbp, cs, ss, at_, rest, cnt, hp, ha', hb', hcs, hss, hat, hrest⟩, hn, hm0, hm9, q⟩ := h
    have ha : SqL K H a (cs.map V.int) := SqL.of ha'
    have hb : SqL K H b (ss.map V.int) := SqL.of hb'
    have tl : ∃ t2, PSs (cxOf CX0 P w K mg base N_law_draw "_law_draw" (defScope s_law_draw) f cdv A outer s H E).nox ((defBody s_law_draw).drop 1) t2 ∧ ∀ (v2 : Option V) (at' : Nat) (rest' cnt' : Int) (Hx : Hp),
        Hx p = some (.lst [.ref a, .ref b, .int (at' : Nat), .int rest', .int cnt']) → Stand p H Hx → at' ≤ n + 1 → 0 ≤ rest' → t2 { nx := fun _ H' => Q .non H', rt := Q } [some (.ref p), some (.int many), v2, none] Hx := by
      refine ⟨_, (pss_cons (ps_set (i := 3) sc_law_draw.nd rfl (Or.inl rfl) (pe_op op_modN (pe_callTy call_int1 (by rfl) T.int (by decide +kernel) (pa_cons (pe_ix ix_list (pv 0) pe_int (fun _ _ => rfl)) pa_nil)) (pv 1)))
      (pss_cons (ps_asg (pe_op op_fdivW (pe_callTy call_int1 (by rfl) T.int (by decide +kernel) (pa_cons (pe_ix ix_list (pv 0) pe_int (fun _ _ => rfl)) pa_nil)) (pv 1)) (pg_sub (pv 0) pe_int set_list))
      (pss_cons (ps_asg (pe_op op_add (pe_ix ix_list (pv 0) pe_int (fun _ _ => rfl)) pe_int) (pg_sub (pv 0) pe_int set_list))
      (pss_one (ps_ret (pv 3)))))), fun v2 at' rest' cnt' Hx hx st hat' hr' => ?_⟩
      have f0 := fmod_nat (a := rest') hm0
      obtain ⟨d, hd⟩ : ∃ d : Nat, rest'.fmod many = d := ⟨_, (Int.toNat_of_nonneg f0.1).symm⟩
      refine ⟨_, rfl, p, _, 3, _, rfl, rfl, SqL.of hx, rfl, .inl ⟨_, rfl, _, rfl, _, _, rfl, rfl, by omega, ?_⟩⟩
      refine ⟨_, rfl, p, _, 3, _, rfl, rfl, SqL.of hx, rfl, .inl ⟨_, rfl, _, rfl, _, _, rfl, rfl, wide_div hm0 hm9 (by decide) (Nat.le_refl _), ?_⟩⟩
      refine ⟨_, rfl, p, _, 3, 3, rfl, rfl, hx, rfl, ?_⟩
      refine ⟨_, rfl, p, _, 4, _, rfl, rfl, SqL.of upd_same, rfl, _, _, rfl, rfl, ?_⟩
      refine ⟨_, rfl, p, _, 4, 4, rfl, rfl, upd_same, rfl, ?_⟩
      refine ⟨_, rfl, ?_⟩
      show Q (.int (rest'.fmod many)) (upd (upd Hx p (.lst [.ref a, .ref b, .int (at' : Nat), .int (rest' / many), .int cnt'])) p (.lst [.ref a, .ref b, .int (at' : Nat), .int (rest' / many), .int (cnt' + 1)]))
      rw [hd]
      have st2 : Stand p H (upd (upd Hx p (.lst [.ref a, .ref b, .int (at' : Nat), .int (rest' / many), .int cnt'])) p (.lst [.ref a, .ref b, .int (at' : Nat), .int (rest' / many), .int (cnt' + 1)])) := by
        refine st.trans ⟨fun c o n h => by rw [upd_ne n, upd_ne n]; exact h, fun c h => ?_⟩
        by_cases e : c = p
        · rw [e, upd_same] at h; cases h
        · rw [upd_ne e, upd_ne e] at h; exact h
      refine q d _ (by omega) ⟨nap, nbp, cs, ss, at', rest' / many, cnt' + 1, upd_same, st2.1 _ _ nap ha', st2.1 _ _ nbp hb', hcs, hss, hat', Int.ediv_nonneg hr' (by omega)⟩ st2
    obtain ⟨t2, d2, e2⟩ := tl
    refine ⟨_, (pss_cons (ps_if (PW.pt (pw_or (pt_cmpR op_eq (pe_ix ix_list (pv 0) pe_int (fun _ _ => rfl)) pe_int (nomark _)) (pw_or1 (pt_cmpR op_gt (pe_ix ix_list (pv 0) pe_int (fun _ _ => rfl)) pe_int (nomark _))))) (pss_cons (ps_set (i := 2) sc_law_draw.nd rfl (Or.inl rfl) (pe_ix ix_list (pv 0) pe_int (fun _ _ => rfl)))
      (pss_cons (ps_asg (pe_op op_add (pv 2) pe_int) (pg_sub (pv 0) pe_int set_list))
      (pss_cons (ps_asg pe_int (pg_sub (pv 0) pe_int set_list))
      (pss_one (ps_if (pt_cmpR op_lt (pv 2) (pe_callB call_len_seq (by rfl) T.len PySem.boot_len (pa_cons (pe_ix ix_list (pv 0) pe_int (fun _ _ => rfl)) pa_nil)) (nomark _)) (pss_one (ps_asg (pe_ix ix_list (pe_ix ix_list (pv 0) pe_int (fun _ _ => rfl)) (pv 2) (fun _ _ => rfl)) (pg_sub (pv 0) pe_int set_list))) (pss_cons (ps_asg (pe_call G_mixed hr (by rfl) c_mixed.m c_mixed.k c_mixed.b .nil pass0 (pa_cons (pe_ix ix_list (pv 0) pe_int (fun _ _ => rfl)) (pa_cons (pv 2) pa_nil))) (pg_sub (pv 0) pe_int set_list))
      (pss_one (ps_asg pe_int (pg_sub (pv 0) pe_int set_list))))))))) pss_nil) d2), ?_⟩
    -- a new number is drawn
    have putSt : ∀ {xs : List V} (H1 : Hp), Stand p H H1 → Stand p H (upd H1 p (.lst xs)) := fun {xs} H1 st => st.trans ⟨but_upd H1, fun c h => by
      by_cases e : c = p
      · rw [e, upd_same] at h; cases h
      · rw [upd_ne e] at h; exact h⟩
    refine ⟨_, rfl, p, _, 3, _, rfl, rfl, SqL.of hp, rfl, rfl, _, rfl, ?_⟩
    by_cases c1 : (V.int rest) = V.int 0
    · rw [decide_eq_true c1]
      refine iteT ?_
      refine ⟨_, rfl, p, _, 2, _, rfl, rfl, SqL.of hp, rfl, ?_⟩
      refine ⟨_, rfl, _, _, rfl, rfl, _, rfl, p, _, 2, 2, rfl, rfl, hp, rfl, ?_⟩
      refine ⟨_, rfl, p, _, 4, 4, rfl, rfl, upd_same, rfl, ?_⟩
      have st3 : Stand p H (upd (upd H p (.lst [.ref a, .ref b, .int ((at_ : Nat) + 1), .int rest, .int cnt])) p (.lst [.ref a, .ref b, .int ((at_ : Nat) + 1), .int rest, .int 0])) := putSt _ (putSt _ (Stand.refl p H))
      have hx3 : (upd (upd H p (.lst [.ref a, .ref b, .int ((at_ : Nat) + 1), .int rest, .int cnt])) p (.lst [.ref a, .ref b, .int ((at_ : Nat) + 1), .int rest, .int 0])) p = some (.lst [.ref a, .ref b, .int ((at_ : Nat) + 1), .int rest, .int 0]) := upd_same
      have ha3 := sqL_but st3.1 nap ha
      have hb3 := sqL_but st3.1 nbp hb
      refine ⟨_, rfl, _, rfl, p, _, 0, _, rfl, rfl, SqL.of upd_same, rfl, a, _, rfl, .inl ha3, _, _, rfl, rfl, _, rfl, ?_⟩
      by_cases c3 : ((at_ : Nat) : Int) < ((cs.map V.int).length : Nat)
      · rw [decide_eq_true c3]
        refine iteT ?_
        have hlt : at_ < cs.length := by rw [List.length_map] at c3; omega
        obtain ⟨z, hz⟩ : ∃ z, cs[at_]? = some z := ⟨_, List.getElem?_eq_getElem hlt⟩
        refine ⟨_, rfl, p, _, 0, _, rfl, rfl, SqL.of upd_same, rfl, _, rfl, a, _, at_, .int z, rfl, rfl, ha3, atI_nat (by rw [List.getElem?_map, hz] <;> rfl), ?_⟩
        refine ⟨_, rfl, p, _, 3, 3, rfl, rfl, upd_same, rfl, ?_⟩
        exact e2 _ (at_ + 1) z 0 _ upd_same (putSt _ st3) (by omega) (hcs z (List.mem_of_getElem? hz))
      · rw [decide_eq_false c3]
        refine iteF ?_
        refine ⟨_, rfl, p, _, 1, _, rfl, rfl, SqL.of upd_same, rfl, _, rfl, b, ss, at_, rfl, hb3, hss, by omega, fun r H' r0 r1 sm => ?_⟩
        refine ⟨_, rfl, p, _, 3, 3, rfl, rfl, sm _ _ upd_same, rfl, ?_⟩
        refine ⟨_, rfl, p, _, 4, 4, rfl, rfl, upd_same, rfl, ?_⟩
        exact e2 _ (at_ + 1) r 59 _ upd_same (putSt _ (putSt _ (st3.trans (Stand.of sm)))) (by omega) r0
    · rw [decide_eq_false c1]
      refine iteF ?_
      refine ⟨_, rfl, p, _, 4, _, rfl, rfl, SqL.of hp, rfl, _, _, rfl, rfl, _, rfl, ?_⟩
      by_cases c2 : cnt > 59
      · rw [decide_eq_true c2]
        refine iteT ?_
        refine ⟨_, rfl, p, _, 2, _, rfl, rfl, SqL.of hp, rfl, ?_⟩
        refine ⟨_, rfl, _, _, rfl, rfl, _, rfl, p, _, 2, 2, rfl, rfl, hp, rfl, ?_⟩
        refine ⟨_, rfl, p, _, 4, 4, rfl, rfl, upd_same, rfl, ?_⟩
        have st3 : Stand p H (upd (upd H p (.lst [.ref a, .ref b, .int ((at_ : Nat) + 1), .int rest, .int cnt])) p (.lst [.ref a, .ref b, .int ((at_ : Nat) + 1), .int rest, .int 0])) := putSt _ (putSt _ (Stand.refl p H))
        have hx3 : (upd (upd H p (.lst [.ref a, .ref b, .int ((at_ : Nat) + 1), .int rest, .int cnt])) p (.lst [.ref a, .ref b, .int ((at_ : Nat) + 1), .int rest, .int 0])) p = some (.lst [.ref a, .ref b, .int ((at_ : Nat) + 1), .int rest, .int 0]) := upd_same
        have ha3 := sqL_but st3.1 nap ha
        have hb3 := sqL_but st3.1 nbp hb
        refine ⟨_, rfl, _, rfl, p, _, 0, _, rfl, rfl, SqL.of upd_same, rfl, a, _, rfl, .inl ha3, _, _, rfl, rfl, _, rfl, ?_⟩
        by_cases c3 : ((at_ : Nat) : Int) < ((cs.map V.int).length : Nat)
        · rw [decide_eq_true c3]
          refine iteT ?_
          have hlt : at_ < cs.length := by rw [List.length_map] at c3; omega
          obtain ⟨z, hz⟩ : ∃ z, cs[at_]? = some z := ⟨_, List.getElem?_eq_getElem hlt⟩
          refine ⟨_, rfl, p, _, 0, _, rfl, rfl, SqL.of upd_same, rfl, _, rfl, a, _, at_, .int z, rfl, rfl, ha3, atI_nat (by rw [List.getElem?_map, hz] <;> rfl), ?_⟩
          refine ⟨_, rfl, p, _, 3, 3, rfl, rfl, upd_same, rfl, ?_⟩
          exact e2 _ (at_ + 1) z 0 _ upd_same (putSt _ st3) (by omega) (hcs z (List.mem_of_getElem? hz))
        · rw [decide_eq_false c3]
          refine iteF ?_
          refine ⟨_, rfl, p, _, 1, _, rfl, rfl, SqL.of upd_same, rfl, _, rfl, b, ss, at_, rfl, hb3, hss, by omega, fun r H' r0 r1 sm => ?_⟩
          refine ⟨_, rfl, p, _, 3, 3, rfl, rfl, sm _ _ upd_same, rfl, ?_⟩
          refine ⟨_, rfl, p, _, 4, 4, rfl, rfl, upd_same, rfl, ?_⟩
          exact e2 _ (at_ + 1) r 59 _ upd_same (putSt _ (putSt _ (st3.trans (Stand.of sm)))) (by omega) r0
      · rw [decide_eq_false c2]
        refine iteF ?_
        exact e2 none at_ rest cnt H hp (Stand.refl p H) (by omega) hrest
end
end K71
end
section
set_option Elab.async false
set_option linter.all false
set_option maxRecDepth 100000
set_option maxHeartbeats 2000000
/-! _law_open, _law_sign, _law_word -/
namespace K71
open PySem PySem.Spec SG NdefX LamX
open L2 hiding It
open PyProof.Rows hiding St
open Lv (Wd Srt IT)
section
variable {P : Program} {w : World} {K : PySem.W.Frag} {mg : Str → Option Value} {base : Heap}
def spOpen (K : PySem.W.Frag) : Sp := fun vs H Q _ => ∃ (l : Addr) (ns : List Int), vs = [.ref l] ∧ SqL K H l (ns.map V.int) ∧ ns.length ≤ 1000 ∧
  ∀ p a b H', Same H H' → H p = none → PoolAt H' p a b 0 → Q (.ref p) H'
theorem ok_open {f : Addr} {fd : FuncData} {k : Nat} (F : Fun K "_law_open" "_law_open" s_law_open f fd) (T : Blt mg) : FnOk P w K mg base CX0 (k + 1) f fd ["script"] (spOpen K) := by
  refine F.ok sc_law_open (fun vs H Q E h => ?_) (fun cdv A outer s H vs Q E hr h => ?_)
  · obtain ⟨l, ns, rfl, _⟩ := h
    rfl
  · obtain ⟨l, ns, rfl, hl, hn, q⟩ := h
    refine ⟨_, (pss_cons (ps_setLc (i := 1) (own := [("cell", 3)]) (g := gName 3) rfl sc_law_open.nd rfl rfl (sw_true rfl rfl rfl (by decide +kernel)) (pi_list (pe_slice sl_list (pv 0) po_none (po_some pe_int))) (blkOk_by (own := [("cell", 3)]) (N := N_law_open) (sc := defScope s_law_open) (by decide +kernel)) (fun _ _ _ _ _ => (pg_name (i := 3) sc_law_open.nd rfl (Or.inl rfl))) (fun _ _ _ _ _ => pts_nil) (fun _ _ _ _ _ => (pe_callB call_abs (by rfl) T.abs (by decide +kernel) (pa_cons (pe_callTy call_int1 (by rfl) T.int (by decide +kernel) (pa_cons (pv 3) pa_nil)) pa_nil))))
      (pss_cons (ps_setLc (i := 2) (own := [("cell", 3)]) (g := gName 3) rfl sc_law_open.nd rfl rfl (sw_true rfl rfl rfl (by decide +kernel)) (pi_list (pv 1)) (blkOk_by (own := [("cell", 3)]) (N := N_law_open) (sc := defScope s_law_open) (by decide +kernel)) (fun _ _ _ _ _ => (pg_name (i := 3) sc_law_open.nd rfl (Or.inl rfl))) (fun _ _ _ _ _ => pts_nil) (fun _ _ _ _ _ => (pe_op op_modN (pe_callTy call_int1 (by rfl) T.int (by decide +kernel) (pa_cons (pv 3) pa_nil)) pe_int)))
      (pss_one (ps_ret (pe_lst (pa_cons (pv 1) (pa_cons (pv 2) (pa_cons pe_int (pa_cons pe_int (pa_cons pe_int pa_nil)))))))))), ?_⟩
    refine ⟨_, rfl, _, rfl, l, _, rfl, hl, fun a0 na0 => ?_⟩
    have s0 := same_new (o := .lst (cutV (ns.map V.int) none (some 63))) na0
    obtain ⟨ms, hms⟩ : ∃ ms : List Int, cutV (ns.map V.int) none (some 63) = ms.map V.int := by
      unfold cutV
      exact ⟨(ns.drop _).take _, by rw [List.map_take, List.map_drop]⟩
    have hml : ms.length ≤ 1000 := by
      have := cutV_length (ns.map V.int) none (some 63)
      rw [hms, List.length_map, List.length_map] at this
      omega
    rw [hms] at s0 ⊢
    refine ⟨a0, rfl, ⟨_, SqL.of upd_same⟩, fun D nD => ?_⟩
    have s1 := same_new (o := .lst []) nD
    have n0D : a0 ≠ D := fun z => by rw [← z, upd_same] at nD; cases nD
    refine lc_list (K := K) (a := a0) (xs := ms.map V.int) (fun i H' => Same (upd H a0 (.lst (ms.map V.int))) H' ∧ ∃ zs : List Int, H' D = some (.lst (zs.map V.int)) ∧ zs.length = i ∧ ∀ z ∈ zs, 0 ≤ z) ⟨s1, [], upd_same, rfl, fun z hz => by cases hz⟩ (fun i H' _ hP => SqL.of (hP.1 _ _ upd_same)) (fun i y H' hy hP => ?_) (fun H' hP => ?_)
    · obtain ⟨sm, zs, hz, hzl, hz0⟩ := hP
      rw [List.getElem?_map] at hy
      obtain ⟨m, hm, rfl⟩ := Option.map_eq_some_iff.mp hy
      have hi : i < ms.length := (List.getElem?_eq_some_iff.mp hm).1
      refine ⟨rfl, ?_⟩
      refine ⟨_, rfl, .inl ⟨_, rfl, _, rfl, ?_⟩⟩
      refine ⟨_, hz, by rw [List.length_map, hzl, sizeLine_eq]; omega, fun c o e => ?_, zs ++ [if m < 0 then -m else m], by rw [upd_same, List.map_append] <;> rfl, by rw [List.length_append, hzl] <;> rfl, fun z hz' => ?_⟩
      · have nc : c ≠ D := fun z => by rw [z, nD] at e; cases e
        rw [upd_ne nc]
        exact sm c o e
      · rcases List.mem_append.mp hz' with g | g
        · exact hz0 z g
        · rw [List.mem_singleton.mp g]
          by_cases c : m < 0
          · rw [if_pos c]; omega
          · rw [if_neg c]; omega
    · obtain ⟨sm, cs, hz, hzl, hz0⟩ := hP
      rw [List.length_map] at hzl
      have sA : Same H H' := s0.trans sm
      refine ⟨_, rfl, D, rfl, ⟨_, SqL.of hz⟩, fun D2 nD2 => ?_⟩
      have s2 := same_new (o := .lst []) nD2
      have nDD : D ≠ D2 := fun z => by rw [← z, hz] at nD2; cases nD2
      refine lc_list (K := K) (a := D) (xs := cs.map V.int) (fun i H2 => Same H' H2 ∧ ∃ zs : List Int, H2 D2 = some (.lst (zs.map V.int)) ∧ zs.length = i ∧ ∀ z ∈ zs, 0 ≤ z ∧ z < 2147483647) ⟨s2, [], upd_same, rfl, fun z hz => by cases hz⟩ (fun i H2 _ hP => SqL.of (hP.1 _ _ hz)) (fun i y H2 hy hP => ?_) (fun H2 hP => ?_)
      · obtain ⟨sm2, zs, hz2, hzl2, hz02⟩ := hP
        rw [List.getElem?_map] at hy
        obtain ⟨m, hm, rfl⟩ := Option.map_eq_some_iff.mp hy
        have hi : i < cs.length := (List.getElem?_eq_some_iff.mp hm).1
        have f0 := fmod_nat (a := m) (n := 2147483647) (by decide)
        have n1 : (2147483647 : Int) ≠ 0 := by decide
        refine ⟨rfl, ?_⟩
        refine ⟨_, rfl, .inl ⟨_, rfl, _, _, rfl, rfl, n1, ?_⟩⟩
        refine ⟨_, hz2, by rw [List.length_map, hzl2, sizeLine_eq]; omega, fun c o e => ?_, zs ++ [m.fmod 2147483647], by rw [upd_same, List.map_append] <;> rfl, by rw [List.length_append, hzl2] <;> rfl, fun z hz' => ?_⟩
        · have nc : c ≠ D2 := fun z => by rw [z, nD2] at e; cases e
          rw [upd_ne nc]
          exact sm2 c o e
        · rcases List.mem_append.mp hz' with g | g
          · exact hz02 z g
          · rw [List.mem_singleton.mp g]
            exact f0
      · obtain ⟨sm2, ss, hz2, hzl2, hz02⟩ := hP
        refine ⟨_, rfl, _, rfl, sizeLine_le (by show 5 ≤ _; decide), fun pp npp => ?_⟩
        have s3 := same_new (o := .lst [.ref D, .ref D2, .int 0, .int 0, .int 0]) npp
        have hzD : H2 D = _ := sm2 _ _ hz
        refine q pp D D2 _ ((sA.trans sm2).trans s3) ((sA.trans sm2).free npp) ⟨fun z => ?_, fun z => ?_, cs, ss, 0, 0, 0, upd_same, s3 _ _ hzD, s3 _ _ hz2, hz0, hz02, Nat.le_refl _, by decide⟩
        · rw [z, npp] at hzD; cases hzD
        · rw [z, npp] at hz2; cases hz2
end
end K71
end
section
set_option Elab.async false
set_option linter.all false
set_option maxRecDepth 100000
set_option maxHeartbeats 2000000
/-! _law_sign, _law_word -/
namespace K71
open PySem PySem.Spec SG NdefX LamX
open L2 hiding It
open PyProof.Rows hiding St
open Lv (Wd Srt IT)
abbrev sgA : Str := " !\"#$&'()*+,-./0123456789:;<=>?@ABCDEFGHIJKLMNOPQRSTUVWXYZ[\\]^_`"
abbrev sgB : Str := "abcdefghijklmnopqrstuvwxyz{|}~\n"
theorem sg_len : (sgA ++ sgB).length = 95 ∧ sgA.length = 64 ∧ sgB.length = 31 := by decide +kernel
theorem sg_ok : ∀ c ∈ (sgA ++ sgB).cps.toList, c < 128 := by decide +kernel
theorem joinL_one : ∀ u : List Nat, TL.joinL [] (u.map fun c => [c]) = u
  | [] => rfl
  | [c] => rfl
  | c :: d :: r => by
    show [c] ++ ([] ++ TL.joinL [] ((d :: r).map fun c => [c])) = _
    rw [joinL_one (d :: r)] <;> rfl
theorem join_tx (u : List Nat) : Txt.join "" (u.map fun c => tx [c]) = tx u := by
  have h := SX.join_S [] (u.map fun c => [c])
  rw [joinL_one, List.map_map] at h
  have e : (SX.S [] : Str) = "" := by decide +kernel
  rw [e] at h
  exact h
section
variable {P : Program} {w : World} {K : PySem.W.Frag} {mg : Str → Option Value} {base : Heap}
def spSign (K : PySem.W.Frag) : Sp := fun vs H Q _ => ∃ (p a b : Addr) (n : Nat), vs = [.ref p] ∧ PoolAt H p a b n ∧ n < 1000000 ∧ ∀ (c : Nat) H', c < 128 → PoolAt H' p a b (n + 1) → Stand p H H' → Q (.str (tx [c])) H'
theorem ok_sign {f fw : Addr} {fd fdw : FuncData} {k : Nat} (F : Fun K "_law_sign" "_law_sign" s_law_sign f fd) (T : Blt mg) (G_draw : FnOk P w K mg base CX0 k fw fdw ["pool", "many"] (spDraw K)) (c_draw : Df K mg "_law_draw" fw fdw ["pool", "many"]) :
    FnOk P w K mg base CX0 (k + 1) f fd ["pool"] (spSign K) := by
  refine F.ok sc_law_sign (fun vs H Q E h => ?_) (fun cdv A outer s H vs Q E hr h => ?_)
  · obtain ⟨p, a, b, n, rfl, _⟩ := h
    rfl
  · obtain ⟨p, a, b, n, rfl, hp, hn, q⟩ := h
    refine ⟨_, (pss_cons (ps_set (i := 1) sc_law_sign.nd rfl (Or.inl rfl) pe_str)
      (pss_cons (ps_set (i := 1) sc_law_sign.nd rfl (Or.inl rfl) (pe_op op_add_str (pv 1) pe_str))
      (pss_one (ps_ret (pe_ix ix_str (pv 1) (pe_call G_draw hr (by rfl) c_draw.m c_draw.k c_draw.b .nil pass0 (pa_cons (pv 0) (pa_cons (pe_callB call_len_str (by rfl) T.len PySem.boot_len (pa_cons (pv 1) pa_nil)) pa_nil))) (fun _ _ => rfl)))))), ?_⟩
    have hlen : (sgA ++ sgB).length ≤ sizeLine := by rw [sg_len.1]; exact sizeLine_le (by decide)
    refine ⟨_, rfl, sgA, sgB, rfl, rfl, by rw [sg_len.2.1, sg_len.2.2]; exact sizeLine_le (by decide), _, rfl, _, rfl, _, rfl, sgA ++ sgB, rfl, hlen, p, a, b, n, _, rfl, hp, hn, by rw [sg_len.1]; decide, by rw [sg_len.1]; decide +kernel, fun d H' hd hp' st => ?_⟩
    rw [sg_len.1] at hd
    have hd2 : d < (sgA ++ sgB).cps.toList.length := by
      have : (sgA ++ sgB).cps.toList.length = 95 := by decide +kernel
      omega
    obtain ⟨c, hc⟩ : ∃ c, (sgA ++ sgB).cps.toList[d]? = some c := ⟨_, List.getElem?_eq_getElem hd2⟩
    exact ⟨sgA ++ sgB, d, c, rfl, rfl, hlen, atI_nat hc, q c H' (sg_ok c (List.mem_of_getElem? hc)) hp' st⟩
def spWord (K : PySem.W.Frag) : Sp := fun vs H Q _ => ∃ (p a b : Addr) (n : Nat) (L : List Nat) (size : Nat), vs = [.ref p, .str (tx L), .int (size : Nat)] ∧ PoolAt H p a b n ∧ n + size < 1000000 ∧ size ≤ 1000 ∧ 0 < L.length ∧ L.length ≤ 1000 ∧
  ∀ (u : List Nat) H', u.length = size → (∀ c ∈ u, c ∈ L) → PoolAt H' p a b (n + size) → Stand p H H' → Q (.str (tx u)) H'
theorem ok_word {f fw : Addr} {fd fdw : FuncData} {k : Nat} (F : Fun K "_law_word" "_law_word" s_law_word f fd) (T : Blt mg) (G_draw : FnOk P w K mg base CX0 k fw fdw ["pool", "many"] (spDraw K)) (c_draw : Df K mg "_law_draw" fw fdw ["pool", "many"]) :
    FnOk P w K mg base CX0 (k + 1) f fd ["pool", "letters", "size"] (spWord K) := by
  refine F.ok sc_law_word (fun vs H Q E h => ?_) (fun cdv A outer s H vs Q E hr h => ?_)
  · obtain ⟨p, a, b, n, L, size, rfl, _⟩ := h
    rfl
  · obtain ⟨p, a, b, n, L, size, rfl, hp, hn, hs1, hL0, hL1, q⟩ := h
    have hLs : (tx L).length ≤ sizeLine := by rw [tx_len]; exact sizeLine_le (by omega)
    have h29 : ((L.length : Nat) : Int).natAbs < 2 ^ 9000 := Nat.lt_of_lt_of_le (show _ < 2 ^ 12 by rw [Int.natAbs_natCast]; omega) (Nat.pow_le_pow_right (by decide) (by decide))
    refine ⟨_, (pss_one (ps_ret (pe_join pe_str (pe_lc (own := [("k", 3)]) (g := gName 3) rfl sc_law_word.nd (pi_range1 (by rfl) T.range (pa_cons (pv 2) pa_nil)) (blkOk_by (own := [("k", 3)]) (N := N_law_word) (sc := defScope s_law_word) (by decide +kernel)) (fun _ _ _ _ _ => (pg_name (i := 3) sc_law_word.nd rfl (Or.inl rfl))) (fun _ _ _ _ _ => pts_nil)
      (fun _ _ _ _ _ => (pe_ix ix_str (pv 1) (pe_call G_draw hr (by rfl) c_draw.m c_draw.k c_draw.b .nil pass0 (pa_cons (pv 0) (pa_cons (pe_callB call_len_str (by rfl) T.len PySem.boot_len (pa_cons (pv 1) pa_nil)) pa_nil))) (fun _ _ => rfl))))))), ?_⟩
    refine ⟨⟨_, rfl⟩, _, rfl, (size : Int), rfl, by omega, by omega, fun D nD => ?_⟩
    refine lc_range (lo := 0) (n := size) (fun i H' => ∃ u : List Nat, u.length = i ∧ (∀ c ∈ u, c ∈ L) ∧ PoolAt H' p a b (n + i) ∧ Stand p H H' ∧ H' D = some (.lst (u.map fun c => V.str (tx [c])))) ⟨[], rfl, (fun c h => nomatch h), ?_, Stand.of (same_new nD), upd_same⟩ (fun i H' hi hP => ?_) (fun H' hP => ?_)
    · exact hp.same (same_new nD)
    · obtain ⟨u, hu, hc, hp', st, hD⟩ := hP
      refine ⟨rfl, ?_⟩
      refine ⟨_, rfl, _, rfl, _, rfl, tx L, rfl, hLs, p, a, b, n + i, _, rfl, hp', by omega, by rw [tx_len]; omega, by rw [tx_len]; exact h29, fun d H2 hd hp2 st2 => ?_⟩
      rw [tx_len] at hd
      obtain ⟨c, hcd⟩ : ∃ c, L[d]? = some c := ⟨_, List.getElem?_eq_getElem (by omega)⟩
      have nDp : D ≠ p := fun z => by
        obtain ⟨_, _, _, _, _, _, _, k1, _⟩ := hp
        rw [← z, nD] at k1; cases k1
      have hD2 := st2.1 _ _ nDp hD
      refine ⟨tx L, d, c, rfl, rfl, hLs, by rw [tx_list]; exact atI_nat hcd, ?_⟩
      refine ⟨_, hD2, by rw [List.length_map, hu, sizeLine_eq]; omega, u ++ [c], by rw [List.length_append, hu] <;> rfl, fun e he => ?_, hp2.put hp nD, (st.trans st2).putNew nD, by rw [upd_same, List.map_append] <;> rfl⟩
      · rcases List.mem_append.mp he with g | g
        · exact hc e g
        · rw [List.mem_singleton.mp g]; exact List.mem_of_getElem? hcd
    · obtain ⟨u, hu, hc, hp', st, hD⟩ := hP
      refine ⟨"", D, u.map fun c => tx [c], rfl, rfl, .inl (SqL.of (by rw [hD, List.map_map] <;> rfl)), ?_, ?_⟩
      · have e1 : ((u.map fun c => tx [c]).map fun x => x.length).sum = u.length := by
          rw [List.map_map]
          have : ∀ l : List Nat, (l.map ((fun x : Str => x.length) ∘ fun c => tx [c])).sum = l.length := fun l => by
            induction l with
            | nil => rfl
            | cons c l ih =>
              rw [List.map_cons, List.sum_cons, ih, List.length_cons]
              show (tx [c]).length + _ = _
              rw [tx_len]
              show 1 + _ = _
              omega
          exact this u
        have e0 : (Str.ofString "").length = 0 := by decide +kernel
        rw [e1, e0]
        omega
      · rw [join_tx]
        exact q u H' hu hc hp' st
end
end K71
end
section
set_option Elab.async false
set_option linter.all false
set_option maxRecDepth 100000
set_option maxHeartbeats 2000000
/-! _law_sight -/
namespace K71
open PySem PySem.Spec SG NdefX LamX
open L2 hiding It
open PyProof.Rows hiding St
open Lv (Wd Srt IT)
/-- the small sights -/
def topOf (q : Sort5) (L : List Nat) : Nat := match q with
  | .fl true => [8, 6, 4].getD (L.length - 1) 0
  | _ => [6, 3, 2].getD (L.length - 1) 0
def sortAt : Nat → Sort5
  | 0 => .lv .rank
  | 1 => .lv .since
  | 2 => .lv .once
  | 3 => .fl true
  | _ => .fl false
def lettersAt : Nat → List Nat
  | 0 => [97, 98]
  | 1 => [97]
  | 2 => [97, 98]
  | _ => [97, 98, 99]
theorem lettersAt_alph (n : Nat) : Alph (lettersAt n) := by
  match n with
  | 0 => exact .inr (.inl rfl)
  | 1 => exact .inl rfl
  | 2 => exact .inr (.inl rfl)
  | n + 3 => exact .inr (.inr rfl)
section
variable {P : Program} {w : World} {K : PySem.W.Frag} {mg : Str → Option Value} {base : Heap}
/-- the list of a sight at r -/
def SightAt (H : Hp) (r : Addr) (q : Sort5) (L : List Nat) (l : Nat) : Prop := H r = some (.lst [.str (tx L), .str (nm5 q), .int (l : Nat)])
def spSight : Sp := fun vs H Q _ => ∃ (p a b : Addr) (n : Nat) (great : Bool), vs = [.ref p, .bl great] ∧ PoolAt H p a b n ∧ n + 3 < 1000000 ∧
  ∀ (q : Sort5) (L : List Nat) (l : Nat) (r : Addr) H', Alph L → l ≤ 7 → (great = false → l < topOf q L) → PoolAt H' p a b (n + 3) → Stand p H H' → H r = none → SightAt H' r q L l → Q (.ref r) H'
theorem ok_sight {f fw : Addr} {fd fdw : FuncData} {k : Nat} (F : Fun K "_law_sight" "_law_sight" s_law_sight f fd) (T : Blt mg) (G_draw : FnOk P w K mg base CX0 k fw fdw ["pool", "many"] (spDraw K)) (c_draw : Df K mg "_law_draw" fw fdw ["pool", "many"]) :
    FnOk P w K mg base CX0 (k + 1) f fd ["pool", "great"] spSight := by
  refine F.ok sc_law_sight (fun vs H Q E h => ?_) (fun cdv A outer s H vs Q E hr h => ?_)
  · obtain ⟨p, a, b, n, great, rfl, _⟩ := h
    rfl
  · obtain ⟨p, a, b, n, great, rfl, hp, hn, q⟩ := h
    refine ⟨_, (pss_cons (ps_set (i := 2) sc_law_sight.nd rfl (Or.inl rfl) (pe_ix ix_list (pe_lst (pa_cons pe_str (pa_cons pe_str (pa_cons pe_str (pa_cons pe_str (pa_cons pe_str pa_nil)))))) (pe_call G_draw hr (by rfl) c_draw.m c_draw.k c_draw.b .nil pass0 (pa_cons (pv 0) (pa_cons pe_int pa_nil))) (fun _ _ => rfl)))
      (pss_cons (ps_set (i := 3) sc_law_sight.nd rfl (Or.inl rfl) (pe_ix ix_list (pe_lst (pa_cons pe_str (pa_cons pe_str (pa_cons pe_str (pa_cons pe_str pa_nil))))) (pe_call G_draw hr (by rfl) c_draw.m c_draw.k c_draw.b .nil pass0 (pa_cons (pv 0) (pa_cons pe_int pa_nil))) (fun _ _ => rfl)))
      (pss_cons (ps_if (pt_val (pv 1)) (pss_one (ps_ret (pe_lst (pa_cons (pv 3) (pa_cons (pv 2) (pa_cons (pe_call G_draw hr (by rfl) c_draw.m c_draw.k c_draw.b .nil pass0 (pa_cons (pv 0) (pa_cons pe_int pa_nil))) pa_nil)))))) pss_nil)
      (pss_cons (ps_set (i := 4) sc_law_sight.nd rfl (Or.inl rfl) (pe_ix ix_list (pe_lst (pa_cons pe_int (pa_cons pe_int (pa_cons pe_int pa_nil)))) (pe_op op_sub (pe_callB call_len_str (by rfl) T.len PySem.boot_len (pa_cons (pv 3) pa_nil)) pe_int) (fun _ _ => rfl)))
      (pss_cons (ps_if (pt_cmpR op_eq (pv 2) pe_str (nomark _)) (pss_one (ps_set (i := 4) sc_law_sight.nd rfl (Or.inl rfl) (pe_ix ix_list (pe_lst (pa_cons pe_int (pa_cons pe_int (pa_cons pe_int pa_nil)))) (pe_op op_sub (pe_callB call_len_str (by rfl) T.len PySem.boot_len (pa_cons (pv 3) pa_nil)) pe_int) (fun _ _ => rfl)))) pss_nil)
      (pss_one (ps_ret (pe_lst (pa_cons (pv 3) (pa_cons (pv 2) (pa_cons (pe_call G_draw hr (by rfl) c_draw.m c_draw.k c_draw.b .nil pass0 (pa_cons (pv 0) (pa_cons (pv 4) pa_nil))) pa_nil))))))))))), ?_⟩
    have b9 : ∀ m : Nat, m < 1000 → ((m : Nat) : Int).natAbs < 2 ^ 9000 := fun m hm => Nat.lt_of_lt_of_le (show _ < 2 ^ 12 by rw [Int.natAbs_natCast]; omega) (Nat.pow_le_pow_right (by decide) (by decide))
    have pne : ∀ {D : Addr}, H D = none → D ≠ p := fun {D} nD z => by
      obtain ⟨_, _, _, _, _, _, _, k1, _⟩ := hp
      rw [← z, nD] at k1; cases k1
    refine ⟨sizeLine_le (by show 5 ≤ _; decide), fun D1 n1 => ?_⟩
    have S1 := Stand.of (p := p) (same_new (o := .lst [.str "rank", .str "since", .str "once", .str "yesterday", .str "pieces"]) n1)
    refine ⟨_, rfl, p, a, b, n, _, rfl, hp.same (same_new n1), by omega, by decide, b9 5 (by decide), fun d1 H1 hd1 hp1 st1 => ?_⟩
    have st1' := S1.trans st1
    have hD1 : H1 D1 = _ := st1.1 D1 _ (pne n1) upd_same
    have e1 : ([V.str "rank", .str "since", .str "once", .str "yesterday", .str "pieces"])[d1]? = some (.str (nm5 (sortAt d1))) := by
      match d1, hd1 with
      | 0, _ => rfl
      | 1, _ => rfl
      | 2, _ => rfl
      | 3, _ => rfl
      | 4, _ => rfl
      | d + 5, h => omega
    refine ⟨D1, _, d1, _, rfl, rfl, SqL.of hD1, atI_nat e1, sizeLine_le (by show 4 ≤ _; decide), fun D2 n2 => ?_⟩
    have n2' := st1'.2 _ n2
    have S2 := Stand.of (p := p) (same_new (o := .lst [.str "ab", .str "a", .str "ab", .str "abc"]) n2)
    refine ⟨_, rfl, p, a, b, n + 1, _, rfl, hp1.same (same_new n2), by omega, by decide, b9 4 (by decide), fun d2 H2 hd2 hp2 st2 => ?_⟩
    have st2' := (st1'.trans S2).trans st2
    have hD2 : H2 D2 = _ := st2.1 D2 _ (pne n2') upd_same
    have e2 : ([V.str "ab", .str "a", .str "ab", .str "abc"])[d2]? = some (.str (tx (lettersAt d2))) := by
      match d2, hd2 with
      | 0, _ => rfl
      | 1, _ => rfl
      | 2, _ => rfl
      | 3, _ => rfl
      | d + 4, h => omega
    refine ⟨D2, _, d2, _, rfl, rfl, SqL.of hD2, atI_nat e2, ?_⟩
    generalize hq5 : sortAt d1 = q5
    have hA := lettersAt_alph d2
    generalize lettersAt d2 = L at hA
    refine ⟨_, rfl, great, rfl, ?_⟩
    cases great with
    | true =>
      refine iteT ?_
      refine ⟨_, rfl, _, rfl, _, rfl, p, a, b, n + 2, _, rfl, hp2, by omega, by decide, b9 8 (by decide), fun d3 H3 hd3 hp3 st3 => ⟨sizeLine_le (by show 3 ≤ _; decide), fun r nr => ?_⟩⟩
      have st3' := st2'.trans st3
      exact q q5 L d3 r _ hA (by omega) (fun z => by cases z) (hp3.same (same_new nr)) (st3'.trans (Stand.of (same_new nr))) (st3'.2 _ nr) upd_same
    | false =>
      refine iteF ?_
      have hlen := hA.len
      have em : (((tx L).length : Nat) : Int) - 1 = ((L.length - 1 : Nat) : Int) := by rw [tx_len]; omega
      have hLs : (tx L).length ≤ sizeLine := by rw [tx_len]; exact sizeLine_le (by omega)
      obtain ⟨t1, ht1, ht1b, ht1c⟩ : ∃ t : Nat, ([6, 3, 2] : List Nat).getD (L.length - 1) 0 = t ∧ ([V.int 6, .int 3, .int 2])[L.length - 1]? = some (.int (t : Nat)) ∧ 0 < t ∧ t ≤ 6 := by
        rcases hA with rfl | rfl | rfl
        · exact ⟨6, rfl, rfl, by decide⟩
        · exact ⟨3, rfl, rfl, by decide⟩
        · exact ⟨2, rfl, rfl, by decide⟩
      obtain ⟨t2, ht2, ht2b, ht2c⟩ : ∃ t : Nat, ([8, 6, 4] : List Nat).getD (L.length - 1) 0 = t ∧ ([V.int 8, .int 6, .int 4])[L.length - 1]? = some (.int (t : Nat)) ∧ 0 < t ∧ t ≤ 8 := by
        rcases hA with rfl | rfl | rfl
        · exact ⟨8, rfl, rfl, by decide⟩
        · exact ⟨6, rfl, rfl, by decide⟩
        · exact ⟨4, rfl, rfl, by decide⟩
      refine ⟨sizeLine_le (by show 3 ≤ _; decide), fun D3 n3 => ?_⟩
      have s3 := same_new (o := .lst [.int 6, .int 3, .int 2]) n3
      refine ⟨_, rfl, tx L, rfl, hLs, _, _, rfl, rfl, D3, _, _, .int (t1 : Nat), rfl, rfl, SqL.of upd_same, by show atI _ ((((tx L).length : Nat) : Int) - 1) = _; rw [em]; exact atI_nat ht1b, ?_⟩
      refine ⟨_, rfl, rfl, _, rfl, ?_⟩
      have ed : decide (V.str (nm5 q5) = V.str "yesterday") = decide (q5 = .fl true) := by
        cases q5 with
        | fl y => cases y <;> decide +kernel
        | lv s => cases s <;> decide +kernel
      rw [ed]
      by_cases cy : q5 = .fl true
      · rw [decide_eq_true cy]
        refine iteT ?_
        refine ⟨sizeLine_le (by show 3 ≤ _; decide), fun D4 n4 => ?_⟩
        have s4 := same_new (o := .lst [.int 8, .int 6, .int 4]) n4
        refine ⟨_, rfl, tx L, rfl, hLs, _, _, rfl, rfl, D4, _, _, .int (t2 : Nat), rfl, rfl, SqL.of upd_same, by show atI _ ((((tx L).length : Nat) : Int) - 1) = _; rw [em]; exact atI_nat ht2b, ?_⟩
        · subst cy
          refine ⟨_, rfl, _, rfl, _, rfl, _, rfl, p, a, b, n + 2, _, rfl, hp2.same (s3.trans s4), by omega, by omega, b9 _ (by omega), fun d3 H3 hd3 hp3 st3 => ⟨sizeLine_le (by show 3 ≤ _; decide), fun r nr => ?_⟩⟩
          have st3' := (st2'.trans (Stand.of (s3.trans s4))).trans st3
          refine q _ L d3 r _ hA ?_ (fun _ => ?_) (hp3.same (same_new nr)) (st3'.trans (Stand.of (same_new nr))) (st3'.2 _ nr) upd_same
          · omega
          · rw [show topOf (.fl true) L = t2 from ht2]; omega
      · rw [decide_eq_false cy]
        refine iteF ?_
        · have et : topOf q5 L = t1 := by
            rw [← ht1]
            cases q5 with
            | fl y => cases y with
              | true => exact absurd rfl cy
              | false => rfl
            | lv s => rfl
          refine ⟨_, rfl, _, rfl, _, rfl, _, rfl, p, a, b, n + 2, _, rfl, hp2.same s3, by omega, by omega, b9 _ (by omega), fun d3 H3 hd3 hp3 st3 => ⟨sizeLine_le (by show 3 ≤ _; decide), fun r nr => ?_⟩⟩
          have st3' := (st2'.trans (Stand.of s3)).trans st3
          refine q _ L d3 r _ hA ?_ (fun _ => ?_) (hp3.same (same_new nr)) (st3'.trans (Stand.of (same_new nr))) (st3'.2 _ nr) upd_same
          · omega
          · rw [et]; omega
end
end K71
end
section
set_option Elab.async false
set_option linter.all false
set_option maxRecDepth 100000
set_option maxHeartbeats 2000000
/-! _law_odd_sort -/
namespace K71
open PySem PySem.Spec SG NdefX LamX
open L2 hiding It
open PyProof.Rows hiding St
open Lv (Wd Srt IT)
theorem not_sorts {x : Str} (h : inV (.str x) sorts5 = true) : inV (.str (x ++ "s")) sorts5 = false := by
  obtain ⟨q, rfl⟩ := sort_of h
  cases q with
  | fl y => cases y <;> decide +kernel
  | lv s => cases s <;> decide +kernel
section
variable {P : Program} {w : World} {K : PySem.W.Frag} {mg : Str → Option Value} {base : Heap}
def spOddS : Sp := fun vs H Q _ => ∃ (p a b : Addr) (n : Nat), vs = [.ref p] ∧ PoolAt H p a b n ∧ n + 9 < 1000000 ∧
  ∀ (x : Str) H', inV (.str x) sorts5 = false → PoolAt H' p a b (n + 9) → Stand p H H' → Q (.str x) H'
theorem ok_oddS {f fw fs : Addr} {fd fdw fds : FuncData} {k : Nat} (F : Fun K "_law_odd_sort" "_law_odd_sort" s_law_odd_sort f fd) (T : Blt mg) (G_draw : FnOk P w K mg base CX0 k fw fdw ["pool", "many"] (spDraw K)) (c_draw : Df K mg "_law_draw" fw fdw ["pool", "many"])
    (G_sign : FnOk P w K mg base CX0 k fs fds ["pool"] (spSign K)) (c_sign : Df K mg "_law_sign" fs fds ["pool"]) :
    FnOk P w K mg base CX0 (k + 1) f fd ["pool"] spOddS := by
  refine F.ok sc_law_odd_sort (fun vs H Q E h => ?_) (fun cdv A outer s H vs Q E hr h => ?_)
  · obtain ⟨p, a, b, n, rfl, _⟩ := h
    rfl
  · obtain ⟨p, a, b, n, rfl, hp, hn, q⟩ := h
    refine ⟨_, (pss_cons (ps_set (i := 1) sc_law_odd_sort.nd rfl (Or.inl rfl) (pe_join pe_str (pe_lc (own := [("k", 3)]) (g := gName 3) rfl sc_law_odd_sort.nd (pi_range1 (by rfl) T.range (pa_cons (pe_call G_draw hr (by rfl) c_draw.m c_draw.k c_draw.b .nil pass0 (pa_cons (pv 0) (pa_cons pe_int pa_nil))) pa_nil)) (blkOk_by (own := [("k", 3)]) (N := N_law_odd_sort) (sc := defScope s_law_odd_sort) (by decide +kernel)) (fun _ _ _ _ _ => (pg_name (i := 3) sc_law_odd_sort.nd rfl (Or.inl rfl))) (fun _ _ _ _ _ => pts_nil)
      (fun _ _ _ _ _ => (pe_call G_sign hr (by rfl) c_sign.m c_sign.k c_sign.b .nil pass0 (pa_cons (pv 0) pa_nil))))))
      (pss_cons (ps_set (i := 2) sc_law_odd_sort.nd rfl (Or.inl rfl) (pe_lst (pa_cons pe_str (pa_cons pe_str (pa_cons pe_str (pa_cons pe_str (pa_cons pe_str (pa_cons pe_str (pa_cons pe_str (pa_cons pe_str pa_nil))))))))))
      (pss_cons (ps_set (i := 1) sc_law_odd_sort.nd rfl (Or.inl rfl) (pe_ix ix_list (pe_op op_cat (pv 2) (pe_lst (pa_cons (pv 1) pa_nil))) (pe_call G_draw hr (by rfl) c_draw.m c_draw.k c_draw.b .nil pass0 (pa_cons (pv 0) (pa_cons pe_int pa_nil))) (fun _ _ => rfl)))
      (pss_cons (ps_if (pt_cmpR op_in_seq (pv 1) (pe_lst (pa_cons pe_str (pa_cons pe_str (pa_cons pe_str (pa_cons pe_str (pa_cons pe_str pa_nil)))))) (by rfl)) (pss_one (ps_set (i := 1) sc_law_odd_sort.nd rfl (Or.inl rfl) (pe_op op_add_str (pv 1) pe_str))) pss_nil)
      (pss_one (ps_ret (pv 1))))))), ?_⟩
    have b9 : ∀ m : Nat, m < 1000 → ((m : Nat) : Int).natAbs < 2 ^ 9000 := fun m hm => Nat.lt_of_lt_of_le (show _ < 2 ^ 12 by rw [Int.natAbs_natCast]; omega) (Nat.pow_le_pow_right (by decide) (by decide))
    have pne : ∀ {D : Addr}, H D = none → D ≠ p := fun {D} nD z => by
      obtain ⟨_, _, _, _, _, _, _, k1, _⟩ := hp
      rw [← z, nD] at k1; cases k1
    refine ⟨⟨_, rfl⟩, _, rfl, p, a, b, n, _, rfl, hp, by omega, by decide, b9 8 (by decide), fun d0 H1 hd0 hp1 st1 => ?_⟩
    refine ⟨_, rfl, by omega, by omega, fun D nD => ?_⟩
    have nD0 := st1.2 _ nD
    refine lc_range (lo := 0) (n := d0) (fun i H' => ∃ u : List Nat, u.length = i ∧ (∀ c ∈ u, c < 128) ∧ PoolAt H' p a b (n + 1 + i) ∧ Stand p H H' ∧ H' D = some (.lst (u.map fun c => V.str (tx [c])))) ⟨[], rfl, (fun c h => nomatch h), hp1.same (same_new nD), st1.trans (Stand.of (same_new nD)), upd_same⟩ (fun i H' hi hP => ?_) (fun H' hP => ?_)
    · obtain ⟨u, hu, hc, hp', st, hD⟩ := hP
      refine ⟨rfl, ?_⟩
      refine ⟨_, rfl, p, a, b, n + 1 + i, rfl, hp', by omega, fun c H2 hc2 hp2 st2 => ?_⟩
      have hD2 := st2.1 _ _ (pne nD0) hD
      refine ⟨_, hD2, by rw [List.length_map, hu, sizeLine_eq]; omega, u ++ [c], by rw [List.length_append, hu] <;> rfl, fun e he => ?_, hp2.put hp nD0, (st.trans st2).putNew nD0, by rw [upd_same, List.map_append] <;> rfl⟩
      rcases List.mem_append.mp he with g | g
      · exact hc e g
      · rw [List.mem_singleton.mp g]; exact hc2
    · obtain ⟨u, hu, hc, hp', st, hD⟩ := hP
      refine ⟨"", D, u.map fun c => tx [c], rfl, rfl, .inl (SqL.of (by rw [hD, List.map_map] <;> rfl)), ?_, ?_⟩
      · have e1 : ((u.map fun c => tx [c]).map fun x => x.length).sum = u.length := by
          rw [List.map_map]
          have : ∀ l : List Nat, (l.map ((fun x : Str => x.length) ∘ fun c => tx [c])).sum = l.length := fun l => by
            induction l with
            | nil => rfl
            | cons c l ih =>
              rw [List.map_cons, List.sum_cons, ih, List.length_cons]
              show (tx [c]).length + _ = _
              rw [tx_len]
              show 1 + _ = _
              omega
          exact this u
        have e0 : (Str.ofString "").length = 0 := by decide +kernel
        rw [e1, e0]
        omega
      · rw [join_tx]
        have hul : (tx u).length ≤ 10 := by rw [tx_len]; omega
        generalize tx u = x0 at hul
        refine ⟨sizeLine_le (by show 8 ≤ _; decide), fun D2 n2 => ?_⟩
        have n2' := st.2 _ n2
        have s2 := same_new (o := .lst [.str "", .str "Rank", .str "since ", .str "yesterda", .str "piece", .str "waits", .str "both", .str "rank\n"]) n2
        refine ⟨_, rfl, _, rfl, sizeLine_le (by show 1 ≤ _; decide), fun D3 n3 => ?_⟩
        have s3 := same_new (o := .lst [.str x0]) n3
        refine ⟨D2, D3, _, _, rfl, rfl, s3 _ _ upd_same, upd_same, sizeLine_le (by show 8 + 1 ≤ _; decide), fun D4 n4 => ?_⟩
        have s4 := same_new (o := .lst ([.str "", .str "Rank", .str "since ", .str "yesterda", .str "piece", .str "waits", .str "both", .str "rank\n"] ++ [.str x0])) n4
        have sA := (s2.trans s3).trans s4
        have n4' : H D4 = none := st.2 _ ((s2.trans s3).free n4)
        refine ⟨_, rfl, p, a, b, n + 1 + d0, _, rfl, hp'.same sA, by omega, by decide, b9 9 (by decide), fun d1 H5 hd1 hp5 st5 => ?_⟩
        have st5' := (st.trans (Stand.of sA)).trans st5
        have hD4 := st5.1 D4 _ (pne n4') upd_same
        obtain ⟨x1, hx1, hl1⟩ : ∃ x1 : Str, ([V.str "", .str "Rank", .str "since ", .str "yesterda", .str "piece", .str "waits", .str "both", .str "rank\n"] ++ [V.str x0])[d1]? = some (.str x1) ∧ x1.length ≤ 10 := by
          match d1, hd1 with
          | 0, _ => exact ⟨_, rfl, by decide +kernel⟩
          | 1, _ => exact ⟨_, rfl, by decide +kernel⟩
          | 2, _ => exact ⟨_, rfl, by decide +kernel⟩
          | 3, _ => exact ⟨_, rfl, by decide +kernel⟩
          | 4, _ => exact ⟨_, rfl, by decide +kernel⟩
          | 5, _ => exact ⟨_, rfl, by decide +kernel⟩
          | 6, _ => exact ⟨_, rfl, by decide +kernel⟩
          | 7, _ => exact ⟨_, rfl, by decide +kernel⟩
          | 8, _ => exact ⟨_, rfl, hul⟩
          | d + 9, h => omega
        refine ⟨D4, _, d1, _, rfl, rfl, SqL.of hD4, atI_nat hx1, ?_⟩
        refine ⟨_, rfl, sizeLine_le (by show 5 ≤ _; decide), fun D6 n6 => ?_⟩
        have s6 := same_new (o := .lst sorts5) n6
        refine ⟨D6, sorts5, rfl, .inl (SqL.of upd_same), rfl, rfl, _, rfl, ?_⟩
        have hp6 := (hp5.same s6).le (show n + 1 + d0 + 1 ≤ n + 9 by omega)
        have st6 := st5'.trans (Stand.of s6)
        cases e : inV (.str x1) sorts5 with
        | true =>
          refine iteT ?_
          have e1 : (Str.ofString "s").length = 1 := by decide +kernel
          refine ⟨_, rfl, _, _, rfl, rfl, by rw [e1]; exact sizeLine_le (by omega), ?_⟩
          exact ⟨_, rfl, q _ _ (not_sorts e) hp6 st6⟩
        | false =>
          refine iteF ?_
          exact ⟨_, rfl, q _ _ e hp6 st6⟩
end
end K71
end
section
set_option Elab.async false
set_option linter.all false
set_option maxRecDepth 100000
set_option maxHeartbeats 2000000
/-! _law_plain -/
namespace K71
open PySem PySem.Spec SG NdefX LamX
open L2 hiding It
open PyProof.Rows hiding St
open Lv (Wd Srt IT)
def tagOf : PyData → String
  | .none => "NoneType"
  | .bool _ => "bool"
  | .int _ => "int"
  | .str _ => "str"
  | .list _ => "list"
  | .tuple _ => "tuple"
  | .dict _ => "dict"
def flagsOf (d : PyData) : List Bool := match d with
  | .none => [false, false, false, false, false, true]
  | .bool _ => [true, true, false, false, false, false]
  | .int _ => [false, true, false, false, false, false]
  | .str _ => [false, false, true, false, false, false]
  | .list _ => [false, false, false, true, false, false]
  | .tuple _ => [false, false, false, false, true, false]
  | .dict _ => [false, false, false, false, false, false]
section
variable {P : Program} {w : World} {K : PySem.W.Frag} {mg : Str → Option Value} {base : Heap} {H : Hp}
theorem tyx_dp {v : V} {d : PyData} (h : Dp K H v d) : TyX K H v (.type (tagOf d)) := by
  cases h with
  | non => exact .base .non
  | bl b => exact .base (.bl b)
  | int i => exact .base (.int i)
  | str x => exact .base (.str x)
  | lst hs _ =>
    rcases hs with (z | ⟨o, z⟩) | ⟨o, its, n, z, c, _⟩
    · exact .base (.lst z)
    · exact .base (.frz z)
    · exact .kList z c
  | tup hs _ =>
    rcases hs with (z | ⟨o, z⟩) | ⟨o, its, n, z, c, _⟩
    · exact .base (.tup z)
    · exact .fTuple z
    · exact .kTuple z c
def spPlain (K : PySem.W.Frag) : Sp := fun vs H Q _ => ∃ (v : V) (d : PyData), vs = [v] ∧ Dp K H v d ∧ ∀ r H', Same H H' → H' r = some (.lst ((flagsOf d).map V.bl)) → Q (.ref r) H'
theorem ok_plain {f : Addr} {fd : FuncData} {k : Nat} (F : Fun K "_law_plain" "_law_plain" s_law_plain f fd) (T : Blt mg) : FnOk P w K mg base CX0 (k + 1) f fd ["thing"] (spPlain K) := by
  refine F.ok sc_law_plain (fun vs H Q E h => ?_) (fun cdv A outer s H vs Q E hr h => ?_)
  · obtain ⟨v, d, rfl, _⟩ := h
    rfl
  · obtain ⟨v, d, rfl, hd, q⟩ := h
    refine ⟨_, (pss_cons (ps_set (i := 1) sc_law_plain.nd rfl (Or.inl rfl) (pe_lst
        (pa_cons (pe_callB call_isi (by rfl) T.isinstance (by decide +kernel) (pa_cons (pv 0) (pa_cons (pe_bltn (v := .ty "bool") (by rfl) T.bool (by decide +kernel) rfl) pa_nil)))
        (pa_cons (pe_callB call_isi (by rfl) T.isinstance (by decide +kernel) (pa_cons (pv 0) (pa_cons (pe_bltn (v := .ty "int") (by rfl) T.int (by decide +kernel) rfl) pa_nil)))
        (pa_cons (pe_callB call_isi (by rfl) T.isinstance (by decide +kernel) (pa_cons (pv 0) (pa_cons (pe_bltn (v := .ty "str") (by rfl) T.str (by decide +kernel) rfl) pa_nil))) pa_nil)))))
      (pss_one (ps_ret (pe_op op_cat (pv 1) (pe_lst
        (pa_cons (pe_callB call_isi (by rfl) T.isinstance (by decide +kernel) (pa_cons (pv 0) (pa_cons (pe_bltn (v := .ty "list") (by rfl) T.list (by decide +kernel) rfl) pa_nil)))
        (pa_cons (pe_callB call_isi (by rfl) T.isinstance (by decide +kernel) (pa_cons (pv 0) (pa_cons (pe_bltn (v := .ty "tuple") (by rfl) T.tuple (by decide +kernel) rfl) pa_nil)))
        (pa_cons (pe_cmpR op_isN (pv 0) pe_non (nomark _)) pa_nil)))))))), ?_⟩
    have ty := fun (H' : Hp) (s : Same H H') => tyx_dp (Dp.same s _ _ hd)
    have k0 : kitB (tagOf d) "bool" = some ((flagsOf d).getD 0 false) := by cases d <;> (dsimp only [tagOf, flagsOf]; decide +kernel)
    have k1 : kitB (tagOf d) "int" = some ((flagsOf d).getD 1 false) := by cases d <;> (dsimp only [tagOf, flagsOf]; decide +kernel)
    have k2 : kitB (tagOf d) "str" = some ((flagsOf d).getD 2 false) := by cases d <;> (dsimp only [tagOf, flagsOf]; decide +kernel)
    have k3 : kitB (tagOf d) "list" = some ((flagsOf d).getD 3 false) := by cases d <;> (dsimp only [tagOf, flagsOf]; decide +kernel)
    have k4 : kitB (tagOf d) "tuple" = some ((flagsOf d).getD 4 false) := by cases d <;> (dsimp only [tagOf, flagsOf]; decide +kernel)
    have k5 : decide (v = .non) = (flagsOf d).getD 5 false := by
      cases hd <;> first | rfl | decide +kernel | (rename_i x; exact decide_eq_false (fun z => nomatch z)) | exact decide_eq_false (fun z => nomatch z)
    have ef : [.bl ((flagsOf d).getD 0 false), .bl ((flagsOf d).getD 1 false), .bl ((flagsOf d).getD 2 false)] ++ [V.bl ((flagsOf d).getD 3 false), .bl ((flagsOf d).getD 4 false), .bl ((flagsOf d).getD 5 false)] = (flagsOf d).map V.bl := by cases d <;> rfl
    refine ⟨_, rfl, v, _, _, .type "bool", (flagsOf d).getD 0 false, rfl, .ty "bool", ty H (Same.refl H), kit_ty k0, ?_⟩
    refine ⟨_, rfl, v, _, _, .type "int", (flagsOf d).getD 1 false, rfl, .ty "int", ty H (Same.refl H), kit_ty k1, ?_⟩
    refine ⟨_, rfl, v, _, _, .type "str", (flagsOf d).getD 2 false, rfl, .ty "str", ty H (Same.refl H), kit_ty k2, sizeLine_le (by show 3 ≤ _; decide), fun D1 n1 => ?_⟩
    have s1 := same_new (o := .lst [.bl ((flagsOf d).getD 0 false), .bl ((flagsOf d).getD 1 false), .bl ((flagsOf d).getD 2 false)]) n1
    refine ⟨_, rfl, _, rfl, v, _, _, .type "list", (flagsOf d).getD 3 false, rfl, .ty "list", ty _ s1, kit_ty k3, ?_⟩
    refine ⟨_, rfl, v, _, _, .type "tuple", (flagsOf d).getD 4 false, rfl, .ty "tuple", ty _ s1, kit_ty k4, ?_⟩
    refine ⟨_, rfl, rfl, ?_⟩
    rw [k5]
    refine ⟨sizeLine_le (by show 3 ≤ _; decide), fun D2 n2 => ?_⟩
    have s2 := same_new (o := .lst [.bl ((flagsOf d).getD 3 false), .bl ((flagsOf d).getD 4 false), .bl ((flagsOf d).getD 5 false)]) n2
    refine ⟨D1, D2, _, _, rfl, rfl, s2 _ _ upd_same, upd_same, sizeLine_le (by show 3 + 3 ≤ _; decide), fun r nr => ?_⟩
    rw [ef]
    exact q r _ ((s1.trans s2).trans (same_new nr)) upd_same
end
end K71
end
section
set_option Elab.async false
set_option linter.all false
set_option maxRecDepth 100000
set_option maxHeartbeats 4000000
/-! _law_same -/
namespace K71
open PySem PySem.Spec SG NdefX LamX
open L2 hiding It
open PyProof.Rows hiding St
open Lv (Wd Srt IT)
def Scal : PyData → Prop
  | .none => False
  | .list _ => False
  | .tuple _ => False
  | .dict _ => False
  | _ => True
/-- data of a depth of at most n -/
def SameOk : Nat → PyData → Prop
  | 0, d => Scal d
  | n + 1, d => match d with
    | .list ds => ds.length ≤ 100000 ∧ ∀ x ∈ ds, SameOk n x
    | .tuple ds => ds.length ≤ 100000 ∧ ∀ x ∈ ds, SameOk n x
    | _ => Scal d
section
variable {P : Program} {w : World} {K : PySem.W.Frag} {mg : Str → Option Value} {base : Heap}
def isSeqD : PyData → Bool
  | .list _ => true
  | .tuple _ => true
  | _ => false
theorem kit_seq {d : PyData} : PySem.W.kitAny K (.type (tagOf d)) [.type "list", .type "tuple"] = some (isSeqD d) := by
  have g : ∀ {t : String} {b1 b2 : Bool}, kitB t "list" = some b1 → kitB t "tuple" = some b2 → PySem.W.kitAny K (.type t) [.type "list", .type "tuple"] = some (b1 || b2) := fun {t b1 b2} h1 h2 =>
    kitAny_cons (kit_ty h1) (fun e => kitAny_cons (kit_ty h2) (fun e2 => by rw [e, e2]; exact kitAny_nil) fun e2 => by rw [e, e2] <;> rfl) fun e => by rw [e] <;> rfl
  cases d with
  | none => exact g (t := "NoneType") (b1 := false) (b2 := false) (by decide +kernel) (by decide +kernel)
  | bool b => exact g (t := "bool") (b1 := false) (b2 := false) (by decide +kernel) (by decide +kernel)
  | int b => exact g (t := "int") (b1 := false) (b2 := false) (by decide +kernel) (by decide +kernel)
  | str b => exact g (t := "str") (b1 := false) (b2 := false) (by decide +kernel) (by decide +kernel)
  | list b => exact g (t := "list") (b1 := true) (b2 := false) (by decide +kernel) (by decide +kernel)
  | tuple b => exact g (t := "tuple") (b1 := false) (b2 := true) (by decide +kernel) (by decide +kernel)
  | dict b => exact g (t := "dict") (b1 := false) (b2 := false) (by decide +kernel) (by decide +kernel)
theorem dp_seq {H : Hp} {v : V} {d : PyData} {ds : List PyData} (h : Dp K H v d) (e : d = .list ds ∨ d = .tuple ds) : ∃ a xs, v = .ref a ∧ (SqL K H a xs ∨ SqT K H a xs) ∧ DpAll K H xs ds := by
  rcases e with rfl | rfl
  · obtain ⟨a, xs, e1, e2, e3⟩ := Dp.lstOf h
    exact ⟨a, xs, e1, .inl e2, e3⟩
  · obtain ⟨a, xs, e1, e2, e3⟩ := Dp.tupOf h
    exact ⟨a, xs, e1, .inr e2, e3⟩
def spSame (K : PySem.W.Frag) (n : Nat) : Sp := fun vs H Q _ => ∃ (v1 v2 : V) (d : PyData), vs = [v1, v2] ∧ Dp K H v1 d ∧ Dp K H v2 d ∧ SameOk n d ∧ ∀ H', Same H H' → Q (.bl true) H'
def spPrev (K : PySem.W.Frag) : Nat → Sp
  | 0 => fun _ _ _ _ => False
  | n + 1 => spSame K n
theorem fn_never {f : Addr} {fd : FuncData} {k : Nat} {ps : List Str} : FnOk P w K mg base CX0 k f fd ps (fun _ _ _ _ => False) := ⟨fun _ _ _ _ h => h.elim, fun _ _ _ _ _ _ _ _ _ _ _ _ _ h => h.elim⟩
/-- a list or a tuple -/
def Sq (K : PySem.W.Frag) (H : Hp) (a : Addr) (xs : List V) : Prop := SqL K H a xs ∨ SqT K H a xs
theorem Sq.same {H H' : Hp} {a : Addr} {xs : List V} (e : Same H H') (h : Sq K H a xs) : Sq K H' a xs := h.elim (fun h => .inl (e.seq h)) fun h => .inr (TupsStay.sqT (.of e) h)
theorem ok_same1 {f fp : Addr} {fd fdp : FuncData} {k n : Nat} (F : Fun K "_law_same" "_law_same" s_law_same f fd) (T : Blt mg) (c_same : Df K mg "_law_same" f fd ["told", "due"])
    (G_plain : FnOk P w K mg base CX0 k fp fdp ["thing"] (spPlain K)) (c_plain : Df K mg "_law_plain" fp fdp ["thing"]) (G_same : FnOk P w K mg base CX0 (k + n) f fd ["told", "due"] (spPrev K n)) :
    FnOk P w K mg base CX0 (k + n + 1) f fd ["told", "due"] (spSame K n) := by
  refine F.ok sc_law_same (fun vs H Q E h => ?_) (fun cdv A outer s H vs Q E hr h => ?_)
  · obtain ⟨v1, v2, d, rfl, _⟩ := h
    rfl
  · obtain ⟨v1, v2, d, rfl, h1, h2, hok, q⟩ := h
    have hrk : Room k (A.deeper (envOfC "_law_same" (defScope s_law_same) s.heap.objs.size f cdv)) := hr.mono (by omega)
    refine ⟨_, (pss_cons (ps_if (pt_cmpR (op_neD hr.units) (pe_call G_plain hrk (by rfl) c_plain.m c_plain.k c_plain.b .nil pass0 (pa_cons (pv 0) pa_nil)) (pe_call G_plain hrk (by rfl) c_plain.m c_plain.k c_plain.b .nil pass0 (pa_cons (pv 1) pa_nil)) (nomark _)) (pss_one (ps_ret pe_bl)) pss_nil)
      (pss_cons (ps_if (pt_not (pt_val (pe_callB call_isiT (by rfl) T.isinstance (by decide +kernel) (pa_cons (pv 1) (pa_cons (pe_tup (pa_cons (pe_bltn (v := .ty "list") (by rfl) T.list (by decide +kernel) rfl) (pa_cons (pe_bltn (v := .ty "tuple") (by rfl) T.tuple (by decide +kernel) rfl) pa_nil))) pa_nil))))) (pss_one (ps_ret (pe_cmpR op_eq (pv 0) (pv 1) (nomark _)))) pss_nil)
      (pss_cons (ps_if (pt_cmpR op_ne (pe_callB call_len_seq (by rfl) T.len PySem.boot_len (pa_cons (pv 0) pa_nil)) (pe_callB call_len_seq (by rfl) T.len PySem.boot_len (pa_cons (pv 1) pa_nil)) (nomark _)) (pss_one (ps_ret pe_bl)) pss_nil)
      (pss_cons (ps_for PassesOwn.never rfl (pi_range1 (by rfl) T.range (pa_cons (pe_callB call_len_seq (by rfl) T.len PySem.boot_len (pa_cons (pv 1) pa_nil)) pa_nil)) (pg_name (i := 2) sc_law_same.nd rfl (Or.inl rfl))
        (pss_one (ps_if (pt_not (pt_val (pe_call G_same hr (by rfl) c_same.m c_same.k c_same.b .nil pass0 (pa_cons (pe_ix ix_seq (pv 0) (pv 2) (fun _ _ => rfl)) (pa_cons (pe_ix ix_seq (pv 1) (pv 2) (fun _ _ => rfl)) pa_nil))))) (pss_one (ps_ret pe_bl)) pss_nil)))
      (pss_one (ps_ret pe_bl)))))), ?_⟩
    have hdp : ∀ (H' : Hp) (r : Addr), H' r = some (.lst ((flagsOf d).map V.bl)) → Dp K H' (.ref r) (.list ((flagsOf d).map PyData.bool)) := fun H' r e => by
      refine .lst (SqL.of e) ?_
      have : ∀ l : List Bool, DpAll K H' (l.map V.bl) (l.map PyData.bool) := fun l => by
        induction l with
        | nil => exact .nil
        | cons b l ih => exact .cons (.bl b) ih
      exact this _
    have hsh : SeqAt.shaped (.list ((flagsOf d).map PyData.bool)) = true := by cases d <;> (dsimp only [flagsOf, List.map]; decide +kernel)
    have hev : (!PyData.eqv (.list ((flagsOf d).map PyData.bool)) (.list ((flagsOf d).map PyData.bool))) = false := by cases d <;> (dsimp only [flagsOf, List.map]; decide +kernel)
    refine ⟨_, rfl, v1, d, rfl, h1, fun r1 H1 s1 e1 => ?_⟩
    refine ⟨_, rfl, v2, d, rfl, Dp.same s1 _ _ h2, fun r2 H2 s2 e2 => ?_⟩
    refine ⟨_, _, hdp _ _ (s2 _ _ e1), hdp _ _ e2, hsh, hsh, _, rfl, ?_⟩
    rw [hev]
    refine iteF ?_
    have sA := s1.trans s2
    have hd1 := Dp.same sA _ _ h1
    have hd2 := Dp.same sA _ _ h2
    refine ⟨_, rfl, sizeLine_le (by show 2 ≤ _; decide), fun tp ntp => ?_⟩
    have s3 := same_new (o := .tup [.ty "list", .ty "tuple"]) ntp
    refine ⟨v2, tp, _, _, _, isSeqD d, rfl, upd_same, .cons (.ty "list") (.cons (.ty "tuple") .nil), tyx_dp (Dp.same s3 _ _ hd2), kit_seq, _, rfl, ?_⟩
    have sB := sA.trans s3
    have b1 := Dp.same s3 _ _ hd1
    have b2 := Dp.same s3 _ _ hd2
    generalize hHB : upd H2 tp (.tup [.ty "list", .ty "tuple"]) = HB at sB b1 b2 ⊢
    cases hsq : isSeqD d with
    | false =>
      refine iteT ?_
      have hv : v1 = v2 ∧ scal v1 v2 = true := by
        cases d with
        | none => cases n <;> exact absurd hok (fun z => z)
        | bool b => cases b1; cases b2; exact ⟨rfl, rfl⟩
        | int b => cases b1; cases b2; exact ⟨rfl, rfl⟩
        | str b => cases b1; cases b2; exact ⟨rfl, rfl⟩
        | list b => cases hsq
        | tuple b => cases hsq
        | dict b => cases b1
      refine ⟨_, rfl, _, rfl, hv.2, ?_⟩
      rw [decide_eq_true hv.1]
      exact q HB sB
    | true =>
      refine iteF ?_
      obtain ⟨ds, hds⟩ : ∃ ds, d = .list ds ∨ d = .tuple ds := by
        cases d with
        | list ds => exact ⟨ds, .inl rfl⟩
        | tuple ds => exact ⟨ds, .inr rfl⟩
        | _ => cases hsq
      have hall : ∃ m, n = m + 1 ∧ ds.length ≤ 100000 ∧ ∀ x ∈ ds, SameOk m x := by
        cases n with
        | zero => rcases hds with rfl | rfl <;> exact absurd hok (fun z => z)
        | succ m => rcases hds with rfl | rfl <;> exact ⟨m, rfl, hok.1, hok.2⟩
      obtain ⟨m, rfl, hlen, hall⟩ := hall
      obtain ⟨a1, xs, rfl, x1, x2⟩ := dp_seq b1 hds
      obtain ⟨a2, ys, rfl, y1, y2⟩ := dp_seq b2 hds
      have lx : xs.length = ds.length := x2.len
      have ly : ys.length = ds.length := y2.len
      refine ⟨_, rfl, a1, xs, rfl, x1, _, rfl, a2, ys, rfl, y1, rfl, _, rfl, ?_⟩
      rw [show (!decide (V.int ((xs.length : Nat) : Int) = V.int ((ys.length : Nat) : Int))) = false by rw [lx, ly]; simp]
      refine iteF ?_
      refine ⟨_, rfl, a2, ys, rfl, y1, (ys.length : Int), rfl, by omega, by omega, for_range (lo := 0) (n := ys.length) (fun i σ H' => Same HB H' ∧ ∃ v2, σ = [some (.ref a1), some (.ref a2), v2]) ⟨Same.refl HB, none, rfl⟩ (fun i σ H' hi hP => ?_) (fun σ H' hP => ?_)⟩
      · obtain ⟨sm, v2, rfl⟩ := hP
        rw [Int.zero_add]
        obtain ⟨dd, hdd⟩ : ∃ dd, ds[i]? = some dd := ⟨_, List.getElem?_eq_getElem (by omega)⟩
        obtain ⟨x, ex, dx⟩ := x2.get hdd
        obtain ⟨y, ey, dy⟩ := y2.get hdd
        have ix : ∀ {a : Addr} {zs : List V} {z : V}, (SqL K HB a zs ∨ SqT K HB a zs) → zs[i]? = some z → ∀ Q : VK, Q z H' → rIx K (.ref a) (.int (i : Nat)) H' Q := fun {a zs z} hz e Q hq => by
          rcases hz with hz | hz
          · exact .inl ⟨a, zs, _, z, rfl, rfl, sm.seq hz, atI_nat e, hq⟩
          · exact .inr (.inl ⟨a, zs, _, z, rfl, rfl, TupsStay.sqT (.of sm) hz, atI_nat e, hq⟩)
        refine ⟨_, rfl, _, rfl, ix x1 ex _ ⟨_, rfl, _, rfl, ix y1 ey _ ?_⟩⟩
        refine ⟨x, y, dd, rfl, Dp.same sm _ _ dx, Dp.same sm _ _ dy, hall dd (List.mem_of_getElem? hdd), fun H2 s2 => ⟨_, rfl, ?_⟩⟩
        refine iteF ?_
        exact ⟨sm.trans s2, _, rfl⟩
      · obtain ⟨sm, v2, rfl⟩ := hP
        exact q H' (sB.trans sm)
theorem ok_same {f fp : Addr} {fd fdp : FuncData} {k : Nat} (F : Fun K "_law_same" "_law_same" s_law_same f fd) (T : Blt mg) (c_same : Df K mg "_law_same" f fd ["told", "due"])
    (G_plain : FnOk P w K mg base CX0 k fp fdp ["thing"] (spPlain K)) (c_plain : Df K mg "_law_plain" fp fdp ["thing"]) : ∀ n, FnOk P w K mg base CX0 (k + n + 1) f fd ["told", "due"] (spSame K n)
  | 0 => ok_same1 (n := 0) F T c_same G_plain c_plain (show FnOk P w K mg base CX0 (k + 0) f fd ["told", "due"] (fun _ _ _ _ => False) from fn_never)
  | n + 1 => ok_same1 (n := n + 1) F T c_same G_plain c_plain (ok_same F T c_same G_plain c_plain n)
end
end K71
end
section
set_option Elab.async false
set_option linter.all false
set_option maxRecDepth 100000
set_option maxHeartbeats 8000000
/-! _law_fault -/
namespace K71
open PySem PySem.Spec SG NdefX LamX
open L2 hiding It
open PyProof.Rows hiding St
open Lv (Wd Srt IT)
open L2H
section
variable {P : Program} {w : World} {K : PySem.W.Frag} {mg : Str → Option Value} {base : Heap}
/-- the error classes in the order in which the law asks for them -/
structure Errs (K : PySem.W.Frag) (mg : Str → Option Value) (C : Nat → Addr) (CN : Addr) : Prop where
  g0 : mg "BadDeed" = some (.ref (C 0))
  g1 : mg "BadLetters" = some (.ref (C 1))
  g2 : mg "BadName" = some (.ref (C 2))
  g3 : mg "BadNumber" = some (.ref (C 3))
  g4 : mg "BadRow" = some (.ref (C 4))
  g5 : mg "BadSort" = some (.ref (C 5))
  g6 : mg "BadState" = some (.ref (C 6))
  g7 : mg "BadText" = some (.ref (C 7))
  g8 : mg "BadWord" = some (.ref (C 8))
  g9 : mg "Free" = some (.ref (C 9))
  g10 : mg "Future" = some (.ref (C 10))
  g11 : mg "NoElement" = some (.ref (C 11))
  g12 : mg "NoMember" = some (.ref (C 12))
  g13 : mg "NoName" = some (.ref (C 13))
  g14 : mg "NoneThere" = some (.ref (C 14))
  g15 : mg "NothingThere" = some (.ref (C 15))
  g16 : mg "OtherLetters" = some (.ref (C 16))
  g17 : mg "Past" = some (.ref (C 17))
  g18 : mg "Refused" = some (.ref (C 18))
  g19 : mg "SameName" = some (.ref (C 19))
  g20 : mg "TooLarge" = some (.ref (C 20))
  g21 : mg "Untrue" = some (.ref (C 21))
  gN : mg "NocountersError" = some (.ref CN)
  gV : mg "ValueError" = none
/-- D is the class number j -/
structure OfErr (K : PySem.W.Frag) (C : Nat → Addr) (CN D : Addr) (j : Nat) : Prop where
  lt : j < 22
  ask : PySem.Nxc.AskC K D
  kit : ∀ i, i < 22 → PySem.W.kitOne K (.ref D) (.ref (C i)) = some (decide (i = j))
  kitN : PySem.W.kitOne K (.ref D) (.ref CN) = some true
  kitV : PySem.W.kitOne K (.ref D) (.type "ValueError") = some true
def spFault (K : PySem.W.Frag) (C : Nat → Addr) (CN : Addr) (B : Heap) : Sp := fun vs H Q _ => ∃ (a D d : Addr) (fs : List (Str × V)) (j : Nat), vs = [.ref a] ∧ ErrAt B a D d ∧ H d = some (.xd fs) ∧ OfErr K C CN D j ∧ ∀ r H', Same H H' → H' r = some (.lst [.int (j : Nat)]) → Q (.ref r) H'
theorem Fun.okH {CX : CXT} {x qual : Str} {st : Stmt} {f : Addr} {fd : FuncData} {N ps : List Str} {k : Nat} {sp : Sp} (F : Fun K x qual st f fd) (S : FnScope N ps (defScope st)) (len : ∀ vs H Q E, sp vs H Q E → vs.length = ps.length)
    (hbody : ∀ (cdv : Value) (A : Around) (outer : List Env) (s : Shared) (H : Hp) (vs : List V) (Q : VK) (E : XK) (p : Addr × Obj), Hot1 A p → RoomH k (A.deeper (envOfC qual (defScope st) s.heap.objs.size f cdv)) → sp vs H Q E →
      ∃ t, PSs (cxH CX P w K mg base N qual (defScope st) f cdv A outer s H E p) (defBody st) t ∧ t { nx := fun _ H' => Q .non H', rt := Q } (L2.start N vs) H) : FnH P w K mg base CX (k + 1) f fd ps sp := by
  obtain ⟨oc, od, kV, doc, pm, an, cdv, ct, osl, rfl, lk, hcd⟩ := F.ex
  exact fn_ofH lk hcd S len fun A outer s H vs Q E p hot hr hsp => hbody cdv A outer s H vs Q E p hot hr hsp
def bools (n j : Nat) : List V := (List.range n).map fun i => V.bl (decide (i = j))
theorem bools_app (n m j : Nat) : bools n j ++ ((List.range m).map fun i => V.bl (decide (n + i = j))) = bools (n + m) j := by
  unfold bools
  rw [List.range_add, List.map_append, List.map_map] <;> rfl
theorem ok_fault {f CN : Addr} {C : Nat → Addr} {fd : FuncData} {k : Nat} (F : Fun K "_law_fault" "_law_fault" s_law_fault f fd) (T : Blt mg) (Er : Errs K mg C CN) : ∀ B, FnH P w K mg B CX0 (k + 1) f fd ["e"] (spFault K C CN B) := fun B => by
  refine Fun.okH F sc_law_fault (fun vs H Q E h => ?_) (fun cdv A outer s H vs Q E p hot hr h => ?_)
  · obtain ⟨a, D, d, fs, j, rfl, _⟩ := h
    rfl
  · obtain ⟨a, D, d, fs, j, rfl, he, hd, hO, q⟩ := h
    have hC : HotC (cxH CX0 P w K mg B N_law_fault "_law_fault" (defScope s_law_fault) f cdv A outer s H E p) := ⟨p, hot, List.mem_singleton.mpr rfl⟩
    refine ⟨_, (pss_cons (ps_set (i := 1) sc_law_fault.nd rfl (Or.inr rfl) (pe_lst (pa_cons (pe_callB call_isX (by rfl) T.isinstance (by decide +kernel) (pa_cons (pv 0) (pa_cons (pe_glob (v := .ref (C 0)) (by rfl) Er.g0 rfl) pa_nil))) (pa_cons (pe_callB call_isX (by rfl) T.isinstance (by decide +kernel) (pa_cons (pv 0) (pa_cons (pe_glob (v := .ref (C 1)) (by rfl) Er.g1 rfl) pa_nil))) (pa_cons (pe_callB call_isX (by rfl) T.isinstance (by decide +kernel) (pa_cons (pv 0) (pa_cons (pe_glob (v := .ref (C 2)) (by rfl) Er.g2 rfl) pa_nil))) pa_nil)))))
      (pss_cons (ps_set (i := 1) sc_law_fault.nd rfl (Or.inr rfl) (pe_op op_cat (pv 1) (pe_lst (pa_cons (pe_callB call_isX (by rfl) T.isinstance (by decide +kernel) (pa_cons (pv 0) (pa_cons (pe_glob (v := .ref (C 3)) (by rfl) Er.g3 rfl) pa_nil))) (pa_cons (pe_callB call_isX (by rfl) T.isinstance (by decide +kernel) (pa_cons (pv 0) (pa_cons (pe_glob (v := .ref (C 4)) (by rfl) Er.g4 rfl) pa_nil))) (pa_cons (pe_callB call_isX (by rfl) T.isinstance (by decide +kernel) (pa_cons (pv 0) (pa_cons (pe_glob (v := .ref (C 5)) (by rfl) Er.g5 rfl) pa_nil))) pa_nil))))))
      (pss_cons (ps_set (i := 1) sc_law_fault.nd rfl (Or.inr rfl) (pe_op op_cat (pv 1) (pe_lst (pa_cons (pe_callB call_isX (by rfl) T.isinstance (by decide +kernel) (pa_cons (pv 0) (pa_cons (pe_glob (v := .ref (C 6)) (by rfl) Er.g6 rfl) pa_nil))) (pa_cons (pe_callB call_isX (by rfl) T.isinstance (by decide +kernel) (pa_cons (pv 0) (pa_cons (pe_glob (v := .ref (C 7)) (by rfl) Er.g7 rfl) pa_nil))) (pa_cons (pe_callB call_isX (by rfl) T.isinstance (by decide +kernel) (pa_cons (pv 0) (pa_cons (pe_glob (v := .ref (C 8)) (by rfl) Er.g8 rfl) pa_nil))) pa_nil))))))
      (pss_cons (ps_set (i := 1) sc_law_fault.nd rfl (Or.inr rfl) (pe_op op_cat (pv 1) (pe_lst (pa_cons (pe_callB call_isX (by rfl) T.isinstance (by decide +kernel) (pa_cons (pv 0) (pa_cons (pe_glob (v := .ref (C 9)) (by rfl) Er.g9 rfl) pa_nil))) (pa_cons (pe_callB call_isX (by rfl) T.isinstance (by decide +kernel) (pa_cons (pv 0) (pa_cons (pe_glob (v := .ref (C 10)) (by rfl) Er.g10 rfl) pa_nil))) (pa_cons (pe_callB call_isX (by rfl) T.isinstance (by decide +kernel) (pa_cons (pv 0) (pa_cons (pe_glob (v := .ref (C 11)) (by rfl) Er.g11 rfl) pa_nil))) pa_nil))))))
      (pss_cons (ps_set (i := 1) sc_law_fault.nd rfl (Or.inr rfl) (pe_op op_cat (pv 1) (pe_lst (pa_cons (pe_callB call_isX (by rfl) T.isinstance (by decide +kernel) (pa_cons (pv 0) (pa_cons (pe_glob (v := .ref (C 12)) (by rfl) Er.g12 rfl) pa_nil))) (pa_cons (pe_callB call_isX (by rfl) T.isinstance (by decide +kernel) (pa_cons (pv 0) (pa_cons (pe_glob (v := .ref (C 13)) (by rfl) Er.g13 rfl) pa_nil))) (pa_cons (pe_callB call_isX (by rfl) T.isinstance (by decide +kernel) (pa_cons (pv 0) (pa_cons (pe_glob (v := .ref (C 14)) (by rfl) Er.g14 rfl) pa_nil))) pa_nil))))))
      (pss_cons (ps_set (i := 1) sc_law_fault.nd rfl (Or.inr rfl) (pe_op op_cat (pv 1) (pe_lst (pa_cons (pe_callB call_isX (by rfl) T.isinstance (by decide +kernel) (pa_cons (pv 0) (pa_cons (pe_glob (v := .ref (C 15)) (by rfl) Er.g15 rfl) pa_nil))) (pa_cons (pe_callB call_isX (by rfl) T.isinstance (by decide +kernel) (pa_cons (pv 0) (pa_cons (pe_glob (v := .ref (C 16)) (by rfl) Er.g16 rfl) pa_nil))) pa_nil)))))
      (pss_cons (ps_set (i := 1) sc_law_fault.nd rfl (Or.inr rfl) (pe_op op_cat (pv 1) (pe_lst (pa_cons (pe_callB call_isX (by rfl) T.isinstance (by decide +kernel) (pa_cons (pv 0) (pa_cons (pe_glob (v := .ref (C 17)) (by rfl) Er.g17 rfl) pa_nil))) (pa_cons (pe_callB call_isX (by rfl) T.isinstance (by decide +kernel) (pa_cons (pv 0) (pa_cons (pe_glob (v := .ref (C 18)) (by rfl) Er.g18 rfl) pa_nil))) (pa_cons (pe_callB call_isX (by rfl) T.isinstance (by decide +kernel) (pa_cons (pv 0) (pa_cons (pe_glob (v := .ref (C 19)) (by rfl) Er.g19 rfl) pa_nil))) pa_nil))))))
      (pss_cons (ps_set (i := 1) sc_law_fault.nd rfl (Or.inr rfl) (pe_op op_cat (pv 1) (pe_lst (pa_cons (pe_callB call_isX (by rfl) T.isinstance (by decide +kernel) (pa_cons (pv 0) (pa_cons (pe_glob (v := .ref (C 20)) (by rfl) Er.g20 rfl) pa_nil))) (pa_cons (pe_callB call_isX (by rfl) T.isinstance (by decide +kernel) (pa_cons (pv 0) (pa_cons (pe_glob (v := .ref (C 21)) (by rfl) Er.g21 rfl) pa_nil))) pa_nil)))))
      (pss_cons (ps_set (i := 1) sc_law_fault.nd rfl (Or.inr rfl) (pe_op op_cat (pv 1) (pe_lst (pa_cons (pe_not (pe_callB call_isX (by rfl) T.isinstance (by decide +kernel) (pa_cons (pv 0) (pa_cons (pe_glob (v := .ref CN) (by rfl) Er.gN rfl) pa_nil)))) (pa_cons (pe_not (pe_callB call_isX (by rfl) T.isinstance (by decide +kernel) (pa_cons (pv 0) (pa_cons (pe_bltn (v := .ty "ValueError") (by rfl) Er.gV (by decide +kernel) rfl) pa_nil)))) pa_nil)))))
      (pss_one (ps_ret (pe_lcHot (own := [("k", 2)]) (g := gName 2) hC sc_law_fault.nd (pi_range1H (by rfl) T.range (pa_cons (pe_callB call_len_seq (by rfl) T.len PySem.boot_len (pa_cons (pv 1) pa_nil)) pa_nil)) (blkOk_by (own := [("k", 2)]) (N := N_law_fault) (sc := defScope s_law_fault) (by decide +kernel)) (fun _ _ _ _ _ => (pg_name (i := 2) sc_law_fault.nd rfl (Or.inl rfl))) (fun _ _ _ _ _ => (pts_one (pt_val (pe_ix (ix_listK (K := K) rfl) (pv 1) (pv 2) (fun _ _ => rfl))))) (fun _ _ _ _ _ => (pv 2)))))))))))))), ?_⟩
    have hd0 : _ := (Same.refl H) _ _ hd
    refine ⟨_, rfl, a, D, d, fs, _, _, decide (0 = j), rfl, he, hd0, hO.ask, fun u r => r, hO.kit 0 (by decide), ?_⟩
    refine ⟨_, rfl, a, D, d, fs, _, _, decide (1 = j), rfl, he, hd0, hO.ask, fun u r => r, hO.kit 1 (by decide), ?_⟩
    refine ⟨_, rfl, a, D, d, fs, _, _, decide (2 = j), rfl, he, hd0, hO.ask, fun u r => r, hO.kit 2 (by decide), ?_⟩
    refine ⟨sizeLine_le (by show 3 ≤ _; decide), fun L0 nL0 => ?_⟩
    have t0 := ((Same.refl H)).trans (same_new (o := .lst [.bl (decide (0 = j)), .bl (decide (1 = j)), .bl (decide (2 = j))]) nL0)
    have own0 : ∀ H0 : Hp, (upd H0 L0 (.lst [.bl (decide (0 = j)), .bl (decide (1 = j)), .bl (decide (2 = j))])) L0 = some (.lst (bools 3 j)) := fun _ => upd_same
    have o0 := own0 H
    refine ⟨_, rfl, ?_⟩
    have hd1 : _ := t0 _ _ hd
    refine ⟨_, rfl, a, D, d, fs, _, _, decide (3 = j), rfl, he, hd1, hO.ask, fun u r => r, hO.kit 3 (by decide), ?_⟩
    refine ⟨_, rfl, a, D, d, fs, _, _, decide (4 = j), rfl, he, hd1, hO.ask, fun u r => r, hO.kit 4 (by decide), ?_⟩
    refine ⟨_, rfl, a, D, d, fs, _, _, decide (5 = j), rfl, he, hd1, hO.ask, fun u r => r, hO.kit 5 (by decide), ?_⟩
    refine ⟨sizeLine_le (by show 3 ≤ _; decide), fun L1 nL1 => ?_⟩
    have t1 := (t0).trans (same_new (o := .lst [.bl (decide (3 = j)), .bl (decide (4 = j)), .bl (decide (5 = j))]) nL1)
    have p1 := (same_new (o := .lst [.bl (decide (3 = j)), .bl (decide (4 = j)), .bl (decide (5 = j))]) nL1) _ _ o0
    refine ⟨_, _, _, _, rfl, rfl, p1, upd_same, sizeLine_le (by show 6 ≤ _; decide), fun M1 nM1 => ?_⟩
    have e1 : bools 3 j ++ [.bl (decide (3 = j)), .bl (decide (4 = j)), .bl (decide (5 = j))] = bools 6 j := by
      exact bools_app 3 3 j
    rw [e1]
    have u1 := t1.trans (same_new (o := .lst (bools 6 j)) nM1)
    have o1 : (upd (upd (upd H L0 (.lst [.bl (decide (0 = j)), .bl (decide (1 = j)), .bl (decide (2 = j))])) L1 (.lst [.bl (decide (3 = j)), .bl (decide (4 = j)), .bl (decide (5 = j))])) M1 (.lst (bools 6 j))) M1 = some (.lst (bools 6 j)) := upd_same
    refine ⟨_, rfl, ?_⟩
    have hd2 : _ := u1 _ _ hd
    refine ⟨_, rfl, a, D, d, fs, _, _, decide (6 = j), rfl, he, hd2, hO.ask, fun u r => r, hO.kit 6 (by decide), ?_⟩
    refine ⟨_, rfl, a, D, d, fs, _, _, decide (7 = j), rfl, he, hd2, hO.ask, fun u r => r, hO.kit 7 (by decide), ?_⟩
    refine ⟨_, rfl, a, D, d, fs, _, _, decide (8 = j), rfl, he, hd2, hO.ask, fun u r => r, hO.kit 8 (by decide), ?_⟩
    refine ⟨sizeLine_le (by show 3 ≤ _; decide), fun L2 nL2 => ?_⟩
    have t2 := (u1).trans (same_new (o := .lst [.bl (decide (6 = j)), .bl (decide (7 = j)), .bl (decide (8 = j))]) nL2)
    have p2 := (same_new (o := .lst [.bl (decide (6 = j)), .bl (decide (7 = j)), .bl (decide (8 = j))]) nL2) _ _ o1
    refine ⟨_, _, _, _, rfl, rfl, p2, upd_same, sizeLine_le (by show 9 ≤ _; decide), fun M2 nM2 => ?_⟩
    have e2 : bools 6 j ++ [.bl (decide (6 = j)), .bl (decide (7 = j)), .bl (decide (8 = j))] = bools 9 j := by
      exact bools_app 6 3 j
    rw [e2]
    have u2 := t2.trans (same_new (o := .lst (bools 9 j)) nM2)
    have o2 : (upd (upd (upd (upd (upd H L0 (.lst [.bl (decide (0 = j)), .bl (decide (1 = j)), .bl (decide (2 = j))])) L1 (.lst [.bl (decide (3 = j)), .bl (decide (4 = j)), .bl (decide (5 = j))])) M1 (.lst (bools 6 j))) L2 (.lst [.bl (decide (6 = j)), .bl (decide (7 = j)), .bl (decide (8 = j))])) M2 (.lst (bools 9 j))) M2 = some (.lst (bools 9 j)) := upd_same
    refine ⟨_, rfl, ?_⟩
    have hd3 : _ := u2 _ _ hd
    refine ⟨_, rfl, a, D, d, fs, _, _, decide (9 = j), rfl, he, hd3, hO.ask, fun u r => r, hO.kit 9 (by decide), ?_⟩
    refine ⟨_, rfl, a, D, d, fs, _, _, decide (10 = j), rfl, he, hd3, hO.ask, fun u r => r, hO.kit 10 (by decide), ?_⟩
    refine ⟨_, rfl, a, D, d, fs, _, _, decide (11 = j), rfl, he, hd3, hO.ask, fun u r => r, hO.kit 11 (by decide), ?_⟩
    refine ⟨sizeLine_le (by show 3 ≤ _; decide), fun L3 nL3 => ?_⟩
    have t3 := (u2).trans (same_new (o := .lst [.bl (decide (9 = j)), .bl (decide (10 = j)), .bl (decide (11 = j))]) nL3)
    have p3 := (same_new (o := .lst [.bl (decide (9 = j)), .bl (decide (10 = j)), .bl (decide (11 = j))]) nL3) _ _ o2
    refine ⟨_, _, _, _, rfl, rfl, p3, upd_same, sizeLine_le (by show 12 ≤ _; decide), fun M3 nM3 => ?_⟩
    have e3 : bools 9 j ++ [.bl (decide (9 = j)), .bl (decide (10 = j)), .bl (decide (11 = j))] = bools 12 j := by
      exact bools_app 9 3 j
    rw [e3]
    have u3 := t3.trans (same_new (o := .lst (bools 12 j)) nM3)
    have o3 : (upd (upd (upd (upd (upd (upd (upd H L0 (.lst [.bl (decide (0 = j)), .bl (decide (1 = j)), .bl (decide (2 = j))])) L1 (.lst [.bl (decide (3 = j)), .bl (decide (4 = j)), .bl (decide (5 = j))])) M1 (.lst (bools 6 j))) L2 (.lst [.bl (decide (6 = j)), .bl (decide (7 = j)), .bl (decide (8 = j))])) M2 (.lst (bools 9 j))) L3 (.lst [.bl (decide (9 = j)), .bl (decide (10 = j)), .bl (decide (11 = j))])) M3 (.lst (bools 12 j))) M3 = some (.lst (bools 12 j)) := upd_same
    refine ⟨_, rfl, ?_⟩
    have hd4 : _ := u3 _ _ hd
    refine ⟨_, rfl, a, D, d, fs, _, _, decide (12 = j), rfl, he, hd4, hO.ask, fun u r => r, hO.kit 12 (by decide), ?_⟩
    refine ⟨_, rfl, a, D, d, fs, _, _, decide (13 = j), rfl, he, hd4, hO.ask, fun u r => r, hO.kit 13 (by decide), ?_⟩
    refine ⟨_, rfl, a, D, d, fs, _, _, decide (14 = j), rfl, he, hd4, hO.ask, fun u r => r, hO.kit 14 (by decide), ?_⟩
    refine ⟨sizeLine_le (by show 3 ≤ _; decide), fun L4 nL4 => ?_⟩
    have t4 := (u3).trans (same_new (o := .lst [.bl (decide (12 = j)), .bl (decide (13 = j)), .bl (decide (14 = j))]) nL4)
    have p4 := (same_new (o := .lst [.bl (decide (12 = j)), .bl (decide (13 = j)), .bl (decide (14 = j))]) nL4) _ _ o3
    refine ⟨_, _, _, _, rfl, rfl, p4, upd_same, sizeLine_le (by show 15 ≤ _; decide), fun M4 nM4 => ?_⟩
    have e4 : bools 12 j ++ [.bl (decide (12 = j)), .bl (decide (13 = j)), .bl (decide (14 = j))] = bools 15 j := by
      exact bools_app 12 3 j
    rw [e4]
    have u4 := t4.trans (same_new (o := .lst (bools 15 j)) nM4)
    have o4 : (upd (upd (upd (upd (upd (upd (upd (upd (upd H L0 (.lst [.bl (decide (0 = j)), .bl (decide (1 = j)), .bl (decide (2 = j))])) L1 (.lst [.bl (decide (3 = j)), .bl (decide (4 = j)), .bl (decide (5 = j))])) M1 (.lst (bools 6 j))) L2 (.lst [.bl (decide (6 = j)), .bl (decide (7 = j)), .bl (decide (8 = j))])) M2 (.lst (bools 9 j))) L3 (.lst [.bl (decide (9 = j)), .bl (decide (10 = j)), .bl (decide (11 = j))])) M3 (.lst (bools 12 j))) L4 (.lst [.bl (decide (12 = j)), .bl (decide (13 = j)), .bl (decide (14 = j))])) M4 (.lst (bools 15 j))) M4 = some (.lst (bools 15 j)) := upd_same
    refine ⟨_, rfl, ?_⟩
    have hd5 : _ := u4 _ _ hd
    refine ⟨_, rfl, a, D, d, fs, _, _, decide (15 = j), rfl, he, hd5, hO.ask, fun u r => r, hO.kit 15 (by decide), ?_⟩
    refine ⟨_, rfl, a, D, d, fs, _, _, decide (16 = j), rfl, he, hd5, hO.ask, fun u r => r, hO.kit 16 (by decide), ?_⟩
    refine ⟨sizeLine_le (by show 2 ≤ _; decide), fun L5 nL5 => ?_⟩
    have t5 := (u4).trans (same_new (o := .lst [.bl (decide (15 = j)), .bl (decide (16 = j))]) nL5)
    have p5 := (same_new (o := .lst [.bl (decide (15 = j)), .bl (decide (16 = j))]) nL5) _ _ o4
    refine ⟨_, _, _, _, rfl, rfl, p5, upd_same, sizeLine_le (by show 17 ≤ _; decide), fun M5 nM5 => ?_⟩
    have e5 : bools 15 j ++ [.bl (decide (15 = j)), .bl (decide (16 = j))] = bools 17 j := by
      exact bools_app 15 2 j
    rw [e5]
    have u5 := t5.trans (same_new (o := .lst (bools 17 j)) nM5)
    have o5 : (upd (upd (upd (upd (upd (upd (upd (upd (upd (upd (upd H L0 (.lst [.bl (decide (0 = j)), .bl (decide (1 = j)), .bl (decide (2 = j))])) L1 (.lst [.bl (decide (3 = j)), .bl (decide (4 = j)), .bl (decide (5 = j))])) M1 (.lst (bools 6 j))) L2 (.lst [.bl (decide (6 = j)), .bl (decide (7 = j)), .bl (decide (8 = j))])) M2 (.lst (bools 9 j))) L3 (.lst [.bl (decide (9 = j)), .bl (decide (10 = j)), .bl (decide (11 = j))])) M3 (.lst (bools 12 j))) L4 (.lst [.bl (decide (12 = j)), .bl (decide (13 = j)), .bl (decide (14 = j))])) M4 (.lst (bools 15 j))) L5 (.lst [.bl (decide (15 = j)), .bl (decide (16 = j))])) M5 (.lst (bools 17 j))) M5 = some (.lst (bools 17 j)) := upd_same
    refine ⟨_, rfl, ?_⟩
    have hd6 : _ := u5 _ _ hd
    refine ⟨_, rfl, a, D, d, fs, _, _, decide (17 = j), rfl, he, hd6, hO.ask, fun u r => r, hO.kit 17 (by decide), ?_⟩
    refine ⟨_, rfl, a, D, d, fs, _, _, decide (18 = j), rfl, he, hd6, hO.ask, fun u r => r, hO.kit 18 (by decide), ?_⟩
    refine ⟨_, rfl, a, D, d, fs, _, _, decide (19 = j), rfl, he, hd6, hO.ask, fun u r => r, hO.kit 19 (by decide), ?_⟩
    refine ⟨sizeLine_le (by show 3 ≤ _; decide), fun L6 nL6 => ?_⟩
    have t6 := (u5).trans (same_new (o := .lst [.bl (decide (17 = j)), .bl (decide (18 = j)), .bl (decide (19 = j))]) nL6)
    have p6 := (same_new (o := .lst [.bl (decide (17 = j)), .bl (decide (18 = j)), .bl (decide (19 = j))]) nL6) _ _ o5
    refine ⟨_, _, _, _, rfl, rfl, p6, upd_same, sizeLine_le (by show 20 ≤ _; decide), fun M6 nM6 => ?_⟩
    have e6 : bools 17 j ++ [.bl (decide (17 = j)), .bl (decide (18 = j)), .bl (decide (19 = j))] = bools 20 j := by
      exact bools_app 17 3 j
    rw [e6]
    have u6 := t6.trans (same_new (o := .lst (bools 20 j)) nM6)
    have o6 : (upd (upd (upd (upd (upd (upd (upd (upd (upd (upd (upd (upd (upd H L0 (.lst [.bl (decide (0 = j)), .bl (decide (1 = j)), .bl (decide (2 = j))])) L1 (.lst [.bl (decide (3 = j)), .bl (decide (4 = j)), .bl (decide (5 = j))])) M1 (.lst (bools 6 j))) L2 (.lst [.bl (decide (6 = j)), .bl (decide (7 = j)), .bl (decide (8 = j))])) M2 (.lst (bools 9 j))) L3 (.lst [.bl (decide (9 = j)), .bl (decide (10 = j)), .bl (decide (11 = j))])) M3 (.lst (bools 12 j))) L4 (.lst [.bl (decide (12 = j)), .bl (decide (13 = j)), .bl (decide (14 = j))])) M4 (.lst (bools 15 j))) L5 (.lst [.bl (decide (15 = j)), .bl (decide (16 = j))])) M5 (.lst (bools 17 j))) L6 (.lst [.bl (decide (17 = j)), .bl (decide (18 = j)), .bl (decide (19 = j))])) M6 (.lst (bools 20 j))) M6 = some (.lst (bools 20 j)) := upd_same
    refine ⟨_, rfl, ?_⟩
    have hd7 : _ := u6 _ _ hd
    refine ⟨_, rfl, a, D, d, fs, _, _, decide (20 = j), rfl, he, hd7, hO.ask, fun u r => r, hO.kit 20 (by decide), ?_⟩
    refine ⟨_, rfl, a, D, d, fs, _, _, decide (21 = j), rfl, he, hd7, hO.ask, fun u r => r, hO.kit 21 (by decide), ?_⟩
    refine ⟨sizeLine_le (by show 2 ≤ _; decide), fun L7 nL7 => ?_⟩
    have t7 := (u6).trans (same_new (o := .lst [.bl (decide (20 = j)), .bl (decide (21 = j))]) nL7)
    have p7 := (same_new (o := .lst [.bl (decide (20 = j)), .bl (decide (21 = j))]) nL7) _ _ o6
    refine ⟨_, _, _, _, rfl, rfl, p7, upd_same, sizeLine_le (by show 22 ≤ _; decide), fun M7 nM7 => ?_⟩
    have e7 : bools 20 j ++ [.bl (decide (20 = j)), .bl (decide (21 = j))] = bools 22 j := by
      exact bools_app 20 2 j
    rw [e7]
    have u7 := t7.trans (same_new (o := .lst (bools 22 j)) nM7)
    have o7 : (upd (upd (upd (upd (upd (upd (upd (upd (upd (upd (upd (upd (upd (upd (upd H L0 (.lst [.bl (decide (0 = j)), .bl (decide (1 = j)), .bl (decide (2 = j))])) L1 (.lst [.bl (decide (3 = j)), .bl (decide (4 = j)), .bl (decide (5 = j))])) M1 (.lst (bools 6 j))) L2 (.lst [.bl (decide (6 = j)), .bl (decide (7 = j)), .bl (decide (8 = j))])) M2 (.lst (bools 9 j))) L3 (.lst [.bl (decide (9 = j)), .bl (decide (10 = j)), .bl (decide (11 = j))])) M3 (.lst (bools 12 j))) L4 (.lst [.bl (decide (12 = j)), .bl (decide (13 = j)), .bl (decide (14 = j))])) M4 (.lst (bools 15 j))) L5 (.lst [.bl (decide (15 = j)), .bl (decide (16 = j))])) M5 (.lst (bools 17 j))) L6 (.lst [.bl (decide (17 = j)), .bl (decide (18 = j)), .bl (decide (19 = j))])) M6 (.lst (bools 20 j))) L7 (.lst [.bl (decide (20 = j)), .bl (decide (21 = j))])) M7 (.lst (bools 22 j))) M7 = some (.lst (bools 22 j)) := upd_same
    refine ⟨_, rfl, ?_⟩
    have hd8 : _ := u7 _ _ hd
    refine ⟨_, rfl, a, D, d, fs, _, _, true, rfl, he, hd8, hO.ask, fun u r => r, hO.kitN, _, rfl, ?_⟩
    refine ⟨_, rfl, a, D, d, fs, _, _, true, rfl, he, hd8, hO.ask, fun u r => r, hO.kitV, _, rfl, ?_⟩
    refine ⟨sizeLine_le (by show 2 ≤ _; decide), fun L8 nL8 => ?_⟩
    have t8 := (u7).trans (same_new (o := .lst [.bl (!true), .bl (!true)]) nL8)
    have p8 := (same_new (o := .lst [.bl (!true), .bl (!true)]) nL8) _ _ o7
    refine ⟨_, _, _, _, rfl, rfl, p8, upd_same, sizeLine_le (by show 24 ≤ _; decide), fun M8 nM8 => ?_⟩
    have e8 : bools 22 j ++ [.bl (!true), .bl (!true)] = bools 24 j := by
      have hl := hO.lt
      rw [← bools_app 22 2 j]
      congr 1
      show _ = [V.bl (decide (22 + 0 = j)), V.bl (decide (22 + 1 = j))]
      rw [decide_eq_false (by omega), decide_eq_false (by omega)] <;> rfl
    rw [e8]
    have u8 := t8.trans (same_new (o := .lst (bools 24 j)) nM8)
    have o8 : (upd (upd (upd (upd (upd (upd (upd (upd (upd (upd (upd (upd (upd (upd (upd (upd (upd H L0 (.lst [.bl (decide (0 = j)), .bl (decide (1 = j)), .bl (decide (2 = j))])) L1 (.lst [.bl (decide (3 = j)), .bl (decide (4 = j)), .bl (decide (5 = j))])) M1 (.lst (bools 6 j))) L2 (.lst [.bl (decide (6 = j)), .bl (decide (7 = j)), .bl (decide (8 = j))])) M2 (.lst (bools 9 j))) L3 (.lst [.bl (decide (9 = j)), .bl (decide (10 = j)), .bl (decide (11 = j))])) M3 (.lst (bools 12 j))) L4 (.lst [.bl (decide (12 = j)), .bl (decide (13 = j)), .bl (decide (14 = j))])) M4 (.lst (bools 15 j))) L5 (.lst [.bl (decide (15 = j)), .bl (decide (16 = j))])) M5 (.lst (bools 17 j))) L6 (.lst [.bl (decide (17 = j)), .bl (decide (18 = j)), .bl (decide (19 = j))])) M6 (.lst (bools 20 j))) L7 (.lst [.bl (decide (20 = j)), .bl (decide (21 = j))])) M7 (.lst (bools 22 j))) L8 (.lst [.bl (!true), .bl (!true)])) M8 (.lst (bools 24 j))) M8 = some (.lst (bools 24 j)) := upd_same
    generalize (upd (upd (upd (upd (upd (upd (upd (upd (upd (upd (upd (upd (upd (upd (upd (upd (upd H L0 (.lst [.bl (decide (0 = j)), .bl (decide (1 = j)), .bl (decide (2 = j))])) L1 (.lst [.bl (decide (3 = j)), .bl (decide (4 = j)), .bl (decide (5 = j))])) M1 (.lst (bools 6 j))) L2 (.lst [.bl (decide (6 = j)), .bl (decide (7 = j)), .bl (decide (8 = j))])) M2 (.lst (bools 9 j))) L3 (.lst [.bl (decide (9 = j)), .bl (decide (10 = j)), .bl (decide (11 = j))])) M3 (.lst (bools 12 j))) L4 (.lst [.bl (decide (12 = j)), .bl (decide (13 = j)), .bl (decide (14 = j))])) M4 (.lst (bools 15 j))) L5 (.lst [.bl (decide (15 = j)), .bl (decide (16 = j))])) M5 (.lst (bools 17 j))) L6 (.lst [.bl (decide (17 = j)), .bl (decide (18 = j)), .bl (decide (19 = j))])) M6 (.lst (bools 20 j))) L7 (.lst [.bl (decide (20 = j)), .bl (decide (21 = j))])) M7 (.lst (bools 22 j))) L8 (.lst [.bl (!true), .bl (!true)])) M8 (.lst (bools 24 j))) = HZ at o8 u8 ⊢
    refine ⟨_, rfl, M8, bools 24 j, rfl, .inl (SqL.of o8), ((bools 24 j).length : Nat), rfl, by unfold bools; simp, by unfold bools; simp, fun DD nDD => ?_⟩
    have e24 : (((bools 24 j).length : Nat) : Int).toNat = 24 := by unfold bools; simp
    rw [e24]
    have sD := same_new (o := .lst []) nDD
    refine lc_range (lo := 0) (n := 24) (fun i H' => Same HZ H' ∧ H' DD = some (.lst (if j < i then [V.int (j : Nat)] else []))) ⟨sD, by rw [if_neg (Nat.not_lt_zero _)]; exact upd_same⟩ (fun i H' hi hP => ?_) (fun H' hP => ?_)
    · obtain ⟨sm, hDD⟩ := hP
      rw [Int.zero_add]
      have ei : (bools 24 j)[i]? = some (.bl (decide (i = j))) := by
        unfold bools
        rw [List.getElem?_map, List.getElem?_range hi] <;> rfl
      refine ⟨rfl, _, rfl, _, rfl, M8, bools 24 j, _, _, rfl, rfl, SqL.of (sm _ _ o8), atI_nat ei, _, rfl, ?_⟩
      by_cases c : i = j
      · rw [decide_eq_true c]
        refine iteT ?_
        subst c
        rw [if_neg (Nat.lt_irrefl _)] at hDD
        refine ⟨_, rfl, _, hDD, by rw [sizeLine_eq]; decide, fun b o e => ?_, by rw [if_pos (Nat.lt_succ_self _)]; exact upd_same⟩
        rw [upd_ne (fun z => by rw [z, nDD] at e; cases e)]
        exact sm b o e
      · rw [decide_eq_false c]
        refine iteF ⟨sm, ?_⟩
        rw [hDD]
        by_cases c2 : j < i
        · rw [if_pos c2, if_pos (by omega)]
        · rw [if_neg c2, if_neg (by omega)]
    · obtain ⟨sm, hDD⟩ := hP
      rw [if_pos (by have := hO.lt; omega)] at hDD
      exact q DD H' (u8.trans sm) hDD
end
end K71
end
section
set_option Elab.async false
set_option linter.all false
set_option maxRecDepth 100000
set_option maxHeartbeats 4000000
namespace K71
open PySem PySem.Spec PyProof.Rows L2 He PySem.Nxc Hy
theorem ofErrB_ok {K : PySem.W.Frag} {j : Nat} (h : ofErrB K j = true) : OfErr K (errC K) (ga K "NocountersError") (errC K j) j := by
  obtain ⟨h1, h⟩ := ba h
  obtain ⟨h2, h⟩ := ba h
  obtain ⟨h3, h⟩ := ba h
  obtain ⟨h4, h5⟩ := ba h
  exact ⟨of_decide_eq_true h1, askB_ok h2, fun i hi => of_decide_eq_true (List.all_eq_true.mp h3 i (List.mem_range.mpr hi)), of_decide_eq_true h4, of_decide_eq_true h5⟩
end K71
end
section
set_option Elab.async false
set_option linter.all false
set_option maxRecDepth 100000
set_option maxHeartbeats 4000000
/-! _law_kind_told, _law_joined -/
namespace K71
open PySem PySem.Spec SG NdefX LamX
open L2 hiding It
open PyProof.Rows hiding St
open Lv (Wd Srt IT)
open L2H
section
variable {P : Program} {w : World} {K : PySem.W.Frag} {mg : Str → Option Value} {base : Heap}
theorem takesN_never {X : Cx} : L2N.Takes X (fun _ _ _ _ => False) := fun u s' h => by
  obtain ⟨_, _, _, _, _, _, _, _, _, _, _, _, _, _, _, _, w⟩ := h
  exact w.elim
theorem pass0At {X : Cx} {E : L2.St → XK} : ∀ σ, PassesAt CX0 X σ (E σ) := fun _ _ _ _ _ _ _ h => False.elim h
theorem hot_suite {X : Cx} {a : Addr} {oe : Obj} {cls : Value} {d : Option Addr} {pn : List (Addr × Obj)} (hz : L2N.Zn cls d oe) (hf : ∃ vs, oe.data = .fields vs) : HotC (X.suite a ((a, oe) :: pn)) := by
  obtain ⟨vs, hv⟩ := hf
  exact ⟨(a, oe), ⟨rfl, vs, hv, hz.2.2 vs hv⟩, List.mem_cons_self⟩
/-- f(e, ..) in a suite: the callee knows the error at a -/
def tCallHS (a : Addr) (cls : Value) (d : Option Addr) (sp : Heap → Sp) (E : L2.St → XK) (t : TA) : TE := fun σ H Q => t σ H fun vs H1 => ∀ (B : Heap) (oe : Obj), L2N.Zn cls d oe → (∃ vs, oe.data = .fields vs) → B.get? a = some oe → sp B vs H1 Q (E σ)
theorem pe_callHS {X : Cx} {CX : CXT} {k : Nat} {f a : Addr} {oe : Obj} {cls : Value} {d : Option Addr} {pn : List (Addr × Obj)} {fd : FuncData} {ps : List Str} {sp : Heap → Sp} {E : L2.St → XK} {x : Str} {q pos : Pos} {e : PySem.Expr} {es : List PySem.Expr} {t : TA}
    (hz : L2N.Zn cls d oe) (hf : ∃ vs, oe.data = .fields vs) (F : ∀ B, FnH X.prog X.w X.K X.mg B CX k f fd ps (sp B)) (hr : RoomH k (X.suite a ((a, oe) :: pn)).A) (hg : Gl (X.suite a ((a, oe) :: pn)) x) (hm : X.mg x = some (.ref f)) (hk : PySem.W.keepIn X.K (.ref f) = true) (hb : L2.Binds X.K fd ps [])
    (hx : ∀ σ, PassesAt CX (X.suite a ((a, oe) :: pn)) σ (E σ)) (ha : PA (X.suite a ((a, oe) :: pn)) (e :: es) t) (hdb : (x == ("__debug__" : Str)) = false := by decide) (he : starEach (e :: es) X.env = (false, eval e X.env) :: starEach es X.env := by rfl) (hpl : (backTo pos (starEach es X.env)).any (·.1) = false := by rfl) :
    PE (X.suite a ((a, oe) :: pn)) (.Call (.Name x q) (e :: es) [] pos) (tCallHS a cls d sp E t) := by
  refine ⟨fun pins s σ H Q I h => ?_⟩
  refine wpAny_Call_Name_kw (ld_glob I hg hm ?_ hdb)
  refine PySem.W.callWith_K (h₀ := X.base) I.ok.mod.kin hk (thn (ha.run pos pins s σ H _ I h) fun us s1 ⟨vs, H1, I1, r, q⟩ => ⟨I1.kIn, ?_⟩) he hpl
  exact run_fnHW (X := X.suite a ((a, oe) :: pn)) F hr (hot_suite hz hf) hb (hx σ) I1 r fun B hB => q B oe hz hf (hB (a, oe) (List.mem_append_left _ List.mem_cons_self))
def spKTold (K : PySem.W.Frag) (CK : Addr) : Sp := fun vs H Q _ => ∃ (x : Addr) (q : Sort5) (L : List Nat) (l : Nat) (u : List Nat), vs = [.ref x, .str (tx u)] ∧ KindsAt K CK H x q L l ∧ u.length ≤ 100000 ∧
  ((∀ c ∈ u, c ∈ L) → ∀ r H', Same H H' → Dp K H' (.ref r) (.tuple [.str "told", .int (walkN L (tab5 q L l).2 0 u : Nat)]) → Q (.ref r) H') ∧
  ((¬ ∀ c ∈ u, c ∈ L) → ∀ r H', Same H H' → Dp K H' (.ref r) (.tuple [.str "word", .list [.int 8], .str (tx u)]) → Q (.ref r) H')
theorem ok_kTold {f fm ff CK CN : Addr} {C : Nat → Addr} {fd fdm fdf : FuncData} {k : Nat} {ok : V → Prop} (F : Fun K "_law_kind_told" "_law_kind_told" s_law_kind_told f fd) (T : Blt mg) (KC : KCls K CK)
    (TB : ErrX P w K mg "BadWord" "word" (C 8) ok) (hO : OfErr K C CN (C 8) 8) (M : Meth K CK "kind_of" fm) (bm : Binds K fdm ["self", "word"] []) (G_k : FnOk P w K mg base (L2N.CX P w) k fm fdm ["self", "word"] (spKindOf K CK (C 8)))
    (G_f : ∀ B, FnH P w K mg B CX0 k ff fdf ["e"] (spFault K C CN B)) (c_f : Df K mg "_law_fault" ff fdf ["e"]) (hex : PySem.W.exmOne K (.ref (C 8)) (.ref (C 8)) = some true) :
    FnOk P w K mg base CX0 (k + 1) f fd ["kinds", "word"] (spKTold K CK) := by
  refine F.ok sc_law_kind_told (fun vs H Q E h => ?_) (fun cdv A outer s H vs Q E hr h => ?_)
  · obtain ⟨x, q, L, l, u, rfl, _⟩ := h
    rfl
  · obtain ⟨x, q5, L, l, u, rfl, hK, hu, q1, q2⟩ := h
    refine ⟨_, (pss_one (ps_try_named rfl rfl sc_law_kind_told.nd takesN_never (fun W pn xe tk _ => pss_one (ps_ret (pe_tup (pa_cons pe_str (pa_cons (pe_methE (pv 0) KC.c M G_k hr bm (fun σ => L2N.passAt tk σ) (pa_cons (pv 1) pa_nil)) pa_nil)))))
      (Clauses.cons (i := 2) ⟨rfl, by decide, Or.inl TB.gC⟩ rfl rfl (fun a oe cls d pn hz hf => pss_one (ps_ret (pe_tup (pa_cons pe_str (pa_cons (pe_callHS (E := fun _ => E0) hz hf G_f ⟨hr.dp, hr.un⟩ (by rfl) c_f.m c_f.k c_f.b pass0At (pa_cons (pv 2) pa_nil)) (pa_cons (pe_fldE TB ⟨hz.1, hz.2.1⟩ hf (pv 2)) pa_nil)))))) Clauses.nil))), ?_⟩
    obtain ⟨hA, hF, dx, vw, vst, vly, hx, hw, hs⟩ := id hK
    refine ⟨_, rfl, x, dx, _, rfl, hx, rfl, _, rfl, x, q5, L, l, u, rfl, hK, hu, fun hin => ?_, fun hni d H' sm nd hd => ?_⟩
    · refine ⟨sizeLine_le (by show 2 ≤ _; decide), fun r nr => ?_⟩
      exact q1 hin r _ (same_new nr) (.tup (.of upd_same) (.cons (.str _) (.cons (.int _) .nil)))
    · refine ⟨true, hex, fun _ a na => ?_, fun z => by cases z⟩
      refine ⟨_, rfl, fun B oe hz hf hb => ?_⟩
      obtain ⟨vs, hv⟩ := hf
      refine ⟨a, C 8, d, _, 8, rfl, ⟨oe, vs, hb, hz.1, hz.2.1, hv⟩, hd, hO, fun r H2 s2 h2 => ?_⟩
      refine ⟨_, rfl, rfl, rfl, d, _, rfl, s2 _ _ hd, sizeLine_le (by show 3 ≤ _; decide), fun t nt => ?_⟩
      have s3 := same_new (o := .tup [.str "word", .ref r, .str (tx u)]) nt
      exact q2 hni t _ ((sm.trans s2).trans s3) (.tup (.of upd_same) (.cons (.str _) (.cons (.lst (SqL.of (s3 _ _ h2)) (.cons (.int _) .nil)) (.cons (.str _) .nil))))
end
end K71
end
section
set_option Elab.async false
set_option linter.all false
set_option maxRecDepth 100000
set_option maxHeartbeats 4000000
/-! _law_joined -/
namespace K71
open PySem PySem.Spec SG NdefX LamX
open L2 hiding It
open PyProof.Rows hiding St
open Lv (Wd Srt IT)
open L2H
section
variable {P : Program} {w : World} {K : PySem.W.Frag} {mg : Str → Option Value} {base : Heap}
def spJoin (K : PySem.W.Frag) (CK : Addr) : Sp := fun vs H Q _ => ∃ (x : Addr) (q : Sort5) (L : List Nat) (l : Nat) (i j : Int), vs = [.ref x, .int i, .int j] ∧ KindsAt K CK H x q L l ∧
  (∀ (a b : Nat) (u : List Nat), i = a → j = b → a < (tab5 q L l).1.length → (tab5 q L l).1[b]? = some u → ∀ r H', Same H H' → Dp K H' (.ref r) (.tuple [.str "told", .int (walkN L (tab5 q L l).2 a u : Nat)]) → Q (.ref r) H') ∧
  (¬ (0 ≤ i ∧ i < (tab5 q L l).1.length) → ∀ r H', Same H H' → Dp K H' (.ref r) (.tuple [.str "none", .list [.int 11], .int i]) → Q (.ref r) H') ∧
  (0 ≤ i ∧ i < (tab5 q L l).1.length → ¬ (0 ≤ j ∧ j < (tab5 q L l).1.length) → ∀ r H', Same H H' → Dp K H' (.ref r) (.tuple [.str "none", .list [.int 11], .int j]) → Q (.ref r) H')
theorem ok_join {f fm ff CK CN : Addr} {C : Nat → Addr} {fd fdm fdf : FuncData} {k : Nat} {ok : V → Prop} (F : Fun K "_law_joined" "_law_joined" s_law_joined f fd) (T : Blt mg) (KC : KCls K CK)
    (TB : ErrX P w K mg "NoElement" "number" (C 11) ok) (hO : OfErr K C CN (C 11) 11) (M : Meth K CK "product" fm) (bm : L2.Binds K fdm ["self", "i", "j"] []) (G_k : FnOk P w K mg base (L2N.CX P w) k fm fdm ["self", "i", "j"] (spProd K CK (C 11)))
    (G_f : ∀ B, FnH P w K mg B CX0 k ff fdf ["e"] (spFault K C CN B)) (c_f : Df K mg "_law_fault" ff fdf ["e"]) (hex : PySem.W.exmOne K (.ref (C 11)) (.ref (C 11)) = some true) :
    FnOk P w K mg base CX0 (k + 1) f fd ["kinds", "first", "second"] (spJoin K CK) := by
  refine F.ok sc_law_joined (fun vs H Q E h => ?_) (fun cdv A outer s H vs Q E hr h => ?_)
  · obtain ⟨x, q, L, l, i, j, rfl, _⟩ := h
    rfl
  · obtain ⟨x, q5, L, l, i, j, rfl, hK, q1, q2, q3⟩ := h
    refine ⟨_, (pss_one (ps_try_named rfl rfl sc_law_joined.nd takesN_never (fun W pn xe tk _ => pss_one (ps_ret (pe_tup (pa_cons pe_str (pa_cons (pe_methE (pv 0) KC.c M G_k hr bm (fun σ => L2N.passAt tk σ) (pa_cons (pv 1) (pa_cons (pv 2) pa_nil))) pa_nil)))))
      (Clauses.cons (i := 3) ⟨rfl, by decide, Or.inl TB.gC⟩ rfl rfl (fun a oe cls d pn hz hf => pss_one (ps_ret (pe_tup (pa_cons pe_str (pa_cons (pe_callHS (E := fun _ => E0) hz hf G_f ⟨hr.dp, hr.un⟩ (by rfl) c_f.m c_f.k c_f.b pass0At (pa_cons (pv 3) pa_nil)) (pa_cons (pe_fldE TB ⟨hz.1, hz.2.1⟩ hf (pv 3)) pa_nil)))))) Clauses.nil))), ?_⟩
    obtain ⟨hA, hF, dx, vw, vst, vly, hx, hw, hs⟩ := id hK
    refine ⟨_, rfl, x, dx, _, rfl, hx, rfl, _, rfl, _, rfl, x, q5, L, l, i, j, rfl, hK, fun a b u ea eb ha hb H1 s1 => ?_, fun ni d H' sm nd hd => ?_, fun gi nj d H' sm nd hd => ?_⟩
    · refine ⟨sizeLine_le (by show 2 ≤ _; decide), fun r nr => ?_⟩
      exact q1 a b u ea eb ha hb r _ (s1.trans (same_new nr)) (.tup (.of upd_same) (.cons (.str _) (.cons (.int _) .nil)))
    · refine ⟨true, hex, fun _ a na => ?_, fun z => by cases z⟩
      refine ⟨_, rfl, fun B oe hz hf hb => ?_⟩
      obtain ⟨vs, hv⟩ := hf
      refine ⟨a, C 11, d, _, 11, rfl, ⟨oe, vs, hb, hz.1, hz.2.1, hv⟩, hd, hO, fun r H2 s2 h2 => ?_⟩
      refine ⟨_, rfl, rfl, rfl, d, _, rfl, s2 _ _ hd, sizeLine_le (by show 3 ≤ _; decide), fun t nt => ?_⟩
      have s3 := same_new (o := .tup [.str "none", .ref r, .int i]) nt
      exact q2 ni t _ ((sm.trans s2).trans s3) (.tup (.of upd_same) (.cons (.str _) (.cons (.lst (SqL.of (s3 _ _ h2)) (.cons (.int _) .nil)) (.cons (.int _) .nil))))
    · refine ⟨true, hex, fun _ a na => ?_, fun z => by cases z⟩
      refine ⟨_, rfl, fun B oe hz hf hb => ?_⟩
      obtain ⟨vs, hv⟩ := hf
      refine ⟨a, C 11, d, _, 11, rfl, ⟨oe, vs, hb, hz.1, hz.2.1, hv⟩, hd, hO, fun r H2 s2 h2 => ?_⟩
      refine ⟨_, rfl, rfl, rfl, d, _, rfl, s2 _ _ hd, sizeLine_le (by show 3 ≤ _; decide), fun t nt => ?_⟩
      have s3 := same_new (o := .tup [.str "none", .ref r, .int j]) nt
      exact q3 gi nj t _ ((sm.trans s2).trans s3) (.tup (.of upd_same) (.cons (.str _) (.cons (.lst (SqL.of (s3 _ _ h2)) (.cons (.int _) .nil)) (.cons (.int _) .nil))))
end
end K71
end
section
set_option Elab.async false
set_option linter.all false
set_option maxRecDepth 100000
set_option maxHeartbeats 4000000
/-! _law_refused -/
namespace K71
open PySem PySem.Spec SG NdefX LamX
open L2 hiding It
open PyProof.Rows hiding St
open Lv (Wd Srt IT)
open L2H
section
variable {P : Program} {w : World} {K : PySem.W.Frag} {mg : Str → Option Value} {base : Heap}
/-- the answer of _law_refused: the number of the class, the field -/
def Told (K : PySem.W.Frag) (TT : List NTab) (H : Hp) (Q : VK) (n : Nat) (v : PyData) : Prop := ∀ r H', Ext TT H H' → Dp K H' (.ref r) (.tuple [.list [.int (n : Nat)], v]) → Q (.ref r) H'
def spRef (K : PySem.W.Frag) (TT : List NTab) : Sp := fun vs H Q _ => ∃ (a b : Str) (l : Int), vs = [.str a, .str b, .int l] ∧ TabsN TT H ∧
  ((inV (.str a) alphs = false ∧ Told K TT H Q 1 (.str a)) ∨
   (inV (.str a) alphs = true ∧ inV (.str b) sorts5 = false ∧ Told K TT H Q 5 (.str b)) ∨
   (inV (.str a) alphs = true ∧ inV (.str b) sorts5 = true ∧ ¬ (0 ≤ l ∧ l ≤ 7) ∧ Told K TT H Q 3 (.int l)) ∨
   (∃ (L : List Nat) (q : Sort5) (n : Nat), a = tx L ∧ b = nm5 q ∧ l = (n : Nat) ∧ Alph L ∧ n ≤ 7 ∧ ¬ Fits5 q L n ∧ Told K TT H Q 20 (.int 201)))
theorem alph_in {L : List Nat} (h : Alph L) : inV (.str (tx L)) alphs = true := by
  rcases h with rfl | rfl | rfl <;> decide +kernel
theorem sort_in (q : Sort5) : inV (.str (nm5 q)) sorts5 = true := by
  cases q with
  | fl y => cases y <;> decide +kernel
  | lv s => cases s <;> decide +kernel
theorem nm5_inj {q r : Sort5} (h : nm5 q = nm5 r) : q = r := by
  have e : ∀ q r : Sort5, decide (nm5 q = nm5 r) = decide (q = r) := fun q r => by
    cases q with
    | fl y => cases y <;> (cases r with
      | fl z => cases z <;> decide +kernel
      | lv z => cases z <;> decide +kernel)
    | lv y => cases y <;> (cases r with
      | fl z => cases z <;> decide +kernel
      | lv z => cases z <;> decide +kernel)
  have := e q r
  rw [decide_eq_true h] at this
  exact of_decide_eq_true this.symm
theorem ok_ref {f fi ff CK CN : Addr} {C : Nat → Addr} {fd fdi fdf : FuncData} {TT : List NTab} {k : Nat} {ok1 ok2 ok3 ok4 : V → Prop} (F : Fun K "_law_refused" "_law_refused" s_law_refused f fd) (T : Blt mg)
    (TL : ErrX P w K mg "BadLetters" "given" (C 1) ok1) (TS : ErrX P w K mg "BadSort" "name" (C 5) ok2) (TN : ErrX P w K mg "BadNumber" "number" (C 3) ok3) (TT_ : ErrX P w K mg "TooLarge" "many" (C 20) ok4)
    (hO : ∀ j, j = 1 ∨ j = 5 ∨ j = 3 ∨ j = 20 → OfErr K C CN (C j) j) (hex : ∀ i j, (i = 1 ∨ i = 5 ∨ i = 3 ∨ i = 20) → (j = 1 ∨ j = 5 ∨ j = 3 ∨ j = 20) → PySem.W.exmOne K (.ref (C i)) (.ref (C j)) = some (decide (i = j)))
    (M : Mk K CK fi) (mgK : mg "Kinds" = some (.ref CK)) (bi : L2.Binds K fdi ["self", "letters", "sort", "level"] []) (G_i : FnOk P w K mg base (L2N.CX P w) k fi fdi ["self", "letters", "sort", "level"] (spInit K TT CK (C 1) (C 5) (C 3) (C 20)))
    (G_f : ∀ B, FnH P w K mg B CX0 (k + 1) ff fdf ["e"] (spFault K C CN B)) (c_f : Df K mg "_law_fault" ff fdf ["e"]) :
    FnOk P w K mg base CX0 (k + 1 + 1) f fd ["letters", "sort", "level"] (spRef K TT) := by
  refine F.ok sc_law_refused (fun vs H Q E h => ?_) (fun cdv A outer s H vs Q E hr h => ?_)
  · obtain ⟨a, b, l, rfl, _⟩ := h
    rfl
  · obtain ⟨a, b, l, rfl, hT, hc⟩ := h
    refine ⟨_, (pss_one (ps_try_named rfl rfl sc_law_refused.nd takesN_never (fun W pn xe tk _ => pss_cons (ps_expr (pe_makeE M G_i hr (by rfl) mgK bi .nil (fun σ => L2N.passAt tk σ) (pa_cons (pv 0) (pa_cons (pv 1) (pa_cons (pv 2) pa_nil))))) (pss_one (ps_ret (pe_tup pa_nil))))
      (Clauses.cons (i := 3) ⟨rfl, by decide, Or.inl TL.gC⟩ rfl rfl (fun a oe cls d pn hz hf => pss_one (ps_ret (pe_tup (pa_cons (pe_callHS (E := fun _ => E0) hz hf G_f ⟨hr.dp, hr.un⟩ (by rfl) c_f.m c_f.k c_f.b pass0At (pa_cons (pv 3) pa_nil)) (pa_cons (pe_fldE TL ⟨hz.1, hz.2.1⟩ hf (pv 3)) pa_nil))))) (Clauses.cons (i := 3) ⟨rfl, by decide, Or.inl TS.gC⟩ rfl rfl (fun a oe cls d pn hz hf => pss_one (ps_ret (pe_tup (pa_cons (pe_callHS (E := fun _ => E0) hz hf G_f ⟨hr.dp, hr.un⟩ (by rfl) c_f.m c_f.k c_f.b pass0At (pa_cons (pv 3) pa_nil)) (pa_cons (pe_fldE TS ⟨hz.1, hz.2.1⟩ hf (pv 3)) pa_nil))))) (Clauses.cons (i := 3) ⟨rfl, by decide, Or.inl TN.gC⟩ rfl rfl (fun a oe cls d pn hz hf => pss_one (ps_ret (pe_tup (pa_cons (pe_callHS (E := fun _ => E0) hz hf G_f ⟨hr.dp, hr.un⟩ (by rfl) c_f.m c_f.k c_f.b pass0At (pa_cons (pv 3) pa_nil)) (pa_cons (pe_fldE TN ⟨hz.1, hz.2.1⟩ hf (pv 3)) pa_nil))))) (Clauses.cons (i := 3) ⟨rfl, by decide, Or.inl TT_.gC⟩ rfl rfl (fun a oe cls d pn hz hf => pss_one (ps_ret (pe_tup (pa_cons (pe_callHS (E := fun _ => E0) hz hf G_f ⟨hr.dp, hr.un⟩ (by rfl) c_f.m c_f.k c_f.b pass0At (pa_cons (pv 3) pa_nil)) (pa_cons (pe_fldE TT_ ⟨hz.1, hz.2.1⟩ hf (pv 3)) pa_nil))))) Clauses.nil)))))), ?_⟩
    refine ⟨_, rfl, _, rfl, _, rfl, fun x dx nx ndx ne => ?_⟩
    have ndx' : (upd H dx (.own x)) x = none := by rw [upd_ne (Ne.symm ne)]; exact nx
    have s1 : Same H (upd (upd H dx (.own x)) x (.ins CK dx [])) := (same_new ndx).trans (same_new ndx')
    have X1 : Ext TT H (upd (upd H dx (.own x)) x (.ins CK dx [])) := (Ext.refl hT).same s1
    refine ⟨x, dx, H, a, b, l, rfl, upd_same, nx, X1, ?_, ?_, ?_, ?_⟩
    · intro e1 d H' sm nd hd
      rcases hc with ⟨c1, q⟩ | ⟨c1, _⟩ | ⟨c1, _⟩ | ⟨L, q5, n, rfl, rfl, rfl, hA, _⟩
      · skip
        refine ⟨true, hex 1 1 (by decide) (by decide), fun _ e ne => ?_, fun z => by cases z⟩
        refine ⟨_, rfl, fun B oe hz hf hb => ?_⟩
        obtain ⟨vs, hv⟩ := hf
        refine ⟨e, C 1, d, _, 1, rfl, ⟨oe, vs, hb, hz.1, hz.2.1, hv⟩, hd, hO 1 (by decide), fun r H2 s2 h2 => ?_⟩
        refine ⟨_, rfl, rfl, rfl, d, _, rfl, s2 _ _ hd, sizeLine_le (by show 2 ≤ _; decide), fun t nt => ?_⟩
        have s3 := same_new (o := .tup [.ref r, .str a]) nt
        exact q t _ ((X1.same sm).same (s2.trans s3)) (.tup (.of upd_same) (.cons (.lst (SqL.of (s3 _ _ h2)) (.cons (.int _) .nil)) (.cons (.str _) .nil)))
      · rw [e1] at c1; cases c1
      · rw [e1] at c1; cases c1
      · rw [alph_in hA] at e1; cases e1
    · intro e1 e2 d H' sm nd hd
      rcases hc with ⟨c1, _⟩ | ⟨c1, c2, q⟩ | ⟨c1, c2, _⟩ | ⟨L, q5, n, rfl, rfl, rfl, hA, _⟩
      · rw [e1] at c1; cases c1
      · skip
        refine ⟨false, hex 5 1 (by decide) (by decide), (fun z => by cases z), fun _ => ?_⟩
        refine ⟨true, hex 5 5 (by decide) (by decide), fun _ e ne => ?_, fun z => by cases z⟩
        refine ⟨_, rfl, fun B oe hz hf hb => ?_⟩
        obtain ⟨vs, hv⟩ := hf
        refine ⟨e, C 5, d, _, 5, rfl, ⟨oe, vs, hb, hz.1, hz.2.1, hv⟩, hd, hO 5 (by decide), fun r H2 s2 h2 => ?_⟩
        refine ⟨_, rfl, rfl, rfl, d, _, rfl, s2 _ _ hd, sizeLine_le (by show 2 ≤ _; decide), fun t nt => ?_⟩
        have s3 := same_new (o := .tup [.ref r, .str b]) nt
        exact q t _ ((X1.same sm).same (s2.trans s3)) (.tup (.of upd_same) (.cons (.lst (SqL.of (s3 _ _ h2)) (.cons (.int _) .nil)) (.cons (.str _) .nil)))
      · rw [e2] at c2; cases c2
      · rw [sort_in] at e2; cases e2
    · intro e1 e2 e3 d H' sm nd hd
      rcases hc with ⟨c1, _⟩ | ⟨c1, c2, _⟩ | ⟨c1, c2, c3, q⟩ | ⟨L, q5, n, rfl, rfl, rfl, hA, hn, _⟩
      · rw [e1] at c1; cases c1
      · rw [e2] at c2; cases c2
      · skip
        refine ⟨false, hex 3 1 (by decide) (by decide), (fun z => by cases z), fun _ => ?_⟩
        refine ⟨false, hex 3 5 (by decide) (by decide), (fun z => by cases z), fun _ => ?_⟩
        refine ⟨true, hex 3 3 (by decide) (by decide), fun _ e ne => ?_, fun z => by cases z⟩
        refine ⟨_, rfl, fun B oe hz hf hb => ?_⟩
        obtain ⟨vs, hv⟩ := hf
        refine ⟨e, C 3, d, _, 3, rfl, ⟨oe, vs, hb, hz.1, hz.2.1, hv⟩, hd, hO 3 (by decide), fun r H2 s2 h2 => ?_⟩
        refine ⟨_, rfl, rfl, rfl, d, _, rfl, s2 _ _ hd, sizeLine_le (by show 2 ≤ _; decide), fun t nt => ?_⟩
        have s3 := same_new (o := .tup [.ref r, .int l]) nt
        exact q t _ ((X1.same sm).same (s2.trans s3)) (.tup (.of upd_same) (.cons (.lst (SqL.of (s3 _ _ h2)) (.cons (.int _) .nil)) (.cons (.int _) .nil)))
      · exact absurd ⟨by omega, by omega⟩ e3
    · intro L q5 n ea eb el hA hn
      rcases hc with ⟨c1, _⟩ | ⟨c1, c2, _⟩ | ⟨c1, c2, c3, _⟩ | ⟨L', q', n', ea', eb', el', hA', hn', nF, q⟩
      · rw [ea, alph_in hA] at c1; cases c1
      · rw [eb, sort_in] at c2; cases c2
      · exact absurd ⟨by omega, by omega⟩ c3
      · have hL : L = L' := tx_inj (ea.symm.trans ea')
        have hq : q5 = q' := nm5_inj (eb.symm.trans eb')
        have hnn : n = n' := by omega
        subst hL hq hnn
        refine ⟨fun hF => absurd hF nF, fun _ d H' X2 nd hd => ?_⟩
        refine ⟨false, hex 20 1 (by decide) (by decide), (fun z => by cases z), fun _ => ?_⟩
        refine ⟨false, hex 20 5 (by decide) (by decide), (fun z => by cases z), fun _ => ?_⟩
        refine ⟨false, hex 20 3 (by decide) (by decide), (fun z => by cases z), fun _ => ?_⟩
        refine ⟨true, hex 20 20 (by decide) (by decide), fun _ e ne => ?_, fun z => by cases z⟩
        refine ⟨_, rfl, fun B oe hz hf hb => ?_⟩
        obtain ⟨vs, hv⟩ := hf
        refine ⟨e, C 20, d, _, 20, rfl, ⟨oe, vs, hb, hz.1, hz.2.1, hv⟩, hd, hO 20 (by decide), fun r H2 s2 h2 => ?_⟩
        refine ⟨_, rfl, rfl, rfl, d, _, rfl, s2 _ _ hd, sizeLine_le (by show 2 ≤ _; decide), fun t nt => ?_⟩
        have s3 := same_new (o := .tup [.ref r, .int 201]) nt
        exact q t _ ((X1.trans X2).same (s2.trans s3)) (.tup (.of upd_same) (.cons (.lst (SqL.of (s3 _ _ h2)) (.cons (.int _) .nil)) (.cons (.int _) .nil)))
end
end K71
end
section
set_option Elab.async false
set_option linter.all false
set_option maxRecDepth 100000
set_option maxHeartbeats 4000000
/-! _law_fits -/
namespace K71
open PySem PySem.Spec SG NdefX LamX
open L2 hiding It
open PyProof.Rows hiding St
open Lv (Wd Srt IT)
theorem SameOk.scal {d : PyData} (h : Scal d) : ∀ n, SameOk n d
  | 0 => h
  | n + 1 => by
    cases d with
    | list ds => exact h.elim
    | tuple ds => exact h.elim
    | none => exact h
    | bool b => exact h
    | int i => exact h
    | str x => exact h
    | dict x => exact h
section
variable {P : Program} {w : World} {K : PySem.W.Frag} {mg : Str → Option Value} {base : Heap}
/-- the law's table of a sight at t: its words and steps are the program's -/
def TabL (K : PySem.W.Frag) (H : Hp) (t : Addr) (q : Sort5) (L : List Nat) (l : Nat) (v2 v3 : V) : Prop := ∃ v0 v1, H t = some (.lst [v0, v1, v2, v3]) ∧ Dp K H v0 (.list ((tab5 q L l).1.map fun u => .str (tx u))) ∧ Dp K H v1 (.list ((tab5 q L l).2.map rowD))
def spFits (K : PySem.W.Frag) (CK : Addr) : Sp := fun vs H Q _ => ∃ (x r t : Addr) (q : Sort5) (L : List Nat) (l : Nat) (v2 v3 : V), vs = [.ref x, .ref r, .ref t] ∧ KindsAt K CK H x q L l ∧ SightAt H r q L l ∧ TabL K H t q L l v2 v3 ∧ ∀ H', Same H H' → Q (.bl true) H'
theorem ok_fits {f fs fn CK : Addr} {fd fds fdn : FuncData} {k : Nat} (F : Fun K "_law_fits" "_law_fits" s_law_fits f fd) (T : Blt mg) (KC : KCls K CK)
    (G_same : FnOk P w K mg base CX0 (k + 1) fs fds ["told", "due"] (spSame K 3)) (c_same : Df K mg "_law_same" fs fds ["told", "due"])
    (M : Meth K CK "__len__" fn) (bn : L2.Binds K fdn ["self"] []) (G_len : FnOk P w K mg base CX0 k fn fdn ["self"] (spLenM K CK)) :
    FnOk P w K mg base CX0 (k + 1 + 1) f fd ["kinds", "sight", "table"] (spFits K CK) := by
  refine F.ok sc_law_fits (fun vs H Q E h => ?_) (fun cdv A outer s H vs Q E hr h => ?_)
  · obtain ⟨x, r, t, q, L, l, v2, v3, rfl, _⟩ := h
    rfl
  · obtain ⟨x, r, t, q5, L, l, v2, v3, rfl, hK, hS, ⟨v0, v1, ht, h0, h1⟩, q⟩ := h
    refine ⟨_, (pss_cons (ps_set (i := 3) sc_law_fits.nd rfl (Or.inl rfl) (pe_lst (pa_cons (pe_fld (pv 0) rfl) (pa_cons (pe_fld (pv 0) rfl) (pa_cons (pe_fld (pv 0) rfl) pa_nil)))))
      (pss_cons (ps_if (pt_not (pt_val (pe_call G_same hr (by rfl) c_same.m c_same.k c_same.b .nil pass0 (pa_cons (pv 3) (pa_cons (pv 1) pa_nil))))) (pss_one (ps_ret pe_bl)) pss_nil)
      (pss_cons (ps_set (i := 3) sc_law_fits.nd rfl (Or.inl rfl) (pe_lst (pa_cons (pe_callB (call_lenO M.at_ M.fn G_len hr bn) (by rfl) T.len PySem.boot_len (pa_cons (pv 0) pa_nil)) (pa_cons (pe_fld (pv 0) rfl) (pa_cons (pe_fld (pv 0) rfl) pa_nil)))))
      (pss_cons (ps_set (i := 4) sc_law_fits.nd rfl (Or.inl rfl) (pe_lst (pa_cons (pe_callB call_len_seq (by rfl) T.len PySem.boot_len (pa_cons (pe_ix ix_list (pv 2) pe_int (fun _ _ => rfl)) pa_nil)) (pa_cons (pe_callTy call_tuple_of (by rfl) T.tuple (by decide +kernel) (pa_cons (pe_ix ix_list (pv 2) pe_int (fun _ _ => rfl)) pa_nil)) (pa_cons (pe_callTy call_tuple_of (by rfl) T.tuple (by decide +kernel) (pa_cons (pe_ix ix_list (pv 2) pe_int (fun _ _ => rfl)) pa_nil)) pa_nil)))))
      (pss_one (ps_ret (pe_call G_same hr (by rfl) c_same.m c_same.k c_same.b .nil pass0 (pa_cons (pv 3) (pa_cons (pv 4) pa_nil))))))))), ?_⟩
    obtain ⟨hA, hF, dx, vw, vst, vly, hx, hw, hs⟩ := id hK
    obtain ⟨fg, G, hl2, _, _⟩ := tab5_grow hF
    refine ⟨_, rfl, x, CK, dx, _, .str (tx L), rfl, hx, KC.c, KC.n1, rfl, _, rfl, x, CK, dx, _, .str (nm5 q5), rfl, hx, KC.c, KC.n2, rfl, _, rfl, x, CK, dx, _, .int (l : Nat), rfl, hx, KC.c, KC.n3, rfl, sizeLine_le (by show 3 ≤ _; decide), fun D1 n1 => ?_⟩
    have s1 := same_new (o := .lst [.str (tx L), .str (nm5 q5), .int (l : Nat)]) n1
    have dd : ∀ (H' : Hp) (a : Addr), H' a = some (.lst [.str (tx L), .str (nm5 q5), .int (l : Nat)]) → Dp K H' (.ref a) (.list [.str (tx L), .str (nm5 q5), .int (l : Nat)]) := fun H' a e => .lst (SqL.of e) (.cons (.str _) (.cons (.str _) (.cons (.int _) .nil)))
    have ok1 : SameOk 3 (.list [.str (tx L), .str (nm5 q5), .int (l : Nat)]) := by
      refine ⟨by show 3 ≤ 100000; decide, fun y hy => SameOk.scal ?_ 2⟩
      simp only [List.mem_cons, List.not_mem_nil, or_false] at hy
      rcases hy with rfl | rfl | rfl <;> exact True.intro
    refine ⟨_, rfl, _, rfl, _, _, _, rfl, dd _ D1 upd_same, dd _ r (s1 _ _ hS), ok1, fun H2 s2 => ⟨_, rfl, ?_⟩⟩
    refine iteF ?_
    have sA := s1.trans s2
    have hK2 : KindsAt K CK H2 x q5 L l := ⟨hA, hF, dx, vw, vst, vly, sA _ _ hx, Dp.same sA _ _ hw, Dp.same sA _ _ hs⟩
    have hl3 : (tab5 q5 L l).1.length < 2 ^ 62 := Nat.lt_of_le_of_lt hl2 (by decide)
    refine ⟨_, rfl, x, dx, _, rfl, sA _ _ hx, ⟨x, q5, L, l, rfl, hK2, (tab5 q5 L l).1.length, rfl, hl3, ?_⟩⟩
    refine ⟨_, rfl, x, CK, dx, _, vw, rfl, sA _ _ hx, KC.c, KC.n4, rfl, _, rfl, x, CK, dx, _, vst, rfl, sA _ _ hx, KC.c, KC.n5, rfl, sizeLine_le (by show 3 ≤ _; decide), fun D2 n2 => ?_⟩
    have s3 := same_new (o := .lst [.int ((tab5 q5 L l).1.length : Nat), vw, vst]) n2
    have sB := sA.trans s3
    obtain ⟨a0, xs0, rfl, y0, z0⟩ := Dp.lstOf h0
    obtain ⟨a1, xs1, rfl, y1, z1⟩ := Dp.lstOf h1
    refine ⟨_, rfl, t, _, 0, _, rfl, rfl, SqL.of (sB _ _ ht), rfl, a0, xs0, rfl, .inl (sB.seq y0), ?_⟩
    refine ⟨_, rfl, t, _, 0, _, rfl, rfl, SqL.of (sB _ _ ht), rfl, a0, xs0, rfl, .inl ⟨sB.seq y0, fun p1 np1 => ?_⟩⟩
    have s4 := same_new (o := .tup xs0) np1
    have sC := sB.trans s4
    refine ⟨_, rfl, t, _, 1, _, rfl, rfl, SqL.of (sC _ _ ht), rfl, a1, xs1, rfl, .inl ⟨sC.seq y1, fun p2 np2 => ⟨sizeLine_le (by show 3 ≤ _; decide), fun D3 n3 => ?_⟩⟩⟩
    have s5 := same_new (o := .tup xs1) np2
    have s6 := same_new (o := .lst [.int (xs0.length : Nat), .ref p1, .ref p2]) n3
    have sD := (sC.trans s5).trans s6
    have lx0 : xs0.length = (tab5 q5 L l).1.length := by rw [z0.len, List.length_map]
    refine ⟨_, rfl, _, rfl, .ref D2, .ref D3, .list [.int ((tab5 q5 L l).1.length : Nat), .tuple ((tab5 q5 L l).1.map fun u => .str (tx u)), .tuple ((tab5 q5 L l).2.map rowD)], rfl, ?_, ?_, ?_, fun H' s7 => q H' (sD.trans s7)⟩
    · have e : (upd (upd (upd (upd H2 D2 (.lst [.int ((tab5 q5 L l).1.length : Nat), vw, vst])) p1 (.tup xs0)) p2 (.tup xs1)) D3 (.lst [.int (xs0.length : Nat), .ref p1, .ref p2])) D2 = _ := ((s4.trans s5).trans s6) _ _ upd_same
      exact .lst (SqL.of e) (.cons (.int _) (.cons (Dp.same sD _ _ hw) (.cons (Dp.same sD _ _ hs) .nil)))
    · refine .lst (SqL.of upd_same) (.cons ?_ (.cons ?_ (.cons ?_ .nil)))
      · rw [lx0]; exact .int _
      · exact .tup (.of ((s5.trans s6) _ _ upd_same)) (DpAll.same sD _ _ z0)
      · exact .tup (.of (s6 _ _ upd_same)) (DpAll.same sD _ _ z1)
    · have hr2 : (tab5 q5 L l).2.length ≤ 200 := by rw [G.len]; exact hl2
      refine ⟨by show 3 ≤ 100000; decide, fun y hy => ?_⟩
      simp only [List.mem_cons, List.not_mem_nil, or_false] at hy
      rcases hy with rfl | rfl | rfl
      · exact SameOk.scal (d := .int _) True.intro 2
      · refine ⟨by rw [List.length_map]; omega, fun z hz => ?_⟩
        obtain ⟨u, _, rfl⟩ := List.mem_map.mp hz
        exact SameOk.scal (d := .str _) True.intro 1
      · refine ⟨by rw [List.length_map]; omega, fun z hz => ?_⟩
        obtain ⟨rw_, hrw, rfl⟩ := List.mem_map.mp hz
        obtain ⟨i, hi, rfl⟩ := List.getElem_of_mem hrw
        have hlr := G.rl i _ (List.getElem?_eq_getElem hi)
        have hla := hA.len
        refine ⟨by rw [List.length_map, hlr]; omega, fun z2 hz2 => ?_⟩
        obtain ⟨n, _, rfl⟩ := List.mem_map.mp hz2
        exact True.intro
end
end K71
end
section
set_option Elab.async false
set_option linter.all false
set_option maxRecDepth 100000
set_option maxHeartbeats 4000000
/-! _law_refusals -/
namespace K71
open PySem PySem.Spec SG NdefX LamX
open L2 hiding It
open PyProof.Rows hiding St
open Lv (Wd Srt IT)
section
variable {P : Program} {w : World} {K : PySem.W.Frag} {mg : Str → Option Value} {base : Heap}
/-- all but the pool at p and the tables stands -/
structure StandT (TT : List NTab) (p : Addr) (H H' : Hp) : Prop where
  ext : ∀ b o, b ≠ p → H b = some o → (∀ ps, o ≠ .tbl ps) → H' b = some o
  none_ : ∀ b, H' b = none → H b = none
  tabs : TabsN TT H'
theorem tabs_but {TT : List NTab} {p : Addr} {H H' : Hp} {xs : List V} (t : TabsN TT H) (hp : H p = some (.lst xs)) (b : But p H H') : TabsN TT H' := fun z hz => by
  obtain ⟨ps, t1, t2, t3⟩ := t z hz
  refine ⟨ps, b _ _ (fun e => by rw [e, hp] at t1; cases t1) t1, t2, fun pos cv hc => ?_⟩
  obtain ⟨c, e1, e2⟩ := t3 pos cv hc
  refine ⟨c, e1, b _ _ (fun e => ?_) e2⟩
  rw [e, hp] at e2
  unfold CodeO at e2
  cases e2
theorem StandT.refl {TT : List NTab} {p : Addr} {H : Hp} (t : TabsN TT H) : StandT TT p H H := ⟨fun _ _ _ h _ => h, fun _ h => h, t⟩
theorem StandT.trans {TT : List NTab} {p : Addr} {H H1 H2 : Hp} (a : StandT TT p H H1) (b : StandT TT p H1 H2) : StandT TT p H H2 := ⟨fun c o n h x => b.ext c o n (a.ext c o n h x) x, fun c h => a.none_ c (b.none_ c h), b.tabs⟩
theorem StandT.ofExt {TT : List NTab} {p : Addr} {H H' : Hp} (e : Ext TT H H') : StandT TT p H H' := ⟨fun c o _ h x => e.ext c o h x, e.none_, e.tabs⟩
theorem StandT.ofStand {TT : List NTab} {p : Addr} {H H' : Hp} {xs : List V} (t : TabsN TT H) (hp : H p = some (.lst xs)) (s : Stand p H H') : StandT TT p H H' := ⟨fun c o n h _ => s.1 c o n h, s.2, tabs_but t hp s.1⟩
theorem PoolAt.ext {TT : List NTab} {H H' : Hp} {p a b : Addr} {n : Nat} (e : Ext TT H H') (h : PoolAt H p a b n) : PoolAt H' p a b n := by
  obtain ⟨h2, h3, cs, ss, at_, rest, cnt, h1, h4, h5, h6, h7, h8, h9⟩ := h
  exact ⟨h2, h3, cs, ss, at_, rest, cnt, e.ext _ _ h1 (fun ps z => by cases z), e.ext _ _ h4 (fun ps z => by cases z), e.ext _ _ h5 (fun ps z => by cases z), h6, h7, h8, h9⟩
theorem PoolAt.lst {H : Hp} {p a b : Addr} {n : Nat} (h : PoolAt H p a b n) : ∃ xs, H p = some (.lst xs) := by
  obtain ⟨h2, h3, cs, ss, at_, rest, cnt, h1, _⟩ := h
  exact ⟨_, h1⟩
def spRefus (TT : List NTab) : Sp := fun vs H Q _ => ∃ (p a b r : Addr) (n : Nat) (q : Sort5) (L : List Nat) (l : Nat), vs = [.ref p, .ref r] ∧ PoolAt H p a b n ∧ n + 11 < 1000000 ∧ SightAt H r q L l ∧ Alph L ∧ l ≤ 7 ∧ TabsN TT H ∧
  ∀ H', PoolAt H' p a b (n + 11) → StandT TT p H H' → Q (.bl true) H'
theorem ok_refus {f fw fo fs fr : Addr} {fd fdw fdo fds fdr : FuncData} {TT : List NTab} {k : Nat} (F : Fun K "_law_refusals" "_law_refusals" s_law_refusals f fd) (T : Blt mg) (G_draw : FnOk P w K mg base CX0 k fw fdw ["pool", "many"] (spDraw K)) (c_draw : Df K mg "_law_draw" fw fdw ["pool", "many"])
    (G_oddS : FnOk P w K mg base CX0 k fo fdo ["pool"] spOddS) (c_oddS : Df K mg "_law_odd_sort" fo fdo ["pool"]) (G_same : FnOk P w K mg base CX0 k fs fds ["told", "due"] (spSame K 3)) (c_same : Df K mg "_law_same" fs fds ["told", "due"])
    (G_ref : FnOk P w K mg base CX0 k fr fdr ["letters", "sort", "level"] (spRef K TT)) (c_ref : Df K mg "_law_refused" fr fdr ["letters", "sort", "level"]) :
    FnOk P w K mg base CX0 (k + 1) f fd ["pool", "sight"] (spRefus TT) := by
  refine F.ok sc_law_refusals (fun vs H Q E h => ?_) (fun cdv A outer s H vs Q E hr h => ?_)
  · obtain ⟨p, a, b, r, n, q, L, l, rfl, _⟩ := h
    rfl
  · obtain ⟨p, a, b, r, n, q5, L, l, rfl, hp, hn, hS, hA, hl, hT, q⟩ := h
    refine ⟨_, (pss_cons (ps_asg (pv 1) (L2.pg_unl (by rfl) (pgs_cons (pg_name (i := 2) sc_law_refusals.nd rfl (Or.inl rfl)) (pgs_cons (pg_name (i := 3) sc_law_refusals.nd rfl (Or.inl rfl)) (pgs_cons (pg_name (i := 4) sc_law_refusals.nd rfl (Or.inl rfl)) pgs_nil)))))
      (pss_cons (ps_set (i := 5) sc_law_refusals.nd rfl (Or.inl rfl) (pe_lst (pa_cons pe_str (pa_cons pe_str (pa_cons pe_str (pa_cons pe_str (pa_cons pe_str (pa_cons pe_str (pa_cons pe_str (pa_cons pe_str (pa_cons pe_str (pa_cons pe_str (pa_cons pe_str (pa_cons pe_str pa_nil))))))))))))))
      (pss_cons (ps_set (i := 6) sc_law_refusals.nd rfl (Or.inl rfl) (pe_ix ix_list (pv 5) (pe_call G_draw hr (by rfl) c_draw.m c_draw.k c_draw.b .nil pass0 (pa_cons (pv 0) (pa_cons pe_int pa_nil))) (fun _ _ => rfl)))
      (pss_cons (ps_set (i := 7) sc_law_refusals.nd rfl (Or.inl rfl) (pe_call G_oddS hr (by rfl) c_oddS.m c_oddS.k c_oddS.b .nil pass0 (pa_cons (pv 0) pa_nil)))
      (pss_cons (ps_set (i := 8) sc_law_refusals.nd rfl (Or.inl rfl) (pe_call G_draw hr (by rfl) c_draw.m c_draw.k c_draw.b .nil pass0 (pa_cons (pv 0) (pa_cons (pe_op op_pow pe_int pe_int) pa_nil))))
      (pss_cons (ps_for PassesOwn.never rfl (pi_list (pe_lst (pa_cons (pe_un un_neg pe_int) (pa_cons pe_int (pa_cons (pe_op op_sub (pe_un un_neg pe_int) (pv 8)) (pa_cons (pe_op op_add pe_int (pv 8)) pa_nil)))))) (pg_name (i := 9) sc_law_refusals.nd rfl (Or.inl rfl))
        (pss_cons (ps_if (pt_not (pt_val (pe_call G_same hr (by rfl) c_same.m c_same.k c_same.b .nil pass0 (pa_cons (pe_call G_ref hr (by rfl) c_ref.m c_ref.k c_ref.b .nil pass0 (pa_cons (pv 6) (pa_cons (pv 7) (pa_cons (pv 9) pa_nil)))) (pa_cons (pe_tup (pa_cons (pe_lst (pa_cons pe_int pa_nil)) (pa_cons (pv 6) pa_nil))) pa_nil))))) (pss_one (ps_ret pe_bl)) pss_nil)
      (pss_cons (ps_if (pt_not (pt_val (pe_call G_same hr (by rfl) c_same.m c_same.k c_same.b .nil pass0 (pa_cons (pe_call G_ref hr (by rfl) c_ref.m c_ref.k c_ref.b .nil pass0 (pa_cons (pv 2) (pa_cons (pv 7) (pa_cons (pv 9) pa_nil)))) (pa_cons (pe_tup (pa_cons (pe_lst (pa_cons pe_int pa_nil)) (pa_cons (pv 7) pa_nil))) pa_nil))))) (pss_one (ps_ret pe_bl)) pss_nil)
      (pss_one (ps_if (pt_not (pt_val (pe_call G_same hr (by rfl) c_same.m c_same.k c_same.b .nil pass0 (pa_cons (pe_call G_ref hr (by rfl) c_ref.m c_ref.k c_ref.b .nil pass0 (pa_cons (pv 2) (pa_cons (pv 3) (pa_cons (pv 9) pa_nil)))) (pa_cons (pe_tup (pa_cons (pe_lst (pa_cons pe_int pa_nil)) (pa_cons (pv 9) pa_nil))) pa_nil))))) (pss_one (ps_ret pe_bl)) pss_nil)))))
      (pss_cons (ps_if (pt_not (pt_val (pe_call G_same hr (by rfl) c_same.m c_same.k c_same.b .nil pass0 (pa_cons (pe_call G_ref hr (by rfl) c_ref.m c_ref.k c_ref.b .nil pass0 (pa_cons (pv 6) (pa_cons (pv 3) (pa_cons pe_int pa_nil)))) (pa_cons (pe_tup (pa_cons (pe_lst (pa_cons pe_int pa_nil)) (pa_cons (pv 6) pa_nil))) pa_nil))))) (pss_one (ps_ret pe_bl)) pss_nil)
      (pss_one (ps_ret (pe_call G_same hr (by rfl) c_same.m c_same.k c_same.b .nil pass0 (pa_cons (pe_call G_ref hr (by rfl) c_ref.m c_ref.k c_ref.b .nil pass0 (pa_cons (pv 2) (pa_cons (pv 7) (pa_cons (pv 4) pa_nil)))) (pa_cons (pe_tup (pa_cons (pe_lst (pa_cons pe_int pa_nil)) (pa_cons (pv 7) pa_nil))) pa_nil)))))))))))), ?_⟩
    obtain ⟨xp, hxp⟩ := hp.lst
    have b9 : ∀ m : Nat, m < 1000 → ((m : Nat) : Int).natAbs < 2 ^ 9000 := fun m hm => Nat.lt_of_lt_of_le (show _ < 2 ^ 12 by rw [Int.natAbs_natCast]; omega) (Nat.pow_le_pow_right (by decide) (by decide))
    have pne : ∀ {D : Addr}, H D = none → D ≠ p := fun {D} nD z => by rw [z, hxp] at nD; cases nD
    refine ⟨_, rfl, r, _, rfl, SqL.of hS, rfl, _, _, rfl, _, _, rfl, _, _, rfl, rfl, ?_⟩
    refine ⟨sizeLine_le (by show 12 ≤ _; decide), fun D1 n1 => ?_⟩
    have s1 := same_new (o := .lst [.str "", .str "b", .str "ba", .str "abcd", .str "aa", .str "A", .str "abc ", .str " ab", .str "ab
", .str "c", .str "bc", .str "ac"]) n1
    refine ⟨_, rfl, _, rfl, p, a, b, n, _, rfl, hp.same s1, by omega, by decide, b9 12 (by decide), fun d1 H1 hd1 hp1 st1 => ?_⟩
    have hD1 := st1.1 D1 _ (pne n1) upd_same
    obtain ⟨odd, ho1, ho2⟩ : ∃ odd : Str, ([V.str "", .str "b", .str "ba", .str "abcd", .str "aa", .str "A", .str "abc ", .str " ab", .str "ab
", .str "c", .str "bc", .str "ac"])[d1]? = some (.str odd) ∧ inV (.str odd) alphs = false := by
      match d1, hd1 with
      | 0, _ => exact ⟨_, rfl, by decide +kernel⟩
      | 1, _ => exact ⟨_, rfl, by decide +kernel⟩
      | 2, _ => exact ⟨_, rfl, by decide +kernel⟩
      | 3, _ => exact ⟨_, rfl, by decide +kernel⟩
      | 4, _ => exact ⟨_, rfl, by decide +kernel⟩
      | 5, _ => exact ⟨_, rfl, by decide +kernel⟩
      | 6, _ => exact ⟨_, rfl, by decide +kernel⟩
      | 7, _ => exact ⟨_, rfl, by decide +kernel⟩
      | 8, _ => exact ⟨_, rfl, by decide +kernel⟩
      | 9, _ => exact ⟨_, rfl, by decide +kernel⟩
      | 10, _ => exact ⟨_, rfl, by decide +kernel⟩
      | 11, _ => exact ⟨_, rfl, by decide +kernel⟩
      | d + 12, h => omega
    refine ⟨D1, _, d1, _, rfl, rfl, SqL.of hD1, atI_nat ho1, ?_⟩
    have st1' := (Stand.of (p := p) s1).trans st1
    refine ⟨_, rfl, p, a, b, n + 1, rfl, hp1, by omega, fun name H2 hname hp2 st2 => ?_⟩
    have st2' := st1'.trans st2
    have c40 : CPow 10 40 := ⟨by decide, by decide, by decide⟩
    have p40 : (0 : Int) < (10 : Int) ^ (40 : Int).toNat := by decide +kernel
    have q40 : ((10 : Int) ^ (40 : Int).toNat).natAbs < 2 ^ 9000 := Nat.lt_of_lt_of_le (show _ < 2 ^ 200 by decide +kernel) (Nat.pow_le_pow_right (by decide) (by decide))
    refine ⟨_, rfl, _, _, rfl, rfl, c40, p, a, b, n + 1 + 9, _, rfl, hp2, by omega, p40, q40, fun far H3 hfar hp3 st3 => ?_⟩
    have st3' := st2'.trans st3
    refine ⟨_, rfl, _, rfl, _, rfl, _, _, rfl, rfl, _, rfl, _, _, rfl, rfl, sizeLine_le (by show 4 ≤ _; decide), fun D2 n2 => ?_⟩
    have sL := same_new (o := .lst [.int (-1), .int 8, .int (-1 - (far : Nat)), .int (8 + (far : Nat))]) n2
    have st4 := st3'.trans (Stand.of (p := p) sL)
    have W0 : StandT TT p H (upd H3 D2 (.lst [.int (-1), .int 8, .int (-1 - (far : Nat)), .int (8 + (far : Nat))])) := StandT.ofStand hT hxp st4
    have hp4 := hp3.same sL
    have okD : ∀ (m : Nat) (v : PyData), Scal v → SameOk 3 (.tuple [.list [.int (m : Nat)], v]) := fun m v hv => by
      refine ⟨by show 2 ≤ 100000; decide, fun y hy => ?_⟩
      simp only [List.mem_cons, List.not_mem_nil, or_false] at hy
      rcases hy with rfl | rfl
      · refine ⟨by show 1 ≤ 100000; decide, fun z hz => ?_⟩
        rw [List.mem_singleton.mp hz]
        exact True.intro
      · exact SameOk.scal hv 2
    have D2p : D2 ≠ p := pne (st3'.2 _ n2)
    have hD2 : (upd H3 D2 (.lst [.int (-1), .int 8, .int (-1 - (far : Nat)), .int (8 + (far : Nat))])) D2 = some (.lst [.int (-1), .int 8, .int (-1 - (far : Nat)), .int (8 + (far : Nat))]) := upd_same
    refine ⟨D2, rfl, ⟨_, SqL.of hD2⟩, for_list (xs := [.int (-1), .int 8, .int (-1 - (far : Nat)), .int (8 + (far : Nat))]) (fun i σ H' => StandT TT p H H' ∧ StandT TT p (upd H3 D2 (.lst [.int (-1), .int 8, .int (-1 - (far : Nat)), .int (8 + (far : Nat))])) H' ∧ PoolAt H' p a b (n + 1 + 9 + 1) ∧
      ∃ v9, σ = [some (.ref p), some (.ref r), some (.str (tx L)), some (.str (nm5 q5)), some (.int (l : Nat)), some (.ref D1), some (.str odd), some (.str name), some (.int (far : Nat)), v9])
      ⟨W0, StandT.refl W0.tabs, hp4, none, rfl⟩ (fun i σ H' _ hP => SqL.of (hP.2.1.ext _ _ D2p hD2 (fun ps z => by cases z))) (fun i x σ H' hx hP => ?_) (fun σ H' hP => ?_)⟩
    · obtain ⟨W1, W2, hp5, v9, rfl⟩ := hP
      obtain ⟨z, rfl, hz⟩ : ∃ z : Int, x = .int z ∧ ¬ (0 ≤ z ∧ z ≤ 7) := by
        match i, hx with
        | 0, hx => cases hx; exact ⟨_, rfl, by omega⟩
        | 1, hx => cases hx; exact ⟨_, rfl, by omega⟩
        | 2, hx => cases hx; exact ⟨_, rfl, by omega⟩
        | 3, hx => cases hx; exact ⟨_, rfl, by omega⟩
        | i + 4, hx =>
          rw [List.getElem?_eq_none (by show 4 ≤ i + 4; omega)] at hx
          cases hx
      refine ⟨_, rfl, _, rfl, _, rfl, odd, name, z, rfl, W1.tabs, .inl ⟨ho2,  fun r1 G1 X1 d1 => ?_⟩⟩
      refine ⟨sizeLine_le (by show 1 ≤ _; decide), fun E1 ne1 => ⟨_, rfl, sizeLine_le (by show 2 ≤ _; decide), fun F1 nf1 => ?_⟩⟩
      have sE1 := (same_new (o := .lst [.int 1]) ne1).trans (same_new (o := .tup [.ref E1, .str odd]) nf1)
      have tE1 : (upd (upd G1 E1 (.lst [.int 1])) F1 (.tup [.ref E1, .str odd])) E1 = some (.lst [.int 1]) := same_new nf1 _ _ upd_same
      refine ⟨.ref r1, .ref F1, .tuple [.list [.int (1 : Nat)], .str odd], rfl, Dp.same sE1 _ _ d1, .tup (.of upd_same) (.cons (.lst (SqL.of tE1) (.cons (.int _) .nil)) (.cons (.str _) .nil)), okD _ _ True.intro, fun K1 t1 => ?_⟩
      have V1 : Ext TT H' K1 := (X1.same sE1).same t1
      refine ⟨_, rfl, ?_⟩
      refine iteF ?_
      refine ⟨_, rfl, _, rfl, _, rfl, tx L, name, z, rfl, V1.tabs, .inr (.inl ⟨alph_in hA, hname,  fun r2 G2 X2 d2 => ?_⟩)⟩
      refine ⟨sizeLine_le (by show 1 ≤ _; decide), fun E2 ne2 => ⟨_, rfl, sizeLine_le (by show 2 ≤ _; decide), fun F2 nf2 => ?_⟩⟩
      have sE2 := (same_new (o := .lst [.int 5]) ne2).trans (same_new (o := .tup [.ref E2, .str name]) nf2)
      have tE2 : (upd (upd G2 E2 (.lst [.int 5])) F2 (.tup [.ref E2, .str name])) E2 = some (.lst [.int 5]) := same_new nf2 _ _ upd_same
      refine ⟨.ref r2, .ref F2, .tuple [.list [.int (5 : Nat)], .str name], rfl, Dp.same sE2 _ _ d2, .tup (.of upd_same) (.cons (.lst (SqL.of tE2) (.cons (.int _) .nil)) (.cons (.str _) .nil)), okD _ _ True.intro, fun K2 t2 => ?_⟩
      have V2 : Ext TT H' K2 := V1.trans ((X2.same sE2).same t2)
      refine ⟨_, rfl, ?_⟩
      refine iteF ?_
      refine ⟨_, rfl, _, rfl, _, rfl, tx L, nm5 q5, z, rfl, V2.tabs, .inr (.inr (.inl ⟨alph_in hA, sort_in q5, hz,  fun r3 G3 X3 d3 => ?_⟩))⟩
      refine ⟨sizeLine_le (by show 1 ≤ _; decide), fun E3 ne3 => ⟨_, rfl, sizeLine_le (by show 2 ≤ _; decide), fun F3 nf3 => ?_⟩⟩
      have sE3 := (same_new (o := .lst [.int 3]) ne3).trans (same_new (o := .tup [.ref E3, .int z]) nf3)
      have tE3 : (upd (upd G3 E3 (.lst [.int 3])) F3 (.tup [.ref E3, .int z])) E3 = some (.lst [.int 3]) := same_new nf3 _ _ upd_same
      refine ⟨.ref r3, .ref F3, .tuple [.list [.int (3 : Nat)], .int z], rfl, Dp.same sE3 _ _ d3, .tup (.of upd_same) (.cons (.lst (SqL.of tE3) (.cons (.int _) .nil)) (.cons (.int _) .nil)), okD _ _ True.intro, fun K3 t3 => ?_⟩
      have V3 : Ext TT H' K3 := V2.trans ((X3.same sE3).same t3)
      refine ⟨_, rfl, ?_⟩
      refine iteF ?_
      exact ⟨W1.trans (.ofExt V3), W2.trans (.ofExt V3), hp5.ext V3, _, rfl⟩
    · obtain ⟨W1, W2, hp5, v9, rfl⟩ := hP
      refine ⟨_, rfl, _, rfl, odd, nm5 q5, 7, rfl, W1.tabs, .inl ⟨ho2,  fun r4 G4 X4 d4 => ?_⟩⟩
      refine ⟨sizeLine_le (by show 1 ≤ _; decide), fun E4 ne4 => ⟨_, rfl, sizeLine_le (by show 2 ≤ _; decide), fun F4 nf4 => ?_⟩⟩
      have sE4 := (same_new (o := .lst [.int 1]) ne4).trans (same_new (o := .tup [.ref E4, .str odd]) nf4)
      have tE4 : (upd (upd G4 E4 (.lst [.int 1])) F4 (.tup [.ref E4, .str odd])) E4 = some (.lst [.int 1]) := same_new nf4 _ _ upd_same
      refine ⟨.ref r4, .ref F4, .tuple [.list [.int (1 : Nat)], .str odd], rfl, Dp.same sE4 _ _ d4, .tup (.of upd_same) (.cons (.lst (SqL.of tE4) (.cons (.int _) .nil)) (.cons (.str _) .nil)), okD _ _ True.intro, fun K4 t4 => ?_⟩
      have V1 : Ext TT H' K4 := (X4.same sE4).same t4
      refine ⟨_, rfl, ?_⟩
      refine iteF ?_
      refine ⟨_, rfl, _, rfl, _, rfl, tx L, name, (l : Nat), rfl, V1.tabs, .inr (.inl ⟨alph_in hA, hname,  fun r5 G5 X5 d5 => ?_⟩)⟩
      refine ⟨sizeLine_le (by show 1 ≤ _; decide), fun E5 ne5 => ⟨_, rfl, sizeLine_le (by show 2 ≤ _; decide), fun F5 nf5 => ?_⟩⟩
      have sE5 := (same_new (o := .lst [.int 5]) ne5).trans (same_new (o := .tup [.ref E5, .str name]) nf5)
      have tE5 : (upd (upd G5 E5 (.lst [.int 5])) F5 (.tup [.ref E5, .str name])) E5 = some (.lst [.int 5]) := same_new nf5 _ _ upd_same
      refine ⟨.ref r5, .ref F5, .tuple [.list [.int (5 : Nat)], .str name], rfl, Dp.same sE5 _ _ d5, .tup (.of upd_same) (.cons (.lst (SqL.of tE5) (.cons (.int _) .nil)) (.cons (.str _) .nil)), okD _ _ True.intro, fun K5 t5 => ?_⟩
      have V2 : Ext TT H' K5 := V1.trans ((X5.same sE5).same t5)
      exact q K5 (hp5.ext V2) (W1.trans (.ofExt V2))
end
end K71
end
section
set_option Elab.async false
set_option linter.all false
set_option maxRecDepth 100000
set_option maxHeartbeats 1000000
/-! a text, many times -/
namespace K71
open PySem PySem.Spec L2
open PyProof.Rows hiding St
theorem fold_flat (u : List Nat) : ∀ (n : Nat) (acc : Array Nat), (List.replicate n u.toArray).foldl (· ++ ·) acc = acc ++ ((List.replicate n u).flatten).toArray
  | 0, acc => by simp
  | n + 1, acc => by
    rw [List.replicate_succ, List.foldl_cons, fold_flat u n, List.replicate_succ, List.flatten_cons]
    simp
section
variable {X : Cx}
def rRepS : R2 := fun x y H Q => ∃ (u : List Nat) (n : Nat), x = .str (tx u) ∧ y = .int (n : Nat) ∧ 1 ≤ u.length ∧ u.length ≤ 8 ∧ 2 ≤ n ∧ n ≤ 40000 ∧ Q (.str (tx (List.replicate n u).flatten)) H
theorem op_repS : OpR X (binaryOp .Mult) rRepS := by
  intro pins s σ H x y v w Q I rx ry h
  obtain ⟨u, n, rfl, rfl, h1, h2, h3, h4, q⟩ := h
  obtain ⟨t, rfl⟩ := rx
  obtain ⟨t', rfl⟩ := ry
  have hlen : (tx u).length = u.length := tx_len u
  have n1 : ¬ ((n : Nat) : Int) < 1 := by omega
  have nb : (((n : Nat) : Int) == 1 || (tx u).length == 0) = false := by
    rw [hlen, Bool.or_eq_false_iff]
    exact ⟨beq_eq_false_iff_ne.mpr (by omega), beq_eq_false_iff_ne.mpr (by omega)⟩
  refine P.mul_str (by rw [decide_eq_false (by omega), decide_eq_false (by omega)] <;> rfl) (fun _ _ => ?_) (fun _ _ => ?_) ?_
  · rw [hlen]
    have hm : u.length * n ≤ 8 * 40000 := Nat.mul_le_mul h2 h4
    have hm' : ((u.length : Nat) : Int) * ((n : Nat) : Int) ≤ 2 ^ 63 - 1 := by
      have : ((u.length * n : Nat) : Int) ≤ 320000 := by omega
      rw [Int.natCast_mul] at this
      omega
    have := Int.le_ediv_of_mul_le (show (0 : Int) < ((n : Nat) : Int) by omega) hm'
    omega
  · rw [hlen, Int.toNat_natCast]
    have hm : u.length * n ≤ 8 * 40000 := Nat.mul_le_mul h2 h4
    exact decide_eq_false (by rw [sizeLine_eq]; omega)
  · rw [if_neg n1, nb]
    rw [Int.toNat_natCast, show (tx u).cps = u.toArray from rfl, fold_flat]
    have hm : u.length * n ≤ 8 * 40000 := Nat.mul_le_mul h2 h4
    have hl : ((List.replicate n u).flatten).length = n * u.length := by simp
    refine ⟨?_, ?_⟩
    · show (#[] ++ (List.replicate n u).flatten.toArray).size ≤ _
      rw [Array.empty_append, List.size_toArray, hl, Nat.mul_comm, sizeLine_eq]
      omega
    · exact ⟨.str (tx (List.replicate n u).flatten), H, I.tok _, ⟨s.toks, by rw [Array.empty_append]⟩, q⟩
end
end K71
end
section
set_option Elab.async false
set_option linter.all false
set_option maxRecDepth 100000
set_option maxHeartbeats 4000000
/-! _law_pieces -/
namespace K71
open PySem PySem.Spec SG NdefX LamX
open L2 hiding It
open PyProof.Rows hiding St
open Lv (Wd Srt IT)
theorem take_snocA {α : Type} {w : List α} {i : Nat} {c : α} (h : w[i]? = some c) : w.take (i + 1) = w.take i ++ [c] := by
  rw [List.take_add_one, h] <;> rfl
/-- the table of pieces found -/
def mP (fs : List Wd) : List (NestedKey × V) := fs.map fun p => (tk p, V.bl true)
theorem mP_val (fs : List Wd) (p : Wd) : (valV (mP fs) (tk p)).isSome = decide (p ∈ fs) := by
  induction fs with
  | nil => rfl
  | cons q fs ih =>
    unfold mP at ih ⊢
    rw [List.map_cons]
    by_cases h : q = p
    · subst h
      rw [valV_pos rfl, decide_eq_true (List.mem_cons_self)] <;> rfl
    · rw [valV_neg (fun z => h (tk_inj z)), ih]
      exact decide_eq_decide.mpr ⟨fun z => List.mem_cons_of_mem _ z, fun z => (List.mem_cons.mp z).resolve_left (fun y => h y.symm)⟩
theorem mP_put (fs : List Wd) (p : Wd) : putK (mP fs) (tk p) (.bl true) = mP (if p ∈ fs then fs else fs ++ [p]) := by
  have e : ((mP fs).any fun kv => decide (kv.1 = tk p)) = decide (p ∈ fs) := by rw [any_val, mP_val]
  unfold putK
  rw [e]
  by_cases h : p ∈ fs
  · rw [if_pos (decide_eq_true h), if_pos h]
    unfold mP
    rw [List.map_map]
    refine List.map_congr_left fun q _ => ?_
    show (if tk q = tk p then (tk q, V.bl true) else (tk q, V.bl true)) = _
    rw [ite_self]
  · rw [if_neg (by rw [decide_eq_false h]; decide), if_neg h]
    unfold mP
    rw [List.map_append] <;> rfl
theorem mP_keys {fs : List Wd} {kvs : List (Key × V)} (e : mP fs = kvs.map fun p => (kN p.1, p.2)) : kvs.map (·.1) = (fs.map tx).map Sum.inr := by
  induction fs generalizing kvs with
  | nil =>
    cases kvs with
    | nil => rfl
    | cons q kvs => cases e
  | cons p fs ih =>
    cases kvs with
    | nil => cases e
    | cons q kvs =>
      unfold mP at e ih
      rw [List.map_cons, List.map_cons] at e
      injection e with e1 e2
      rw [List.map_cons, List.map_cons, List.map_cons, ih e2]
      congr 1
      have : kN q.1 = kN (Sum.inr (tx p)) := (congrArg (·.1) e1).symm
      exact kN_inj this
theorem ins_nodup {fs : List Wd} (h : fs.Nodup) (p : Wd) : (if p ∈ fs then fs else fs ++ [p]).Nodup := by
  by_cases e : p ∈ fs
  · rw [if_pos e]; exact h
  · rw [if_neg e]
    refine List.nodup_append.mpr ⟨h, List.nodup_cons.mpr ⟨List.not_mem_nil, List.nodup_nil⟩, ?_⟩
    intro a ha b hb z
    rw [List.mem_singleton.mp hb] at z
    exact e (z ▸ ha)
theorem ins_mem {fs : List Wd} {p x : Wd} : x ∈ (if p ∈ fs then fs else fs ++ [p]) ↔ x ∈ fs ∨ x = p := by
  by_cases e : p ∈ fs
  · rw [if_pos e]
    exact ⟨.inl, fun h => h.elim id fun z => z ▸ e⟩
  · rw [if_neg e, List.mem_append, List.mem_singleton]
section
variable {P : Program} {w : World} {K : PySem.W.Frag} {mg : Str → Option Value} {base : Heap}
def spPcs (K : PySem.W.Frag) : Sp := fun vs H Q _ => ∃ (L u : List Nat) (l : Nat), vs = [.str (tx u), .int (l : Nat)] ∧ L.length ≤ 3 ∧ l ≤ 7 ∧ (∀ c ∈ u, c ∈ L) ∧ ∀ v H', Same H H' → KeyAt K H' v (kdP l u) → Q v H'
theorem ok_pcs {f : Addr} {fd : FuncData} {k : Nat} (F : Fun K "_law_pieces" "_law_pieces" s_law_pieces f fd) (T : Blt mg) : FnOk P w K mg base CX0 (k + 1) f fd ["word", "most"] (spPcs K) := by
  refine F.ok sc_law_pieces (fun vs H Q E h => ?_) (fun cdv A outer s H vs Q E hr h => ?_)
  · obtain ⟨L, u, l, rfl, _⟩ := h
    rfl
  · obtain ⟨L, u, l, rfl, hL, hl, hu, q⟩ := h
    refine ⟨_, (pss_cons (ps_set (i := 2) sc_law_pieces.nd rfl (Or.inl rfl) (pe_disT true hr.units pe_str pe_bl))
      (pss_cons (ps_for PassesOwn.never rfl (pi_str (pv 0)) (pg_name (i := 3) sc_law_pieces.nd rfl (Or.inl rfl))
        (pss_one (ps_for PassesOwn.never rfl (pi_list (pe_callTy (call_list_dK rfl) (by rfl) T.list (by decide +kernel) (pa_cons (pv 2) pa_nil))) (pg_name (i := 4) sc_law_pieces.nd rfl (Or.inl rfl))
          (pss_one (ps_if (pt_cmpR op_lt (pe_callB call_len_str (by rfl) T.len PySem.boot_len (pa_cons (pv 4) pa_nil)) (pv 1) (nomark _)) (pss_one (ps_putT hr.units (pv 2) (pe_op op_add_str (pv 4) (pv 3)) pe_bl rfl)) pss_nil)))))
      (pss_one (ps_ret (pe_callTy call_tuple_of (by rfl) T.tuple (by decide +kernel) (pa_cons (pe_callB (SG.cr_sortedK rfl hr.units) (by rfl) T.sorted (by decide +kernel) (pa_cons (pv 2) pa_nil)) pa_nil)))))), ?_⟩
    refine fun d nd => ⟨upd_same, .text "", Dp.str _, ⟨.inr "", rfl⟩, fun o st1 tb => ?_⟩
    dsimp only [cxOf] at st1 tb ⊢
    generalize hH1 : upd (upd H d (empT P w true d)) d o = H1 at st1 tb ⊢
    have s1 : Same H H1 := fun x u e => by
      have nx : x ≠ d := fun z => by rw [z, nd] at e; cases e
      rw [← hH1, upd_ne nx, upd_ne nx]
      exact e
    have e0 : tx [] = ("" : Str) := by decide
    have tb0 : TabAt K P w H1 true d (mP [[]]) := by
      unfold mP tk
      rw [List.map_singleton, e0]
      exact tb
    have few : ∀ (v : List Nat) (fs : List Wd), (∀ c ∈ v, c ∈ L) → fs.Nodup → (∀ x ∈ fs, x ∈ piecesOf l v) → fs.length ≤ 4000 := fun v fs hv h1 h2 => by
      have := SG.nodup_le fs (allW L l) h1 fun x hx => by
        obtain ⟨p1, p2⟩ := pieces_fit v hv x (h2 x hx)
        exact allW_mem L l x p1 p2
      refine Nat.le_trans this (Nat.le_trans (allW_len hL l) ?_)
      have : (3 : Nat) ^ (l + 1) ≤ 3 ^ 8 := Nat.pow_le_pow_right (by decide) (by omega)
      have e8 : (3 : Nat) ^ 8 = 6561 := by decide
      omega
    refine ⟨_, rfl, tx u, rfl, for_str (w := u) (fun i σ H' => Same H H' ∧ (∃ fs, TabAt K P w H' true d (mP fs) ∧ fs.Nodup ∧ ∀ x, x ∈ fs ↔ x ∈ piecesOf l (u.take i)) ∧ ∃ v3 v4, σ = [some (.str (tx u)), some (.int (l : Nat)), some (.ref d), v3, v4]) ⟨s1, ⟨[[]], tb0, by simp, fun x => Iff.rfl⟩, none, none, rfl⟩ (fun i c σ H' hc hP => ?_) (fun σ H' hP => ?_)⟩
    · obtain ⟨s2, ⟨fs, t2, n2, m2⟩, v3, v4, rfl⟩ := hP
      obtain ⟨kvs, hk, ek⟩ := id t2
      refine ⟨_, rfl, d, kvs, rfl, hk, fun D nD => ?_⟩
      have eks := mP_keys ek
      have elist : (kvs.map fun kv => kV kv.1) = fs.map fun p => V.str (tx p) := by
        have : (kvs.map fun kv => kV kv.1) = (kvs.map (·.1)).map kV := by rw [List.map_map] <;> rfl
        rw [this, eks, List.map_map, List.map_map] <;> rfl
      rw [elist]
      have hcL : c ∈ L := hu c (List.mem_of_getElem? hc)
      have etk := take_snoc hc
      have huv : ∀ d ∈ u.take (i + 1), d ∈ L := fun d hd => hu d (List.mem_of_mem_take hd)
      have huv' : ∀ d ∈ u.take i, d ∈ L := fun d hd => hu d (List.mem_of_mem_take hd)
      have s3 := same_new (o := .lst (fs.map fun p => V.str (tx p))) nD
      have nDd : D ≠ d := fun z => by rw [z, hk] at nD; cases nD
      have dn : H D = none := by
        cases hh : H D with
        | none => rfl
        | some oo => rw [s2 D oo hh] at nD; cases nD
      refine ⟨D, rfl, ⟨_, SqL.of upd_same⟩, for_list (xs := fs.map fun p => V.str (tx p)) (fun j σ H'' => Same H H'' ∧ H'' D = some (.lst (fs.map fun p => V.str (tx p))) ∧ (∃ gs, TabAt K P w H'' true d (mP gs) ∧ gs.Nodup ∧ ∀ x, x ∈ gs ↔ x ∈ fs ∨ ∃ p ∈ fs.take j, p.length < l ∧ x = p ++ [c]) ∧
          ∃ v4, σ = [some (.str (tx u)), some (.int (l : Nat)), some (.ref d), some (.str (tx [c])), v4]) ⟨s2.trans s3, upd_same, ⟨fs, TabAt.stay t2 (.of s3) (by rw [upd_ne nDd.symm]), n2, fun x => by simp⟩, v4, rfl⟩ (fun j σ H'' _ hP => SqL.of hP.2.1) (fun j x σ H'' hx hP => ?_) (fun σ H'' hP => ?_)⟩
      · obtain ⟨s4, hD, ⟨gs, t4, n4, m4⟩, v4', rfl⟩ := hP
        rw [List.getElem?_map] at hx
        obtain ⟨p, hp, rfl⟩ := Option.map_eq_some_iff.mp hx
        have hpm := List.mem_of_getElem? hp
        have hpf := pieces_fit (l := l) (u.take i) huv' p ((m2 p).mp hpm)
        have etp := take_snocA hp
        refine ⟨_, rfl, tx p, rfl, sizeLine_le (by rw [tx_len]; omega), _, rfl, _, _, rfl, rfl, _, rfl, ?_⟩
        rw [tx_len]
        by_cases hlt : p.length < l
        · rw [decide_eq_true (show ((p.length : Nat) : Int) < (l : Nat) by omega)]
          refine iteT ?_
          refine ⟨_, rfl, _, rfl, _, rfl, tx p, tx [c], rfl, rfl, sizeLine_le (by rw [tx_len, tx_len]; show p.length + 1 ≤ _; omega), ?_⟩
          rw [tx_app]
          have flen : gs.length ≤ 4000 := few (u.take (i + 1)) gs huv n4 fun x hx => by
            rw [etk, pieces_snoc]
            unfold piecesNext
            rw [List.mem_append, List.mem_map]
            rcases (m4 x).mp hx with z | ⟨y, y1, y2, rfl⟩
            · exact .inr ((m2 x).mp z)
            · exact .inl ⟨y, List.mem_filter.mpr ⟨(m2 y).mp (List.mem_of_mem_take y1), decide_eq_true y2⟩, rfl⟩
          refine ⟨true, d, mP gs, tk (p ++ [c]), rfl, t4, Dp.str _, ⟨.inr (tx (p ++ [c])), rfl⟩, Nat.lt_of_le_of_lt (show (mP gs).length ≤ 4000 by unfold mP; rw [List.length_map]; exact flen) (by rw [sizeLine_eq]; decide), fun o' st5 t5 => ?_⟩
          rw [mP_put] at t5
          have nd5 : H d = none := nd
          refine ⟨fun b ob hb => ?_, ?_, ⟨_, t5, ins_nodup n4 _, fun x => ?_⟩, _, rfl⟩
          · have nb : b ≠ d := fun z => by rw [z, nd] at hb; cases hb
            rw [upd_ne nb]
            exact s4 b ob hb
          · rw [upd_ne nDd]; exact hD
          · rw [ins_mem, m4, etp]
            simp only [List.mem_append, List.mem_singleton]
            constructor
            · rintro ((h | ⟨y, y1, y2, y3⟩) | h)
              · exact .inl h
              · exact .inr ⟨y, .inl y1, y2, y3⟩
              · exact .inr ⟨p, .inr rfl, hlt, h⟩
            · rintro (h | ⟨y, y1 | y1, y2, y3⟩)
              · exact .inl (.inl h)
              · exact .inl (.inr ⟨y, y1, y2, y3⟩)
              · rw [y1] at y3; exact .inr y3
        · rw [decide_eq_false (show ¬ ((p.length : Nat) : Int) < (l : Nat) by omega)]
          refine iteF ?_
          refine ⟨s4, hD, ⟨gs, t4, n4, fun x => ?_⟩, _, rfl⟩
          rw [m4, etp]
          simp only [List.mem_append, List.mem_singleton]
          constructor
          · rintro (h | ⟨y, y1, y2, y3⟩)
            · exact .inl h
            · exact .inr ⟨y, .inl y1, y2, y3⟩
          · rintro (h | ⟨y, y1 | y1, y2, y3⟩)
            · exact .inl h
            · exact .inr ⟨y, y1, y2, y3⟩
            · rw [y1] at y2; exact absurd y2 hlt
      · obtain ⟨s4, hD, ⟨gs, t4, n4, m4⟩, v4', rfl⟩ := hP
        refine ⟨s4, ⟨gs, t4, n4, fun x => ?_⟩, _, _, rfl⟩
        rw [m4, etk, pieces_snoc]
        unfold piecesNext
        rw [List.mem_append, List.mem_map, List.length_map, List.take_length, m2]
        constructor
        · rintro (h | ⟨y, y1, y2, y3⟩)
          · exact .inr h
          · exact .inl ⟨y, List.mem_filter.mpr ⟨(m2 y).mp y1, decide_eq_true y2⟩, y3.symm⟩
        · rintro (⟨y, y1, y3⟩ | h)
          · obtain ⟨z1, z2⟩ := List.mem_filter.mp y1
            exact .inr ⟨y, (m2 y).mpr z1, of_decide_eq_true z2, y3.symm⟩
          · exact .inl h
    · obtain ⟨s2, ⟨fs, t2, n2, m2⟩, v3, v4, rfl⟩ := hP
      rw [List.take_length] at m2
      obtain ⟨kvs, hk, ek⟩ := id t2
      refine ⟨_, rfl, d, kvs, fs.map tx, rfl, hk, mP_keys ek, fun p np => ?_⟩
      refine ⟨p, _, rfl, .inl ⟨SqL.of upd_same, fun t nt => ?_⟩⟩
      have s3 := same_new (o := .lst ((srtX (fs.map tx)).map V.str)) np
      have s4 := same_new (o := .tup ((srtX (fs.map tx)).map V.str)) nt
      refine q _ _ ((s2.trans s3).trans s4) ?_
      have nd' : (fs.map tx).Nodup := List.pairwise_map.mpr (List.Pairwise.imp (fun h z => h (tx_inj z)) n2)
      have hc := srtX_canon (xs := piecesOf l u) (List.Perm.refl (fs.map tx)) nd' fun x => by
        rw [List.mem_map, List.mem_map]
        exact ⟨fun ⟨y, h1, h2⟩ => ⟨y, (m2 y).mp h1, h2⟩, fun ⟨y, h1, h2⟩ => ⟨y, (m2 y).mpr h1, h2⟩⟩
      show Dp K _ _ (.tuple (NestedKey.datas (Cn.canon ((piecesOf l u).map tk))))
      rw [← hc, datas_strs]
      exact .tup (.of upd_same) (dp_strs _)
end
end K71
end
section
set_option Elab.async false
set_option linter.all false
set_option maxRecDepth 100000
/-! Numbers that are told to a part of the words only; the numbers of a book. -/
namespace Lv
open Cn
/-- μ numbers the classes of R among the words of S -/
def NumOn (S : Wd → Prop) (R : Wd → Wd → Prop) (μ : Wd → Nat) : Prop := ∀ x y, S x → S y → (μ x = μ y ↔ R x y)
theorem num_ext {S : Wd → Prop} {R : Wd → Wd → Prop} {μ : Wd → Nat} (E : Eqv R) (h : NumOn S R μ) : ∃ ν, Num R ν ∧ ∀ x, S x → ν x = 2 * μ x := by
  classical
  obtain ⟨ν0, n0⟩ := num_ex E
  refine ⟨fun x => if h : ∃ y, S y ∧ R x y then 2 * μ h.choose else 2 * ν0 x + 1, fun x y => ?_, fun x hx => ?_⟩
  · show (if h : ∃ y, S y ∧ R x y then 2 * μ h.choose else 2 * ν0 x + 1) = (if h : ∃ z, S z ∧ R y z then 2 * μ h.choose else 2 * ν0 y + 1) ↔ R x y
    by_cases hx : ∃ z, S z ∧ R x z
    · rw [dif_pos hx]
      by_cases hy : ∃ z, S z ∧ R y z
      · rw [dif_pos hy]
        have a := hx.choose_spec
        have b := hy.choose_spec
        refine ⟨fun e => ?_, fun r => ?_⟩
        · have e' : μ hx.choose = μ hy.choose := by omega
          exact E.trans a.2 (E.trans ((h _ _ a.1 b.1).mp e') (E.symm b.2))
        · have e' : μ hx.choose = μ hy.choose := (h _ _ a.1 b.1).mpr (E.trans (E.symm a.2) (E.trans r b.2))
          omega
      · rw [dif_neg hy]
        refine ⟨fun e => by omega, fun r => absurd ?_ hy⟩
        obtain ⟨z, sz, rz⟩ := hx
        exact ⟨z, sz, E.trans (E.symm r) rz⟩
    · rw [dif_neg hx]
      by_cases hy : ∃ z, S z ∧ R y z
      · rw [dif_pos hy]
        refine ⟨fun e => by omega, fun r => absurd ?_ hx⟩
        obtain ⟨z, sz, rz⟩ := hy
        exact ⟨z, sz, E.trans r rz⟩
      · rw [dif_neg hy]
        refine ⟨fun e => (n0 x y).mp (by omega), fun r => ?_⟩
        have := (n0 x y).mpr r
        omega
  · have e : ∃ y, S y ∧ R x y := ⟨x, hx, E.refl x⟩
    show (if h : ∃ y, S y ∧ R x y then 2 * μ h.choose else 2 * ν0 x + 1) = 2 * μ x
    rw [dif_pos e]
    have a := e.choose_spec
    rw [(h _ _ a.1 hx).mpr (E.symm a.2)]
/-- all parts of w that its items name are in S -/
def Parts (s : Srt) (S : Wd → Prop) (w : Wd) : Prop := ∀ x ∈ splits w, S x.1 ∧ (s = .rank → S x.2.2)
theorem Parts.mono {s : Srt} {S S' : Wd → Prop} {w : Wd} (h : Parts s S w) (k : ∀ x, S x → S' x) : Parts s S' w := fun x hx => ⟨k _ (h x hx).1, fun e => k _ ((h x hx).2 e)⟩
theorem items_congr {s : Srt} {S : Wd → Prop} {μ ν : Wd → Nat} {w : Wd} (p : Parts s S w) (h : ∀ x, S x → μ x = ν x) : itemsOf s μ w = itemsOf s ν w := by
  unfold itemsOf
  refine List.map_congr_left fun x hx => ?_
  unfold item
  rw [h _ (p x hx).1]
  by_cases e : s = .rank
  · rw [if_pos e, if_pos e, h _ ((p x hx).2 e)]
  · rw [if_neg e, if_neg e]
def dbl (t : IT) : IT := (2 * t.1, t.2.1, 2 * t.2.2)
def hlf (t : IT) : IT := (t.1 / 2, t.2.1, t.2.2 / 2)
theorem hlf_dbl (t : IT) : hlf (dbl t) = t := by
  obtain ⟨a, b, c⟩ := t
  show (2 * a / 2, b, 2 * c / 2) = (a, b, c)
  rw [Nat.mul_div_cancel_left _ (by decide), Nat.mul_div_cancel_left _ (by decide)]
theorem items_dbl {s : Srt} {S : Wd → Prop} {μ ν : Wd → Nat} {w : Wd} (p : Parts s S w) (h : ∀ x, S x → ν x = 2 * μ x) : itemsOf s ν w = (itemsOf s μ w).map dbl := by
  unfold itemsOf
  rw [List.map_map]
  refine List.map_congr_left fun x hx => ?_
  show item s ν x = dbl (item s μ x)
  unfold item dbl
  rw [h _ (p x hx).1]
  by_cases e : s = .rank
  · rw [if_pos e, if_pos e, h _ ((p x hx).2 e)]
  · rw [if_neg e, if_neg e] <;> rfl
theorem map_hlf (l : List IT) : (l.map dbl).map hlf = l := by
  rw [List.map_map]
  have : (hlf ∘ dbl) = id := funext hlf_dbl
  rw [this, List.map_id]
theorem rel_part {s : Srt} {l : Nat} {S : Wd → Prop} {μ : Wd → Nat} (h : NumOn S (Rel s l) μ) {u v : Wd} (pu : Parts s S u) (pv : Parts s S v) : Rel s (l + 1) u v ↔ KeyEq s (itemsOf s μ u) (itemsOf s μ v) := by
  obtain ⟨ν, n, e⟩ := num_ext (rel_eqv s l) h
  rw [rel_of n, items_dbl pu e, items_dbl pv e]
  refine ⟨fun k => ?_, fun k => k.map dbl⟩
  have := k.map hlf
  rwa [map_hlf, map_hlf] at this
/-! ### the numbers of a book: by the words that first had a kind, of any level -/
open Classical
noncomputable def numB (s : Srt) (R : List (Nat × Wd)) : Nat → Wd → Nat
  | 0, _ => 0
  | l + 1, u => R.findIdx fun p => decide (p.1 = l + 1 ∧ Rel s (l + 1) p.2 u)
def HasB (s : Srt) (R : List (Nat × Wd)) (l : Nat) (u : Wd) : Prop := l = 0 ∨ ∃ p ∈ R, p.1 = l ∧ Rel s l p.2 u
theorem hasB_zero {s : Srt} {R : List (Nat × Wd)} {u : Wd} : HasB s R 0 u := .inl rfl
theorem hasB_succ {s : Srt} {R : List (Nat × Wd)} {l : Nat} {u : Wd} : HasB s R (l + 1) u ↔ ∃ p ∈ R, p.1 = l + 1 ∧ Rel s (l + 1) p.2 u := ⟨fun h => h.resolve_left (by omega), .inr⟩
theorem HasB.app {s : Srt} {R : List (Nat × Wd)} {l : Nat} {u : Wd} (h : HasB s R l u) (T : List (Nat × Wd)) : HasB s (R ++ T) l u := by
  rcases h with h | ⟨p, h1, h2⟩
  · exact .inl h
  · exact .inr ⟨p, List.mem_append_left _ h1, h2⟩
theorem HasB.rel {s : Srt} {R : List (Nat × Wd)} {l : Nat} {u v : Wd} (h : HasB s R l u) (r : Rel s l u v) : HasB s R l v := by
  rcases h with h | ⟨p, h1, h2, h3⟩
  · exact .inl h
  · exact .inr ⟨p, h1, h2, (rel_eqv s l).trans h3 r⟩
theorem numB_lt {s : Srt} {R : List (Nat × Wd)} {l : Nat} {u : Wd} (h : HasB s R (l + 1) u) : numB s R (l + 1) u < R.length := by
  obtain ⟨p, h1, h2⟩ := hasB_succ.mp h
  exact List.findIdx_lt_length_of_exists ⟨p, h1, decide_eq_true h2⟩
theorem numB_at {s : Srt} {R : List (Nat × Wd)} {l : Nat} {u : Wd} (h : HasB s R (l + 1) u) : ∃ w, R[numB s R (l + 1) u]? = some (l + 1, w) ∧ Rel s (l + 1) w u := by
  have hl := numB_lt h
  have e := List.findIdx_getElem (w := hl)
  have e' := of_decide_eq_true e
  refine ⟨(R[numB s R (l + 1) u]'hl).2, ?_, e'.2⟩
  rw [List.getElem?_eq_getElem hl]
  congr 1
  exact Prod.ext e'.1 rfl
theorem numB_app {s : Srt} {R : List (Nat × Wd)} {l : Nat} {u : Wd} (h : HasB s R l u) (T : List (Nat × Wd)) : numB s (R ++ T) l u = numB s R l u := by
  cases l with
  | zero => rfl
  | succ l =>
    have := numB_lt h
    show (R ++ T).findIdx (fun p => decide (p.1 = l + 1 ∧ Rel s (l + 1) p.2 u)) = R.findIdx (fun p => decide (p.1 = l + 1 ∧ Rel s (l + 1) p.2 u))
    have t2 : R.findIdx (fun p => decide (p.1 = l + 1 ∧ Rel s (l + 1) p.2 u)) < R.length := this
    rw [List.findIdx_append, if_pos t2]
theorem numB_on (s : Srt) (R : List (Nat × Wd)) (l : Nat) : NumOn (HasB s R l) (Rel s l) (numB s R l) := fun x y hx hy => by
  cases l with
  | zero => exact ⟨fun _ => trivial, fun _ => rfl⟩
  | succ l =>
    refine ⟨fun e => ?_, fun r => ?_⟩
    · obtain ⟨w, h1, h2⟩ := numB_at hx
      obtain ⟨w', h3, h4⟩ := numB_at hy
      rw [e, h3] at h1
      cases h1
      exact (rel_eqv s _).trans ((rel_eqv s _).symm h2) h4
    · show R.findIdx (fun p => decide (p.1 = l + 1 ∧ Rel s (l + 1) p.2 x)) = R.findIdx (fun p => decide (p.1 = l + 1 ∧ Rel s (l + 1) p.2 y))
      congr 1
      funext p
      exact decide_eq_decide.mpr ⟨fun h => ⟨h.1, (rel_eqv s _).trans h.2 r⟩, fun h => ⟨h.1, (rel_eqv s _).trans h.2 ((rel_eqv s _).symm r)⟩⟩
theorem numB_new {s : Srt} {R : List (Nat × Wd)} {l : Nat} {u : Wd} (h : ¬ HasB s R (l + 1) u) : numB s (R ++ [(l + 1, u)]) (l + 1) u = R.length := by
  have n : ∀ p ∈ R, ¬ (p.1 = l + 1 ∧ Rel s (l + 1) p.2 u) := fun p hp e => h (.inr ⟨p, hp, e⟩)
  show (R ++ [(l + 1, u)]).findIdx (fun p => decide (p.1 = l + 1 ∧ Rel s (l + 1) p.2 u)) = R.length
  rw [List.findIdx_append]
  have e : R.findIdx (fun p => decide (p.1 = l + 1 ∧ Rel s (l + 1) p.2 u)) = R.length := List.findIdx_eq_length.mpr fun p hp => decide_eq_false (n p hp)
  rw [e, if_neg (Nat.lt_irrefl _), List.findIdx_cons, decide_eq_true (show (l + 1 = l + 1 ∧ Rel s (l + 1) u u) from ⟨rfl, (rel_eqv s _).refl u⟩)]
  show 0 + R.length = _
  omega
/-- two words whose parts have numbers: their items tell their kind -/
theorem rel_book {s : Srt} {R : List (Nat × Wd)} {l : Nat} {u v : Wd} (pu : Parts s (HasB s R l) u) (pv : Parts s (HasB s R l) v) : Rel s (l + 1) u v ↔ KeyEq s (itemsOf s (numB s R l) u) (itemsOf s (numB s R l) v) := rel_part (numB_on s R l) pu pv
/-- the parts of a word -/
theorem mem_splits {w : Wd} {x : Wd × Nat × Wd} : x ∈ splits w ↔ ∃ i, i < w.length ∧ x = (w.take i, w.getD i 0, w.drop (i + 1)) := by
  unfold splits
  rw [List.mem_map]
  constructor
  · rintro ⟨i, h, rfl⟩
    exact ⟨i, List.mem_range.mp (List.mem_reverse.mp h), rfl⟩
  · rintro ⟨i, h, rfl⟩
    exact ⟨i, List.mem_reverse.mpr (List.mem_range.mpr h), rfl⟩
end Lv
end
section
set_option Elab.async false
set_option linter.all false
set_option maxRecDepth 100000
set_option maxHeartbeats 4000000
/-! The book of numbers: two tables. -/
namespace L2
open PySem PySem.Spec PyProof.Rows
def rLenTab (K : PySem.W.Frag) (P : Program) (w : World) : List V → Hp → VK → Prop := fun xs H Q => ∃ (p : Addr) (m : List (NestedKey × V)), xs = [.ref p] ∧ TabAt K P w H false p m ∧ Q (.int ((m.length : Nat) : Int)) H
theorem call_lenTab {X : Cx} : CallR X (.builtin "len") (rLenTab X.K X.prog X.w) := by
  intro pins s σ H xs us Q I r h
  obtain ⟨p, m, rfl, ⟨z, hs, ys, hd, r2⟩, q⟩ := h
  obtain ⟨u, rfl, rx⟩ := vals1 r
  obtain rfl : u = .ref p := rx
  have hl : m.length = ys.length := r2.length
  refine call_len_dictH (by exact hs) (dn_of I hd r2) (by rw [← hl]; rw [sizeLine_eq] at z; omega) ?_
  rw [← hl]
  exact ⟨.int ((m.length : Nat) : Int), H, I.tok _, ⟨_, rfl⟩, q⟩
end L2
namespace K71
open PySem PySem.Spec SG NdefX LamX
open L2 hiding It
open PyProof.Rows hiding St
open Lv (Wd Srt IT)
/-! ### frames -/
/-- everything but what stands at M stands -/
structure Fr (M : List Addr) (H H' : Hp) : Prop where
  ext : ∀ b o, b ∉ M → H b = some o → H' b = some o
  none_ : ∀ b, H' b = none → H b = none
theorem Fr.refl (M : List Addr) (H : Hp) : Fr M H H := ⟨fun _ _ _ h => h, fun _ h => h⟩
theorem Fr.trans {M : List Addr} {H H1 H2 : Hp} (a : Fr M H H1) (b : Fr M H1 H2) : Fr M H H2 := ⟨fun c o n h => b.ext c o n (a.ext c o n h), fun c h => a.none_ c (b.none_ c h)⟩
theorem Fr.mono {M M' : List Addr} {H H' : Hp} (a : Fr M H H') (h : ∀ b ∈ M, b ∈ M') : Fr M' H H' := ⟨fun c o n e => a.ext c o (fun z => n (h c z)) e, a.none_⟩
theorem Fr.ofSame {M : List Addr} {H H' : Hp} (s : Same H H') : Fr M H H' := ⟨fun c o _ e => s c o e, fun b h => by
  cases e : H b with
  | none => rfl
  | some o => rw [s b o e] at h; cases h⟩
theorem Fr.ofStand {p : Addr} {M : List Addr} {H H' : Hp} (s : Stand p H H') (h : p ∈ M) : Fr M H H' := ⟨fun c o n e => s.1 c o (fun z => n (z ▸ h)) e, s.2⟩
theorem Fr.put {M : List Addr} {H : Hp} {a : Addr} {o u : HO} (h : a ∈ M) (hu : H a = some u) : Fr M H (upd H a o) := ⟨fun c v n e => by rw [upd_ne (fun z : c = a => n (by rw [z]; exact h))]; exact e, fun b e => by
  by_cases z : b = a
  · rw [z, upd_same] at e; cases e
  · rwa [upd_ne z] at e⟩
/-- a new place is written again -/
theorem Fr.putNew {M : List Addr} {H H' : Hp} {D : Addr} {o : HO} (s : Fr M H H') (hD : H D = none) : Fr M H (upd H' D o) := ⟨fun c v n e => by
  have nc : c ≠ D := fun z => by rw [z, hD] at e; cases e
  rw [upd_ne nc]
  exact s.ext c v n e, fun b e => by
  by_cases z : b = D
  · rw [z]; exact hD
  · rw [upd_ne z] at e; exact s.none_ b e⟩
def NoTup (H : Hp) (a : Addr) : Prop := (∀ xs, H a ≠ some (.tup xs)) ∧ ∀ o u, H a ≠ some (.frz o u)
theorem Fr.tups {M : List Addr} {H H' : Hp} (s : Fr M H H') (h : ∀ b ∈ M, NoTup H b) : TupsStay H H' := ⟨fun a xs e => s.ext a _ (fun z => (h a z).1 xs e) e, fun a o u e => s.ext a _ (fun z => (h a z).2 o u e) e⟩
theorem Fr.lst {M : List Addr} {H H' : Hp} {a : Addr} {xs : List V} (s : Fr M H H') (n : a ∉ M) (h : H a = some (.lst xs)) : H' a = some (.lst xs) := s.ext a _ n h
/-! ### items as the book has them -/
def kl2 (t : IT) : NestedKey := .tup [.num t.1, .text (tx [t.2.1])]
def lpk (s : Srt) (t : IT) : NestedKey := if s = .rank then k3 t else kl2 t
theorem kl2_inj {a b : IT} (ha : a.2.2 = 0) (hb : b.2.2 = 0) (h : kl2 a = kl2 b) : a = b := by
  obtain ⟨a1, a2, a3⟩ := a
  obtain ⟨b1, b2, b3⟩ := b
  simp only [kl2, NestedKey.tup.injEq, List.cons.injEq, NestedKey.num.injEq, NestedKey.text.injEq, and_true] at h
  have h2 := tx_inj h.2
  simp only [List.cons.injEq, and_true] at h2
  simp only at ha hb
  rw [ha, hb, h2, Int.natCast_inj.mp h.1]
theorem lpk_inj {s : Srt} {ν μ : Wd → Nat} {u v : Wd} {a b : IT} (ha : a ∈ Lv.itemsOf s ν u) (hb : b ∈ Lv.itemsOf s μ v) (h : lpk s a = lpk s b) : a = b := by
  unfold lpk at h
  by_cases e : s = .rank
  · rw [if_pos e, if_pos e] at h
    exact k3_inj h
  · rw [if_neg e, if_neg e] at h
    exact kl2_inj (items_zero e _ _ a ha) (items_zero e _ _ b hb) h
theorem alikeL2 (a b : IT) : PySem.W.alike (kl2 a).data (kl2 b).data = true := by
  show PySem.W.alike (.tuple [.int a.1, .str (tx [a.2.1])]) (.tuple [.int b.1, .str (tx [b.2.1])]) = true
  rfl
theorem alikeL (s : Srt) (a b : IT) : PySem.W.alike (lpk s a).data (lpk s b).data = true := by
  unfold lpk
  by_cases e : s = .rank
  · rw [if_pos e, if_pos e]; exact alike3 a b
  · rw [if_neg e, if_neg e]; exact alikeL2 a b
theorem alikeLpk (s : Srt) (its : List IT) : Cn.Alike (its.map (lpk s)) := fun a ha b hb => by
  obtain ⟨x, _, rfl⟩ := List.mem_map.mp ha
  obtain ⟨y, _, rfl⟩ := List.mem_map.mp hb
  exact alikeL s x y
theorem fitL (s : Srt) (t : IT) : (∃ l, lpk s t = .tup l) ∧ (lpk s t).depth ≤ 8 := by
  unfold lpk
  by_cases e : s = .rank
  · rw [if_pos e]; exact fit3 t
  · rw [if_neg e]; exact ⟨⟨_, rfl⟩, by show (kl2 t).depth ≤ 8; rw [show (kl2 t).depth = 1 from rfl]; decide⟩
theorem depthL (s : Srt) (t : IT) : (lpk s t).depth = 1 := by
  unfold lpk
  by_cases e : s = .rank
  · rw [if_pos e]; exact depth3 t
  · rw [if_neg e]; rfl
/-- the items of a word as the book has them -/
def itemsL (s : Srt) (ν : Wd → Nat) (w : Wd) : List NestedKey := if s = .since then (Cn.dd (Lv.itemsOf s ν w)).map (lpk s) else Cn.canon ((Lv.itemsOf s ν w).map (lpk s))
theorem itemsL_eq {s : Srt} {ν μ : Wd → Nat} {u v : Wd} : itemsL s ν u = itemsL s μ v ↔ Lv.KeyEq s (Lv.itemsOf s ν u) (Lv.itemsOf s μ v) := by
  unfold itemsL
  by_cases h : s = .since
  · rw [if_pos h, if_pos h, Lv.keyEq_since h]
    refine ⟨fun e => map_inj_on (fun a ha b hb z => lpk_inj (Cn.mem_dd.mp ha) (Cn.mem_dd.mp hb) z) e, fun e => by rw [e]⟩
  · rw [if_neg h, if_neg h, Lv.keyEq_set h, Cn.canon_eq (alikeLpk s _)]
    refine ⟨fun e x => ⟨fun hx => ?_, fun hx => ?_⟩, fun e x => ?_⟩
    · obtain ⟨y, h1, h2⟩ := List.mem_map.mp ((e _).mp (List.mem_map_of_mem hx))
      rw [← lpk_inj h1 hx h2]
      exact h1
    · obtain ⟨y, h1, h2⟩ := List.mem_map.mp ((e _).mpr (List.mem_map_of_mem hx))
      rw [← lpk_inj h1 hx h2]
      exact h1
    · rw [List.mem_map, List.mem_map]
      exact ⟨fun ⟨y, h1, h2⟩ => ⟨y, (e y).mp h1, h2⟩, fun ⟨y, h1, h2⟩ => ⟨y, (e y).mpr h1, h2⟩⟩
/-- the distinct items, sorted or not -/
theorem itemsL_dd (s : Srt) (ν : Wd → Nat) (w : Wd) : itemsL s ν w = if s = .since then (Cn.dd (Lv.itemsOf s ν w)).map (lpk s) else ((Cn.dd (Lv.itemsOf s ν w)).map (lpk s)).mergeSort Cn.le := by
  unfold itemsL
  by_cases h : s = .since
  · rw [if_pos h, if_pos h]
  · rw [if_neg h, if_neg h]
    unfold Cn.canon
    rw [Cn.dd_inj (lpk s) _ fun x hx y hy z => lpk_inj hx hy z]
/-! ### the two tables -/
abbrev Ent := Nat × Wd
def k0 (l : Nat) (u : Wd) : NestedKey := .tup [.num (l : Nat), .text (tx u)]
noncomputable def k1 (s : Srt) (R : List Ent) (l : Nat) (u : Wd) : NestedKey := .tup [.num (l : Nat), .tup (itemsL s (Lv.numB s R (l - 1)) u)]
noncomputable def m0 (s : Srt) (R E : List Ent) : List (NestedKey × V) := E.map fun p => (k0 p.1 p.2, V.int (Lv.numB s R p.1 p.2 : Nat))
noncomputable def m1 (s : Srt) (R : List Ent) : List (NestedKey × V) := R.zipIdx.map fun p => (k1 s R p.1.1 p.1.2, V.int (p.2 : Nat))
/-- with each word its beginnings and ends -/
def Fac (U : List Wd) : Prop := ∀ u ∈ U, ∀ i, u.take i ∈ U ∧ u.drop i ∈ U
structure BookOk (s : Srt) (R E : List Ent) (U : List Wd) : Prop where
  nd : E.Nodup
  ent : ∀ p ∈ E, 1 ≤ p.1 ∧ p.1 ≤ 7 ∧ p.2 ∈ U ∧ Lv.HasB s R p.1 p.2
  rep : ∀ p ∈ R, 1 ≤ p.1 ∧ Lv.Parts s (Lv.HasB s R (p.1 - 1)) p.2
  rlen : R.length ≤ E.length
  fac : Fac U
theorem k0_inj {l l' : Nat} {u u' : Wd} (h : k0 l u = k0 l' u') : l = l' ∧ u = u' := by
  simp only [k0, NestedKey.tup.injEq, List.cons.injEq, NestedKey.num.injEq, NestedKey.text.injEq, and_true] at h
  exact ⟨Int.natCast_inj.mp h.1, tx_inj h.2⟩
theorem m0_val (s : Srt) (R E : List Ent) (l : Nat) (u : Wd) : valV (m0 s R E) (k0 l u) = if (l, u) ∈ E then some (V.int (Lv.numB s R l u : Nat)) else none := by
  induction E with
  | nil => rfl
  | cons p E ih =>
    unfold m0 at ih ⊢
    rw [List.map_cons]
    by_cases h : p = (l, u)
    · subst h
      rw [valV_pos rfl, if_pos List.mem_cons_self]
    · rw [valV_neg (fun z => h (by obtain ⟨e1, e2⟩ := k0_inj z; exact Prod.ext e1 e2)), ih]
      by_cases hm : (l, u) ∈ E
      · rw [if_pos hm, if_pos (List.mem_cons_of_mem _ hm)]
      · rw [if_neg hm, if_neg (fun z => (List.mem_cons.mp z).elim (fun y => h y.symm) hm)]
theorem m0_app {s : Srt} {R E : List Ent} (h : ∀ p ∈ E, Lv.HasB s R p.1 p.2) (T : List Ent) : m0 s (R ++ T) E = m0 s R E := List.map_congr_left fun p hp => by
  rw [Lv.numB_app (h p hp)]
theorem m0_put {s : Srt} {R E : List Ent} {l : Nat} {u : Wd} (h : (l, u) ∉ E) : putK (m0 s R E) (k0 l u) (.int (Lv.numB s R l u : Nat)) = m0 s R (E ++ [(l, u)]) := by
  rw [putK_new _ (by rw [m0_val, if_neg h])]
  unfold m0
  rw [List.map_append] <;> rfl
theorem zip_val {α : Type} (f : α → NestedKey) (k : NestedKey) : ∀ (R : List α) (n : Nat), valV ((R.zipIdx n).map fun p => (f p.1, V.int (p.2 : Nat))) k = (R.findIdx? fun p => decide (f p = k)).map fun i => V.int ((n + i : Nat) : Int)
  | [], n => rfl
  | x :: R, n => by
    rw [List.zipIdx_cons, List.map_cons, List.findIdx?_cons]
    by_cases h : f x = k
    · rw [valV_pos h, decide_eq_true h] <;> rfl
    · rw [valV_neg h, decide_eq_false h, zip_val f k R (n + 1)]
      cases R.findIdx? (fun p => decide (f p = k)) with
      | none => rfl
      | some i =>
        show some (V.int ((n + 1 + i : Nat) : Int)) = some (V.int ((n + (i + 1) : Nat) : Int))
        rw [Nat.add_assoc, Nat.add_comm 1 i]
theorem k1_eq {s : Srt} {R E : List Ent} {U : List Wd} (B : BookOk s R E U) {p : Ent} (hp : p ∈ R) {l : Nat} {u : Wd} (pu : Lv.Parts s (Lv.HasB s R l) u) : k1 s R p.1 p.2 = k1 s R (l + 1) u ↔ p.1 = l + 1 ∧ Lv.Rel s (l + 1) p.2 u := by
  obtain ⟨h1, h2⟩ := B.rep p hp
  obtain ⟨pl, pw⟩ := p
  simp only at h1 h2 ⊢
  unfold k1
  simp only [NestedKey.tup.injEq, List.cons.injEq, NestedKey.num.injEq, and_true]
  constructor
  · rintro ⟨e1, e2⟩
    have e1 : pl = l + 1 := Int.natCast_inj.mp e1
    subst e1
    rw [Nat.add_sub_cancel] at h2 e2
    exact ⟨rfl, (Lv.rel_book h2 pu).mpr (itemsL_eq.mp e2)⟩
  · rintro ⟨rfl, r⟩
    rw [Nat.add_sub_cancel] at h2 ⊢
    exact ⟨rfl, itemsL_eq.mpr ((Lv.rel_book h2 pu).mp r)⟩
open Classical in
theorem m1_val {s : Srt} {R E : List Ent} {U : List Wd} (B : BookOk s R E U) {l : Nat} {u : Wd} (pu : Lv.Parts s (Lv.HasB s R l) u) : valV (m1 s R) (k1 s R (l + 1) u) = if Lv.HasB s R (l + 1) u then some (V.int (Lv.numB s R (l + 1) u : Nat)) else none := by
  refine (zip_val (fun p : Ent => k1 s R p.1 p.2) _ R 0).trans ?_
  have e : R.findIdx? (fun p => decide (k1 s R p.1 p.2 = k1 s R (l + 1) u)) = R.findIdx? (fun p => decide (p.1 = l + 1 ∧ Lv.Rel s (l + 1) p.2 u)) := by
    have go : ∀ T : List Ent, (∀ p ∈ T, p ∈ R) → T.findIdx? (fun p => decide (k1 s R p.1 p.2 = k1 s R (l + 1) u)) = T.findIdx? (fun p => decide (p.1 = l + 1 ∧ Lv.Rel s (l + 1) p.2 u)) := by
      intro T
      induction T with
      | nil => intro _; rfl
      | cons x T ih =>
        intro hT
        rw [List.findIdx?_cons, List.findIdx?_cons, ih fun p hp => hT p (List.mem_cons_of_mem _ hp), decide_eq_decide.mpr (k1_eq B (hT x List.mem_cons_self) pu)]
    exact go R fun _ h => h
  rw [e]
  by_cases h : Lv.HasB s R (l + 1) u
  · obtain ⟨p, h1, h2⟩ := Lv.hasB_succ.mp h
    rw [if_pos h, List.findIdx?_eq_some_of_exists ⟨p, h1, decide_eq_true h2⟩]
    show some (V.int ((0 + _ : Nat) : Int)) = _
    rw [Nat.zero_add] <;> rfl
  · rw [if_neg h, List.findIdx?_eq_none_iff.mpr fun p hp => decide_eq_false fun z => h (Lv.hasB_succ.mpr ⟨p, hp, z⟩)] <;> rfl
theorem k1_app {s : Srt} {R T : List Ent} {l : Nat} {u : Wd} (p : Lv.Parts s (Lv.HasB s R (l - 1)) u) : k1 s (R ++ T) l u = k1 s R l u := by
  unfold k1 itemsL
  rw [Lv.items_congr p (μ := Lv.numB s (R ++ T) (l - 1)) (ν := Lv.numB s R (l - 1)) fun x hx => Lv.numB_app hx T]
theorem m1_put {s : Srt} {R E : List Ent} {U : List Wd} (B : BookOk s R E U) {l : Nat} {u : Wd} (pu : Lv.Parts s (Lv.HasB s R l) u) (h : ¬ Lv.HasB s R (l + 1) u) : putK (m1 s R) (k1 s R (l + 1) u) (.int (R.length : Nat)) = m1 s (R ++ [(l + 1, u)]) := by
  rw [putK_new _ (by rw [m1_val B pu, if_neg h])]
  unfold m1
  rw [List.zipIdx_append, List.map_append]
  congr 1
  · refine List.map_congr_left fun p hp => ?_
    rw [k1_app (B.rep p.1 (by obtain ⟨a, i⟩ := p; exact List.mem_of_getElem? (List.mem_zipIdx_iff_getElem?.mp hp) )).2]
  · show [(k1 s R (l + 1) u, V.int (R.length : Nat))] = [(k1 s (R ++ [(l + 1, u)]) (l + 1) u, V.int ((0 + R.length : Nat) : Int))]
    rw [k1_app (l := l + 1) pu, Nat.zero_add]
theorem m1_len (s : Srt) (R : List Ent) : (m1 s R).length = R.length := by simp [m1]
theorem m0_len (s : Srt) (R E : List Ent) : (m0 s R E).length = E.length := by simp [m0]
/-- a rep more -/
theorem BookOk.rep1 {s : Srt} {R E : List Ent} {U : List Wd} (B : BookOk s R E U) {l : Nat} {u : Wd} (pu : Lv.Parts s (Lv.HasB s R l) u) (hu : u ∈ U) (hl : l + 1 ≤ 7) (hE : (l + 1, u) ∉ E) : BookOk s (R ++ [(l + 1, u)]) (E ++ [(l + 1, u)]) U where
  nd := List.nodup_append.mpr ⟨B.nd, List.nodup_cons.mpr ⟨List.not_mem_nil, List.nodup_nil⟩, fun a ha b hb z => hE (by rw [List.mem_singleton.mp hb] at z; exact z ▸ ha)⟩
  ent := fun p hp => by
    rcases List.mem_append.mp hp with z | z
    · obtain ⟨h1, h2, h3, h4⟩ := B.ent p z
      exact ⟨h1, h2, h3, h4.app _⟩
    · rw [List.mem_singleton.mp z]
      exact ⟨Nat.succ_le_succ (Nat.zero_le _), hl, hu, .inr ⟨_, List.mem_append_right _ List.mem_cons_self, rfl, (Lv.rel_eqv s _).refl _⟩⟩
  rep := fun p hp => by
    rcases List.mem_append.mp hp with z | z
    · obtain ⟨h1, h2⟩ := B.rep p z
      exact ⟨h1, h2.mono fun x hx => hx.app _⟩
    · rw [List.mem_singleton.mp z]
      exact ⟨Nat.succ_le_succ (Nat.zero_le _), pu.mono fun x hx => hx.app _⟩
  rlen := by
    rw [List.length_append, List.length_append]
    exact Nat.add_le_add_right B.rlen _
  fac := B.fac
/-- an entry more -/
theorem BookOk.ent1 {s : Srt} {R E : List Ent} {U : List Wd} (B : BookOk s R E U) {l : Nat} {u : Wd} (hB : Lv.HasB s R (l + 1) u) (hu : u ∈ U) (hl : l + 1 ≤ 7) (hE : (l + 1, u) ∉ E) : BookOk s R (E ++ [(l + 1, u)]) U where
  nd := List.nodup_append.mpr ⟨B.nd, List.nodup_cons.mpr ⟨List.not_mem_nil, List.nodup_nil⟩, fun a ha b hb z => hE (by rw [List.mem_singleton.mp hb] at z; exact z ▸ ha)⟩
  ent := fun p hp => by
    rcases List.mem_append.mp hp with z | z
    · exact B.ent p z
    · rw [List.mem_singleton.mp z]
      exact ⟨Nat.succ_le_succ (Nat.zero_le _), hl, hu, hB⟩
  rep := B.rep
  rlen := by
    rw [List.length_append]
    exact Nat.le_trans B.rlen (Nat.le_add_right _ _)
  fac := B.fac
theorem BookOk.few {s : Srt} {R E : List Ent} {U : List Wd} (B : BookOk s R E U) : E.length ≤ 7 * U.length := by
  have := SG.nodup_le E ((List.range 7).flatMap fun l => U.map fun u => (l + 1, u)) B.nd fun p hp => by
    obtain ⟨h1, h2, h3, _⟩ := B.ent p hp
    refine List.mem_flatMap.mpr ⟨p.1 - 1, List.mem_range.mpr (by omega), List.mem_map.mpr ⟨p.2, h3, ?_⟩⟩
    exact Prod.ext (by show p.1 - 1 + 1 = p.1; omega) rfl
  refine Nat.le_trans this (Nat.le_of_eq ?_)
  rw [List.length_flatMap]
  simp only [List.length_map]
  show ([0, 1, 2, 3, 4, 5, 6].map fun _ => U.length).sum = 7 * U.length
  simp
  omega
/-- more words are let in -/
theorem BookOk.more {s : Srt} {R E : List Ent} {U U' : List Wd} (B : BookOk s R E U) (h : ∀ u ∈ U, u ∈ U') (f : Fac U') : BookOk s R E U' := ⟨B.nd, fun p hp => let ⟨h1, h2, h3, h4⟩ := B.ent p hp; ⟨h1, h2, h _ h3, h4⟩, B.rep, B.rlen, f⟩
/-! ### the book in memory -/
structure BookAt (K : PySem.W.Frag) (P : Program) (w : World) (H : Hp) (bk d0 d1 : Addr) (s : Srt) (R E : List Ent) : Prop where
  at_ : H bk = some (.lst [.ref d0, .ref d1])
  ne : d0 ≠ d1
  t0 : TabAt K P w H false d0 (m0 s R E)
  t1 : TabAt K P w H false d1 (m1 s R)
section
variable {K : PySem.W.Frag} {P : Program} {w : World} {H H' : Hp} {bk d0 d1 : Addr} {s : Srt} {R E : List Ent}
theorem BookAt.notup (B : BookAt K P w H bk d0 d1 s R E) : ∀ b ∈ [d0, d1], NoTup H b := fun b hb => by
  rcases List.mem_cons.mp hb with z | z
  · rw [z]; exact B.t0.notup
  · rw [List.mem_singleton.mp z]; exact B.t1.notup
theorem BookAt.bk0 (B : BookAt K P w H bk d0 d1 s R E) : bk ≠ d0 := tab_ne B.t0 B.at_
theorem BookAt.bk1 (B : BookAt K P w H bk d0 d1 s R E) : bk ≠ d1 := tab_ne B.t1 B.at_
theorem tab_some {sc : Bool} {d : Addr} {m : List (NestedKey × V)} (t : TabAt K P w H sc d m) : ∃ o, H d = some o := by
  unfold L2.TabAt at t
  cases sc with
  | true =>
    obtain ⟨kvs, h, _⟩ := t
    exact ⟨_, h⟩
  | false =>
    obtain ⟨_, _, xs, h, _⟩ := t
    exact ⟨_, h⟩
theorem BookAt.same (B : BookAt K P w H bk d0 d1 s R E) (e : Same H H') : BookAt K P w H' bk d0 d1 s R E := by
  obtain ⟨o0, h0⟩ := tab_some B.t0
  obtain ⟨o1, h1⟩ := tab_some B.t1
  exact ⟨e _ _ B.at_, B.ne, B.t0.stay (.of e) (by rw [h0, e _ _ h0]), B.t1.stay (.of e) (by rw [h1, e _ _ h1])⟩
/-- it stands where its tables stand -/
theorem BookAt.fr {M : List Addr} (B : BookAt K P w H bk d0 d1 s R E) (e : Fr M H H') (n : ∀ b ∈ M, NoTup H b) (nb : bk ∉ M) (n0 : d0 ∉ M) (n1 : d1 ∉ M) : BookAt K P w H' bk d0 d1 s R E := by
  obtain ⟨o0, h0⟩ := tab_some B.t0
  obtain ⟨o1, h1⟩ := tab_some B.t1
  exact ⟨e.ext _ _ nb B.at_, B.ne, B.t0.stay (e.tups n) (by rw [h0, e.ext _ _ n0 h0]), B.t1.stay (e.tups n) (by rw [h1, e.ext _ _ n1 h1])⟩
end
end K71
end
section
set_option Elab.async false
set_option linter.all false
set_option maxRecDepth 100000
/-! the first signs of a text -/
namespace K71
open PySem PySem.Spec L2
open PyProof.Rows hiding St
theorem cutS_take (w : List Nat) (n : Nat) : cutS (tx w) none (some (n : Int)) = tx (w.take n) := by
  unfold cutS
  rw [HT.sIx_nat, HT.sIx_none, tx_len, tx_list, List.drop_zero, Nat.sub_zero]
  congr 2
  rcases Nat.le_total n w.length with h | h
  · rw [Nat.min_eq_left h]
  · rw [Nat.min_eq_right h, List.take_of_length_le (Nat.le_refl _), List.take_of_length_le h]
end K71
end
section
set_option Elab.async false
set_option linter.all false
set_option maxRecDepth 100000
set_option maxHeartbeats 4000000
/-! _law_items -/
namespace K71
open PySem PySem.Spec SG NdefX LamX
open L2 hiding It
open PyProof.Rows hiding St
open Lv (Wd Srt IT)
/-! ### the parts so far -/
def PartsI (s : Srt) (S : Wd → Prop) (u : Wd) (i : Nat) : Prop := ∀ x ∈ (Lv.splits u).take i, S x.1 ∧ (s = .rank → S x.2.2)
noncomputable def itsI (s : Srt) (R : List Ent) (l : Nat) (u : Wd) (i : Nat) : List IT := ((Lv.splits u).take i).map (Lv.item s (Lv.numB s R l))
theorem splits_at {u : Wd} {i : Nat} (h : i < u.length) : (Lv.splits u)[i]? = some (u.take (u.length - 1 - i), u.getD (u.length - 1 - i) 0, u.drop (u.length - 1 - i + 1)) := by
  unfold Lv.splits
  rw [List.getElem?_map, List.getElem?_reverse (by rw [List.length_range]; exact h), List.length_range, List.getElem?_range (by omega)] <;> rfl
theorem itsI_app {s : Srt} {R : List Ent} {l : Nat} {u : Wd} {i : Nat} (h : PartsI s (Lv.HasB s R l) u i) (T : List Ent) : itsI s (R ++ T) l u i = itsI s R l u i := by
  unfold itsI
  refine List.map_congr_left fun x hx => ?_
  unfold Lv.item
  rw [Lv.numB_app (h x hx).1]
  by_cases e : s = .rank
  · rw [if_pos e, if_pos e, Lv.numB_app ((h x hx).2 e)]
  · rw [if_neg e, if_neg e]
theorem itsI_succ {s : Srt} {R : List Ent} {l : Nat} {u : Wd} {i : Nat} (h : i < u.length) : itsI s R l u (i + 1) = itsI s R l u i ++ [Lv.item s (Lv.numB s R l) (u.take (u.length - 1 - i), u.getD (u.length - 1 - i) 0, u.drop (u.length - 1 - i + 1))] := by
  unfold itsI
  rw [take_snocA (splits_at h), List.map_append] <;> rfl
theorem itsI_all (s : Srt) (R : List Ent) (l : Nat) (u : Wd) : itsI s R l u u.length = Lv.itemsOf s (Lv.numB s R l) u := by
  unfold itsI Lv.itemsOf
  rw [List.take_of_length_le (by rw [Lv.splits_len]; exact Nat.le_refl _)]
theorem itsI_sub {s : Srt} {R : List Ent} {l : Nat} {u : Wd} {i : Nat} : ∀ t ∈ itsI s R l u i, t ∈ Lv.itemsOf s (Lv.numB s R l) u := fun t ht => by
  unfold itsI at ht
  obtain ⟨x, hx, rfl⟩ := List.mem_map.mp ht
  exact List.mem_map.mpr ⟨x, List.mem_of_mem_take hx, rfl⟩
theorem itsI_len (s : Srt) (R : List Ent) (l : Nat) (u : Wd) (i : Nat) : (itsI s R l u i).length ≤ u.length := by
  unfold itsI
  rw [List.length_map, List.length_take, Lv.splits_len]
  omega
theorem dd_len {α : Type} [DecidableEq α] (l : List α) : (Cn.dd l).length ≤ l.length := SG.nodup_le _ _ (Cn.nodup_dd l) fun x hx => Cn.mem_dd.mp hx
/-- the table of the items seen -/
def mS (s : Srt) (its : List IT) : List (NestedKey × V) := its.map fun t => (lpk s t, V.bl true)
theorem mS_val {s : Srt} {its : List IT} {t : IT} (h : ∀ x ∈ its, lpk s x = lpk s t → x = t) : (valV (mS s its) (lpk s t)).isSome = decide (t ∈ its) := by
  induction its with
  | nil => rfl
  | cons q fs ih =>
    unfold mS at ih ⊢
    rw [List.map_cons]
    by_cases e : q = t
    · subst e
      rw [valV_pos rfl, decide_eq_true (List.mem_cons_self)] <;> rfl
    · rw [valV_neg (fun z => e (h q List.mem_cons_self z)), ih fun x hx => h x (List.mem_cons_of_mem _ hx)]
      exact decide_eq_decide.mpr ⟨fun z => List.mem_cons_of_mem _ z, fun z => (List.mem_cons.mp z).resolve_left (fun y => e y.symm)⟩
theorem mS_put {s : Srt} {its : List IT} {t : IT} (h : ∀ x ∈ its, lpk s x = lpk s t → x = t) (n : t ∉ its) : putK (mS s its) (lpk s t) (.bl true) = mS s (its ++ [t]) := by
  have := mS_val h
  rw [decide_eq_false n] at this
  rw [putK_new _ (by
    cases e : valV (mS s its) (lpk s t) with
    | none => rfl
    | some v => rw [e] at this; cases this)]
  unfold mS
  rw [List.map_append] <;> rfl
theorem dpAll_of {K : PySem.W.Frag} {H : Hp} : ∀ {L : List (V × PyData)}, (∀ p ∈ L, Dp K H p.1 p.2) → DpAll K H (L.map (·.1)) (L.map (·.2))
  | [], _ => .nil
  | p :: L, h => .cons (h p List.mem_cons_self) (dpAll_of fun q hq => h q (List.mem_cons_of_mem _ hq))
/-- tuple(sorted(xs)), xs items -/
theorem sortTup {K : PySem.W.Frag} {H : Hp} {D : Addr} {vs : List V} {s : Srt} {its : List IT} {Q : VK} (hl : SqL K H D vs) (hv : DpAll K H vs (NestedKey.datas (its.map (lpk s))))
    (q : ∀ v H', Same H H' → KeyAt K H' v (.tup ((its.map (lpk s)).mergeSort Cn.le)) → Q v H') :
    rSortedD K [.ref D] H fun v2 H2 => ∃ p ys, [v2] = [V.ref p] ∧ ((SqL K H2 p ys ∧ ∀ l, H2 l = none → Q (.ref l) (upd H2 l (.tup ys))) ∨ (SqT K H2 p ys ∧ Q (.ref p) H2)) := by
  obtain ⟨L, e1, e2, e3⟩ := items_dp hv (its_fit (lpk s) (fitL s) its)
  subst e1
  have kin := kin_of (L := L) (f := lpk s) (alikeL s) (fun a => by
    unfold lpk
    by_cases e : s = .rank
    · rw [if_pos e]; exact ⟨_, _, rfl⟩
    · rw [if_neg e]; exact ⟨_, _, rfl⟩) (keyMap e2)
  let L2 : List (V × PyData) := L.map fun p => (V.ref p.1, p.2.data)
  have h1 : L2.map (·.1) = L.map fun p => V.ref p.1 := by rw [List.map_map] <;> rfl
  have h2 : L2.map (·.2) = L.map fun p => p.2.data := by rw [List.map_map] <;> rfl
  have hD : ∀ p ∈ L2, Dp K H p.1 p.2 ∧ p.2.depth ≤ 8 := fun p hp => by
    obtain ⟨q, hq, rfl⟩ := List.mem_map.mp hp
    obtain ⟨g1, g2⟩ := e3 q hq
    exact ⟨g1, by rw [data_depth]; exact g2⟩
  refine ⟨D, L2, rfl, by rw [h1]; exact hl, hD, by rw [h2]; exact kin.1, by rw [h2]; exact kin.2, fun p np => ?_⟩
  have es : srtD L2 = (srt L).map fun p => (V.ref p.1, p.2.data) := by
    unfold srtD srt
    exact (PySem.W.sort_maps (r := PySem.W.dataLe false fun p : It => p.2.data) (s := PySem.W.dataLe false fun p : V × PyData => p.2) (fun q : It => (V.ref q.1, q.2.data)) (l := L) (fun a _ b _ => rfl)).symm
  have ek : (srt L).map (·.2) = (its.map (lpk s)).mergeSort Cn.le := by
    unfold srt
    rw [PySem.W.sort_maps (r := PySem.W.dataLe false fun p : It => p.2.data) (s := Cn.le) (fun q : It => q.2) (l := L) (fun a _ b _ => rfl), e2]
  refine ⟨p, _, rfl, .inl ⟨SqL.of upd_same, fun t nt => ?_⟩⟩
  have s1 := same_new (o := .lst ((srtD L2).map (·.1))) np
  have s2 := same_new (o := .tup ((srtD L2).map (·.1))) nt
  refine q _ _ (s1.trans s2) ?_
  show Dp K _ _ (.tuple (NestedKey.datas ((its.map (lpk s)).mergeSort Cn.le)))
  refine .tup (.of upd_same) ?_
  have ed : NestedKey.datas ((its.map (lpk s)).mergeSort Cn.le) = (srtD L2).map (·.2) := by
    rw [← ek, datas_map, es, List.map_map, List.map_map] <;> rfl
  rw [ed]
  refine dpAll_of fun r hr => ?_
  have : r ∈ L2 := (List.mergeSort_perm L2 _).mem_iff.mp hr
  exact Dp.same (s1.trans s2) _ _ (hD r this).1
section
variable {P : Program} {w : World} {K : PySem.W.Frag} {mg : Str → Option Value} {base : Heap}
def spNum (K : PySem.W.Frag) (P : Program) (w : World) (n : Nat) : Sp := fun vs H Q _ => ∃ (bk d0 d1 : Addr) (s : Srt) (R E : List Ent) (U : List Wd) (l : Nat) (u : Wd), vs = [.ref bk, .str (nmS s), .int (l : Nat), .str (tx u)] ∧ l ≤ n ∧ l ≤ 7 ∧ BookAt K P w H bk d0 d1 s R E ∧ BookOk s R E U ∧ u ∈ U ∧ U.length ≤ 2300000 ∧ u.length ≤ 1000 ∧
  ∀ (TR TE : List Ent) H', BookAt K P w H' bk d0 d1 s (R ++ TR) (E ++ TE) → BookOk s (R ++ TR) (E ++ TE) U → (∀ p ∈ TE, p.1 ≤ l) → Lv.HasB s (R ++ TR) l u → Fr [d0, d1] H H' → Q (.int (Lv.numB s (R ++ TR) l u : Nat)) H'
def spIts (K : PySem.W.Frag) (P : Program) (w : World) (n : Nat) : Sp := fun vs H Q _ => ∃ (bk d0 d1 : Addr) (s : Srt) (R E : List Ent) (U : List Wd) (l : Nat) (u : Wd), vs = [.ref bk, .str (nmS s), .int (l : Nat), .str (tx u)] ∧ l ≤ n ∧ l ≤ 7 ∧ BookAt K P w H bk d0 d1 s R E ∧ BookOk s R E U ∧ u ∈ U ∧ U.length ≤ 2300000 ∧ u.length ≤ 1000 ∧
  ∀ (v : V) (TR TE : List Ent) H', BookAt K P w H' bk d0 d1 s (R ++ TR) (E ++ TE) → BookOk s (R ++ TR) (E ++ TE) U → (∀ p ∈ TE, p.1 ≤ l) → Lv.Parts s (Lv.HasB s (R ++ TR) l) u → Fr [d0, d1] H H' → KeyAt K H' v (.tup (itemsL s (Lv.numB s (R ++ TR) l) u)) → Q v H'
theorem ok_its {f fn : Addr} {fd fdn : FuncData} {k n : Nat} (F : Fun K "_law_items" "_law_items" s_law_items f fd) (T : Blt mg) (G_num : FnOk P w K mg base CX0 k fn fdn ["book", "sort", "level", "word"] (spNum K P w n)) (c_num : Df K mg "_law_number" fn fdn ["book", "sort", "level", "word"]) :
    FnOk P w K mg base CX0 (k + 1) f fd ["book", "sort", "level", "word"] (spIts K P w n) := by
  refine F.ok sc_law_items (fun vs H Q E h => ?_) (fun cdv A outer st H vs Q E hr h => ?_)
  · obtain ⟨bk, d0, d1, s, R, E, U, l, u, rfl, _⟩ := h
    rfl
  · obtain ⟨bk, d0, d1, s, R, EE, U, l, u, rfl, hln, hl7, hB, hO, hU, hUl, hul, q⟩ := h
    refine ⟨_, (pss_cons (ps_set (i := 4) sc_law_items.nd rfl (Or.inl rfl) (pe_lst pa_nil))
      (pss_cons (ps_set (i := 5) sc_law_items.nd rfl (Or.inl rfl) (pe_newT false))
      (pss_cons (ps_for PassesOwn.never rfl (pi_range3 (by rfl) T.range (pa_cons (pe_op op_sub (pe_callB call_len_str (by rfl) T.len PySem.boot_len (pa_cons (pv 3) pa_nil)) pe_int) (pa_cons (pe_un un_neg pe_int) (pa_cons (pe_un un_neg pe_int) pa_nil)))) (pg_name (i := 6) sc_law_items.nd rfl (Or.inl rfl))
        (pss_cons (ps_set (i := 7) sc_law_items.nd rfl (Or.inl rfl) (pe_call G_num hr (by rfl) c_num.m c_num.k c_num.b .nil pass0 (pa_cons (pv 0) (pa_cons (pv 1) (pa_cons (pv 2) (pa_cons (pe_slice sl_str (pv 3) po_none (po_some (pv 6))) pa_nil))))))
        (pss_cons (ps_set (i := 8) sc_law_items.nd rfl (Or.inl rfl) (pe_tup (pa_cons (pv 7) (pa_cons (pe_ix ix_str (pv 3) (pv 6) (fun _ _ => rfl)) pa_nil))))
        (pss_cons (ps_if (pt_cmpR op_eq (pv 1) pe_str (nomark _))
          (pss_cons (ps_set (i := 9) sc_law_items.nd rfl (Or.inl rfl) (pe_call G_num hr (by rfl) c_num.m c_num.k c_num.b .nil pass0 (pa_cons (pv 0) (pa_cons (pv 1) (pa_cons (pv 2) (pa_cons (pe_slice sl_str (pv 3) (po_some (pe_op op_add (pv 6) pe_int)) po_none) pa_nil))))))
          (pss_one (ps_set (i := 8) sc_law_items.nd rfl (Or.inl rfl) (pe_tup (pa_cons (pv 7) (pa_cons (pe_ix ix_str (pv 3) (pv 6) (fun _ _ => rfl)) (pa_cons (pv 9) pa_nil))))))) pss_nil)
        (pss_one (ps_if (pt_cmpR (op_notinT hr.units) (pv 8) (pv 5) (by rfl)) (pss_cons (ps_putT hr.units (pv 5) (pv 8) pe_bl rfl) (pss_one (ps_expr (pe_bm PySem.F.plainAttrs_list PySem.F.slot_list_append PySem.F.type_list_append mt_append (pv 4) (pa_cons (pv 8) pa_nil))))) pss_nil))))))
      (pss_cons (ps_if (pt_cmpR op_eq (pv 1) pe_str (nomark _)) (pss_one (ps_ret (pe_callTy call_tuple_of (by rfl) T.tuple (by decide +kernel) (pa_cons (pv 4) pa_nil)))) pss_nil)
      (pss_one (ps_ret (pe_callTy call_tuple_of (by rfl) T.tuple (by decide +kernel) (pa_cons (pe_callB (SG.cr_sortedD hr.units) (by rfl) T.sorted (by decide +kernel) (pa_cons (pv 4) pa_nil)) pa_nil)))))))), ?_⟩
    refine ⟨sizeLine_le (by show 0 ≤ _; decide), fun D nD => fun d o0 nd tb => ?_⟩
    dsimp only [cxOf] at tb ⊢
    have hDH : H D = none := nD
    have s1 := same_new (o := .lst []) nD
    have s2 := same_new (o := o0) nd
    have nDd : D ≠ d := fun z => by rw [← z, upd_same] at nd; cases nd
    have hdH : H d = none := by rwa [upd_ne nDd.symm] at nd
    generalize hH1 : upd (upd H D (.lst [])) d o0 = H1 at tb s2 ⊢
    have s12 : Same H H1 := s1.trans s2
    have hD1 : H1 D = some (.lst []) := by rw [← hH1, upd_ne nDd, upd_same]
    obtain ⟨o0', hd0⟩ := tab_some hB.t0
    obtain ⟨o1', hd1⟩ := tab_some hB.t1
    have Dn0 : D ≠ d0 := fun z => by rw [z, hd0] at hDH; cases hDH
    have Dn1 : D ≠ d1 := fun z => by rw [z, hd1] at hDH; cases hDH
    have dn0 : d ≠ d0 := fun z => by rw [z, hd0] at hdH; cases hdH
    have dn1 : d ≠ d1 := fun z => by rw [z, hd1] at hdH; cases hdH
    have bkn : bk ≠ D ∧ bk ≠ d := ⟨(fun z => by rw [← z, hB.at_] at hDH; cases hDH), (fun z => by rw [← z, hB.at_] at hdH; cases hdH)⟩
    have DM : D ∉ [d0, d1] := by simp [Dn0, Dn1]
    have dM : d ∉ [d0, d1] := by simp [dn0, dn1]
    have hulen : ((u.length : Int) - 1 - (-1)).toNat = u.length := by omega
    have rg : RgC ((u.length : Int) - 1) (-1) (-1) u.length := by
      have := RgC.neg (i := (u.length : Int) - 1) (j := -1) (by omega) (by omega) (by omega) (by omega)
      rwa [hulen] at this
    let Inv : Nat → L2.St → Hp → Prop := fun i σ H' => ∃ (TR TE : List Ent) (vs : List V) (v6 v7 v8 v9 : Option V), BookAt K P w H' bk d0 d1 s (R ++ TR) (EE ++ TE) ∧ BookOk s (R ++ TR) (EE ++ TE) U ∧ (∀ p ∈ TE, p.1 ≤ l) ∧ PartsI s (Lv.HasB s (R ++ TR) l) u i ∧ Fr [d0, d1] H H' ∧ H' D = some (.lst vs) ∧
      DpAll K H' vs (NestedKey.datas ((Cn.dd (itsI s (R ++ TR) l u i)).map (lpk s))) ∧ TabAt K P w H' false d (mS s (Cn.dd (itsI s (R ++ TR) l u i))) ∧ σ = [some (.ref bk), some (.str (nmS s)), some (.int (l : Nat)), some (.str (tx u)), some (.ref D), some (.ref d), v6, v7, v8, v9]
    have tInj : ∀ (R' : List Ent) (i : Nat), i < u.length → ∀ x ∈ Cn.dd (itsI s R' l u i), lpk s x = lpk s (Lv.item s (Lv.numB s R' l) (u.take (u.length - 1 - i), u.getD (u.length - 1 - i) 0, u.drop (u.length - 1 - i + 1))) → x = Lv.item s (Lv.numB s R' l) (u.take (u.length - 1 - i), u.getD (u.length - 1 - i) 0, u.drop (u.length - 1 - i + 1)) := fun R' i hi x hx h => by
      have m2 : Lv.item s (Lv.numB s R' l) (u.take (u.length - 1 - i), u.getD (u.length - 1 - i) 0, u.drop (u.length - 1 - i + 1)) ∈ Lv.itemsOf s (Lv.numB s R' l) u := by
        have := itsI_sub (s := s) (R := R') (l := l) (u := u) (i := i + 1) (Lv.item s (Lv.numB s R' l) (u.take (u.length - 1 - i), u.getD (u.length - 1 - i) 0, u.drop (u.length - 1 - i + 1)))
        rw [itsI_succ hi] at this
        exact this (List.mem_append_right _ List.mem_cons_self)
      exact lpk_inj (itsI_sub x (Cn.mem_dd.mp hx)) m2 h
    have lastA : ∀ (i : Nat) (hi : i < u.length) (TR TE : List Ent) (vs : List V) (v6 v7 v8 v9 : Option V) (H4 : Hp), BookAt K P w H4 bk d0 d1 s (R ++ TR) (EE ++ TE) → BookOk s (R ++ TR) (EE ++ TE) U → (∀ p ∈ TE, p.1 ≤ l) → PartsI s (Lv.HasB s (R ++ TR) l) u (i + 1) → Fr [d0, d1] H H4 → H4 D = some (.lst vs) →
        DpAll K H4 vs (NestedKey.datas ((Cn.dd (itsI s (R ++ TR) l u i)).map (lpk s))) → TabAt K P w H4 false d (mS s (Cn.dd (itsI s (R ++ TR) l u i))) →
        Lv.item s (Lv.numB s (R ++ TR) l) (u.take (u.length - 1 - i), u.getD (u.length - 1 - i) 0, u.drop (u.length - 1 - i + 1)) ∈ Cn.dd (itsI s (R ++ TR) l u i) →
        Inv (i + 1) [some (.ref bk), some (.str (nmS s)), some (.int (l : Nat)), some (.str (tx u)), some (.ref D), some (.ref d), v6, v7, v8, v9] H4 := fun i hi TR TE vs v6 v7 v8 v9 H4 a1 a2 a3 a4 a5 a6 a7 a8 a9 => by
      refine ⟨TR, TE, vs, _, _, _, _, a1, a2, a3, a4, a5, a6, ?_, ?_, rfl⟩
      · rw [itsI_succ hi, Cn.dd_snoc, if_pos (Cn.mem_dd.mp a9)]; exact a7
      · rw [itsI_succ hi, Cn.dd_snoc, if_pos (Cn.mem_dd.mp a9)]; exact a8
    have lastB : ∀ (i : Nat) (hi : i < u.length) (TR TE : List Ent) (vs : List V) (v6 v7 v8 v9 : Option V) (H4 : Hp) (c : Addr) (o' : HO), BookAt K P w H4 bk d0 d1 s (R ++ TR) (EE ++ TE) → BookOk s (R ++ TR) (EE ++ TE) U → (∀ p ∈ TE, p.1 ≤ l) → PartsI s (Lv.HasB s (R ++ TR) l) u (i + 1) → Fr [d0, d1] H H4 → H4 D = some (.lst vs) →
        DpAll K H4 vs (NestedKey.datas ((Cn.dd (itsI s (R ++ TR) l u i)).map (lpk s))) → TabAt K P w H4 false d (mS s (Cn.dd (itsI s (R ++ TR) l u i))) →
        KeyAt K H4 (.ref c) (lpk s (Lv.item s (Lv.numB s (R ++ TR) l) (u.take (u.length - 1 - i), u.getD (u.length - 1 - i) 0, u.drop (u.length - 1 - i + 1)))) →
        Lv.item s (Lv.numB s (R ++ TR) l) (u.take (u.length - 1 - i), u.getD (u.length - 1 - i) 0, u.drop (u.length - 1 - i + 1)) ∉ Cn.dd (itsI s (R ++ TR) l u i) →
        TupsStay H4 (upd H4 d o') → TabAt K P w (upd H4 d o') false d (putK (mS s (Cn.dd (itsI s (R ++ TR) l u i))) (lpk s (Lv.item s (Lv.numB s (R ++ TR) l) (u.take (u.length - 1 - i), u.getD (u.length - 1 - i) 0, u.drop (u.length - 1 - i + 1)))) (.bl true)) →
        Inv (i + 1) [some (.ref bk), some (.str (nmS s)), some (.int (l : Nat)), some (.str (tx u)), some (.ref D), some (.ref d), v6, v7, v8, v9] (upd (upd H4 d o') D (.lst (vs ++ [.ref c]))) := fun i hi TR TE vs v6 v7 v8 v9 H4 c o' a1 a2 a3 a4 a5 a6 a7 a8 ak a9 st tb' => by
      have hDd : upd H4 d o' D = some (.lst vs) := by rw [upd_ne nDd]; exact a6
      have st2 : TupsStay (upd H4 d o') (upd (upd H4 d o') D (.lst (vs ++ [.ref c]))) := .upd (fun xs z => by rw [hDd] at z; cases z) fun o u z => by rw [hDd] at z; cases z
      have sa := st.trans st2
      have out : ∀ b, b ≠ d → b ≠ D → upd (upd H4 d o') D (.lst (vs ++ [.ref c])) b = H4 b := fun b h1 h2 => by rw [upd_ne h2, upd_ne h1]
      refine ⟨TR, TE, vs ++ [.ref c], _, _, _, _, ⟨by rw [out bk bkn.2 bkn.1]; exact a1.at_, a1.ne, a1.t0.stay sa (out d0 dn0.symm Dn0.symm), a1.t1.stay sa (out d1 dn1.symm Dn1.symm)⟩, a2, a3, a4, ?_, upd_same, ?_, ?_, rfl⟩
      · exact (a5.putNew hdH).putNew hDH
      · rw [itsI_succ hi, Cn.dd_snoc, if_neg (fun z => a9 (Cn.mem_dd.mpr z)), List.map_append, datas_map, List.map_append, ← datas_map]
        exact DpAll.app (KeysAt.stay sa _ _ a7) (.cons (KeyAt.stay sa _ _ ak) .nil)
      · rw [itsI_succ hi, Cn.dd_snoc, if_neg (fun z => a9 (Cn.mem_dd.mpr z))]
        rw [mS_put (tInj _ _ hi) a9] at tb'
        exact tb'.stay st2 (upd_ne nDd.symm)
    refine ⟨_, rfl, tx u, rfl, sizeLine_le (by rw [tx_len]; omega), _, _, rfl, rfl, _, rfl, _, rfl, ?_⟩
    rw [tx_len]
    refine ⟨(u.length : Int) - 1, -1, -1, u.length, rfl, rg, for_rangeC (lo := (u.length : Int) - 1) (c := -1) (n := u.length) Inv ⟨[], [], [], none, none, none, none, by rw [List.append_nil, List.append_nil]; exact hB.same s12, by rw [List.append_nil, List.append_nil]; exact hO, (fun p h => nomatch h), (fun x hx => by rw [List.take_zero] at hx; exact nomatch hx), .ofSame s12, hD1, .nil, tb, rfl⟩ (fun i σ H' hi hP => ?_) (fun σ H' hP => ?_)⟩
    · obtain ⟨TR, TE, vs, v6, v7, v8, v9, a1, a2, a3, a4, a5, a6, a7, a8, rfl⟩ := hP
      have eat : (u.length : Int) - 1 + (i : Nat) * (-1) = ((u.length - 1 - i : Nat) : Int) := by omega
      rw [eat]
      have hfac := hO.fac u hU
      obtain ⟨c0, hc0⟩ : ∃ c0, u[u.length - 1 - i]? = some c0 := ⟨_, List.getElem?_eq_getElem (by omega)⟩
      have hc0' : u.getD (u.length - 1 - i) 0 = c0 := by rw [List.getD_eq_getElem?_getD, hc0] <;> rfl
      have lv : (Cn.dd (itsI s (R ++ TR) l u i)).length ≤ 1000 := Nat.le_trans (dd_len _) (Nat.le_trans (itsI_len _ _ _ _ _) hul)
      refine ⟨_, rfl, _, rfl, _, rfl, _, rfl, _, rfl, _, rfl, tx u, rfl, sizeLine_le (by rw [tx_len]; omega), ?_⟩
      rw [cutS_take]
      refine ⟨bk, d0, d1, s, R ++ TR, EE ++ TE, U, l, u.take (u.length - 1 - i), rfl, hln, hl7, a1, a2, (hfac _).1, hUl, by rw [List.length_take]; omega, fun TR1 TE1 H2 b1 b2 b3 b4 b5 => ?_⟩
      rw [List.append_assoc, List.append_assoc] at b1 b2
      rw [List.append_assoc] at b4 ⊢
      have eI1 := itsI_app a4 TR1
      rw [List.append_assoc] at eI1
      have pH : PartsI s (Lv.HasB s (R ++ (TR ++ TR1)) l) u i := fun x hx => by
        rw [← List.append_assoc]
        exact ⟨(a4 x hx).1.app _, fun e => ((a4 x hx).2 e).app _⟩
      have hE1 : ∀ p ∈ TE ++ TE1, p.1 ≤ l := fun p hp => (List.mem_append.mp hp).elim (a3 p) (b3 p)
      have tu1 := b5.tups a1.notup
      have a6' := b5.lst DM a6
      have a7' := KeysAt.stay tu1 _ _ a7
      have a8' := a8.stay tu1 (by obtain ⟨oo, ho⟩ := tab_some a8; rw [ho, b5.ext _ _ dM ho])
      have a5' := a5.trans b5
      rw [← eI1] at a7' a8' lv
      generalize TR ++ TR1 = TR' at b1 b2 b4 eI1 pH a7' a8' lv ⊢
      generalize TE ++ TE1 = TE' at b1 b2 hE1 ⊢
      clear eI1 a1 a2 a3 a4 a5 a6 a7 a8 b3 b5 tu1
      refine ⟨_, rfl, _, rfl, _, rfl, tx u, ((u.length - 1 - i : Nat) : Int), c0, rfl, rfl, sizeLine_le (by rw [tx_len]; omega), by rw [tx_list]; exact atI_nat hc0, ?_⟩
      refine ⟨sizeLine_le (by show 2 ≤ _; decide), fun c nc => ?_⟩
      have s3 := same_new (o := .tup [.int (Lv.numB s (R ++ TR') l (u.take (u.length - 1 - i)) : Nat), .str (tx [c0])]) nc
      have b1c := b1.same s3
      have a6c := s3 _ _ a6'
      have a7c := KeysAt.stay (.of s3) _ _ a7'
      have a8c := a8'.stay (.of s3) (by obtain ⟨oo, ho⟩ := tab_some a8'; rw [ho, s3 _ _ ho])
      have a5c := a5'.trans (.ofSame s3)
      refine ⟨_, rfl, rfl, _, rfl, ?_⟩
      by_cases hs : s = .rank
      · rw [decide_eq_true (by rw [hs] <;> rfl)]
        refine iteT ?_
        refine ⟨_, rfl, _, rfl, _, rfl, _, rfl, _, rfl, _, _, rfl, rfl, _, rfl, tx u, rfl, sizeLine_le (by rw [tx_len]; omega), ?_⟩
        have ecut : cutS (tx u) (some (((u.length - 1 - i : Nat) : Int) + 1)) none = tx (u.drop (u.length - 1 - i + 1)) := cutS_drop u (u.length - 1 - i + 1)
        rw [ecut]
        refine ⟨bk, d0, d1, s, R ++ TR', EE ++ TE', U, l, u.drop (u.length - 1 - i + 1), rfl, hln, hl7, b1c, b2, (hfac _).2, hUl, by rw [List.length_drop]; omega, fun TR2 TE2 H3 g1 g2 g3 g4 g5 => ?_⟩
        rw [List.append_assoc, List.append_assoc] at g1 g2
        rw [List.append_assoc] at g4 ⊢
        have eI2 := itsI_app pH TR2
        rw [List.append_assoc] at eI2
        have eN : Lv.numB s (R ++ TR') l (u.take (u.length - 1 - i)) = Lv.numB s (R ++ (TR' ++ TR2)) l (u.take (u.length - 1 - i)) := by rw [← List.append_assoc, Lv.numB_app b4]
        have b4' : Lv.HasB s (R ++ (TR' ++ TR2)) l (u.take (u.length - 1 - i)) := by rw [← List.append_assoc]; exact b4.app _
        have pH2 : PartsI s (Lv.HasB s (R ++ (TR' ++ TR2)) l) u (i + 1) := fun x hx => by
          rw [take_snocA (splits_at hi)] at hx
          rcases List.mem_append.mp hx with z | z
          · rw [← List.append_assoc]
            exact ⟨(pH x z).1.app _, fun e => ((pH x z).2 e).app _⟩
          · rw [List.mem_singleton.mp z]
            exact ⟨b4', fun _ => g4⟩
        have hE2 : ∀ p ∈ TE' ++ TE2, p.1 ≤ l := fun p hp => (List.mem_append.mp hp).elim (hE1 p) (g3 p)
        have tu2 := g5.tups b1c.notup
        have f6 := g5.lst DM a6c
        have f7 := KeysAt.stay tu2 _ _ a7c
        have f8 := a8c.stay tu2 (by obtain ⟨oo, ho⟩ := tab_some a8c; rw [ho, g5.ext _ _ dM ho])
        have f5 := a5c.trans g5
        rw [← eI2] at f7 f8 lv
        rw [eN]
        generalize TR' ++ TR2 = TR3 at *
        generalize TE' ++ TE2 = TE3 at *
        refine ⟨_, rfl, _, rfl, _, rfl, tx u, ((u.length - 1 - i : Nat) : Int), c0, rfl, rfl, sizeLine_le (by rw [tx_len]; omega), by rw [tx_list]; exact atI_nat hc0, _, rfl, ?_⟩
        refine ⟨sizeLine_le (by show 3 ≤ _; decide), fun e ne => ?_⟩
        have s5 := same_new (o := .tup [.int (Lv.numB s (R ++ TR3) l (u.take (u.length - 1 - i)) : Nat), .str (tx [c0]), .int (Lv.numB s (R ++ TR3) l (u.drop (u.length - 1 - i + 1)) : Nat)]) ne
        have g1c := g1.same s5
        have f6c := s5 _ _ f6
        have f7c := KeysAt.stay (.of s5) _ _ f7
        have f8c := f8.stay (.of s5) (by obtain ⟨oo, ho⟩ := tab_some f8; rw [ho, s5 _ _ ho])
        have f5c := f5.trans (.ofSame s5)
        have kc : KeyAt K (upd H3 e (.tup [.int (Lv.numB s (R ++ TR3) l (u.take (u.length - 1 - i)) : Nat), .str (tx [c0]), .int (Lv.numB s (R ++ TR3) l (u.drop (u.length - 1 - i + 1)) : Nat)])) (.ref e) (lpk s (Lv.item s (Lv.numB s (R ++ TR3) l) (u.take (u.length - 1 - i), u.getD (u.length - 1 - i) 0, u.drop (u.length - 1 - i + 1)))) := by
          unfold lpk Lv.item
          rw [if_pos hs, if_pos hs, hc0']
          exact .tup (.of upd_same) (.cons (.int _) (.cons (.str _) (.cons (.int _) .nil)))
        refine ⟨_, rfl, _, rfl, false, d, _, _, rfl, f8c, kc, fitL s _, _, rfl, ?_⟩
        rw [if_pos rfl, mS_val (tInj _ _ hi)]
        by_cases hm : Lv.item s (Lv.numB s (R ++ TR3) l) (u.take (u.length - 1 - i), u.getD (u.length - 1 - i) 0, u.drop (u.length - 1 - i + 1)) ∈ Cn.dd (itsI s (R ++ TR3) l u i)
        · rw [decide_eq_true hm]
          refine iteF ?_
          exact lastA i hi TR3 TE3 vs _ _ _ _ _ g1c g2 hE2 pH2 f5c f6c f7c f8c hm
        · rw [decide_eq_false hm]
          refine iteT ?_
          refine ⟨_, rfl, _, rfl, false, d, _, _, rfl, f8c, kc, fitL s _, by unfold mS; rw [List.length_map]; exact Nat.lt_of_le_of_lt lv (by rw [sizeLine_eq]; decide), fun o' st4 tb4 => ?_⟩
          have hDd : upd (upd H3 e (.tup [.int (Lv.numB s (R ++ TR3) l (u.take (u.length - 1 - i)) : Nat), .str (tx [c0]), .int (Lv.numB s (R ++ TR3) l (u.drop (u.length - 1 - i + 1)) : Nat)])) d o' D = some (.lst vs) := by rw [upd_ne nDd]; exact f6c
          have lvs : vs.length ≤ 1000 := by rw [f7c.len, datas_map, List.length_map, List.length_map]; exact lv
          refine ⟨_, rfl, .inl ⟨rfl, _, SqL.of hDd⟩, _, rfl, D, _, _, rfl, rfl, hDd, Nat.lt_of_le_of_lt lvs (by rw [sizeLine_eq]; decide), ?_⟩
          exact lastB i hi TR3 TE3 vs _ _ _ _ _ e o' g1c g2 hE2 pH2 f5c f6c f7c f8c kc hm st4 tb4
      · rw [decide_eq_false (by
          cases s with
          | rank => exact absurd rfl hs
          | since => decide
          | once => decide)]
        refine iteF ?_
        have pH1 : PartsI s (Lv.HasB s (R ++ TR') l) u (i + 1) := fun x hx => by
          rw [take_snocA (splits_at hi)] at hx
          rcases List.mem_append.mp hx with z | z
          · exact pH x z
          · rw [List.mem_singleton.mp z]
            exact ⟨b4, fun e => absurd e hs⟩
        have kc : KeyAt K (upd H2 c (.tup [.int (Lv.numB s (R ++ TR') l (u.take (u.length - 1 - i)) : Nat), .str (tx [c0])])) (.ref c) (lpk s (Lv.item s (Lv.numB s (R ++ TR') l) (u.take (u.length - 1 - i), u.getD (u.length - 1 - i) 0, u.drop (u.length - 1 - i + 1)))) := by
          unfold lpk Lv.item
          rw [if_neg hs, hc0']
          exact .tup (.of upd_same) (.cons (.int _) (.cons (.str _) .nil))
        refine ⟨_, rfl, _, rfl, false, d, _, _, rfl, a8c, kc, fitL s _, _, rfl, ?_⟩
        rw [if_pos rfl, mS_val (tInj _ _ hi)]
        by_cases hm : Lv.item s (Lv.numB s (R ++ TR') l) (u.take (u.length - 1 - i), u.getD (u.length - 1 - i) 0, u.drop (u.length - 1 - i + 1)) ∈ Cn.dd (itsI s (R ++ TR') l u i)
        · rw [decide_eq_true hm]
          refine iteF ?_
          exact lastA i hi TR' TE' vs _ _ _ _ _ b1c b2 hE1 pH1 a5c a6c a7c a8c hm
        · rw [decide_eq_false hm]
          refine iteT ?_
          refine ⟨_, rfl, _, rfl, false, d, _, _, rfl, a8c, kc, fitL s _, by unfold mS; rw [List.length_map]; exact Nat.lt_of_le_of_lt lv (by rw [sizeLine_eq]; decide), fun o' st4 tb4 => ?_⟩
          have hDd : upd (upd H2 c (.tup [.int (Lv.numB s (R ++ TR') l (u.take (u.length - 1 - i)) : Nat), .str (tx [c0])])) d o' D = some (.lst vs) := by rw [upd_ne nDd]; exact a6c
          have lvs : vs.length ≤ 1000 := by rw [a7c.len, datas_map, List.length_map, List.length_map]; exact lv
          refine ⟨_, rfl, .inl ⟨rfl, _, SqL.of hDd⟩, _, rfl, D, _, _, rfl, rfl, hDd, Nat.lt_of_le_of_lt lvs (by rw [sizeLine_eq]; decide), ?_⟩
          exact lastB i hi TR' TE' vs _ _ _ _ _ c o' b1c b2 hE1 pH1 a5c a6c a7c a8c kc hm st4 tb4
    · obtain ⟨TR, TE, vs, v6, v7, v8, v9, a1, a2, a3, a4, a5, a6, a7, a8, rfl⟩ := hP
      have pa : Lv.Parts s (Lv.HasB s (R ++ TR) l) u := fun x hx => a4 x (by rw [List.take_of_length_le (by rw [Lv.splits_len]; exact Nat.le_refl _)]; exact hx)
      rw [itsI_all] at a7 a8
      refine ⟨_, rfl, rfl, _, rfl, ?_⟩
      by_cases hs : s = .since
      · rw [decide_eq_true (by rw [hs] <;> rfl)]
        refine iteT ?_
        refine ⟨_, rfl, D, vs, rfl, .inl ⟨SqL.of a6, fun t nt => ?_⟩⟩
        have s3 := same_new (o := .tup vs) nt
        refine q _ TR TE _ (a1.same s3) a2 a3 pa (a5.trans (.ofSame s3)) ?_
        rw [itemsL_dd, if_pos hs]
        exact .tup (.of upd_same) (DpAll.same s3 _ _ a7)
      · rw [decide_eq_false (by
          cases s with
          | rank => decide
          | since => exact absurd rfl hs
          | once => decide)]
        refine iteF ?_
        refine ⟨_, rfl, sortTup (SqL.of a6) a7 fun v H3 s3 hv => ?_⟩
        refine q v TR TE H3 (a1.same s3) a2 a3 pa (a5.trans (.ofSame s3)) ?_
        rw [itemsL_dd, if_neg hs]
        exact hv
end
end K71
end
section
set_option Elab.async false
set_option linter.all false
set_option maxRecDepth 100000
set_option maxHeartbeats 4000000
/-! _law_number -/
namespace K71
open PySem PySem.Spec SG NdefX LamX
open L2 hiding It
open PyProof.Rows hiding St
open Lv (Wd Srt IT)
section
variable {P : Program} {w : World} {K : PySem.W.Frag} {mg : Str → Option Value} {base : Heap}
def spItsP (K : PySem.W.Frag) (P : Program) (w : World) : Nat → Sp
  | 0 => fun _ _ _ _ => False
  | n + 1 => spIts K P w n
theorem ok_num1 {f fn : Addr} {fd fdn : FuncData} {k n : Nat} (F : Fun K "_law_number" "_law_number" s_law_number f fd) (T : Blt mg) (G_its : FnOk P w K mg base CX0 k fn fdn ["book", "sort", "level", "word"] (spItsP K P w n)) (c_its : Df K mg "_law_items" fn fdn ["book", "sort", "level", "word"]) :
    FnOk P w K mg base CX0 (k + 1) f fd ["book", "sort", "level", "word"] (spNum K P w n) := by
  refine F.ok sc_law_number (fun vs H Q E h => ?_) (fun cdv A outer st H vs Q E hr h => ?_)
  · obtain ⟨bk, d0, d1, s, R, E, U, l, u, rfl, _⟩ := h
    rfl
  · obtain ⟨bk, d0, d1, s, R, EE, U, l, u, rfl, hln, hl7, hB, hO, hU, hUl, hul, q⟩ := h
    refine ⟨_, (pss_cons (ps_if (pt_cmpR op_eq (pv 2) pe_int (nomark _)) (pss_one (ps_ret pe_int)) pss_nil)
      (pss_cons (ps_set (i := 4) sc_law_number.nd rfl (Or.inl rfl) (pe_tup (pa_cons (pv 2) (pa_cons (pv 3) pa_nil))))
      (pss_cons (ps_if (pt_cmpR (op_notinT hr.units) (pv 4) (pe_ix ix_list (pv 0) pe_int (fun _ _ => rfl)) (by rfl)) (pss_cons (ps_set (i := 5) sc_law_number.nd rfl (Or.inl rfl) (pe_tup (pa_cons (pv 2) (pa_cons (pe_call G_its hr (by rfl) c_its.m c_its.k c_its.b .nil pass0 (pa_cons (pv 0) (pa_cons (pv 1) (pa_cons (pe_op op_sub (pv 2) pe_int) (pa_cons (pv 3) pa_nil))))) pa_nil))))
      (pss_cons (ps_if (pt_cmpR (op_notinT hr.units) (pv 5) (pe_ix ix_list (pv 0) pe_int (fun _ _ => rfl)) (by rfl)) (pss_one (ps_putT hr.units (pe_ix ix_list (pv 0) pe_int (fun _ _ => rfl)) (pv 5) (pe_callB call_lenTab (by rfl) T.len PySem.boot_len (pa_cons (pe_ix ix_list (pv 0) pe_int (fun _ _ => rfl)) pa_nil)) rfl)) pss_nil)
      (pss_one (ps_putT hr.units (pe_ix ix_list (pv 0) pe_int (fun _ _ => rfl)) (pv 4) (pe_getT hr.units (pe_ix ix_list (pv 0) pe_int (fun _ _ => rfl)) (pv 5) (fun _ _ => rfl)) rfl)))) pss_nil)
      (pss_one (ps_ret (pe_getT hr.units (pe_ix ix_list (pv 0) pe_int (fun _ _ => rfl)) (pv 4) (fun _ _ => rfl))))))), ?_⟩
    refine ⟨_, rfl, rfl, _, rfl, ?_⟩
    cases l with
    | zero =>
      rw [decide_eq_true (by rfl)]
      refine iteT ?_
      exact q [] [] H (by rw [List.append_nil, List.append_nil]; exact hB) (by rw [List.append_nil, List.append_nil]; exact hO) (fun p h => nomatch h) (.inl rfl) (Fr.refl _ _)
    | succ m =>
      rw [decide_eq_false (fun z => by injection z with z; omega)]
      refine iteF ?_
      refine ⟨_, rfl, _, rfl, sizeLine_le (by show 2 ≤ _; decide), fun c nc => ?_⟩
      have s1 := same_new (o := .tup [.int ((m + 1 : Nat) : Int), .str (tx u)]) nc
      have hB1 := hB.same s1
      have hc1 : (upd H c (.tup [.int ((m + 1 : Nat) : Int), .str (tx u)])) c = some (.tup [.int ((m + 1 : Nat) : Int), .str (tx u)]) := upd_same
      have F1 : Fr [d0, d1] H (upd H c (.tup [.int ((m + 1 : Nat) : Int), .str (tx u)])) := .ofSame s1
      generalize upd H c (.tup [.int ((m + 1 : Nat) : Int), .str (tx u)]) = H1 at hB1 hc1 F1 ⊢
      have kk : ∀ H' : Hp, H' c = some (.tup [.int ((m + 1 : Nat) : Int), .str (tx u)]) → KeyAt K H' (.ref c) (k0 (m + 1) u) := fun H' h => .tup (.of h) (.cons (.int _) (.cons (.str _) .nil))
      have fk : FitK false (k0 (m + 1) u) := ⟨⟨_, rfl⟩, by show (k0 (m + 1) u).depth ≤ 8; rw [show (k0 (m + 1) u).depth = 1 from rfl]; decide⟩
      refine ⟨_, rfl, _, rfl, bk, _, 0, _, rfl, rfl, SqL.of hB1.at_, rfl, false, d0, _, _, rfl, hB1.t0, kk _ hc1, fk, _, rfl, ?_⟩
      rw [if_pos rfl, m0_val]
      by_cases hE : (m + 1, u) ∈ EE
      · rw [if_pos hE]
        refine iteF ?_
        refine ⟨_, rfl, bk, _, 0, _, rfl, rfl, SqL.of hB1.at_, rfl, _, rfl, false, d0, _, _, _, rfl, hB1.t0, kk _ hc1, fk, by rw [m0_val, if_pos hE], ?_⟩
        have := q [] [] H1 (by rw [List.append_nil, List.append_nil]; exact hB1) (by rw [List.append_nil, List.append_nil]; exact hO) (fun p h => nomatch h) (by rw [List.append_nil]; exact (hO.ent _ hE).2.2.2) F1
        rw [List.append_nil] at this
        exact this
      · rw [if_neg hE]
        refine iteT ?_
        cases n with
        | zero => exact absurd hln (by omega)
        | succ n =>
          refine ⟨_, rfl, _, rfl, _, rfl, _, rfl, _, _, rfl, rfl, _, rfl, ?_⟩
          have em : (((m + 1 : Nat) : Int) - 1) = (m : Int) := by omega
          refine ⟨bk, d0, d1, s, R, EE, U, m, u, (by show [V.ref bk, V.str (nmS s), V.int (((m + 1 : Nat) : Int) - 1), V.str (tx u)] = _; rw [em]), by omega, by omega, hB1, hO, hU, hUl, hul, fun v TR TE H2 b1 b2 b3 b4 b5 b6 => ?_⟩
          have hc2 : H2 c = some (.tup [.int ((m + 1 : Nat) : Int), .str (tx u)]) := (b5.tups hB1.notup).tup _ _ hc1
          have F2 := F1.trans b5
          have hE2 : (m + 1, u) ∉ EE ++ TE := fun z => (List.mem_append.mp z).elim hE fun y => absurd (b3 _ y) (by simp)
          refine ⟨sizeLine_le (by show 2 ≤ _; decide), fun e ne => ?_⟩
          have s3 := same_new (o := .tup [.int ((m + 1 : Nat) : Int), v]) ne
          have b1c := b1.same s3
          have hc3 := s3 _ _ hc2
          have F3 := F2.trans (.ofSame s3)
          have he3 : (upd H2 e (.tup [.int ((m + 1 : Nat) : Int), v])) e = some (.tup [.int ((m + 1 : Nat) : Int), v]) := upd_same
          have kv : KeyAt K (upd H2 e (.tup [.int ((m + 1 : Nat) : Int), v])) v (.tup (itemsL s (Lv.numB s (R ++ TR) m) u)) := KeyAt.stay (.of s3) _ _ b6
          have ke : KeyAt K (upd H2 e (.tup [.int ((m + 1 : Nat) : Int), v])) (.ref e) (k1 s (R ++ TR) (m + 1) u) := .tup (.of upd_same) (.cons (.int _) (.cons kv .nil))
          generalize upd H2 e (.tup [.int ((m + 1 : Nat) : Int), v]) = H3 at b1c hc3 F3 he3 ke
          have dep : ∀ ks : List NestedKey, (∀ x ∈ ks, x.depth ≤ 1) → NestedKey.depthAll ks ≤ 1 := fun ks => by
            induction ks with
            | nil => intro _; show 0 ≤ 1; decide
            | cons x ks ih =>
              intro h
              show max x.depth (NestedKey.depthAll ks) ≤ 1
              have h1 := h x List.mem_cons_self
              have h2 := ih fun y hy => h y (List.mem_cons_of_mem _ hy)
              omega
          have fe : FitK false (k1 s (R ++ TR) (m + 1) u) := by
            refine ⟨⟨_, rfl⟩, ?_⟩
            have hd := dep (itemsL s (Lv.numB s (R ++ TR) m) u) fun x hx => by
              obtain ⟨t, rfl⟩ : ∃ t, x = lpk s t := by
                unfold itemsL at hx
                by_cases hs : s = .since
                · rw [if_pos hs] at hx
                  obtain ⟨t, _, rfl⟩ := List.mem_map.mp hx
                  exact ⟨t, rfl⟩
                · rw [if_neg hs, Cn.canon_mem] at hx
                  obtain ⟨t, _, rfl⟩ := List.mem_map.mp hx
                  exact ⟨t, rfl⟩
              rw [depthL]
              exact Nat.le_refl _
            show max 0 (max (NestedKey.depthAll (itemsL s (Lv.numB s (R ++ TR) m) u) + 1) 0) + 1 ≤ 8
            omega
          refine ⟨_, rfl, _, rfl, bk, _, 1, _, rfl, rfl, SqL.of b1c.at_, rfl, false, d1, _, _, rfl, b1c.t1, ke, fe, _, rfl, ?_⟩
          rw [if_pos rfl, m1_val b2 b4]
          have few := b2.few
          have hEl : (EE ++ TE).length < sizeLine := by rw [sizeLine_eq]; omega
          have fin : ∀ (T2 : List Ent) (H5 : Hp) (o' : HO), BookOk s (R ++ T2) (EE ++ (TE ++ [(m + 1, u)])) U → Lv.HasB s (R ++ T2) (m + 1) u → Fr [d0, d1] H H5 → H5 bk = some (.lst [.ref d0, .ref d1]) → TabAt K P w H5 false d1 (m1 s (R ++ T2)) → TupsStay H5 (upd H5 d0 o') → (∃ oo, H5 d0 = some oo) →
              TabAt K P w (upd H5 d0 o') false d0 (m0 s (R ++ T2) (EE ++ (TE ++ [(m + 1, u)]))) → Q (.int (Lv.numB s (R ++ T2) (m + 1) u : Nat)) (upd H5 d0 o') := fun T2 H5 o' g1 g2 g3 g4 g5 g6 g7 g8 => by
            obtain ⟨oo, hoo⟩ := g7
            refine q T2 (TE ++ [(m + 1, u)]) _ ⟨?_, hB.ne, g8, g5.stay g6 (upd_ne hB.ne.symm)⟩ g1 (fun p hp => ?_) g2 (g3.trans (.put List.mem_cons_self hoo))
            · rw [upd_ne hB.bk0]; exact g4
            · rcases List.mem_append.mp hp with z | z
              · exact Nat.le_trans (b3 p z) (by omega)
              · rw [List.mem_singleton.mp z]; exact Nat.le_refl _
          by_cases hH : Lv.HasB s (R ++ TR) (m + 1) u
          · rw [if_pos hH]
            refine iteF ?_
            refine ⟨_, rfl, bk, _, 1, _, rfl, rfl, SqL.of b1c.at_, rfl, _, rfl, false, d1, _, _, _, rfl, b1c.t1, ke, fe, by rw [m1_val b2 b4, if_pos hH], ?_⟩
            refine ⟨_, rfl, bk, _, 0, _, rfl, rfl, SqL.of b1c.at_, rfl, _, rfl, false, d0, _, _, rfl, b1c.t0, kk _ hc3, fk, by rw [m0_len]; exact hEl, fun o' st4 t4 => ?_⟩
            rw [m0_put hE2, List.append_assoc] at t4
            have hc5 := st4.tup _ _ hc3
            have hbk : upd H3 d0 o' bk = some (.lst [.ref d0, .ref d1]) := by rw [upd_ne hB.bk0]; exact b1c.at_
            have g1 := b2.ent1 hH hU hl7 hE2
            rw [List.append_assoc] at g1
            refine ⟨_, rfl, bk, _, 0, _, rfl, rfl, SqL.of hbk, rfl, _, rfl, false, d0, _, _, _, rfl, t4, kk _ hc5, fk, by rw [m0_val, if_pos (List.mem_append_right _ (List.mem_append_right _ List.mem_cons_self))], ?_⟩
            exact fin TR H3 o' g1 hH F3 b1c.at_ b1c.t1 st4 (tab_some b1c.t0) t4
          · rw [if_neg hH]
            refine iteT ?_
            have g1 := b2.rep1 b4 hU hl7 hE2
            rw [List.append_assoc, List.append_assoc] at g1
            have hRl : (R ++ TR).length < sizeLine := Nat.lt_of_le_of_lt b2.rlen hEl
            refine ⟨_, rfl, bk, _, 1, _, rfl, rfl, SqL.of b1c.at_, rfl, d1, _, rfl, b1c.t1, ?_⟩
            rw [m1_len]
            refine ⟨_, rfl, bk, _, 1, _, rfl, rfl, SqL.of b1c.at_, rfl, _, rfl, false, d1, _, _, rfl, b1c.t1, ke, fe, by rw [m1_len]; exact hRl, fun o4 st4 t4 => ?_⟩
            rw [m1_put b2 b4 hH, List.append_assoc] at t4
            have hc4 := st4.tup _ _ hc3
            have ke4 := KeyAt.stay st4 _ _ ke
            have e1 : k1 s (R ++ (TR ++ [(m + 1, u)])) (m + 1) u = k1 s (R ++ TR) (m + 1) u := by rw [← List.append_assoc]; exact k1_app (l := m + 1) b4
            rw [← e1] at ke4 fe
            have hbk4 : upd H3 d1 o4 bk = some (.lst [.ref d0, .ref d1]) := by rw [upd_ne hB.bk1]; exact b1c.at_
            have t04 : TabAt K P w (upd H3 d1 o4) false d0 (m0 s (R ++ (TR ++ [(m + 1, u)])) (EE ++ TE)) := by
              rw [← List.append_assoc, m0_app (fun p hp => (b2.ent p hp).2.2.2)]
              exact b1c.t0.stay st4 (upd_ne hB.ne)
            have hH4 : Lv.HasB s (R ++ (TR ++ [(m + 1, u)])) (m + 1) u := .inr ⟨_, List.mem_append_right _ (List.mem_append_right _ List.mem_cons_self), rfl, (Lv.rel_eqv s _).refl _⟩
            have F4 : Fr [d0, d1] H (upd H3 d1 o4) := F3.trans (.put (List.mem_cons_of_mem _ List.mem_cons_self) (tab_some b1c.t1).choose_spec)
            have pu4 : Lv.Parts s (Lv.HasB s (R ++ (TR ++ [(m + 1, u)])) m) u := by
              rw [← List.append_assoc]
              exact b4.mono fun x hx => hx.app _
            refine ⟨_, rfl, bk, _, 1, _, rfl, rfl, SqL.of hbk4, rfl, _, rfl, false, d1, _, _, _, rfl, t4, ke4, fe, by rw [m1_val g1 pu4, if_pos hH4], ?_⟩
            refine ⟨_, rfl, bk, _, 0, _, rfl, rfl, SqL.of hbk4, rfl, _, rfl, false, d0, _, _, rfl, t04, kk _ hc4, fk, by rw [m0_len]; exact hEl, fun o' st5 t5 => ?_⟩
            rw [m0_put hE2, List.append_assoc] at t5
            have hc5 := st5.tup _ _ hc4
            have hbk5 : upd (upd H3 d1 o4) d0 o' bk = some (.lst [.ref d0, .ref d1]) := by rw [upd_ne hB.bk0]; exact hbk4
            refine ⟨_, rfl, bk, _, 0, _, rfl, rfl, SqL.of hbk5, rfl, _, rfl, false, d0, _, _, _, rfl, t5, kk _ hc5, fk, by rw [m0_val, if_pos (List.mem_append_right _ (List.mem_append_right _ List.mem_cons_self))], ?_⟩
            exact fin (TR ++ [(m + 1, u)]) _ o' g1 hH4 F4 hbk4 t4 st5 (tab_some t04) t5
theorem fn_neverI {f : Addr} {fd : FuncData} {k : Nat} {ps : List Str} : FnOk P w K mg base CX0 k f fd ps (fun _ _ _ _ => False) := fn_never
theorem ok_num {fi fn : Addr} {fdi fdn : FuncData} {k : Nat} (Fi : Fun K "_law_items" "_law_items" s_law_items fi fdi) (Fn : Fun K "_law_number" "_law_number" s_law_number fn fdn) (T : Blt mg)
    (c_its : Df K mg "_law_items" fi fdi ["book", "sort", "level", "word"]) (c_num : Df K mg "_law_number" fn fdn ["book", "sort", "level", "word"]) : ∀ n, FnOk P w K mg base CX0 (k + 2 * n + 1) fn fdn ["book", "sort", "level", "word"] (spNum K P w n)
  | 0 => ok_num1 (n := 0) (k := k) Fn T fn_neverI c_its
  | n + 1 => ok_num1 (n := n + 1) (k := k + 2 * n + 1 + 1) Fn T (ok_its Fi T (ok_num Fi Fn T c_its c_num n) c_num) c_its
end
end K71
end
section
set_option Elab.async false
set_option linter.all false
set_option maxRecDepth 100000
set_option maxHeartbeats 4000000
/-! a list beside the empty one; _law_kind -/
namespace L2
open PySem PySem.Spec PyProof.Rows
/-- xs == [] -/
def rEqNil (K : PySem.W.Frag) : R2 := fun x y H Q => ∃ (a b : Addr) (xs : List V), x = .ref a ∧ y = .ref b ∧ SqL K H a xs ∧ SqL K H b [] ∧ Q (.bl xs.isEmpty) H
theorem op_eqNil {X : Cx} (hu : X.A.units < cLine) : OpR X (compareOp .Eq) (rEqNil X.K) := by
  intro pins s σ H x y v u Q I rx ry h
  obtain ⟨a, b, xs, rfl, rfl, ea, eb, q⟩ := h
  obtain rfl : v = Value.ref a := rx
  obtain rfl : u = Value.ref b := ry
  obtain ⟨ia, ra, pa, _⟩ := I.list ea
  obtain ⟨ib, rb, pb, _⟩ := I.list eb
  cases rb
  cases xs with
  | nil =>
    cases ra
    refine PySem.SeqAt.rcP_lists (e := fun _ => true) pa.isList pb.isList rfl hu (fun j h1 => absurd h1 (Nat.not_lt_zero _)) _ _ ?_
    exact ⟨.bl true, H, I, rfl, q⟩
  | cons x xs =>
    cases ra with
    | cons r1 r2 =>
      obtain ⟨⟨cls, dd, data, sl⟩, ho, hc, n, hd⟩ := id pa.isList
      obtain ⟨⟨cls2, dd2, data2, sl2⟩, ho2, hc2, n2, hd2⟩ := id pb.isList
      simp only at hc hd hc2 hd2
      subst hc hd hc2 hd2
      have ta : s.TypeIs (.ref a) "list" := ⟨_, ho, rfl⟩
      have tb : s.TypeIs (.ref b) "list" := ⟨_, ho2, rfl⟩
      exact wpAny_richCompare_same_room (op := .Eq) ta tb F.slot_list_eq (call_meets F.slot_list_eq ta F.entry_list_eq (F.args_list_eq_2 _ _) (PySem.SeqAt.list_eq_lengthsAt a b _ _ n n2 dd dd2 sl sl2 (by simp))
        ⟨ho, ho2, show Value.bool false ≠ Value.notImplemented ∧ _ from ⟨(fun x => nomatch x), ⟨.bl false, H, I, rfl, q⟩⟩⟩) hu
end L2
namespace K71
open PySem PySem.Spec SG NdefX LamX
open L2 hiding It
open PyProof.Rows hiding St
open Lv (Wd Srt IT)
/-! ### the kinds of a sight, by the law -/
def srtOf : Sort5 → Srt
  | .lv s => s
  | .fl _ => .rank
def scQ : Sort5 → Bool
  | .fl false => false
  | _ => true
noncomputable def lkey (q : Sort5) (l : Nat) (R : List Ent) (u : Wd) : NestedKey := match q with
  | .lv s => .num (Lv.numB s R l u : Nat)
  | .fl y => kdF y l u
def RelQ (q : Sort5) (l : Nat) (u v : Wd) : Prop := match q with
  | .lv s => Lv.Rel s l u v
  | .fl y => kdF y l u = kdF y l v
def HasQ (q : Sort5) (R : List Ent) (l : Nat) (u : Wd) : Prop := match q with
  | .lv s => Lv.HasB s R l u
  | .fl _ => True
theorem relQ_eqv (q : Sort5) (l : Nat) : Lv.Eqv (RelQ q l) := by
  cases q with
  | lv s => exact Lv.rel_eqv s l
  | fl y => exact ⟨fun _ => rfl, fun h => h.symm, fun h k => h.trans k⟩
theorem relQ_snoc (q : Sort5) (l : Nat) {u v : Wd} (a : Nat) (h : RelQ q l u v) : RelQ q l (u ++ [a]) (v ++ [a]) := by
  cases q with
  | lv s => exact Lv.rel_snoc s a l h
  | fl y =>
    cases y with
    | true =>
      have h : tk (lastN u l) = tk (lastN v l) := h
      have h' := tk_inj h
      show tk (lastN (u ++ [a]) l) = tk (lastN (v ++ [a]) l)
      rw [← lastN_snoc, h', lastN_snoc]
    | false =>
      have h : NestedKey.tup (Cn.canon ((piecesOf l u).map tk)) = .tup (Cn.canon ((piecesOf l v).map tk)) := h
      injection h with h
      rw [Cn.canon_eq (alikeTk _)] at h
      have hm : ∀ p, p ∈ piecesOf l u ↔ p ∈ piecesOf l v := fun p => by
        have := h (tk p)
        rw [List.mem_map, List.mem_map] at this
        constructor
        · intro hp
          obtain ⟨x, h1, h2⟩ := this.mp ⟨p, hp, rfl⟩
          rw [← tk_inj h2]; exact h1
        · intro hp
          obtain ⟨x, h1, h2⟩ := this.mpr ⟨p, hp, rfl⟩
          rw [← tk_inj h2]; exact h1
      show NestedKey.tup (Cn.canon ((piecesOf l (u ++ [a])).map tk)) = .tup (Cn.canon ((piecesOf l (v ++ [a])).map tk))
      congr 1
      refine (Cn.canon_eq (alikeTk _)).mpr fun x => ?_
      rw [List.mem_map, List.mem_map, pieces_snoc, pieces_snoc]
      exact ⟨fun ⟨y, h1, h2⟩ => ⟨y, (next_mem hm y).mp h1, h2⟩, fun ⟨y, h1, h2⟩ => ⟨y, (next_mem hm y).mpr h1, h2⟩⟩
theorem HasQ.app {q : Sort5} {R : List Ent} {l : Nat} {u : Wd} (h : HasQ q R l u) (T : List Ent) : HasQ q (R ++ T) l u := by
  cases q with
  | lv s => exact Lv.HasB.app h T
  | fl y => exact trivial
theorem lkey_app {q : Sort5} {R : List Ent} {l : Nat} {u : Wd} (h : HasQ q R l u) (T : List Ent) : lkey q l (R ++ T) u = lkey q l R u := by
  cases q with
  | lv s =>
    show NestedKey.num _ = NestedKey.num _
    rw [Lv.numB_app h]
  | fl y => rfl
theorem lkey_eq {q : Sort5} {R : List Ent} {l : Nat} {u v : Wd} (hu : HasQ q R l u) (hv : HasQ q R l v) : lkey q l R u = lkey q l R v ↔ RelQ q l u v := by
  cases q with
  | lv s =>
    show NestedKey.num _ = NestedKey.num _ ↔ _
    rw [NestedKey.num.injEq, Int.natCast_inj]
    exact Lv.numB_on s R l u v hu hv
  | fl y => exact Iff.rfl
theorem fit_lkey (q : Sort5) (l : Nat) (R : List Ent) (u : Wd) : FitK (scQ q) (lkey q l R u) := by
  cases q with
  | lv s => exact ⟨.inl _, rfl⟩
  | fl y =>
    cases y with
    | true => exact fit_kdF true l u
    | false => exact fit_kdF false l u
section
variable {P : Program} {w : World} {K : PySem.W.Frag} {mg : Str → Option Value} {base : Heap}
def spKind (K : PySem.W.Frag) (P : Program) (w : World) : Sp := fun vs H Q _ => ∃ (bk d0 d1 : Addr) (q : Sort5) (R E : List Ent) (U : List Wd) (L : List Nat) (l : Nat) (u : Wd), vs = [.ref bk, .str (nm5 q), .int (l : Nat), .str (tx u)] ∧ l ≤ 7 ∧ L.length ≤ 3 ∧ (∀ c ∈ u, c ∈ L) ∧ BookAt K P w H bk d0 d1 (srtOf q) R E ∧ BookOk (srtOf q) R E U ∧ u ∈ U ∧ U.length ≤ 2300000 ∧ u.length ≤ 1000 ∧
  ∀ (v : V) (TR TE : List Ent) H', BookAt K P w H' bk d0 d1 (srtOf q) (R ++ TR) (E ++ TE) → BookOk (srtOf q) (R ++ TR) (E ++ TE) U → HasQ q (R ++ TR) l u → Fr [d0, d1] H H' → KeyAt K H' v (lkey q l (R ++ TR) u) → Q v H'
theorem ok_kind {f fn fp : Addr} {fd fdn fdp : FuncData} {k : Nat} (F : Fun K "_law_kind" "_law_kind" s_law_kind f fd) (T : Blt mg) (G_num : FnOk P w K mg base CX0 k fn fdn ["book", "sort", "level", "word"] (spNum K P w 7)) (c_num : Df K mg "_law_number" fn fdn ["book", "sort", "level", "word"])
    (G_pcs : FnOk P w K mg base CX0 k fp fdp ["word", "most"] (spPcs K)) (c_pcs : Df K mg "_law_pieces" fp fdp ["word", "most"]) :
    FnOk P w K mg base CX0 (k + 1) f fd ["book", "sort", "level", "word"] (spKind K P w) := by
  refine F.ok sc_law_kind (fun vs H Q E h => ?_) (fun cdv A outer st H vs Q E hr h => ?_)
  · obtain ⟨bk, d0, d1, q5, R, E, U, L, l, u, rfl, _⟩ := h
    rfl
  · obtain ⟨bk, d0, d1, q5, R, EE, U, L, l, u, rfl, hl7, hL, hc, hB, hO, hU, hUl, hul, q⟩ := h
    refine ⟨_, (pss_cons (ps_if (pt_cmpR op_eq (pv 1) pe_str (nomark _)) (pss_one (ps_ret (pe_slice sl_str (pv 3) (po_some (pe_callB (call_max2 rfl) (by rfl) T.max (by decide +kernel) (pa_cons pe_int (pa_cons (pe_op op_sub (pe_callB call_len_str (by rfl) T.len PySem.boot_len (pa_cons (pv 3) pa_nil)) (pv 2)) pa_nil)))) po_none))) pss_nil)
      (pss_cons (ps_if (pt_cmpR op_eq (pv 1) pe_str (nomark _)) (pss_one (ps_ret (pe_call G_pcs hr (by rfl) c_pcs.m c_pcs.k c_pcs.b .nil pass0 (pa_cons (pv 3) (pa_cons (pv 2) pa_nil))))) pss_nil)
      (pss_one (ps_ret (pe_call G_num hr (by rfl) c_num.m c_num.k c_num.b .nil pass0 (pa_cons (pv 0) (pa_cons (pv 1) (pa_cons (pv 2) (pa_cons (pv 3) pa_nil))))))))), ?_⟩
    have q0 : ∀ (v : V) H', HasQ q5 R l u → Same H H' → KeyAt K H' v (lkey q5 l R u) → Q v H' := fun v H' h1 h2 h3 => by
      refine q v [] [] H' ?_ ?_ ?_ (.ofSame h2) ?_
      · rw [List.append_nil, List.append_nil]; exact hB.same h2
      · rw [List.append_nil, List.append_nil]; exact hO
      · rw [List.append_nil]; exact h1
      · rw [List.append_nil]; exact h3
    refine ⟨_, rfl, rfl, _, rfl, ?_⟩
    cases q5 with
    | fl y =>
      cases y with
      | true =>
        rw [decide_eq_true (by rfl)]
        refine iteT ?_
        refine ⟨_, rfl, _, rfl, tx u, rfl, sizeLine_le (by rw [tx_len]; omega), _, rfl, _, _, rfl, rfl, _, _, rfl, ?_⟩
        rw [tx_len]
        have e : (if ((u.length : Nat) : Int) - (l : Int) > 0 then ((u.length : Nat) : Int) - (l : Int) else 0) = ((u.length - l : Nat) : Int) := by
          split <;> omega
        rw [e]
        refine ⟨_, rfl, _, rfl, sizeLine_le (by rw [tx_len]; omega), ?_⟩
        rw [cutS_drop]
        exact q0 _ _ trivial (Same.refl H) (Dp.str _)
      | false =>
        rw [decide_eq_false (by decide)]
        refine iteF ?_
        refine ⟨_, rfl, rfl, _, rfl, ?_⟩
        rw [decide_eq_true (by rfl)]
        refine iteT ?_
        exact ⟨_, rfl, _, rfl, L, u, l, rfl, hL, hl7, hc, fun v H' s1 kv => q0 v H' trivial s1 kv⟩
    | lv s =>
      rw [decide_eq_false (by cases s <;> decide)]
      refine iteF ?_
      refine ⟨_, rfl, rfl, _, rfl, ?_⟩
      rw [decide_eq_false (by cases s <;> decide)]
      refine iteF ?_
      refine ⟨_, rfl, _, rfl, _, rfl, _, rfl, bk, d0, d1, s, R, EE, U, l, u, rfl, hl7, hl7, hB, hO, hU, hUl, hul, fun TR TE H' b1 b2 _ b4 b5 => ?_⟩
      exact q _ TR TE H' b1 b2 b4 b5 (Dp.int _)
end
end K71
end
section
set_option Elab.async false
set_option linter.all false
set_option maxRecDepth 100000
/-! Tables: equal kinds, equal tables; no more words than a closed list has; a table over one letter. -/
namespace Bf
open Lv
open Classical
section
variable {R R' : Wd → Wd → Prop} {L : List Nat}
def OverL (L : List Nat) (u : Wd) : Prop := ∀ c ∈ u, c ∈ L
theorem over_snoc {u : Wd} {a : Nat} (h : OverL L u) (ha : a ∈ L) : OverL L (u ++ [a]) := fun c hc => by
  rcases List.mem_append.mp hc with z | z
  · exact h c z
  · rw [List.mem_singleton.mp z]; exact ha
theorem place_congr {ws : List Wd} {u : Wd} (h : ∀ x ∈ ws, R x u ↔ R' x u) : place R ws u = place R' ws u := by
  unfold place
  induction ws with
  | nil => rfl
  | cons x ws ih =>
    rw [List.findIdx?_cons, List.findIdx?_cons, ih fun y hy => h y (List.mem_cons_of_mem _ hy), decide_eq_decide.mpr (h x List.mem_cons_self)]
theorem fold_congr (ag : ∀ u v, OverL L u → OverL L v → (R u v ↔ R' u v)) {w : Wd} (hw : OverL L w) : ∀ (A : List Nat) (s : List Wd × List Nat), (∀ a ∈ A, a ∈ L) → (∀ u ∈ s.1, OverL L u) → A.foldl (one R w) s = A.foldl (one R' w) s
  | [], _, _, _ => rfl
  | a :: A, s, hA, hs => by
    have ha := over_snoc hw (hA a List.mem_cons_self)
    have e : one R w s a = one R' w s a := by
      unfold one
      rw [place_congr fun x hx => ag x _ (hs x hx) ha]
    rw [List.foldl_cons, List.foldl_cons, e]
    refine fold_congr ag hw A _ (fun b hb => hA b (List.mem_cons_of_mem _ hb)) fun u hu => ?_
    unfold one at hu
    cases hp : place R' s.1 (w ++ [a]) with
    | none =>
      rw [hp] at hu
      rcases List.mem_append.mp hu with z | z
      · exact hs u z
      · rw [List.mem_singleton.mp z]; exact ha
    | some i => rw [hp] at hu; exact hs u hu
theorem st_congr (E : Eqv R) (ag : ∀ u v, OverL L u → OverL L v → (R u v ↔ R' u v)) : ∀ k, st R L k = st R' L k
  | 0 => rfl
  | k + 1 => by
    have ih := st_congr E ag k
    have I := st_inv E L k
    show (match (st R L k).1[k]? with | some w => ((rowOf R w L (st R L k).1).1, (st R L k).2 ++ [(rowOf R w L (st R L k).1).2]) | none => st R L k) = (match (st R' L k).1[k]? with | some w => ((rowOf R' w L (st R' L k).1).1, (st R' L k).2 ++ [(rowOf R' w L (st R' L k).1).2]) | none => st R' L k)
    rw [← ih]
    cases h : (st R L k).1[k]? with
    | none => rfl
    | some w =>
      have e : rowOf R w L (st R L k).1 = rowOf R' w L (st R L k).1 := fold_congr ag (I.over w (List.mem_of_getElem? h)) L _ (fun _ h => h) I.over
      show ((rowOf R w L (st R L k).1).1, (st R L k).2 ++ [(rowOf R w L (st R L k).1).2]) = _
      rw [e]
theorem cover_bound (E : Eqv R) {ws ws' : List Wd} (A : Apart R ws') (h : ∀ u ∈ ws', ∃ x ∈ ws, R x u) : ws'.length ≤ ws.length := by
  have f : ∀ i, i < ws'.length → ∃ n x, ws[n]? = some x ∧ ∃ u, ws'[i]? = some u ∧ R x u := fun i hi => by
    obtain ⟨x, h1, h2⟩ := h ws'[i] (List.getElem_mem hi)
    obtain ⟨n, hn⟩ := List.getElem?_of_mem h1
    exact ⟨n, x, hn, _, List.getElem?_eq_getElem hi, h2⟩
  let g : Nat → Nat := fun i => if h : i < ws'.length then (f i h).choose else 0
  have gs : ∀ i, i < ws'.length → ∃ x, ws[g i]? = some x ∧ ∃ u, ws'[i]? = some u ∧ R x u := fun i hi => by
    have e : g i = (f i hi).choose := dif_pos hi
    rw [e]
    exact (f i hi).choose_spec
  have nd : ((List.range ws'.length).map g).Nodup := by
    refine List.pairwise_map.mpr (List.Pairwise.imp_of_mem (fun {i j} hi hj hij e => ?_) List.pairwise_lt_range)
    obtain ⟨x, hx, u, hu, ru⟩ := gs i (List.mem_range.mp hi)
    obtain ⟨y, hy, v, hv, rv⟩ := gs j (List.mem_range.mp hj)
    rw [e, hy] at hx
    cases hx
    exact A i j u v hu hv hij (E.trans (E.symm ru) rv)
  have := nodup_len (l := (List.range ws'.length).map g) ws.length nd fun n hn => by
    obtain ⟨i, hi, rfl⟩ := List.mem_map.mp hn
    obtain ⟨x, hx, _⟩ := gs i (List.mem_range.mp hi)
    exact (List.getElem?_eq_some_iff.mp hx).1
  rwa [List.length_map, List.length_range] at this
/-- a closed list of words covers all words -/
theorem closed_covers (E : Eqv R) (cg : ∀ {u v : Wd} (a : Nat), R u v → R (u ++ [a]) (v ++ [a])) {ws : List Wd} (h0 : ∃ x ∈ ws, R x []) (h1 : ∀ w ∈ ws, ∀ a ∈ L, ∃ x ∈ ws, R x (w ++ [a])) (u : Wd) (hu : OverL L u) : ∃ x ∈ ws, R x u := by
  have go : ∀ (n : Nat) (u : Wd), u.length = n → OverL L u → ∃ x ∈ ws, R x u := by
    intro n
    induction n with
    | zero =>
      intro u h _
      rw [List.eq_nil_of_length_eq_zero h]
      exact h0
    | succ n ih =>
      intro u h hu
      have hne : u ≠ [] := fun e => by rw [e] at h; cases h
      obtain ⟨v, c, rfl⟩ : ∃ v c, u = v ++ [c] := ⟨u.dropLast, u.getLast hne, (List.dropLast_concat_getLast hne).symm⟩
      obtain ⟨x, hx, rx⟩ := ih v (by simpa using h) fun d hd => hu d (List.mem_append_left _ hd)
      obtain ⟨y, hy, ry⟩ := h1 x hx c (hu c (by simp))
      exact ⟨y, hy, E.trans ry (cg c rx)⟩
  exact go _ u rfl hu
theorem closed_bound (E : Eqv R) (cg : ∀ {u v : Wd} (a : Nat), R u v → R (u ++ [a]) (v ++ [a])) {ws : List Wd} (h0 : ∃ x ∈ ws, R x []) (h1 : ∀ w ∈ ws, ∀ a ∈ L, ∃ x ∈ ws, R x (w ++ [a])) (k : Nat) : (st R L k).1.length ≤ ws.length :=
  have I := st_inv E L k
  cover_bound E I.apart fun u hu => closed_covers E cg h0 h1 u (I.over u hu)
/-- coarser kinds are no more -/
theorem coarse_bound (E : Eqv R) (E' : Eqv R') (cg : ∀ {u v : Wd} (a : Nat), R u v → R (u ++ [a]) (v ++ [a])) (co : ∀ {u v}, R u v → R' u v) {n : Nat} (h : (st R L n).1.length ≤ n) (k : Nat) : (st R' L k).1.length ≤ (st R L n).1.length :=
  have I := st_inv E' L k
  cover_bound E' I.apart fun u hu => by
    obtain ⟨x, h1, h2⟩ := (whole_of E h).walk E cg u (I.over u hu)
    exact ⟨x, List.mem_of_getElem? h1, co h2⟩
end
/-! ### one letter -/
section
variable {R : Wd → Wd → Prop} {c T : Nat}
def rp (c n : Nat) : Wd := List.replicate n c
theorem rp_snoc (c n : Nat) : rp c n ++ [c] = rp c (n + 1) := (List.replicate_succ' (n := n) (a := c)).symm
theorem place_none_of {ws : List Wd} {u : Wd} (h : ∀ x ∈ ws, ¬ R x u) : place R ws u = none := by
  unfold place
  exact List.findIdx?_eq_none_iff.mpr fun x hx => decide_eq_false (h x hx)
theorem st_one (E : Eqv R) (h : ∀ m n, R (rp c m) (rp c n) ↔ min m T = min n T) : ∀ k, k ≤ T → st R [c] k = ((List.range (k + 1)).map (rp c), (List.range k).map fun i => [min (i + 1) T])
  | 0, _ => rfl
  | k + 1, hk => by
    have ih := st_one E h k (by omega)
    have hw : (st R [c] k).1[k]? = some (rp c k) := by
      rw [ih]
      show ((List.range (k + 1)).map (rp c))[k]? = _
      rw [List.getElem?_map, List.getElem?_range (by omega)] <;> rfl
    have hp : place R (st R [c] k).1 (rp c k ++ [c]) = none := place_none_of fun x hx => by
      rw [ih] at hx
      obtain ⟨i, hi, rfl⟩ := List.mem_map.mp hx
      have := List.mem_range.mp hi
      rw [rp_snoc, h]
      omega
    show (match (st R [c] k).1[k]? with | some w => ((rowOf R w [c] (st R [c] k).1).1, (st R [c] k).2 ++ [(rowOf R w [c] (st R [c] k).1).2]) | none => st R [c] k) = _
    rw [hw]
    have e : rowOf R (rp c k) [c] (st R [c] k).1 = ((st R [c] k).1 ++ [rp c k ++ [c]], [] ++ [(st R [c] k).1.length]) := by
      show one R (rp c k) ((st R [c] k).1, []) c = _
      unfold one
      rw [hp]
    show ((rowOf R (rp c k) [c] (st R [c] k).1).1, (st R [c] k).2 ++ [(rowOf R (rp c k) [c] (st R [c] k).1).2]) = _
    rw [e, ih]
    show ((List.range (k + 1)).map (rp c) ++ [rp c k ++ [c]], (List.range k).map (fun i => [min (i + 1) T]) ++ [[] ++ [((List.range (k + 1)).map (rp c)).length]]) = _
    have q1 : (List.range (k + 1 + 1)).map (rp c) = (List.range (k + 1)).map (rp c) ++ [rp c (k + 1)] := by rw [List.range_succ, List.map_append] <;> rfl
    have q2 : (List.range (k + 1)).map (fun i => [min (i + 1) T]) = (List.range k).map (fun i => [min (i + 1) T]) ++ [[k + 1]] := by
      rw [List.range_succ, List.map_append, List.map_singleton, show min (k + 1) T = k + 1 by omega]
    rw [q1, q2, rp_snoc, List.length_map, List.length_range] <;> rfl
theorem st_one_end (E : Eqv R) (h : ∀ m n, R (rp c m) (rp c n) ↔ min m T = min n T) {k : Nat} (hk : T < k) : st R [c] k = ((List.range (T + 1)).map (rp c), (List.range (T + 1)).map fun i => [min (i + 1) T]) := by
  have e0 := st_one E h T (Nat.le_refl _)
  have I := st_inv E [c] T
  have hw : (st R [c] T).1[T]? = some (rp c T) := by
    rw [e0]
    show ((List.range (T + 1)).map (rp c))[T]? = _
    rw [List.getElem?_map, List.getElem?_range (by omega)] <;> rfl
  have hp : place R (st R [c] T).1 (rp c T ++ [c]) = some T := place_of E I.apart hw (by rw [rp_snoc, h]; omega)
  have e1 : st R [c] (T + 1) = ((List.range (T + 1)).map (rp c), (List.range (T + 1)).map fun i => [min (i + 1) T]) := by
    show (match (st R [c] T).1[T]? with | some w => ((rowOf R w [c] (st R [c] T).1).1, (st R [c] T).2 ++ [(rowOf R w [c] (st R [c] T).1).2]) | none => st R [c] T) = _
    rw [hw]
    have e : rowOf R (rp c T) [c] (st R [c] T).1 = ((st R [c] T).1, [] ++ [T]) := by
      show one R (rp c T) ((st R [c] T).1, []) c = _
      unfold one
      rw [hp]
    show ((rowOf R (rp c T) [c] (st R [c] T).1).1, (st R [c] T).2 ++ [(rowOf R (rp c T) [c] (st R [c] T).1).2]) = _
    rw [e, e0]
    show ((List.range (T + 1)).map (rp c), (List.range T).map (fun i => [min (i + 1) T]) ++ [[] ++ [T]]) = _
    have q2 : (List.range (T + 1)).map (fun i => [min (i + 1) T]) = (List.range T).map (fun i => [min (i + 1) T]) ++ [[T]] := by
      rw [List.range_succ, List.map_append, List.map_singleton, show min (T + 1) T = T by omega]
    rw [q2] <;> rfl
  have hd : (st R [c] (T + 1)).1.length ≤ T + 1 := by rw [e1, List.length_map, List.length_range]; exact Nat.le_refl _
  obtain ⟨m, rfl⟩ : ∃ m, k = T + 1 + m := ⟨k - (T + 1), by omega⟩
  rw [st_done E [c] hd m, e1]
end
end Bf
end
section
set_option Elab.async false
set_option linter.all false
set_option maxRecDepth 100000
set_option maxHeartbeats 4000000
/-! _law_table: what stands there -/
namespace K71
open PySem PySem.Spec SG NdefX LamX
open L2 hiding It
open PyProof.Rows hiding St
open Lv (Wd Srt IT)
/-! ### words and their ends -/
def tails (u : Wd) : List Wd := (List.range (u.length + 1)).map fun i => u.drop i
theorem tails_len (u : Wd) : (tails u).length = u.length + 1 := by simp [tails]
theorem mem_tails {u x : Wd} : x ∈ tails u ↔ ∃ i, i ≤ u.length ∧ x = u.drop i := by
  unfold tails
  rw [List.mem_map]
  exact ⟨fun ⟨i, h, e⟩ => ⟨i, Nat.le_of_lt_succ (List.mem_range.mp h), e.symm⟩, fun ⟨i, h, e⟩ => ⟨i, List.mem_range.mpr (Nat.lt_succ_of_le h), e.symm⟩⟩
theorem fac_nil : Fac [[]] := fun u hu i => by
  rw [List.mem_singleton.mp hu, List.take_nil, List.drop_nil]
  exact ⟨List.mem_cons_self, List.mem_cons_self⟩
theorem fac_snoc {U : List Wd} (h : Fac U) {u : Wd} (hu : u ∈ U) (c : Nat) : Fac (U ++ tails (u ++ [c])) ∧ u ++ [c] ∈ U ++ tails (u ++ [c]) := by
  refine ⟨fun x hx i => ?_, List.mem_append_right _ (mem_tails.mpr ⟨0, Nat.zero_le _, rfl⟩)⟩
  rcases List.mem_append.mp hx with z | z
  · exact ⟨List.mem_append_left _ (h x z i).1, List.mem_append_left _ (h x z i).2⟩
  · obtain ⟨j, hj, rfl⟩ := mem_tails.mp z
    rw [List.length_append] at hj
    have hj : j ≤ u.length + 1 := hj
    constructor
    · by_cases hi : i ≤ u.length - j
      · refine List.mem_append_left _ ?_
        by_cases h2 : j ≤ u.length
        · rw [List.drop_append_of_le_length h2, List.take_append_of_le_length (by rw [List.length_drop]; exact hi)]
          exact (h _ (h u hu j).2 i).1
        · have : i = 0 := by omega
          rw [this, List.take_zero]
          have := (h u hu 0).1
          rwa [List.take_zero] at this
      · refine List.mem_append_right _ (mem_tails.mpr ⟨j, by rw [List.length_append]; exact hj, ?_⟩)
        exact List.take_of_length_le (by rw [List.length_drop, List.length_append]; show u.length + 1 - j ≤ i; omega)
    · rw [List.drop_drop]
      by_cases hi : j + i ≤ u.length + 1
      · exact List.mem_append_right _ (mem_tails.mpr ⟨j + i, by rw [List.length_append]; exact hi, rfl⟩)
      · refine List.mem_append_right _ (mem_tails.mpr ⟨u.length + 1, by rw [List.length_append]; exact Nat.le_refl _, ?_⟩)
        rw [List.drop_eq_nil_of_le (by rw [List.length_append]; show u.length + 1 ≤ j + i; omega), List.drop_eq_nil_of_le (by rw [List.length_append]; exact Nat.le_refl _)]
/-- all stretches of a word -/
def facs (u : Wd) : List Wd := (List.range (u.length + 1)).flatMap fun i => (List.range (u.length + 1)).map fun j => (u.drop i).take j
theorem mem_facs {u x : Wd} : x ∈ facs u ↔ ∃ i j, i ≤ u.length ∧ j ≤ u.length ∧ x = (u.drop i).take j := by
  unfold facs
  rw [List.mem_flatMap]
  constructor
  · rintro ⟨i, hi, hx⟩
    obtain ⟨j, hj, rfl⟩ := List.mem_map.mp hx
    exact ⟨i, j, Nat.le_of_lt_succ (List.mem_range.mp hi), Nat.le_of_lt_succ (List.mem_range.mp hj), rfl⟩
  · rintro ⟨i, j, hi, hj, rfl⟩
    exact ⟨i, List.mem_range.mpr (Nat.lt_succ_of_le hi), List.mem_map.mpr ⟨j, List.mem_range.mpr (Nat.lt_succ_of_le hj), rfl⟩⟩
theorem sum_const (c : Nat) : ∀ n, ((List.range n).map fun _ => c).sum = n * c
  | 0 => by simp
  | n + 1 => by
    rw [List.range_succ, List.map_append, List.sum_append, sum_const c n, Nat.succ_mul]
    simp
theorem facs_len (u : Wd) : (facs u).length = (u.length + 1) * (u.length + 1) := by
  unfold facs
  rw [List.length_flatMap]
  simp only [List.length_map, List.length_range]
  exact sum_const _ _
theorem fac_facs (u : Wd) : Fac (facs u) ∧ u ∈ facs u := by
  refine ⟨fun x hx i => ?_, mem_facs.mpr ⟨0, u.length, Nat.zero_le _, Nat.le_refl _, by rw [List.drop_zero, List.take_length]⟩⟩
  obtain ⟨a, b, ha, hb, rfl⟩ := mem_facs.mp hx
  constructor
  · rw [List.take_take]
    exact mem_facs.mpr ⟨a, min i b, ha, by omega, rfl⟩
  · rw [List.drop_take, List.drop_drop]
    by_cases h : a + i ≤ u.length
    · exact mem_facs.mpr ⟨a + i, b - i, h, by omega, rfl⟩
    · refine mem_facs.mpr ⟨u.length, 0, Nat.le_refl _, Nat.zero_le _, ?_⟩
      rw [List.drop_eq_nil_of_le (by omega), List.take_nil, List.take_zero]
theorem fac_app {U U' : List Wd} (h : Fac U) (h' : Fac U') : Fac (U ++ U') := fun u hu i => (List.mem_append.mp hu).elim (fun z => ⟨List.mem_append_left _ (h u z i).1, List.mem_append_left _ (h u z i).2⟩) fun z => ⟨List.mem_append_right _ (h' u z i).1, List.mem_append_right _ (h' u z i).2⟩
/-! ### the kinds found -/
noncomputable def tabQ (q : Sort5) (l : Nat) (R : List Ent) (ws : List Wd) : List (NestedKey × V) := ws.zipIdx.map fun p => (lkey q l R p.1, V.int (p.2 : Nat))
theorem tabQ_val {q : Sort5} {l : Nat} {R : List Ent} {ws : List Wd} {x : Wd} (h : ∀ u ∈ ws, HasQ q R l u) (hx : HasQ q R l x) : valV (tabQ q l R ws) (lkey q l R x) = (Bf.place (RelQ q l) ws x).map fun i => V.int ((i : Nat) : Int) := by
  unfold tabQ
  refine (zip_val (fun u : Wd => lkey q l R u) _ ws 0).trans ?_
  have e : ws.findIdx? (fun u => decide (lkey q l R u = lkey q l R x)) = Bf.place (RelQ q l) ws x := by
    unfold Bf.place
    have go : ∀ T : List Wd, (∀ p ∈ T, p ∈ ws) → T.findIdx? (fun u => decide (lkey q l R u = lkey q l R x)) = T.findIdx? (fun u => @decide (RelQ q l u x) (Classical.propDecidable _)) := by
      intro T
      induction T with
      | nil => intro _; rfl
      | cons y T ih =>
        intro hT
        rw [List.findIdx?_cons, List.findIdx?_cons, ih fun p hp => hT p (List.mem_cons_of_mem _ hp), decide_eq_decide.mpr (lkey_eq (h y (hT y List.mem_cons_self)) hx)]
    exact go ws fun _ h => h
  rw [e]
  cases Bf.place (RelQ q l) ws x with
  | none => rfl
  | some i =>
    show some (V.int ((0 + i : Nat) : Int)) = some (V.int ((i : Nat) : Int))
    rw [Nat.zero_add]
theorem tabQ_app {q : Sort5} {l : Nat} {R : List Ent} {ws : List Wd} (h : ∀ u ∈ ws, HasQ q R l u) (T : List Ent) : tabQ q l (R ++ T) ws = tabQ q l R ws := by
  unfold tabQ
  refine List.map_congr_left fun p hp => ?_
  rw [lkey_app (h p.1 (by obtain ⟨a, i⟩ := p; exact List.mem_of_getElem? (List.mem_zipIdx_iff_getElem?.mp hp))) T]
theorem tabQ_put {q : Sort5} {l : Nat} {R : List Ent} {ws : List Wd} {x : Wd} (h : ∀ u ∈ ws, HasQ q R l u) (hx : HasQ q R l x) (n : Bf.place (RelQ q l) ws x = none) : putK (tabQ q l R ws) (lkey q l R x) (.int (ws.length : Nat)) = tabQ q l R (ws ++ [x]) := by
  rw [putK_new _ (by rw [tabQ_val h hx, n] <;> rfl)]
  unfold tabQ
  rw [List.zipIdx_append, List.map_append]
  simp
theorem tabQ_len (q : Sort5) (l : Nat) (R : List Ent) (ws : List Wd) : (tabQ q l R ws).length = ws.length := by simp [tabQ]
/-! ### the table in memory -/
/-- while it is made: H is the heap ahead of it -/
structure TI (K : PySem.W.Frag) (P : Program) (w : World) (q : Sort5) (l : Nat) (H H' : Hp) (bk d0 d1 fo a0 a1 : Addr) (R E : List Ent) (U ws : List Wd) (rows : List (List Nat)) : Prop where
  same : Same H H'
  free : H bk = none ∧ H d0 = none ∧ H d1 = none ∧ H fo = none ∧ H a0 = none ∧ H a1 = none
  ne : fo ≠ d0 ∧ fo ≠ d1 ∧ a0 ≠ a1 ∧ a0 ≠ bk ∧ a1 ≠ bk
  book : BookAt K P w H' bk d0 d1 (srtOf q) R E
  ok : BookOk (srtOf q) R E U
  tab : TabAt K P w H' (scQ q) fo (tabQ q l R ws)
  words : H' a0 = some (.lst (ws.map fun u => V.str (tx u)))
  rows : ∃ rs, H' a1 = some (.lst rs) ∧ DpAll K H' rs (rows.map rowD)
  has : ∀ u ∈ ws, HasQ q R l u ∧ u ∈ U
section
variable {K : PySem.W.Frag} {P : Program} {w : World} {q : Sort5} {l : Nat} {H H' H2 : Hp} {bk d0 d1 fo a0 a1 c : Addr} {R E : List Ent} {U ws : List Wd} {rows : List (List Nat)}
theorem tab_stays {sc : Bool} {d : Addr} {m : List (NestedKey × V)} (t : TabAt K P w H sc d m) (e : TupsStay H H') (h : ∀ o, H d = some o → H' d = some o) : TabAt K P w H' sc d m := by
  obtain ⟨o, ho⟩ := tab_some t
  exact t.stay e (by rw [ho, h o ho])
theorem dpAllD {ds : List PyData} {vs : List V} (e : TupsStay H H') (rs : List (List Nat)) (h : DpAll K H vs (rs.map rowD)) : DpAll K H' vs (rs.map rowD) := by
  rw [rows_rk] at h ⊢
  exact KeysAt.stay e _ _ h
theorem TI.same' (M : TI K P w q l H H' bk d0 d1 fo a0 a1 R E U ws rows) (s : Same H' H2) : TI K P w q l H H2 bk d0 d1 fo a0 a1 R E U ws rows := by
  obtain ⟨rs, r1, r2⟩ := M.rows
  exact ⟨M.same.trans s, M.free, M.ne, M.book.same s, M.ok, tab_stays M.tab (.of s) (s fo), s _ _ M.words, ⟨rs, s _ _ r1, dpAllD (ds := []) (.of s) rows r2⟩, M.has⟩
theorem TI.lst0 (M : TI K P w q l H H' bk d0 d1 fo a0 a1 R E U ws rows) : a0 ∉ [d0, d1] ∧ a1 ∉ [d0, d1] ∧ fo ∉ [d0, d1] ∧ a0 ≠ fo ∧ a1 ≠ fo ∧ bk ≠ fo := by
  obtain ⟨rs, r1, r2⟩ := M.rows
  have h1 := tab_ne M.book.t0 M.words
  have h2 := tab_ne M.book.t1 M.words
  have h3 := tab_ne M.book.t0 r1
  have h4 := tab_ne M.book.t1 r1
  have h5 := tab_ne M.tab M.words
  have h6 := tab_ne M.tab r1
  have h7 := tab_ne M.tab M.book.at_
  obtain ⟨n1, n2, _⟩ := M.ne
  refine ⟨by simp [h1, h2], by simp [h3, h4], by simp [n1, n2], h5, h6, h7⟩
/-- a kind has been asked -/
theorem TI.call (M : TI K P w q l H H' bk d0 d1 fo a0 a1 R E U ws rows) {TR TE : List Ent} {U' : List Wd} (hU : ∀ u ∈ U, u ∈ U') (b : BookAt K P w H2 bk d0 d1 (srtOf q) (R ++ TR) (E ++ TE)) (o : BookOk (srtOf q) (R ++ TR) (E ++ TE) U') (f : Fr [d0, d1] H' H2) : TI K P w q l H H2 bk d0 d1 fo a0 a1 (R ++ TR) (E ++ TE) U' ws rows := by
  obtain ⟨rs, r1, r2⟩ := M.rows
  obtain ⟨k0, k1, k2, k3, k4, k5⟩ := M.lst0
  have tu := f.tups M.book.notup
  refine ⟨fun x u e => f.ext x u (fun z => ?_) (M.same x u e), M.free, M.ne, b, o, ?_, f.lst k0 M.words, ⟨rs, f.lst k1 r1, dpAllD (ds := []) tu rows r2⟩, fun u hu => ⟨(M.has u hu).1.app _, hU _ (M.has u hu).2⟩⟩
  · obtain ⟨_, f0, f1, _⟩ := M.free
    rcases List.mem_cons.mp z with y | y
    · rw [y, f0] at e; cases e
    · rw [List.mem_singleton.mp y, f1] at e; cases e
  · rw [tabQ_app fun u hu => (M.has u hu).1]
    exact tab_stays M.tab tu fun o ho => f.ext _ _ k2 ho
/-- another list is written -/
theorem TI.other (M : TI K P w q l H H' bk d0 d1 fo a0 a1 R E U ws rows) {xs ys : List V} (hc : H' c = some (.lst xs)) (h0 : H c = none) (n0 : c ≠ a0) (n1 : c ≠ a1) (n2 : c ≠ bk) : TI K P w q l H (upd H' c (.lst ys)) bk d0 d1 fo a0 a1 R E U ws rows := by
  obtain ⟨rs, r1, r2⟩ := M.rows
  have e : TupsStay H' (upd H' c (.lst ys)) := .upd (fun xs z => by rw [hc] at z; cases z) fun o u z => by rw [hc] at z; cases z
  have nf := tab_ne M.tab hc
  have nd0 := tab_ne M.book.t0 hc
  have nd1 := tab_ne M.book.t1 hc
  refine ⟨fun x u h => ?_, M.free, M.ne, ⟨by rw [upd_ne n2.symm]; exact M.book.at_, M.book.ne, M.book.t0.stay e (upd_ne nd0.symm), M.book.t1.stay e (upd_ne nd1.symm)⟩, M.ok, M.tab.stay e (upd_ne nf.symm), by rw [upd_ne n0.symm]; exact M.words, ⟨rs, by rw [upd_ne n1.symm]; exact r1, dpAllD (ds := []) e rows r2⟩, M.has⟩
  have nc : x ≠ c := fun z => by rw [z, h0] at h; cases h
  rw [upd_ne nc]
  exact M.same x u h
/-- a new kind is put down, its word behind the others -/
theorem TI.key (M : TI K P w q l H H' bk d0 d1 fo a0 a1 R E U ws rows) {x : Wd} {o : HO} (st : TupsStay H' (upd H' fo o)) (hx : HasQ q R l x) (hU : x ∈ U) (t : TabAt K P w (upd H' fo o) (scQ q) fo (tabQ q l R (ws ++ [x]))) :
    TI K P w q l H (upd (upd H' fo o) a0 (.lst (ws.map (fun u => V.str (tx u)) ++ [V.str (tx x)]))) bk d0 d1 fo a0 a1 R E U (ws ++ [x]) rows := by
  obtain ⟨rs, r1, r2⟩ := M.rows
  obtain ⟨k0, k1, k2, k3, k4, k5⟩ := M.lst0
  obtain ⟨n1, n2, n3, n4, n5⟩ := M.ne
  obtain ⟨f0, f1, f2, f3, f4, f5⟩ := M.free
  have w1 : upd H' fo o a0 = some (.lst (ws.map fun u => V.str (tx u))) := by rw [upd_ne k3]; exact M.words
  have e2 : TupsStay (upd H' fo o) (upd (upd H' fo o) a0 (.lst (ws.map (fun u => V.str (tx u)) ++ [V.str (tx x)]))) := .upd (fun xs z => by rw [w1] at z; cases z) fun o u z => by rw [w1] at z; cases z
  have e := st.trans e2
  have out : ∀ b, b ≠ fo → b ≠ a0 → upd (upd H' fo o) a0 (.lst (ws.map (fun u => V.str (tx u)) ++ [V.str (tx x)])) b = H' b := fun b h1 h2 => by rw [upd_ne h2, upd_ne h1]
  have nd0 : d0 ≠ a0 := (tab_ne M.book.t0 M.words).symm
  have nd1 : d1 ≠ a0 := (tab_ne M.book.t1 M.words).symm
  refine ⟨fun y u h => ?_, M.free, M.ne, ⟨by rw [out bk k5 n4.symm]; exact M.book.at_, M.book.ne, M.book.t0.stay e (out d0 n1.symm nd0), M.book.t1.stay e (out d1 n2.symm nd1)⟩, M.ok, t.stay e2 (upd_ne k3.symm), by rw [upd_same, List.map_append] <;> rfl, ⟨rs, by rw [out a1 k4 n3.symm]; exact r1, dpAllD (ds := []) e rows r2⟩, fun u hu => ?_⟩
  · have g1 : y ≠ fo := fun z => by rw [z, f3] at h; cases h
    have g2 : y ≠ a0 := fun z => by rw [z, f4] at h; cases h
    rw [out y g1 g2]
    exact M.same y u h
  · rcases List.mem_append.mp hu with z | z
    · exact M.has u z
    · rw [List.mem_singleton.mp z]; exact ⟨hx, hU⟩
/-- a row more -/
theorem TI.row (M : TI K P w q l H H' bk d0 d1 fo a0 a1 R E U ws rows) {r : List Nat} {e : Addr} {rs : List V} (h : H' a1 = some (.lst rs)) (he : H' e = some (.tup (r.map fun (x : Nat) => V.int (x : Int)))) :
    TI K P w q l H (upd H' a1 (.lst (rs ++ [.ref e]))) bk d0 d1 fo a0 a1 R E U ws (rows ++ [r]) := by
  obtain ⟨rs', r1, r2⟩ := M.rows
  rw [h] at r1
  cases r1
  obtain ⟨k0, k1, k2, k3, k4, k5⟩ := M.lst0
  obtain ⟨n1, n2, n3, n4, n5⟩ := M.ne
  obtain ⟨f0, f1, f2, f3, f4, f5⟩ := M.free
  have st : TupsStay H' (upd H' a1 (.lst (rs ++ [.ref e]))) := .upd (fun xs z => by rw [h] at z; cases z) fun o u z => by rw [h] at z; cases z
  have nd0 : d0 ≠ a1 := (tab_ne M.book.t0 h).symm
  have nd1 : d1 ≠ a1 := (tab_ne M.book.t1 h).symm
  refine ⟨fun y u g => ?_, M.free, M.ne, ⟨by rw [upd_ne n5.symm]; exact M.book.at_, M.book.ne, M.book.t0.stay st (upd_ne nd0), M.book.t1.stay st (upd_ne nd1)⟩, M.ok, M.tab.stay st (upd_ne k4.symm), by rw [upd_ne n3]; exact M.words, ⟨_, upd_same, ?_⟩, M.has⟩
  · have g2 : y ≠ a1 := fun z => by rw [z, f5] at g; cases g
    rw [upd_ne g2]
    exact M.same y u g
  · rw [List.map_append]
    refine DpAll.app (dpAllD (ds := []) st rows r2) (.cons ?_ .nil)
    refine .tup (.of (st.tup _ _ he)) ?_
    have := dp_ints (K := K) (H := upd H' a1 (.lst (rs ++ [.ref e]))) (r.map fun (x : Nat) => (x : Int))
    rw [List.map_map, List.map_map] at this
    exact this
end
/-- what _law_table hands back -/
noncomputable def tabW (q : Sort5) (L : List Nat) (l : Nat) : List Wd × List (List Nat) := Bf.st (RelQ q l) L 200
structure TabB (K : PySem.W.Frag) (P : Program) (w : World) (H : Hp) (t a0 a1 fo bk d0 d1 : Addr) (q : Sort5) (L : List Nat) (l N : Nat) : Prop where
  at_ : H t = some (.lst [.ref a0, .ref a1, .ref fo, .ref bk])
  words : H a0 = some (.lst ((tabW q L l).1.map fun u => V.str (tx u)))
  rows : ∃ rs, H a1 = some (.lst rs) ∧ DpAll K H rs ((tabW q L l).2.map rowD)
  ne : fo ≠ d0 ∧ fo ≠ d1
  book : ∃ (R E : List Ent) (U : List Wd), BookAt K P w H bk d0 d1 (srtOf q) R E ∧ BookOk (srtOf q) R E U ∧ U.length ≤ N ∧ TabAt K P w H (scQ q) fo (tabQ q l R (tabW q L l).1) ∧ ∀ u ∈ (tabW q L l).1, HasQ q R l u
def spTable (K : PySem.W.Frag) (P : Program) (w : World) : Sp := fun vs H Q _ => ∃ (q : Sort5) (L : List Nat) (l : Nat), vs = [.str (tx L), .str (nm5 q), .int (l : Nat)] ∧ Alph L ∧ l ≤ 7 ∧
  (200 < (tabW q L l).1.length → ∀ r H', Same H H' → H r = none → H' r = some (.lst []) → Q (.ref r) H') ∧
  ((tabW q L l).1.length ≤ 200 → ∀ (t a0 a1 fo bk d0 d1 : Addr) H', Same H H' → (∀ b ∈ [t, a0, a1, fo, bk, d0, d1], H b = none) → TabB K P w H' t a0 a1 fo bk d0 d1 q L l 130000 → Q (.ref t) H')
end K71
end
section
set_option Elab.async false
set_option linter.all false
set_option maxRecDepth 100000
set_option maxHeartbeats 8000000
/-! _law_table -/
namespace K71
open PySem PySem.Spec SG NdefX LamX
open L2 hiding It
open PyProof.Rows hiding St
open Lv (Wd Srt IT)
section
variable {P : Program} {w : World} {K : PySem.W.Frag} {mg : Str → Option Value} {base : Heap}
theorem ok_table {f fk : Addr} {fd fdk : FuncData} {k : Nat} (F : Fun K "_law_table" "_law_table" s_law_table f fd) (T : Blt mg) (G_kind : FnOk P w K mg base CX0 k fk fdk ["book", "sort", "level", "word"] (spKind K P w)) (c_kind : Df K mg "_law_kind" fk fdk ["book", "sort", "level", "word"]) :
    FnOk P w K mg base CX0 (k + 1) f fd ["letters", "sort", "level"] (spTable K P w) := by
  refine F.ok sc_law_table (fun vs H Q E h => ?_) (fun cdv A outer st H vs Q E hr h => ?_)
  · obtain ⟨q5, L, l, rfl, _⟩ := h
    rfl
  · obtain ⟨q5, L, l, rfl, hA, hl7, hbig, hfit⟩ := h
    refine ⟨_, (pss_cons (ps_set (i := 3) sc_law_table.nd rfl (Or.inl rfl) (pe_lst (pa_cons (pe_newT false) (pa_cons (pe_newT false) pa_nil))))
      (pss_cons (ps_set (i := 4) sc_law_table.nd rfl (Or.inl rfl) (pe_disT (scQ q5) hr.units (pe_call G_kind hr (by rfl) c_kind.m c_kind.k c_kind.b .nil pass0 (pa_cons (pv 3) (pa_cons (pv 1) (pa_cons (pv 2) (pa_cons pe_str pa_nil))))) pe_int))
      (pss_cons (ps_set (i := 5) sc_law_table.nd rfl (Or.inl rfl) (pe_lst (pa_cons pe_str pa_nil)))
      (pss_cons (ps_set (i := 6) sc_law_table.nd rfl (Or.inl rfl) (pe_lst pa_nil))
      (pss_cons (ps_for PassesOwn.never rfl (pi_range1 (by rfl) T.range (pa_cons pe_int pa_nil)) (pg_name (i := 7) sc_law_table.nd rfl (Or.inl rfl))
        (pss_one (ps_if (PW.pt (pw_and (pt_cmpR op_lt (pv 7) (pe_callB call_len_seq (by rfl) T.len PySem.boot_len (pa_cons (pv 5) pa_nil)) (nomark _)) (pw_and1 (pt_cmpR op_lt (pe_callB call_len_seq (by rfl) T.len PySem.boot_len (pa_cons (pv 5) pa_nil)) pe_int (nomark _)))))
          (pss_cons (ps_set (i := 8) sc_law_table.nd rfl (Or.inl rfl) (pe_lst pa_nil))
          (pss_cons (ps_for PassesOwn.never rfl (pi_str (pv 0)) (pg_name (i := 9) sc_law_table.nd rfl (Or.inl rfl))
            (pss_cons (ps_set (i := 10) sc_law_table.nd rfl (Or.inl rfl) (pe_op op_add_str (pe_ix ix_list (pv 5) (pv 7) (fun _ _ => rfl)) (pv 9)))
            (pss_cons (ps_set (i := 11) sc_law_table.nd rfl (Or.inl rfl) (pe_call G_kind hr (by rfl) c_kind.m c_kind.k c_kind.b .nil pass0 (pa_cons (pv 3) (pa_cons (pv 1) (pa_cons (pv 2) (pa_cons (pv 10) pa_nil))))))
            (pss_cons (ps_if (pt_cmpR (op_notinT hr.units) (pv 11) (pv 4) (by rfl)) (pss_cons (ps_putT hr.units (pv 4) (pv 11) (pe_callB call_len_seq (by rfl) T.len PySem.boot_len (pa_cons (pv 5) pa_nil)) rfl) (pss_one (ps_expr (pe_bm PySem.F.plainAttrs_list PySem.F.slot_list_append PySem.F.type_list_append mt_append (pv 5) (pa_cons (pv 10) pa_nil))))) pss_nil)
            (pss_one (ps_expr (pe_bm PySem.F.plainAttrs_list PySem.F.slot_list_append PySem.F.type_list_append mt_append (pv 8) (pa_cons (pe_getT hr.units (pv 4) (pv 11) (fun _ _ => rfl)) pa_nil))))))))
          (pss_one (ps_expr (pe_bm PySem.F.plainAttrs_list PySem.F.slot_list_append PySem.F.type_list_append mt_append (pv 6) (pa_cons (pe_callTy call_tuple_of (by rfl) T.tuple (by decide +kernel) (pa_cons (pv 8) pa_nil)) pa_nil)))))) pss_nil)))
      (pss_cons (ps_if (pt_cmpR op_gt (pe_callB call_len_seq (by rfl) T.len PySem.boot_len (pa_cons (pv 5) pa_nil)) pe_int (nomark _)) (pss_one (ps_ret (pe_lst pa_nil))) pss_nil)
      (pss_one (ps_ret (pe_lst (pa_cons (pv 5) (pa_cons (pv 6) (pa_cons (pv 4) (pa_cons (pv 3) pa_nil))))))))))))), ?_⟩
    have EV := relQ_eqv q5 l
    have hL3 : L.length ≤ 3 := hA.len.2
    -- book = [{}, {}]
    refine fun d0 o0 n0 t0 d1 o1 n1 t1 => ⟨sizeLine_le (by show 2 ≤ _; decide), fun bk nb => ?_⟩
    dsimp only [cxOf] at t0 t1 ⊢
    have s0 := same_new (o := o0) n0
    have s1 := same_new (o := o1) n1
    have sb := same_new (o := .lst [.ref d0, .ref d1]) nb
    have n01 : d0 ≠ d1 := fun z => by rw [← z, upd_same] at n1; cases n1
    have f1 : H d1 = none := by rwa [upd_ne n01.symm] at n1
    have nb1 : bk ≠ d1 := fun z => by rw [z, upd_same] at nb; cases nb
    have nb0 : bk ≠ d0 := fun z => by rw [z, upd_ne n01, upd_same] at nb; cases nb
    have fb : H bk = none := by rwa [upd_ne nb1, upd_ne nb0] at nb
    have B0 : BookAt K P w (upd (upd (upd H d0 o0) d1 o1) bk (.lst [.ref d0, .ref d1])) bk d0 d1 (srtOf q5) [] [] := by
      refine ⟨upd_same, n01, ?_, ?_⟩
      · exact tab_stays (tab_stays t0 (.of s1) (s1 d0)) (.of sb) (sb d0)
      · exact tab_stays t1 (.of sb) (sb d1)
    have S0 : Same H (upd (upd (upd H d0 o0) d1 o1) bk (.lst [.ref d0, .ref d1])) := (s0.trans s1).trans sb
    generalize hHB : upd (upd (upd H d0 o0) d1 o1) bk (.lst [.ref d0, .ref d1]) = HB at B0 S0 ⊢
    have O0 : BookOk (srtOf q5) [] [] [[]] := ⟨List.nodup_nil, fun p h => (nomatch h), fun p h => (nomatch h), Nat.le_refl _, fac_nil⟩
    -- found = {_law_kind(..): 0}
    refine fun fo nfo => ?_
    have sf := same_new (o := empT P w (scQ q5) fo) nfo
    have B1 := B0.same sf
    have hfo : (upd HB fo (empT P w (scQ q5) fo)) fo = some (empT P w (scQ q5) fo) := upd_same
    have nf0 : fo ≠ d0 := fun z => by obtain ⟨oo, ho⟩ := tab_some B0.t0; rw [z, ho] at nfo; cases nfo
    have nf1 : fo ≠ d1 := fun z => by obtain ⟨oo, ho⟩ := tab_some B0.t1; rw [z, ho] at nfo; cases nfo
    have nfb : fo ≠ bk := fun z => by rw [z, B0.at_] at nfo; cases nfo
    have ffo : H fo = none := S0.free nfo
    have e0 : tx [] = ("" : Str) := by decide
    refine ⟨_, rfl, _, rfl, _, rfl, bk, d0, d1, q5, [], [], [[]], L, l, [], rfl, hl7, hL3, (fun c h => nomatch h), B1, O0, List.mem_cons_self, by show 1 ≤ _; decide, Nat.zero_le _, fun v0 TR TE H1 b1 b2 b3 b4 b5 => ?_⟩
    rw [List.nil_append, List.nil_append] at b1 b2
    rw [List.nil_append] at b3 b5
    refine ⟨by rw [b4.ext _ _ (by simp [nf0, nf1]) hfo], lkey q5 l TR [], b5, fit_lkey _ _ _ _, fun o2 st2 t2 => ?_⟩
    have S1 : Same H (upd H1 fo o2) := fun x u e => by
      have g0 : x ≠ d0 := fun z => by rw [z, n0] at e; cases e
      have g1 : x ≠ d1 := fun z => by rw [z, f1] at e; cases e
      have g2 : x ≠ fo := fun z => by rw [z, ffo] at e; cases e
      rw [upd_ne g2]
      exact b4.ext _ _ (by simp [g0, g1]) (sf _ _ (S0 x u e))
    have B2 : BookAt K P w (upd H1 fo o2) bk d0 d1 (srtOf q5) TR TE := ⟨by rw [upd_ne nfb.symm]; exact b1.at_, n01, b1.t0.stay st2 (upd_ne nf0.symm), b1.t1.stay st2 (upd_ne nf1.symm)⟩
    generalize hH2 : upd H1 fo o2 = H2 at t2 S1 B2 ⊢
    -- words, steps
    refine ⟨sizeLine_le (by show 1 ≤ _; decide), fun a0 na0 => ⟨sizeLine_le (by show 0 ≤ _; decide), fun a1 na1 => ?_⟩⟩
    have sw := same_new (o := .lst [.str ""]) na0
    have ss := same_new (o := .lst []) na1
    have n_01 : a0 ≠ a1 := fun z => by rw [← z, upd_same] at na1; cases na1
    have na1' : H2 a1 = none := by rwa [upd_ne n_01.symm] at na1
    have nab : a0 ≠ bk := fun z => by rw [z, B2.at_] at na0; cases na0
    have nab1 : a1 ≠ bk := fun z => by rw [z, B2.at_] at na1'; cases na1'
    have M0 : TI K P w q5 l H (upd (upd H2 a0 (.lst [.str ""])) a1 (.lst [])) bk d0 d1 fo a0 a1 TR TE [[]] [[]] [] := by
      refine ⟨(S1.trans sw).trans ss, ⟨fb, n0, f1, ffo, S1.free na0, S1.free na1'⟩, ⟨nf0, nf1, n_01, nab, nab1⟩, (B2.same sw).same ss, b2, ?_, ?_, ⟨[], upd_same, .nil⟩, fun u hu => ?_⟩
      · exact tab_stays (tab_stays t2 (.of sw) (sw fo)) (.of ss) (ss fo)
      · rw [upd_ne n_01, upd_same, ← e0] <;> rfl
      · rw [List.mem_singleton.mp hu]; exact ⟨b3, List.mem_cons_self⟩
    generalize upd (upd H2 a0 (.lst [.str ""])) a1 (.lst []) = H3 at M0 ⊢
    -- the loop
    let Outer : Nat → L2.St → Hp → Prop := fun k σ H' => ∃ (R E : List Ent) (U ws : List Wd) (rows : List (List Nat)) (v7 v8 v9 v10 v11 : Option V), TI K P w q5 l H H' bk d0 d1 fo a0 a1 R E U ws rows ∧ U.length ≤ 1 + 609 * k ∧
      ((ws.length ≤ 200 ∧ (ws, rows) = Bf.st (RelQ q5 l) L k) ∨ (200 < ws.length ∧ ws.length ≤ 203 ∧ 200 < (tabW q5 L l).1.length)) ∧
      σ = [some (.str (tx L)), some (.str (nm5 q5)), some (.int (l : Nat)), some (.ref bk), some (.ref fo), some (.ref a0), some (.ref a1), v7, v8, v9, v10, v11]
    refine ⟨200, rfl, by decide, by decide, for_range (lo := 0) (n := 200) Outer ⟨TR, TE, [[]], [[]], [], none, none, none, none, none, M0, by show 1 ≤ _; decide, .inl ⟨by show 1 ≤ 200; decide, rfl⟩, rfl⟩ (fun k σ H' hk hP => ?_) (fun σ H' hP => ?_)⟩
    · obtain ⟨R, EE, U, ws, rows, v7, v8, v9, v10, v11, M, hUl, hcase, rfl⟩ := hP
      rw [Int.zero_add]
      have lenw : (ws.map fun u => V.str (tx u)).length = ws.length := List.length_map _
      rcases hcase with ⟨hw200, hst⟩ | ⟨hw1, hw2, hw3⟩
      · refine ⟨_, rfl, _, rfl, a0, _, rfl, .inl (SqL.of M.words), _, _, rfl, rfl, _, rfl, ?_⟩
        rw [lenw]
        by_cases hkw : k < ws.length
        · rw [decide_eq_true (show ((k : Nat) : Int) < (ws.length : Nat) by omega)]
          refine iteT ?_
          refine ⟨_, rfl, a0, _, rfl, .inl (SqL.of M.words), _, _, rfl, rfl, _, rfl, ?_⟩
          rw [lenw, decide_eq_true (show ((ws.length : Nat) : Int) < 201 by omega)]
          refine iteT ?_
          -- row = []
          refine ⟨sizeLine_le (by show 0 ≤ _; decide), fun c nc => ?_⟩
          have I := Bf.st_inv EV L k
          have hsuc := Bf.st_succ (R := RelQ q5 l) EV L k
          rw [← hst] at I hsuc
          obtain ⟨wk, hwk⟩ : ∃ x, ws[k]? = some x := ⟨_, List.getElem?_eq_getElem hkw⟩
          have hnext : Bf.st (RelQ q5 l) L (k + 1) = ((Bf.rowOf (RelQ q5 l) wk L ws).1, rows ++ [(Bf.rowOf (RelQ q5 l) wk L ws).2]) := by
            rcases hsuc with ⟨_, z⟩ | ⟨x, z1, z2⟩
            · exact absurd z (by simp only; omega)
            · simp only at z1 z2
              rw [hwk] at z1
              cases z1
              exact z2
          have wshort : wk.length ≤ 200 := Nat.le_trans (I.short k wk hwk) (by omega)
          have wover := I.over wk (List.mem_of_getElem? hwk)
          have hap := I.apart
          clear hsuc I
          have M1 := M.same' (same_new (o := .lst []) nc)
          have hc1 : upd H' c (.lst []) c = some (.lst []) := upd_same
          have nca0 : c ≠ a0 := fun z => by rw [z, M.words] at nc; cases nc
          have nca1 : c ≠ a1 := fun z => by obtain ⟨rs, r1, _⟩ := M.rows; rw [z, r1] at nc; cases nc
          have ncb : c ≠ bk := fun z => by rw [z, M.book.at_] at nc; cases nc
          have ncfo : c ≠ fo := fun z => by obtain ⟨oo, ho⟩ := tab_some M.tab; rw [z, ho] at nc; cases nc
          have ncd0 : c ≠ d0 := fun z => by obtain ⟨oo, ho⟩ := tab_some M.book.t0; rw [z, ho] at nc; cases nc
          have ncd1 : c ≠ d1 := fun z => by obtain ⟨oo, ho⟩ := tab_some M.book.t1; rw [z, ho] at nc; cases nc
          have hc0 : H c = none := M.same.free nc
          have cM : c ∉ [d0, d1] := by simp [ncd0, ncd1]
          let Inn : Nat → L2.St → Hp → Prop := fun j σ H2 => ∃ (R E : List Ent) (U : List Wd) (v9 v10 v11 : Option V), TI K P w q5 l H H2 bk d0 d1 fo a0 a1 R E U (Bf.rowOf (RelQ q5 l) wk (L.take j) ws).1 rows ∧ U.length ≤ 1 + 609 * k + 203 * j ∧
            H2 c = some (.lst ((Bf.rowOf (RelQ q5 l) wk (L.take j) ws).2.map fun (x : Nat) => V.int (x : Int))) ∧
            σ = [some (.str (tx L)), some (.str (nm5 q5)), some (.int (l : Nat)), some (.ref bk), some (.ref fo), some (.ref a0), some (.ref a1), some (.int (k : Nat)), some (.ref c), v9, v10, v11]
          refine ⟨_, rfl, tx L, rfl, for_str (w := L) Inn ⟨R, EE, U, v9, v10, v11, M1, by omega, hc1, rfl⟩ (fun j cj σ2 H2 hj hP => ?_) (fun σ2 H2 hP => ?_)⟩
          · obtain ⟨R2, E2, U2, w9, w10, w11, MJ, hU2, hc2, rfl⟩ := hP
            have hjL : j < L.length := (List.getElem?_eq_some_iff.mp hj).1
            have etk : L.take (j + 1) = L.take j ++ [cj] := take_snoc hj
            have eone : Bf.rowOf (RelQ q5 l) wk (L.take (j + 1)) ws = Bf.one (RelQ q5 l) wk (Bf.rowOf (RelQ q5 l) wk (L.take j) ws) cj := by
              rw [etk, Bf.rowOf_snoc]
            have RI := Bf.row_inv EV (w := wk) hap (L.take j)
            show _
            obtain ⟨tl, pre⟩ := RI.pre
            have hS2 : (Bf.rowOf (RelQ q5 l) wk (L.take j) ws).2.length ≤ 3 := by rw [RI.len, List.length_take]; omega
            have hS1 : (Bf.rowOf (RelQ q5 l) wk (L.take j) ws).1.length ≤ 203 := by
              have : ∀ (A : List Nat) (s : List Wd × List Nat), (A.foldl (Bf.one (RelQ q5 l) wk) s).1.length ≤ s.1.length + A.length := by
                intro A
                induction A with
                | nil => intro s; exact Nat.le_refl _
                | cons a A ih =>
                  intro s
                  rw [List.foldl_cons]
                  refine Nat.le_trans (ih _) ?_
                  have : (Bf.one (RelQ q5 l) wk s a).1.length ≤ s.1.length + 1 := by
                    unfold Bf.one
                    split
                    · exact Nat.le_succ _
                    · simp
                  simp only [List.length_cons]
                  omega
              have := this (L.take j) (ws, [])
              unfold Bf.rowOf
              refine Nat.le_trans this ?_
              rw [List.length_take]
              show ws.length + _ ≤ 203
              omega
            have hcjL : cj ∈ L := List.mem_of_getElem? hj
            show _
            dsimp only [Inn]
            rw [eone]
            generalize hS : Bf.rowOf (RelQ q5 l) wk (L.take j) ws = S at MJ hc2 RI pre hS2 hS1 ⊢
            have hwkS : S.1[k]? = some wk := by
              rw [pre, List.getElem?_append_left hkw]
              exact hwk
            -- word = words[k] + letter
            refine ⟨_, rfl, _, rfl, a0, _, _, _, rfl, rfl, SqL.of MJ.words, atI_nat (by rw [List.getElem?_map, hwkS] <;> rfl), _, rfl, tx wk, tx [cj], rfl, rfl, sizeLine_le (by rw [tx_len, tx_len]; show wk.length + 1 ≤ _; omega), ?_⟩
            rw [tx_app]
            obtain ⟨fU, mU⟩ := fac_snoc MJ.ok.fac (MJ.has wk (List.mem_of_getElem? hwkS)).2 cj
            have okU := MJ.ok.more (U' := U2 ++ tails (wk ++ [cj])) (fun u h => List.mem_append_left _ h) fU
            have lU : (U2 ++ tails (wk ++ [cj])).length ≤ 1 + 609 * k + 203 * (j + 1) := by
              rw [List.length_append, tails_len, List.length_append]
              show U2.length + (wk.length + 1 + 1) ≤ _
              omega
            have hwc : (wk ++ [cj]).length ≤ 1000 := by rw [List.length_append]; show wk.length + 1 ≤ _; omega
            -- kind = _law_kind(..)
            refine ⟨_, rfl, _, rfl, _, rfl, _, rfl, bk, d0, d1, q5, R2, E2, U2 ++ tails (wk ++ [cj]), L, l, wk ++ [cj], rfl, hl7, hL3, (fun c hc => (List.mem_append.mp hc).elim (wover c) fun z => by rw [List.mem_singleton.mp z]; exact hcjL), MJ.book, okU, mU, by omega, hwc, fun v TR1 TE1 H3 g1 g2 g3 g4 g5 => ?_⟩
            have M3 := MJ.call (fun u h => List.mem_append_left _ h) g1 g2 g4
            have hc3 := g4.lst cM hc2
            generalize R2 ++ TR1 = R3 at g3 g5 M3
            generalize E2 ++ TE1 = E3 at M3
            have lws : (S.1.map fun u => V.str (tx u)).length = S.1.length := List.length_map _
            -- if kind not in found
            refine ⟨_, rfl, _, rfl, scQ q5, fo, _, _, rfl, M3.tab, g5, fit_lkey _ _ _ _, _, rfl, ?_⟩
            rw [if_pos rfl, tabQ_val (fun u hu => (M3.has u hu).1) g3]
            cases hp : Bf.place (RelQ q5 l) S.1 (wk ++ [cj]) with
            | some i =>
              refine iteF ?_
              have hv : valV (tabQ q5 l R3 S.1) (lkey q5 l R3 (wk ++ [cj])) = some (.int (i : Nat)) := by rw [tabQ_val (fun u hu => (M3.has u hu).1) g3, hp] <;> rfl
              have eS : Bf.one (RelQ q5 l) wk S cj = (S.1, S.2 ++ [i]) := by
                unfold Bf.one
                rw [hp]
              rw [eS]
              refine ⟨_, rfl, .inl ⟨rfl, _, SqL.of hc3⟩, _, rfl, _, rfl, scQ q5, fo, _, _, _, rfl, M3.tab, g5, fit_lkey _ _ _ _, hv, c, _, _, rfl, rfl, hc3, by rw [List.length_map]; exact Nat.lt_of_le_of_lt hS2 (by rw [sizeLine_eq]; decide), ?_⟩
              refine ⟨R3, E3, _, _, _, _, M3.other hc3 hc0 nca0 nca1 ncb, lU, ?_, rfl⟩
              rw [upd_same, List.map_append] <;> rfl
            | none =>
              refine iteT ?_
              have eS : Bf.one (RelQ q5 l) wk S cj = (S.1 ++ [wk ++ [cj]], S.2 ++ [S.1.length]) := by
                unfold Bf.one
                rw [hp]
              rw [eS]
              refine ⟨_, rfl, a0, _, rfl, .inl (SqL.of M3.words), _, rfl, _, rfl, scQ q5, fo, _, _, rfl, M3.tab, g5, fit_lkey _ _ _ _, by rw [tabQ_len]; exact Nat.lt_of_le_of_lt hS1 (by rw [sizeLine_eq]; decide), fun o4 st4 t4 => ?_⟩
              rw [lws, tabQ_put (fun u hu => (M3.has u hu).1) g3 hp] at t4
              obtain ⟨k0, k1, k2, k3, k4, k5⟩ := M3.lst0
              have w4 : upd H3 fo o4 a0 = some (.lst (S.1.map fun u => V.str (tx u))) := by rw [upd_ne k3]; exact M3.words
              refine ⟨_, rfl, .inl ⟨rfl, _, SqL.of w4⟩, _, rfl, a0, _, _, rfl, rfl, w4, by rw [lws]; exact Nat.lt_of_le_of_lt hS1 (by rw [sizeLine_eq]; decide), ?_⟩
              have M4 := M3.key st4 g3 mU t4
              have hc4 : upd (upd H3 fo o4) a0 (.lst (S.1.map (fun u => V.str (tx u)) ++ [V.str (tx (wk ++ [cj]))])) c = some (.lst (S.2.map fun (x : Nat) => V.int (x : Int))) := by
                rw [upd_ne nca0, upd_ne ncfo]
                exact hc3
              have st5 : TupsStay (upd H3 fo o4) (upd (upd H3 fo o4) a0 (.lst (S.1.map (fun u => V.str (tx u)) ++ [V.str (tx (wk ++ [cj]))]))) := .upd (fun xs z => by rw [w4] at z; cases z) fun o u z => by rw [w4] at z; cases z
              have hv : valV (tabQ q5 l R3 (S.1 ++ [wk ++ [cj]])) (lkey q5 l R3 (wk ++ [cj])) = some (.int (S.1.length : Nat)) := by
                have A2 := Bf.apart_snoc EV RI.apart (Bf.place_none EV hp)
                rw [tabQ_val (fun u hu => (M4.has u hu).1) g3, Bf.place_of EV A2 (i := S.1.length) (x := wk ++ [cj]) (by rw [List.getElem?_append_right (Nat.le_refl _), Nat.sub_self] <;> rfl) (EV.refl _)] <;> rfl
              refine ⟨_, rfl, .inl ⟨rfl, _, SqL.of hc4⟩, _, rfl, _, rfl, scQ q5, fo, _, _, _, rfl, M4.tab, KeyAt.stay (st4.trans st5) _ _ g5, fit_lkey _ _ _ _, hv, c, _, _, rfl, rfl, hc4, by rw [List.length_map]; exact Nat.lt_of_le_of_lt hS2 (by rw [sizeLine_eq]; decide), ?_⟩
              refine ⟨R3, E3, _, _, _, _, M4.other hc4 hc0 nca0 nca1 ncb, lU, ?_, rfl⟩
              rw [upd_same, List.map_append] <;> rfl
          · obtain ⟨R2, E2, U2, w9, w10, w11, MJ, hU2, hc2, rfl⟩ := hP
            rw [List.take_length] at MJ hc2
            obtain ⟨rs, r1, r2⟩ := MJ.rows
            have lrs : rs.length ≤ 200 := by
              have h1 : rs.length = rows.length := by rw [r2.len, List.length_map]
              have I := Bf.st_inv EV L k
              rw [← hst] at I
              have := I.len
              simp only at this
              omega
            refine ⟨_, rfl, .inl ⟨rfl, _, SqL.of r1⟩, _, rfl, c, _, rfl, .inl ⟨SqL.of hc2, fun e ne => ?_⟩⟩
            have se := same_new (o := .tup ((Bf.rowOf (RelQ q5 l) wk L ws).2.map fun (x : Nat) => V.int (x : Int))) ne
            have M5 := MJ.same' se
            have r1e := se a1 _ r1
            refine ⟨a1, _, _, rfl, rfl, r1e, Nat.lt_of_le_of_lt lrs (by rw [sizeLine_eq]; decide), ?_⟩
            have M6 := M5.row r1e upd_same
            refine ⟨R2, E2, U2, _, _, _, _, _, _, _, M6, by omega, ?_, rfl⟩
            have up3 : (Bf.rowOf (RelQ q5 l) wk L ws).1.length ≤ 203 := by
              have : ∀ (A : List Nat) (s : List Wd × List Nat), (A.foldl (Bf.one (RelQ q5 l) wk) s).1.length ≤ s.1.length + A.length := by
                intro A
                induction A with
                | nil => intro s; exact Nat.le_refl _
                | cons a A ih =>
                  intro s
                  rw [List.foldl_cons]
                  refine Nat.le_trans (ih _) ?_
                  have : (Bf.one (RelQ q5 l) wk s a).1.length ≤ s.1.length + 1 := by
                    unfold Bf.one
                    split
                    · exact Nat.le_succ _
                    · simp
                  simp only [List.length_cons]
                  omega
              have := this L (ws, [])
              unfold Bf.rowOf
              refine Nat.le_trans this ?_
              show ws.length + _ ≤ 203
              omega
            by_cases h2 : (Bf.rowOf (RelQ q5 l) wk L ws).1.length ≤ 200
            · exact .inl ⟨h2, hnext.symm⟩
            · refine .inr ⟨by omega, up3, ?_⟩
              have := Bf.st_mono (R := RelQ q5 l) EV L (k := k + 1) (k' := 200) (by omega)
              rw [hnext] at this
              have this2 : (Bf.rowOf (RelQ q5 l) wk L ws).1.length ≤ (Bf.st (RelQ q5 l) L 200).1.length := this
              exact Nat.lt_of_lt_of_le (show 200 < (Bf.rowOf (RelQ q5 l) wk L ws).1.length by omega) this2
        · rw [decide_eq_false (show ¬ ((k : Nat) : Int) < (ws.length : Nat) by omega)]
          refine iteF ?_
          refine iteF ?_
          refine ⟨R, EE, U, ws, rows, _, _, _, _, _, M, by omega, .inl ⟨hw200, ?_⟩, rfl⟩
          have hd := Bf.st_done (R := RelQ q5 l) EV L (k := k) (by rw [← hst]; show ws.length ≤ k; omega) 1
          rw [hd]
          exact hst
      · refine ⟨_, rfl, _, rfl, a0, _, rfl, .inl (SqL.of M.words), _, _, rfl, rfl, _, rfl, ?_⟩
        rw [lenw, decide_eq_true (show ((k : Nat) : Int) < (ws.length : Nat) by omega)]
        refine iteT ?_
        refine ⟨_, rfl, a0, _, rfl, .inl (SqL.of M.words), _, _, rfl, rfl, _, rfl, ?_⟩
        rw [lenw, decide_eq_false (show ¬ ((ws.length : Nat) : Int) < 201 by omega)]
        refine iteF ?_
        exact ⟨R, EE, U, ws, rows, _, _, _, _, _, M, by omega, .inr ⟨hw1, hw2, hw3⟩, rfl⟩
    · obtain ⟨R, EE, U, ws, rows, v7, v8, v9, v10, v11, M, hUl, hcase, rfl⟩ := hP
      have lenw : (ws.map fun u => V.str (tx u)).length = ws.length := List.length_map _
      refine ⟨_, rfl, a0, _, rfl, .inl (SqL.of M.words), _, _, rfl, rfl, _, rfl, ?_⟩
      rw [lenw]
      rcases hcase with ⟨hw200, hst⟩ | ⟨hw1, hw2, hw3⟩
      · rw [decide_eq_false (show ¬ ((ws.length : Nat) : Int) > 200 by omega)]
        refine iteF ?_
        refine ⟨_, rfl, _, rfl, _, rfl, _, rfl, sizeLine_le (by show 4 ≤ _; decide), fun t nt => ?_⟩
        have s9 := same_new (o := .lst [.ref a0, .ref a1, .ref fo, .ref bk]) nt
        have M9 := M.same' s9
        have e1 : ws = (tabW q5 L l).1 := congrArg (·.1) hst
        have e2 : rows = (tabW q5 L l).2 := congrArg (·.2) hst
        obtain ⟨f_b, f_0, f_1, f_o, f_a, f_s⟩ := M.free
        refine hfit (by rw [← e1]; exact hw200) t a0 a1 fo bk d0 d1 _ M9.same (fun b hb => ?_) ⟨upd_same, by rw [← e1]; exact M9.words, by rw [← e2]; exact M9.rows, ⟨M9.ne.1, M9.ne.2.1⟩, R, EE, U, M9.book, M9.ok, by omega, by rw [← e1]; exact M9.tab, by rw [← e1]; exact fun u hu => (M9.has u hu).1⟩
        simp only [List.mem_cons, List.not_mem_nil, or_false] at hb
        rcases hb with rfl | rfl | rfl | rfl | rfl | rfl | rfl
        · exact M.same.free nt
        · exact f_a
        · exact f_s
        · exact f_o
        · exact f_b
        · exact f_0
        · exact f_1
      · rw [decide_eq_true (show ((ws.length : Nat) : Int) > 200 by omega)]
        refine iteT ?_
        refine ⟨sizeLine_le (by show 0 ≤ _; decide), fun r nr => ?_⟩
        exact hbig hw3 r _ (M.same.trans (same_new nr)) (M.same.free nr) upd_same
end
end K71
end
section
set_option Elab.async false
set_option linter.all false
set_option maxRecDepth 100000
/-! Words over one letter: how many kinds a level has. -/
namespace Lv
open Cn Bf
theorem rp_len (c n : Nat) : (rp c n).length = n := List.length_replicate
theorem rp_take (c : Nat) {n i : Nat} (h : i ≤ n) : (rp c n).take i = rp c i := by
  unfold rp
  rw [List.take_replicate, Nat.min_eq_left h]
theorem rp_drop (c n i : Nat) : (rp c n).drop i = rp c (n - i) := List.drop_replicate
theorem rp_get (c : Nat) {n i : Nat} (h : i < n) : (rp c n).getD i 0 = c := by
  unfold rp
  rw [List.getD_eq_getElem?_getD, List.getElem?_replicate, if_pos h] <;> rfl
def IsRp (c : Nat) (u : Wd) : Prop := ∃ n, u = rp c n
theorem rp_parts (s : Srt) (c n : Nat) : Parts s (IsRp c) (rp c n) := fun x hx => by
  obtain ⟨i, hi, rfl⟩ := mem_splits.mp hx
  rw [rp_len] at hi
  exact ⟨⟨i, rp_take c (by omega)⟩, fun _ => ⟨n - (i + 1), rp_drop c n _⟩⟩
theorem mem_items_rp {s : Srt} {c T n : Nat} {t : IT} : t ∈ itemsOf s (fun u => min u.length T) (rp c n) ↔ ∃ i, i < n ∧ t = (min i T, c, if s = .rank then min (n - (i + 1)) T else 0) := by
  unfold itemsOf
  rw [List.mem_map]
  constructor
  · rintro ⟨x, hx, rfl⟩
    obtain ⟨i, hi, rfl⟩ := mem_splits.mp hx
    rw [rp_len] at hi
    refine ⟨i, hi, ?_⟩
    unfold item
    show (min ((rp c n).take i).length T, (rp c n).getD i 0, if s = .rank then min ((rp c n).drop (i + 1)).length T else 0) = _
    rw [rp_take c (by omega), rp_drop, rp_len, rp_len, rp_get c hi]
  · rintro ⟨i, hi, rfl⟩
    refine ⟨_, mem_splits.mpr ⟨i, by rw [rp_len]; exact hi, rfl⟩, ?_⟩
    unfold item
    show (min ((rp c n).take i).length T, (rp c n).getD i 0, if s = .rank then min ((rp c n).drop (i + 1)).length T else 0) = _
    rw [rp_take c (by omega), rp_drop, rp_len, rp_len, rp_get c hi]
theorem items_rp_succ {s : Srt} (hs : s ≠ .rank) {c T n : Nat} : itemsOf s (fun u => min u.length T) (rp c (n + 1)) = (min n T, c, 0) :: itemsOf s (fun u => min u.length T) (rp c n) := by
  rw [← rp_snoc, items_snoc, if_neg hs]
  show (min (rp c n).length T, c, 0) :: _ = _
  rw [rp_len]
  congr 1
  unfold itemsOf
  refine List.map_congr_left fun x _ => ?_
  unfold item
  rw [if_neg hs, if_neg hs]
theorem dd_twice {α : Type} [DecidableEq α] (x : α) (t : List α) : dd (x :: x :: t) = dd (x :: t) := by
  show x :: ((x :: (dd t).filter (fun y => decide (y ≠ x))).filter fun y => decide (y ≠ x)) = x :: (dd t).filter fun y => decide (y ≠ x)
  rw [List.filter_cons_of_neg (by simp), List.filter_filter]
  congr 1
  exact List.filter_congr fun y _ => by simp
/-- the last place at which two lengths over one letter differ -/
def topU (s : Srt) : Nat → Nat
  | 0 => 0
  | l + 1 => if s = .rank then 2 * topU s l + 1 else topU s l + 1
theorem pair_rank {c T m n : Nat} : (∀ t, t ∈ itemsOf .rank (fun u => min u.length T) (rp c m) ↔ t ∈ itemsOf .rank (fun u => min u.length T) (rp c n)) ↔ min m (2 * T + 1) = min n (2 * T + 1) := by
  have key : ∀ m n, m < n → m ≤ 2 * T → ¬ (∀ t, t ∈ itemsOf .rank (fun u => min u.length T) (rp c m) ↔ t ∈ itemsOf .rank (fun u => min u.length T) (rp c n)) := fun m n hmn hm h => by
    by_cases hn : n ≤ 2 * T
    · by_cases h1 : m ≤ T
      · by_cases h0 : m = 0
        · subst h0
          obtain ⟨i, hi, _⟩ := mem_items_rp.mp ((h (min 0 T, c, if Srt.rank = .rank then min (n - (0 + 1)) T else 0)).mpr (mem_items_rp.mpr ⟨0, by omega, rfl⟩))
          omega
        · obtain ⟨i, hi, e⟩ := mem_items_rp.mp ((h (min 0 T, c, if Srt.rank = .rank then min (m - (0 + 1)) T else 0)).mp (mem_items_rp.mpr ⟨0, by omega, rfl⟩))
          rw [if_pos rfl, if_pos rfl] at e
          have e1 := congrArg (·.1) e
          have e2 := congrArg (·.2.2) e
          simp only at e1 e2
          omega
      · obtain ⟨i, hi, e⟩ := mem_items_rp.mp ((h (min (m - T) T, c, if Srt.rank = .rank then min (m - (m - T + 1)) T else 0)).mp (mem_items_rp.mpr ⟨m - T, by omega, rfl⟩))
        rw [if_pos rfl, if_pos rfl] at e
        have e1 := congrArg (·.1) e
        have e2 := congrArg (·.2.2) e
        simp only at e1 e2
        omega
    · obtain ⟨i, hi, e⟩ := mem_items_rp.mp ((h (min T T, c, if Srt.rank = .rank then min (n - (T + 1)) T else 0)).mpr (mem_items_rp.mpr ⟨T, by omega, rfl⟩))
      rw [if_pos rfl, if_pos rfl] at e
      have e1 := congrArg (·.1) e
      have e2 := congrArg (·.2.2) e
      simp only at e1 e2
      omega
  refine ⟨fun h => ?_, fun h => ?_⟩
  · rcases Nat.lt_trichotomy m n with z | z | z
    · by_cases hm : m ≤ 2 * T
      · exact absurd h (key m n z hm)
      · omega
    · rw [z]
    · by_cases hm : n ≤ 2 * T
      · exact absurd (fun t => (h t).symm) (key n m z hm)
      · omega
  · by_cases e : m = n
    · rw [e]; exact fun _ => Iff.rfl
    · have hm : 2 * T + 1 ≤ m := by omega
      have hn : 2 * T + 1 ≤ n := by omega
      have go : ∀ m n, 2 * T + 1 ≤ m → 2 * T + 1 ≤ n → ∀ t, t ∈ itemsOf .rank (fun u => min u.length T) (rp c m) → t ∈ itemsOf .rank (fun u => min u.length T) (rp c n) := fun m n hm hn t ht => by
        obtain ⟨i, hi, rfl⟩ := mem_items_rp.mp ht
        rw [if_pos rfl]
        by_cases hT : i < T
        · refine mem_items_rp.mpr ⟨i, by omega, ?_⟩
          rw [if_pos rfl, show min (m - (i + 1)) T = min (n - (i + 1)) T by omega]
        · by_cases hj : m - (i + 1) < T
          · refine mem_items_rp.mpr ⟨n - (m - i), by omega, ?_⟩
            rw [if_pos rfl, show min i T = min (n - (m - i)) T by omega, show min (m - (i + 1)) T = min (n - (n - (m - i) + 1)) T by omega]
          · refine mem_items_rp.mpr ⟨T, by omega, ?_⟩
            rw [if_pos rfl, show min i T = min T T by omega, show min (m - (i + 1)) T = min (n - (T + 1)) T by omega]
      exact fun t => ⟨go m n hm hn t, go n m hn hm t⟩
theorem pair_key {s : Srt} (hs : s ≠ .rank) {c T m n : Nat} : KeyEq s (itemsOf s (fun u => min u.length T) (rp c m)) (itemsOf s (fun u => min u.length T) (rp c n)) ↔ min m (T + 1) = min n (T + 1) := by
  have mems : KeyEq s (itemsOf s (fun u => min u.length T) (rp c m)) (itemsOf s (fun u => min u.length T) (rp c n)) → ∀ t, t ∈ itemsOf s (fun u => min u.length T) (rp c m) ↔ t ∈ itemsOf s (fun u => min u.length T) (rp c n) := fun k t => by
    by_cases e : s = .since
    · have := (keyEq_since e).mp k
      rw [← mem_dd, this, mem_dd]
    · exact (keyEq_set e).mp k t
  have key : ∀ m n, m < n → m ≤ T → ¬ (∀ t, t ∈ itemsOf s (fun u => min u.length T) (rp c m) ↔ t ∈ itemsOf s (fun u => min u.length T) (rp c n)) := fun m n hmn hm h => by
    obtain ⟨i, hi, e⟩ := mem_items_rp.mp ((h (min m T, c, if s = .rank then min (n - (m + 1)) T else 0)).mpr (mem_items_rp.mpr ⟨m, hmn, rfl⟩))
    have e1 := congrArg (·.1) e
    simp only at e1
    omega
  have up : ∀ k, KeyEq s (itemsOf s (fun u => min u.length T) (rp c (T + 1))) (itemsOf s (fun u => min u.length T) (rp c (T + 1 + k))) := by
    intro k
    induction k with
    | zero => exact KeyEq.refl s _
    | succ k ih =>
      refine ih.trans ?_
      rw [show T + 1 + (k + 1) = (T + k + 1) + 1 by omega, show T + 1 + k = T + k + 1 by omega, items_rp_succ hs (n := T + k + 1), items_rp_succ hs (n := T + k)]
      rw [show min (T + k) T = min (T + k + 1) T by omega]
      generalize (min (T + k + 1) T, c, 0) = x
      by_cases e : s = .since
      · exact (keyEq_since e).mpr (dd_twice x _).symm
      · exact (keyEq_set e).mpr fun y => by simp
  refine ⟨fun h => ?_, fun h => ?_⟩
  · rcases Nat.lt_trichotomy m n with z | z | z
    · by_cases hm : m ≤ T
      · exact absurd (mems h) (key m n z hm)
      · omega
    · rw [z]
    · by_cases hm : n ≤ T
      · exact absurd (fun t => (mems h t).symm) (key n m z hm)
      · omega
  · by_cases e : m = n
    · rw [e]; exact KeyEq.refl s _
    · have h1 := up (m - (T + 1))
      have h2 := up (n - (T + 1))
      rw [show T + 1 + (m - (T + 1)) = m by omega] at h1
      rw [show T + 1 + (n - (T + 1)) = n by omega] at h2
      exact h1.symm.trans h2
/-- over one letter a kind is a number -/
theorem rel_rp (s : Srt) (c : Nat) : ∀ l m n, Rel s l (rp c m) (rp c n) ↔ min m (topU s l) = min n (topU s l)
  | 0, m, n => ⟨fun _ => by show min m 0 = min n 0; omega, fun _ => trivial⟩
  | l + 1, m, n => by
    have ih := rel_rp s c l
    have on : NumOn (IsRp c) (Rel s l) (fun u => min u.length (topU s l)) := by
      rintro x y ⟨i, rfl⟩ ⟨j, rfl⟩
      show min (rp c i).length _ = min (rp c j).length _ ↔ _
      rw [rp_len, rp_len, ih]
    rw [rel_part on (rp_parts s c m) (rp_parts s c n)]
    by_cases hs : s = .rank
    · subst hs
      rw [keyEq_set (by decide), pair_rank]
      show _ ↔ min m (if Srt.rank = .rank then 2 * topU .rank l + 1 else topU .rank l + 1) = _
      rw [if_pos rfl]
      exact Iff.rfl
    · rw [pair_key hs]
      show _ ↔ min m (if s = .rank then 2 * topU s l + 1 else topU s l + 1) = min n (if s = .rank then 2 * topU s l + 1 else topU s l + 1)
      rw [if_neg hs]
end Lv
end
section
set_option Elab.async false
set_option linter.all false
set_option maxRecDepth 100000
set_option maxHeartbeats 4000000
/-! _law_chain -/
namespace K71
open PySem PySem.Spec SG NdefX LamX
open L2 hiding It
open PyProof.Rows hiding St
open Lv (Wd Srt IT)
/-! ### one letter -/
def topQ (q : Sort5) (l : Nat) : Nat := match q with
  | .lv s => Lv.topU s l
  | .fl _ => l
theorem lastN_rp (c n l : Nat) : lastN (Bf.rp c n) l = Bf.rp c (min n l) := by
  unfold lastN
  rw [Lv.rp_len, Lv.rp_drop]
  congr 1
  omega
theorem rp_inj {c m n : Nat} (h : Bf.rp c m = Bf.rp c n) : m = n := by
  have := congrArg List.length h
  rwa [Lv.rp_len, Lv.rp_len] at this
theorem pieces_rp (c l : Nat) : ∀ n (p : Wd), p ∈ piecesOf l (Bf.rp c n) ↔ ∃ i, i ≤ min n l ∧ p = Bf.rp c i
  | 0, p => by
    show p ∈ [[]] ↔ _
    rw [List.mem_singleton]
    exact ⟨fun h => ⟨0, Nat.zero_le _, h⟩, fun ⟨i, hi, e⟩ => by
      have : i = 0 := by omega
      rw [e, this] <;> rfl⟩
  | n + 1, p => by
    rw [← Bf.rp_snoc, pieces_snoc]
    unfold piecesNext
    rw [List.mem_append, List.mem_map, pieces_rp c l n]
    constructor
    · rintro (⟨x, h1, rfl⟩ | ⟨i, hi, rfl⟩)
      · obtain ⟨h1, h2⟩ := List.mem_filter.mp h1
        obtain ⟨i, hi, rfl⟩ := (pieces_rp c l n x).mp h1
        have := of_decide_eq_true h2
        rw [Lv.rp_len] at this
        exact ⟨i + 1, by omega, Bf.rp_snoc c i⟩
      · exact ⟨i, by omega, rfl⟩
    · rintro ⟨i, hi, rfl⟩
      by_cases h : i ≤ min n l
      · exact .inr ⟨i, h, rfl⟩
      · refine .inl ⟨Bf.rp c (i - 1), List.mem_filter.mpr ⟨(pieces_rp c l n _).mpr ⟨i - 1, by omega, rfl⟩, decide_eq_true (by rw [Lv.rp_len]; omega)⟩, ?_⟩
        rw [Bf.rp_snoc]
        congr 1
        omega
theorem relQ_rp (q : Sort5) (c l m n : Nat) : RelQ q l (Bf.rp c m) (Bf.rp c n) ↔ min m (topQ q l) = min n (topQ q l) := by
  cases q with
  | lv s => exact Lv.rel_rp s c l m n
  | fl y =>
    show kdF y l (Bf.rp c m) = kdF y l (Bf.rp c n) ↔ min m l = min n l
    cases y with
    | true =>
      show tk (lastN (Bf.rp c m) l) = tk (lastN (Bf.rp c n) l) ↔ _
      rw [lastN_rp, lastN_rp]
      exact ⟨fun h => rp_inj (tk_inj h), fun h => by rw [h]⟩
    | false =>
      show NestedKey.tup (Cn.canon ((piecesOf l (Bf.rp c m)).map tk)) = .tup (Cn.canon ((piecesOf l (Bf.rp c n)).map tk)) ↔ _
      rw [NestedKey.tup.injEq, Cn.canon_eq (alikeTk _)]
      constructor
      · intro h
        have key : ∀ m n, (∀ x, x ∈ (piecesOf l (Bf.rp c m)).map tk → x ∈ (piecesOf l (Bf.rp c n)).map tk) → min m l ≤ min n l := fun m n h => by
          obtain ⟨p, hp, e⟩ := List.mem_map.mp (h (tk (Bf.rp c (min m l))) (List.mem_map.mpr ⟨_, (pieces_rp c l m _).mpr ⟨min m l, Nat.le_refl _, rfl⟩, rfl⟩))
          obtain ⟨i, hi, rfl⟩ := (pieces_rp c l n p).mp hp
          rw [← rp_inj (tk_inj e)]
          exact hi
        exact Nat.le_antisymm (key m n fun x hx => (h x).mp hx) (key n m fun x hx => (h x).mpr hx)
      · intro h x
        rw [List.mem_map, List.mem_map]
        constructor
        · rintro ⟨p, hp, e⟩
          obtain ⟨i, hi, rfl⟩ := (pieces_rp c l m p).mp hp
          exact ⟨_, (pieces_rp c l n _).mpr ⟨i, by omega, rfl⟩, e⟩
        · rintro ⟨p, hp, e⟩
          obtain ⟨i, hi, rfl⟩ := (pieces_rp c l n p).mp hp
          exact ⟨_, (pieces_rp c l m _).mpr ⟨i, by omega, rfl⟩, e⟩
theorem topU_rank : ∀ l, Lv.topU .rank l + 1 = 2 ^ l
  | 0 => rfl
  | l + 1 => by
    have := topU_rank l
    show (if Srt.rank = .rank then 2 * Lv.topU .rank l + 1 else Lv.topU .rank l + 1) + 1 = _
    rw [if_pos rfl, Nat.pow_succ]
    omega
theorem topU_other {s : Srt} (h : s ≠ .rank) : ∀ l, Lv.topU s l = l
  | 0 => rfl
  | l + 1 => by
    show (if s = .rank then 2 * Lv.topU s l + 1 else Lv.topU s l + 1) = _
    rw [if_neg h, topU_other h l]
theorem topQ_le (q : Sort5) {l : Nat} (h : l ≤ 7) : topQ q l < 200 := by
  cases q with
  | fl y => show l < 200; omega
  | lv s =>
    show Lv.topU s l < 200
    by_cases e : s = .rank
    · subst e
      have := topU_rank l
      have : (2 : Nat) ^ l ≤ 2 ^ 7 := Nat.pow_le_pow_right (by decide) h
      have e7 : (2 : Nat) ^ 7 = 128 := by decide
      omega
    · rw [topU_other e]; omega
theorem tabW_one (q : Sort5) (c : Nat) {l : Nat} (h : l ≤ 7) : tabW q [c] l = ((List.range (topQ q l + 1)).map (Bf.rp c), (List.range (topQ q l + 1)).map fun i => [min (i + 1) (topQ q l)]) :=
  Bf.st_one_end (relQ_eqv q l) (relQ_rp q c l) (topQ_le q h)
/-! ### a text, any number of times -/
section
variable {X : Cx}
def rRepS0 : R2 := fun x y H Q => ∃ (u : List Nat) (n : Nat), x = .str (tx u) ∧ y = .int (n : Nat) ∧ 1 ≤ u.length ∧ u.length ≤ 8 ∧ n ≤ 40000 ∧ Q (.str (tx (List.replicate n u).flatten)) H
theorem op_repS0 : OpR X (binaryOp .Mult) rRepS0 := by
  intro pins s σ H x y v w Q I rx ry h
  obtain ⟨u, n, rfl, rfl, h1, h2, h4, q⟩ := h
  by_cases h3 : 2 ≤ n
  · exact op_repS pins s σ H _ _ v w Q I rx ry ⟨u, n, rfl, rfl, h1, h2, h3, h4, q⟩
  · obtain ⟨t, rfl⟩ := rx
    obtain ⟨t', rfl⟩ := ry
    refine P.mul_str (by rw [decide_eq_false (by omega), decide_eq_false (by omega)] <;> rfl) (fun g1 g2 => ?_) (fun g1 g2 => ?_) ?_
    · have : n = 1 := by omega
      subst this
      cases g2
    · have : n = 1 := by omega
      subst this
      cases g2
    · by_cases h0 : n = 0
      · subst h0
        rw [if_pos (by decide)]
        exact ⟨by decide, .str (tx []), H, I.tok _, ⟨s.toks, rfl⟩, q⟩
      · have : n = 1 := by omega
        subst this
        rw [if_neg (by decide), if_pos (by rfl)]
        have e : (List.replicate 1 u).flatten = u := by simp
        rw [e] at q
        exact ⟨.str (tx u), H, I, ⟨t, rfl⟩, q⟩
end
section
variable {P : Program} {w : World} {K : PySem.W.Frag} {mg : Str → Option Value} {base : Heap}
/-- a table that knows no kinds: a chain -/
structure TabC (K : PySem.W.Frag) (H : Hp) (t a0 a1 a2 a3 : Addr) (q : Sort5) (L : List Nat) (l : Nat) : Prop where
  at_ : H t = some (.lst [.ref a0, .ref a1, .ref a2, .ref a3])
  words : H a0 = some (.lst ((tabW q L l).1.map fun u => V.str (tx u)))
  rows : ∃ rs, H a1 = some (.lst rs) ∧ DpAll K H rs ((tabW q L l).2.map rowD)
  nil : H a3 = some (.lst [])
def spChain (K : PySem.W.Frag) : Sp := fun vs H Q _ => ∃ (q : Sort5) (l : Nat), vs = [.str (nm5 q), .int (l : Nat)] ∧ l ≤ 7 ∧
  ∀ (t a0 a1 a2 a3 : Addr) H', Same H H' → (∀ b ∈ [t, a0, a1, a2, a3], H b = none) → TabC K H' t a0 a1 a2 a3 q [97] l → Q (.ref t) H'
theorem ok_chain {f : Addr} {fd : FuncData} {k : Nat} (F : Fun K "_law_chain" "_law_chain" s_law_chain f fd) (T : Blt mg) : FnOk P w K mg base CX0 (k + 1) f fd ["sort", "level"] (spChain K) := by
  refine F.ok sc_law_chain (fun vs H Q E h => ?_) (fun cdv A outer st H vs Q E hr h => ?_)
  · obtain ⟨q5, l, rfl, _⟩ := h
    rfl
  · obtain ⟨q5, l, rfl, hl7, q⟩ := h
    have fin : ∀ (m : Nat) (v3 v4 : Option V), m = topQ q5 l + 1 → ∃ t2, PSs (cxOf CX0 P w K mg base N_law_chain "_law_chain" (defScope s_law_chain) f cdv A outer st H E).nox ((defBody s_law_chain).drop 2) t2 ∧ t2 { nx := fun _ H' => Q .non H', rt := Q } [some (.str (nm5 q5)), some (.int (l : Nat)), some (.int (m : Nat)), v3, v4] H := by
      intro m v3 v4 hm
      refine ⟨_, (pss_cons (ps_setLc (i := 3) (own := [("k", 4)]) (g := gName 4) rfl sc_law_chain.nd rfl rfl (sw_true rfl rfl rfl (by decide +kernel)) (pi_range1 (by rfl) T.range (pa_cons (pv 2) pa_nil)) (blkOk_by (own := [("k", 4)]) (N := N_law_chain) (sc := defScope s_law_chain) (by decide +kernel)) (fun _ _ _ _ _ => (pg_name (i := 4) sc_law_chain.nd rfl (Or.inl rfl))) (fun _ _ _ _ _ => pts_nil) (fun _ _ _ _ _ => (pe_op op_repS0 pe_str (pv 4))))
      (pss_one (ps_ret (pe_lst (pa_cons (pv 3) (pa_cons (pe_lc (own := [("k", 4)]) (g := gName 4) rfl sc_law_chain.nd (pi_range1 (by rfl) T.range (pa_cons (pv 2) pa_nil)) (blkOk_by (own := [("k", 4)]) (N := N_law_chain) (sc := defScope s_law_chain) (by decide +kernel)) (fun _ _ _ _ _ => (pg_name (i := 4) sc_law_chain.nd rfl (Or.inl rfl))) (fun _ _ _ _ _ => pts_nil) (fun _ _ _ _ _ => (pe_tup (pa_cons (pe_callB (call_min2 rfl) (by rfl) T.min (by decide +kernel) (pa_cons (pe_op op_add (pv 4) pe_int) (pa_cons (pe_op op_sub (pv 2) pe_int) pa_nil))) pa_nil)))) (pa_cons (pe_newT false) (pa_cons (pe_lst pa_nil) pa_nil)))))))), ?_⟩
      have hm200 : m ≤ 200 := by have := topQ_le q5 hl7; omega
      have e97 : ("a" : Str) = tx [97] := by decide
      refine ⟨_, rfl, (m : Int), rfl, by omega, by omega, fun D nD => ?_⟩
      refine lc_range (lo := 0) (n := m) (fun i H' => Same H H' ∧ H' D = some (.lst ((List.range i).map fun k => V.str (tx (Bf.rp 97 k))))) ⟨same_new nD, upd_same⟩ (fun i H' hi hP => ?_) (fun H' hP => ?_)
      · obtain ⟨sm, hD⟩ := hP
        rw [Int.zero_add]
        have er : (List.replicate i [97]).flatten = Bf.rp 97 i := by
          unfold Bf.rp
          induction i with
          | zero => rfl
          | succ i ih => rw [List.replicate_succ, List.flatten_cons, List.replicate_succ]; exact congrArg (97 :: ·) (by
              have : ∀ j, (List.replicate j [97]).flatten = List.replicate j 97 := fun j => by
                induction j with
                | zero => rfl
                | succ j ih => rw [List.replicate_succ, List.flatten_cons, ih, List.replicate_succ] <;> rfl
              exact this i)
        refine ⟨rfl, _, rfl, [97], i, e97 ▸ rfl, rfl, by decide, by decide, by omega, ?_⟩
        rw [er]
        refine ⟨_, hD, by rw [List.length_map, List.length_range]; exact Nat.lt_of_le_of_lt (show i ≤ 200 by omega) (by rw [sizeLine_eq]; decide), fun b o e => ?_, by rw [upd_same, List.range_succ, List.map_append] <;> rfl⟩
        have nb : b ≠ D := fun z => by rw [z, nD] at e; cases e
        rw [upd_ne nb]
        exact sm b o e
      · obtain ⟨sm, hD⟩ := hP
        refine ⟨_, rfl, _, rfl, (m : Int), rfl, by omega, by omega, fun D2 nD2 => ?_⟩
        have hD2n : H D2 = none := sm.free nD2
        have n12 : D ≠ D2 := fun z => by rw [z, nD2] at hD; cases hD
        refine lc_range (lo := 0) (n := m) (fun i H'' => Same H' H'' ∧ ∃ rs, H'' D2 = some (.lst rs) ∧ DpAll K H'' rs (((List.range i).map fun k => [min (k + 1) (m - 1)]).map rowD)) ⟨same_new nD2, [], upd_same, .nil⟩ (fun i H'' hi hP => ?_) (fun H'' hP => ?_)
        · obtain ⟨sm2, rs, hR, dR⟩ := hP
          rw [Int.zero_add]
          refine ⟨rfl, _, rfl, _, _, rfl, rfl, _, rfl, _, _, rfl, rfl, _, _, rfl, sizeLine_le (by show 1 ≤ _; decide), fun c nc => ?_⟩
          have emin : (if ((m : Nat) : Int) - 1 < ((i : Nat) : Int) + 1 then ((m : Nat) : Int) - 1 else ((i : Nat) : Int) + 1) = ((min (i + 1) (m - 1) : Nat) : Int) := by split <;> omega
          rw [emin]
          have lr : rs.length = i := by rw [dR.len, List.length_map, List.length_map, List.length_range]
          have nDc : D2 ≠ c := fun z => by rw [z, nc] at hR; cases hR
          have sc := same_new (o := .tup [.int ((min (i + 1) (m - 1) : Nat) : Int)]) nc
          have hRc : upd H'' c (.tup [.int ((min (i + 1) (m - 1) : Nat) : Int)]) D2 = some (.lst rs) := sc _ _ hR
          have st2 : TupsStay (upd H'' c (.tup [.int ((min (i + 1) (m - 1) : Nat) : Int)])) (upd (upd H'' c (.tup [.int ((min (i + 1) (m - 1) : Nat) : Int)])) D2 (.lst (rs ++ [.ref c]))) := .upd (fun xs z => by rw [hRc] at z; cases z) fun o u z => by rw [hRc] at z; cases z
          refine ⟨rs, hRc, by rw [lr]; exact Nat.lt_of_le_of_lt (show i ≤ 200 by omega) (by rw [sizeLine_eq]; decide), fun b o e => ?_, _, upd_same, ?_⟩
          · have nb : b ≠ D2 := fun z => by rw [z, nD2] at e; cases e
            rw [upd_ne nb]
            exact sc b o (sm2 b o e)
          · rw [List.range_succ, List.map_append, List.map_append]
            refine DpAll.app (dpAllD (ds := []) st2 _ (DpAll.same sc _ _ dR)) (.cons (.tup (.of (st2.tup _ _ upd_same)) (.cons (.int _) .nil)) .nil)
        · obtain ⟨sm2, rs, hR, dR⟩ := hP
          refine fun d o nd td => ⟨sizeLine_le (by show 0 ≤ _; decide), fun a3 na3 => ⟨sizeLine_le (by show 4 ≤ _; decide), fun t nt => ?_⟩⟩
          have sd := same_new (o := o) nd
          have s3 := same_new (o := .lst []) na3
          have s4 := same_new (o := .lst [.ref D, .ref D2, .ref d, .ref a3]) nt
          have sAll := (sm2.trans sd).trans (s3.trans s4)
          have s34 := s3.trans s4
          have fr : ∀ {b : Addr} {X : Hp}, Same H X → X b = none → H b = none := fun {b X} s h => s.free h
          refine q t D D2 d a3 _ (sm.trans sAll) (fun b hb => ?_) ⟨upd_same, ?_, ⟨rs, ?_, ?_⟩, ?_⟩
          · simp only [List.mem_cons, List.not_mem_nil, or_false] at hb
            rcases hb with rfl | rfl | rfl | rfl | rfl
            · exact fr ((sm.trans sm2).trans (sd.trans s3)) nt
            · exact nD
            · exact hD2n
            · exact fr (sm.trans sm2) nd
            · exact fr ((sm.trans sm2).trans sd) na3
          · rw [tabW_one q5 97 hl7, ← hm]
            have := sAll _ _ hD
            rw [this, List.map_map] <;> rfl
          · exact (sd.trans s34) _ _ hR
          · rw [tabW_one q5 97 hl7, ← hm]
            have : topQ q5 l = m - 1 := by omega
            rw [this]
            exact DpAll.same (sd.trans s34) _ _ dR
          · exact s4 _ _ upd_same
    by_cases hs : q5 = .lv .rank
    · obtain ⟨t2, d2, e2⟩ := fin (2 ^ l) none none (by rw [hs]; exact (topU_rank l).symm)
      refine ⟨_, (pss_cons (ps_set (i := 2) sc_law_chain.nd rfl (Or.inr rfl) (pe_op op_add (pv 1) pe_int))
        (pss_cons (ps_if (pt_cmpR op_eq (pv 0) pe_str (nomark _)) (pss_one (ps_set (i := 2) sc_law_chain.nd rfl (Or.inr rfl) (pe_op op_shl pe_int (pv 1)))) pss_nil) d2)), ?_⟩
      refine ⟨_, rfl, _, _, rfl, rfl, _, rfl, rfl, _, rfl, ?_⟩
      rw [decide_eq_true (by rw [hs] <;> rfl)]
      refine iteT ?_
      refine ⟨_, rfl, _, _, rfl, rfl, ⟨by omega, by omega, by decide⟩, ?_⟩
      have e : (1 : Int) * 2 ^ ((l : Nat) : Int).toNat = ((2 ^ l : Nat) : Int) := by rw [Int.one_mul, Int.toNat_natCast, Int.natCast_pow] <;> rfl
      show t2 _ [_, _, some (.int ((1 : Int) * 2 ^ ((l : Nat) : Int).toNat)), _, _] H
      rw [e]
      exact e2
    · obtain ⟨t2, d2, e2⟩ := fin (l + 1) none none (by
        cases q5 with
        | fl y => rfl
        | lv s =>
          have : s ≠ .rank := fun z => hs (by rw [z])
          show l + 1 = Lv.topU s l + 1
          rw [topU_other this])
      refine ⟨_, (pss_cons (ps_set (i := 2) sc_law_chain.nd rfl (Or.inr rfl) (pe_op op_add (pv 1) pe_int))
        (pss_cons (ps_if (pt_cmpR op_eq (pv 0) pe_str (nomark _)) (pss_one (ps_set (i := 2) sc_law_chain.nd rfl (Or.inr rfl) (pe_op op_shl pe_int (pv 1)))) pss_nil) d2)), ?_⟩
      refine ⟨_, rfl, _, _, rfl, rfl, _, rfl, rfl, _, rfl, ?_⟩
      rw [decide_eq_false (by
        cases q5 with
        | fl y => cases y <;> decide
        | lv s => cases s with
          | rank => exact absurd rfl hs
          | since => decide
          | once => decide)]
      refine iteF ?_
      exact e2
end
end K71
end
section
set_option Elab.async false
set_option linter.all false
set_option maxRecDepth 100000
set_option maxHeartbeats 4000000
/-! _law_levels -/
namespace K71
open PySem PySem.Spec SG NdefX LamX
open L2 hiding It
open PyProof.Rows hiding St
open Lv (Wd Srt IT)
/-! ### levels are finer and finer -/
theorem lastN_lastN (w : Wd) {l m : Nat} (h : l ≤ m) : lastN (lastN w m) l = lastN w l := by
  unfold lastN
  rw [List.drop_drop, List.length_drop]
  congr 1
  omega
theorem pieces_le (l : Nat) : ∀ (n : Nat) (w : Wd), w.length = n → ∀ p, p ∈ piecesOf l w ↔ p ∈ piecesOf (l + 1) w ∧ p.length ≤ l := by
  intro n
  induction n with
  | zero =>
    intro w h p
    rw [List.eq_nil_of_length_eq_zero h]
    show p ∈ [[]] ↔ p ∈ [[]] ∧ _
    rw [List.mem_singleton]
    exact ⟨fun e => ⟨e, by rw [e]; exact Nat.zero_le _⟩, fun e => e.1⟩
  | succ n ih =>
    intro w h p
    have hne : w ≠ [] := fun e => by rw [e] at h; cases h
    obtain ⟨u, c, rfl⟩ : ∃ u c, w = u ++ [c] := ⟨w.dropLast, w.getLast hne, (List.dropLast_concat_getLast hne).symm⟩
    have ihu := ih u (by simpa using h)
    rw [pieces_snoc, pieces_snoc]
    unfold piecesNext
    simp only [List.mem_append, List.mem_map, List.mem_filter, decide_eq_true_eq]
    constructor
    · rintro (⟨x, ⟨h1, h2⟩, rfl⟩ | h1)
      · exact ⟨.inl ⟨x, ⟨((ihu x).mp h1).1, by omega⟩, rfl⟩, by simp; omega⟩
      · exact ⟨.inr ((ihu p).mp h1).1, ((ihu p).mp h1).2⟩
    · rintro ⟨⟨x, ⟨h1, h2⟩, rfl⟩ | h1, h3⟩
      · have : x.length < l := by simp at h3; omega
        exact .inl ⟨x, ⟨(ihu x).mpr ⟨h1, by omega⟩, this⟩, rfl⟩
      · exact .inr ((ihu p).mpr ⟨h1, h3⟩)
theorem relQ_down (q : Sort5) (l : Nat) {u v : Wd} (h : RelQ q (l + 1) u v) : RelQ q l u v := by
  cases q with
  | lv s => exact Lv.rel_down s l h
  | fl y =>
    cases y with
    | true =>
      have h : tk (lastN u (l + 1)) = tk (lastN v (l + 1)) := h
      show tk (lastN u l) = tk (lastN v l)
      rw [← lastN_lastN u (Nat.le_succ l), tk_inj h, lastN_lastN v (Nat.le_succ l)]
    | false =>
      have h : NestedKey.tup (Cn.canon ((piecesOf (l + 1) u).map tk)) = .tup (Cn.canon ((piecesOf (l + 1) v).map tk)) := h
      rw [NestedKey.tup.injEq, Cn.canon_eq (alikeTk _)] at h
      have hm : ∀ p, p ∈ piecesOf (l + 1) u ↔ p ∈ piecesOf (l + 1) v := fun p => by
        have := h (tk p)
        rw [List.mem_map, List.mem_map] at this
        constructor
        · intro hp
          obtain ⟨x, h1, h2⟩ := this.mp ⟨p, hp, rfl⟩
          rw [← tk_inj h2]; exact h1
        · intro hp
          obtain ⟨x, h1, h2⟩ := this.mpr ⟨p, hp, rfl⟩
          rw [← tk_inj h2]; exact h1
      show NestedKey.tup (Cn.canon ((piecesOf l u).map tk)) = .tup (Cn.canon ((piecesOf l v).map tk))
      congr 1
      refine (Cn.canon_eq (alikeTk _)).mpr fun x => ?_
      rw [List.mem_map, List.mem_map]
      exact ⟨fun ⟨y, h1, h2⟩ => ⟨y, (pieces_le l _ v rfl y).mpr ⟨(hm y).mp ((pieces_le l _ u rfl y).mp h1).1, ((pieces_le l _ u rfl y).mp h1).2⟩, h2⟩, fun ⟨y, h1, h2⟩ => ⟨y, (pieces_le l _ u rfl y).mpr ⟨(hm y).mpr ((pieces_le l _ v rfl y).mp h1).1, ((pieces_le l _ v rfl y).mp h1).2⟩, h2⟩⟩
theorem relQ_le (q : Sort5) {l m : Nat} (h : l ≤ m) {u v : Wd} (r : RelQ q m u v) : RelQ q l u v := by
  induction h with
  | refl => exact r
  | step _ ih => exact ih (relQ_down q _ r)
def FitW (q : Sort5) (L : List Nat) (l : Nat) : Prop := (tabW q L l).1.length ≤ 200
theorem fitW_le {q : Sort5} {L : List Nat} {l m : Nat} (h : l ≤ m) (f : FitW q L m) : FitW q L l :=
  Nat.le_trans (Bf.coarse_bound (relQ_eqv q m) (relQ_eqv q l) (fun a r => relQ_snoc q m a r) (fun r => relQ_le q h r) f 200) f
theorem fitW_one (q : Sort5) (c : Nat) {l : Nat} (h : l ≤ 7) : FitW q [c] l := by
  unfold FitW
  rw [tabW_one q c h, List.length_map, List.length_range]
  have := topQ_le q h
  omega
section
variable {K : PySem.W.Frag} {P : Program} {w : World} {H H' : Hp} {t a0 a1 fo bk d0 d1 : Addr} {q : Sort5} {L : List Nat} {l N : Nat}
theorem TabB.same (T : TabB K P w H t a0 a1 fo bk d0 d1 q L l N) (e : Same H H') : TabB K P w H' t a0 a1 fo bk d0 d1 q L l N := by
  obtain ⟨rs, r1, r2⟩ := T.rows
  obtain ⟨R, E, U, b1, b2, b3, b4, b5⟩ := T.book
  exact ⟨e _ _ T.at_, e _ _ T.words, ⟨rs, e _ _ r1, DpAll.same e _ _ r2⟩, T.ne, R, E, U, b1.same e, b2, b3, tab_stays b4 (.of e) (e fo), b5⟩
theorem TabC.same {a2 a3 : Addr} (T : TabC K H t a0 a1 a2 a3 q L l) (e : Same H H') : TabC K H' t a0 a1 a2 a3 q L l := by
  obtain ⟨rs, r1, r2⟩ := T.rows
  exact ⟨e _ _ T.at_, e _ _ T.words, ⟨rs, e _ _ r1, DpAll.same e _ _ r2⟩, e _ _ T.nil⟩
end
section
variable {P : Program} {w : World} {K : PySem.W.Frag} {mg : Str → Option Value} {base : Heap}
def LvOut (K : PySem.W.Frag) (P : Program) (w : World) (H H' : Hp) (t : Addr) (q : Sort5) (L : List Nat) (l : Nat) : Prop := (¬ FitW q L l ∧ H t = none ∧ H' t = some (.lst [])) ∨
  (FitW q L l ∧ ∃ (a0 a1 fo bk d0 d1 : Addr), (∀ b ∈ [t, a0, a1, fo, bk, d0, d1], H b = none) ∧ TabB K P w H' t a0 a1 fo bk d0 d1 q L l 130000) ∨
  (FitW q L l ∧ ∃ (a0 a1 a2 a3 : Addr), (∀ b ∈ [t, a0, a1, a2, a3], H b = none) ∧ TabC K H' t a0 a1 a2 a3 q L l)
def spLevels (K : PySem.W.Frag) (P : Program) (w : World) : Sp := fun vs H Q _ => ∃ (q : Sort5) (L : List Nat) (l : Nat), vs = [.str (tx L), .str (nm5 q), .int (l : Nat)] ∧ Alph L ∧ l ≤ 7 ∧
  ∀ t H', Same H H' → LvOut K P w H H' t q L l → Q (.ref t) H'
theorem ok_levels {f fc ft : Addr} {fd fdc fdt : FuncData} {k : Nat} (F : Fun K "_law_levels" "_law_levels" s_law_levels f fd) (T : Blt mg) (G_chain : FnOk P w K mg base CX0 k fc fdc ["sort", "level"] (spChain K)) (c_chain : Df K mg "_law_chain" fc fdc ["sort", "level"])
    (G_table : FnOk P w K mg base CX0 k ft fdt ["letters", "sort", "level"] (spTable K P w)) (c_table : Df K mg "_law_table" ft fdt ["letters", "sort", "level"]) :
    FnOk P w K mg base CX0 (k + 1) f fd ["letters", "sort", "level"] (spLevels K P w) := by
  refine F.ok sc_law_levels (fun vs H Q E h => ?_) (fun cdv A outer st H vs Q E hr h => ?_)
  · obtain ⟨q5, L, l, rfl, _⟩ := h
    rfl
  · obtain ⟨q5, L, l, rfl, hA, hl7, hq⟩ := h
    have hbig : ¬ FitW q5 L l → ∀ r H', Same H H' → H r = none → H' r = some (.lst []) → Q (.ref r) H' := fun n r H' s f h => hq r H' s (.inl ⟨n, f, h⟩)
    have hfit : FitW q5 L l → ∀ (t a0 a1 fo bk d0 d1 : Addr) H', Same H H' → (∀ b ∈ [t, a0, a1, fo, bk, d0, d1], H b = none) → TabB K P w H' t a0 a1 fo bk d0 d1 q5 L l 130000 → Q (.ref t) H' := fun n t a0 a1 fo bk d0 d1 H' s f h => hq t H' s (.inr (.inl ⟨n, a0, a1, fo, bk, d0, d1, f, h⟩))
    have hone : FitW q5 L l → ∀ (t a0 a1 a2 a3 : Addr) H', Same H H' → (∀ b ∈ [t, a0, a1, a2, a3], H b = none) → TabC K H' t a0 a1 a2 a3 q5 L l → Q (.ref t) H' := fun n t a0 a1 a2 a3 H' s f h => hq t H' s (.inr (.inr ⟨n, a0, a1, a2, a3, f, h⟩))
    clear hq
    have e97 : ("a" : Str) = tx [97] := by decide
    have fin : ∀ (lo : Nat), lo ≤ l → ∃ t2, PSs (cxOf CX0 P w K mg base N_law_levels "_law_levels" (defScope s_law_levels) f cdv A outer st H E).nox ((defBody s_law_levels).drop 3) t2 ∧ t2 { nx := fun _ H' => Q .non H', rt := Q } [some (.str (tx L)), some (.str (nm5 q5)), some (.int (l : Nat)), some (.int (lo : Nat)), none, none] H := by
      intro lo hlo
      refine ⟨_, (pss_cons (ps_set (i := 4) sc_law_levels.nd rfl (Or.inl rfl) (pe_lst pa_nil))
      (pss_cons (ps_for PassesOwn.never rfl (pi_range2 (by rfl) T.range (pa_cons (pv 3) (pa_cons (pe_op op_add (pv 2) pe_int) pa_nil))) (pg_name (i := 5) sc_law_levels.nd rfl (Or.inl rfl))
        (pss_cons (ps_set (i := 4) sc_law_levels.nd rfl (Or.inl rfl) (pe_call G_table hr (by rfl) c_table.m c_table.k c_table.b .nil pass0 (pa_cons (pv 0) (pa_cons (pv 1) (pa_cons (pv 5) pa_nil)))))
      (pss_one (ps_if (pt_cmpR (op_eqNil (Nat.lt_of_le_of_lt (Nat.le_add_right _ 64) hr.units)) (pv 4) (pe_lst pa_nil) (nomark _)) (pss_one ps_break) pss_nil))))
      (pss_one (ps_ret (pv 4))))), ?_⟩
      refine ⟨sizeLine_le (by show 0 ≤ _; decide), fun r0 nr0 => ?_⟩
      have s0 := same_new (o := .lst []) nr0
      have hr0 : upd H r0 (.lst []) r0 = some (.lst []) := upd_same
      generalize upd H r0 (.lst []) = H1 at s0 hr0 ⊢
      have hn : ((l : Int) + 1 - (lo : Int)).toNat = l + 1 - lo := by omega
      by_cases hF : FitW q5 L l
      · refine ⟨_, rfl, _, rfl, _, _, rfl, rfl, (lo : Int), (l : Int) + 1, rfl, ⟨by omega, by omega, by omega, by omega⟩, for_range (lo := (lo : Int)) (n := ((l : Int) + 1 - (lo : Int)).toNat) (fun i σ H' => Same H H' ∧ ∃ (t : Addr) (v5 : Option V), (i = 0 ∨ ∃ a0 a1 fo bk d0 d1, (∀ b ∈ [t, a0, a1, fo, bk, d0, d1], H b = none) ∧ TabB K P w H' t a0 a1 fo bk d0 d1 q5 L (lo + i - 1) 130000) ∧
          σ = [some (.str (tx L)), some (.str (nm5 q5)), some (.int (l : Nat)), some (.int (lo : Nat)), some (.ref t), v5]) ⟨s0, r0, none, .inl rfl, rfl⟩ (fun i σ H' hi hP => ?_) (fun σ H' hP => ?_)⟩
        · obtain ⟨sm, t, v5, _, rfl⟩ := hP
          have ek : (lo : Int) + (i : Nat) = ((lo + i : Nat) : Int) := by omega
          rw [ek]
          have hf : FitW q5 L (lo + i) := fitW_le (by omega) hF
          refine ⟨_, rfl, _, rfl, _, rfl, q5, L, lo + i, rfl, hA, by omega, fun z => absurd z (Nat.not_lt.mpr hf), fun _ t' a0 a1 fo bk d0 d1 H2 s2 fr tb => ?_⟩
          refine ⟨_, rfl, sizeLine_le (by show 0 ≤ _; decide), fun D nD => ?_⟩
          have sD := same_new (o := .lst []) nD
          have tb2 := tb.same sD
          refine ⟨t', D, _, rfl, rfl, SqL.of tb2.at_, SqL.of upd_same, _, rfl, ?_⟩
          refine iteF ?_
          refine ⟨(sm.trans s2).trans sD, t', _, .inr ⟨a0, a1, fo, bk, d0, d1, fun b hb => sm.free (fr b hb), ?_⟩, rfl⟩
          rw [show lo + (i + 1) - 1 = lo + i by omega]
          exact tb2
        · obtain ⟨sm, t, v5, ht, rfl⟩ := hP
          rw [hn] at ht
          rcases ht with h0 | ⟨a0, a1, fo, bk, d0, d1, fr, tb⟩
          · omega
          · rw [show lo + (l + 1 - lo) - 1 = l by omega] at tb
            exact ⟨_, rfl, hfit hF t a0 a1 fo bk d0 d1 H' sm fr tb⟩
      · refine ⟨_, rfl, _, rfl, _, _, rfl, rfl, (lo : Int), (l : Int) + 1, rfl, ⟨by omega, by omega, by omega, by omega⟩, for_range (lo := (lo : Int)) (n := ((l : Int) + 1 - (lo : Int)).toNat) (fun i σ H' => Same H H' ∧ ∃ (t : Addr) (v5 : Option V), (i = 0 ∨ FitW q5 L (lo + i - 1)) ∧
          σ = [some (.str (tx L)), some (.str (nm5 q5)), some (.int (l : Nat)), some (.int (lo : Nat)), some (.ref t), v5]) ⟨s0, r0, none, .inl rfl, rfl⟩ (fun i σ H' hi hP => ?_) (fun σ H' hP => ?_)⟩
        · obtain ⟨sm, t, v5, _, rfl⟩ := hP
          have ek : (lo : Int) + (i : Nat) = ((lo + i : Nat) : Int) := by omega
          rw [ek]
          refine ⟨_, rfl, _, rfl, _, rfl, q5, L, lo + i, rfl, hA, by omega, fun z r H2 s2 nr hr2 => ?_, fun z t' a0 a1 fo bk d0 d1 H2 s2 fr tb => ?_⟩
          · refine ⟨_, rfl, sizeLine_le (by show 0 ≤ _; decide), fun D nD => ?_⟩
            have sD := same_new (o := .lst []) nD
            refine ⟨r, D, _, rfl, rfl, SqL.of (sD _ _ hr2), SqL.of upd_same, _, rfl, ?_⟩
            refine iteT ?_
            exact ⟨_, rfl, hbig hF r _ ((sm.trans s2).trans sD) (sm.free nr) (sD _ _ hr2)⟩
          · refine ⟨_, rfl, sizeLine_le (by show 0 ≤ _; decide), fun D nD => ?_⟩
            have sD := same_new (o := .lst []) nD
            have tb2 := tb.same sD
            refine ⟨t', D, _, rfl, rfl, SqL.of tb2.at_, SqL.of upd_same, _, rfl, ?_⟩
            refine iteF ?_
            refine ⟨(sm.trans s2).trans sD, t', _, .inr ?_, rfl⟩
            rw [show lo + (i + 1) - 1 = lo + i by omega]
            exact z
        · obtain ⟨sm, t, v5, ht, rfl⟩ := hP
          rw [hn] at ht
          rcases ht with h0 | h0
          · omega
          · rw [show lo + (l + 1 - lo) - 1 = l by omega] at h0
            exact absurd h0 hF
    have ea : decide (V.str (tx L) = V.str "a") = decide (L = [97]) := by
      rw [eqS, e97]
      exact decide_eq_decide.mpr ⟨fun h => tx_inj h, fun h => by rw [h]⟩
    have emin : (if (2 : Int) < ((l : Nat) : Int) then (2 : Int) else ((l : Nat) : Int)) = ((min l 2 : Nat) : Int) := by split <;> omega
    by_cases h1 : L = [97]
    · by_cases h5 : 5 < l
      · obtain ⟨t2, d2, e2⟩ := fin l (Nat.le_refl _)
        refine ⟨_, (pss_cons (ps_if (PW.pt (pw_and (pt_cmpR op_eq (pv 0) pe_str (nomark _)) (pw_and1 (pt_cmpR op_gt (pv 2) pe_int (nomark _))))) (pss_one (ps_ret (pe_call G_chain hr (by rfl) c_chain.m c_chain.k c_chain.b .nil pass0 (pa_cons (pv 1) (pa_cons (pv 2) pa_nil))))) pss_nil)
        (pss_cons (ps_set (i := 3) sc_law_levels.nd rfl (Or.inl rfl) (pe_callB (call_min2 rfl) (by rfl) T.min (by decide +kernel) (pa_cons (pv 2) (pa_cons pe_int pa_nil))))
        (pss_cons (ps_if (pt_cmpR op_eq (pv 0) pe_str (nomark _)) (pss_one (ps_set (i := 3) sc_law_levels.nd rfl (Or.inl rfl) (pv 2))) pss_nil) d2))), ?_⟩
        refine ⟨_, rfl, rfl, _, rfl, ?_⟩
        rw [ea, decide_eq_true h1]
        refine iteT ?_
        refine ⟨_, rfl, _, _, rfl, rfl, _, rfl, ?_⟩
        rw [decide_eq_true (show ((l : Nat) : Int) > 5 by omega)]
        refine iteT ?_
        subst h1
        exact ⟨_, rfl, _, rfl, q5, l, rfl, hl7, fun t a0 a1 a2 a3 H' s1 fr tc => hone (fitW_one q5 97 hl7) t a0 a1 a2 a3 H' s1 fr tc⟩
      · obtain ⟨t2, d2, e2⟩ := fin l (Nat.le_refl _)
        refine ⟨_, (pss_cons (ps_if (PW.pt (pw_and (pt_cmpR op_eq (pv 0) pe_str (nomark _)) (pw_and1 (pt_cmpR op_gt (pv 2) pe_int (nomark _))))) (pss_one (ps_ret (pe_call G_chain hr (by rfl) c_chain.m c_chain.k c_chain.b .nil pass0 (pa_cons (pv 1) (pa_cons (pv 2) pa_nil))))) pss_nil)
        (pss_cons (ps_set (i := 3) sc_law_levels.nd rfl (Or.inl rfl) (pe_callB (call_min2 rfl) (by rfl) T.min (by decide +kernel) (pa_cons (pv 2) (pa_cons pe_int pa_nil))))
        (pss_cons (ps_if (pt_cmpR op_eq (pv 0) pe_str (nomark _)) (pss_one (ps_set (i := 3) sc_law_levels.nd rfl (Or.inl rfl) (pv 2))) pss_nil) d2))), ?_⟩
        refine ⟨_, rfl, rfl, _, rfl, ?_⟩
        rw [ea, decide_eq_true h1]
        refine iteT ?_
        refine ⟨_, rfl, _, _, rfl, rfl, _, rfl, ?_⟩
        rw [decide_eq_false (show ¬ ((l : Nat) : Int) > 5 by omega)]
        refine iteF ?_
        refine ⟨_, rfl, _, _, rfl, ?_⟩
        refine ⟨_, rfl, rfl, _, rfl, ?_⟩
        rw [ea, decide_eq_true h1]
        refine iteT ?_
        exact ⟨_, rfl, e2⟩
    · obtain ⟨t2, d2, e2⟩ := fin (min l 2) (by omega)
      refine ⟨_, (pss_cons (ps_if (PW.pt (pw_and (pt_cmpR op_eq (pv 0) pe_str (nomark _)) (pw_and1 (pt_cmpR op_gt (pv 2) pe_int (nomark _))))) (pss_one (ps_ret (pe_call G_chain hr (by rfl) c_chain.m c_chain.k c_chain.b .nil pass0 (pa_cons (pv 1) (pa_cons (pv 2) pa_nil))))) pss_nil)
        (pss_cons (ps_set (i := 3) sc_law_levels.nd rfl (Or.inl rfl) (pe_callB (call_min2 rfl) (by rfl) T.min (by decide +kernel) (pa_cons (pv 2) (pa_cons pe_int pa_nil))))
        (pss_cons (ps_if (pt_cmpR op_eq (pv 0) pe_str (nomark _)) (pss_one (ps_set (i := 3) sc_law_levels.nd rfl (Or.inl rfl) (pv 2))) pss_nil) d2))), ?_⟩
      refine ⟨_, rfl, rfl, _, rfl, ?_⟩
      rw [ea, decide_eq_false h1]
      refine iteF ?_
      refine iteF ?_
      refine ⟨_, rfl, _, _, rfl, ?_⟩
      refine ⟨_, rfl, rfl, _, rfl, ?_⟩
      rw [ea, decide_eq_false h1]
      refine iteF ?_
      rw [emin]
      exact e2
end
end K71
end
section
set_option Elab.async false
set_option linter.all false
set_option maxRecDepth 100000
set_option maxHeartbeats 4000000
/-! The program's kinds are the law's. -/
namespace K71
open PySem PySem.Spec SG NdefX LamX
open L2 hiding It
open PyProof.Rows hiding St
open Lv (Wd Srt IT NumOn Parts)
open Bf (OverL)
theorem over_parts (s : Srt) {L : List Nat} {u : Wd} (h : OverL L u) : Parts s (OverL L) u := fun x hx => by
  obtain ⟨i, hi, rfl⟩ := Lv.mem_splits.mp hx
  exact ⟨fun c hc => h c (List.mem_of_mem_take hc), fun _ c hc => h c (List.mem_of_mem_drop hc)⟩
theorem zero_walk (L : List Nat) (m : Nat) : ∀ w : Wd, walkN L [List.replicate m 0] 0 w = 0
  | [] => rfl
  | c :: w => by
    unfold walkN
    rw [List.foldl_cons]
    have : stepN [List.replicate m 0] 0 (L.idxOf c) = 0 := by
      unfold stepN
      show (List.replicate m 0).getD (L.idxOf c) 0 = 0
      rw [List.getD_eq_getElem?_getD, List.getElem?_replicate]
      split <;> rfl
    rw [this]
    exact zero_walk L m w
theorem kdL_rel {s : Srt} {L : List Nat} {n : Nat} {rows : List (List Nat)} (h : NumOn (OverL L) (Lv.Rel s n) (numW L rows)) {u v : Wd} (hu : OverL L u) (hv : OverL L v) : kdL s L rows u = kdL s L rows v ↔ Lv.Rel s (n + 1) u v := by
  unfold kdL
  simp only [NestedKey.tup.injEq, List.cons.injEq, NestedKey.num.injEq, and_true, Int.natCast_inj]
  rw [h u v hu hv, itemsK_eq, ← Lv.rel_part h (over_parts s hu) (over_parts s hv)]
  exact ⟨fun h => h.2, fun h => ⟨Lv.rel_down s n h, h⟩⟩
theorem st_kdL {s : Srt} {L : List Nat} {n : Nat} (h : NumOn (OverL L) (Lv.Rel s n) (numW L (rowsL s L n))) : stL s L n = tabW (.lv s) L (n + 1) :=
  Bf.st_congr (rk_eqv _) (fun u v hu hv => kdL_rel h hu hv) 200
theorem apart_same {R : Wd → Wd → Prop} (E : Lv.Eqv R) {ws : List Wd} (A : Bf.Apart R ws) {i j : Nat} {x y : Wd} (hx : ws[i]? = some x) (hy : ws[j]? = some y) (r : R x y) : i = j := by
  rcases Nat.lt_trichotomy i j with z | z | z
  · exact absurd r (A i j x y hx hy z)
  · exact z
  · exact absurd (E.symm r) (A j i y x hy hx z)
theorem whole_on {q : Sort5} {L : List Nat} {l : Nat} (h : FitW q L l) : NumOn (OverL L) (RelQ q l) (numW L (tabW q L l).2) := fun x y hx hy => by
  have E := relQ_eqv q l
  have W := Bf.whole_of E (L := L) (k := 200) h
  obtain ⟨a, h1, h2⟩ := W.walk E (fun a r => relQ_snoc q l a r) x hx
  obtain ⟨b, h3, h4⟩ := W.walk E (fun a r => relQ_snoc q l a r) y hy
  constructor
  · intro e
    have e' : (x.foldl (fun s c => ((Bf.st (RelQ q l) L 200).2.getD s []).getD (L.idxOf c) 0) 0) = (y.foldl (fun s c => ((Bf.st (RelQ q l) L 200).2.getD s []).getD (L.idxOf c) 0) 0) := e
    rw [e', h3] at h1
    cases h1
    exact E.trans (E.symm h2) h4
  · intro r
    exact apart_same E W.apart h1 h3 (E.trans h2 (E.trans r (E.symm h4)))
theorem rows_on {s : Srt} {L : List Nat} : ∀ n, (∀ i, i < n → (stL s L i).1.length ≤ 200) → NumOn (OverL L) (Lv.Rel s n) (numW L (rowsL s L n))
  | 0, _ => fun x y _ _ => ⟨fun _ => trivial, fun _ => by
    show walkN L [List.replicate L.length 0] 0 x = walkN L [List.replicate L.length 0] 0 y
    rw [zero_walk, zero_walk]⟩
  | n + 1, h => by
    have ih := rows_on n fun i hi => h i (Nat.lt_succ_of_lt hi)
    have e := st_kdL ih
    have f : FitW (.lv s) L (n + 1) := by
      unfold FitW
      rw [← e]
      exact h n (Nat.lt_succ_self n)
    have := whole_on f
    rw [← e] at this
    exact this
theorem st_zero {s : Srt} (L : List Nat) : tabW (.lv s) L 0 = ([[]], [List.replicate L.length 0]) := by
  have E := relQ_eqv (.lv s) 0
  have row : ∀ A : List Nat, Bf.rowOf (RelQ (.lv s) 0) [] A [[]] = ([[]], List.replicate A.length 0) := by
    have go : ∀ (A : List Nat) (k : Nat), A.foldl (Bf.one (RelQ (.lv s) 0) []) ([[]], List.replicate k 0) = ([[]], List.replicate (k + A.length) 0) := by
      intro A
      induction A with
      | nil => intro k; rfl
      | cons a A ih =>
        intro k
        rw [List.foldl_cons]
        have e : Bf.one (RelQ (.lv s) 0) [] ([[]], List.replicate k 0) a = ([[]], List.replicate (k + 1) 0) := by
          unfold Bf.one
          have : Bf.place (RelQ (.lv s) 0) [[]] ([] ++ [a]) = some 0 := Bf.place_of E (fun i j u v hi hj hij => by
            have h1 := (List.getElem?_eq_some_iff.mp hi).1
            have h2 := (List.getElem?_eq_some_iff.mp hj).1
            simp at h1 h2
            omega) (x := []) rfl trivial
          rw [this, List.replicate_succ' (n := k)]
        rw [e, ih (k + 1), List.length_cons, show k + 1 + A.length = k + (A.length + 1) by omega]
    intro A
    have := go A 0
    rw [Nat.zero_add] at this
    exact this
  have e1 : Bf.st (RelQ (.lv s) 0) L 1 = ([[]], [List.replicate L.length 0]) := by
    show ((Bf.rowOf (RelQ (.lv s) 0) [] L [[]]).1, [] ++ [(Bf.rowOf (RelQ (.lv s) 0) [] L [[]]).2]) = _
    rw [row L] <;> rfl
  have hd : (Bf.st (RelQ (.lv s) 0) L 1).1.length ≤ 1 := by rw [e1]; exact Nat.le_refl _
  have := Bf.st_done E L hd 199
  show Bf.st (RelQ (.lv s) 0) L (1 + 199) = _
  rw [this, e1]
theorem fits_lv {s : Srt} {L : List Nat} {n : Nat} (f : FitW (.lv s) L (n + 1)) : ∀ i, i < n + 1 → (stL s L i).1.length ≤ 200 := by
  intro i
  induction i using Nat.strongRecOn with
  | _ i ih =>
    intro hi
    have on := rows_on i fun j hj => ih j hj (by omega)
    rw [st_kdL on]
    exact fitW_le (by omega) f
theorem fits_iff (q : Sort5) (L : List Nat) (l : Nat) : Fits5 q L l ↔ FitW q L l := by
  cases q with
  | fl y => exact Iff.rfl
  | lv s =>
    cases l with
    | zero =>
      refine ⟨fun _ => ?_, fun _ i hi => absurd hi (Nat.not_lt_zero _)⟩
      unfold FitW
      rw [st_zero]
      show 1 ≤ 200
      decide
    | succ n =>
      refine ⟨fun h => ?_, fun h => fits_lv h⟩
      unfold FitW
      rw [← st_kdL (rows_on n fun i hi => h i (Nat.lt_succ_of_lt hi))]
      exact h n (Nat.lt_succ_self n)
theorem tab_eq {q : Sort5} {L : List Nat} {l : Nat} (f : FitW q L l) : tab5 q L l = tabW q L l := by
  cases q with
  | fl y => rfl
  | lv s =>
    cases l with
    | zero => rw [st_zero] <;> rfl
    | succ n => exact st_kdL (rows_on n fun i hi => fits_lv f i (Nat.lt_succ_of_lt hi))
end K71
end
section
set_option Elab.async false
set_option linter.all false
set_option maxRecDepth 100000
set_option maxHeartbeats 4000000
/-! Small sights fit: closed lists of words, checked. -/
namespace K71
open PySem PySem.Spec SG NdefX LamX
open L2 hiding It
open PyProof.Rows hiding St
open Lv (Wd Srt IT NumOn Parts)
open Bf (OverL)
def keyB (s : Srt) (l m : List IT) : Bool := if s = .since then decide (Cn.dd l = Cn.dd m) else (l.all fun x => decide (x ∈ m)) && (m.all fun x => decide (x ∈ l))
theorem keyB_iff {s : Srt} {l m : List IT} : keyB s l m = true ↔ Lv.KeyEq s l m := by
  unfold keyB
  by_cases h : s = .since
  · rw [if_pos h, Lv.keyEq_since h]
    exact decide_eq_true_iff
  · rw [if_neg h, Lv.keyEq_set h, Bool.and_eq_true, List.all_eq_true, List.all_eq_true]
    exact ⟨fun ⟨h1, h2⟩ x => ⟨fun hx => of_decide_eq_true (h1 x hx), fun hx => of_decide_eq_true (h2 x hx)⟩, fun h => ⟨fun x hx => decide_eq_true ((h x).mp hx), fun x hx => decide_eq_true ((h x).mpr hx)⟩⟩
/-- a list of words that is closed: rows tells where each word with each letter goes -/
def closedB (same : Wd → Wd → Bool) (L : List Nat) (ws : List Wd) (rows : List (List Nat)) : Bool :=
  decide ([] ∈ ws) && (ws.all fun w => w.all fun c => decide (c ∈ L)) && (List.range ws.length).all fun i => (List.range L.length).all fun j =>
    decide ((rows.getD i []).getD j 0 < ws.length) && same (ws.getD ((rows.getD i []).getD j 0) []) (ws.getD i [] ++ [L.getD j 0])
theorem closedB_of {same : Wd → Wd → Bool} {R : Wd → Wd → Prop} {L : List Nat} {ws : List Wd} {rows : List (List Nat)} (h : closedB same L ws rows = true) (hR : ∀ u v, OverL L u → OverL L v → same u v = true → R u v) :
    [] ∈ ws ∧ (∀ w ∈ ws, OverL L w) ∧ ∀ w ∈ ws, ∀ a ∈ L, ∃ x ∈ ws, R x (w ++ [a]) := by
  unfold closedB at h
  simp only [Bool.and_eq_true, List.all_eq_true, decide_eq_true_eq, List.mem_range] at h
  obtain ⟨⟨h0, h1⟩, h2⟩ := h
  refine ⟨h0, h1, fun w hw a ha => ?_⟩
  obtain ⟨i, hi, rfl⟩ := List.getElem_of_mem hw
  obtain ⟨j, hj, rfl⟩ := List.getElem_of_mem ha
  obtain ⟨g1, g2⟩ := h2 i hi j hj
  have e1 : ws.getD i [] = ws[i] := by rw [List.getD_eq_getElem?_getD, List.getElem?_eq_getElem hi] <;> rfl
  have e2 : L.getD j 0 = L[j] := by rw [List.getD_eq_getElem?_getD, List.getElem?_eq_getElem hj] <;> rfl
  have e3 : ws.getD ((rows.getD i []).getD j 0) [] = ws[(rows.getD i []).getD j 0] := by rw [List.getD_eq_getElem?_getD, List.getElem?_eq_getElem g1] <;> rfl
  rw [e1, e2, e3] at g2
  exact ⟨_, List.getElem_mem g1, hR _ _ (h1 _ (List.getElem_mem g1)) (Bf.over_snoc (h1 _ (List.getElem_mem hi)) (List.getElem_mem hj)) g2⟩
theorem closed_fit {q : Sort5} {same : Wd → Wd → Bool} {L : List Nat} {l : Nat} {ws : List Wd} {rows : List (List Nat)} (h : closedB same L ws rows = true) (hR : ∀ u v, OverL L u → OverL L v → same u v = true → RelQ q l u v) (few : ws.length ≤ 200) : FitW q L l := by
  obtain ⟨h0, h1, h2⟩ := closedB_of h hR
  exact Nat.le_trans (Bf.closed_bound (relQ_eqv q l) (fun a r => relQ_snoc q l a r) ⟨[], h0, (relQ_eqv q l).refl _⟩ h2 200) few
def sameL (s : Srt) (ν : Wd → Nat) (u v : Wd) : Bool := keyB s (Lv.itemsOf s ν u) (Lv.itemsOf s ν v)
theorem sameL_iff {s : Srt} {L : List Nat} {n : Nat} {ν : Wd → Nat} (on : NumOn (OverL L) (Lv.Rel s n) ν) {u v : Wd} (hu : OverL L u) (hv : OverL L v) : sameL s ν u v = true ↔ Lv.Rel s (n + 1) u v := by
  unfold sameL
  rw [keyB_iff, Lv.rel_part on (over_parts s hu) (over_parts s hv)]
def ν0 : Wd → Nat := fun _ => 0
theorem on0 (s : Srt) (L : List Nat) : NumOn (OverL L) (Lv.Rel s 0) ν0 := fun _ _ _ _ => ⟨fun _ => trivial, fun _ => rfl⟩
def numF (s : Srt) (ν : Wd → Nat) (ws : List Wd) (w : Wd) : Nat := ws.findIdx fun x => sameL s ν x w
theorem on_next {s : Srt} {L : List Nat} {n : Nat} {ν : Wd → Nat} (on : NumOn (OverL L) (Lv.Rel s n) ν) {ws : List Wd} {rows : List (List Nat)} (h : closedB (sameL s ν) L ws rows = true) : NumOn (OverL L) (Lv.Rel s (n + 1)) (numF s ν ws) := fun x y hx hy => by
  obtain ⟨h0, h1, h2⟩ := closedB_of h (R := Lv.Rel s (n + 1)) fun u v hu hv e => (sameL_iff on hu hv).mp e
  have E := Lv.rel_eqv s (n + 1)
  have cov : ∀ u, OverL L u → ∃ x ∈ ws, Lv.Rel s (n + 1) x u := fun u hu => Bf.closed_covers E (fun a r => Lv.rel_snoc s a (n + 1) r) ⟨[], h0, E.refl _⟩ h2 u hu
  have at_ : ∀ u, OverL L u → ∃ z, ws[numF s ν ws u]? = some z ∧ Lv.Rel s (n + 1) z u := fun u hu => by
    obtain ⟨z, hz, rz⟩ := cov u hu
    have hl : numF s ν ws u < ws.length := List.findIdx_lt_length_of_exists ⟨z, hz, (sameL_iff on (h1 z hz) hu).mpr rz⟩
    have e := List.findIdx_getElem (w := hl)
    exact ⟨_, List.getElem?_eq_getElem hl, (sameL_iff on (h1 _ (List.getElem_mem hl)) hu).mp e⟩
  constructor
  · intro e
    obtain ⟨a, a1, a2⟩ := at_ x hx
    obtain ⟨b, b1, b2⟩ := at_ y hy
    rw [e, b1] at a1
    cases a1
    exact E.trans (E.symm a2) b2
  · intro r
    unfold numF
    have go : ∀ T : List Wd, (∀ z ∈ T, z ∈ ws) → T.findIdx (fun z => sameL s ν z x) = T.findIdx (fun z => sameL s ν z y) := by
      intro T
      induction T with
      | nil => intro _; rfl
      | cons z T ih =>
        intro hT
        have hz := h1 z (hT z List.mem_cons_self)
        have e : sameL s ν z x = sameL s ν z y := Bool.eq_iff_iff.mpr (by
          rw [sameL_iff on hz hx, sameL_iff on hz hy]
          exact ⟨fun h => E.trans h r, fun h => E.trans h (E.symm r)⟩)
        rw [List.findIdx_cons, List.findIdx_cons, e, ih fun y hy => hT y (List.mem_cons_of_mem _ hy)]
    exact go ws fun _ h => h
theorem fit_next {s : Srt} {L : List Nat} {n : Nat} {ν : Wd → Nat} (on : NumOn (OverL L) (Lv.Rel s n) ν) {ws : List Wd} {rows : List (List Nat)} (h : closedB (sameL s ν) L ws rows = true) (few : ws.length ≤ 200) : FitW (.lv s) L (n + 1) :=
  closed_fit h (fun u v hu hv e => (sameL_iff on hu hv).mp e) few
def sameP (l : Nat) (u v : Wd) : Bool := ((piecesOf l u).all fun x => decide (x ∈ piecesOf l v)) && ((piecesOf l v).all fun x => decide (x ∈ piecesOf l u))
theorem sameP_rel {l : Nat} {u v : Wd} (h : sameP l u v = true) : RelQ (.fl false) l u v := by
  unfold sameP at h
  rw [Bool.and_eq_true, List.all_eq_true, List.all_eq_true] at h
  show NestedKey.tup (Cn.canon ((piecesOf l u).map tk)) = .tup (Cn.canon ((piecesOf l v).map tk))
  congr 1
  refine (Cn.canon_eq (alikeTk _)).mpr fun x => ?_
  rw [List.mem_map, List.mem_map]
  exact ⟨fun ⟨y, h1, h2⟩ => ⟨y, of_decide_eq_true (h.1 y h1), h2⟩, fun ⟨y, h1, h2⟩ => ⟨y, of_decide_eq_true (h.2 y h1), h2⟩⟩
theorem lastN_len (w : Wd) (l : Nat) : (lastN w l).length ≤ l := by
  unfold lastN
  rw [List.length_drop]
  omega
theorem allW_over {L : List Nat} : ∀ (n : Nat) (p : Wd), p ∈ allW L n → OverL L p
  | 0, p, h => by
    rw [List.mem_singleton.mp h]
    exact fun c hc => nomatch hc
  | n + 1, p, h => by
    rcases List.mem_cons.mp h with z | z
    · rw [z]; exact fun c hc => nomatch hc
    · obtain ⟨x, h1, h2⟩ := List.mem_flatMap.mp z
      obtain ⟨a, h3, rfl⟩ := List.mem_map.mp h2
      intro c hc
      rcases List.mem_cons.mp hc with y | y
      · rw [y]; exact h3
      · exact allW_over n x h1 c y
theorem fit_last {L : List Nat} {l : Nat} (few : (allW L l).length ≤ 200) : FitW (.fl true) L l := by
  refine Nat.le_trans (Bf.closed_bound (relQ_eqv _ l) (fun a r => relQ_snoc (.fl true) l a r) ⟨[], allW_mem L l [] (Nat.zero_le _) (fun c hc => nomatch hc), (relQ_eqv _ l).refl _⟩ (fun w hw a ha => ?_) 200) few
  have ov := Bf.over_snoc (allW_over l w hw) ha
  refine ⟨lastN (w ++ [a]) l, allW_mem L l _ (lastN_len _ _) (fun c hc => ov c (List.mem_of_mem_drop hc)), ?_⟩
  show tk (lastN (lastN (w ++ [a]) l) l) = tk (lastN (w ++ [a]) l)
  rw [lastN_lastN _ (Nat.le_refl _)]
def w1_rank_ab : List Wd := [[], [97], [98], [97, 98]]
def r1_rank_ab : List (List Nat) := [[1, 2], [1, 3], [3, 2], [3, 3]]
def w2_rank : List Wd := [[], [97], [98], [97, 97], [97, 98], [98, 97], [98, 98], [97, 97, 97], [97, 97, 98], [97, 98, 97], [97, 98, 98], [98, 97, 97], [98, 97, 98], [98, 98, 97], [98, 98, 98], [97, 97, 97, 98], [97, 97, 98, 97], [97, 97, 98, 98], [97, 98, 97, 97], [97, 98, 97, 98], [97, 98, 98, 97], [97, 98, 98, 98], [98, 97, 97, 97], [98, 97, 97, 98], [98, 97, 98, 97], [98, 97, 98, 98], [98, 98, 97, 97], [98, 98, 97, 98], [98, 98, 98, 97], [97, 97, 97, 98, 98], [97, 97, 98, 97, 97], [97, 97, 98, 97, 98], [97, 97, 98, 98, 97], [97, 97, 98, 98, 98], [97, 98, 97, 97, 98], [97, 98, 97, 98, 97], [97, 98, 97, 98, 98], [97, 98, 98, 97, 97], [97, 98, 98, 97, 98], [97, 98, 98, 98, 97], [98, 97, 97, 97, 98], [98, 97, 97, 98, 97], [98, 97, 97, 98, 98], [98, 97, 98, 97, 97], [98, 97, 98, 97, 98], [98, 97, 98, 98, 97], [98, 98, 97, 97, 97], [98, 98, 97, 97, 98], [98, 98, 97, 98, 97], [98, 98, 97, 98, 98], [98, 98, 98, 97, 97], [97, 97, 97, 98, 98, 98], [97, 97, 98, 97, 97, 98], [97, 97, 98, 97, 98, 97], [97, 97, 98, 97, 98, 98], [97, 97, 98, 98, 97, 97], [97, 97, 98, 98, 97, 98], [97, 97, 98, 98, 98, 97], [97, 98, 97, 97, 98, 98], [97, 98, 97, 98, 97, 97], [97, 98, 97, 98, 97, 98], [97, 98, 97, 98, 98, 97], [97, 98, 98, 97, 98, 98], [97, 98, 98, 98, 97, 97], [98, 97, 97, 97, 98, 98], [98, 97, 97, 98, 97, 97], [98, 97, 97, 98, 97, 98], [98, 97, 97, 98, 98, 97], [98, 97, 98, 97, 98, 98], [98, 97, 98, 98, 97, 97], [98, 98, 97, 97, 97, 98], [98, 98, 97, 97, 98, 97], [98, 98, 97, 97, 98, 98], [98, 98, 97, 98, 97, 97], [98, 98, 97, 98, 97, 98], [98, 98, 97, 98, 98, 97], [98, 98, 98, 97, 97, 97], [97, 97, 98, 97, 97, 98, 98], [97, 97, 98, 97, 98, 97, 97], [97, 97, 98, 97, 98, 97, 98], [97, 97, 98, 97, 98, 98, 97], [97, 97, 98, 98, 97, 98, 98], [97, 97, 98, 98, 98, 97, 97], [97, 98, 97, 98, 97, 98, 98], [97, 98, 97, 98, 98, 97, 97], [98, 97, 97, 98, 97, 98, 98], [98, 97, 97, 98, 98, 97, 97], [98, 98, 97, 97, 97, 98, 98], [98, 98, 97, 97, 98, 97, 97], [98, 98, 97, 97, 98, 97, 98], [98, 98, 97, 97, 98, 98, 97], [98, 98, 97, 98, 97, 98, 98], [98, 98, 97, 98, 98, 97, 97], [97, 97, 98, 97, 98, 97, 98, 98], [97, 97, 98, 97, 98, 98, 97, 97], [98, 98, 97, 97, 98, 97, 98, 98], [98, 98, 97, 97, 98, 98, 97, 97]]
def r2_rank : List (List Nat) := [[1, 2], [3, 4], [5, 6], [7, 8], [9, 10], [11, 12], [13, 14], [7, 15], [16, 17], [18, 19], [20, 21], [22, 23], [24, 25], [26, 27], [28, 14], [16, 29], [30, 31], [32, 33], [18, 34], [35, 36], [37, 38], [39, 21], [22, 40], [41, 42], [43, 44], [45, 25], [46, 47], [48, 49], [50, 27], [32, 51], [30, 52], [53, 54], [55, 56], [57, 33], [35, 58], [59, 60], [61, 36], [37, 60], [61, 62], [63, 38], [41, 64], [65, 66], [67, 42], [43, 66], [67, 68], [69, 44], [46, 70], [71, 72], [73, 74], [75, 49], [76, 47], [57, 51], [53, 77], [78, 79], [80, 54], [55, 79], [80, 81], [82, 56], [61, 58], [59, 60], [61, 83], [84, 60], [61, 62], [63, 60], [67, 64], [65, 66], [67, 85], [86, 66], [67, 68], [69, 66], [71, 87], [88, 89], [90, 72], [73, 89], [90, 91], [92, 74], [76, 70], [80, 77], [78, 79], [80, 93], [94, 79], [80, 81], [82, 79], [61, 83], [84, 60], [67, 85], [86, 66], [90, 87], [88, 89], [90, 95], [96, 89], [90, 91], [92, 89], [80, 93], [94, 79], [90, 95], [96, 89]]
def w1_rank_abc : List Wd := [[], [97], [98], [99], [97, 98], [97, 99], [98, 99], [97, 98, 99]]
def r1_rank_abc : List (List Nat) := [[1, 2, 3], [1, 4, 5], [4, 2, 6], [5, 6, 3], [4, 4, 7], [5, 7, 5], [7, 6, 6], [7, 7, 7]]
def w1_since_ab : List Wd := [[], [97], [98], [97, 98], [98, 97]]
def r1_since_ab : List (List Nat) := [[1, 2], [1, 3], [4, 2], [4, 3], [4, 3]]
def w2_since : List Wd := [[], [97], [98], [97, 97], [97, 98], [98, 97], [98, 98], [97, 97, 98], [97, 98, 97], [97, 98, 98], [98, 97, 97], [98, 97, 98], [98, 98, 97], [97, 97, 98, 97], [97, 97, 98, 98], [97, 98, 97, 97], [97, 98, 97, 98], [97, 98, 98, 97], [98, 97, 97, 98], [98, 97, 98, 97], [98, 97, 98, 98], [98, 98, 97, 97], [98, 98, 97, 98], [97, 97, 98, 97, 97], [97, 97, 98, 97, 98], [97, 97, 98, 98, 97], [97, 98, 97, 97, 98], [97, 98, 97, 98, 97], [97, 98, 97, 98, 98], [97, 98, 98, 97, 97], [97, 98, 98, 97, 98], [98, 97, 97, 98, 97], [98, 97, 97, 98, 98], [98, 97, 98, 97, 97], [98, 97, 98, 97, 98], [98, 97, 98, 98, 97], [98, 98, 97, 97, 98], [98, 98, 97, 98, 97], [98, 98, 97, 98, 98], [97, 97, 98, 97, 97, 98], [97, 97, 98, 97, 98, 97], [97, 97, 98, 97, 98, 98], [97, 97, 98, 98, 97, 97], [97, 97, 98, 98, 97, 98], [97, 98, 97, 97, 98, 97], [97, 98, 97, 97, 98, 98], [97, 98, 97, 98, 97, 97], [97, 98, 97, 98, 98, 97], [97, 98, 98, 97, 97, 98], [97, 98, 98, 97, 98, 97], [98, 97, 97, 98, 97, 98], [98, 97, 97, 98, 98, 97], [98, 97, 98, 97, 97, 98], [98, 97, 98, 97, 98, 98], [98, 97, 98, 98, 97, 97], [98, 97, 98, 98, 97, 98], [98, 98, 97, 97, 98, 97], [98, 98, 97, 97, 98, 98], [98, 98, 97, 98, 97, 97], [98, 98, 97, 98, 97, 98], [98, 98, 97, 98, 98, 97], [97, 97, 98, 97, 97, 98, 97], [97, 97, 98, 97, 97, 98, 98], [97, 97, 98, 97, 98, 97, 97], [97, 97, 98, 97, 98, 98, 97], [97, 97, 98, 98, 97, 97, 98], [97, 97, 98, 98, 97, 98, 97], [97, 98, 97, 97, 98, 97, 98], [97, 98, 97, 97, 98, 98, 97], [97, 98, 97, 98, 98, 97, 97], [97, 98, 98, 97, 97, 98, 97], [97, 98, 98, 97, 98, 97, 97], [98, 97, 97, 98, 97, 98, 98], [98, 97, 97, 98, 98, 97, 98], [98, 97, 98, 97, 97, 98, 98], [98, 97, 98, 98, 97, 97, 98], [98, 97, 98, 98, 97, 98, 97], [98, 98, 97, 97, 98, 97, 98], [98, 98, 97, 97, 98, 98, 97], [98, 98, 97, 98, 97, 97, 98], [98, 98, 97, 98, 97, 98, 98], [98, 98, 97, 98, 98, 97, 97], [98, 98, 97, 98, 98, 97, 98], [97, 97, 98, 97, 97, 98, 97, 98], [97, 97, 98, 97, 97, 98, 98, 97], [97, 97, 98, 97, 98, 98, 97, 97], [97, 97, 98, 98, 97, 97, 98, 97], [97, 97, 98, 98, 97, 98, 97, 97], [97, 98, 97, 97, 98, 97, 98, 98], [97, 98, 97, 97, 98, 98, 97, 98], [97, 98, 98, 97, 97, 98, 97, 98], [98, 97, 97, 98, 98, 97, 98, 97], [98, 97, 98, 98, 97, 97, 98, 97], [98, 97, 98, 98, 97, 98, 97, 97], [98, 98, 97, 97, 98, 97, 98, 98], [98, 98, 97, 97, 98, 98, 97, 98], [98, 98, 97, 98, 97, 97, 98, 98], [98, 98, 97, 98, 98, 97, 97, 98], [98, 98, 97, 98, 98, 97, 98, 97], [97, 97, 98, 97, 97, 98, 97, 98, 98], [97, 97, 98, 97, 97, 98, 98, 97, 98], [97, 97, 98, 98, 97, 97, 98, 97, 98], [97, 98, 97, 97, 98, 98, 97, 98, 97], [98, 97, 98, 98, 97, 97, 98, 97, 98], [98, 98, 97, 97, 98, 98, 97, 98, 97], [98, 98, 97, 98, 98, 97, 97, 98, 97], [98, 98, 97, 98, 98, 97, 98, 97, 97], [97, 97, 98, 97, 97, 98, 98, 97, 98, 97], [98, 98, 97, 98, 98, 97, 97, 98, 97, 98]]
def r2_since : List (List Nat) := [[1, 2], [3, 4], [5, 6], [3, 7], [8, 9], [10, 11], [12, 6], [13, 14], [15, 16], [17, 9], [10, 18], [19, 20], [21, 22], [23, 24], [25, 14], [15, 26], [27, 28], [29, 30], [31, 32], [33, 34], [35, 20], [21, 36], [37, 38], [23, 39], [40, 41], [42, 43], [44, 45], [46, 16], [47, 28], [29, 48], [49, 28], [33, 50], [51, 32], [33, 52], [19, 53], [54, 55], [56, 57], [58, 59], [60, 38], [61, 62], [63, 24], [64, 41], [42, 65], [66, 41], [46, 67], [68, 45], [46, 26], [69, 30], [70, 45], [71, 30], [31, 72], [54, 73], [31, 74], [35, 53], [54, 75], [76, 53], [58, 77], [78, 57], [58, 79], [37, 80], [81, 82], [63, 83], [84, 62], [63, 39], [85, 43], [86, 62], [87, 43], [44, 88], [69, 89], [69, 48], [71, 90], [71, 48], [51, 72], [91, 72], [51, 74], [92, 74], [93, 55], [56, 94], [81, 95], [56, 96], [60, 80], [81, 97], [98, 80], [61, 99], [85, 100], [85, 65], [87, 101], [87, 65], [68, 88], [102, 88], [70, 88], [93, 73], [93, 103], [93, 75], [78, 94], [104, 94], [78, 96], [105, 96], [106, 82], [84, 99], [107, 99], [86, 99], [71, 89], [92, 72], [106, 95], [106, 108], [106, 97], [87, 100], [105, 94]]
def w1_since_abc : List Wd := [[], [97], [98], [99], [97, 98], [97, 99], [98, 97], [98, 99], [99, 97], [99, 98], [97, 98, 99], [97, 99, 98], [98, 97, 99], [98, 99, 97], [99, 97, 98], [99, 98, 97]]
def r1_since_abc : List (List Nat) := [[1, 2, 3], [1, 4, 5], [6, 2, 7], [8, 9, 3], [6, 4, 10], [8, 11, 5], [6, 4, 12], [13, 9, 7], [8, 14, 5], [15, 9, 7], [13, 11, 10], [15, 11, 10], [13, 11, 12], [13, 14, 12], [15, 14, 10], [15, 14, 12]]
def w1_once_ab : List Wd := [[], [97], [98], [97, 98]]
def r1_once_ab : List (List Nat) := [[1, 2], [1, 3], [3, 2], [3, 3]]
def w2_once : List Wd := [[], [97], [98], [97, 97], [97, 98], [98, 97], [98, 98], [97, 97, 98], [97, 98, 97], [97, 98, 98], [98, 97, 97], [98, 97, 98], [98, 98, 97], [97, 97, 98, 97], [97, 97, 98, 98], [97, 98, 97, 98], [98, 97, 97, 98], [98, 98, 97, 97], [98, 98, 97, 98], [97, 97, 98, 97, 98], [98, 98, 97, 97, 98]]
def r2_once : List (List Nat) := [[1, 2], [3, 4], [5, 6], [3, 7], [8, 9], [10, 11], [12, 6], [13, 14], [8, 15], [15, 9], [10, 16], [16, 11], [17, 18], [13, 19], [19, 14], [15, 15], [16, 16], [17, 20], [20, 18], [19, 19], [20, 20]]
def w1_once_abc : List Wd := [[], [97], [98], [99], [97, 98], [97, 99], [98, 99], [97, 98, 99]]
def r1_once_abc : List (List Nat) := [[1, 2, 3], [1, 4, 5], [4, 2, 6], [5, 6, 3], [4, 4, 7], [5, 7, 5], [7, 6, 6], [7, 7, 7]]
def wp_ab : List Wd := [[], [97], [98], [97, 97], [97, 98], [98, 97], [98, 98], [97, 97, 98], [97, 98, 97], [97, 98, 98], [98, 97, 97], [98, 97, 98], [98, 98, 97], [97, 97, 98, 98], [97, 98, 97, 98], [98, 98, 97, 97]]
def rp_ab : List (List Nat) := [[1, 2], [3, 4], [5, 6], [3, 7], [8, 9], [10, 11], [12, 6], [8, 13], [8, 14], [14, 9], [10, 14], [14, 11], [15, 11], [14, 13], [14, 14], [15, 14]]
def wp_abc : List Wd := [[], [97], [98], [99], [97, 98], [97, 99], [98, 99], [97, 98, 99]]
def rp_abc : List (List Nat) := [[1, 2, 3], [1, 4, 5], [4, 2, 6], [5, 6, 3], [4, 4, 7], [5, 7, 5], [7, 6, 6], [7, 7, 7]]

theorem fit_ab (s : Srt) : FitW (.lv s) [97, 98] 2 := by
  cases s with
  | rank => exact fit_next (on_next (on0 .rank [97, 98]) (ws := w1_rank_ab) (rows := r1_rank_ab) (by decide +kernel)) (ws := w2_rank) (rows := r2_rank) (by decide +kernel) (by decide +kernel)
  | since => exact fit_next (on_next (on0 .since [97, 98]) (ws := w1_since_ab) (rows := r1_since_ab) (by decide +kernel)) (ws := w2_since) (rows := r2_since) (by decide +kernel) (by decide +kernel)
  | once => exact fit_next (on_next (on0 .once [97, 98]) (ws := w1_once_ab) (rows := r1_once_ab) (by decide +kernel)) (ws := w2_once) (rows := r2_once) (by decide +kernel) (by decide +kernel)
theorem fit_abc (s : Srt) : FitW (.lv s) [97, 98, 99] 1 := by
  cases s with
  | rank => exact fit_next (on0 .rank _) (ws := w1_rank_abc) (rows := r1_rank_abc) (by decide +kernel) (by decide +kernel)
  | since => exact fit_next (on0 .since _) (ws := w1_since_abc) (rows := r1_since_abc) (by decide +kernel) (by decide +kernel)
  | once => exact fit_next (on0 .once _) (ws := w1_once_abc) (rows := r1_once_abc) (by decide +kernel) (by decide +kernel)
/-- the small sights -/
theorem small_fit {q : Sort5} {L : List Nat} {l : Nat} (hA : Alph L) (h : l < topOf q L) : FitW q L l := by
  rcases hA with rfl | rfl | rfl
  · refine fitW_one q 97 ?_
    cases q with
    | lv s => have h : l < 6 := h; omega
    | fl y => cases y with
      | true => have h : l < 8 := h; omega
      | false => have h : l < 6 := h; omega
  · cases q with
    | lv s => exact fitW_le (Nat.le_of_lt_succ (show l < 2 + 1 from h)) (fit_ab s)
    | fl y => cases y with
      | true => exact fitW_le (Nat.le_of_lt_succ (show l < 5 + 1 from h)) (fit_last (by decide +kernel))
      | false => exact fitW_le (Nat.le_of_lt_succ (show l < 2 + 1 from h)) (closed_fit (same := sameP 2) (ws := wp_ab) (rows := rp_ab) (by decide +kernel) (fun u v _ _ e => sameP_rel e) (by decide +kernel))
  · cases q with
    | lv s => exact fitW_le (Nat.le_of_lt_succ (show l < 1 + 1 from h)) (fit_abc s)
    | fl y => cases y with
      | true => exact fitW_le (Nat.le_of_lt_succ (show l < 3 + 1 from h)) (fit_last (by decide +kernel))
      | false => exact fitW_le (Nat.le_of_lt_succ (show l < 1 + 1 from h)) (closed_fit (same := sameP 1) (ws := wp_abc) (rows := rp_abc) (by decide +kernel) (fun u v _ _ e => sameP_rel e) (by decide +kernel))
end K71
end
section
set_option Elab.async false
set_option linter.all false
set_option maxRecDepth 100000
set_option maxHeartbeats 4000000
/-! _law_due -/
namespace K71
open PySem PySem.Spec SG NdefX LamX
open L2 hiding It
open PyProof.Rows hiding St
open Lv (Wd Srt IT)
/-! ### what dicts of the book do not touch -/
def IsExt (H : Hp) (b : Addr) : Prop := ∃ φ, H b = some (.ext φ)
theorem tab_ext {K : PySem.W.Frag} {P : Program} {w : World} {H : Hp} {d : Addr} {m : List (NestedKey × V)} (t : TabAt K P w H false d m) : IsExt H d := by
  obtain ⟨_, _, xs, h, _⟩ := t
  exact ⟨_, h⟩
theorem IsExt.noTup {H : Hp} {b : Addr} (h : IsExt H b) : NoTup H b := by
  obtain ⟨φ, e⟩ := h
  exact ⟨(fun xs z => by rw [e] at z; cases z), (fun o u z => by rw [e] at z; cases z)⟩
/-- lists, tuples, instances stand -/
structure Keeps (H H' : Hp) : Prop where
  lst : ∀ a xs, H a = some (.lst xs) → H' a = some (.lst xs)
  tup : TupsStay H H'
  ins : ∀ a C dx fs, H a = some (.ins C dx fs) → H' a = some (.ins C dx fs)
  none_ : ∀ b, H' b = none → H b = none
theorem Keeps.refl (H : Hp) : Keeps H H := ⟨fun _ _ h => h, .refl H, fun _ _ _ _ h => h, fun _ h => h⟩
theorem Keeps.trans {H H1 H2 : Hp} (a : Keeps H H1) (b : Keeps H1 H2) : Keeps H H2 := ⟨fun c xs h => b.lst c xs (a.lst c xs h), a.tup.trans b.tup, fun c C dx fs h => b.ins c C dx fs (a.ins c C dx fs h), fun c h => a.none_ c (b.none_ c h)⟩
theorem Keeps.ofSame {H H' : Hp} (s : Same H H') : Keeps H H' := ⟨fun a xs h => s a _ h, .of s, fun a C dx fs h => s a _ h, fun b h => s.free h⟩
theorem Fr.keeps {M : List Addr} {H H' : Hp} (f : Fr M H H') (e : ∀ b ∈ M, IsExt H b) : Keeps H H' := by
  have at_ : ∀ a o, H a = some o → (∀ φ, o ≠ .ext φ) → H' a = some o := fun a o h n => f.ext a o (fun z => by
    obtain ⟨φ, g⟩ := e a z
    rw [g] at h
    exact n φ (Option.some.inj h).symm) h
  exact ⟨fun a xs h => at_ a _ h (fun φ z => by cases z), f.tups fun b hb => (e b hb).noTup, fun a C dx fs h => at_ a _ h (fun φ z => by cases z), f.none_⟩
section
variable {K : PySem.W.Frag} {P : Program} {w : World} {H H' : Hp}
theorem dp_strsK {v : V} {ws : List Wd} (e : TupsStay H H') (h : Dp K H v (.tuple (ws.map fun u => .str (tx u)))) : Dp K H' v (.tuple (ws.map fun u => .str (tx u))) := by
  have hd : (NestedKey.tup (ws.map tk)).data = .tuple (ws.map fun u => .str (tx u)) := by
    show PyData.tuple (NestedKey.datas (ws.map tk)) = _
    rw [datas_tk, List.map_map] <;> rfl
  rw [← hd] at h ⊢
  exact KeyAt.stay e _ _ h
theorem dp_rowsK {v : V} {rs : List (List Nat)} (e : TupsStay H H') (h : Dp K H v (.tuple (rs.map rowD))) : Dp K H' v (.tuple (rs.map rowD)) := by
  have hd : (NestedKey.tup (rs.map rk)).data = .tuple (rs.map rowD) := by
    show PyData.tuple (NestedKey.datas (rs.map rk)) = _
    rw [rows_rk]
  rw [← hd] at h ⊢
  exact KeyAt.stay e _ _ h
theorem KindsAt.stay {C x : Addr} {q : Sort5} {L : List Nat} {l : Nat} (k : KindsAt K C H x q L l) (e : TupsStay H H') (hx : ∀ C dx fs, H x = some (.ins C dx fs) → H' x = some (.ins C dx fs)) : KindsAt K C H' x q L l := by
  obtain ⟨h1, h2, dx, vw, vst, vly, g1, g2, g3⟩ := k
  exact ⟨h1, h2, dx, vw, vst, vly, hx _ _ _ g1, dp_strsK e g2, dp_rowsK e g3⟩
theorem KindsAt.keeps {C x : Addr} {q : Sort5} {L : List Nat} {l : Nat} (k : KindsAt K C H x q L l) (e : Keeps H H') : KindsAt K C H' x q L l := k.stay e.tup fun C dx fs h => e.ins x C dx fs h
theorem PoolAt.keeps {p a b : Addr} {n : Nat} (k : PoolAt H p a b n) (e : Keeps H H') : PoolAt H' p a b n := by
  obtain ⟨h2, h3, cs, ss, at_, rest, cnt, h1, h4, h5, h6⟩ := k
  exact ⟨h2, h3, cs, ss, at_, rest, cnt, e.lst _ _ h1, e.lst _ _ h4, e.lst _ _ h5, h6⟩
theorem SightAt.keeps {r : Addr} {q : Sort5} {L : List Nat} {l : Nat} (k : SightAt H r q L l) (e : Keeps H H') : SightAt H' r q L l := e.lst _ _ k
/-- where the pool alone is written -/
theorem Stand.tups {p : Addr} {xs : List V} (s : Stand p H H') (hp : H p = some (.lst xs)) : TupsStay H H' := ⟨fun a ys h => s.1 a _ (fun z => by rw [z, hp] at h; cases h) h, fun a o u h => s.1 a _ (fun z => by rw [z, hp] at h; cases h) h⟩
theorem KindsAt.stand {C x p : Addr} {q : Sort5} {L : List Nat} {l : Nat} {xs : List V} (k : KindsAt K C H x q L l) (s : Stand p H H') (hp : H p = some (.lst xs)) : KindsAt K C H' x q L l := k.stay (s.tups hp) fun C dx fs h => s.1 x _ (fun z => by rw [z, hp] at h; cases h) h
/-! ### the law's table, either way -/
def TabX (K : PySem.W.Frag) (P : Program) (w : World) (H : Hp) (Z : List Addr) (t : Addr) (M : List Addr) (q : Sort5) (L : List Nat) (l N : Nat) : Prop :=
  (∃ a0 a1 fo bk d0 d1, M = [d0, d1] ∧ (∀ z ∈ Z, z ∉ [t, a0, a1, fo, bk, d0, d1]) ∧ TabB K P w H t a0 a1 fo bk d0 d1 q L l N) ∨
  (∃ a0 a1 a2 a3, M = [] ∧ (∀ z ∈ Z, z ∉ [t, a0, a1, a3]) ∧ TabC K H t a0 a1 a2 a3 q L l)
variable {p t : Addr} {Z M : List Addr} {q : Sort5} {L : List Nat} {l N : Nat}
theorem TabX.ext (T : TabX K P w H Z t M q L l N) : ∀ b ∈ M, IsExt H b := by
  rcases T with ⟨a0, a1, fo, bk, d0, d1, rfl, _, T⟩ | ⟨a0, a1, a2, a3, rfl, _, T⟩
  · obtain ⟨R, E, U, b1, _⟩ := T.book
    intro b hb
    rcases List.mem_cons.mp hb with z | z
    · rw [z]; exact tab_ext b1.t0
    · rw [List.mem_singleton.mp z]; exact tab_ext b1.t1
  · exact fun b hb => nomatch hb
theorem TabX.le {N' : Nat} (T : TabX K P w H Z t M q L l N) (h : N ≤ N') : TabX K P w H Z t M q L l N' := by
  rcases T with ⟨a0, a1, fo, bk, d0, d1, rfl, hp, T⟩ | ⟨a0, a1, a2, a3, rfl, hp, T⟩
  · obtain ⟨R, E, U, b1, b2, b3, b4⟩ := T.book
    exact .inl ⟨a0, a1, fo, bk, d0, d1, rfl, hp, T.at_, T.words, T.rows, T.ne, R, E, U, b1, b2, Nat.le_trans b3 h, b4⟩
  · exact .inr ⟨a0, a1, a2, a3, rfl, hp, T⟩
theorem TabX.same (T : TabX K P w H Z t M q L l N) (e : Same H H') : TabX K P w H' Z t M q L l N := by
  rcases T with ⟨a0, a1, fo, bk, d0, d1, rfl, hp, T⟩ | ⟨a0, a1, a2, a3, rfl, hp, T⟩
  · exact .inl ⟨a0, a1, fo, bk, d0, d1, rfl, hp, T.same e⟩
  · exact .inr ⟨a0, a1, a2, a3, rfl, hp, T.same e⟩
/-- what is foreign to it is written -/
theorem TabX.fr {M' : List Addr} (T : TabX K P w H Z t M q L l N) (f : Fr M' H H') (n : ∀ b ∈ M', NoTup H b) (sub : ∀ b ∈ M', b ∈ Z) : TabX K P w H' Z t M q L l N := by
  have tu := f.tups n
  rcases T with ⟨a0, a1, fo, bk, d0, d1, rfl, hp, T⟩ | ⟨a0, a1, a2, a3, rfl, hp, T⟩
  · have o : ∀ b ∈ [t, a0, a1, fo, bk, d0, d1], b ∉ M' := fun b hb z => hp b (sub b z) hb
    simp only [List.mem_cons, List.not_mem_nil, or_false, forall_eq_or_imp, forall_eq] at o
    obtain ⟨o1, o2, o3, o4, o5, o6, o7⟩ := o
    obtain ⟨rs, r1, r2⟩ := T.rows
    obtain ⟨R, E, U, b1, b2, b3, b4, b5⟩ := T.book
    exact .inl ⟨a0, a1, fo, bk, d0, d1, rfl, hp, f.lst o1 T.at_, f.lst o2 T.words, ⟨rs, f.lst o3 r1, dpAllD (ds := []) tu _ r2⟩, T.ne, R, E, U, b1.fr f n o5 o6 o7, b2, b3, tab_stays b4 tu fun o ho => f.ext _ _ o4 ho, b5⟩
  · have o : ∀ b ∈ [t, a0, a1, a3], b ∉ M' := fun b hb z => hp b (sub b z) hb
    simp only [List.mem_cons, List.not_mem_nil, or_false, forall_eq_or_imp, forall_eq] at o
    obtain ⟨o1, o2, o3, o4⟩ := o
    obtain ⟨rs, r1, r2⟩ := T.rows
    exact .inr ⟨a0, a1, a2, a3, rfl, hp, f.lst o1 T.at_, f.lst o2 T.words, ⟨rs, f.lst o3 r1, dpAllD (ds := []) tu _ r2⟩, f.lst o4 T.nil⟩
theorem TabX.stand {xs : List V} (T : TabX K P w H Z t M q L l N) (s : Stand p H H') (hp : H p = some (.lst xs)) (hz : p ∈ Z) : TabX K P w H' Z t M q L l N := by
  refine T.fr (M' := [p]) (.ofStand s List.mem_cons_self) (fun b hb => ?_) fun b hb => by rw [List.mem_singleton.mp hb]; exact hz
  rw [List.mem_singleton.mp hb]
  exact ⟨(fun ys z => by rw [hp] at z; cases z), (fun o u z => by rw [hp] at z; cases z)⟩
end
section
variable {P : Program} {w : World} {K : PySem.W.Frag} {mg : Str → Option Value} {base : Heap}
def spDue (K : PySem.W.Frag) (P : Program) (w : World) : Sp := fun vs H Q _ => ∃ (t r : Addr) (Z M : List Addr) (q : Sort5) (L : List Nat) (l N : Nat) (u : Wd), vs = [.ref r, .ref t, .str (tx u)] ∧ SightAt H r q L l ∧ Alph L ∧ l ≤ 7 ∧ FitW q L l ∧ TabX K P w H Z t M q L l N ∧ (∀ c ∈ u, c ∈ L) ∧ u.length ≤ 1000 ∧ N + (u.length + 1) * (u.length + 1) ≤ 2300000 ∧
  ∀ H', TabX K P w H' Z t M q L l (N + (u.length + 1) * (u.length + 1)) → Fr M H H' → Q (.int (walkN L (tab5 q L l).2 0 u : Nat)) H'
theorem ok_due {f fk fl : Addr} {fd fdk fdl : FuncData} {k : Nat} (F : Fun K "_law_due" "_law_due" s_law_due f fd) (T : Blt mg) (G_kind : FnOk P w K mg base CX0 k fk fdk ["book", "sort", "level", "word"] (spKind K P w)) (c_kind : Df K mg "_law_kind" fk fdk ["book", "sort", "level", "word"])
    (G_lwalk : FnOk P w K mg base CX0 k fl fdl ["table", "letters", "word"] (spLwalk K)) (c_lwalk : Df K mg "_law_walk" fl fdl ["table", "letters", "word"]) :
    FnOk P w K mg base CX0 (k + 1) f fd ["sight", "table", "word"] (spDue K P w) := by
  refine F.ok sc_law_due (fun vs H Q E h => ?_) (fun cdv A outer st H vs Q E hr h => ?_)
  · obtain ⟨t, r, Z, M, q5, L, l, N, u, rfl, _⟩ := h
    rfl
  · obtain ⟨t, r, Z, M, q5, L, l, N, u, rfl, hS, hA, hl7, hF, hT, hc, hu, hN, q⟩ := h
    refine ⟨_, (pss_cons (ps_if (pt_cmpR (op_eqNil (Nat.lt_of_le_of_lt (Nat.le_add_right _ 64) hr.units)) (pe_ix ix_list (pv 1) pe_int (fun _ _ => rfl)) (pe_lst pa_nil) (nomark _)) (pss_one (ps_ret (pe_call G_lwalk hr (by rfl) c_lwalk.m c_lwalk.k c_lwalk.b .nil pass0 (pa_cons (pv 1) (pa_cons (pe_ix ix_list (pv 0) pe_int (fun _ _ => rfl)) (pa_cons (pv 2) pa_nil)))))) pss_nil)
      (pss_cons (ps_set (i := 3) sc_law_due.nd rfl (Or.inl rfl) (pe_call G_kind hr (by rfl) c_kind.m c_kind.k c_kind.b .nil pass0 (pa_cons (pe_ix ix_list (pv 1) pe_int (fun _ _ => rfl)) (pa_cons (pe_ix ix_list (pv 0) pe_int (fun _ _ => rfl)) (pa_cons (pe_ix ix_list (pv 0) pe_int (fun _ _ => rfl)) (pa_cons (pv 2) pa_nil))))))
      (pss_one (ps_ret (pe_getT hr.units (pe_ix ix_list (pv 1) pe_int (fun _ _ => rfl)) (pv 3) (fun _ _ => rfl)))))), ?_⟩
    have hF5 : Fits5 q5 L l := (fits_iff q5 L l).mpr hF
    have et := tab_eq hF
    obtain ⟨rok, rpos, _⟩ := tab5_pos hF5
    rw [et] at rok rpos q
    have h0L := hc
    rcases hT with ⟨a0, a1, fo, bk, d0, d1, rfl, hp, T⟩ | ⟨a0, a1, a2, a3, rfl, hp, T⟩
    · obtain ⟨rs, r1, r2⟩ := T.rows
      obtain ⟨R, EE, U, b1, b2, b3, b4, b5⟩ := T.book
      refine ⟨_, rfl, t, _, 3, _, rfl, rfl, SqL.of T.at_, rfl, sizeLine_le (by show 0 ≤ _; decide), fun D nD => ?_⟩
      have sD := same_new (o := .lst []) nD
      refine ⟨bk, D, _, rfl, rfl, SqL.of (sD _ _ b1.at_), SqL.of upd_same, _, rfl, ?_⟩
      refine iteF ?_
      have TD := T.same sD
      have SD : SightAt (upd H D (.lst [])) r q5 L l := sD _ _ hS
      have b1D := b1.same sD
      have fU := (fac_app b2.fac (fac_facs u).1)
      have okU := b2.more (U' := U ++ facs u) (fun x h => List.mem_append_left _ h) fU
      have lU : (U ++ facs u).length ≤ N + (u.length + 1) * (u.length + 1) := by rw [List.length_append, facs_len]; omega
      refine ⟨_, rfl, t, _, 3, _, rfl, rfl, SqL.of TD.at_, rfl, _, rfl, r, _, 1, _, rfl, rfl, SqL.of SD, rfl, _, rfl, r, _, 2, _, rfl, rfl, SqL.of SD, rfl, _, rfl, ?_⟩
      refine ⟨bk, d0, d1, q5, R, EE, U ++ facs u, L, l, u, rfl, hl7, hA.len.2, hc, b1D, okU, List.mem_append_right _ (fac_facs u).2, by omega, hu, fun v TR TE H2 g1 g2 g3 g4 g5 => ?_⟩
      have tu := g4.tups b1D.notup
      have ntb := tab_ne b1.t0 T.at_
      have ntb1 := tab_ne b1.t1 T.at_
      have out : ∀ {c : Addr} {xs : List V}, H c = some (.lst xs) → c ∉ [d0, d1] := fun {c xs} h => by
        have n0 := tab_ne b1.t0 h
        have n1 := tab_ne b1.t1 h
        simp [n0, n1]
      have F2 : Fr [d0, d1] H H2 := (Fr.ofSame sD).trans g4
      have at2 := F2.lst (out T.at_) T.at_
      have nfo : fo ∉ [d0, d1] := by simp [T.ne.1, T.ne.2]
      have tf : TabAt K P w H2 (scQ q5) fo (tabQ q5 l (R ++ TR) (tabW q5 L l).1) := by
        rw [tabQ_app b5]
        exact tab_stays b4 (F2.tups b1.notup) fun o ho => F2.ext _ _ nfo ho
      have hW := Bf.whole_of (relQ_eqv q5 l) (L := L) (k := 200) hF
      obtain ⟨x, hx1, hx2⟩ := hW.walk (relQ_eqv q5 l) (fun a r => relQ_snoc q5 l a r) u hc
      have hv : valV (tabQ q5 l (R ++ TR) (tabW q5 L l).1) (lkey q5 l (R ++ TR) u) = some (.int (walkN L (tabW q5 L l).2 0 u : Nat)) := by
        have hpl : Bf.place (RelQ q5 l) (tabW q5 L l).1 u = some (walkN L (tabW q5 L l).2 0 u) := Bf.place_of (relQ_eqv q5 l) hW.apart hx1 hx2
        rw [tabQ_val (fun y hy => (b5 y hy).app _) g3, hpl] <;> rfl
      refine ⟨_, rfl, t, _, 2, _, rfl, rfl, SqL.of at2, rfl, _, rfl, scQ q5, fo, _, _, _, rfl, tf, g5, fit_lkey _ _ _ _, hv, ?_⟩
      exact q H2 (.inl ⟨a0, a1, fo, bk, d0, d1, rfl, hp, at2, F2.lst (out T.words) T.words, ⟨rs, F2.lst (out r1) r1, dpAllD (ds := []) (F2.tups b1.notup) _ r2⟩, T.ne, R ++ TR, EE ++ TE, U ++ facs u, g1, g2, lU, tf, fun y hy => (b5 y hy).app _⟩) F2
    · obtain ⟨rs, r1, r2⟩ := T.rows
      refine ⟨_, rfl, t, _, 3, _, rfl, rfl, SqL.of T.at_, rfl, sizeLine_le (by show 0 ≤ _; decide), fun D nD => ?_⟩
      have sD := same_new (o := .lst []) nD
      refine ⟨a3, D, _, rfl, rfl, SqL.of (sD _ _ T.nil), SqL.of upd_same, _, rfl, ?_⟩
      refine iteT ?_
      have TD := T.same sD
      have SD : SightAt (upd H D (.lst [])) r q5 L l := sD _ _ hS
      obtain ⟨rsD, r1D, r2D⟩ := TD.rows
      refine ⟨_, rfl, _, rfl, r, _, 0, _, rfl, rfl, SqL.of SD, rfl, _, rfl, ?_⟩
      refine ⟨L, u, t, _, .ref a0, .ref a1, (tabW q5 L l).2, rfl, hA, SqL.of TD.at_, rfl, .lst (SqL.of r1D) r2D, rok, rpos, hc, ?_⟩
      exact q _ (.inr ⟨a0, a1, a2, a3, rfl, hp, TD⟩) (.ofSame sD)
end
end K71
end
section
set_option Elab.async false
set_option linter.all false
set_option maxRecDepth 100000
set_option maxHeartbeats 4000000
/-! _law_long_kept -/
namespace K71
open PySem PySem.Spec SG NdefX LamX
open L2 hiding It
open PyProof.Rows hiding St
open Lv (Wd Srt IT)
section
variable {P : Program} {w : World} {K : PySem.W.Frag} {mg : Str → Option Value} {base : Heap}
theorem TabX.tabL {H : Hp} {t : Addr} {Z M : List Addr} {q : Sort5} {L : List Nat} {l N : Nat} (T : TabX K P w H Z t M q L l N) (f : FitW q L l) : ∃ v2 v3, TabL K H t q L l v2 v3 := by
  have e := tab_eq f
  rcases T with ⟨a0, a1, fo, bk, d0, d1, rfl, hp, T⟩ | ⟨a0, a1, a2, a3, rfl, hp, T⟩
  · obtain ⟨rs, r1, r2⟩ := T.rows
    refine ⟨_, _, .ref a0, .ref a1, T.at_, .lst (SqL.of T.words) ?_, by rw [e]; exact .lst (SqL.of r1) r2⟩
    rw [e]
    have := dp_strs (K := K) (H := H) ((tabW q L l).1.map tx)
    rw [List.map_map, List.map_map] at this
    exact this
  · obtain ⟨rs, r1, r2⟩ := T.rows
    refine ⟨_, _, .ref a0, .ref a1, T.at_, .lst (SqL.of T.words) ?_, by rw [e]; exact .lst (SqL.of r1) r2⟩
    rw [e]
    have := dp_strs (K := K) (H := H) ((tabW q L l).1.map tx)
    rw [List.map_map, List.map_map] at this
    exact this
def spLong (K : PySem.W.Frag) (P : Program) (w : World) (CK : Addr) : Sp := fun vs H Q _ => ∃ (p a b x r t : Addr) (Z M : List Addr) (n : Nat) (q : Sort5) (L : List Nat) (l N : Nat), vs = [.ref p, .ref x, .ref r, .ref t] ∧ PoolAt H p a b n ∧ n + 20 < 1000000 ∧ KindsAt K CK H x q L l ∧ SightAt H r q L l ∧ r ≠ p ∧ p ∈ Z ∧ FitW q L l ∧ TabX K P w H Z t M q L l N ∧
  ∀ H', PoolAt H' p a b (n + 10) → Stand p H H' → Q (.bl true) H'
theorem ok_long {f fd_ fw fl fk fs CK : Addr} {fd fdd fdw fdl fdk fds : FuncData} {k : Nat} (F : Fun K "_law_long_kept" "_law_long_kept" s_law_long_kept f fd) (T : Blt mg) (G_draw : FnOk P w K mg base CX0 k fd_ fdd ["pool", "many"] (spDraw K)) (c_draw : Df K mg "_law_draw" fd_ fdd ["pool", "many"])
    (G_word : FnOk P w K mg base CX0 k fw fdw ["pool", "letters", "size"] (spWord K)) (c_word : Df K mg "_law_word" fw fdw ["pool", "letters", "size"]) (G_lwalk : FnOk P w K mg base CX0 k fl fdl ["table", "letters", "word"] (spLwalk K)) (c_lwalk : Df K mg "_law_walk" fl fdl ["table", "letters", "word"])
    (G_kTold : FnOk P w K mg base CX0 k fk fdk ["kinds", "word"] (spKTold K CK)) (c_kTold : Df K mg "_law_kind_told" fk fdk ["kinds", "word"]) (G_same : FnOk P w K mg base CX0 k fs fds ["told", "due"] (spSame K 3)) (c_same : Df K mg "_law_same" fs fds ["told", "due"]) :
    FnOk P w K mg base CX0 (k + 1) f fd ["pool", "kinds", "sight", "table"] (spLong K P w CK) := by
  refine F.ok sc_law_long_kept (fun vs H Q E h => ?_) (fun cdv A outer s H vs Q E hr h => ?_)
  · obtain ⟨p, a, b, x, r, t, Z, M, n, q, L, l, N, rfl, _⟩ := h
    rfl
  · obtain ⟨p, a, b, x, r, t, Z, M, n, q5, L, l, N, rfl, hp, hn, hK, hS, hrp, hpZ, hFW, hT, q⟩ := h
    refine ⟨_, (pss_cons (ps_set (i := 4) sc_law_long_kept.nd rfl (Or.inl rfl) (pe_call G_word hr (by rfl) c_word.m c_word.k c_word.b .nil pass0 (pa_cons (pv 0) (pa_cons (pe_ix ix_list (pv 2) pe_int (fun _ _ => rfl)) (pa_cons (pe_op op_add pe_int (pe_call G_draw hr (by rfl) c_draw.m c_draw.k c_draw.b .nil pass0 (pa_cons (pv 0) (pa_cons pe_int pa_nil)))) pa_nil)))))
      (pss_cons (ps_set (i := 5) sc_law_long_kept.nd rfl (Or.inl rfl) (pe_op op_sub pe_int (pe_call G_draw hr (by rfl) c_draw.m c_draw.k c_draw.b .nil pass0 (pa_cons (pv 0) (pa_cons pe_int pa_nil)))))
      (pss_cons (ps_set (i := 6) sc_law_long_kept.nd rfl (Or.inl rfl) (pe_slice sl_str (pe_op op_repS (pv 4) (pv 5)) po_none (po_some (pv 5))))
      (pss_cons (ps_set (i := 7) sc_law_long_kept.nd rfl (Or.inl rfl) (pe_call G_lwalk hr (by rfl) c_lwalk.m c_lwalk.k c_lwalk.b .nil pass0 (pa_cons (pv 3) (pa_cons (pe_ix ix_list (pv 2) pe_int (fun _ _ => rfl)) (pa_cons (pv 6) pa_nil)))))
      (pss_one (ps_ret (pe_call G_same hr (by rfl) c_same.m c_same.k c_same.b .nil pass0 (pa_cons (pe_call G_kTold hr (by rfl) c_kTold.m c_kTold.k c_kTold.b .nil pass0 (pa_cons (pv 1) (pa_cons (pv 6) pa_nil))) (pa_cons (pe_tup (pa_cons pe_str (pa_cons (pv 7) pa_nil))) pa_nil))))))))), ?_⟩
    have b9 : ∀ m : Nat, m < 1000 → ((m : Nat) : Int).natAbs < 2 ^ 9000 := fun m hm => Nat.lt_of_lt_of_le (show _ < 2 ^ 12 by rw [Int.natAbs_natCast]; omega) (Nat.pow_le_pow_right (by decide) (by decide))
    obtain ⟨xp, hxp⟩ := hp.lst
    obtain ⟨hA, hF, dx, vw, vst, vly, hx, hw, hs⟩ := id hK
    have hAl := hA.len
    refine ⟨_, rfl, _, rfl, r, _, 0, _, rfl, rfl, SqL.of hS, rfl, _, rfl, p, a, b, n, _, rfl, hp, by omega, by decide, b9 8 (by decide), fun d1 H1 hd1 hp1 st1 => ?_⟩
    refine ⟨_, _, rfl, rfl, p, a, b, n + 1, L, 1 + d1, rfl, hp1, by omega, by omega, by omega, by omega, fun u H2 hu hc hp2 st2 => ?_⟩
    refine ⟨_, rfl, p, a, b, _, _, rfl, hp2, by omega, by decide, b9 11 (by decide), fun d2 H3 hd2 hp3 st3 => ?_⟩
    refine ⟨_, _, rfl, rfl, ?_⟩
    have st3' := (st1.trans st2).trans st3
    have hK3 := hK.stand st3' hxp
    have hS3 : SightAt H3 r q5 L l := st3'.1 _ _ hrp hS
    have hT3 := hT.stand st3' hxp hpZ
    obtain ⟨sz, hsz, hsz1, hsz2⟩ : ∃ sz : Nat, (40000 : Int) - (d2 : Nat) = sz ∧ 2 ≤ sz ∧ sz ≤ 40000 := ⟨(40000 - d2 : Nat), by omega, by omega, by omega⟩
    have hsz' : (fun i j => V.int (i - j)) (40000 : Int) ((d2 : Nat) : Int) = .int (sz : Nat) := by show V.int _ = _; rw [hsz]
    rw [hsz']
    refine ⟨_, rfl, _, rfl, u, sz, rfl, rfl, by omega, by omega, hsz1, hsz2, ?_⟩
    have hfl : ((List.replicate sz u).flatten).length = sz * u.length := by simp
    have hm : sz * u.length ≤ 40000 * 8 := Nat.mul_le_mul hsz2 (by omega)
    have hm1 : sz * 1 ≤ sz * u.length := Nat.mul_le_mul (Nat.le_refl _) (by omega)
    refine ⟨_, rfl, _, rfl, tx (List.replicate sz u).flatten, rfl, by rw [tx_len, hfl, sizeLine_eq]; omega, ?_⟩
    rw [cutS_take]
    have hwc : ∀ c ∈ ((List.replicate sz u).flatten).take sz, c ∈ L := fun c hc' => by
      have := List.mem_of_mem_take hc'
      obtain ⟨l', h1', h2'⟩ := List.mem_flatten.mp this
      rw [List.eq_of_mem_replicate h1'] at h2'
      exact hc c h2'
    have hwl : (((List.replicate sz u).flatten).take sz).length ≤ 100000 := by rw [List.length_take]; omega
    generalize ((List.replicate sz u).flatten).take sz = wd at hwc hwl
    have hFW' := hFW
    have et := tab_eq hFW
    obtain ⟨rok, rpos, _⟩ := tab5_pos hF
    obtain ⟨v2, v3, v0, v1, ht, h0, h1⟩ := hT3.tabL hFW
    refine ⟨_, rfl, _, rfl, r, _, 0, _, rfl, rfl, SqL.of hS3, rfl, _, rfl, ?_⟩
    refine ⟨L, wd, t, _, v0, v1, (tab5 q5 L l).2, rfl, hA, SqL.of ht, rfl, h1, rok, rpos, hwc, ?_⟩
    refine ⟨_, rfl, _, rfl, x, q5, L, l, wd, rfl, hK3, hwl, fun _ r1 H4 s4 d4 => ?_, fun n => absurd hwc n⟩
    refine ⟨_, rfl, sizeLine_le (by show 2 ≤ _; decide), fun c nc => ?_⟩
    have sc := same_new (o := .tup [.str "told", .int (walkN L (tab5 q5 L l).2 0 wd : Nat)]) nc
    refine ⟨.ref r1, .ref c, .tuple [.str "told", .int (walkN L (tab5 q5 L l).2 0 wd : Nat)], rfl, Dp.same sc _ _ d4, .tup (.of upd_same) (.cons (.str _) (.cons (.int _) .nil)), ⟨by show 2 ≤ 100000; decide, fun y hy => ?_⟩, fun H5 s5 => ?_⟩
    · simp only [List.mem_cons, List.not_mem_nil, or_false] at hy
      rcases hy with rfl | rfl
      · refine SameOk.scal ?_ 2
        exact True.intro
      · refine SameOk.scal ?_ 2
        exact True.intro
    · exact q H5 (((hp3.same s4).same sc).same s5 |>.le (by omega)) (st3'.trans (Stand.of ((s4.trans sc).trans s5)))
end
end K71
end
section
set_option Elab.async false
set_option linter.all false
set_option maxRecDepth 100000
set_option maxHeartbeats 4000000
/-! _law_words_kept -/
namespace K71
open PySem PySem.Spec SG NdefX LamX
open L2 hiding It
open PyProof.Rows hiding St
open Lv (Wd Srt IT)
/-- what a judged table goes with -/
structure Bun (K : PySem.W.Frag) (P : Program) (w : World) (CK : Addr) (H0 H : Hp) (p a b x r t : Addr) (Z M : List Addr) (n : Nat) (q : Sort5) (L : List Nat) (l N : Nat) : Prop where
  pool : PoolAt H p a b n
  kinds : KindsAt K CK H x q L l
  sight : SightAt H r q L l
  tab : TabX K P w H Z t M q L l N
  own : p ∈ Z
  fr : Fr (p :: M) H0 H
section
variable {K : PySem.W.Frag} {P : Program} {w : World} {CK : Addr} {H0 H H' : Hp} {p a b x r t : Addr} {Z M : List Addr} {n n' : Nat} {q : Sort5} {L : List Nat} {l N N' : Nat}
theorem KindsAt.same (k : KindsAt K CK H x q L l) (e : Same H H') : KindsAt K CK H' x q L l := k.keeps (.ofSame e)
theorem Bun.same (B : Bun K P w CK H0 H p a b x r t Z M n q L l N) (e : Same H H') : Bun K P w CK H0 H' p a b x r t Z M n q L l N :=
  ⟨B.pool.same e, B.kinds.same e, e _ _ B.sight, B.tab.same e, B.own, B.fr.trans (.ofSame e)⟩
theorem Bun.stand (B : Bun K P w CK H0 H p a b x r t Z M n q L l N) (hrp : r ≠ p) (s : Stand p H H') (h : PoolAt H' p a b n') : Bun K P w CK H0 H' p a b x r t Z M n' q L l N := by
  obtain ⟨xs, hx⟩ := B.pool.lst
  exact ⟨h, B.kinds.stand s hx, s.1 _ _ hrp B.sight, B.tab.stand s hx B.own, B.own, B.fr.trans (.ofStand s List.mem_cons_self)⟩
theorem Bun.due (B : Bun K P w CK H0 H p a b x r t Z M n q L l N) (f : Fr M H H') (T : TabX K P w H' Z t M q L l N') : Bun K P w CK H0 H' p a b x r t Z M n q L l N' :=
  have k := f.keeps B.tab.ext
  ⟨B.pool.keeps k, B.kinds.keeps k, B.sight.keeps k, T, B.own, B.fr.trans (f.mono fun c hc => List.mem_cons_of_mem _ hc)⟩
theorem Bun.le (B : Bun K P w CK H0 H p a b x r t Z M n q L l N) (h : n ≤ n') (h2 : N ≤ N') : Bun K P w CK H0 H p a b x r t Z M n' q L l N' := ⟨B.pool.le h, B.kinds, B.sight, B.tab.le h2, B.own, B.fr⟩
end
theorem Alph.noz {L : List Nat} (h : Alph L) : 122 ∉ L := by
  rcases h with rfl | rfl | rfl <;> decide
section
variable {P : Program} {w : World} {K : PySem.W.Frag} {mg : Str → Option Value} {base : Heap}
def spJd (K : PySem.W.Frag) (P : Program) (w : World) (CK : Addr) (dn dN : Nat) : Sp := fun vs H Q _ => ∃ (p a b x r t : Addr) (Z M : List Addr) (n : Nat) (q : Sort5) (L : List Nat) (l N : Nat), vs = [.ref p, .ref x, .ref r, .ref t] ∧ Bun K P w CK H H p a b x r t Z M n q L l N ∧ n + dn < 999000 ∧ r ≠ p ∧ l ≤ 7 ∧ FitW q L l ∧ N + dN ≤ 2300000 ∧
  ∀ H', Bun K P w CK H H' p a b x r t Z M (n + dn) q L l (N + dN) → Q (.bl true) H'
theorem ok_wkept {f fd_ fw fs fk fg fu CK : Addr} {fd fdd fdw fds fdk fdg fdu : FuncData} {k : Nat} (F : Fun K "_law_words_kept" "_law_words_kept" s_law_words_kept f fd) (T : Blt mg) (G_draw : FnOk P w K mg base CX0 k fd_ fdd ["pool", "many"] (spDraw K)) (c_draw : Df K mg "_law_draw" fd_ fdd ["pool", "many"])
    (G_word : FnOk P w K mg base CX0 k fw fdw ["pool", "letters", "size"] (spWord K)) (c_word : Df K mg "_law_word" fw fdw ["pool", "letters", "size"])
    (G_kTold : FnOk P w K mg base CX0 k fk fdk ["kinds", "word"] (spKTold K CK)) (c_kTold : Df K mg "_law_kind_told" fk fdk ["kinds", "word"]) (G_same : FnOk P w K mg base CX0 k fs fds ["told", "due"] (spSame K 3)) (c_same : Df K mg "_law_same" fs fds ["told", "due"])
    (G_sign : FnOk P w K mg base CX0 k fg fdg ["pool"] (spSign K)) (c_sign : Df K mg "_law_sign" fg fdg ["pool"]) (G_due : FnOk P w K mg base CX0 k fu fdu ["sight", "table", "word"] (spDue K P w)) (c_due : Df K mg "_law_due" fu fdu ["sight", "table", "word"]) :
    FnOk P w K mg base CX0 (k + 1) f fd ["pool", "kinds", "sight", "table"] (spJd K P w CK 78 726) := by
  refine F.ok sc_law_words_kept (fun vs H Q E h => ?_) (fun cdv A outer s H vs Q E hr h => ?_)
  · obtain ⟨p, a, b, x, r, t, Z, M, n, q, L, l, N, rfl, _⟩ := h
    rfl
  · obtain ⟨p, a, b, x, r, t, Z, M, n, q5, L, l, N, rfl, hB, hn, hrp, hl7, hFW, hN, q⟩ := h
    refine ⟨_, (pss_cons (ps_for PassesOwn.never rfl (pi_range1 (by rfl) T.range (pa_cons pe_int pa_nil)) (pg_name (i := 4) sc_law_words_kept.nd rfl (Or.inl rfl))
        (pss_cons (ps_set (i := 5) sc_law_words_kept.nd rfl (Or.inl rfl) (pe_call G_word hr (by rfl) c_word.m c_word.k c_word.b .nil pass0 (pa_cons (pv 0) (pa_cons (pe_ix ix_list (pv 2) pe_int (fun _ _ => rfl)) (pa_cons (pe_call G_draw hr (by rfl) c_draw.m c_draw.k c_draw.b .nil pass0 (pa_cons (pv 0) (pa_cons pe_int pa_nil))) pa_nil)))))
      (pss_cons (ps_set (i := 6) sc_law_words_kept.nd rfl (Or.inl rfl) (pe_call G_due hr (by rfl) c_due.m c_due.k c_due.b .nil pass0 (pa_cons (pv 2) (pa_cons (pv 3) (pa_cons (pv 5) pa_nil)))))
      (pss_cons (ps_if (pt_not (pt_val (pe_call G_same hr (by rfl) c_same.m c_same.k c_same.b .nil pass0 (pa_cons (pe_call G_kTold hr (by rfl) c_kTold.m c_kTold.k c_kTold.b .nil pass0 (pa_cons (pv 1) (pa_cons (pv 5) pa_nil))) (pa_cons (pe_tup (pa_cons pe_str (pa_cons (pv 6) pa_nil))) pa_nil))))) (pss_one (ps_ret pe_bl)) pss_nil)
      (pss_cons (ps_set (i := 7) sc_law_words_kept.nd rfl (Or.inl rfl) (pe_call G_sign hr (by rfl) c_sign.m c_sign.k c_sign.b .nil pass0 (pa_cons (pv 0) pa_nil)))
      (pss_cons (ps_if (pt_cmpR op_in_sign (pv 7) (pe_ix ix_list (pv 2) pe_int (fun _ _ => rfl)) (by rfl)) (pss_one (ps_set (i := 7) sc_law_words_kept.nd rfl (Or.inl rfl) pe_str)) pss_nil)
      (pss_cons (ps_set (i := 8) sc_law_words_kept.nd rfl (Or.inl rfl) (pe_call G_draw hr (by rfl) c_draw.m c_draw.k c_draw.b .nil pass0 (pa_cons (pv 0) (pa_cons (pe_op op_add (pe_callB call_len_str (by rfl) T.len PySem.boot_len (pa_cons (pv 5) pa_nil)) pe_int) pa_nil))))
      (pss_cons (ps_set (i := 9) sc_law_words_kept.nd rfl (Or.inl rfl) (pe_op op_add_str (pe_op op_add_str (pe_slice sl_str (pv 5) po_none (po_some (pv 8))) (pv 7)) (pe_slice sl_str (pv 5) (po_some (pv 8)) po_none)))
      (pss_one (ps_if (pt_not (pt_val (pe_call G_same hr (by rfl) c_same.m c_same.k c_same.b .nil pass0 (pa_cons (pe_call G_kTold hr (by rfl) c_kTold.m c_kTold.k c_kTold.b .nil pass0 (pa_cons (pv 1) (pa_cons (pv 9) pa_nil))) (pa_cons (pe_tup (pa_cons pe_str (pa_cons (pe_lst (pa_cons pe_int pa_nil)) (pa_cons (pv 9) pa_nil)))) pa_nil))))) (pss_one (ps_ret pe_bl)) pss_nil))))))))))
      (pss_one (ps_ret pe_bl))), ?_⟩
    have hA := hB.kinds.alph
    have hAl := hA.len
    have b9 : ∀ m : Nat, m < 1000 → ((m : Nat) : Int).natAbs < 2 ^ 9000 := fun m hm => Nat.lt_of_lt_of_le (show _ < 2 ^ 12 by rw [Int.natAbs_natCast]; omega) (Nat.pow_le_pow_right (by decide) (by decide))
    refine ⟨6, rfl, by decide, by decide, for_range (lo := 0) (n := 6) (fun i σ H' => Bun K P w CK H H' p a b x r t Z M (n + 13 * i) q5 L l (N + 121 * i) ∧ ∃ v4 v5 v6 v7 v8 v9, σ = [some (.ref p), some (.ref x), some (.ref r), some (.ref t), v4, v5, v6, v7, v8, v9]) ⟨hB, none, none, none, none, none, none, rfl⟩ (fun i σ H' hi hP => ?_) (fun σ H' hP => ?_)⟩
    · obtain ⟨B, v4, v5, v6, v7, v8, v9, rfl⟩ := hP
      refine ⟨_, rfl, _, rfl, r, _, 0, _, rfl, rfl, SqL.of B.sight, rfl, _, rfl, p, a, b, _, _, rfl, B.pool, by omega, by decide, b9 11 (by decide), fun d1 H1 hd1 hp1 st1 => ?_⟩
      have B1 := B.stand hrp st1 hp1
      refine ⟨p, a, b, _, L, d1, rfl, B1.pool, by omega, by omega, by omega, by omega, fun u H2 hu hc hp2 st2 => ?_⟩
      have B2 := (B1.stand hrp st2 hp2).le (n' := n + 13 * i + 11) (N' := N + 121 * i) (by omega) (Nat.le_refl _)
      have hsq : (u.length + 1) * (u.length + 1) ≤ 11 * 11 := Nat.mul_le_mul (by omega) (by omega)
      refine ⟨_, rfl, _, rfl, _, rfl, t, r, Z, M, q5, L, l, _, u, rfl, B2.sight, hA, hl7, hFW, B2.tab, hc, by omega, by omega, fun H3 T3 f3 => ?_⟩
      have B3 := (B2.due f3 T3).le (n' := n + 13 * i + 11) (N' := N + 121 * (i + 1)) (Nat.le_refl _) (by omega)
      refine ⟨_, rfl, _, rfl, x, q5, L, l, u, rfl, B3.kinds, by omega, fun _ r1 H4 s4 d4 => ?_, fun n => absurd hc n⟩
      have B4 := B3.same s4
      refine ⟨_, rfl, sizeLine_le (by show 2 ≤ _; decide), fun c nc => ?_⟩
      have sc := same_new (o := .tup [.str "told", .int (walkN L (tab5 q5 L l).2 0 u : Nat)]) nc
      have B5 := B4.same sc
      refine ⟨.ref r1, .ref c, .tuple [.str "told", .int (walkN L (tab5 q5 L l).2 0 u : Nat)], rfl, Dp.same sc _ _ d4, .tup (.of upd_same) (.cons (.str _) (.cons (.int _) .nil)), ⟨by show 2 ≤ 100000; decide, fun y hy => ?_⟩, fun H5 s5 => ?_⟩
      · simp only [List.mem_cons, List.not_mem_nil, or_false] at hy
        rcases hy with rfl | rfl
        · refine SameOk.scal ?_ 2
          exact True.intro
        · refine SameOk.scal ?_ 2
          exact True.intro
      have B6 := B5.same s5
      refine ⟨_, rfl, ?_⟩
      refine iteF ?_
      refine ⟨_, rfl, p, a, b, _, rfl, B6.pool, by omega, fun c1 H6 hc1 hp6 st6 => ?_⟩
      have B7 := B6.stand hrp st6 hp6
      -- the rest, with a strange sign
      have rest : ∀ (z : Nat), z ∉ L → ∀ (d2 : Nat) (H7 : Hp), d2 < u.length + 1 → Bun K P w CK H H7 p a b x r t Z M (n + 13 * (i + 1)) q5 L l (N + 121 * (i + 1)) → ¬ (∀ c ∈ u.take d2 ++ [z] ++ u.drop d2, c ∈ L) ∧ (u.take d2 ++ [z] ++ u.drop d2).length ≤ 11 := fun z hz d2 H7 hd2 _ => by
        refine ⟨fun h => hz (h z (by simp)), ?_⟩
        simp only [List.length_append, List.length_take, List.length_drop, List.length_cons, List.length_nil]
        omega
      have ez : ("z" : Str) = tx [122] := by decide
      have fin : ∀ z : Nat, z ∉ L → ∀ (d2 : Nat) (H7 : Hp), d2 < u.length + 1 → Bun K P w CK H H7 p a b x r t Z M (n + 13 * (i + 1)) q5 L l (N + 121 * (i + 1)) → True := fun _ _ _ _ _ _ => trivial
      refine ⟨_, rfl, _, rfl, r, _, 0, _, rfl, rfl, SqL.of B7.sight, rfl, c1, tx L, rfl, rfl, _, rfl, ?_⟩
      rw [tx_list]
      by_cases hin : c1 ∈ L
      · rw [decide_eq_true hin]
        refine iteT ?_
        refine ⟨_, rfl, _, rfl, tx u, rfl, sizeLine_le (by rw [tx_len]; omega), _, _, rfl, rfl, p, a, b, _, _, rfl, B7.pool, by omega, by rw [tx_len]; omega, by rw [tx_len]; exact b9 (u.length + 1) (by omega), fun d2 H7 hd2 hp7 st7 => ?_⟩
        rw [tx_len] at hd2
        have B8 := (B7.stand hrp st7 hp7).le (n' := n + 13 * (i + 1)) (N' := N + 121 * (i + 1)) (by omega) (Nat.le_refl _)
        obtain ⟨g1, g2⟩ := rest 122 hA.noz d2 H7 (by omega) B8
        refine ⟨_, rfl, _, rfl, _, rfl, tx u, rfl, sizeLine_le (by rw [tx_len]; omega), ?_⟩
        rw [cutS_take]
        refine ⟨_, rfl, tx (u.take d2), tx [122], rfl, by rw [← ez] <;> rfl, sizeLine_le (by rw [tx_len, tx_len, List.length_take]; show _ + 1 ≤ _; omega), ?_⟩
        rw [tx_app]
        refine ⟨_, rfl, _, rfl, _, rfl, tx u, rfl, sizeLine_le (by rw [tx_len]; omega), ?_⟩
        rw [cutS_drop]
        refine ⟨tx (u.take d2 ++ [122]), tx (u.drop d2), rfl, rfl, sizeLine_le (by rw [tx_len, tx_len]; simp only [List.length_append, List.length_take, List.length_drop, List.length_cons, List.length_nil]; omega), ?_⟩
        rw [tx_app]
        generalize u.take d2 ++ [122] ++ u.drop d2 = od at g1 g2 ⊢
        refine ⟨_, rfl, _, rfl, x, q5, L, l, od, rfl, B8.kinds, by omega, fun h => absurd h g1, fun _ r2 H8 s8 d8 => ?_⟩
        have B9 := B8.same s8
        refine ⟨sizeLine_le (by show 1 ≤ _; decide), fun e ne => ⟨_, rfl, sizeLine_le (by show 3 ≤ _; decide), fun c2 nc2 => ?_⟩⟩
        have se := (same_new (o := .lst [.int 8]) ne).trans (same_new (o := .tup [.str "word", .ref e, .str (tx od)]) nc2)
        have te : (upd (upd H8 e (.lst [.int 8])) c2 (.tup [.str "word", .ref e, .str (tx od)])) e = some (.lst [.int 8]) := same_new nc2 _ _ upd_same
        have B10 := B9.same se
        refine ⟨.ref r2, .ref c2, .tuple [.str "word", .list [.int 8], .str (tx od)], rfl, Dp.same se _ _ d8, .tup (.of upd_same) (.cons (.str _) (.cons (.lst (SqL.of te) (.cons (.int _) .nil)) (.cons (.str _) .nil))), ⟨by show 3 ≤ 100000; decide, fun y hy => ?_⟩, fun H9 s9 => ?_⟩
        · simp only [List.mem_cons, List.not_mem_nil, or_false] at hy
          rcases hy with rfl | rfl | rfl
          · refine SameOk.scal ?_ 2
            exact True.intro
          · refine ⟨by show 1 ≤ 100000; decide, fun y hy => ?_⟩
            rw [List.mem_singleton.mp hy]
            refine SameOk.scal ?_ 1
            exact True.intro
          · refine SameOk.scal ?_ 2
            exact True.intro
        · refine ⟨_, rfl, ?_⟩
          refine iteF ?_
          exact ⟨B10.same s9, _, _, _, _, _, _, rfl⟩
      · rw [decide_eq_false hin]
        refine iteF ?_
        refine ⟨_, rfl, _, rfl, tx u, rfl, sizeLine_le (by rw [tx_len]; omega), _, _, rfl, rfl, p, a, b, _, _, rfl, B7.pool, by omega, by rw [tx_len]; omega, by rw [tx_len]; exact b9 (u.length + 1) (by omega), fun d2 H7 hd2 hp7 st7 => ?_⟩
        rw [tx_len] at hd2
        have B8 := (B7.stand hrp st7 hp7).le (n' := n + 13 * (i + 1)) (N' := N + 121 * (i + 1)) (by omega) (Nat.le_refl _)
        obtain ⟨g1, g2⟩ := rest c1 hin d2 H7 (by omega) B8
        refine ⟨_, rfl, _, rfl, _, rfl, tx u, rfl, sizeLine_le (by rw [tx_len]; omega), ?_⟩
        rw [cutS_take]
        refine ⟨_, rfl, tx (u.take d2), tx [c1], rfl, rfl, sizeLine_le (by rw [tx_len, tx_len, List.length_take]; show _ + 1 ≤ _; omega), ?_⟩
        rw [tx_app]
        refine ⟨_, rfl, _, rfl, _, rfl, tx u, rfl, sizeLine_le (by rw [tx_len]; omega), ?_⟩
        rw [cutS_drop]
        refine ⟨tx (u.take d2 ++ [c1]), tx (u.drop d2), rfl, rfl, sizeLine_le (by rw [tx_len, tx_len]; simp only [List.length_append, List.length_take, List.length_drop, List.length_cons, List.length_nil]; omega), ?_⟩
        rw [tx_app]
        generalize u.take d2 ++ [c1] ++ u.drop d2 = od at g1 g2 ⊢
        refine ⟨_, rfl, _, rfl, x, q5, L, l, od, rfl, B8.kinds, by omega, fun h => absurd h g1, fun _ r2 H8 s8 d8 => ?_⟩
        have B9 := B8.same s8
        refine ⟨sizeLine_le (by show 1 ≤ _; decide), fun e ne => ⟨_, rfl, sizeLine_le (by show 3 ≤ _; decide), fun c2 nc2 => ?_⟩⟩
        have se := (same_new (o := .lst [.int 8]) ne).trans (same_new (o := .tup [.str "word", .ref e, .str (tx od)]) nc2)
        have te : (upd (upd H8 e (.lst [.int 8])) c2 (.tup [.str "word", .ref e, .str (tx od)])) e = some (.lst [.int 8]) := same_new nc2 _ _ upd_same
        have B10 := B9.same se
        refine ⟨.ref r2, .ref c2, .tuple [.str "word", .list [.int 8], .str (tx od)], rfl, Dp.same se _ _ d8, .tup (.of upd_same) (.cons (.str _) (.cons (.lst (SqL.of te) (.cons (.int _) .nil)) (.cons (.str _) .nil))), ⟨by show 3 ≤ 100000; decide, fun y hy => ?_⟩, fun H9 s9 => ?_⟩
        · simp only [List.mem_cons, List.not_mem_nil, or_false] at hy
          rcases hy with rfl | rfl | rfl
          · refine SameOk.scal ?_ 2
            exact True.intro
          · refine ⟨by show 1 ≤ 100000; decide, fun y hy => ?_⟩
            rw [List.mem_singleton.mp hy]
            refine SameOk.scal ?_ 1
            exact True.intro
          · refine SameOk.scal ?_ 2
            exact True.intro
        · refine ⟨_, rfl, ?_⟩
          refine iteF ?_
          exact ⟨B10.same s9, _, _, _, _, _, _, rfl⟩
    · obtain ⟨B, v4, v5, v6, v7, v8, v9, rfl⟩ := hP
      exact q H' B
end
end K71
end
section
set_option Elab.async false
set_option linter.all false
set_option maxRecDepth 100000
set_option maxHeartbeats 4000000
/-! _law_products_kept, _law_judged -/
namespace K71
open PySem PySem.Spec SG NdefX LamX
open L2 hiding It
open PyProof.Rows hiding St
open Lv (Wd Srt IT)
theorem walkN_app (L : List Nat) (rows : List (List Nat)) (s : Nat) (u v : List Nat) : walkN L rows s (u ++ v) = walkN L rows (walkN L rows s u) v := by
  unfold walkN
  rw [List.foldl_append]
theorem walk_word {q : Sort5} {L : List Nat} {l i : Nat} {u : Wd} (f : FitW q L l) (h : (tabW q L l).1[i]? = some u) : walkN L (tabW q L l).2 0 u = i := by
  have E := relQ_eqv q l
  have W := Bf.whole_of E (L := L) (k := 200) f
  obtain ⟨x, h1, h2⟩ := W.walk E (fun a r => relQ_snoc q l a r) u (W.over u (List.mem_of_getElem? h))
  exact apart_same E W.apart h1 h h2
theorem tabW_short {q : Sort5} {L : List Nat} {l : Nat} (f : FitW q L l) : ∀ u ∈ (tabW q L l).1, u.length ≤ 199 ∧ ∀ c ∈ u, c ∈ L := fun u hu => by
  have W := Bf.whole_of (relQ_eqv q l) (L := L) (k := 200) f
  obtain ⟨i, hi, rfl⟩ := List.getElem_of_mem hu
  have := W.short i _ (List.getElem?_eq_getElem hi)
  have hf : (tabW q L l).1.length ≤ 200 := f
  exact ⟨by omega, W.over _ hu⟩
/-- where the table keeps its words -/
theorem TabX.wordsAt {K : PySem.W.Frag} {P : Program} {w : World} {H : Hp} {p t : Addr} {Z M : List Addr} {q : Sort5} {L : List Nat} {l N : Nat} (T : TabX K P w H Z t M q L l N) (hz : p ∈ Z) :
    ∃ a0 v1 v2 v3, H t = some (.lst [.ref a0, v1, v2, v3]) ∧ a0 ≠ p ∧ H a0 = some (.lst ((tabW q L l).1.map fun u => V.str (tx u))) := by
  rcases T with ⟨a0, a1, fo, bk, d0, d1, rfl, hp, T⟩ | ⟨a0, a1, a2, a3, rfl, hp, T⟩
  · refine ⟨a0, _, _, _, T.at_, fun z => hp p hz ?_, T.words⟩
    simp [z]
  · refine ⟨a0, _, _, _, T.at_, fun z => hp p hz ?_, T.words⟩
    simp [z]
section
variable {P : Program} {w : World} {K : PySem.W.Frag} {mg : Str → Option Value} {base : Heap}
theorem ok_pkept {f fd_ fs fj fu CK : Addr} {fd fdd fds fdj fdu : FuncData} {k : Nat} (F : Fun K "_law_products_kept" "_law_products_kept" s_law_products_kept f fd) (T : Blt mg) (G_draw : FnOk P w K mg base CX0 k fd_ fdd ["pool", "many"] (spDraw K)) (c_draw : Df K mg "_law_draw" fd_ fdd ["pool", "many"])
    (G_join : FnOk P w K mg base CX0 k fj fdj ["kinds", "first", "second"] (spJoin K CK)) (c_join : Df K mg "_law_joined" fj fdj ["kinds", "first", "second"]) (G_same : FnOk P w K mg base CX0 k fs fds ["told", "due"] (spSame K 3)) (c_same : Df K mg "_law_same" fs fds ["told", "due"])
    (G_due : FnOk P w K mg base CX0 k fu fdu ["sight", "table", "word"] (spDue K P w)) (c_due : Df K mg "_law_due" fu fdu ["sight", "table", "word"]) :
    FnOk P w K mg base CX0 (k + 1) f fd ["pool", "kinds", "sight", "table"] (spJd K P w CK 13 955206) := by
  refine F.ok sc_law_products_kept (fun vs H Q E h => ?_) (fun cdv A outer s H vs Q E hr h => ?_)
  · obtain ⟨p, a, b, x, r, t, Z, M, n, q, L, l, N, rfl, _⟩ := h
    rfl
  · obtain ⟨p, a, b, x, r, t, Z, M, n, q5, L, l, N, rfl, hB, hn, hrp, hl7, hFW, hN, q⟩ := h
    refine ⟨_, (pss_cons (ps_set (i := 4) sc_law_products_kept.nd rfl (Or.inl rfl) (pe_ix ix_list (pv 3) pe_int (fun _ _ => rfl)))
      (pss_cons (ps_set (i := 5) sc_law_products_kept.nd rfl (Or.inl rfl) (pe_callB call_len_seq (by rfl) T.len PySem.boot_len (pa_cons (pv 4) pa_nil)))
      (pss_cons (ps_for PassesOwn.never rfl (pi_range1 (by rfl) T.range (pa_cons pe_int pa_nil)) (pg_name (i := 6) sc_law_products_kept.nd rfl (Or.inl rfl))
        (pss_cons (ps_set (i := 7) sc_law_products_kept.nd rfl (Or.inl rfl) (pe_call G_draw hr (by rfl) c_draw.m c_draw.k c_draw.b .nil pass0 (pa_cons (pv 0) (pa_cons (pv 5) pa_nil))))
      (pss_cons (ps_set (i := 8) sc_law_products_kept.nd rfl (Or.inl rfl) (pe_call G_draw hr (by rfl) c_draw.m c_draw.k c_draw.b .nil pass0 (pa_cons (pv 0) (pa_cons (pv 5) pa_nil))))
      (pss_cons (ps_set (i := 9) sc_law_products_kept.nd rfl (Or.inl rfl) (pe_call G_due hr (by rfl) c_due.m c_due.k c_due.b .nil pass0 (pa_cons (pv 2) (pa_cons (pv 3) (pa_cons (pe_op op_add_str (pe_ix ix_list (pv 4) (pv 7) (fun _ _ => rfl)) (pe_ix ix_list (pv 4) (pv 8) (fun _ _ => rfl))) pa_nil)))))
      (pss_one (ps_if (pt_not (pt_val (pe_call G_same hr (by rfl) c_same.m c_same.k c_same.b .nil pass0 (pa_cons (pe_call G_join hr (by rfl) c_join.m c_join.k c_join.b .nil pass0 (pa_cons (pv 1) (pa_cons (pv 7) (pa_cons (pv 8) pa_nil)))) (pa_cons (pe_tup (pa_cons pe_str (pa_cons (pv 9) pa_nil))) pa_nil))))) (pss_one (ps_ret pe_bl)) pss_nil))))))
      (pss_cons (ps_set (i := 10) sc_law_products_kept.nd rfl (Or.inl rfl) (pe_op op_add (pe_call G_draw hr (by rfl) c_draw.m c_draw.k c_draw.b .nil pass0 (pa_cons (pv 0) (pa_cons (pe_op op_pow pe_int pe_int) pa_nil))) (pv 5)))
      (pss_cons (ps_for PassesOwn.never rfl (pi_list (pe_lst (pa_cons (pe_un un_neg pe_int) (pa_cons (pv 5) (pa_cons (pe_un un_neg (pv 10)) (pa_cons (pv 10) pa_nil)))))) (pg_name (i := 11) sc_law_products_kept.nd rfl (Or.inl rfl))
        (pss_cons (ps_set (i := 9) sc_law_products_kept.nd rfl (Or.inl rfl) (pe_tup (pa_cons pe_str (pa_cons (pe_lst (pa_cons pe_int pa_nil)) (pa_cons (pv 11) pa_nil)))))
      (pss_cons (ps_if (pt_not (pt_val (pe_call G_same hr (by rfl) c_same.m c_same.k c_same.b .nil pass0 (pa_cons (pe_call G_join hr (by rfl) c_join.m c_join.k c_join.b .nil pass0 (pa_cons (pv 1) (pa_cons (pv 11) (pa_cons (pe_op op_sub (pv 5) pe_int) pa_nil)))) (pa_cons (pv 9) pa_nil))))) (pss_one (ps_ret pe_bl)) pss_nil)
      (pss_cons (ps_if (pt_not (pt_val (pe_call G_same hr (by rfl) c_same.m c_same.k c_same.b .nil pass0 (pa_cons (pe_call G_join hr (by rfl) c_join.m c_join.k c_join.b .nil pass0 (pa_cons (pv 1) (pa_cons pe_int (pa_cons (pv 11) pa_nil)))) (pa_cons (pv 9) pa_nil))))) (pss_one (ps_ret pe_bl)) pss_nil)
      (pss_cons (ps_set (i := 12) sc_law_products_kept.nd rfl (Or.inl rfl) (pe_op op_add (pv 11) (pe_op op_mul pe_int (pv 5))))
      (pss_cons (ps_if (pt_cmpR op_gt (pv 11) pe_int (nomark _)) (pss_one (ps_set (i := 12) sc_law_products_kept.nd rfl (Or.inl rfl) (pe_un un_neg (pv 11)))) pss_nil)
      (pss_one (ps_if (pt_not (pt_val (pe_call G_same hr (by rfl) c_same.m c_same.k c_same.b .nil pass0 (pa_cons (pe_call G_join hr (by rfl) c_join.m c_join.k c_join.b .nil pass0 (pa_cons (pv 1) (pa_cons (pv 11) (pa_cons (pv 12) pa_nil)))) (pa_cons (pv 9) pa_nil))))) (pss_one (ps_ret pe_bl)) pss_nil))))))))
      (pss_one (ps_ret pe_bl))))))), ?_⟩
    have hA := hB.kinds.alph
    have hAl := hA.len
    have et := tab_eq hFW
    have hf : (tabW q5 L l).1.length ≤ 200 := hFW
    have hpos : 0 < (tabW q5 L l).1.length := by
      obtain ⟨_, h1, h2⟩ := tab5_pos hB.kinds.fits
      rw [et] at h1 h2
      omega
    have b9 : ∀ m : Nat, m < 1000 → ((m : Nat) : Int).natAbs < 2 ^ 9000 := fun m hm => Nat.lt_of_lt_of_le (show _ < 2 ^ 12 by rw [Int.natAbs_natCast]; omega) (Nat.pow_le_pow_right (by decide) (by decide))
    obtain ⟨a0, v1, v2, v3, ht, hap, hw⟩ := hB.tab.wordsAt hB.own
    have c40 : CPow 10 40 := ⟨by decide, by decide, by decide⟩
    have p40 : (0 : Int) < (10 : Int) ^ (40 : Int).toNat := by decide +kernel
    have q40 : ((10 : Int) ^ (40 : Int).toNat).natAbs < 2 ^ 9000 := Nat.lt_of_lt_of_le (show _ < 2 ^ 200 by decide +kernel) (Nat.pow_le_pow_right (by decide) (by decide))
    have okT : ∀ m : Nat, SameOk 3 (.tuple [.str "told", .int (m : Nat)]) := fun m => by
      refine ⟨by show 2 ≤ 100000; decide, fun y hy => ?_⟩
      simp only [List.mem_cons, List.not_mem_nil, or_false] at hy
      rcases hy with rfl | rfl
      · refine SameOk.scal ?_ 2
        exact True.intro
      · refine SameOk.scal ?_ 2
        exact True.intro
    have okN : ∀ z : Int, SameOk 3 (.tuple [.str "none", .list [.int 11], .int z]) := fun z => by
      refine ⟨by show 3 ≤ 100000; decide, fun y hy => ?_⟩
      simp only [List.mem_cons, List.not_mem_nil, or_false] at hy
      rcases hy with rfl | rfl | rfl
      · refine SameOk.scal ?_ 2
        exact True.intro
      · refine ⟨by show 1 ≤ 100000; decide, fun y hy => ?_⟩
        rw [List.mem_singleton.mp hy]
        refine SameOk.scal ?_ 1
        exact True.intro
      · refine SameOk.scal ?_ 2
        exact True.intro
    refine ⟨_, rfl, t, _, 0, _, rfl, rfl, SqL.of ht, rfl, ?_⟩
    refine ⟨_, rfl, a0, _, rfl, .inl (SqL.of hw), ?_⟩
    rw [List.length_map]
    generalize hW : (tabW q5 L l).1 = ws at hf hpos hw
    have hsh := tabW_short hFW
    rw [hW] at hsh
    refine ⟨6, rfl, by decide, by decide, for_range (lo := 0) (n := 6) (fun i σ H' => Bun K P w CK H H' p a b x r t Z M (n + 2 * i) q5 L l (N + 159201 * i) ∧ H' a0 = some (.lst (ws.map fun u => V.str (tx u))) ∧ ∃ v6 v7 v8 v9, σ = [some (.ref p), some (.ref x), some (.ref r), some (.ref t), some (.ref a0), some (.int (ws.length : Nat)), v6, v7, v8, v9, none, none, none]) ⟨hB, hw, none, none, none, none, rfl⟩ (fun i σ H' hi hP => ?_) (fun σ H' hP => ?_)⟩
    · obtain ⟨B, hwi, v6, v7, v8, v9, rfl⟩ := hP
      refine ⟨_, rfl, _, rfl, p, a, b, _, _, rfl, B.pool, by omega, by omega, b9 _ (by omega), fun i1 H1 hd1 hp1 st1 => ?_⟩
      have B1 := B.stand hrp st1 hp1
      have hw1 := st1.1 _ _ hap hwi
      refine ⟨_, rfl, _, rfl, p, a, b, _, _, rfl, B1.pool, by omega, by omega, b9 _ (by omega), fun i2 H2 hd2 hp2 st2 => ?_⟩
      have B2 := (B1.stand hrp st2 hp2).le (n' := n + 2 * (i + 1)) (N' := N + 159201 * i) (by omega) (Nat.le_refl _)
      have hw2 := st2.1 _ _ hap hw1
      obtain ⟨u1, hu1⟩ : ∃ u, ws[i1]? = some u := ⟨_, List.getElem?_eq_getElem (by omega)⟩
      obtain ⟨u2, hu2⟩ : ∃ u, ws[i2]? = some u := ⟨_, List.getElem?_eq_getElem (by omega)⟩
      obtain ⟨s1a, s1b⟩ := hsh u1 (List.mem_of_getElem? hu1)
      obtain ⟨s2a, s2b⟩ := hsh u2 (List.mem_of_getElem? hu2)
      refine ⟨_, rfl, _, rfl, _, rfl, _, rfl, a0, _, _, _, rfl, rfl, SqL.of hw2, atI_nat (by rw [List.getElem?_map, hu1] <;> rfl), _, rfl, _, rfl, a0, _, _, _, rfl, rfl, SqL.of hw2, atI_nat (by rw [List.getElem?_map, hu2] <;> rfl), tx u1, tx u2, rfl, rfl, sizeLine_le (by rw [tx_len, tx_len]; omega), ?_⟩
      rw [tx_app]
      have hl12 : (u1 ++ u2).length ≤ 398 := by rw [List.length_append]; omega
      have hsq : ((u1 ++ u2).length + 1) * ((u1 ++ u2).length + 1) ≤ 399 * 399 := Nat.mul_le_mul (by omega) (by omega)
      have hc12 : ∀ c ∈ u1 ++ u2, c ∈ L := fun c hc => (List.mem_append.mp hc).elim (s1b c) (s2b c)
      refine ⟨t, r, Z, M, q5, L, l, _, u1 ++ u2, rfl, B2.sight, hA, hl7, hFW, B2.tab, hc12, by omega, by omega, fun H3 T3 f3 => ?_⟩
      have B3 := (B2.due f3 T3).le (n' := n + 2 * (i + 1)) (N' := N + 159201 * (i + 1)) (Nat.le_refl _) (by omega)
      have hw3 := (f3.keeps B2.tab.ext).lst _ _ hw2
      have ev : walkN L (tab5 q5 L l).2 0 (u1 ++ u2) = walkN L (tab5 q5 L l).2 i1 u2 := by
        rw [walkN_app, et, walk_word hFW (by rw [hW]; exact hu1)]
      rw [ev]
      refine ⟨_, rfl, _, rfl, _, rfl, x, q5, L, l, _, _, rfl, B3.kinds, fun a' b' u' e1 e2 h1 h2 r1 H4 s4 d4 => ?_, fun h => absurd ⟨by omega, by rw [et, hW]; omega⟩ h, fun _ h => absurd ⟨by omega, by rw [et, hW]; omega⟩ h⟩
      have e1 : i1 = a' := Int.natCast_inj.mp e1
      have e2 : i2 = b' := Int.natCast_inj.mp e2
      subst e1
      subst e2
      rw [et, hW, hu2] at h2
      cases h2
      have B4 := B3.same s4
      refine ⟨_, rfl, sizeLine_le (by show 2 ≤ _; decide), fun c nc => ?_⟩
      have sc := same_new (o := .tup [.str "told", .int (walkN L (tab5 q5 L l).2 i1 u2 : Nat)]) nc
      have B5 := B4.same sc
      refine ⟨.ref r1, .ref c, .tuple [.str "told", .int (walkN L (tab5 q5 L l).2 i1 u2 : Nat)], rfl, Dp.same sc _ _ d4, .tup (.of upd_same) (.cons (.str _) (.cons (.int _) .nil)), okT _, fun H5 s5 => ?_⟩
      refine ⟨_, rfl, ?_⟩
      refine iteF ?_
      exact ⟨B5.same s5, s5 _ _ (sc _ _ (s4 _ _ hw3)), _, _, _, _, rfl⟩
    · obtain ⟨B, hwi, v6, v7, v8, v9, rfl⟩ := hP
      refine ⟨_, rfl, _, _, rfl, rfl, c40, p, a, b, _, _, rfl, B.pool, by omega, p40, q40, fun fr H1 hfr hp1 st1 => ?_⟩
      have B1 := B.stand hrp st1 hp1
      refine ⟨_, rfl, _, _, rfl, rfl, ?_⟩
      refine ⟨_, rfl, _, rfl, _, rfl, _, rfl, _, rfl, sizeLine_le (by show 4 ≤ _; decide), fun D nD => ?_⟩
      have sD := same_new (o := .lst [.int (-1), .int (ws.length : Nat), .int (-((fr : Nat) + (ws.length : Nat))), .int ((fr : Nat) + (ws.length : Nat))]) nD
      have B2 := B1.same sD
      have hD : (upd H1 D (.lst [.int (-1), .int (ws.length : Nat), .int (-((fr : Nat) + (ws.length : Nat))), .int ((fr : Nat) + (ws.length : Nat))])) D = some (.lst [.int (-1), .int (ws.length : Nat), .int (-((fr : Nat) + (ws.length : Nat))), .int ((fr : Nat) + (ws.length : Nat))]) := upd_same
      refine ⟨D, rfl, ⟨_, SqL.of hD⟩, for_list (xs := [.int (-1), .int (ws.length : Nat), .int (-((fr : Nat) + (ws.length : Nat))), .int ((fr : Nat) + (ws.length : Nat))]) (fun i σ H' => Bun K P w CK H H' p a b x r t Z M (n + 13) q5 L l (N + 955206) ∧ H' D = some (.lst [.int (-1), .int (ws.length : Nat), .int (-((fr : Nat) + (ws.length : Nat))), .int ((fr : Nat) + (ws.length : Nat))]) ∧
        ∃ v6 v7 v8 v9 v11 v12, σ = [some (.ref p), some (.ref x), some (.ref r), some (.ref t), some (.ref a0), some (.int (ws.length : Nat)), v6, v7, v8, v9, some (.int ((fr : Nat) + (ws.length : Nat))), v11, v12]) ⟨B2.le (by omega) (by omega), hD, v6, v7, v8, v9, none, none, rfl⟩ (fun i σ H' _ hP => SqL.of hP.2.1) (fun i y σ H' hy hP => ?_) (fun σ H' hP => ?_)⟩
      · obtain ⟨C, hDi, v6, v7, v8, v9, v11, v12, rfl⟩ := hP
        obtain ⟨z, rfl, hz⟩ : ∃ z : Int, y = .int z ∧ ¬ (0 ≤ z ∧ z < (ws.length : Nat)) := by
          match i, hy with
          | 0, hy => cases hy; exact ⟨_, rfl, by omega⟩
          | 1, hy => cases hy; exact ⟨_, rfl, by omega⟩
          | 2, hy => cases hy; exact ⟨_, rfl, by omega⟩
          | 3, hy => cases hy; exact ⟨_, rfl, by omega⟩
          | i + 4, hy =>
            rw [List.getElem?_eq_none (by show 4 ≤ i + 4; omega)] at hy
            cases hy
        have hz5 : ¬ (0 ≤ z ∧ z < ((tab5 q5 L l).1.length : Nat)) := by rw [et, hW]; exact hz
        refine ⟨sizeLine_le (by show 1 ≤ _; decide), fun e ne => ⟨_, rfl, sizeLine_le (by show 3 ≤ _; decide), fun c nc => ?_⟩⟩
        have se := (same_new (o := .lst [.int 11]) ne).trans (same_new (o := .tup [.str "none", .ref e, .int z]) nc)
        have te : (upd (upd H' e (.lst [.int 11])) c (.tup [.str "none", .ref e, .int z])) e = some (.lst [.int 11]) := same_new nc _ _ upd_same
        have C1 := C.same se
        have hD1 := se _ _ hDi
        have dc : Dp K (upd (upd H' e (.lst [.int 11])) c (.tup [.str "none", .ref e, .int z])) (.ref c) (.tuple [.str "none", .list [.int 11], .int z]) := .tup (.of upd_same) (.cons (.str _) (.cons (.lst (SqL.of te) (.cons (.int _) .nil)) (.cons (.int _) .nil)))
        generalize upd (upd H' e (.lst [.int 11])) c (.tup [.str "none", .ref e, .int z]) = H2 at C1 hD1 dc ⊢
        refine ⟨_, rfl, _, rfl, _, rfl, _, _, rfl, rfl, x, q5, L, l, _, _, rfl, C1.kinds, fun a' b' u' e1 e2 h1 h2 => absurd ⟨by omega, by omega⟩ hz5, fun _ r1 H3 s3 d3 => ?_, fun h => absurd h hz5⟩
        refine ⟨_, rfl, .ref r1, .ref c, _, rfl, d3, Dp.same s3 _ _ dc, okN z, fun H4 s4 => ?_⟩
        have C2 := C1.same (s3.trans s4)
        have hD2 := (s3.trans s4) _ _ hD1
        have dc2 := Dp.same (s3.trans s4) _ _ dc
        refine ⟨_, rfl, ?_⟩
        refine iteF ?_
        refine ⟨_, rfl, _, rfl, x, q5, L, l, _, _, rfl, C2.kinds, fun a' b' u' e1 e2 h1 h2 => absurd ⟨by omega, by have := (List.getElem?_eq_some_iff.mp h2).1; omega⟩ hz5, fun h => absurd ⟨by omega, by rw [et, hW]; omega⟩ h, fun _ _ r2 H5 s5 d5 => ?_⟩
        refine ⟨_, rfl, .ref r2, .ref c, _, rfl, d5, Dp.same s5 _ _ dc2, okN z, fun H6 s6 => ?_⟩
        have C3 := C2.same (s5.trans s6)
        have hD3 := (s5.trans s6) _ _ hD2
        have dc3 := Dp.same (s5.trans s6) _ _ dc2
        refine ⟨_, rfl, ?_⟩
        refine iteF ?_
        refine ⟨_, rfl, _, rfl, _, _, rfl, rfl, .inl ⟨by decide, by decide⟩, _, _, rfl, rfl, ?_⟩
        refine ⟨_, rfl, _, _, rfl, rfl, _, rfl, ?_⟩
        by_cases hpz : z > 0
        · rw [decide_eq_true hpz]
          refine iteT ?_
          refine ⟨_, rfl, _, rfl, ?_⟩
          refine ⟨_, rfl, _, rfl, _, rfl, x, q5, L, l, _, _, rfl, C3.kinds, fun a' b' u' e1 e2 h1 h2 => absurd ⟨by omega, by omega⟩ hz5, fun _ r3 H7 s7 d7 => ?_, fun h => absurd h hz5⟩
          refine ⟨_, rfl, .ref r3, .ref c, _, rfl, d7, Dp.same s7 _ _ dc3, okN z, fun H8 s8 => ?_⟩
          refine ⟨_, rfl, ?_⟩
          refine iteF ?_
          exact ⟨C3.same (s7.trans s8), (s7.trans s8) _ _ hD3, _, _, _, _, _, _, rfl⟩
        · rw [decide_eq_false hpz]
          refine iteF ?_
          refine ⟨_, rfl, _, rfl, _, rfl, x, q5, L, l, _, _, rfl, C3.kinds, fun a' b' u' e1 e2 h1 h2 => absurd ⟨by omega, by omega⟩ hz5, fun _ r3 H7 s7 d7 => ?_, fun h => absurd h hz5⟩
          refine ⟨_, rfl, .ref r3, .ref c, _, rfl, d7, Dp.same s7 _ _ dc3, okN z, fun H8 s8 => ?_⟩
          refine ⟨_, rfl, ?_⟩
          refine iteF ?_
          exact ⟨C3.same (s7.trans s8), (s7.trans s8) _ _ hD3, _, _, _, _, _, _, rfl⟩
      · obtain ⟨C, hDi, v6, v7, v8, v9, v11, v12, rfl⟩ := hP
        exact q H' C
/-! ### _law_judged -/
theorem ok_judged {f ff fw fp CK : Addr} {fd fdf fdw fdp : FuncData} {k : Nat} (F : Fun K "_law_judged" "_law_judged" s_law_judged f fd) (G_fits : FnOk P w K mg base CX0 k ff fdf ["kinds", "sight", "table"] (spFits K CK)) (c_fits : Df K mg "_law_fits" ff fdf ["kinds", "sight", "table"])
    (G_wkept : FnOk P w K mg base CX0 k fw fdw ["pool", "kinds", "sight", "table"] (spJd K P w CK 78 726)) (c_wkept : Df K mg "_law_words_kept" fw fdw ["pool", "kinds", "sight", "table"])
    (G_pkept : FnOk P w K mg base CX0 k fp fdp ["pool", "kinds", "sight", "table"] (spJd K P w CK 13 955206)) (c_pkept : Df K mg "_law_products_kept" fp fdp ["pool", "kinds", "sight", "table"]) :
    FnOk P w K mg base CX0 (k + 1) f fd ["pool", "kinds", "sight", "table"] (spJd K P w CK 91 955932) := by
  refine F.ok sc_law_judged (fun vs H Q E h => ?_) (fun cdv A outer s H vs Q E hr h => ?_)
  · obtain ⟨p, a, b, x, r, t, Z, M, n, q, L, l, N, rfl, _⟩ := h
    rfl
  · obtain ⟨p, a, b, x, r, t, Z, M, n, q5, L, l, N, rfl, hB, hn, hrp, hl7, hFW, hN, q⟩ := h
    refine ⟨_, (pss_cons (ps_if (pt_not (pt_val (pe_call G_fits hr (by rfl) c_fits.m c_fits.k c_fits.b .nil pass0 (pa_cons (pv 1) (pa_cons (pv 2) (pa_cons (pv 3) pa_nil)))))) (pss_one (ps_ret pe_bl)) pss_nil)
      (pss_cons (ps_if (pt_not (pt_val (pe_call G_wkept hr (by rfl) c_wkept.m c_wkept.k c_wkept.b .nil pass0 (pa_cons (pv 0) (pa_cons (pv 1) (pa_cons (pv 2) (pa_cons (pv 3) pa_nil))))))) (pss_one (ps_ret pe_bl)) pss_nil)
      (pss_one (ps_ret (pe_call G_pkept hr (by rfl) c_pkept.m c_pkept.k c_pkept.b .nil pass0 (pa_cons (pv 0) (pa_cons (pv 1) (pa_cons (pv 2) (pa_cons (pv 3) pa_nil))))))))), ?_⟩
    obtain ⟨v2, v3, hTL⟩ := hB.tab.tabL hFW
    refine ⟨_, rfl, _, rfl, _, rfl, x, r, t, q5, L, l, v2, v3, rfl, hB.kinds, hB.sight, hTL, fun H1 s1 => ⟨_, rfl, ?_⟩⟩
    refine iteF ?_
    have re : ∀ {H0 H1 : Hp} {n1 N1 : Nat}, Bun K P w CK H0 H1 p a b x r t Z M n1 q5 L l N1 → Bun K P w CK H1 H1 p a b x r t Z M n1 q5 L l N1 := fun B => ⟨B.pool, B.kinds, B.sight, B.tab, B.own, Fr.refl _ _⟩
    have B1 := hB.same s1
    refine ⟨_, rfl, _, rfl, _, rfl, _, rfl, p, a, b, x, r, t, Z, M, n, q5, L, l, N, rfl, re B1, by omega, hrp, hl7, hFW, by omega, fun H2 B2 => ⟨_, rfl, ?_⟩⟩
    refine iteF ?_
    refine ⟨_, rfl, _, rfl, _, rfl, _, rfl, p, a, b, x, r, t, Z, M, n + 78, q5, L, l, N + 726, rfl, re B2, by omega, hrp, hl7, hFW, by omega, fun H3 B3 => ?_⟩
    exact q H3 ⟨B3.pool.le (by omega), B3.kinds, B3.sight, B3.tab.le (by omega), B3.own, (Fr.ofSame s1).trans (B2.fr.trans B3.fr)⟩
end
end K71
end
section
set_option Elab.async false
set_option linter.all false
set_option maxRecDepth 100000
set_option maxHeartbeats 8000000
/-! law -/
namespace K71
open PySem PySem.Spec SG NdefX LamX
open L2 hiding It
open PyProof.Rows hiding St
open Lv (Wd Srt IT)
section
variable {K : PySem.W.Frag} {P : Program} {w : World} {CK : Addr} {H0 H H' : Hp} {p a b x r t : Addr} {Z Z' M M' : List Addr} {n n' : Nat} {q : Sort5} {L : List Nat} {l N N' : Nat} {TT : List NTab}
theorem StandT.tups {xs : List V} (s : StandT TT p H H') (hp : H p = some (.lst xs)) : TupsStay H H' :=
  ⟨fun c ys h => s.ext c _ (fun z => by rw [z, hp] at h; cases h) h (fun ps z => by cases z), fun c o u h => s.ext c _ (fun z => by rw [z, hp] at h; cases h) h (fun ps z => by cases z)⟩
theorem tab_standT {sc : Bool} {d : Addr} {m : List (NestedKey × V)} {xs : List V} (T : TabAt K P w H sc d m) (s : StandT TT p H H') (hp : H p = some (.lst xs)) : TabAt K P w H' sc d m := by
  have nd : d ≠ p := fun z => absurd rfl (tab_ne T (by rw [z]; exact hp))
  refine tab_stays T (s.tups hp) fun o ho => s.ext d o nd ho fun ps z => ?_
  subst z
  unfold L2.TabAt at T
  cases sc with
  | true =>
    obtain ⟨kvs, h, _⟩ := T
    rw [h] at ho
    cases ho
  | false =>
    obtain ⟨_, _, ys, h, _⟩ := T
    rw [h] at ho
    cases ho
theorem TabX.standT {xs : List V} (T : TabX K P w H Z t M q L l N) (s : StandT TT p H H') (hp : H p = some (.lst xs)) (hz : p ∈ Z) : TabX K P w H' Z t M q L l N := by
  have tu := s.tups hp
  have ls : ∀ {c : Addr} {ys : List V}, c ≠ p → H c = some (.lst ys) → H' c = some (.lst ys) := fun {c ys} n h => s.ext c _ n h (fun ps z => by cases z)
  rcases T with ⟨a0, a1, fo, bk, d0, d1, rfl, hZ, T⟩ | ⟨a0, a1, a2, a3, rfl, hZ, T⟩
  · have o : ∀ b ∈ [t, a0, a1, fo, bk, d0, d1], b ≠ p := fun b hb z => hZ p hz (z ▸ hb)
    simp only [List.mem_cons, List.not_mem_nil, or_false, forall_eq_or_imp, forall_eq] at o
    obtain ⟨o1, o2, o3, o4, o5, o6, o7⟩ := o
    obtain ⟨rs, r1, r2⟩ := T.rows
    obtain ⟨R, E, U, b1, b2, b3, b4, b5⟩ := T.book
    exact .inl ⟨a0, a1, fo, bk, d0, d1, rfl, hZ, ls o1 T.at_, ls o2 T.words, ⟨rs, ls o3 r1, dpAllD (ds := []) tu _ r2⟩, T.ne, R, E, U, ⟨ls o5 b1.at_, b1.ne, tab_standT b1.t0 s hp, tab_standT b1.t1 s hp⟩, b2, b3, tab_standT b4 s hp, b5⟩
  · have o : ∀ b ∈ [t, a0, a1, a3], b ≠ p := fun b hb z => hZ p hz (z ▸ hb)
    simp only [List.mem_cons, List.not_mem_nil, or_false, forall_eq_or_imp, forall_eq] at o
    obtain ⟨o1, o2, o3, o4⟩ := o
    obtain ⟨rs, r1, r2⟩ := T.rows
    exact .inr ⟨a0, a1, a2, a3, rfl, hZ, ls o1 T.at_, ls o2 T.words, ⟨rs, ls o3 r1, dpAllD (ds := []) tu _ r2⟩, ls o4 T.nil⟩
theorem KindsAt.standT {xs : List V} (k : KindsAt K CK H x q L l) (s : StandT TT p H H') (hp : H p = some (.lst xs)) : KindsAt K CK H' x q L l :=
  k.stay (s.tups hp) fun C dx fs h => s.ext x _ (fun z => by rw [z, hp] at h; cases h) h (fun ps z => by cases z)
theorem SightAt.standT (k : SightAt H r q L l) (s : StandT TT p H H') (h : r ≠ p) : SightAt H' r q L l := s.ext r _ h k (fun ps z => by cases z)
/-- other places are foreign to it, too -/
theorem TabX.more (T : TabX K P w H Z t M q L l N) (h : ∀ z ∈ Z', H z = none) : TabX K P w H (Z' ++ Z) t M q L l N := by
  rcases T with ⟨a0, a1, fo, bk, d0, d1, rfl, hZ, T⟩ | ⟨a0, a1, a2, a3, rfl, hZ, T⟩
  · refine .inl ⟨a0, a1, fo, bk, d0, d1, rfl, fun z hz => ?_, T⟩
    rcases List.mem_append.mp hz with y | y
    · obtain ⟨rs, r1, r2⟩ := T.rows
      obtain ⟨R, E, U, b1, b2, b3, b4, b5⟩ := T.book
      have g := h z y
      obtain ⟨o4, h4⟩ := tab_some b4
      obtain ⟨o5, h5⟩ := tab_some b1.t0
      obtain ⟨o6, h6⟩ := tab_some b1.t1
      have e1 := T.at_
      have e2 := T.words
      have e3 := b1.at_
      intro m
      simp only [List.mem_cons, List.not_mem_nil, or_false] at m
      rcases m with rfl | rfl | rfl | rfl | rfl | rfl | rfl
      · rw [g] at e1; cases e1
      · rw [g] at e2; cases e2
      · rw [g] at r1; cases r1
      · rw [g] at h4; cases h4
      · rw [g] at e3; cases e3
      · rw [g] at h5; cases h5
      · rw [g] at h6; cases h6
    · exact hZ z y
  · refine .inr ⟨a0, a1, a2, a3, rfl, fun z hz => ?_, T⟩
    rcases List.mem_append.mp hz with y | y
    · obtain ⟨rs, r1, r2⟩ := T.rows
      have g := h z y
      have e1 := T.at_
      have e2 := T.words
      have e3 := T.nil
      intro m
      simp only [List.mem_cons, List.not_mem_nil, or_false] at m
      rcases m with rfl | rfl | rfl | rfl
      · rw [g] at e1; cases e1
      · rw [g] at e2; cases e2
      · rw [g] at r1; cases r1
      · rw [g] at e3; cases e3
    · exact hZ z y
/-- the other table's work leaves it -/
theorem Bun.other (B : Bun K P w CK H0 H p a b x r t Z M n q L l N) (f : Fr (p :: M') H H') (e : ∀ b ∈ M', IsExt H b) (hp : PoolAt H' p a b n') (hrp : r ≠ p) (sub : ∀ b ∈ M', b ∈ Z) : Bun K P w CK H' H' p a b x r t Z M n' q L l N := by
  obtain ⟨xs, hx⟩ := B.pool.lst
  have nt : ∀ b ∈ p :: M', NoTup H b := fun b hb => by
    rcases List.mem_cons.mp hb with z | z
    · rw [z]
      exact ⟨(fun ys z => by rw [hx] at z; cases z), (fun o u z => by rw [hx] at z; cases z)⟩
    · exact (e b z).noTup
  have tu := f.tups nt
  have at_ : ∀ {c : Addr} {o : HO}, c ≠ p → H c = some o → (∀ φ, o ≠ .ext φ) → H' c = some o := fun {c o} n h m => f.ext c o (fun z => by
    rcases List.mem_cons.mp z with y | y
    · exact n y
    · obtain ⟨φ, g⟩ := e c y
      rw [g] at h
      exact m φ (Option.some.inj h).symm) h
  refine ⟨hp, B.kinds.stay tu fun C dx fs h => at_ (fun z => by rw [z, hx] at h; cases h) h (fun φ z => by cases z), at_ hrp B.sight (fun φ z => by cases z), B.tab.fr f nt fun b hb => ?_, B.own, Fr.refl _ _⟩
  rcases List.mem_cons.mp hb with z | z
  · rw [z]; exact B.own
  · exact sub b z
theorem Bun.anew (B : Bun K P w CK H0 H p a b x r t Z M n q L l N) : Bun K P w CK H H p a b x r t Z M n q L l N := ⟨B.pool, B.kinds, B.sight, B.tab, B.own, Fr.refl _ _⟩
/-- the law's first table, or the empty list in its place -/
def TabO (K : PySem.W.Frag) (P : Program) (w : World) (H : Hp) (Z : List Addr) (t : Addr) (M : List Addr) (q : Sort5) (L : List Nat) (l : Nat) : Prop :=
  (¬ FitW q L l ∧ H t = some (.lst []) ∧ M = []) ∨ (FitW q L l ∧ TabX K P w H Z t M q L l 130000)
theorem TabO.same (T : TabO K P w H Z t M q L l) (e : Same H H') : TabO K P w H' Z t M q L l := T.elim (fun ⟨h1, h2, h3⟩ => .inl ⟨h1, e _ _ h2, h3⟩) fun ⟨h1, h2⟩ => .inr ⟨h1, h2.same e⟩
theorem TabO.stand {xs : List V} (T : TabO K P w H Z t M q L l) (s : Stand p H H') (hp : H p = some (.lst xs)) (hz : p ∈ Z) (n : t ≠ p) : TabO K P w H' Z t M q L l := T.elim (fun ⟨h1, h2, h3⟩ => .inl ⟨h1, s.1 _ _ n h2, h3⟩) fun ⟨h1, h2⟩ => .inr ⟨h1, h2.stand s hp hz⟩
theorem TabO.standT {xs : List V} (T : TabO K P w H Z t M q L l) (s : StandT TT p H H') (hp : H p = some (.lst xs)) (hz : p ∈ Z) (n : t ≠ p) : TabO K P w H' Z t M q L l := T.elim (fun ⟨h1, h2, h3⟩ => .inl ⟨h1, s.ext _ _ n h2 (fun ps z => by cases z), h3⟩) fun ⟨h1, h2⟩ => .inr ⟨h1, h2.standT s hp hz⟩
theorem TabO.more (T : TabO K P w H Z t M q L l) (h : ∀ z ∈ Z', H z = none) : TabO K P w H (Z' ++ Z) t M q L l := T.elim .inl fun ⟨h1, h2⟩ => .inr ⟨h1, h2.more h⟩
theorem TabO.some_ (T : TabO K P w H Z t M q L l) : ∀ b ∈ M, H b ≠ none := fun b hb z => by
  rcases T with ⟨_, _, rfl⟩ | ⟨_, T⟩
  · exact nomatch hb
  · obtain ⟨φ, h⟩ := T.ext b hb
    rw [h] at z
    cases z
theorem tabO_of (h : LvOut K P w H H' t q L l) (hZ : ∀ z ∈ Z, H z ≠ none) : ∃ M, TabO K P w H' Z t M q L l ∧ H t = none ∧ ∀ b ∈ M, H b = none := by
  rcases h with ⟨h1, h2, h3⟩ | ⟨h1, a0, a1, fo, bk, d0, d1, fr, T⟩ | ⟨h1, a0, a1, a2, a3, fr, T⟩
  · exact ⟨[], .inl ⟨h1, h3, rfl⟩, h2, fun b hb => nomatch hb⟩
  · exact ⟨[d0, d1], .inr ⟨h1, .inl ⟨a0, a1, fo, bk, d0, d1, rfl, fun z hz m => hZ z hz (fr z m), T⟩⟩, fr t List.mem_cons_self, fun b hb => fr b (by
      simp only [List.mem_cons, List.not_mem_nil, or_false] at hb ⊢
      rcases hb with rfl | rfl <;> simp)⟩
  · exact ⟨[], .inr ⟨h1, .inr ⟨a0, a1, a2, a3, rfl, fun z hz m => hZ z hz (fr z (by
      simp only [List.mem_cons, List.not_mem_nil, or_false] at m ⊢
      rcases m with rfl | rfl | rfl | rfl <;> simp)), T⟩⟩, fr t List.mem_cons_self, fun b hb => nomatch hb⟩
end
section
variable {P : Program} {w : World} {K : PySem.W.Frag} {mg : Str → Option Value} {base : Heap}
theorem passF {X : Cx} : Passes (L2N.CX X.prog X.w) X (fun _ _ _ => False) := fun _ _ _ _ _ _ _ h => by
  obtain ⟨_, _, _, _, _, _, _, _, _, _, _, _, hE⟩ := h
  exact hE.elim
def spLaw (TT : List NTab) (K : PySem.W.Frag) : Sp := fun vs H Q _ => ∃ (l : Addr) (ns : List Int), vs = [.ref l] ∧ SqL K H l (ns.map V.int) ∧ ns.length ≤ 1000 ∧ TabsN TT H ∧ ∀ H', Q (.bl true) H'
theorem ok_law {f fo fd_ fs fl fa fr fi ff fj fg aA CK : Addr} {C : Nat → Addr} {fd fdo fdd fds fdl fda fdr fdi fdf fdj fdg : FuncData} {TT : List NTab} {k ki : Nat} (F : Fun K "law" "law" s_law f fd) (T : Blt mg)
    (G_open : FnOk P w K mg base CX0 k fo fdo ["script"] (spOpen K)) (c_open : Df K mg "_law_open" fo fdo ["script"]) (G_draw : FnOk P w K mg base CX0 k fd_ fdd ["pool", "many"] (spDraw K)) (c_draw : Df K mg "_law_draw" fd_ fdd ["pool", "many"])
    (G_sight : FnOk P w K mg base CX0 k fs fds ["pool", "great"] spSight) (c_sight : Df K mg "_law_sight" fs fds ["pool", "great"]) (G_levels : FnOk P w K mg base CX0 k fl fdl ["letters", "sort", "level"] (spLevels K P w)) (c_levels : Df K mg "_law_levels" fl fdl ["letters", "sort", "level"])
    (G_same : FnOk P w K mg base CX0 k fa fda ["told", "due"] (spSame K 3)) (c_same : Df K mg "_law_same" fa fda ["told", "due"]) (G_refus : FnOk P w K mg base CX0 k fr fdr ["pool", "sight"] (spRefus TT)) (c_refus : Df K mg "_law_refusals" fr fdr ["pool", "sight"])
    (M : Mk K CK fi) (mgK : mg "Kinds" = some (.ref CK)) (bi : L2.Binds K fdi ["self", "letters", "sort", "level"] []) (G_i : FnOk P w K mg base (L2N.CX P w) ki fi fdi ["self", "letters", "sort", "level"] (spInit K TT CK (C 1) (C 5) (C 3) (C 20))) (hki : ki + 1 ≤ k)
    (G_ref : FnOk P w K mg base CX0 k ff fdf ["letters", "sort", "level"] (spRef K TT)) (c_ref : Df K mg "_law_refused" ff fdf ["letters", "sort", "level"]) (G_judged : FnOk P w K mg base CX0 k fj fdj ["pool", "kinds", "sight", "table"] (spJd K P w CK 91 955932)) (c_judged : Df K mg "_law_judged" fj fdj ["pool", "kinds", "sight", "table"])
    (G_long : FnOk P w K mg base CX0 k fg fdg ["pool", "kinds", "sight", "table"] (spLong K P w CK)) (c_long : Df K mg "_law_long_kept" fg fdg ["pool", "kinds", "sight", "table"]) (hgl : mg "SORTS" = some (.ref aA)) (hal : ∀ H, SqT K H aA sorts5) :
    FnOk P w K mg base CX0 (k + 1) f fd ["script"] (spLaw TT K) := by
  refine F.ok sc_law (fun vs H Q E h => ?_) (fun cdv A outer s H vs Q E hr h => ?_)
  · obtain ⟨l, ns, rfl, _⟩ := h
    rfl
  · obtain ⟨ls, ns, rfl, hls, hns, hT, q⟩ := h
    have hri : Room (ki + 1) (A.deeper (envOfC "law" (defScope s_law) s.heap.objs.size f cdv)) := hr.mono hki
    have hu0 : (cxOf CX0 P w K mg base N_law "law" (defScope s_law) f cdv A outer s H E).nox.A.units < cLine := Nat.lt_of_le_of_lt (Nat.le_add_right _ 64) hr.units
    refine ⟨_, (pss_cons (ps_set (i := 1) sc_law.nd rfl (Or.inl rfl) (pe_call G_open hr (by rfl) c_open.m c_open.k c_open.b .nil pass0 (pa_cons (pv 0) pa_nil)))
      (pss_cons (ps_set (i := 2) sc_law.nd rfl (Or.inl rfl) (pe_cmpR op_eq (pe_call G_draw hr (by rfl) c_draw.m c_draw.k c_draw.b .nil pass0 (pa_cons (pv 1) (pa_cons pe_int pa_nil))) pe_int (nomark _)))
      (pss_cons (ps_set (i := 3) sc_law.nd rfl (Or.inl rfl) (pe_call G_sight hr (by rfl) c_sight.m c_sight.k c_sight.b .nil pass0 (pa_cons (pv 1) (pa_cons (pv 2) pa_nil))))
      (pss_cons (ps_set (i := 4) sc_law.nd rfl (Or.inl rfl) (pe_call G_levels hr (by rfl) c_levels.m c_levels.k c_levels.b .nil pass0 (pa_cons (pe_ix ix_list (pv 3) pe_int (fun _ _ => rfl)) (pa_cons (pe_ix ix_list (pv 3) pe_int (fun _ _ => rfl)) (pa_cons (pe_ix ix_list (pv 3) pe_int (fun _ _ => rfl)) pa_nil)))))
      (pss_cons (ps_set (i := 5) sc_law.nd rfl (Or.inl rfl) (pe_call G_sight hr (by rfl) c_sight.m c_sight.k c_sight.b .nil pass0 (pa_cons (pv 1) (pa_cons pe_bl pa_nil))))
      (pss_cons (ps_set (i := 6) sc_law.nd rfl (Or.inl rfl) (pe_call G_levels hr (by rfl) c_levels.m c_levels.k c_levels.b .nil pass0 (pa_cons (pe_ix ix_list (pv 5) pe_int (fun _ _ => rfl)) (pa_cons (pe_ix ix_list (pv 5) pe_int (fun _ _ => rfl)) (pa_cons (pe_ix ix_list (pv 5) pe_int (fun _ _ => rfl)) pa_nil)))))
      (pss_cons (ps_if (pt_not (pt_val (pe_call G_same hr (by rfl) c_same.m c_same.k c_same.b .nil pass0 (pa_cons (pe_glob (v := .ref aA) (by rfl) hgl rfl) (pa_cons (pe_tup (pa_cons pe_str (pa_cons pe_str (pa_cons pe_str (pa_cons pe_str (pa_cons pe_str pa_nil)))))) pa_nil))))) (pss_one (ps_ret pe_bl)) pss_nil)
      (pss_cons (ps_if (pt_not (pt_val (pe_call G_refus hr (by rfl) c_refus.m c_refus.k c_refus.b .nil pass0 (pa_cons (pv 1) (pa_cons (pv 5) pa_nil))))) (pss_one (ps_ret pe_bl)) pss_nil)
      (pss_cons (ps_set (i := 7) sc_law.nd rfl (Or.inl rfl) (pe_make M G_i hri (by rfl) mgK bi .nil passF (pa_cons (pe_ix ix_list (pv 5) pe_int (fun _ _ => rfl)) (pa_cons (pe_ix ix_list (pv 5) pe_int (fun _ _ => rfl)) (pa_cons (pe_ix ix_list (pv 5) pe_int (fun _ _ => rfl)) pa_nil)))))
      (pss_cons (ps_if (pt_cmpR (op_eqNil hu0) (pv 4) (pe_lst pa_nil) (nomark _))
        (pss_cons (ps_set (i := 8) sc_law.nd rfl (Or.inl rfl) (pe_call G_ref hr (by rfl) c_ref.m c_ref.k c_ref.b .nil pass0 (pa_cons (pe_ix ix_list (pv 3) pe_int (fun _ _ => rfl)) (pa_cons (pe_ix ix_list (pv 3) pe_int (fun _ _ => rfl)) (pa_cons (pe_ix ix_list (pv 3) pe_int (fun _ _ => rfl)) pa_nil)))))
        (pss_cons (ps_if (pt_not (pt_val (pe_call G_same hr (by rfl) c_same.m c_same.k c_same.b .nil pass0 (pa_cons (pv 8) (pa_cons (pe_tup (pa_cons (pe_lst (pa_cons pe_int pa_nil)) (pa_cons pe_int pa_nil))) pa_nil))))) (pss_one (ps_ret pe_bl)) pss_nil)
        (pss_one (ps_ret (pe_call G_judged hr (by rfl) c_judged.m c_judged.k c_judged.b .nil pass0 (pa_cons (pv 1) (pa_cons (pv 7) (pa_cons (pv 5) (pa_cons (pv 6) pa_nil))))))))) pss_nil)
      (pss_cons (ps_set (i := 9) sc_law.nd rfl (Or.inl rfl) (pe_make M G_i hri (by rfl) mgK bi .nil passF (pa_cons (pe_ix ix_list (pv 3) pe_int (fun _ _ => rfl)) (pa_cons (pe_ix ix_list (pv 3) pe_int (fun _ _ => rfl)) (pa_cons (pe_ix ix_list (pv 3) pe_int (fun _ _ => rfl)) pa_nil)))))
      (pss_cons (ps_if (pt_not (pt_val (pe_call G_judged hr (by rfl) c_judged.m c_judged.k c_judged.b .nil pass0 (pa_cons (pv 1) (pa_cons (pv 9) (pa_cons (pv 3) (pa_cons (pv 4) pa_nil))))))) (pss_one (ps_ret pe_bl)) pss_nil)
      (pss_cons (ps_if (PW.pt (pw_and (pt_val (pv 2)) (pw_and1 (pt_not (pt_val (pe_call G_long hr (by rfl) c_long.m c_long.k c_long.b .nil pass0 (pa_cons (pv 1) (pa_cons (pv 9) (pa_cons (pv 3) (pa_cons (pv 4) pa_nil)))))))))) (pss_one (ps_ret pe_bl)) pss_nil)
      (pss_cons (ps_if (pt_not (pt_val (pe_call G_judged hr (by rfl) c_judged.m c_judged.k c_judged.b .nil pass0 (pa_cons (pv 1) (pa_cons (pv 7) (pa_cons (pv 5) (pa_cons (pv 6) pa_nil))))))) (pss_one (ps_ret pe_bl)) pss_nil)
      (pss_one (ps_ret (pe_call G_judged hr (by rfl) c_judged.m c_judged.k c_judged.b .nil pass0 (pa_cons (pv 1) (pa_cons (pv 9) (pa_cons (pv 3) (pa_cons (pv 4) pa_nil))))))))))))))))))))), ?_⟩
    -- pool, great, sight
    refine ⟨_, rfl, ls, ns, rfl, hls, hns, fun p a b H1 s1 np hp1 => ?_⟩
    have hT1 := hT.ext s1
    refine ⟨_, rfl, p, a, b, 0, _, rfl, hp1, by omega, by decide, Nat.lt_of_lt_of_le (show _ < 2 ^ 12 by decide) (Nat.pow_le_pow_right (by decide) (by decide)), fun d H2 hd hp2 st2 => ⟨rfl, ?_⟩⟩
    obtain ⟨xs1, hx1⟩ := hp1.lst
    have hT2 := tabs_but hT1 hx1 st2.1
    generalize decide (V.int ((d : Nat) : Int) = V.int 0) = gr
    refine ⟨_, rfl, _, rfl, p, a, b, 1, gr, rfl, hp2, by omega, fun q1 L1 l1 r1 H3 hA1 hl1 _ hp3 st3 nr1 hS1 => ?_⟩
    obtain ⟨xs2, hx2⟩ := hp2.lst
    have hT3 := tabs_but hT2 hx2 st3.1
    have hr1p : r1 ≠ p := fun z => by rw [z, hx2] at nr1; cases nr1
    -- table
    refine ⟨_, rfl, r1, _, 0, _, rfl, rfl, SqL.of hS1, rfl, _, rfl, r1, _, 1, _, rfl, rfl, SqL.of hS1, rfl, _, rfl, r1, _, 2, _, rfl, rfl, SqL.of hS1, rfl, q1, L1, l1, rfl, hA1, hl1, fun t1 H4 s4 o4 => ?_⟩
    obtain ⟨xs3, hx3⟩ := hp3.lst
    have pz : ∀ {X : Hp} {xs : List V}, X p = some (.lst xs) → ∀ z ∈ [p], X z ≠ none := fun {X xs} h z hz e => by
      rw [List.mem_singleton.mp hz, h] at e
      cases e
    obtain ⟨M1, T4, nt1, nM1⟩ := tabO_of (Z := [p]) o4 (pz hx3)
    have ht1p : t1 ≠ p := fun z => by rw [z, hx3] at nt1; cases nt1
    have hp4 := hp3.same s4
    have hS4 : SightAt H4 r1 q1 L1 l1 := s4 _ _ hS1
    have hT4 := hT3.ext s4
    obtain ⟨xs4, hx4⟩ := hp4.lst
    -- other
    refine ⟨_, rfl, p, a, b, 1 + 3, false, rfl, hp4, by omega, fun q2 L2 l2 r2 H5 hA2 hl2 hsm hp5 st5 nr2 hS2 => ?_⟩
    have hF2 : FitW q2 L2 l2 := small_fit hA2 (hsm rfl)
    have hT5 := tabs_but hT4 hx4 st5.1
    have hr2p : r2 ≠ p := fun z => by rw [z, hx4] at nr2; cases nr2
    have T5 := T4.stand st5 hx4 List.mem_cons_self ht1p
    have hS5 : SightAt H5 r1 q1 L1 l1 := st5.1 _ _ hr1p hS4
    obtain ⟨xs5, hx5⟩ := hp5.lst
    -- small
    refine ⟨_, rfl, r2, _, 0, _, rfl, rfl, SqL.of hS2, rfl, _, rfl, r2, _, 1, _, rfl, rfl, SqL.of hS2, rfl, _, rfl, r2, _, 2, _, rfl, rfl, SqL.of hS2, rfl, q2, L2, l2, rfl, hA2, hl2, fun t2 H6 s6 o6 => ?_⟩
    obtain ⟨M2, U6, nt2, nM2⟩ := tabO_of (Z := p :: M1) o6 (fun z hz e => by
      rcases List.mem_cons.mp hz with y | y
      · rw [y, hx5] at e; cases e
      · exact T5.some_ z y e)
    obtain ⟨_, X6⟩ := U6.resolve_left fun h => h.1 hF2
    have T6 := (T5.more (Z' := M2) nM2).same s6
    have hp6 := hp5.same s6
    have hS6 : SightAt H6 r1 q1 L1 l1 := s6 _ _ hS5
    have hS26 : SightAt H6 r2 q2 L2 l2 := s6 _ _ hS2
    have hT6 := hT5.ext s6
    have pM2 : p ∈ M2 ++ [p] := List.mem_append_right _ List.mem_cons_self
    -- SORTS
    refine ⟨sizeLine_le (by show 5 ≤ _; decide), fun c nc => ?_⟩
    have sc := same_new (o := .tup sorts5) nc
    have d5 : ∀ Hx : Hp, DpAll K Hx sorts5 ((["rank", "since", "once", "yesterday", "pieces"] : List Str).map PyData.str) := fun Hx => .cons (.str _) (.cons (.str _) (.cons (.str _) (.cons (.str _) (.cons (.str _) .nil))))
    refine ⟨.ref aA, .ref c, .tuple ((["rank", "since", "once", "yesterday", "pieces"] : List Str).map PyData.str), rfl, .tup (hal _) (d5 _), .tup (.of upd_same) (d5 _), ⟨by show 5 ≤ 100000; decide, fun y hy => ?_⟩, fun H7 s7 => ⟨_, rfl, ?_⟩⟩
    · obtain ⟨z, _, rfl⟩ := List.mem_map.mp hy
      refine SameOk.scal ?_ 2
      exact True.intro
    refine iteF ?_
    have s67 := sc.trans s7
    have T7 := T6.same s67
    have X7 := X6.same s67
    have hp7 := hp6.same s67
    have hS7 : SightAt H7 r1 q1 L1 l1 := s67 _ _ hS6
    have hS27 : SightAt H7 r2 q2 L2 l2 := s67 _ _ hS26
    have hT7 := hT6.ext s67
    obtain ⟨xs7, hx7⟩ := hp7.lst
    -- refusals
    refine ⟨_, rfl, _, rfl, p, a, b, r2, 1 + 3 + 3, q2, L2, l2, rfl, hp7, by omega, hS27, hA2, hl2, hT7, fun H8 hp8 w8 => ⟨_, rfl, ?_⟩⟩
    refine iteF ?_
    have T8 := T7.standT w8 hx7 pM2 ht1p
    have X8 := X7.standT w8 hx7 List.mem_cons_self
    have hS8 := hS7.standT w8 hr1p
    have hS28 := hS27.standT w8 hr2p
    have hT8 := w8.tabs
    obtain ⟨xs8, hx8⟩ := hp8.lst
    have F1 : ∀ {q : Sort5} {L : List Nat} {l : Nat}, FitW q L l → Fits5 q L l := fun {q L l} h => (fits_iff q L l).mpr h
    have same5 : ∀ {q q' : Sort5} {L L' : List Nat} {l l' : Nat}, tx L = tx L' → nm5 q = nm5 q' → ((l : Nat) : Int) = (l' : Nat) → L = L' ∧ q = q' ∧ l = l' := fun h1 h2 h3 => ⟨tx_inj h1, nm5_inj h2, Int.natCast_inj.mp h3⟩
    -- beside
    refine ⟨_, rfl, r2, _, 0, _, rfl, rfl, SqL.of hS28, rfl, _, rfl, r2, _, 1, _, rfl, rfl, SqL.of hS28, rfl, _, rfl, r2, _, 2, _, rfl, rfl, SqL.of hS28, rfl, fun xB dxB nxB ndB neB => ?_⟩
    have ndB' : (upd H8 dxB (.own xB)) xB = none := by rw [upd_ne (Ne.symm neB)]; exact nxB
    have sB : Same H8 (upd (upd H8 dxB (.own xB)) xB (.ins CK dxB [])) := (same_new ndB).trans (same_new ndB')
    refine ⟨xB, dxB, H8, tx L2, nm5 q2, (l2 : Nat), rfl, upd_same, nxB, (Ext.refl hT8).same sB, (fun e => by rw [alph_in hA2] at e; cases e), (fun _ e => by rw [sort_in] at e; cases e), (fun _ _ e => absurd ⟨by omega, by omega⟩ e), fun L' q' n' e1 e2 e3 _ _ => ?_⟩
    obtain ⟨rfl, rfl, rfl⟩ := same5 e1 e2 e3
    refine ⟨fun _ H9 E9 K9 => ⟨rfl, ?_⟩, fun n => absurd (F1 hF2) n⟩
    have w9 : StandT TT p H8 H9 := .ofExt E9
    have T9 := T8.standT w9 hx8 pM2 ht1p
    have X9 := X8.standT w9 hx8 List.mem_cons_self
    have hS9 := hS8.standT w9 hr1p
    have hS29 := hS28.standT w9 hr2p
    have hT9 := w9.tabs
    have hp9 := hp8.ext E9
    have ht9 : ∃ ys, H9 t1 = some (.lst ys) ∧ (ys.isEmpty = true ↔ ¬ FitW q1 L1 l1) := by
      rcases T9 with ⟨h1, h2, _⟩ | ⟨h1, h2⟩
      · exact ⟨_, h2, fun _ => h1, fun _ => rfl⟩
      · obtain ⟨a0, v1, v2, v3, ht, _⟩ := h2.wordsAt pM2
        exact ⟨_, ht, fun z => (by cases z), fun z => absurd h1 z⟩
    obtain ⟨ys, hys, hemp⟩ := ht9
    refine ⟨_, rfl, sizeLine_le (by show 0 ≤ _; decide), fun D nD => ?_⟩
    have sD := same_new (o := .lst []) nD
    refine ⟨t1, D, ys, rfl, rfl, SqL.of (sD _ _ hys), SqL.of upd_same, _, rfl, ?_⟩
    have T10 := T9.same sD
    have X10 := X9.same sD
    have K10 := K9.same sD
    have hS10 : SightAt _ r1 q1 L1 l1 := sD _ _ hS9
    have hS210 : SightAt _ r2 q2 L2 l2 := sD _ _ hS29
    have hT10 := hT9.ext sD
    have hp10 := hp9.same sD
    generalize upd H9 D (.lst []) = H10 at T10 X10 K10 hS10 hS210 hT10 hp10 ⊢
    obtain ⟨xs10, hx10⟩ := hp10.lst
    by_cases hF1 : FitW q1 L1 l1
    · have he : ys.isEmpty = false := by
        cases h : ys.isEmpty with
        | true => exact absurd hF1 (hemp.mp h)
        | false => rfl
      rw [he]
      refine iteF ?_
      obtain ⟨_, Y10⟩ := T10.resolve_left fun h => h.1 hF1
      -- kinds
      refine ⟨_, rfl, r1, _, 0, _, rfl, rfl, SqL.of hS10, rfl, _, rfl, r1, _, 1, _, rfl, rfl, SqL.of hS10, rfl, _, rfl, r1, _, 2, _, rfl, rfl, SqL.of hS10, rfl, fun xA dxA nxA ndA neA => ?_⟩
      have ndA' : (upd H10 dxA (.own xA)) xA = none := by rw [upd_ne (Ne.symm neA)]; exact nxA
      have sA : Same H10 (upd (upd H10 dxA (.own xA)) xA (.ins CK dxA [])) := (same_new ndA).trans (same_new ndA')
      refine ⟨xA, dxA, H10, tx L1, nm5 q1, (l1 : Nat), rfl, upd_same, nxA, (Ext.refl hT10).same sA, (fun e => by rw [alph_in hA1] at e; cases e), (fun _ e => by rw [sort_in] at e; cases e), (fun _ _ e => absurd ⟨by omega, by omega⟩ e), fun L' q' n' e1 e2 e3 _ _ => ?_⟩
      obtain ⟨rfl, rfl, rfl⟩ := same5 e1 e2 e3
      refine ⟨fun _ H11 E11 K11 => ⟨rfl, ?_⟩, fun n => absurd (F1 hF1) n⟩
      have w11 : StandT TT p H10 H11 := .ofExt E11
      have BA : Bun K P w CK H11 H11 p a b xA r1 t1 (M2 ++ [p]) M1 (1 + 3 + 3 + 11) q1 L1 l1 130000 := ⟨hp10.ext E11, K11, hS10.standT w11 hr1p, Y10.standT w11 hx10 pM2, pM2, Fr.refl _ _⟩
      have BB : Bun K P w CK H11 H11 p a b xB r2 t2 (p :: M1) M2 (1 + 3 + 3 + 11) q2 L2 l2 130000 := ⟨hp10.ext E11, K10.standT w11 hx10, hS210.standT w11 hr2p, X10.standT w11 hx10 List.mem_cons_self, List.mem_cons_self, Fr.refl _ _⟩
      -- judged
      refine ⟨_, rfl, _, rfl, _, rfl, _, rfl, p, a, b, xA, r1, t1, M2 ++ [p], M1, _, q1, L1, l1, _, rfl, BA, by omega, hr1p, hl1, hF1, by omega, fun H12 B12 => ⟨_, rfl, ?_⟩⟩
      refine iteF ?_
      have BB12 := BB.other B12.fr BA.tab.ext B12.pool hr2p (fun z hz => List.mem_cons_of_mem _ hz)
      have BA12 := B12.anew
      refine ⟨_, rfl, gr, rfl, ?_⟩
      cases gr with
      | true =>
        refine iteT ?_
        refine ⟨_, rfl, _, rfl, _, rfl, _, rfl, p, a, b, xA, r1, t1, M2 ++ [p], M1, _, q1, L1, l1, _, rfl, BA12.pool, by omega, BA12.kinds, BA12.sight, hr1p, pM2, hF1, BA12.tab, fun H13 hp13 st13 => ⟨_, rfl, ?_⟩⟩
        refine iteF ?_
        obtain ⟨xs12, hx12⟩ := BA12.pool.lst
        have A13 := (BA12.stand hr1p st13 hp13).anew
        have B13 := (BB12.stand hr2p st13 hp13).anew
        refine ⟨_, rfl, _, rfl, _, rfl, _, rfl, p, a, b, xB, r2, t2, p :: M1, M2, _, q2, L2, l2, _, rfl, B13, by omega, hr2p, hl2, hF2, by omega, fun H14 B14 => ⟨_, rfl, ?_⟩⟩
        refine iteF ?_
        have A14 := A13.other B14.fr B13.tab.ext B14.pool hr1p (fun z hz => List.mem_append_left _ hz)
        exact ⟨_, rfl, _, rfl, _, rfl, _, rfl, p, a, b, xA, r1, t1, M2 ++ [p], M1, _, q1, L1, l1, _, rfl, A14, by omega, hr1p, hl1, hF1, by omega, fun H15 _ => q H15⟩
      | false =>
        refine iteF ?_
        refine iteF ?_
        refine ⟨_, rfl, _, rfl, _, rfl, _, rfl, p, a, b, xB, r2, t2, p :: M1, M2, _, q2, L2, l2, _, rfl, BB12, by omega, hr2p, hl2, hF2, by omega, fun H14 B14 => ⟨_, rfl, ?_⟩⟩
        refine iteF ?_
        have A14 := BA12.other B14.fr BB12.tab.ext B14.pool hr1p (fun z hz => List.mem_append_left _ hz)
        exact ⟨_, rfl, _, rfl, _, rfl, _, rfl, p, a, b, xA, r1, t1, M2 ++ [p], M1, _, q1, L1, l1, _, rfl, A14, by omega, hr1p, hl1, hF1, by omega, fun H15 _ => q H15⟩
    · have he : ys.isEmpty = true := hemp.mpr hF1
      rw [he]
      refine iteT ?_
      refine ⟨_, rfl, r1, _, 0, _, rfl, rfl, SqL.of hS10, rfl, _, rfl, r1, _, 1, _, rfl, rfl, SqL.of hS10, rfl, _, rfl, r1, _, 2, _, rfl, rfl, SqL.of hS10, rfl, tx L1, nm5 q1, (l1 : Nat), rfl, hT10, .inr (.inr (.inr ⟨L1, q1, l1, rfl, rfl, rfl, hA1, hl1, fun h => hF1 ((fits_iff q1 L1 l1).mp h), fun r9 H11 E11 d11 => ?_⟩))⟩
      refine ⟨_, rfl, sizeLine_le (by show 1 ≤ _; decide), fun e ne => ⟨sizeLine_le (by show 2 ≤ _; decide), fun c nc => ?_⟩⟩
      have se := (same_new (o := .lst [.int 20]) ne).trans (same_new (o := .tup [.ref e, .int 201]) nc)
      have te : (upd (upd H11 e (.lst [.int 20])) c (.tup [.ref e, .int 201])) e = some (.lst [.int 20]) := same_new nc _ _ upd_same
      refine ⟨.ref r9, .ref c, .tuple [.list [.int (20 : Nat)], .int 201], rfl, Dp.same se _ _ d11, .tup (.of upd_same) (.cons (.lst (SqL.of te) (.cons (.int _) .nil)) (.cons (.int _) .nil)), ⟨by show 2 ≤ 100000; decide, fun y hy => ?_⟩, fun H12 s12 => ⟨_, rfl, ?_⟩⟩
      · simp only [List.mem_cons, List.not_mem_nil, or_false] at hy
        rcases hy with rfl | rfl
        · refine ⟨by show 1 ≤ 100000; decide, fun y hy => ?_⟩
          rw [List.mem_singleton.mp hy]
          refine SameOk.scal ?_ 1
          exact True.intro
        · refine SameOk.scal ?_ 2
          exact True.intro
      refine iteF ?_
      have w11 : StandT TT p H10 H11 := .ofExt E11
      have sx := se.trans s12
      have BB : Bun K P w CK H12 H12 p a b xB r2 t2 (p :: M1) M2 (1 + 3 + 3 + 11) q2 L2 l2 130000 := ⟨(hp10.ext E11).same sx, (K10.standT w11 hx10).same sx, sx _ _ (hS210.standT w11 hr2p), (X10.standT w11 hx10 List.mem_cons_self).same sx, List.mem_cons_self, Fr.refl _ _⟩
      exact ⟨_, rfl, _, rfl, _, rfl, _, rfl, p, a, b, xB, r2, t2, p :: M1, M2, _, q2, L2, l2, _, rfl, BB, by omega, hr2p, hl2, hF2, by omega, fun H15 _ => q H15⟩
end
end K71
end
section
set_option Elab.async false
set_option linter.all false
set_option maxRecDepth 100000
set_option maxHeartbeats 0
/-! All together: the law holds. -/
namespace K71
open PySem PySem.Spec PyProof.Rows L2 He PySem.Nxc Hy
open LamX NdefX
theorem funC_of {K : PySem.W.Frag} {x q : Str} {st : Stmt} {p : Defn} {fd : FuncData} (F : FunD K x q (defArgs st) (defBody st) (defScope st) [] [] (fAd K p) fd) : FunC K x q st (fAd K p) fd (cT K p).1 := by
  obtain ⟨oc, od, dV, kV, doc, pm, an, cdv, ct, osl, rfl, lk, hcd, hd, _⟩ := F.ex
  obtain ⟨c, rfl⟩ := codeIn_ref hcd
  rcases hd with ⟨_, rfl⟩ | ⟨h, _⟩
  · have e : (cT K p).1 = c := codeOf_eq lk rfl
    rw [e]
    exact ⟨oc, od, kV, doc, pm, an, ct, osl, rfl, lk, hcd⟩
  · exact absurd rfl h
theorem read_const {P : Program} {w : World} {f z : Str} {j : Nat} {pos : Pos} {okv : V → Prop} : ∀ (v : V) (v' : Value), RelV v v' → okv v → MsgOk P w f (.Constant (.str z) j pos) v' := fun _ _ _ _ => msg_const
theorem law_at {w : World} {mg : Str → Option Value} {f : Addr} {h : Heap} {K : PySem.W.Frag} (X : K.In h) (G : h.Ns mainGlobals mg) (hfa : mg ("law" : Str) = some (.ref f)) (c : SaysY R.prog fa fn [] tf er ex w h K) :
    LawAtS PySem.Challenge.rw_nocounters_k71_kinds_table w K CX0 20 63 "script" mg f h := by
  have c1 : SaysD fa fn K := c.x.t.d
  have more : ex K = true := c.x.more
  obtain ⟨m1, more⟩ := ba more
  obtain ⟨m2, more⟩ := ba more
  obtain ⟨m3, more⟩ := ba more
  obtain ⟨m4, more⟩ := ba more
  obtain ⟨m5, more⟩ := ba more
  obtain ⟨m6, more⟩ := ba more
  obtain ⟨m7, m8⟩ := ba more
  have eB : ∀ d ∈ er, errB K d.cls d.f = true := List.all_eq_true.mp m3
  have oB : ∀ j ∈ [1, 5, 3, 20, 8, 11], ofErrB K j = true := List.all_eq_true.mp m4
  have xB : ∀ i ∈ [1, 5, 3, 20], ∀ j ∈ [1, 5, 3, 20], PySem.W.exmOne K (.ref (errC K i)) (.ref (errC K j)) = some (decide (i = j)) := fun i hi j hj => of_decide_eq_true (List.all_eq_true.mp (List.all_eq_true.mp m5 i hi) j hj)
  have x8 := of_decide_eq_true m6
  have x11 := of_decide_eq_true m7
  have tne : (cT K ("layer_above", none)).2 ≠ (cT K ("flat_layer", none)).2 := fun z => by
    rw [decide_eq_true z] at m8
    cases m8
  have e := hfa.symm.trans (glo_ok X G (c1.fact 43 (f := .glo "law") rfl))
  cases e
  obtain ⟨fd_walk, D_walk⟩ := c1.def_ 0 (d := d_walk) rfl
  have F_walk : Fun K "walk" "walk" s_walk (ga K "walk") fd_walk := fun_of D_walk
  have c_walk : Df K mg "walk" (ga K "walk") fd_walk ["letters", "steps", "state", "word"] := ⟨(glo_ok X G (c1.fact 0 (f := .glo "walk") rfl)), D_walk.kp, F_walk.binds (fun _ _ _ _ _ _ us hl => match us, hl with | [_, _, _, _], _ => rfl)⟩
  obtain ⟨fd_reached, D_reached⟩ := c1.def_ 1 (d := d_reached) rfl
  have F_reached : Fun K "reached" "reached" s_reached (ga K "reached") fd_reached := fun_of D_reached
  have c_reached : Df K mg "reached" (ga K "reached") fd_reached ["steps"] := ⟨(glo_ok X G (c1.fact 1 (f := .glo "reached") rfl)), D_reached.kp, F_reached.binds (fun _ _ _ _ _ _ us hl => match us, hl with | [_], _ => rfl)⟩
  obtain ⟨fd_first_words, D_first_words⟩ := c1.def_ 2 (d := d_first_words) rfl
  have F_first_words : Fun K "first_words" "first_words" s_first_words (ga K "first_words") fd_first_words := fun_of D_first_words
  have c_first_words : Df K mg "first_words" (ga K "first_words") fd_first_words ["letters", "steps"] := ⟨(glo_ok X G (c1.fact 2 (f := .glo "first_words") rfl)), D_first_words.kp, F_first_words.binds (fun _ _ _ _ _ _ us hl => match us, hl with | [_, _], _ => rfl)⟩
  obtain ⟨fd_met, D_met⟩ := c1.def_ 3 (d := d_met) rfl
  have F_met : Fun K "met" "met" s_met (ga K "met") fd_met := fun_of D_met
  have c_met : Df K mg "met" (ga K "met") fd_met ["start", "step", "width", "most"] := ⟨(glo_ok X G (c1.fact 3 (f := .glo "met") rfl)), D_met.kp, F_met.binds (fun _ _ _ _ _ _ us hl => match us, hl with | [_, _, _, _], _ => rfl)⟩
  obtain ⟨fd_rank_items, D_rank_items⟩ := c1.def_ 4 (d := d_rank_items) rfl
  have F_rank_items : Fun K "rank_items" "rank_items" s_rank_items (ga K "rank_items") fd_rank_items := fun_of D_rank_items
  have c_rank_items : Df K mg "rank_items" (ga K "rank_items") fd_rank_items ["items", "number", "letters", "at", "below"] := ⟨(glo_ok X G (c1.fact 4 (f := .glo "rank_items") rfl)), D_rank_items.kp, F_rank_items.binds (fun _ _ _ _ _ _ us hl => match us, hl with | [_, _, _, _, _], _ => rfl)⟩
  obtain ⟨fd_since_items, D_since_items⟩ := c1.def_ 5 (d := d_since_items) rfl
  have F_since_items : Fun K "since_items" "since_items" s_since_items (ga K "since_items") fd_since_items := fun_of D_since_items
  have c_since_items : Df K mg "since_items" (ga K "since_items") fd_since_items ["items", "number", "letters", "at"] := ⟨(glo_ok X G (c1.fact 5 (f := .glo "since_items") rfl)), D_since_items.kp, F_since_items.binds (fun _ _ _ _ _ _ us hl => match us, hl with | [_, _, _, _], _ => rfl)⟩
  obtain ⟨fd_once_items, D_once_items⟩ := c1.def_ 6 (d := d_once_items) rfl
  have F_once_items : Fun K "once_items" "once_items" s_once_items (ga K "once_items") fd_once_items := fun_of D_once_items
  have c_once_items : Df K mg "once_items" (ga K "once_items") fd_once_items ["items", "number", "letters", "at"] := ⟨(glo_ok X G (c1.fact 6 (f := .glo "once_items") rfl)), D_once_items.kp, F_once_items.binds (fun _ _ _ _ _ _ us hl => match us, hl with | [_, _, _, _], _ => rfl)⟩
  obtain ⟨fd_layer_above, D_layer_above⟩ := c1.def_ 7 (d := d_layer_above) rfl
  have F_layer_above : Fun K "layer_above" "layer_above" s_layer_above (ga K "layer_above") fd_layer_above := fun_of D_layer_above
  have c_layer_above : Df K mg "layer_above" (ga K "layer_above") fd_layer_above ["letters", "sort", "below"] := ⟨(glo_ok X G (c1.fact 7 (f := .glo "layer_above") rfl)), D_layer_above.kp, F_layer_above.binds (fun _ _ _ _ _ _ us hl => match us, hl with | [_, _, _], _ => rfl)⟩
  obtain ⟨fd_last_letters, D_last_letters⟩ := c1.def_ 8 (d := d_last_letters) rfl
  have F_last_letters : Fun K "last_letters" "last_letters" s_last_letters (ga K "last_letters") fd_last_letters := fun_of D_last_letters
  have c_last_letters : Df K mg "last_letters" (ga K "last_letters") fd_last_letters ["known", "letter", "level"] := ⟨(glo_ok X G (c1.fact 8 (f := .glo "last_letters") rfl)), D_last_letters.kp, F_last_letters.binds (fun _ _ _ _ _ _ us hl => match us, hl with | [_, _, _], _ => rfl)⟩
  obtain ⟨fd_longer_pieces, D_longer_pieces⟩ := c1.def_ 9 (d := d_longer_pieces) rfl
  have F_longer_pieces : Fun K "longer_pieces" "longer_pieces" s_longer_pieces (ga K "longer_pieces") fd_longer_pieces := fun_of D_longer_pieces
  have c_longer_pieces : Df K mg "longer_pieces" (ga K "longer_pieces") fd_longer_pieces ["known", "letter", "level"] := ⟨(glo_ok X G (c1.fact 9 (f := .glo "longer_pieces") rfl)), D_longer_pieces.kp, F_longer_pieces.binds (fun _ _ _ _ _ _ us hl => match us, hl with | [_, _, _], _ => rfl)⟩
  obtain ⟨fd_flat_layer, D_flat_layer⟩ := c1.def_ 10 (d := d_flat_layer) rfl
  have F_flat_layer : Fun K "flat_layer" "flat_layer" s_flat_layer (ga K "flat_layer") fd_flat_layer := fun_of D_flat_layer
  have c_flat_layer : Df K mg "flat_layer" (ga K "flat_layer") fd_flat_layer ["letters", "sort", "level"] := ⟨(glo_ok X G (c1.fact 10 (f := .glo "flat_layer") rfl)), D_flat_layer.kp, F_flat_layer.binds (fun _ _ _ _ _ _ us hl => match us, hl with | [_, _, _], _ => rfl)⟩
  obtain ⟨fd_kind_layers, D_kind_layers⟩ := c1.def_ 11 (d := d_kind_layers) rfl
  have F_kind_layers : Fun K "kind_layers" "kind_layers" s_kind_layers (ga K "kind_layers") fd_kind_layers := fun_of D_kind_layers
  have c_kind_layers : Df K mg "kind_layers" (ga K "kind_layers") fd_kind_layers ["letters", "sort", "level"] := ⟨(glo_ok X G (c1.fact 11 (f := .glo "kind_layers") rfl)), D_kind_layers.kp, F_kind_layers.binds (fun _ _ _ _ _ _ us hl => match us, hl with | [_, _, _], _ => rfl)⟩
  obtain ⟨fd_check_letters, D_check_letters⟩ := c1.def_ 12 (d := d_check_letters) rfl
  have F_check_letters : Fun K "check_letters" "check_letters" s_check_letters (ga K "check_letters") fd_check_letters := fun_of D_check_letters
  have c_check_letters : Df K mg "check_letters" (ga K "check_letters") fd_check_letters ["letters"] := ⟨(glo_ok X G (c1.fact 12 (f := .glo "check_letters") rfl)), D_check_letters.kp, F_check_letters.binds (fun _ _ _ _ _ _ us hl => match us, hl with | [_], _ => rfl)⟩
  obtain ⟨fd_is_word, D_is_word⟩ := c1.def_ 13 (d := d_is_word) rfl
  have F_is_word : Fun K "is_word" "is_word" s_is_word (ga K "is_word") fd_is_word := fun_of D_is_word
  have c_is_word : Df K mg "is_word" (ga K "is_word") fd_is_word ["letters", "word"] := ⟨(glo_ok X G (c1.fact 13 (f := .glo "is_word") rfl)), D_is_word.kp, F_is_word.binds (fun _ _ _ _ _ _ us hl => match us, hl with | [_, _], _ => rfl)⟩
  obtain ⟨fd_check_sight, D_check_sight⟩ := c1.def_ 14 (d := d_check_sight) rfl
  have F_check_sight : Fun K "check_sight" "check_sight" s_check_sight (ga K "check_sight") fd_check_sight := fun_of D_check_sight
  have c_check_sight : Df K mg "check_sight" (ga K "check_sight") fd_check_sight ["sort", "level"] := ⟨(glo_ok X G (c1.fact 14 (f := .glo "check_sight") rfl)), D_check_sight.kp, F_check_sight.binds (fun _ _ _ _ _ _ us hl => match us, hl with | [_, _], _ => rfl)⟩
  obtain ⟨fd_law_open, D_law_open⟩ := c1.def_ 15 (d := d_law_open) rfl
  have F_law_open : Fun K "_law_open" "_law_open" s_law_open (ga K "_law_open") fd_law_open := fun_of D_law_open
  have c_law_open : Df K mg "_law_open" (ga K "_law_open") fd_law_open ["script"] := ⟨(glo_ok X G (c1.fact 15 (f := .glo "_law_open") rfl)), D_law_open.kp, F_law_open.binds (fun _ _ _ _ _ _ us hl => match us, hl with | [_], _ => rfl)⟩
  obtain ⟨fd_law_mixed, D_law_mixed⟩ := c1.def_ 16 (d := d_law_mixed) rfl
  have F_law_mixed : Fun K "_law_mixed" "_law_mixed" s_law_mixed (ga K "_law_mixed") fd_law_mixed := fun_of D_law_mixed
  have c_law_mixed : Df K mg "_law_mixed" (ga K "_law_mixed") fd_law_mixed ["small", "at"] := ⟨(glo_ok X G (c1.fact 16 (f := .glo "_law_mixed") rfl)), D_law_mixed.kp, F_law_mixed.binds (fun _ _ _ _ _ _ us hl => match us, hl with | [_, _], _ => rfl)⟩
  obtain ⟨fd_law_draw, D_law_draw⟩ := c1.def_ 17 (d := d_law_draw) rfl
  have F_law_draw : Fun K "_law_draw" "_law_draw" s_law_draw (ga K "_law_draw") fd_law_draw := fun_of D_law_draw
  have c_law_draw : Df K mg "_law_draw" (ga K "_law_draw") fd_law_draw ["pool", "many"] := ⟨(glo_ok X G (c1.fact 17 (f := .glo "_law_draw") rfl)), D_law_draw.kp, F_law_draw.binds (fun _ _ _ _ _ _ us hl => match us, hl with | [_, _], _ => rfl)⟩
  obtain ⟨fd_law_fault, D_law_fault⟩ := c1.def_ 18 (d := d_law_fault) rfl
  have F_law_fault : Fun K "_law_fault" "_law_fault" s_law_fault (ga K "_law_fault") fd_law_fault := fun_of D_law_fault
  have c_law_fault : Df K mg "_law_fault" (ga K "_law_fault") fd_law_fault ["e"] := ⟨(glo_ok X G (c1.fact 18 (f := .glo "_law_fault") rfl)), D_law_fault.kp, F_law_fault.binds (fun _ _ _ _ _ _ us hl => match us, hl with | [_], _ => rfl)⟩
  obtain ⟨fd_law_plain, D_law_plain⟩ := c1.def_ 19 (d := d_law_plain) rfl
  have F_law_plain : Fun K "_law_plain" "_law_plain" s_law_plain (ga K "_law_plain") fd_law_plain := fun_of D_law_plain
  have c_law_plain : Df K mg "_law_plain" (ga K "_law_plain") fd_law_plain ["thing"] := ⟨(glo_ok X G (c1.fact 19 (f := .glo "_law_plain") rfl)), D_law_plain.kp, F_law_plain.binds (fun _ _ _ _ _ _ us hl => match us, hl with | [_], _ => rfl)⟩
  obtain ⟨fd_law_same, D_law_same⟩ := c1.def_ 20 (d := d_law_same) rfl
  have F_law_same : Fun K "_law_same" "_law_same" s_law_same (ga K "_law_same") fd_law_same := fun_of D_law_same
  have c_law_same : Df K mg "_law_same" (ga K "_law_same") fd_law_same ["told", "due"] := ⟨(glo_ok X G (c1.fact 20 (f := .glo "_law_same") rfl)), D_law_same.kp, F_law_same.binds (fun _ _ _ _ _ _ us hl => match us, hl with | [_, _], _ => rfl)⟩
  obtain ⟨fd_law_sign, D_law_sign⟩ := c1.def_ 21 (d := d_law_sign) rfl
  have F_law_sign : Fun K "_law_sign" "_law_sign" s_law_sign (ga K "_law_sign") fd_law_sign := fun_of D_law_sign
  have c_law_sign : Df K mg "_law_sign" (ga K "_law_sign") fd_law_sign ["pool"] := ⟨(glo_ok X G (c1.fact 21 (f := .glo "_law_sign") rfl)), D_law_sign.kp, F_law_sign.binds (fun _ _ _ _ _ _ us hl => match us, hl with | [_], _ => rfl)⟩
  obtain ⟨fd_law_word, D_law_word⟩ := c1.def_ 22 (d := d_law_word) rfl
  have F_law_word : Fun K "_law_word" "_law_word" s_law_word (ga K "_law_word") fd_law_word := fun_of D_law_word
  have c_law_word : Df K mg "_law_word" (ga K "_law_word") fd_law_word ["pool", "letters", "size"] := ⟨(glo_ok X G (c1.fact 22 (f := .glo "_law_word") rfl)), D_law_word.kp, F_law_word.binds (fun _ _ _ _ _ _ us hl => match us, hl with | [_, _, _], _ => rfl)⟩
  obtain ⟨fd_law_pieces, D_law_pieces⟩ := c1.def_ 23 (d := d_law_pieces) rfl
  have F_law_pieces : Fun K "_law_pieces" "_law_pieces" s_law_pieces (ga K "_law_pieces") fd_law_pieces := fun_of D_law_pieces
  have c_law_pieces : Df K mg "_law_pieces" (ga K "_law_pieces") fd_law_pieces ["word", "most"] := ⟨(glo_ok X G (c1.fact 23 (f := .glo "_law_pieces") rfl)), D_law_pieces.kp, F_law_pieces.binds (fun _ _ _ _ _ _ us hl => match us, hl with | [_, _], _ => rfl)⟩
  obtain ⟨fd_law_items, D_law_items⟩ := c1.def_ 24 (d := d_law_items) rfl
  have F_law_items : Fun K "_law_items" "_law_items" s_law_items (ga K "_law_items") fd_law_items := fun_of D_law_items
  have c_law_items : Df K mg "_law_items" (ga K "_law_items") fd_law_items ["book", "sort", "level", "word"] := ⟨(glo_ok X G (c1.fact 24 (f := .glo "_law_items") rfl)), D_law_items.kp, F_law_items.binds (fun _ _ _ _ _ _ us hl => match us, hl with | [_, _, _, _], _ => rfl)⟩
  obtain ⟨fd_law_number, D_law_number⟩ := c1.def_ 25 (d := d_law_number) rfl
  have F_law_number : Fun K "_law_number" "_law_number" s_law_number (ga K "_law_number") fd_law_number := fun_of D_law_number
  have c_law_number : Df K mg "_law_number" (ga K "_law_number") fd_law_number ["book", "sort", "level", "word"] := ⟨(glo_ok X G (c1.fact 25 (f := .glo "_law_number") rfl)), D_law_number.kp, F_law_number.binds (fun _ _ _ _ _ _ us hl => match us, hl with | [_, _, _, _], _ => rfl)⟩
  obtain ⟨fd_law_kind, D_law_kind⟩ := c1.def_ 26 (d := d_law_kind) rfl
  have F_law_kind : Fun K "_law_kind" "_law_kind" s_law_kind (ga K "_law_kind") fd_law_kind := fun_of D_law_kind
  have c_law_kind : Df K mg "_law_kind" (ga K "_law_kind") fd_law_kind ["book", "sort", "level", "word"] := ⟨(glo_ok X G (c1.fact 26 (f := .glo "_law_kind") rfl)), D_law_kind.kp, F_law_kind.binds (fun _ _ _ _ _ _ us hl => match us, hl with | [_, _, _, _], _ => rfl)⟩
  obtain ⟨fd_law_table, D_law_table⟩ := c1.def_ 27 (d := d_law_table) rfl
  have F_law_table : Fun K "_law_table" "_law_table" s_law_table (ga K "_law_table") fd_law_table := fun_of D_law_table
  have c_law_table : Df K mg "_law_table" (ga K "_law_table") fd_law_table ["letters", "sort", "level"] := ⟨(glo_ok X G (c1.fact 27 (f := .glo "_law_table") rfl)), D_law_table.kp, F_law_table.binds (fun _ _ _ _ _ _ us hl => match us, hl with | [_, _, _], _ => rfl)⟩
  obtain ⟨fd_law_chain, D_law_chain⟩ := c1.def_ 28 (d := d_law_chain) rfl
  have F_law_chain : Fun K "_law_chain" "_law_chain" s_law_chain (ga K "_law_chain") fd_law_chain := fun_of D_law_chain
  have c_law_chain : Df K mg "_law_chain" (ga K "_law_chain") fd_law_chain ["sort", "level"] := ⟨(glo_ok X G (c1.fact 28 (f := .glo "_law_chain") rfl)), D_law_chain.kp, F_law_chain.binds (fun _ _ _ _ _ _ us hl => match us, hl with | [_, _], _ => rfl)⟩
  obtain ⟨fd_law_levels, D_law_levels⟩ := c1.def_ 29 (d := d_law_levels) rfl
  have F_law_levels : Fun K "_law_levels" "_law_levels" s_law_levels (ga K "_law_levels") fd_law_levels := fun_of D_law_levels
  have c_law_levels : Df K mg "_law_levels" (ga K "_law_levels") fd_law_levels ["letters", "sort", "level"] := ⟨(glo_ok X G (c1.fact 29 (f := .glo "_law_levels") rfl)), D_law_levels.kp, F_law_levels.binds (fun _ _ _ _ _ _ us hl => match us, hl with | [_, _, _], _ => rfl)⟩
  obtain ⟨fd_law_walk, D_law_walk⟩ := c1.def_ 30 (d := d_law_walk) rfl
  have F_law_walk : Fun K "_law_walk" "_law_walk" s_law_walk (ga K "_law_walk") fd_law_walk := fun_of D_law_walk
  have c_law_walk : Df K mg "_law_walk" (ga K "_law_walk") fd_law_walk ["table", "letters", "word"] := ⟨(glo_ok X G (c1.fact 30 (f := .glo "_law_walk") rfl)), D_law_walk.kp, F_law_walk.binds (fun _ _ _ _ _ _ us hl => match us, hl with | [_, _, _], _ => rfl)⟩
  obtain ⟨fd_law_sight, D_law_sight⟩ := c1.def_ 31 (d := d_law_sight) rfl
  have F_law_sight : Fun K "_law_sight" "_law_sight" s_law_sight (ga K "_law_sight") fd_law_sight := fun_of D_law_sight
  have c_law_sight : Df K mg "_law_sight" (ga K "_law_sight") fd_law_sight ["pool", "great"] := ⟨(glo_ok X G (c1.fact 31 (f := .glo "_law_sight") rfl)), D_law_sight.kp, F_law_sight.binds (fun _ _ _ _ _ _ us hl => match us, hl with | [_, _], _ => rfl)⟩
  obtain ⟨fd_law_refused, D_law_refused⟩ := c1.def_ 32 (d := d_law_refused) rfl
  have F_law_refused : Fun K "_law_refused" "_law_refused" s_law_refused (ga K "_law_refused") fd_law_refused := fun_of D_law_refused
  have c_law_refused : Df K mg "_law_refused" (ga K "_law_refused") fd_law_refused ["letters", "sort", "level"] := ⟨(glo_ok X G (c1.fact 32 (f := .glo "_law_refused") rfl)), D_law_refused.kp, F_law_refused.binds (fun _ _ _ _ _ _ us hl => match us, hl with | [_, _, _], _ => rfl)⟩
  obtain ⟨fd_law_fits, D_law_fits⟩ := c1.def_ 33 (d := d_law_fits) rfl
  have F_law_fits : Fun K "_law_fits" "_law_fits" s_law_fits (ga K "_law_fits") fd_law_fits := fun_of D_law_fits
  have c_law_fits : Df K mg "_law_fits" (ga K "_law_fits") fd_law_fits ["kinds", "sight", "table"] := ⟨(glo_ok X G (c1.fact 33 (f := .glo "_law_fits") rfl)), D_law_fits.kp, F_law_fits.binds (fun _ _ _ _ _ _ us hl => match us, hl with | [_, _, _], _ => rfl)⟩
  obtain ⟨fd_law_due, D_law_due⟩ := c1.def_ 34 (d := d_law_due) rfl
  have F_law_due : Fun K "_law_due" "_law_due" s_law_due (ga K "_law_due") fd_law_due := fun_of D_law_due
  have c_law_due : Df K mg "_law_due" (ga K "_law_due") fd_law_due ["sight", "table", "word"] := ⟨(glo_ok X G (c1.fact 34 (f := .glo "_law_due") rfl)), D_law_due.kp, F_law_due.binds (fun _ _ _ _ _ _ us hl => match us, hl with | [_, _, _], _ => rfl)⟩
  obtain ⟨fd_law_kind_told, D_law_kind_told⟩ := c1.def_ 35 (d := d_law_kind_told) rfl
  have F_law_kind_told : Fun K "_law_kind_told" "_law_kind_told" s_law_kind_told (ga K "_law_kind_told") fd_law_kind_told := fun_of D_law_kind_told
  have c_law_kind_told : Df K mg "_law_kind_told" (ga K "_law_kind_told") fd_law_kind_told ["kinds", "word"] := ⟨(glo_ok X G (c1.fact 35 (f := .glo "_law_kind_told") rfl)), D_law_kind_told.kp, F_law_kind_told.binds (fun _ _ _ _ _ _ us hl => match us, hl with | [_, _], _ => rfl)⟩
  obtain ⟨fd_law_joined, D_law_joined⟩ := c1.def_ 36 (d := d_law_joined) rfl
  have F_law_joined : Fun K "_law_joined" "_law_joined" s_law_joined (ga K "_law_joined") fd_law_joined := fun_of D_law_joined
  have c_law_joined : Df K mg "_law_joined" (ga K "_law_joined") fd_law_joined ["kinds", "first", "second"] := ⟨(glo_ok X G (c1.fact 36 (f := .glo "_law_joined") rfl)), D_law_joined.kp, F_law_joined.binds (fun _ _ _ _ _ _ us hl => match us, hl with | [_, _, _], _ => rfl)⟩
  obtain ⟨fd_law_words_kept, D_law_words_kept⟩ := c1.def_ 37 (d := d_law_words_kept) rfl
  have F_law_words_kept : Fun K "_law_words_kept" "_law_words_kept" s_law_words_kept (ga K "_law_words_kept") fd_law_words_kept := fun_of D_law_words_kept
  have c_law_words_kept : Df K mg "_law_words_kept" (ga K "_law_words_kept") fd_law_words_kept ["pool", "kinds", "sight", "table"] := ⟨(glo_ok X G (c1.fact 37 (f := .glo "_law_words_kept") rfl)), D_law_words_kept.kp, F_law_words_kept.binds (fun _ _ _ _ _ _ us hl => match us, hl with | [_, _, _, _], _ => rfl)⟩
  obtain ⟨fd_law_long_kept, D_law_long_kept⟩ := c1.def_ 38 (d := d_law_long_kept) rfl
  have F_law_long_kept : Fun K "_law_long_kept" "_law_long_kept" s_law_long_kept (ga K "_law_long_kept") fd_law_long_kept := fun_of D_law_long_kept
  have c_law_long_kept : Df K mg "_law_long_kept" (ga K "_law_long_kept") fd_law_long_kept ["pool", "kinds", "sight", "table"] := ⟨(glo_ok X G (c1.fact 38 (f := .glo "_law_long_kept") rfl)), D_law_long_kept.kp, F_law_long_kept.binds (fun _ _ _ _ _ _ us hl => match us, hl with | [_, _, _, _], _ => rfl)⟩
  obtain ⟨fd_law_products_kept, D_law_products_kept⟩ := c1.def_ 39 (d := d_law_products_kept) rfl
  have F_law_products_kept : Fun K "_law_products_kept" "_law_products_kept" s_law_products_kept (ga K "_law_products_kept") fd_law_products_kept := fun_of D_law_products_kept
  have c_law_products_kept : Df K mg "_law_products_kept" (ga K "_law_products_kept") fd_law_products_kept ["pool", "kinds", "sight", "table"] := ⟨(glo_ok X G (c1.fact 39 (f := .glo "_law_products_kept") rfl)), D_law_products_kept.kp, F_law_products_kept.binds (fun _ _ _ _ _ _ us hl => match us, hl with | [_, _, _, _], _ => rfl)⟩
  obtain ⟨fd_law_odd_sort, D_law_odd_sort⟩ := c1.def_ 40 (d := d_law_odd_sort) rfl
  have F_law_odd_sort : Fun K "_law_odd_sort" "_law_odd_sort" s_law_odd_sort (ga K "_law_odd_sort") fd_law_odd_sort := fun_of D_law_odd_sort
  have c_law_odd_sort : Df K mg "_law_odd_sort" (ga K "_law_odd_sort") fd_law_odd_sort ["pool"] := ⟨(glo_ok X G (c1.fact 40 (f := .glo "_law_odd_sort") rfl)), D_law_odd_sort.kp, F_law_odd_sort.binds (fun _ _ _ _ _ _ us hl => match us, hl with | [_], _ => rfl)⟩
  obtain ⟨fd_law_refusals, D_law_refusals⟩ := c1.def_ 41 (d := d_law_refusals) rfl
  have F_law_refusals : Fun K "_law_refusals" "_law_refusals" s_law_refusals (ga K "_law_refusals") fd_law_refusals := fun_of D_law_refusals
  have c_law_refusals : Df K mg "_law_refusals" (ga K "_law_refusals") fd_law_refusals ["pool", "sight"] := ⟨(glo_ok X G (c1.fact 41 (f := .glo "_law_refusals") rfl)), D_law_refusals.kp, F_law_refusals.binds (fun _ _ _ _ _ _ us hl => match us, hl with | [_, _], _ => rfl)⟩
  obtain ⟨fd_law_judged, D_law_judged⟩ := c1.def_ 42 (d := d_law_judged) rfl
  have F_law_judged : Fun K "_law_judged" "_law_judged" s_law_judged (ga K "_law_judged") fd_law_judged := fun_of D_law_judged
  have c_law_judged : Df K mg "_law_judged" (ga K "_law_judged") fd_law_judged ["pool", "kinds", "sight", "table"] := ⟨(glo_ok X G (c1.fact 42 (f := .glo "_law_judged") rfl)), D_law_judged.kp, F_law_judged.binds (fun _ _ _ _ _ _ us hl => match us, hl with | [_, _, _, _], _ => rfl)⟩
  obtain ⟨fd_law, D_law⟩ := c1.def_ 43 (d := d_law) rfl
  have F_law : Fun K "law" "law" s_law (ga K "law") fd_law := fun_of D_law
  obtain ⟨fd_Kinds__init, D_Kinds__init⟩ := c1.def_ 44 (d := d_Kinds__init) rfl
  have F_Kinds__init : Fun K "__init__" "Kinds.__init__" s_Kinds__init (ma K (ga K "Kinds") "__init__") fd_Kinds__init := fun_of D_Kinds__init
  have b_Kinds__init : L2.Binds K fd_Kinds__init ["self", "letters", "sort", "level"] [] := F_Kinds__init.binds (fun _ _ _ _ _ _ us hl => match us, hl with | [_, _, _, _], _ => rfl)
  obtain ⟨fd_Kinds__len, D_Kinds__len⟩ := c1.def_ 45 (d := d_Kinds__len) rfl
  have F_Kinds__len : Fun K "__len__" "Kinds.__len__" s_Kinds__len (ma K (ga K "Kinds") "__len__") fd_Kinds__len := fun_of D_Kinds__len
  have b_Kinds__len : L2.Binds K fd_Kinds__len ["self"] [] := F_Kinds__len.binds (fun _ _ _ _ _ _ us hl => match us, hl with | [_], _ => rfl)
  obtain ⟨fd_Kinds_kind_of, D_Kinds_kind_of⟩ := c1.def_ 46 (d := d_Kinds_kind_of) rfl
  have F_Kinds_kind_of : Fun K "kind_of" "Kinds.kind_of" s_Kinds_kind_of (ma K (ga K "Kinds") "kind_of") fd_Kinds_kind_of := fun_of D_Kinds_kind_of
  have b_Kinds_kind_of : L2.Binds K fd_Kinds_kind_of ["self", "word"] [] := F_Kinds_kind_of.binds (fun _ _ _ _ _ _ us hl => match us, hl with | [_, _], _ => rfl)
  obtain ⟨fd_Kinds_product, D_Kinds_product⟩ := c1.def_ 47 (d := d_Kinds_product) rfl
  have F_Kinds_product : Fun K "product" "Kinds.product" s_Kinds_product (ma K (ga K "Kinds") "product") fd_Kinds_product := fun_of D_Kinds_product
  have b_Kinds_product : L2.Binds K fd_Kinds_product ["self", "i", "j"] [] := F_Kinds_product.binds (fun _ _ _ _ _ _ us hl => match us, hl with | [_, _, _], _ => rfl)
  have T : Blt mg := ⟨(free_ok X G (c1.fact 70 (f := .free "len") rfl)), (free_ok X G (c1.fact 71 (f := .free "tuple") rfl)), (free_ok X G (c1.fact 72 (f := .free "sorted") rfl)), (free_ok X G (c1.fact 73 (f := .free "set") rfl)), (free_ok X G (c1.fact 74 (f := .free "list") rfl)), (free_ok X G (c1.fact 75 (f := .free "range") rfl)), (free_ok X G (c1.fact 76 (f := .free "zip") rfl)), (free_ok X G (c1.fact 77 (f := .free "max") rfl)), (free_ok X G (c1.fact 78 (f := .free "min") rfl)), (free_ok X G (c1.fact 79 (f := .free "abs") rfl)), (free_ok X G (c1.fact 80 (f := .free "int") rfl)), (free_ok X G (c1.fact 81 (f := .free "bool") rfl)), (free_ok X G (c1.fact 82 (f := .free "str") rfl)), (free_ok X G (c1.fact 83 (f := .free "isinstance") rfl))⟩
  have KC : KCls K (ga K "Kinds") := ⟨cls_ok (c1.fact 88 (f := .cls "Kinds") rfl), noat_ok (c1.fact 90 (f := .noat "Kinds" "letters") rfl), noat_ok (c1.fact 91 (f := .noat "Kinds" "name") rfl), noat_ok (c1.fact 92 (f := .noat "Kinds" "level") rfl), noat_ok (c1.fact 93 (f := .noat "Kinds" "words") rfl), noat_ok (c1.fact 94 (f := .noat "Kinds" "steps") rfl), noat_ok (c1.fact 95 (f := .noat "Kinds" "layers") rfl)⟩
  have MK : Mk K (ga K "Kinds") (ma K (ga K "Kinds") "__init__") := mkr_ok (c1.fact 89 (f := .mkr "Kinds") rfl)
  have mgK : mg "Kinds" = some (.ref (ga K "Kinds")) := (glo_ok X G (c1.fact 67 (f := .glo "Kinds") rfl))
  have M_len : Meth K (ga K "Kinds") "__len__" (ma K (ga K "Kinds") "__len__") := meth_ok (c1.fact 96 (f := .meth "Kinds" "__len__") rfl)
  have M_kind_of : Meth K (ga K "Kinds") "kind_of" (ma K (ga K "Kinds") "kind_of") := meth_ok (c1.fact 97 (f := .meth "Kinds" "kind_of") rfl)
  have M_product : Meth K (ga K "Kinds") "product" (ma K (ga K "Kinds") "product") := meth_ok (c1.fact 98 (f := .meth "Kinds" "product") rfl)
  obtain ⟨tM, hmost⟩ := int_ok X G (c1.fact 86 (f := .int "MOST" 200) rfl)
  obtain ⟨tH, hhigh⟩ := int_ok X G (c1.fact 87 (f := .int "HIGHEST" 7) rfl)
  have gSo : mg "SORTS" = some (.ref (ga K "SORTS")) := (glo_ok X G (c1.fact 68 (f := .glo "SORTS") rfl))
  have gAl : mg "ALPHABETS" = some (.ref (ga K "ALPHABETS")) := (glo_ok X G (c1.fact 69 (f := .glo "ALPHABETS") rfl))
  have hSo : ∀ H, SqT K H (ga K "SORTS") sorts5 := fun H => tupB_ok m1 H
  have hAl : ∀ H, SqT K H (ga K "ALPHABETS") alphs := fun H => tupB_ok m2 H
  have top : (R.prog.main.scope.names.lookup ("super" : Str)).isSome = false := by decide +kernel
  have X_BadLetters : ErrX R.prog w K mg "BadLetters" "given" (errC K 1) (fun _ => True) := errX_of (d := e_BadLetters) (glo_ok X G (c1.fact 45 (f := .glo "BadLetters") rfl)) (free_ok X G (c1.fact 84 (f := .free "super") rfl)) top (eB _ (by simp [er])) (by simp [er]) c.e c.ok rfl rfl rfl (fun _ => rfl) ⟨fun _ _ _ _ _ _ _ _ _ _ _ _ => rfl, by decide, by decide, by decide, by decide, fun _ => rfl⟩ read_const
  have X_BadSort : ErrX R.prog w K mg "BadSort" "name" (errC K 5) (fun _ => True) := errX_of (d := e_BadSort) (glo_ok X G (c1.fact 59 (f := .glo "BadSort") rfl)) (free_ok X G (c1.fact 84 (f := .free "super") rfl)) top (eB _ (by simp [er])) (by simp [er]) c.e c.ok rfl rfl rfl (fun _ => rfl) ⟨fun _ _ _ _ _ _ _ _ _ _ _ _ => rfl, by decide, by decide, by decide, by decide, fun _ => rfl⟩ read_const
  have X_BadNumber : ErrX R.prog w K mg "BadNumber" "number" (errC K 3) (fun _ => True) := errX_of (d := e_BadNumber) (glo_ok X G (c1.fact 47 (f := .glo "BadNumber") rfl)) (free_ok X G (c1.fact 84 (f := .free "super") rfl)) top (eB _ (by simp [er])) (by simp [er]) c.e c.ok rfl rfl rfl (fun _ => rfl) ⟨fun _ _ _ _ _ _ _ _ _ _ _ _ => rfl, by decide, by decide, by decide, by decide, fun _ => rfl⟩ read_const
  have X_TooLarge : ErrX R.prog w K mg "TooLarge" "many" (errC K 20) (fun v => v = .int 201) := errX_of (d := e_TooLarge) (glo_ok X G (c1.fact 49 (f := .glo "TooLarge") rfl)) (free_ok X G (c1.fact 84 (f := .free "super") rfl)) top (eB _ (by simp [er])) (by simp [er]) c.e c.ok rfl rfl rfl (fun _ => rfl) ⟨fun _ _ _ _ _ _ _ _ _ _ _ _ => rfl, by decide, by decide, by decide, by decide, fun _ => rfl⟩ (fun v v' r h => msg_many r h (by decide) (by decide))
  have X_BadWord : ErrX R.prog w K mg "BadWord" "word" (errC K 8) (fun _ => True) := errX_of (d := e_BadWord) (glo_ok X G (c1.fact 46 (f := .glo "BadWord") rfl)) (free_ok X G (c1.fact 84 (f := .free "super") rfl)) top (eB _ (by simp [er])) (by simp [er]) c.e c.ok rfl rfl rfl (fun _ => rfl) ⟨fun _ _ _ _ _ _ _ _ _ _ _ _ => rfl, by decide, by decide, by decide, by decide, fun _ => rfl⟩ read_const
  have X_NoElement : ErrX R.prog w K mg "NoElement" "number" (errC K 11) (fun _ => True) := errX_of (d := e_NoElement) (glo_ok X G (c1.fact 57 (f := .glo "NoElement") rfl)) (free_ok X G (c1.fact 84 (f := .free "super") rfl)) top (eB _ (by simp [er])) (by simp [er]) c.e c.ok rfl rfl rfl (fun _ => rfl) ⟨fun _ _ _ _ _ _ _ _ _ _ _ _ => rfl, by decide, by decide, by decide, by decide, fun _ => rfl⟩ read_const
  have Er : Errs K mg (errC K) (ga K "NocountersError") := ⟨(glo_ok X G (c1.fact 64 (f := .glo "BadDeed") rfl)), (glo_ok X G (c1.fact 45 (f := .glo "BadLetters") rfl)), (glo_ok X G (c1.fact 60 (f := .glo "BadName") rfl)), (glo_ok X G (c1.fact 47 (f := .glo "BadNumber") rfl)), (glo_ok X G (c1.fact 52 (f := .glo "BadRow") rfl)), (glo_ok X G (c1.fact 59 (f := .glo "BadSort") rfl)), (glo_ok X G (c1.fact 51 (f := .glo "BadState") rfl)), (glo_ok X G (c1.fact 50 (f := .glo "BadText") rfl)), (glo_ok X G (c1.fact 46 (f := .glo "BadWord") rfl)), (glo_ok X G (c1.fact 55 (f := .glo "Free") rfl)), (glo_ok X G (c1.fact 53 (f := .glo "Future") rfl)), (glo_ok X G (c1.fact 57 (f := .glo "NoElement") rfl)), (glo_ok X G (c1.fact 58 (f := .glo "NoMember") rfl)), (glo_ok X G (c1.fact 61 (f := .glo "NoName") rfl)), (glo_ok X G (c1.fact 56 (f := .glo "NoneThere") rfl)), (glo_ok X G (c1.fact 63 (f := .glo "NothingThere") rfl)), (glo_ok X G (c1.fact 48 (f := .glo "OtherLetters") rfl)), (glo_ok X G (c1.fact 54 (f := .glo "Past") rfl)), (glo_ok X G (c1.fact 65 (f := .glo "Refused") rfl)), (glo_ok X G (c1.fact 62 (f := .glo "SameName") rfl)), (glo_ok X G (c1.fact 49 (f := .glo "TooLarge") rfl)), (glo_ok X G (c1.fact 66 (f := .glo "Untrue") rfl)), (glo_ok X G (c1.fact 44 (f := .glo "NocountersError") rfl)), (free_ok X G (c1.fact 85 (f := .free "ValueError") rfl))⟩
  have O : ∀ j, j ∈ [1, 5, 3, 20, 8, 11] → OfErr K (errC K) (ga K "NocountersError") (errC K j) j := fun j hj => ofErrB_ok (oB j hj)
  let cs : List (Addr × Addr) := [cT K ("layer_above", none), cT K ("flat_layer", none)]
  let TT : List NTab := [((cT K ("layer_above", none)).2, nmL), ((cT K ("flat_layer", none)).2, nmFl)]
  have hcs : ∀ p ∈ cs, ∃ d ∈ tf, p = cT K d := fun p hp => by
    simp only [cs, List.mem_cons, List.not_mem_nil, or_false] at hp
    rcases hp with rfl | rfl
    · exact ⟨_, List.mem_cons_self, rfl⟩
    · exact ⟨_, List.mem_cons_of_mem _ List.mem_cons_self, rfl⟩
  have b := FunD.bindsA (ps := ["script"]) D_law fun _ _ _ _ _ _ us hl => match us, hl with | [_], _ => rfl
  refine ⟨fd_law, cs, spLaw TT K, fun p hp => ?_, fun p hp => ?_, fun p hp => ?_, fun s u => b s [u] rfl, fun H a ns hl _ hH hS => ⟨a, ns, rfl, hS, by omega, fun z hz => ?_, fun _ => rfl⟩, fun base KB GB TB => ?_⟩
  · obtain ⟨d, hd, rfl⟩ := hcs p hp
    exact c.x.empty d hd
  · obtain ⟨d, hd, rfl⟩ := hcs p hp
    exact c.x.out d hd
  · obtain ⟨d, hd, rfl⟩ := hcs p hp
    exact PySem.W.codeHd_of_K X (c.x.hd d hd)
  · simp only [TT, List.mem_cons, List.not_mem_nil, or_false] at hz
    rcases hz with rfl | rfl
    · exact TabN.nil (hH _ List.mem_cons_self)
    · exact TabN.nil (hH _ (List.mem_cons_of_mem _ List.mem_cons_self))
  have TBl := TB _ (show cT K ("layer_above", none) ∈ cs from List.mem_cons_self)
  have TBf := TB _ (show cT K ("flat_layer", none) ∈ cs from List.mem_cons_of_mem _ List.mem_cons_self)
  -- the program
  have G_rank := fun B => ok_rank (P := R.prog) (w := w) (base := B) (k := 0) F_rank_items T
  have G_since := fun B => ok_since (P := R.prog) (w := w) (base := B) (k := 0) F_since_items T
  have G_once := fun B => ok_once (P := R.prog) (w := w) (base := B) (k := 0) F_once_items T
  have G_last := fun B => ok_last (P := R.prog) (w := w) (base := B) (k := 0) F_last_letters T
  have G_pieces := fun B => ok_pieces (P := R.prog) (w := w) (base := B) (k := 0) F_longer_pieces T
  have G_met := ok_met (P := R.prog) (w := w) (k := 2) F_met T X_TooLarge rfl
  have G_layer := ok_layer (base := base) (TT := TT) (k := 1) (funC_of (p := ("layer_above", none)) D_layer_above) T hmost TBl List.mem_cons_self (fun p hp e => by
    simp only [TT, List.mem_cons, List.not_mem_nil, or_false] at hp
    rcases hp with rfl | rfl
    · rfl
    · exact absurd e.symm tne) G_met c_met G_rank c_rank_items G_since c_since_items G_once c_once_items
  have G_flat := ok_flat (base := base) (TT := TT) (k := 1) (funC_of (p := ("flat_layer", none)) D_flat_layer) T hmost TBf (List.mem_cons_of_mem _ List.mem_cons_self) (fun p hp e => by
    simp only [TT, List.mem_cons, List.not_mem_nil, or_false] at hp
    rcases hp with rfl | rfl
    · exact absurd e tne
    · rfl) G_met c_met G_last c_last_letters G_pieces c_longer_pieces
  have G_kinds := ok_kinds F_kind_layers T G_flat c_flat_layer G_layer c_layer_above
  have G_reached := ok_reached (P := R.prog) (w := w) (mg := mg) (base := base) (k := 3) F_reached T
  have G_first := ok_first F_first_words T G_reached c_reached
  have G_chkL := ok_chkL (P := R.prog) (w := w) (base := base) (k := 4) F_check_letters gAl hAl X_BadLetters (fun _ => trivial)
  have G_chkS := ok_chkS (P := R.prog) (w := w) (base := base) (k := 4) F_check_sight gSo hSo hhigh X_BadSort (fun _ => trivial) X_BadNumber (fun _ => trivial)
  have G_init := ok_init F_Kinds__init T KC G_chkL c_check_letters G_chkS c_check_sight G_kinds c_kind_layers G_first c_first_words
  have G_isw := ok_isword (P := R.prog) (w := w) (mg := mg) (base := base) (k := 0) F_is_word
  have G_walk := ok_walk (P := R.prog) (w := w) (mg := mg) (base := base) (k := 0) F_walk
  have G_kindOf := ok_kindOf F_Kinds_kind_of T KC X_BadWord (fun _ => trivial) G_isw c_is_word G_walk c_walk
  have G_prod := ok_prod F_Kinds_product T KC X_NoElement (fun _ => trivial) G_walk c_walk
  have G_len := ok_lenM (P := R.prog) (w := w) (mg := mg) (base := base) (k := 0) F_Kinds__len T KC
  -- the law's own
  have G_mixed := ok_mixed (P := R.prog) (w := w) (mg := mg) (base := base) (k := 0) F_law_mixed T
  have G_draw := ok_draw F_law_draw T G_mixed c_law_mixed
  have G_open := ok_open (P := R.prog) (w := w) (mg := mg) (base := base) (k := 0) F_law_open T
  have G_sign := ok_sign F_law_sign T G_draw c_law_draw
  have G_word := ok_word F_law_word T G_draw c_law_draw
  have G_sight := ok_sight F_law_sight T G_draw c_law_draw
  have G_oddS := ok_oddS F_law_odd_sort T (G_draw.mono (k := 3) (by decide)) c_law_draw G_sign c_law_sign
  have G_plain := ok_plain (P := R.prog) (w := w) (mg := mg) (base := base) (k := 0) F_law_plain T
  have G_same := ok_same F_law_same T c_law_same G_plain c_law_plain 3
  have G_fault := fun k => ok_fault (P := R.prog) (w := w) (k := k) F_law_fault T Er
  have G_kTold := ok_kTold F_law_kind_told T KC X_BadWord (O 8 (by decide)) M_kind_of b_Kinds_kind_of G_kindOf (G_fault 1) c_law_fault x8
  have G_join := ok_join F_law_joined T KC X_NoElement (O 11 (by decide)) M_product b_Kinds_product G_prod (G_fault 1) c_law_fault x11
  have o4 : ∀ j, j = 1 ∨ j = 5 ∨ j = 3 ∨ j = 20 → OfErr K (errC K) (ga K "NocountersError") (errC K j) j := fun j hj => O j (by rcases hj with rfl | rfl | rfl | rfl <;> decide)
  have o5 : ∀ i j, (i = 1 ∨ i = 5 ∨ i = 3 ∨ i = 20) → (j = 1 ∨ j = 5 ∨ j = 3 ∨ j = 20) → PySem.W.exmOne K (.ref (errC K i)) (.ref (errC K j)) = some (decide (i = j)) := fun i j hi hj => xB i (by rcases hi with rfl | rfl | rfl | rfl <;> decide) j (by rcases hj with rfl | rfl | rfl | rfl <;> decide)
  have G_ref := ok_ref F_law_refused T X_BadLetters X_BadSort X_BadNumber X_TooLarge o4 o5 MK mgK b_Kinds__init G_init (G_fault 6) c_law_fault
  have G_fits := ok_fits (k := 4) F_law_fits T KC G_same c_law_same M_len b_Kinds__len (G_len.mono (k := 4) (by decide))
  have G_refus := ok_refus (k := 8) F_law_refusals T (G_draw.mono (k := 8) (by decide)) c_law_draw (G_oddS.mono (k := 8) (by decide)) c_law_odd_sort (G_same.mono (k := 8) (by decide)) c_law_same G_ref c_law_refused
  have G_lwalk := ok_lwalk (P := R.prog) (w := w) (mg := mg) (base := base) (k := 0) F_law_walk
  have G_long := ok_long (k := 5) F_law_long_kept T (G_draw.mono (k := 5) (by decide)) c_law_draw (G_word.mono (k := 5) (by decide)) c_law_word (G_lwalk.mono (k := 5) (by decide)) c_law_walk (G_kTold.mono (k := 5) (by decide)) c_law_kind_told (G_same.mono (k := 5) (by decide)) c_law_same
  have G_pcs := ok_pcs (P := R.prog) (w := w) (mg := mg) (base := base) (k := 0) F_law_pieces T
  have G_num := ok_num (P := R.prog) (w := w) (base := base) (k := 0) F_law_items F_law_number T c_law_items c_law_number 7
  have G_kind := ok_kind (k := 15) F_law_kind T (G_num.mono (k := 15) (by decide)) c_law_number (G_pcs.mono (k := 15) (by decide)) c_law_pieces
  have G_table := ok_table F_law_table T G_kind c_law_kind
  have G_chain := ok_chain (P := R.prog) (w := w) (mg := mg) (base := base) (k := 0) F_law_chain T
  have G_levels := ok_levels F_law_levels T (G_chain.mono (k := 17) (by decide)) c_law_chain G_table c_law_table
  have G_due := ok_due F_law_due T G_kind c_law_kind (G_lwalk.mono (k := 16) (by decide)) c_law_walk
  have G_wkept := ok_wkept (k := 17) F_law_words_kept T (G_draw.mono (k := 17) (by decide)) c_law_draw (G_word.mono (k := 17) (by decide)) c_law_word (G_kTold.mono (k := 17) (by decide)) c_law_kind_told (G_same.mono (k := 17) (by decide)) c_law_same (G_sign.mono (k := 17) (by decide)) c_law_sign G_due c_law_due
  have G_pkept := ok_pkept (k := 17) F_law_products_kept T (G_draw.mono (k := 17) (by decide)) c_law_draw (G_join.mono (k := 17) (by decide)) c_law_joined (G_same.mono (k := 17) (by decide)) c_law_same G_due c_law_due
  have G_judged := ok_judged (k := 18) F_law_judged (G_fits.mono (k := 18) (by decide)) c_law_fits G_wkept c_law_words_kept G_pkept c_law_products_kept
  exact ok_law (k := 19) (ki := 6) F_law T (G_open.mono (k := 19) (by decide)) c_law_open (G_draw.mono (k := 19) (by decide)) c_law_draw (G_sight.mono (k := 19) (by decide)) c_law_sight (G_levels.mono (k := 19) (by decide)) c_law_levels (G_same.mono (k := 19) (by decide)) c_law_same (G_refus.mono (k := 19) (by decide)) c_law_refusals
    MK mgK b_Kinds__init G_init (by decide) (G_ref.mono (k := 19) (by decide)) c_law_refused G_judged c_law_judged (G_long.mono (k := 19) (by decide)) c_law_long_kept gSo hSo
end K71
end
set_option Elab.async false
set_option linter.all false
set_option maxRecDepth 100000
set_option maxHeartbeats 0
open PySem PySem.W PySem.Calls PyProof.Rows
theorem PySem.Challenge.cw_nocounters_k71_kinds_table_holds : PySem.Challenge.rw_nocounters_k71_kinds_table.Holds := by
  w_on; o_law
  refine HandSHeadRun.head_any (r := OpenLaw.row PySem.Challenge.rw_nocounters_k71_kinds_table) (q := view (OpenLaw.row PySem.Challenge.rw_nocounters_k71_kinds_table).prog [77]) (H := K71.hk) (ob := K71.ob) (M := 20000) (loose := K71.loose) (d := HandSHeadRun.topDef (OpenLaw.row PySem.Challenge.rw_nocounters_k71_kinds_table).prog 77) (kwd := []) K71.ob_eq
    (by kernel_rfl) (fun s => by kernel_rfl) K71.run (by kernel_rfl) (by kernel_rfl) (by kernel_rfl) (by rfl) (by first | assumption | decide +kernel) (by decide +kernel) ⟨rfl, rfl, rfl, rfl, rfl, by decide +kernel⟩ ?hw ?hc
  case hw => w_witness2
  case hc =>
    refine LamX.walk_ofTsE (l := PySem.Challenge.rw_nocounters_k71_kinds_table) (n := 63) (k := 20) (x := "script") (CX := fun _ => L2.CX0) rfl (by decide) (by kernel_rfl) ⟨rfl, by decide, by decide⟩ ?F (fun _ _ _ _ _ z => z)
    intro w mg fa h Y G hmg0
    obtain ⟨K, KX, c⟩ := Y
    have hmg : mg ("law" : PySem.Str) = some (.ref fa) := by
      have e : (HandSHeadRun.topDef (OpenLaw.row PySem.Challenge.rw_nocounters_k71_kinds_table).prog 77).name = ("law" : PySem.Str) := by kernel_rfl
      rw [← e]
      exact hmg0
    exact ⟨K, KX, K71.law_at KX G hmg c⟩
